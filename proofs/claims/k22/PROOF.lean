import PyProof.Rows.All
import Wide.All
import OpenK.AllK
import Wide.FinOn
import HandS.ForMost
import HandS.ForExc
import HandS.Style
import HandS.Wide
import HandS.Flow
import HandS.IsInst
import HandS.Deep
import HandS.More
import HandS.TupLen
import HandS.SortKw
import HandS.SortInts
import HandS.DictComp
import PyProof.Rows.SeqMore
import HandS.HeadHook3
import HandS.ExcIs
import HandS.ExcField
import HandS.FStr
import HandS.Text
import HandS.RaiseMore
import HandS.Zip
import PyProof.StrLoop
import HandS.Conv
import HandS.ExcInit
import HandS.TupSets
import KE.KEqNest
import PySem.Challenge.RW_feastfall_k22_whole_in_and_out_again
set_option Elab.async false
set_option linter.all false
set_option maxRecDepth 100000
namespace DL
open PySem PySem.Spec PyProof.Rows L2
inductive D where
  | non | bl (b : Bool) | int (i : Int) | str (s : Str)
  | tup (ds : List D) | lst (ds : List D)
  | dk (kds : List (L2.Key × D)) | dt (kds : List (List L2.Key × D))
  | obj (C : Str) (ns : List Str) (ds : List D)
  | own (d : D)
  | rf (a : Addr) | fn (x : Str) | lso (ds : List D)
mutual
inductive Rep (K : PySem.W.Frag) (S : Hp) : V → D → Prop
  | non : Rep K S .non .non
  | bl {b : Bool} : Rep K S (.bl b) (.bl b)
  | int {i : Int} : Rep K S (.int i) (.int i)
  | str {s : Str} : Rep K S (.str s) (.str s)
  | tup {a : Addr} {vs : List V} {ds : List D} : S a = some (.tup vs) → Reps K S vs ds → Rep K S (.ref a) (.tup ds)
  | lst {a : Addr} {vs : List V} {ds : List D} : SqL K S a vs → Reps K S vs ds → Rep K S (.ref a) (.lst ds)
  | dk {a : Addr} {kvs : List (L2.Key × V)} {kds : List (L2.Key × D)} : Rd S a (.dK kvs) → kvs.map Prod.fst = kds.map Prod.fst →
      Reps K S (kvs.map Prod.snd) (kds.map Prod.snd) → Rep K S (.ref a) (.dk kds)
  | dt {a : Addr} {kvs : List (List L2.Key × V)} {kds : List (List L2.Key × D)} : S a = some (.dT kvs) → kvs.map Prod.fst = kds.map Prod.fst →
      Reps K S (kvs.map Prod.snd) (kds.map Prod.snd) → Rep K S (.ref a) (.dt kds)
  | obj {a Ca dx : Addr} {C : Str} {kvs : List (Str × V)} {ns : List Str} {ds : List D} : S a = some (.ins Ca dx kvs) → PySem.W.nsIn K mainGlobals C = some (some (.ref Ca)) → kvs.map Prod.fst = ns →
      Reps K S (kvs.map Prod.snd) ds → Rep K S (.ref a) (.obj C ns ds)
  | rf {a : Addr} : Rep K S (.ref a) (.rf a)
  | fn {a : Addr} {x : Str} : PySem.W.nsIn K mainGlobals x = some (some (.ref a)) → Rep K S (.ref a) (.fn x)
inductive Reps (K : PySem.W.Frag) (S : Hp) : List V → List D → Prop
  | nil : Reps K S [] []
  | cons {v : V} {d : D} {vs : List V} {ds : List D} : Rep K S v d → Reps K S vs ds → Reps K S (v :: vs) (d :: ds)
end
section
variable {K : PySem.W.Frag} {S S' H : Hp}
theorem Zup {a : Addr} {u : HO} (e : Same S S') (h : Rd S a u) : Rd S' a u := by
  rcases h with h | ⟨o, h⟩
  · exact .inl (e _ _ h)
  · exact .inr ⟨o, e _ _ h⟩
theorem Z1s {a : Addr} {xs : List V} (e : Same S S') (h : SqT K S a xs) : SqT K S' a xs := by
  rcases h with h | h
  · exact .inl (Zup e h)
  · exact .inr h
theorem Zk6 {a : Addr} {xs : List V} (e : Same S S') (h : SqL K S a xs) : SqL K S' a xs := e.seq h
mutual
theorem Rep.mono (e : Same S S') : ∀ {v : V} {d : D}, Rep K S v d → Rep K S' v d
  | _, _, .non => .non
  | _, _, .bl => .bl
  | _, _, .int => .int
  | _, _, .str => .str
  | _, _, .tup h r => .tup (e _ _ h) (Reps.mono e r)
  | _, _, .lst h r => .lst (Zk6 e h) (Reps.mono e r)
  | _, _, .dk h k r => .dk (Zup e h) k (Reps.mono e r)
  | _, _, .dt h k r => .dt (e _ _ h) k (Reps.mono e r)
  | _, _, .obj h n k r => .obj (e _ _ h) n k (Reps.mono e r)
  | _, _, .rf => .rf
  | _, _, .fn h => .fn h
theorem Reps.mono (e : Same S S') : ∀ {vs : List V} {ds : List D}, Reps K S vs ds → Reps K S' vs ds
  | _, _, .nil => .nil
  | _, _, .cons h r => .cons (Rep.mono e h) (Reps.mono e r)
end
theorem Reps.len : ∀ {vs : List V} {ds : List D}, Reps K S vs ds → vs.length = ds.length
  | _, _, .nil => rfl
  | _, _, .cons _ r => congrArg (· + 1) (Reps.len r)
theorem Reps.get : ∀ {vs : List V} {ds : List D} {i : Nat} {d : D}, Reps K S vs ds → ds[i]? = some d → ∃ v, vs[i]? = some v ∧ Rep K S v d
  | _, _, i, d, .nil, h => by simp at h
  | _, _, 0, d, .cons r _, h => by
    simp at h; subst h
    exact ⟨_, rfl, r⟩
  | _, _, i + 1, d, .cons _ r, h => by
    obtain ⟨v, h1, h2⟩ := Reps.get (i := i) (d := d) r (by simpa using h)
    exact ⟨v, by simpa using h1, h2⟩
theorem Reps.getV : ∀ {vs : List V} {ds : List D} {i : Nat} {v : V}, Reps K S vs ds → vs[i]? = some v → ∃ d, ds[i]? = some d ∧ Rep K S v d
  | _, _, i, d, .nil, h => by simp at h
  | _, _, 0, d, .cons r _, h => by
    simp at h; subst h
    exact ⟨_, rfl, r⟩
  | _, _, i + 1, d, .cons _ r, h => by
    obtain ⟨v, h1, h2⟩ := Reps.getV (i := i) (v := d) r (by simpa using h)
    exact ⟨v, by simpa using h1, h2⟩
theorem Reps.app : ∀ {vs ws : List V} {ds es : List D}, Reps K S vs ds → Reps K S ws es → Reps K S (vs ++ ws) (ds ++ es)
  | _, _, _, _, .nil, r => r
  | _, _, _, _, .cons h t, r => .cons h (Reps.app t r)
theorem Reps.take : ∀ {vs : List V} {ds : List D} (n : Nat), Reps K S vs ds → Reps K S (vs.take n) (ds.take n)
  | _, _, 0, _ => by simpa using Reps.nil
  | _, _, _ + 1, .nil => by simpa using Reps.nil
  | _, _, n + 1, .cons h r => .cons h (Reps.take n r)
theorem Reps.drop : ∀ {vs : List V} {ds : List D} (n : Nat), Reps K S vs ds → Reps K S (vs.drop n) (ds.drop n)
  | _, _, 0, r => r
  | _, _, _ + 1, .nil => .nil
  | _, _, n + 1, .cons _ r => Reps.drop n r
theorem Reps.rev : ∀ {vs : List V} {ds : List D}, Reps K S vs ds → Reps K S vs.reverse ds.reverse
  | _, _, .nil => .nil
  | _, _, .cons h r => by
    rw [List.reverse_cons, List.reverse_cons]
    exact Reps.app (Reps.rev r) (.cons h .nil)
theorem Reps.set : ∀ {vs : List V} {ds : List D} {v : V} {d : D} (i : Nat), Reps K S vs ds → Rep K S v d → Reps K S (vs.set i v) (ds.set i d)
  | _, _, _, _, _, .nil, _ => .nil
  | _, _, _, _, 0, .cons _ r, q => .cons q r
  | _, _, _, _, i + 1, .cons h r, q => .cons h (Reps.set i r q)
theorem Reps.erase : ∀ {vs : List V} {ds : List D} (i : Nat), Reps K S vs ds → Reps K S (vs.eraseIdx i) (ds.eraseIdx i)
  | _, _, _, .nil => .nil
  | _, _, 0, .cons _ r => r
  | _, _, i + 1, .cons h r => .cons h (Reps.erase i r)
theorem Reps.dropLast {vs : List V} {ds : List D} (h : Reps K S vs ds) : Reps K S vs.dropLast ds.dropLast := by
  rw [List.dropLast_eq_take, List.dropLast_eq_take, h.len]
  exact h.take _
theorem Reps.ints : ∀ {vs : List V} {ns : List Int}, Reps K S vs (ns.map D.int) → vs = ns.map V.int
  | _, [], .nil => rfl
  | _, n :: ns, .cons h r => by
    cases h
    rw [Reps.ints r]; rfl
theorem Reps.ofInts : ∀ (ns : List Int), Reps K S (ns.map V.int) (ns.map D.int)
  | [] => .nil
  | _ :: r => .cons .int (Reps.ofInts r)
end
inductive RX where
  | sh (d : D) | ow (d : D) | nd (d : D)
inductive Slot where
  | un | sh (d : D) | ow (d : D) | bo (d : D) | bt (d : D) | lk (a : Addr) (d : D) | lo (a : Addr) (u : HO) (kds : List (L2.Key × D)) | nd (d : D) | nb (d : D) | ln (fp : List Addr) (d : D) | xc (a : Addr) | xe (a dd : Addr) (ns : List (Str × Int)) | na (a : Addr) (d : D) | rt (ms : List (Addr × D)) (x : RX)
def Slot.dat : Slot → Option D
  | .un => none
  | .sh d => some d
  | .ow d => some d
  | .bo d => some d
  | .bt d => some d
  | .lk _ d => some d
  | .lo _ _ kds => some (.dk kds)
  | .nd _ => none
  | .nb _ => none
  | .ln _ _ => none
  | .xc _ => none
  | .xe _ _ _ => none
  | .na _ _ => none
  | .rt _ _ => none
def Slot.env : Slot → Prop
  | .bt _ => False
  | .rt _ _ => False
  | _ => True
def Slot.still : Slot → Prop
  | .sh _ => True
  | .bo _ => True
  | .lk _ _ => True
  | .lo _ _ _ => True
  | .nb _ => True
  | .ln _ _ => True
  | _ => False
structure Fr where
  K : PySem.W.Frag
  mg : Str → Option Value
  H0 : Hp
  S0 : Hp
def KT (o : Option HO) : Prop := ∃ ks : List L2.Key, o = some (.tup (ks.map kV))
structure GS (F : Fr) (S H : Hp) : Prop where
  s0 : Same F.S0 S
  sh : Same S H
  h0 : Same F.H0 H
  fr : ∀ a, S a ≠ none → F.S0 a ≠ none ∨ F.H0 a = none ∨ KT (S a)
def RC (K : PySem.W.Frag) (S : Hp) (o : Option HO) : D → Prop
  | .lst ds => ∃ vs, o = some (.lst vs) ∧ Reps K S vs ds
  | .dk kds => ∃ kvs, o = some (.dK kvs) ∧ kvs.map Prod.fst = kds.map Prod.fst ∧ Reps K S (kvs.map Prod.snd) (kds.map Prod.snd)
  | .dt kds => ∃ kvs, o = some (.dT kvs) ∧ kvs.map Prod.fst = kds.map Prod.fst ∧ Reps K S (kvs.map Prod.snd) (kds.map Prod.snd)
  | _ => False
mutual
inductive RCn (K : PySem.W.Frag) (S H : Hp) : Option HO → D → Prop
  | flat {o : Option HO} {d : D} : RC K S o d → RCn K S H o d
  | tup {vs : List V} {ds : List D} : (∃ b, V.ref b ∈ vs) → Itns K S H vs ds → RCn K S H (some (.tup vs)) (.tup ds)
  | obj {Ca dx : Addr} {C : Str} {kvs : List (Str × V)} {ns : List Str} {ds : List D} : PySem.W.nsIn K mainGlobals C = some (some (.ref Ca)) → kvs.map Prod.fst = ns →
      Itns K S H (kvs.map Prod.snd) ds → RCn K S H (some (.ins Ca dx kvs)) (.obj C ns ds)
  | lso {vs : List V} {ds : List D} : Itns K S H vs ds → RCn K S H (some (.lst vs)) (.lso ds)
inductive Itn (K : PySem.W.Frag) (S H : Hp) : V → D → Prop
  | sh {v : V} {d : D} : Rep K S v d → Itn K S H v d
  | ow {b : Addr} {d : D} : RCn K S H (H b) d → Itn K S H (.ref b) (.own d)
inductive Itns (K : PySem.W.Frag) (S H : Hp) : List V → List D → Prop
  | nil : Itns K S H [] []
  | cons {v : V} {d : D} {vs : List V} {ds : List D} : Itn K S H v d → Itns K S H vs ds → Itns K S H (v :: vs) (d :: ds)
end
mutual
def D.foot (H : Hp) : D → V → List Addr
  | .own d, .ref a => a :: D.inn H d (H a)
  | _, _ => []
def D.inn (H : Hp) : D → Option HO → List Addr
  | .tup ds, some (.tup vs) => D.foots H ds vs
  | .obj _ _ ds, some (.ins _ _ kvs) => D.foots H ds (kvs.map Prod.snd)
  | .lso ds, some (.lst vs) => D.foots H ds vs
  | _, _ => []
def D.foots (H : Hp) : List D → List V → List Addr
  | d :: ds, v :: vs => D.foot H d v ++ D.foots H ds vs
  | _, _ => []
end
abbrev Cell := Slot × Option V
def RL (K : PySem.W.Frag) (S : Hp) (o : Option HO) (kds : List (L2.Key × D)) : Prop := ∃ od kvs, o = some (.frz od (.dK kvs)) ∧ kvs.map Prod.fst = kds.map Prod.fst ∧ Reps K S (kvs.map Prod.snd) (kds.map Prod.snd)
def SC (F : Fr) (S H : Hp) : Cell → Prop
  | (.un, _) => True
  | (.sh d, v) => ∃ u, v = some u ∧ Rep F.K S u d
  | (.ow d, v) => ∃ a, v = some (.ref a) ∧ F.H0 a = none ∧ S a = none ∧ RC F.K S (H a) d
  | (.bo d, v) => ∃ a, v = some (.ref a) ∧ F.H0 a ≠ none ∧ RC F.K S (H a) d
  | (.bt d, v) => ∃ a, v = some (.ref a) ∧ RC F.K S (H a) d
  | (.lk a d, v) => v = some (.ref a) ∧ F.H0 a = none ∧ S a = none ∧ RC F.K S (H a) d
  | (.lo a u kds, v) => v = some (.ref a) ∧ F.H0 a = none ∧ S a = none ∧ H a = some u ∧ RL F.K S (some u) kds
  | (.nd d, v) => ∃ a, v = some (.ref a) ∧ RCn F.K S H (H a) d ∧ (a :: D.inn H d (H a)).Nodup ∧ ∀ b ∈ a :: D.inn H d (H a), F.H0 b = none ∧ S b = none
  | (.nb d, v) => ∃ a, v = some (.ref a) ∧ RCn F.K S H (H a) d ∧ ∀ b ∈ a :: D.inn H d (H a), F.H0 b ≠ none
  | (.ln fp d, v) => ∃ a, v = some (.ref a) ∧ RCn F.K S H (H a) d ∧ fp = a :: D.inn H d (H a) ∧ fp.Nodup ∧ ∀ b ∈ fp, F.H0 b = none ∧ S b = none
  | (.xc a, v) => v = some (.ref a)
  | (.xe a dd ns, v) => v = some (.ref a) ∧ (S dd = some (.xd (ns.map fun p => (p.1, V.int p.2))) ∨ F.H0 dd = some (.xd (ns.map fun p => (p.1, V.int p.2))))
  | (.na a d, v) => v = some (.ref a) ∧ RCn F.K S H (H a) d ∧ (a :: D.inn H d (H a)).Nodup ∧ ∀ b ∈ a :: D.inn H d (H a), F.H0 b = none ∧ S b = none
  | (.rt _ _, _) => False
def Slot.isOw : Slot → Prop
  | .ow _ => True
  | .nd _ => True
  | .na _ _ => True
  | _ => False
def Slot.own : Slot → Prop
  | .ow _ => True
  | .lk _ _ => True
  | .lo _ _ _ => True
  | .nd _ => True
  | .na _ _ => True
  | .ln _ _ => True
  | _ => False
def fpC (H : Hp) : Cell → List Addr
  | (.ow _, some (.ref a)) => [a]
  | (.lk _ _, some (.ref a)) => [a]
  | (.lo _ _ _, some (.ref a)) => [a]
  | (.nd d, some (.ref a)) => a :: D.inn H d (H a)
  | (.na _ d, some (.ref a)) => a :: D.inn H d (H a)
  | (.ln fp _, _) => fp
  | _ => []
def Dj (H : Hp) (p q : Cell) : Prop := ∀ a ∈ fpC H p, a ∉ fpC H q
def Zby (H : Hp) (p q : Cell) : Prop := (p.1.isOw → q.1.own → Dj H p q) ∧ (p.1.own → q.1.isOw → Dj H p q)
def C (F : Fr) (l : List Cell) (H : Hp) : Prop := ∃ S, GS F S H ∧ (∀ p ∈ l, SC F S H p) ∧ l.Pairwise (Zby H)
section
variable {F : Fr} {S S' H H' : Hp} {l l' : List Cell} {p q : Cell}
mutual
theorem Zxd : ∀ (d : D) (v : V), (∀ b ∈ D.foot H d v, H' b = H b) → D.foot H' d v = D.foot H d v
  | .own d, v, h => by
    cases v with
    | ref a =>
      have h1 : H' a = H a := h a (by simp [D.foot])
      have h2 := inn_congr d (H a) fun b hb => h b (by simp [D.foot, hb])
      simp only [D.foot]
      rw [h1, h2]
    | _ => simp [D.foot]
  | .non, v, h => by simp [D.foot]
  | .bl _, v, h => by simp [D.foot]
  | .int _, v, h => by simp [D.foot]
  | .str _, v, h => by simp [D.foot]
  | .tup _, v, h => by simp [D.foot]
  | .lst _, v, h => by simp [D.foot]
  | .dk _, v, h => by simp [D.foot]
  | .dt _, v, h => by simp [D.foot]
  | .obj _ _ _, v, h => by simp [D.foot]
  | .rf _, v, h => by simp [D.foot]
  | .fn _, v, h => by simp [D.foot]
  | .lso _, v, h => by simp [D.foot]
theorem inn_congr : ∀ (d : D) (o : Option HO), (∀ b ∈ D.inn H d o, H' b = H b) → D.inn H' d o = D.inn H d o
  | .tup ds, o, h => by
    cases o with
    | none => simp [D.inn]
    | some u => cases u with
      | tup vs =>
        simp only [D.inn] at h ⊢
        exact foots_congr ds vs h
      | _ => simp [D.inn]
  | .obj _ _ ds, o, h => by
    cases o with
    | none => simp [D.inn]
    | some u => cases u with
      | ins _ _ kvs =>
        simp only [D.inn] at h ⊢
        exact foots_congr ds _ h
      | _ => simp [D.inn]
  | .non, o, h => by simp [D.inn]
  | .bl _, o, h => by simp [D.inn]
  | .int _, o, h => by simp [D.inn]
  | .str _, o, h => by simp [D.inn]
  | .lst _, o, h => by simp [D.inn]
  | .dk _, o, h => by simp [D.inn]
  | .dt _, o, h => by simp [D.inn]
  | .own _, o, h => by simp [D.inn]
  | .rf _, o, h => by simp [D.inn]
  | .fn _, o, h => by simp [D.inn]
  | .lso ds, o, h => by
    cases o with
    | none => simp [D.inn]
    | some u => cases u with
      | lst vs =>
        simp only [D.inn] at h ⊢
        exact foots_congr ds vs h
      | _ => simp [D.inn]
theorem foots_congr : ∀ (ds : List D) (vs : List V), (∀ b ∈ D.foots H ds vs, H' b = H b) → D.foots H' ds vs = D.foots H ds vs
  | [], vs, h => by simp [D.foots]
  | d :: ds, [], h => by simp [D.foots]
  | d :: ds, v :: vs, h => by
    simp only [D.foots] at h ⊢
    rw [Zxd d v fun b hb => h b (List.mem_append_left _ hb), foots_congr ds vs fun b hb => h b (List.mem_append_right _ hb)]
end
theorem RC.mono {K : PySem.W.Frag} {o : Option HO} {d : D} (e : Same S S') (h : RC K S o d) : RC K S' o d := by
  cases d with
  | lst ds => obtain ⟨vs, e1, r⟩ := h; exact ⟨vs, e1, r.mono e⟩
  | dk kds => obtain ⟨vs, e1, k, r⟩ := h; exact ⟨vs, e1, k, r.mono e⟩
  | dt kds => obtain ⟨vs, e1, k, r⟩ := h; exact ⟨vs, e1, k, r.mono e⟩
  | _ => exact h.elim
theorem RC.nn {K : PySem.W.Frag} {o : Option HO} {d : D} (h : RC K S o d) : o ≠ none := by
  cases d with
  | lst ds => obtain ⟨vs, e1, r⟩ := h; rw [e1]; simp
  | dk kds => obtain ⟨vs, e1, k, r⟩ := h; rw [e1]; simp
  | dt kds => obtain ⟨vs, e1, k, r⟩ := h; rw [e1]; simp
  | _ => exact h.elim
theorem RC.inn {K : PySem.W.Frag} {o : Option HO} {d : D} (h : RC K S o d) : D.inn H d o = [] := by
  cases d with
  | lst ds => simp [D.inn]
  | dk kds => simp [D.inn]
  | dt kds => simp [D.inn]
  | _ => exact h.elim
theorem RL.mono {K : PySem.W.Frag} {o : Option HO} {kds : List (L2.Key × D)} (e : Same S S') (h : RL K S o kds) : RL K S' o kds := by
  obtain ⟨od, kvs, e1, k, r⟩ := h
  exact ⟨od, kvs, e1, k, r.mono e⟩
theorem RL.nn {K : PySem.W.Frag} {o : Option HO} {kds : List (L2.Key × D)} (h : RL K S o kds) : o ≠ none := by
  obtain ⟨od, kvs, e1, k, r⟩ := h
  rw [e1]; simp
theorem rep_foot {K : PySem.W.Frag} {v : V} {d : D} (r : Rep K S v d) : D.foot H d v = [] := by cases r <;> simp [D.foot]
mutual
theorem RCn.mono {K : PySem.W.Frag} (e : Same S S') : ∀ {o : Option HO} {d : D}, RCn K S H o d → (∀ b ∈ D.inn H d o, H' b = H b) → RCn K S' H' o d
  | _, _, .flat r, h => .flat (r.mono e)
  | _, _, .tup x r, h => .tup x (Itns.mono e r (by simpa only [D.inn] using h))
  | _, _, .obj n k r, h => .obj n k (Itns.mono e r (by simpa only [D.inn] using h))
  | _, _, .lso r, h => .lso (Itns.mono e r (by simpa only [D.inn] using h))
theorem Itn.mono {K : PySem.W.Frag} (e : Same S S') : ∀ {v : V} {d : D}, Itn K S H v d → (∀ b ∈ D.foot H d v, H' b = H b) → Itn K S' H' v d
  | _, _, .sh r, h => .sh (r.mono e)
  | .ref b, .own d, .ow r, h => by
    have h1 : H' b = H b := h b (by simp [D.foot])
    have r' : RCn K S' H' (H b) d := RCn.mono e r fun c hc => h c (by simp [D.foot, hc])
    exact .ow (by rw [h1]; exact r')
theorem Itns.mono {K : PySem.W.Frag} (e : Same S S') : ∀ {vs : List V} {ds : List D}, Itns K S H vs ds → (∀ b ∈ D.foots H ds vs, H' b = H b) → Itns K S' H' vs ds
  | _, _, .nil, h => .nil
  | _, _, .cons r q, h => .cons (Itn.mono e r fun b hb => h b (by simp only [D.foots]; exact List.mem_append_left _ hb)) (Itns.mono e q fun b hb => h b (by simp only [D.foots]; exact List.mem_append_right _ hb))
end
theorem RCn.nn {K : PySem.W.Frag} {o : Option HO} {d : D} (h : RCn K S H o d) : o ≠ none := by
  cases h with
  | flat r => exact r.nn
  | tup _ _ => simp
  | obj _ _ _ => simp
  | lso _ => simp
mutual
theorem RCn.dom {K : PySem.W.Frag} : ∀ {o : Option HO} {d : D}, RCn K S H o d → ∀ b ∈ D.inn H d o, H b ≠ none
  | _, _, .flat r, b, h => by rw [r.inn] at h; simp at h
  | _, _, .tup _ r, b, h => Itns.dom r b (by simpa only [D.inn] using h)
  | _, _, .obj n k r, b, h => Itns.dom r b (by simpa only [D.inn] using h)
  | _, _, .lso r, b, h => Itns.dom r b (by simpa only [D.inn] using h)
theorem Itn.dom {K : PySem.W.Frag} : ∀ {v : V} {d : D}, Itn K S H v d → ∀ b ∈ D.foot H d v, H b ≠ none
  | _, _, .sh r, b, h => by rw [rep_foot r] at h; simp at h
  | .ref a, .own d, .ow r, b, h => by
    simp only [D.foot, List.mem_cons] at h
    rcases h with rfl | h
    · exact r.nn
    · exact RCn.dom r b h
theorem Itns.dom {K : PySem.W.Frag} : ∀ {vs : List V} {ds : List D}, Itns K S H vs ds → ∀ b ∈ D.foots H ds vs, H b ≠ none
  | _, _, .nil, b, h => by simp [D.foots] at h
  | _, _, .cons r q, b, h => by
    simp only [D.foots, List.mem_append] at h
    rcases h with h | h
    · exact Itn.dom r b h
    · exact Itns.dom q b h
end
theorem Z61 {vs : List V} (h : ∃ b, V.ref b ∈ vs) : ¬ KT (some (.tup vs)) := fun ⟨ks, e⟩ => by
  obtain ⟨b, hb⟩ := h
  cases e
  obtain ⟨k, _, e⟩ := List.mem_map.mp hb
  cases k <;> cases e
theorem RC.nkt {K : PySem.W.Frag} {o : Option HO} {d : D} (h : RC K S o d) : ¬ KT o := fun ⟨ks, e⟩ => by
  cases d with
  | lst ds => obtain ⟨vs, e1, r⟩ := h; rw [e1] at e; cases e
  | dk kds => obtain ⟨vs, e1, k, r⟩ := h; rw [e1] at e; cases e
  | dt kds => obtain ⟨vs, e1, k, r⟩ := h; rw [e1] at e; cases e
  | _ => exact h.elim
theorem RCn.nkt0 {K : PySem.W.Frag} {o : Option HO} {d : D} (h : RCn K S H o d) : ¬ KT o := by
  cases h with
  | flat r => exact r.nkt
  | tup x _ => exact Z61 x
  | obj _ _ _ => rintro ⟨ks, e⟩; cases e
  | lso _ => rintro ⟨ks, e⟩; cases e
mutual
theorem RCn.nkt {K : PySem.W.Frag} : ∀ {o : Option HO} {d : D}, RCn K S H o d → ∀ b ∈ D.inn H d o, ¬ KT (H b)
  | _, _, .flat r, b, h => by rw [r.inn] at h; simp at h
  | _, _, .tup _ r, b, h => Itns.nkt r b (by simpa only [D.inn] using h)
  | _, _, .obj n k r, b, h => Itns.nkt r b (by simpa only [D.inn] using h)
  | _, _, .lso r, b, h => Itns.nkt r b (by simpa only [D.inn] using h)
theorem Itn.nkt {K : PySem.W.Frag} : ∀ {v : V} {d : D}, Itn K S H v d → ∀ b ∈ D.foot H d v, ¬ KT (H b)
  | _, _, .sh r, b, h => by rw [rep_foot r] at h; simp at h
  | .ref a, .own d, .ow r, b, h => by
    simp only [D.foot, List.mem_cons] at h
    rcases h with rfl | h
    · exact r.nkt0
    · exact RCn.nkt r b h
theorem Itns.nkt {K : PySem.W.Frag} : ∀ {vs : List V} {ds : List D}, Itns K S H vs ds → ∀ b ∈ D.foots H ds vs, ¬ KT (H b)
  | _, _, .nil, b, h => by simp [D.foots] at h
  | _, _, .cons r q, b, h => by
    simp only [D.foots, List.mem_append] at h
    rcases h with h | h
    · exact Itn.nkt r b h
    · exact Itns.nkt q b h
end
theorem RCn.nkt1 {K : PySem.W.Frag} {a : Addr} {d : D} (h : RCn K S H (H a) d) : ∀ b ∈ a :: D.inn H d (H a), ¬ KT (H b) := fun b hb => by
  rcases List.mem_cons.mp hb with rfl | hb
  · exact h.nkt0
  · exact h.nkt b hb
theorem RCn.dom1 {K : PySem.W.Frag} {a : Addr} {d : D} (h : RCn K S H (H a) d) : ∀ b ∈ a :: D.inn H d (H a), H b ≠ none := fun b hb => by
  rcases List.mem_cons.mp hb with rfl | hb
  · exact h.nn
  · exact h.dom b hb
theorem RCn.at {K : PySem.W.Frag} {a : Addr} {d : D} (e : Same S S') (h : RCn K S H (H a) d) (q : ∀ b ∈ a :: D.inn H d (H a), H' b = H b) : RCn K S' H' (H' a) d ∧ D.inn H' d (H' a) = D.inn H d (H a) := by
  rw [q a List.mem_cons_self]
  exact ⟨h.mono e fun b hb => q b (List.mem_cons_of_mem _ hb), inn_congr d _ fun b hb => q b (List.mem_cons_of_mem _ hb)⟩
theorem Dj.symm (h : Dj H p q) : Dj H q p := fun a ha hb => h a hb ha
theorem Zby.symm (h : Zby H p q) : Zby H q p := ⟨fun a b => (h.2 b a).symm, fun a b => (h.1 b a).symm⟩
theorem C.perm (h : C F l H) (e : l.Perm l') : C F l' H := by
  obtain ⟨S, g, a, b⟩ := h
  refine ⟨S, g, fun p hp => a p (e.mem_iff.mpr hp), ?_⟩
  exact (e.pairwise_iff (R := Zby H) (fun h => h.symm)).mp b
theorem C.sub (h : C F l H) (e : l'.Sublist l) : C F l' H := by
  obtain ⟨S, g, a, b⟩ := h
  exact ⟨S, g, fun p hp => a p (e.subset hp), b.sublist e⟩
theorem C.tail (h : C F (p :: l) H) : C F l H := h.sub (List.sublist_cons_self _ _)
theorem C.right {a : List Cell} (h : C F (a ++ l) H) : C F l H := h.sub (List.sublist_append_right _ _)
theorem C.left {a : List Cell} (h : C F (a ++ l) H) : C F a H := h.sub (List.sublist_append_left _ _)
theorem C.swap (h : C F (p :: q :: l) H) : C F (q :: p :: l) H := h.perm (List.Perm.swap _ _ _)
theorem C.front {a : List Cell} (h : C F (a ++ p :: l) H) : C F (p :: (a ++ l)) H := h.perm List.perm_middle
theorem C.back {a : List Cell} (h : C F (p :: (a ++ l)) H) : C F (a ++ p :: l) H := h.perm List.perm_middle.symm
theorem C.same (h : C F l H) : Same F.H0 H := by
  obtain ⟨S, g, _⟩ := h
  exact g.h0
theorem Z2s {x : Slot} (h : x.isOw) : x.own := by cases x <;> first | trivial | exact h.elim
theorem Zbx (hp : ¬ p.1.own) (h : l.Pairwise (Zby H)) : (p :: l).Pairwise (Zby H) := List.pairwise_cons.mpr ⟨fun _ _ => ⟨fun a => (hp (Z2s a)).elim, fun a => (hp a).elim⟩, h⟩
theorem C.put (h : C F l H) (hp : ¬ p.1.own) (hs : ∀ S, GS F S H → (∀ q ∈ l, SC F S H q) → SC F S H p) : C F (p :: l) H := by
  obtain ⟨S, g, a, b⟩ := h
  refine ⟨S, g, fun q hq => ?_, Zbx hp b⟩
  rcases List.mem_cons.mp hq with rfl | hq
  · exact hs S g a
  · exact a q hq
theorem C.int (h : C F l H) (i : Int) : C F ((.sh (.int i), some (.int i)) :: l) H := h.put (fun z => z) fun _ _ _ => ⟨_, rfl, .int⟩
theorem C.bl (h : C F l H) (b : Bool) : C F ((.sh (.bl b), some (.bl b)) :: l) H := h.put (fun z => z) fun _ _ _ => ⟨_, rfl, .bl⟩
theorem C.str (h : C F l H) (s : Str) : C F ((.sh (.str s), some (.str s)) :: l) H := h.put (fun z => z) fun _ _ _ => ⟨_, rfl, .str⟩
theorem C.non (h : C F l H) : C F ((.sh .non, some .non) :: l) H := h.put (fun z => z) fun _ _ _ => ⟨_, rfl, .non⟩
theorem C.un (h : C F l H) (v : Option V) : C F ((.un, v) :: l) H := h.put (fun z => z) fun _ _ _ => trivial
theorem C.dup {d : D} {v : Option V} (h : C F l H) (hm : (.sh d, v) ∈ l) : C F ((.sh d, v) :: l) H := h.put (fun z => z) fun _ _ a => a _ hm
theorem C.dupB {d : D} {v : Option V} (h : C F l H) (hm : (.bo d, v) ∈ l) : C F ((.bo d, v) :: l) H := h.put (fun z => z) fun _ _ a => a _ hm
theorem C.dupN {d : D} {v : Option V} (h : C F l H) (hm : (.nb d, v) ∈ l) : C F ((.nb d, v) :: l) H := h.put (fun z => z) fun _ _ a => a _ hm
theorem C.dupO {x : Slot} {v : Option V} (h : C F l H) (hm : (x, v) ∈ l) (hx : ¬ x.isOw) : C F ((x, v) :: l) H := by
  obtain ⟨S, g, c, b⟩ := h
  refine ⟨S, g, fun q hq => ?_, List.pairwise_cons.mpr ⟨fun q hq => ⟨fun z => (hx z).elim, fun ox oq => ?_⟩, b⟩⟩
  · rcases List.mem_cons.mp hq with rfl | hq
    · exact c _ hm
    · exact c q hq
  · obtain ⟨s, t, rfl⟩ := List.append_of_mem hm
    have b' := (List.perm_middle.pairwise_iff (R := Zby H) (fun h => h.symm)).mp b
    have b1 := (List.pairwise_cons.mp b').1
    have hq' : q ∈ s ++ t := by
      rcases List.mem_append.mp hq with z | z
      · exact List.mem_append_left _ z
      · rcases List.mem_cons.mp z with z | z
        · subst z; exact (hx oq).elim
        · exact List.mem_append_right _ z
    exact (b1 q hq').2 ox oq
theorem C.dupL {a : Addr} {d : D} {v : Option V} (h : C F l H) (hm : (.lk a d, v) ∈ l) : C F ((.lk a d, v) :: l) H := h.dupO hm fun z => z
theorem C.dupK {a : Addr} {u : HO} {d : List (L2.Key × D)} {v : Option V} (h : C F l H) (hm : (.lo a u d, v) ∈ l) : C F ((.lo a u d, v) :: l) H := h.dupO hm fun z => z
theorem C.look {d : D} {v : Option V} (h : C F l H) (hm : (.ow d, v) ∈ l) : C F ((.bt d, v) :: l) H := h.put (fun z => z) fun _ _ a => by
  obtain ⟨a, e, _, _, r⟩ := a _ hm
  exact ⟨a, e, r⟩
def Zxt : D → Slot
  | .lst ds => .bt (.lst ds)
  | .dk kds => .bt (.dk kds)
  | .dt kds => .bt (.dt kds)
  | _ => .un
theorem Zjy {K : PySem.W.Frag} {S : Hp} {o : Option HO} {d : D} (r : RCn K S H o d) (h : (∃ ds, d = .lst ds) ∨ (∃ ds, d = .dk ds) ∨ ∃ ds, d = .dt ds) : RC K S o d := by
  cases r with
  | flat r => exact r
  | tup _ _ => rcases h with ⟨_, h⟩ | ⟨_, h⟩ | ⟨_, h⟩ <;> cases h
  | obj _ _ _ => rcases h with ⟨_, h⟩ | ⟨_, h⟩ | ⟨_, h⟩ <;> cases h
  | lso _ => rcases h with ⟨_, h⟩ | ⟨_, h⟩ | ⟨_, h⟩ <;> cases h
theorem Zvy {S : Hp} {v : Option V} {d : D} (h : ∃ a, v = some (.ref a) ∧ RCn F.K S H (H a) d) : SC F S H (Zxt d, v) := by
  obtain ⟨a, e, r⟩ := h
  cases d with
  | lst ds => exact ⟨a, e, Zjy r (.inl ⟨_, rfl⟩)⟩
  | dk ds => exact ⟨a, e, Zjy r (.inr (.inl ⟨_, rfl⟩))⟩
  | dt ds => exact ⟨a, e, Zjy r (.inr (.inr ⟨_, rfl⟩))⟩
  | _ => trivial
theorem Zsk (d : D) : ¬ (Zxt d).own := by cases d <;> exact fun z => z
theorem C.lookA {a : Addr} {d : D} {v : Option V} (h : C F l H) (hm : (.na a d, v) ∈ l) : C F ((Zxt d, v) :: l) H := h.put (Zsk d) fun _ _ c => by
  obtain ⟨e, r, _⟩ := c _ hm
  exact Zvy ⟨a, e, r⟩
theorem C.lookD {d : D} {v : Option V} (h : C F l H) (hm : (.nd d, v) ∈ l) : C F ((Zxt d, v) :: l) H := h.put (Zsk d) fun _ _ c => by
  obtain ⟨a, e, r, _⟩ := c _ hm
  exact Zvy ⟨a, e, r⟩
theorem C.val {d : D} {v : Option V} (h : C F ((.sh d, v) :: l) H) : ∃ u, v = some u := by
  obtain ⟨S, g, a, b⟩ := h
  obtain ⟨u, e, _⟩ := a _ List.mem_cons_self
  exact ⟨u, e⟩
theorem GS.new {a : Addr} {o : HO} (g : GS F S H) (ha : H a = none) : GS F (upd S a o) (upd H a o) := by
  have hS : S a = none := g.sh.free ha
  have h0 : F.H0 a = none := g.h0.free ha
  refine ⟨fun b u e => ?_, fun b u e => ?_, fun b u e => ?_, fun b e => ?_⟩
  · rw [upd_ne (ne_of_none (g.s0 b u e) hS)]; exact g.s0 b u e
  · by_cases hb : b = a
    · subst hb; rw [upd_same] at e ⊢; exact e
    · rw [upd_ne hb] at e ⊢; exact g.sh b u e
  · rw [upd_ne (ne_of_none (g.h0 b u e) ha)]; exact g.h0 b u e
  · by_cases hb : b = a
    · subst hb; exact .inr (.inl h0)
    · rw [upd_ne hb] at e ⊢; exact g.fr b e
theorem Za9 {a : Addr} {o : HO} (ha : H a = none) : Same H (upd H a o) := fun b u e => by
  rw [upd_ne (ne_of_none e ha)]; exact e
theorem Zh3 {b : Addr} (e : Same H H') (h : H b ≠ none) : H' b = H b := by
  cases q : H b with
  | none => exact (h q).elim
  | some o => exact e b o q
theorem SC.keep (s : SC F S H p) (e : Same S S') (ho : ∀ a, H a ≠ none → (F.H0 a ≠ none → H' a = H a)) (hp : ∀ a ∈ fpC H p, H' a = H a) (n : ∀ a ∈ fpC H p, S' a = none) (ht : p.1.env) : SC F S' H' p := by
  obtain ⟨x, v⟩ := p
  cases x with
  | un => trivial
  | sh d => obtain ⟨u, e1, r⟩ := s; exact ⟨u, e1, r.mono e⟩
  | ow d =>
    obtain ⟨a, rfl, h0, hS, r⟩ := s
    have m : a ∈ fpC H (Slot.ow d, some (V.ref a)) := by simp [fpC]
    exact ⟨a, rfl, h0, n a m, by rw [hp a m]; exact r.mono e⟩
  | bo d => obtain ⟨a, e1, h0, r⟩ := s; exact ⟨a, e1, h0, by rw [ho a r.nn h0]; exact r.mono e⟩
  | bt d => exact ht.elim
  | lk a d =>
    obtain ⟨rfl, h0, hS, r⟩ := s
    have m : a ∈ fpC H (Slot.lk a d, some (V.ref a)) := by simp [fpC]
    exact ⟨rfl, h0, n a m, by rw [hp a m]; exact r.mono e⟩
  | lo a u d =>
    obtain ⟨rfl, h0, hS, eu, r⟩ := s
    have m : a ∈ fpC H (Slot.lo a u d, some (V.ref a)) := by simp [fpC]
    exact ⟨rfl, h0, n a m, by rw [hp a m]; exact eu, r.mono e⟩
  | nd d =>
    obtain ⟨a, rfl, r, nd, q⟩ := s
    have hp : ∀ b ∈ a :: D.inn H d (H a), H' b = H b := hp
    have n : ∀ b ∈ a :: D.inn H d (H a), S' b = none := n
    obtain ⟨r', ei⟩ := r.at e hp
    refine ⟨a, rfl, r', by rw [ei]; exact nd, fun b hb => ?_⟩
    rw [ei] at hb
    exact ⟨(q b hb).1, n b hb⟩
  | nb d =>
    obtain ⟨a, rfl, r, q⟩ := s
    obtain ⟨r', ei⟩ := r.at (H' := H') e fun b hb => ho b (r.dom1 b hb) (q b hb)
    exact ⟨a, rfl, r', fun b hb => by rw [ei] at hb; exact q b hb⟩
  | ln fp d =>
    obtain ⟨a, rfl, r, ef, nd, q⟩ := s
    have hp : ∀ b ∈ fp, H' b = H b := hp
    have n : ∀ b ∈ fp, S' b = none := n
    obtain ⟨r', ei⟩ := r.at e (by rw [← ef]; exact hp)
    exact ⟨a, rfl, r', by rw [ei]; exact ef, nd, fun b hb => ⟨(q b hb).1, n b hb⟩⟩
  | xc a => exact s
  | xe a dd ns => exact ⟨s.1, s.2.elim (fun z => .inl (e _ _ z)) .inr⟩
  | na a d =>
    obtain ⟨rfl, r, nd, q⟩ := s
    have hp : ∀ b ∈ a :: D.inn H d (H a), H' b = H b := hp
    have n : ∀ b ∈ a :: D.inn H d (H a), S' b = none := n
    obtain ⟨r', ei⟩ := r.at e hp
    refine ⟨rfl, r', by rw [ei]; exact nd, fun b hb => ?_⟩
    rw [ei] at hb
    exact ⟨(q b hb).1, n b hb⟩
  | rt _ _ => exact ht.elim
theorem Zdf (s : SC F S H p) : ∀ a ∈ fpC H p, H a ≠ none ∧ F.H0 a = none ∧ S a = none := fun a ha => by
  obtain ⟨x, v⟩ := p
  cases x with
  | ow d =>
    obtain ⟨b, rfl, h0, hS, r⟩ := s
    obtain rfl : a = b := by simpa [fpC] using ha
    exact ⟨r.nn, h0, hS⟩
  | lk b d =>
    obtain ⟨rfl, h0, hS, r⟩ := s
    obtain rfl : a = b := by simpa [fpC] using ha
    exact ⟨r.nn, h0, hS⟩
  | lo b u d =>
    obtain ⟨rfl, h0, hS, eu, r⟩ := s
    obtain rfl : a = b := by simpa [fpC] using ha
    exact ⟨by rw [eu]; simp, h0, hS⟩
  | nd d =>
    obtain ⟨b, rfl, r, nd, q⟩ := s
    exact ⟨r.dom1 a ha, q a ha⟩
  | na _ d =>
    obtain ⟨rfl, r, nd, q⟩ := s
    exact ⟨r.dom1 a ha, q a ha⟩
  | ln fp d =>
    obtain ⟨b, rfl, r, ef, nd, q⟩ := s
    have ha : a ∈ fp := ha
    exact ⟨r.dom1 a (ef ▸ ha), q a ha⟩
  | _ => simp [fpC] at ha
theorem Zzk (s : SC F S H p) : ∀ a ∈ fpC H p, ¬ KT (H a) := fun a ha => by
  obtain ⟨x, v⟩ := p
  cases x with
  | ow d =>
    obtain ⟨b, rfl, h0, hS, r⟩ := s
    obtain rfl : a = b := by simpa [fpC] using ha
    exact r.nkt
  | lk b d =>
    obtain ⟨rfl, h0, hS, r⟩ := s
    obtain rfl : a = b := by simpa [fpC] using ha
    exact r.nkt
  | lo b u d =>
    obtain ⟨rfl, h0, hS, eu, od, kvs, e1, _⟩ := s
    obtain rfl : a = b := by simpa [fpC] using ha
    rintro ⟨ks, e⟩
    rw [eu, e1] at e
    cases e
  | nd d =>
    obtain ⟨b, rfl, r, nd, q⟩ := s
    exact r.nkt1 a ha
  | na _ d =>
    obtain ⟨rfl, r, nd, q⟩ := s
    exact r.nkt1 a ha
  | ln fp d =>
    obtain ⟨b, rfl, r, ef, nd, q⟩ := s
    have ha : a ∈ fp := ha
    exact r.nkt1 a (ef ▸ ha)
  | _ => simp [fpC] at ha
theorem Zed (h : ∀ a ∈ fpC H p, H' a = H a) : fpC H' p = fpC H p := by
  obtain ⟨x, v⟩ := p
  cases x with
  | nd d =>
    cases v with
    | none => rfl
    | some v =>
      cases v with
      | ref a =>
        have h : ∀ b ∈ a :: D.inn H d (H a), H' b = H b := h
        show a :: D.inn H' d (H' a) = a :: D.inn H d (H a)
        rw [h a List.mem_cons_self, inn_congr d _ fun b hb => h b (List.mem_cons_of_mem _ hb)]
      | _ => rfl
  | na _ d =>
    cases v with
    | none => rfl
    | some v =>
      cases v with
      | ref a =>
        have h : ∀ b ∈ a :: D.inn H d (H a), H' b = H b := h
        show a :: D.inn H' d (H' a) = a :: D.inn H d (H a)
        rw [h a List.mem_cons_self, inn_congr d _ fun b hb => h b (List.mem_cons_of_mem _ hb)]
      | _ => rfl
  | ow d => cases v with
    | none => rfl
    | some v => cases v <;> rfl
  | lk b d => cases v with
    | none => rfl
    | some v => cases v <;> rfl
  | lo b u d => cases v with
    | none => rfl
    | some v => cases v <;> rfl
  | _ => rfl
theorem Zh2 (s : SC F S H p) (e : Same H H') : fpC H' p = fpC H p := Zed fun a ha => Zh3 e (Zdf s a ha).1
theorem Zby.grow (h : Zby H p q) (s : SC F S H p) (t : SC F S H q) (e : Same H H') : Zby H' p q := by
  unfold Zby Dj at h ⊢
  rw [Zh2 s e, Zh2 t e]
  exact h
theorem Zi0 {l : List Cell} (h : l.Pairwise (Zby H)) (c : ∀ p ∈ l, SC F S H p) (e : Same H H') : l.Pairwise (Zby H') := by
  induction h with
  | nil => exact .nil
  | cons h1 h2 ih => exact .cons (fun q hq => (h1 q hq).grow (c _ List.mem_cons_self) (c q (List.mem_cons_of_mem _ hq)) e) (ih fun p hp => c p (List.mem_cons_of_mem _ hp))
theorem GS.kt_old {a : Addr} (g : GS F S H) (z : KT (S a)) : F.H0 a = none ∨ KT (F.H0 a) := by
  obtain ⟨ks, e⟩ := z
  cases q : F.H0 a with
  | none => exact .inl rfl
  | some o =>
    have e1 := g.h0 a o q
    rw [g.sh a _ e] at e1
    cases e1
    exact .inr ⟨ks, rfl⟩
theorem SC.grow (s : SC F S H p) (e : Same S S') (e2 : Same H H') (n : ∀ a, S' a ≠ none → S a ≠ none ∨ H a = none ∨ KT (H a)) : SC F S' H' p := by
  by_cases ht : p.1.env
  · refine s.keep e (fun a ha _ => Zh3 e2 ha) (fun a ha => Zh3 e2 (Zdf s a ha).1) (fun a ha => ?_) ht
    obtain ⟨h1, _, h3⟩ := Zdf s a ha
    cases q : S' a with
    | none => rfl
    | some o =>
      rcases n a (by rw [q]; simp) with z | z | z
      · exact (z h3).elim
      · exact (h1 z).elim
      · exact (Zzk s a ha z).elim
  · obtain ⟨x, v⟩ := p
    cases x with
    | bt d => obtain ⟨a, e1, r⟩ := s; exact ⟨a, e1, by rw [Zh3 e2 r.nn]; exact r.mono e⟩
    | rt _ _ => exact s.elim
    | _ => exact (ht trivial).elim
theorem Zop {a : Addr} {d : D} (ha : H a = none) (c : SC F S H q) : Zby H (.ow d, some (.ref a)) q := by
  have key : Dj H (.ow d, some (.ref a)) q := fun b hb hq => by
    obtain rfl : b = a := by simpa [fpC] using hb
    exact (Zdf c _ hq).1 ha
  exact ⟨fun _ _ => key, fun _ _ => key⟩
theorem C.newSh {a : Addr} {o : HO} {d : D} (h : C F l H) (ha : H a = none) (hr : ∀ S, GS F S H → (∀ q ∈ l, SC F S H q) → Rep F.K (upd S a o) (.ref a) d) : C F ((.sh d, some (.ref a)) :: l) (upd H a o) := by
  obtain ⟨S, g, c, b⟩ := h
  have hS : S a = none := g.sh.free ha
  refine ⟨upd S a o, g.new ha, fun q hq => ?_, Zbx (fun z => z) (Zi0 b c (Za9 ha))⟩
  rcases List.mem_cons.mp hq with rfl | hq
  · exact ⟨_, rfl, hr S g c⟩
  · refine (c q hq).grow (Za9 hS) (Za9 ha) fun b hb => ?_
    by_cases e : b = a
    · subst e; exact .inr (.inl ha)
    · rw [upd_ne e] at hb; exact .inl hb
theorem C.newOw {a : Addr} {o : HO} {d : D} (h : C F l H) (ha : H a = none) (hr : ∀ S, GS F S H → (∀ q ∈ l, SC F S H q) → RC F.K S (some o) d) : C F ((.ow d, some (.ref a)) :: l) (upd H a o) := by
  obtain ⟨S, g, c, b⟩ := h
  have hS : S a = none := g.sh.free ha
  have g' : GS F S (upd H a o) := ⟨g.s0, g.sh.trans (Za9 ha), g.h0.trans (Za9 ha), g.fr⟩
  have b' := Zi0 b c (Za9 (o := o) ha)
  refine ⟨S, g', fun q hq => ?_, List.pairwise_cons.mpr ⟨fun q hq => ?_, b'⟩⟩
  · rcases List.mem_cons.mp hq with rfl | hq
    · exact ⟨a, rfl, g.h0.free ha, hS, by rw [upd_same]; exact hr S g c⟩
    · exact (c q hq).grow (Same.refl S) (Za9 ha) fun b hb => .inl hb
  · have ap := Zop (d := d) ha (c q hq)
    unfold Zby Dj at ap ⊢
    rw [Zh2 (c q hq) (Za9 ha)]
    exact ap
theorem RC.rep {K : PySem.W.Frag} {a : Addr} {o : HO} {d : D} (h : RC K S (some o) d) (ha : S a = none) : Rep K (upd S a o) (.ref a) d := by
  have m : Same S (upd S a o) := Za9 ha
  cases d with
  | lst ds => obtain ⟨vs, e1, r⟩ := h; cases e1; exact .lst (SqL.of upd_same) (r.mono m)
  | dk kds => obtain ⟨vs, e1, k, r⟩ := h; cases e1; exact .dk (.inl upd_same) k (r.mono m)
  | dt kds => obtain ⟨vs, e1, k, r⟩ := h; cases e1; exact .dt upd_same k (r.mono m)
  | _ => exact h.elim
theorem GS.frz {a : Addr} {o : HO} (g : GS F S H) (hS : S a = none) (h0 : F.H0 a = none) (q : H a = some o) : GS F (upd S a o) H := by
  refine ⟨g.s0.trans (Za9 hS), fun b u e => ?_, g.h0, fun b e => ?_⟩
  · by_cases hb : b = a
    · subst hb; rw [upd_same] at e; cases e; exact q
    · rw [upd_ne hb] at e; exact g.sh b u e
  · by_cases hb : b = a
    · subst hb; exact .inr (.inl h0)
    · rw [upd_ne hb] at e ⊢; exact g.fr b e
theorem SC.frz {a : Addr} {o : HO} (s : SC F S H p) (hS : S a = none) (ap : a ∉ fpC H p) : SC F (upd S a o) H p := by
  have m : Same S (upd S a o) := Za9 hS
  by_cases ht : p.1.env
  · refine s.keep m (fun _ _ _ => rfl) (fun _ _ => rfl) (fun b hb => ?_) ht
    have ne : b ≠ a := fun z => ap (z ▸ hb)
    rw [upd_ne ne]
    exact (Zdf s b hb).2.2
  · obtain ⟨x, v⟩ := p
    cases x with
    | bt d => obtain ⟨a, e1, r⟩ := s; exact ⟨a, e1, r.mono m⟩
    | rt _ _ => exact s.elim
    | _ => exact (ht trivial).elim
theorem C.frz {d : D} {v : Option V} (h : C F ((.ow d, v) :: l) H) : C F ((.sh d, v) :: l) H := by
  obtain ⟨S, g, c, b⟩ := h
  obtain ⟨a, rfl, h0, hS, r⟩ := c _ List.mem_cons_self
  cases q : H a with
  | none => exact (r.nn q).elim
  | some o =>
    rw [q] at r
    obtain ⟨b1, b2⟩ := List.pairwise_cons.mp b
    refine ⟨upd S a o, g.frz hS h0 q, fun p hp => ?_, Zbx (fun z => z) b2⟩
    rcases List.mem_cons.mp hp with rfl | hp
    · exact ⟨_, rfl, r.rep hS⟩
    · refine (c p (List.mem_cons_of_mem _ hp)).frz hS fun ha => ?_
      have ap := b1 p hp
      by_cases op : p.1.own
      · exact ap.1 trivial op a (by simp [fpC]) ha
      · obtain ⟨x, w⟩ := p
        cases x with
        | ow _ => exact op trivial
        | lk _ _ => exact op trivial
        | lo _ _ _ => exact op trivial
        | nd _ => exact op trivial
        | na _ _ => exact op trivial
        | ln _ _ => exact op trivial
        | _ => simp [fpC] at ha
theorem Zvv (op : ¬ p.1.own) : fpC H p = [] := by
  obtain ⟨x, w⟩ := p
  cases x with
  | ow _ => exact (op trivial).elim
  | lk _ _ => exact (op trivial).elim
  | lo _ _ _ => exact (op trivial).elim
  | nd _ => exact (op trivial).elim
  | na _ _ => exact (op trivial).elim
  | ln _ _ => exact (op trivial).elim
  | _ => rfl
theorem Zby.no {a : Addr} (h : Zby H p q) (hp : p.1.isOw) (ha : a ∈ fpC H p) : a ∉ fpC H q := fun hq => by
  by_cases oq : q.1.own
  · exact h.1 hp oq a ha hq
  · rw [Zvv oq] at hq; simp at hq
theorem Zby.upd {a : Addr} {o : HO} (h : Zby H p q) (hp : a ∉ fpC H p) (hq : a ∉ fpC H q) : Zby (upd H a o) p q := by
  have e1 : fpC (L2.upd H a o) p = fpC H p := Zed fun b hb => upd_ne fun z => hp (z ▸ hb)
  have e2 : fpC (L2.upd H a o) q = fpC H q := Zed fun b hb => upd_ne fun z => hq (z ▸ hb)
  unfold Zby Dj at h ⊢
  rw [e1, e2]
  exact h
theorem Zwn {l : List Cell} {a : Addr} {o : HO} (h : l.Pairwise (Zby H)) (n : ∀ p ∈ l, a ∉ fpC H p) : l.Pairwise (Zby (upd H a o)) := by
  induction h with
  | nil => exact .nil
  | cons h1 h2 ih => exact .cons (fun q hq => (h1 q hq).upd (n _ List.mem_cons_self) (n q (List.mem_cons_of_mem _ hq))) (ih fun p hp => n p (List.mem_cons_of_mem _ hp))
theorem GS.mut {a : Addr} {o : HO} (g : GS F S H) (hS : S a = none) (h0 : F.H0 a = none) : GS F S (upd H a o) :=
  ⟨g.s0, fun b u e => by rw [upd_ne (ne_of_none e hS)]; exact g.sh b u e, fun b u e => by rw [upd_ne (ne_of_none e h0)]; exact g.h0 b u e, g.fr⟩
theorem SC.mut {a : Addr} {o : HO} (s : SC F S H p) (h0 : F.H0 a = none) (n : a ∉ fpC H p) (ht : p.1.env) : SC F S (upd H a o) p :=
  s.keep (Same.refl S) (fun b _ q => upd_ne fun z => q (z ▸ h0)) (fun b hb => upd_ne fun z => n (z ▸ hb)) (fun b hb => (Zdf s b hb).2.2) ht
theorem C.mut {a : Addr} {d : D} (h : C F ((.ow d, some (.ref a)) :: l) H) (nb : ∀ p ∈ l, p.1.env) :
    ∃ S, GS F S H ∧ RC F.K S (H a) d ∧ (∀ p ∈ l, SC F S H p) ∧ ∀ o' d', RC F.K S (some o') d' → C F ((.ow d', some (.ref a)) :: l) (upd H a o') := by
  obtain ⟨S, g, c, b⟩ := h
  obtain ⟨a', e1, h0, hS, r⟩ := c _ List.mem_cons_self
  cases e1
  obtain ⟨b1, b2⟩ := List.pairwise_cons.mp b
  have na : ∀ p ∈ l, a ∉ fpC H p := fun p hp => (b1 p hp).no trivial (by simp [fpC])
  refine ⟨S, g, r, fun p hp => c p (List.mem_cons_of_mem _ hp), fun o' d' r' => ⟨S, g.mut hS h0, fun p hp => ?_, List.pairwise_cons.mpr ⟨fun p hp => ?_, Zwn b2 na⟩⟩⟩
  · rcases List.mem_cons.mp hp with rfl | hp
    · exact ⟨a, rfl, h0, hS, by rw [upd_same]; exact r'⟩
    · exact (c p (List.mem_cons_of_mem _ hp)).mut h0 (na p hp) (nb p hp)
  · have e2 : fpC (upd H a o') p = fpC H p := Zed fun b hb => upd_ne fun z => na p hp (z ▸ hb)
    have key : Dj (upd H a o') (.ow d', some (.ref a)) p := fun b hb hq => by
      obtain rfl : b = a := by simpa [fpC] using hb
      rw [e2] at hq
      exact na p hp hq
    exact ⟨fun _ _ => key, fun _ _ => key⟩
mutual
def D.fz : D → D
  | .own d => d.fz
  | .tup ds => .tup (D.fzs ds)
  | .obj C ns ds => .obj C ns (D.fzs ds)
  | .lso ds => .lst (D.fzs ds)
  | .non => .non
  | .bl b => .bl b
  | .int i => .int i
  | .str s => .str s
  | .lst ds => .lst ds
  | .dk kds => .dk kds
  | .dt kds => .dt kds
  | .rf a => .rf a
  | .fn x => .fn x
def D.fzs : List D → List D
  | [] => []
  | d :: ds => d.fz :: D.fzs ds
end
mutual
theorem Z2o {K : PySem.W.Frag} : ∀ {v : V} {d : D}, Rep K S v d → d.fz = d
  | _, _, .non => by simp [D.fz]
  | _, _, .bl => by simp [D.fz]
  | _, _, .int => by simp [D.fz]
  | _, _, .str => by simp [D.fz]
  | _, _, .tup _ r => by simp [D.fz, reps_fz r]
  | _, _, .lst _ _ => by simp [D.fz]
  | _, _, .dk _ _ _ => by simp [D.fz]
  | _, _, .dt _ _ _ => by simp [D.fz]
  | _, _, .obj _ _ _ r => by simp [D.fz, reps_fz r]
  | _, _, .rf => by simp [D.fz]
  | _, _, .fn _ => by simp [D.fz]
theorem reps_fz {K : PySem.W.Frag} : ∀ {vs : List V} {ds : List D}, Reps K S vs ds → D.fzs ds = ds
  | _, _, .nil => rfl
  | _, _, .cons r q => by simp [D.fzs, Z2o r, reps_fz q]
end
theorem Z7l {K : PySem.W.Frag} {o : Option HO} {d : D} (h : RC K S o d) : d.fz = d := by
  cases d with
  | lst ds => simp [D.fz]
  | dk ds => simp [D.fz]
  | dt ds => simp [D.fz]
  | _ => exact h.elim
mutual
theorem RCn.rep {K : PySem.W.Frag} (m : Same S S') : ∀ {o : Option HO} {d : D}, RCn K S H o d → (∀ c ∈ D.inn H d o, S' c = H c) → ∀ a : Addr, S' a = o → Rep K S' (.ref a) d.fz
  | o, d, .flat r, h, a, e => by
    rw [Z7l r]
    cases d with
    | lst ds => obtain ⟨vs, rfl, r⟩ := r; exact .lst (SqL.of e) (r.mono m)
    | dk kds => obtain ⟨vs, rfl, k, r⟩ := r; exact .dk (.inl e) k (r.mono m)
    | dt kds => obtain ⟨vs, rfl, k, r⟩ := r; exact .dt e k (r.mono m)
    | _ => exact r.elim
  | _, _, .tup _ r, h, a, e => by
    rw [D.fz]
    exact .tup e (Itns.rep m r (by simpa only [D.inn] using h))
  | _, _, .obj n k r, h, a, e => by
    rw [D.fz]
    exact .obj e n k (Itns.rep m r (by simpa only [D.inn] using h))
  | _, _, .lso r, h, a, e => by
    rw [D.fz]
    exact .lst (SqL.of e) (Itns.rep m r (by simpa only [D.inn] using h))
theorem Itn.rep {K : PySem.W.Frag} (m : Same S S') : ∀ {v : V} {d : D}, Itn K S H v d → (∀ c ∈ D.foot H d v, S' c = H c) → Rep K S' v d.fz
  | _, _, .sh r, h => by rw [Z2o r]; exact r.mono m
  | .ref b, .own d, .ow r, h => by
    rw [D.fz]
    exact RCn.rep m r (fun c hc => h c (by simp [D.foot, hc])) b (h b (by simp [D.foot]))
theorem Itns.rep {K : PySem.W.Frag} (m : Same S S') : ∀ {vs : List V} {ds : List D}, Itns K S H vs ds → (∀ c ∈ D.foots H ds vs, S' c = H c) → Reps K S' vs (D.fzs ds)
  | _, _, .nil, h => .nil
  | _, _, .cons r q, h => .cons (Itn.rep m r fun b hb => h b (by simp only [D.foots]; exact List.mem_append_left _ hb)) (Itns.rep m q fun b hb => h b (by simp only [D.foots]; exact List.mem_append_right _ hb))
end
theorem SC.frzS {p : Cell} (s : SC F S H p) (m : Same S S') (n : ∀ b ∈ fpC H p, S' b = none) : SC F S' H p := by
  by_cases ht : p.1.env
  · exact s.keep m (fun _ _ _ => rfl) (fun _ _ => rfl) n ht
  · obtain ⟨x, v⟩ := p
    cases x with
    | bt d => obtain ⟨a, e1, r⟩ := s; exact ⟨a, e1, r.mono m⟩
    | rt _ _ => exact s.elim
    | _ => exact (ht trivial).elim
def addS (S H : Hp) (fp : List Addr) : Hp := open Classical in fun a => if a ∈ fp then H a else S a
theorem Zq3 {fp : List Addr} {a : Addr} (h : a ∈ fp) : addS S H fp a = H a := by simp [addS, h]
theorem Zm6 {fp : List Addr} {a : Addr} (h : a ∉ fp) : addS S H fp a = S a := by simp [addS, h]
theorem Zst {fp : List Addr} (g : Same S H) : Same S (addS S H fp) := fun a u e => by
  by_cases h : a ∈ fp
  · rw [Zq3 h]; exact g a u e
  · rw [Zm6 h]; exact e
theorem GS.add {fp : List Addr} (g : GS F S H) (h : ∀ b ∈ fp, F.H0 b = none) : GS F (addS S H fp) H := by
  refine ⟨g.s0.trans (Zst g.sh), fun b u e => ?_, g.h0, fun b e => ?_⟩
  · by_cases hb : b ∈ fp
    · rw [Zq3 hb] at e; exact e
    · rw [Zm6 hb] at e; exact g.sh b u e
  · by_cases hb : b ∈ fp
    · exact .inr (.inl (h b hb))
    · rw [Zm6 hb] at e ⊢; exact g.fr b e
theorem C.fzN {x : Slot} {d : D} {v : Option V} (h : C F ((x, v) :: l) H) (hx : x = .nd d ∨ ∃ a, x = .na a d) : C F ((.sh d.fz, v) :: l) H := by
  obtain ⟨S, g, c, b⟩ := h
  obtain ⟨b1, b2⟩ := List.pairwise_cons.mp b
  have s := c _ List.mem_cons_self
  have key : ∃ a, v = some (.ref a) ∧ RCn F.K S H (H a) d ∧ fpC H (x, v) = a :: D.inn H d (H a) ∧ (∀ b ∈ a :: D.inn H d (H a), F.H0 b = none ∧ S b = none) ∧ x.isOw := by
    rcases hx with rfl | ⟨a, rfl⟩
    · obtain ⟨a, rfl, r, _, q⟩ := s; exact ⟨a, rfl, r, rfl, q, trivial⟩
    · obtain ⟨rfl, r, _, q⟩ := s; exact ⟨a, rfl, r, rfl, q, trivial⟩
  obtain ⟨a, rfl, r, ef, q, ho⟩ := key
  have m : Same S (addS S H (a :: D.inn H d (H a))) := Zst g.sh
  refine ⟨addS S H (a :: D.inn H d (H a)), g.add fun b hb => (q b hb).1, fun p hp => ?_, Zbx (fun z => z) b2⟩
  rcases List.mem_cons.mp hp with rfl | hp
  · exact ⟨_, rfl, r.rep m (fun c hc => Zq3 (List.mem_cons_of_mem _ hc)) a (Zq3 List.mem_cons_self)⟩
  · have sp := c p (List.mem_cons_of_mem _ hp)
    refine sp.frzS m fun b hb => ?_
    have nb : b ∉ a :: D.inn H d (H a) := fun z => (b1 p hp).no ho (ef ▸ z) hb
    rw [Zm6 nb]
    exact (Zdf sp b hb).2.2
theorem C.seqL {x : Slot} {v : Option V} {ds : List D} (h : C F ((x, v) :: l) H) (hx : x.dat = some (.lst ds)) : ∃ a vs, v = some (.ref a) ∧ SqL F.K H a vs ∧ vs.length = ds.length ∧ ∃ S, GS F S H ∧ Reps F.K S vs ds ∧ (∀ p ∈ (x, v) :: l, SC F S H p) ∧ l.Pairwise (Zby H) := by
  obtain ⟨S, g, c, b⟩ := h
  have b2 := (List.pairwise_cons.mp b).2
  have s := c _ List.mem_cons_self
  cases x with
  | un => cases hx
  | sh d =>
    cases hx
    obtain ⟨u, e, r⟩ := s
    cases r with
    | lst hq r => exact ⟨_, _, e, Zk6 g.sh hq, r.len, S, g, r, c, b2⟩
  | ow d => cases hx; obtain ⟨a, e, _, _, vs, e2, r⟩ := s; exact ⟨a, vs, e, SqL.of e2, r.len, S, g, r, c, b2⟩
  | bo d => cases hx; obtain ⟨a, e, _, vs, e2, r⟩ := s; exact ⟨a, vs, e, SqL.of e2, r.len, S, g, r, c, b2⟩
  | bt d => cases hx; obtain ⟨a, e, vs, e2, r⟩ := s; exact ⟨a, vs, e, SqL.of e2, r.len, S, g, r, c, b2⟩
  | lk a d => cases hx; obtain ⟨e, _, _, vs, e2, r⟩ := s; exact ⟨a, vs, e, SqL.of e2, r.len, S, g, r, c, b2⟩
  | lo a _ d => cases hx
  | nd d => cases hx
  | nb d => cases hx
  | ln fp d => cases hx
  | xc _ => cases hx
  | xe _ _ _ => cases hx
  | na _ _ => cases hx
  | rt _ _ => cases hx
theorem C.seqT {x : Slot} {v : Option V} {ds : List D} (h : C F ((x, v) :: l) H) (hx : x.dat = some (.tup ds)) : ∃ a vs, v = some (.ref a) ∧ SqT F.K H a vs ∧ vs.length = ds.length ∧ ∃ S, GS F S H ∧ Reps F.K S vs ds ∧ (∀ p ∈ (x, v) :: l, SC F S H p) ∧ l.Pairwise (Zby H) := by
  obtain ⟨S, g, c, b⟩ := h
  have b2 := (List.pairwise_cons.mp b).2
  have s := c _ List.mem_cons_self
  cases x with
  | un => cases hx
  | sh d =>
    cases hx
    obtain ⟨u, e, r⟩ := s
    cases r with
    | tup hq r => exact ⟨_, _, e, SqT.of (g.sh _ _ hq), r.len, S, g, r, c, b2⟩
  | ow d => cases hx; obtain ⟨a, e, _, _, r⟩ := s; exact r.elim
  | bo d => cases hx; obtain ⟨a, e, _, r⟩ := s; exact r.elim
  | bt d => cases hx; obtain ⟨a, e, r⟩ := s; exact r.elim
  | lk a d => cases hx; obtain ⟨e, _, _, r⟩ := s; exact r.elim
  | lo a _ d => cases hx
  | nd d => cases hx
  | nb d => cases hx
  | ln fp d => cases hx
  | xc _ => cases hx
  | xe _ _ _ => cases hx
  | na _ _ => cases hx
  | rt _ _ => cases hx
theorem C.shInt {v : Option V} {i : Int} (h : C F ((.sh (.int i), v) :: l) H) : v = some (.int i) := by
  obtain ⟨S, g, c, b⟩ := h
  obtain ⟨u, e, r⟩ := c _ List.mem_cons_self
  cases r; exact e
theorem C.shBl {v : Option V} {i : Bool} (h : C F ((.sh (.bl i), v) :: l) H) : v = some (.bl i) := by
  obtain ⟨S, g, c, b⟩ := h
  obtain ⟨u, e, r⟩ := c _ List.mem_cons_self
  cases r; exact e
theorem C.shStr {v : Option V} {i : Str} (h : C F ((.sh (.str i), v) :: l) H) : v = some (.str i) := by
  obtain ⟨S, g, c, b⟩ := h
  obtain ⟨u, e, r⟩ := c _ List.mem_cons_self
  cases r; exact e
end
section
variable {α β : Type}
theorem Zb6 : ∀ {xs : List α} {ys : List β} {i : Nat} {x : α}, xs.length = ys.length → xs[i]? = some x → ∃ y, ys[i]? = some y ∧ (xs.zip ys)[i]? = some (x, y)
  | [], _, _, _, _, h => by simp at h
  | a :: xs, [], _, _, h, _ => by simp at h
  | a :: xs, b :: ys, 0, x, _, h => by simp at h; subst h; exact ⟨b, rfl, rfl⟩
  | a :: xs, b :: ys, i + 1, x, hl, h => by
    obtain ⟨y, h1, h2⟩ := Zb6 (xs := xs) (ys := ys) (i := i) (x := x) (by simpa using hl) (by simpa using h)
    exact ⟨y, by simpa using h1, by simpa using h2⟩
theorem Zg5 : ∀ {xs : List α} {ys : List β} (i : Nat) (x : α) (y : β), (xs.set i x).zip (ys.set i y) = (xs.zip ys).set i (x, y)
  | [], _, i, x, y => by simp
  | a :: xs, [], i, x, y => by cases i <;> simp
  | a :: xs, b :: ys, 0, x, y => rfl
  | a :: xs, b :: ys, i + 1, x, y => by
    show (a, b) :: (xs.set i x).zip (ys.set i y) = (a, b) :: (xs.zip ys).set i (x, y)
    rw [Zg5]
theorem Zdc : ∀ {l : List α} {i : Nat} {x : α}, l[i]? = some x → l.Perm (x :: l.eraseIdx i)
  | [], _, _, h => by simp at h
  | a :: l, 0, x, h => by simp at h; subst h; exact List.Perm.refl _
  | a :: l, i + 1, x, h => by
    have ih := Zdc (l := l) (i := i) (x := x) (by simpa using h)
    exact (ih.cons a).trans (List.Perm.swap _ _ _)
theorem Zgy : ∀ {l : List α} {i : Nat} {x y : α}, l[i]? = some x → (l.set i y).Perm (y :: l.eraseIdx i)
  | [], _, _, _, h => by simp at h
  | a :: l, 0, x, y, h => List.Perm.refl _
  | a :: l, i + 1, x, y, h => by
    have ih := Zgy (l := l) (i := i) (x := x) (y := y) (by simpa using h)
    exact (ih.cons a).trans (List.Perm.swap _ _ _)
theorem Zbz {l : List α} {i : Nat} {x : α} (h : l[i]? = some x) : x ∈ l := List.mem_of_getElem? h
theorem Ztq {l : List α} {i : Nat} {x : α} (h : x ∈ l.eraseIdx i) : x ∈ l := List.mem_of_mem_eraseIdx h
theorem Zmr {xs : List α} {ys : List β} {p : α × β} (h : p ∈ xs.zip ys) : p.1 ∈ xs := (List.of_mem_zip h).1
end
end DL
set_option Elab.async false
set_option linter.all false
set_option maxRecDepth 100000
set_option maxHeartbeats 4000000
namespace DL
open PySem PySem.Spec PyProof.Rows L2
inductive R (α : Type) where
  | ok (x : α) | ex (c : Str) (fs : List (Str × D))
abbrev En := List Slot
abbrev WE := En → (R Slot → Prop) → Prop
abbrev WA := En → (R (List Slot) → Prop) → Prop
abbrev WI := En → (R (List D) → Prop) → Prop
def rk {α β : Type} (k : α → Prop) (Q : R β → Prop) : R α → Prop
  | .ok x => k x
  | .ex c fs => Q (.ex c fs)
def Mono {α : Type} (w : En → (R α → Prop) → Prop) : Prop := ∀ env Q Q', (∀ r, Q r → Q' r) → w env Q → w env Q'
def XF (H : Hp) (d : Option Addr) (fs : List (Str × D)) : Prop :=
  (fs = [] ∧ d = none) ∨ ∃ (a : Addr) (ns : List (Str × Int)), fs = ns.map (fun p => (p.1, D.int p.2)) ∧ ns ≠ [] ∧ d = some a ∧ H a = some (.xd (ns.map fun p => (p.1, V.int p.2)))
structure CE (F : Fr) (l : List Cell) (env : En) (σ : L2.St) (H : Hp) : Prop where
  len : env.length = σ.length
  ok : ∀ x ∈ env, x.env
  c : C F (l ++ env.zip σ) H
def LEp (F : Fr) (W : WX) (l : List Cell) (env : En) (σ : L2.St) (Q : VK) : R Slot → Prop
  | .ok x => ∀ v H', C F ((x, some v) :: (l ++ env.zip σ)) H' → Q v H'
  | .ex c fs => ∀ A d H', F.mg c = some (.ref A) → XF H' d fs → C F (l ++ env.zip σ) H' → W (.ref A) d σ H'
def LTp (F : Fr) (W : WX) (l : List Cell) (env : En) (σ : L2.St) (Q : Bool → Hp → Prop) : R Slot → Prop
  | .ok x => ∃ b, x = .sh (.bl b) ∧ ∀ H', C F (l ++ env.zip σ) H' → Q b H'
  | .ex c fs => ∀ A d H', F.mg c = some (.ref A) → XF H' d fs → C F (l ++ env.zip σ) H' → W (.ref A) d σ H'
def LAp (F : Fr) (W : WX) (l : List Cell) (env : En) (σ : L2.St) (Q : List V → Hp → Prop) : R (List Slot) → Prop
  | .ok xs => ∀ vs H', vs.length = xs.length → C F (xs.zip (vs.map some) ++ (l ++ env.zip σ)) H' → Q vs H'
  | .ex c fs => ∀ A d H', F.mg c = some (.ref A) → XF H' d fs → C F (l ++ env.zip σ) H' → W (.ref A) d σ H'
def LE (F : Fr) (W : WX) (w : WE) : TE := fun σ H Q => ∃ l env, CE F l env σ H ∧ w env (LEp F W l env σ Q)
def LT (F : Fr) (W : WX) (w : WE) : TT := fun σ H Q => ∃ l env, CE F l env σ H ∧ w env (LTp F W l env σ Q)
def LA (F : Fr) (W : WX) (w : WA) : TA := fun σ H Q => ∃ l env, CE F l env σ H ∧ w env (LAp F W l env σ Q)
structure DE (X : Cx) (F : Fr) (W : WX) (e : Expr) (w : WE) : Prop where
  run : PE X e (LE F W w)
  mono : Mono w
structure DT (X : Cx) (F : Fr) (W : WX) (e : Expr) (w : WE) : Prop where
  run : PT X e (LT F W w)
  mono : Mono w
structure DW (X : Cx) (F : Fr) (W : WX) (e : Expr) (w : WE) : Prop where
  run : PW X e (LT F W w)
  mono : Mono w
structure DA (X : Cx) (F : Fr) (W : WX) (es : List Expr) (w : WA) : Prop where
  run : PA X es (LA F W w)
  mono : Mono w
theorem Zb5 {X : Cx} {e : Expr} {t t' : TE} (h : PE X e t) (q : ∀ σ H Q, t' σ H Q → t σ H Q) : PE X e t' := ⟨fun pins s σ H Q I z => h.run pins s σ H Q I (q _ _ _ z)⟩
theorem Znq {X : Cx} {e : Expr} {t t' : TT} (h : PT X e t) (q : ∀ σ H Q, t' σ H Q → t σ H Q) : PT X e t' := ⟨fun pins s σ H Q I z => h.run pins s σ H Q I (q _ _ _ z)⟩
theorem Zyv {X : Cx} {e : Expr} {t t' : TT} (h : PW X e t) (q : ∀ σ H Q, t' σ H Q → t σ H Q) : PW X e t' := ⟨fun wh pins s σ H Q I z => h.run wh pins s σ H Q I (q _ _ _ z)⟩
theorem Z2v {X : Cx} {es : List Expr} {t t' : TA} (h : PA X es t) (q : ∀ σ H Q, t' σ H Q → t σ H Q) : PA X es t' := ⟨fun pos pins s σ H Q I z => h.run pos pins s σ H Q I (q _ _ _ z)⟩
theorem Zfg {X : Cx} {st : Stmt} {t t' : TS} (h : PS X st t) (q : ∀ D σ H, t' D σ H → t D σ H) : PS X st t' := ⟨fun pins s σ H D I z => h.run pins s σ H D I (q _ _ _ z)⟩
theorem Zu3 {X : Cx} {st : List Stmt} {t t' : TS} (h : PSs X st t) (q : ∀ D σ H, t' D σ H → t D σ H) : PSs X st t' := ⟨fun pins s σ H D I z => h.run pins s σ H D I (q _ _ _ z)⟩
section
variable {X : Cx} {F : Fr} {W : WX} {a b c e : Expr} {es : List Expr} {wa wb wc w : WE} {wA : WA} {pos : Pos}
theorem CE.to {l : List Cell} {env : En} {σ : L2.St} {H H' : Hp} {l' : List Cell} (k : CE F l env σ H) (h : C F (l' ++ (l ++ env.zip σ)) H') : CE F (l' ++ l) env σ H' := ⟨k.len, k.ok, by rw [List.append_assoc]; exact h⟩
theorem CE.to1 {l : List Cell} {env : En} {σ : L2.St} {H H' : Hp} {p : Cell} (k : CE F l env σ H) (h : C F (p :: (l ++ env.zip σ)) H') : CE F (p :: l) env σ H' := ⟨k.len, k.ok, h⟩
theorem CE.at {l : List Cell} {env : En} {σ : L2.St} {H H' : Hp} (k : CE F l env σ H) (h : C F (l ++ env.zip σ) H') : CE F l env σ H' := ⟨k.len, k.ok, h⟩
theorem Zcb {β : Type} {w : WE} {l : List Cell} {env : En} {σ : L2.St} {k : Slot → Prop} {Q : R β → Prop} {Q' : VK} (m : Mono w) (h : w env (rk k Q))
    (h1 : ∀ x, k x → ∀ v H', C F ((x, some v) :: (l ++ env.zip σ)) H' → Q' v H') (h2 : ∀ c fs, Q (.ex c fs) → LEp F W l env σ Q' (.ex c fs)) : w env (LEp F W l env σ Q') :=
  m env _ _ (fun r q => match r, q with
    | .ok x, q => h1 x q
    | .ex c fs, q => h2 c fs q) h
theorem Zbh {α β : Type} {w : En → (R α → Prop) → Prop} (m : Mono w) {k k' : α → Prop} {Q Q' : R β → Prop} {env : En} (hk : ∀ x, k x → k' x) (hq : ∀ r, Q r → Q' r) (h : w env (rk k Q)) : w env (rk k' Q') :=
  m env _ _ (fun r q => match r, q with
    | .ok x, q => hk x q
    | .ex c fs, q => hq _ q) h
def wVar (i : Nat) : WE := fun env Q => match env[i]? with
  | some (.sh d) => Q (.ok (.sh d))
  | some (.bo d) => Q (.ok (.bo d))
  | some (.ow d) => Q (.ok (.bt d))
  | some (.lk a d) => Q (.ok (.lk a d))
  | some (.lo a u d) => Q (.ok (.lo a u d))
  | some (.nb d) => Q (.ok (.nb d))
  | some (.ln fp d) => Q (.ok (.ln fp d))
  | some (.na _ d) => Q (.ok (Zxt d))
  | some (.nd d) => Q (.ok (Zxt d))
  | _ => False
theorem Zad (i : Nat) {x : Str} (hN : X.N[i]? = some x := by rfl) (hv : Vis X.env.scope x := by first | exact Or.inl rfl | exact Or.inr (Or.inl rfl) | exact Or.inr (Or.inr rfl)) (hd : (x == ("__debug__" : Str)) = false := by decide)
    (hcd : (x == ("__classdict__" : Str)) = false := by decide) : DE X F W (.Name x pos) (wVar i) := by
  refine ⟨Zb5 (pe_var hN hv hd hcd) fun σ H Q h => ?_, fun env Q Q' m h => ?_⟩
  · obtain ⟨l, env, k, h⟩ := h
    unfold wVar at h
    split at h
    · rename_i d e
      obtain ⟨v, e1, e2⟩ := Zb6 k.len e
      have hm : (Slot.sh d, v) ∈ l ++ env.zip σ := List.mem_append_right _ (Zbz e2)
      have c1 := k.c.dup hm
      obtain ⟨u, rfl⟩ := c1.val
      exact ⟨u, e1, h u H c1⟩
    · rename_i d e
      obtain ⟨v, e1, e2⟩ := Zb6 k.len e
      have hm : (Slot.bo d, v) ∈ l ++ env.zip σ := List.mem_append_right _ (Zbz e2)
      have c1 := k.c.dupB hm
      obtain ⟨S, g, cc, _⟩ := id c1
      obtain ⟨u, e3, _⟩ := cc _ List.mem_cons_self
      subst e3
      exact ⟨_, e1, h _ H c1⟩
    · rename_i d e
      obtain ⟨v, e1, e2⟩ := Zb6 k.len e
      have hm : (Slot.ow d, v) ∈ l ++ env.zip σ := List.mem_append_right _ (Zbz e2)
      have c1 := k.c.look hm
      obtain ⟨S, g, cc, _⟩ := id c1
      obtain ⟨u, e3, _⟩ := cc _ List.mem_cons_self
      subst e3
      exact ⟨_, e1, h _ H c1⟩
    · rename_i a d e
      obtain ⟨v, e1, e2⟩ := Zb6 k.len e
      have hm : (Slot.lk a d, v) ∈ l ++ env.zip σ := List.mem_append_right _ (Zbz e2)
      have c1 := k.c.dupL hm
      obtain ⟨S, g, cc, _⟩ := id c1
      obtain ⟨e3, _⟩ := cc _ List.mem_cons_self
      subst e3
      exact ⟨_, e1, h _ H c1⟩
    · rename_i a u d e
      obtain ⟨v, e1, e2⟩ := Zb6 k.len e
      have hm : (Slot.lo a u d, v) ∈ l ++ env.zip σ := List.mem_append_right _ (Zbz e2)
      have c1 := k.c.dupK hm
      obtain ⟨S, g, cc, _⟩ := id c1
      obtain ⟨e3, _⟩ := cc _ List.mem_cons_self
      subst e3
      exact ⟨_, e1, h _ H c1⟩
    · rename_i d e
      obtain ⟨v, e1, e2⟩ := Zb6 k.len e
      have hm : (Slot.nb d, v) ∈ l ++ env.zip σ := List.mem_append_right _ (Zbz e2)
      have c1 := k.c.dupN hm
      obtain ⟨S, g, cc, _⟩ := id c1
      obtain ⟨u, e3, _⟩ := cc _ List.mem_cons_self
      subst e3
      exact ⟨_, e1, h _ H c1⟩
    · rename_i fp d e
      obtain ⟨v, e1, e2⟩ := Zb6 k.len e
      have hm : (Slot.ln fp d, v) ∈ l ++ env.zip σ := List.mem_append_right _ (Zbz e2)
      have c1 := k.c.dupO hm fun z => z
      obtain ⟨S, g, cc, _⟩ := id c1
      obtain ⟨u, e3, _⟩ := cc _ List.mem_cons_self
      subst e3
      exact ⟨_, e1, h _ H c1⟩
    · rename_i a d e
      obtain ⟨v, e1, e2⟩ := Zb6 k.len e
      have hm : (Slot.na a d, v) ∈ l ++ env.zip σ := List.mem_append_right _ (Zbz e2)
      have c1 := k.c.lookA hm
      obtain ⟨S, g, cc, _⟩ := id c1
      obtain ⟨e3, _⟩ := cc _ (List.mem_cons_of_mem _ hm)
      subst e3
      exact ⟨_, e1, h _ H c1⟩
    · rename_i d e
      obtain ⟨v, e1, e2⟩ := Zb6 k.len e
      have hm : (Slot.nd d, v) ∈ l ++ env.zip σ := List.mem_append_right _ (Zbz e2)
      have c1 := k.c.lookD hm
      obtain ⟨S, g, cc, _⟩ := id c1
      obtain ⟨u, e3, _⟩ := cc _ (List.mem_cons_of_mem _ hm)
      subst e3
      exact ⟨_, e1, h _ H c1⟩
    · exact h.elim
  · unfold wVar at h ⊢
    split at h
    · exact m _ h
    · exact m _ h
    · exact m _ h
    · exact m _ h
    · exact m _ h
    · exact m _ h
    · exact m _ h
    · exact m _ h
    · exact m _ h
    · exact h.elim
def wInt (i : Int) : WE := fun _ Q => Q (.ok (.sh (.int i)))
def wBl (b : Bool) : WE := fun _ Q => Q (.ok (.sh (.bl b)))
def wStr (s : Str) : WE := fun _ Q => Q (.ok (.sh (.str s)))
def wNon : WE := fun _ Q => Q (.ok (.sh .non))
theorem Zaw {i : Int} {j : Nat} : DE X F W (.Constant (.int i) j pos) (wInt i) := ⟨Zb5 pe_int fun σ H Q ⟨l, env, k, h⟩ => h _ H (k.c.int i), fun _ _ _ m h => m _ h⟩
theorem Zgt {i : Bool} {j : Nat} : DE X F W (.Constant (.bool i) j pos) (wBl i) := ⟨Zb5 pe_bl fun σ H Q ⟨l, env, k, h⟩ => h _ H (k.c.bl i), fun _ _ _ m h => m _ h⟩
theorem Zct {i : Str} {j : Nat} : DE X F W (.Constant (.str i) j pos) (wStr i) := ⟨Zb5 pe_str fun σ H Q ⟨l, env, k, h⟩ => h _ H (k.c.str i), fun _ _ _ m h => m _ h⟩
theorem Zqu {j : Nat} : DE X F W (.Constant .none j pos) wNon := ⟨Zb5 pe_non fun σ H Q ⟨l, env, k, h⟩ => h _ H k.c.non, fun _ _ _ m h => m _ h⟩
abbrev O2 := Slot → Slot → (Slot → Prop) → Prop
abbrev O1 := Slot → (Slot → Prop) → Prop
def Zi1 (o : O2) : Prop := ∀ x y k k', (∀ z, k z → k' z) → o x y k → o x y k'
def Zg1 (o : O1) : Prop := ∀ x k k', (∀ z, k z → k' z) → o x k → o x k'
def wOp (o : O2) (wa wb : WE) : WE := fun env Q => wa env (rk (fun x => wb env (rk (fun y => o x y fun z => Q (.ok z)) Q)) Q)
def wUn (o : O1) (wa : WE) : WE := fun env Q => wa env (rk (fun x => o x fun z => Q (.ok z)) Q)
def Zjo (F : Fr) (r : R2) (o : O2) : Prop := ∀ (l : List Cell) (H : Hp) (x y : Slot) (vx vy : V) (ks : Slot → Prop) (Q : VK),
  C F ((y, some vy) :: (x, some vx) :: l) H → o x y ks → (∀ z v H', ks z → C F ((z, some v) :: l) H' → Q v H') → r vx vy H Q
def Zvk (F : Fr) (r : V → Hp → VK → Prop) (o : O1) : Prop := ∀ (l : List Cell) (H : Hp) (x : Slot) (vx : V) (ks : Slot → Prop) (Q : VK),
  C F ((x, some vx) :: l) H → o x ks → (∀ z v H', ks z → C F ((z, some v) :: l) H' → Q v H') → r vx H Q
theorem Zak {o : O2} (ha : Mono wa) (hb : Mono wb) (ho : Zi1 o) : Mono (wOp o wa wb) := fun env Q Q' m h =>
  Zbh ha (fun x hx => Zbh hb (fun y hy => ho x y _ _ (fun z hz => m _ hz) hy) m hx) m h
theorem Zai {o : O1} (ha : Mono wa) (ho : Zg1 o) : Mono (wUn o wa) := fun env Q Q' m h => Zbh ha (fun x hx => ho x _ _ (fun z hz => m _ hz) hx) m h
theorem Zze {r : R2} {o : O2} (sn : Zjo F r o) (ha : DE X F W a wa) (hb : DE X F W b wb) {σ : L2.St} {H : Hp} {Q : VK} (h : LE F W (wOp o wa wb) σ H Q) : tOp r (LE F W wa) (LE F W wb) σ H Q := by
  obtain ⟨l, env, k, h⟩ := h
  refine ⟨l, env, k, Zcb ha.mono h (fun x hx v H1 c1 => ?_) fun c fs q => q⟩
  refine ⟨(x, some v) :: l, env, k.to1 c1, Zcb hb.mono hx (fun y hy u H2 c2 => ?_) fun c fs q => ?_⟩
  · exact sn _ H2 x y v u _ Q c2 hy fun z vz H' hz cz => hz vz H' cz
  · exact fun A d H' hA hx c3 => q A d H' hA hx c3.tail
theorem Z1o {r : V → Hp → VK → Prop} {o : O1} (sn : Zvk F r o) (ha : DE X F W a wa) {σ : L2.St} {H : Hp} {Q : VK} (h : LE F W (wUn o wa) σ H Q) : tUn r (LE F W wa) σ H Q := by
  obtain ⟨l, env, k, h⟩ := h
  refine ⟨l, env, k, Zcb ha.mono h (fun x hx v H1 c1 => ?_) fun c fs q => q⟩
  exact sn _ H1 x v _ Q c1 hx fun z vz H' hz cz => hz vz H' cz
theorem Zxo {op : Operator} {r : R2} {o : O2} (ho : OpR X (binaryOp op) r) (sn : Zjo F r o) (om : Zi1 o) (ha : DE X F W a wa) (hb : DE X F W b wb) : DE X F W (.BinOp a op b pos) (wOp o wa wb) :=
  ⟨Zb5 (pe_op ho ha.run hb.run) fun _ _ _ h => Zze sn ha hb h, Zak ha.mono hb.mono om⟩
theorem Ztm {op : CmpOp} {r : R2} {o : O2} (ho : OpR X (compareOp op) r) (sn : Zjo F r o) (om : Zi1 o) (ha : DE X F W a wa) (hb : DE X F W b wb) (hm : behindInMarks op b = false) : DE X F W (.Compare a [op] [b] pos) (wOp o wa wb) :=
  ⟨Zb5 (pe_cmpR ho ha.run hb.run hm) fun _ _ _ h => Zze sn ha hb h, Zak ha.mono hb.mono om⟩
theorem Z7q {op : UnaryOp} {r : V → Hp → VK → Prop} {o : O1} (ho : UnR X (unaryOp op) r) (sn : Zvk F r o) (om : Zg1 o) (ha : DE X F W a wa) : DE X F W (.UnaryOp op a pos) (wUn o wa) :=
  ⟨Zb5 (pe_un ho ha.run) fun _ _ _ h => Z1o sn ha h, Zai ha.mono om⟩
def oI (c : Int → Int → Prop) (g : Int → Int → D) : O2 := fun x y k => match x, y with
  | .sh (.int i), .sh (.int j) => c i j ∧ k (.sh (g i j))
  | _, _ => False
def oI0 (g : Int → Int → D) : O2 := fun x y k => match x, y with
  | .sh (.int i), .sh (.int j) => k (.sh (g i j))
  | _, _ => False
theorem Zbe {c : Int → Int → Prop} {g : Int → Int → D} : Zi1 (oI c g) := fun x y k k' m h => by
  unfold oI at h ⊢
  split at h
  · exact ⟨h.1, m _ h.2⟩
  · exact h.elim
theorem Zaz {g : Int → Int → D} : Zi1 (oI0 g) := fun x y k k' m h => by
  unfold oI0 at h ⊢
  split at h
  · exact m _ h
  · exact h.elim
theorem Zwr {c : Int → Int → Prop} {g : Int → Int → Int} : Zjo F (rI c fun i j => .int (g i j)) (oI c fun i j => .int (g i j)) := fun l H x y vx vy ks Q hc ho hq => by
  unfold oI at ho
  split at ho
  · rename_i i j
    have e1 := hc.shInt
    have e2 := hc.tail.shInt
    cases e1; cases e2
    exact ⟨i, j, rfl, rfl, ho.1, hq _ _ H ho.2 (hc.tail.tail.int _)⟩
  · exact ho.elim
theorem Z4s {g : Int → Int → Int} : Zjo F (rI0 fun i j => .int (g i j)) (oI0 fun i j => .int (g i j)) := fun l H x y vx vy ks Q hc ho hq => by
  unfold oI0 at ho
  split at ho
  · rename_i i j
    have e1 := hc.shInt
    have e2 := hc.tail.shInt
    cases e1; cases e2
    exact ⟨i, j, rfl, rfl, hq _ _ H ho (hc.tail.tail.int _)⟩
  · exact ho.elim
theorem Zqy {g : Int → Int → Bool} : Zjo F (rI0 fun i j => .bl (g i j)) (oI0 fun i j => .bl (g i j)) := fun l H x y vx vy ks Q hc ho hq => by
  unfold oI0 at ho
  split at ho
  · rename_i i j
    have e1 := hc.shInt
    have e2 := hc.tail.shInt
    cases e1; cases e2
    exact ⟨i, j, rfl, rfl, hq _ _ H ho (hc.tail.tail.bl _)⟩
  · exact ho.elim
def oAdd : O2 := oI0 fun i j => .int (i + j)
def oMul : O2 := oI CMul fun i j => .int (i * j)
def oMod : O2 := oI (fun _ j => 0 < j) fun i j => .int (i % j)
def oDiv : O2 := oI CDivW fun i j => .int (i / j)
def oPow : O2 := oI CPow fun i j => .int (i ^ j.toNat)
theorem Zii (ha : DE X F W a wa) (hb : DE X F W b wb) : DE X F W (.BinOp a .Mult b pos) (wOp oMul wa wb) := Zxo op_mul Zwr Zbe ha hb
theorem Zk8 (ha : DE X F W a wa) (hb : DE X F W b wb) : DE X F W (.BinOp a .Mod b pos) (wOp oMod wa wb) := Zxo op_mod Zwr Zbe ha hb
theorem Z26 (ha : DE X F W a wa) (hb : DE X F W b wb) : DE X F W (.BinOp a .FloorDiv b pos) (wOp oDiv wa wb) := Zxo op_fdivW Zwr Zbe ha hb
theorem Zwu (ha : DE X F W a wa) (hb : DE X F W b wb) : DE X F W (.BinOp a .Pow b pos) (wOp oPow wa wb) := Zxo op_pow Zwr Zbe ha hb
theorem Zdh (ha : DE X F W a wa) (hb : DE X F W b wb) : DE X F W (.BinOp a .Add b pos) (wOp oAdd wa wb) := Zxo op_add Z4s Zaz ha hb
def oLt : O2 := oI0 fun i j => .bl (decide (i < j))
def oLe : O2 := oI0 fun i j => .bl (decide (i ≤ j))
def oGt : O2 := oI0 fun i j => .bl (decide (j < i))
def oGe : O2 := oI0 fun i j => .bl (decide (j ≤ i))
theorem Z40 (ha : DE X F W a wa) (hb : DE X F W b wb) : DE X F W (.Compare a [.Lt] [b] pos) (wOp oLt wa wb) := Ztm op_lt Zqy Zaz ha hb (nomark _)
theorem Z7v (ha : DE X F W a wa) (hb : DE X F W b wb) : DE X F W (.Compare a [.LtE] [b] pos) (wOp oLe wa wb) := Ztm op_le Zqy Zaz ha hb (nomark _)
def oNeg : O1 := fun x k => match x with
  | .sh (.int i) => k (.sh (.int (-i)))
  | _ => False
theorem Z5l (ha : DE X F W a wa) : DE X F W (.UnaryOp .USub a pos) (wUn oNeg wa) := Z7q un_neg (fun l H x vx ks Q hc ho hq => by
  unfold oNeg at ho
  split at ho
  · rename_i i
    have e1 := hc.shInt
    cases e1
    exact ⟨i, rfl, hq _ _ H ho (hc.tail.int _)⟩
  · exact ho.elim) (fun x k k' m h => by
  unfold oNeg at h ⊢
  split at h
  · exact m _ h
  · exact h.elim) ha
def D.isNon : D → Bool
  | .non => true
  | _ => false
def oIsN (neg : Bool) : O1 := fun x k => match x.dat with
  | some d => k (.sh (.bl (neg ^^ d.isNon)))
  | none => False
theorem Zeg {neg : Bool} : Zg1 (oIsN neg) := fun x k k' m h => by
  unfold oIsN at h ⊢
  split at h
  · exact m _ h
  · exact h.elim
theorem Zyu {K : PySem.W.Frag} {S : Hp} {v : V} {d : D} (r : Rep K S v d) : decide (v = .non) = d.isNon := by cases r <;> rfl
theorem C.isNon {l : List Cell} {H : Hp} {x : Slot} {v : V} {d : D} (h : C F ((x, some v) :: l) H) (hx : x.dat = some d) : decide (v = .non) = d.isNon := by
  obtain ⟨S, g, cc, _⟩ := h
  have s := cc _ List.mem_cons_self
  cases x with
  | un => cases hx
  | sh d' => cases hx; obtain ⟨u, e, r⟩ := s; cases e; exact Zyu r
  | ow d' => cases hx; obtain ⟨a, e, _, _, r⟩ := s; cases e; cases d <;> first | rfl | exact r.elim
  | bo d' => cases hx; obtain ⟨a, e, _, r⟩ := s; cases e; cases d <;> first | rfl | exact r.elim
  | bt d' => cases hx; obtain ⟨a, e, r⟩ := s; cases e; cases d <;> first | rfl | exact r.elim
  | lk a d' => cases hx; obtain ⟨e, _, _, r⟩ := s; cases e; cases d <;> first | rfl | exact r.elim
  | lo a d' => cases hx; obtain ⟨e, _, _, r⟩ := s; cases e; rfl
  | nd d' => cases hx
  | nb d' => cases hx
  | ln _ _ => cases hx
  | xc _ => cases hx
  | xe _ _ _ => cases hx
  | na _ _ => cases hx
  | rt _ _ => cases hx
theorem Z2u {neg : Bool} {r : R2} (hr : ∀ x H Q, Q (.bl (neg ^^ decide (x = .non))) H → r x .non H Q) (ha : DE X F W a wa) {σ : L2.St} {H : Hp} {Q : VK} (h : LE F W (wUn (oIsN neg) wa) σ H Q) : tOp r (LE F W wa) (tC .non) σ H Q := by
  obtain ⟨l, env, k, h⟩ := h
  refine ⟨l, env, k, Zcb ha.mono h (fun x hx v H1 c1 => ?_) fun c fs q => q⟩
  unfold oIsN at hx
  split at hx
  · rename_i d e
    refine hr v H1 Q ?_
    rw [c1.isNon e]
    exact hx _ H1 (c1.tail.bl _)
  · exact hx.elim
def asB (k : Bool → Prop) : Slot → Prop
  | .sh (.bl b) => k b
  | _ => False
def wAnd (wa wb : WE) : WE := fun env Q => wa env (rk (asB fun b => match b with | true => wb env Q | false => Q (.ok (.sh (.bl false)))) Q)
def wOr (wa wb : WE) : WE := fun env Q => wa env (rk (asB fun b => match b with | true => Q (.ok (.sh (.bl true))) | false => wb env Q) Q)
def wNot (wa : WE) : WE := fun env Q => wa env (rk (asB fun b => Q (.ok (.sh (.bl !b)))) Q)
theorem Ze3 {k k' : Bool → Prop} (m : ∀ b, k b → k' b) {x : Slot} (h : asB k x) : asB k' x := by
  unfold asB at h ⊢
  split at h
  · exact m _ h
  · exact h.elim
theorem Ze8 (ha : Mono wa) (hb : Mono wb) : Mono (wAnd wa wb) := fun env Q Q' m h => Zbh ha (fun x hx => Ze3 (fun b q => match b, q with
  | true, q => hb env _ _ m q
  | false, q => m _ q) hx) m h
theorem Zfo (ha : Mono wa) (hb : Mono wb) : Mono (wOr wa wb) := fun env Q Q' m h => Zbh ha (fun x hx => Ze3 (fun b q => match b, q with
  | true, q => m _ q
  | false, q => hb env _ _ m q) hx) m h
theorem Zbs (ha : Mono wa) : Mono (wNot wa) := fun env Q Q' m h => Zbh ha (fun x hx => Ze3 (fun b q => m _ q) hx) m h
theorem Zrg {β : Type} {w : WE} {l : List Cell} {env : En} {σ : L2.St} {k : Bool → Prop} {Q : R β → Prop} {Q' : Bool → Hp → Prop} (m : Mono w) (h : w env (rk (asB k) Q))
    (h1 : ∀ b, k b → ∀ H', C F (l ++ env.zip σ) H' → Q' b H') (h2 : ∀ c fs, Q (.ex c fs) → LTp F W l env σ Q' (.ex c fs)) : w env (LTp F W l env σ Q') :=
  m env _ _ (fun r q => match r, q with
    | .ok x, q => by
      show ∃ b, x = .sh (.bl b) ∧ _
      have q : asB k x := q
      unfold asB at q
      split at q
      · exact ⟨_, rfl, fun H' c => h1 _ q H' c⟩
      · exact q.elim
    | .ex c fs, q => h2 c fs q) h
theorem Zc5 (h : DE X F W e w) (he : ∀ whole, isTrue e X.env whole = (do let v ← whole; standAt e.pos; holding [v] (truthy v)) := by intro _; rfl) : DT X F W e w := by
  refine ⟨Znq (pt_val h.run he) fun σ H Q ⟨l, env, k, q⟩ => ⟨l, env, k, h.mono env _ _ (fun r z => ?_) q⟩, h.mono⟩
  cases r with
  | ok x =>
    obtain ⟨b, rfl, z⟩ := z
    exact fun v H' c => by
      have e := c.shBl
      cases e
      exact ⟨b, rfl, z H' c.tail⟩
  | ex c fs => exact z
theorem Zd2 (h : DT X F W a wa) : DT X F W (.UnaryOp .Not a pos) (wNot wa) := ⟨Znq (pt_not h.run) fun σ H Q ⟨l, env, k, q⟩ => ⟨l, env, k, Zrg h.mono q (fun b hb H' c => by
    obtain ⟨b', e, z⟩ := hb
    cases e
    exact z H' c) fun c fs z => z⟩, Zbs h.mono⟩
theorem Zq6 (h : DT X F W a wa) : DW X F W (.BoolOp .And [a] pos) wa := ⟨pw_and1 h.run, h.mono⟩
theorem Zml (h : DT X F W a wa) : DW X F W (.BoolOp .Or [a] pos) wa := ⟨pw_or1 h.run, h.mono⟩
theorem Zw1 (h : DT X F W a wa) (h2 : DW X F W (.BoolOp .And (b :: es) pos) wb) : DW X F W (.BoolOp .And (a :: b :: es) pos) (wAnd wa wb) :=
  ⟨Zyv (pw_and h.run h2.run) fun σ H Q ⟨l, env, k, q⟩ => ⟨l, env, k, Zrg h.mono q (fun b hb H' c => by
    cases b with
    | true => exact ⟨l, env, k.at c, hb⟩
    | false =>
      obtain ⟨b', e, z⟩ := hb
      cases e
      exact z H' c) fun c fs z => z⟩, Ze8 h.mono h2.mono⟩
theorem Zsz (h : DT X F W a wa) (h2 : DW X F W (.BoolOp .Or (b :: es) pos) wb) : DW X F W (.BoolOp .Or (a :: b :: es) pos) (wOr wa wb) :=
  ⟨Zyv (pw_or h.run h2.run) fun σ H Q ⟨l, env, k, q⟩ => ⟨l, env, k, Zrg h.mono q (fun b hb H' c => by
    cases b with
    | false => exact ⟨l, env, k.at c, hb⟩
    | true =>
      obtain ⟨b', e, z⟩ := hb
      cases e
      exact z H' c) fun c fs z => z⟩, Zfo h.mono h2.mono⟩
theorem Zfk (h : DW X F W e w) : DT X F W e w := ⟨h.run.pt, h.mono⟩
theorem Zp5 {op : BoolOp} (h : DE X F W a wa) : DE X F W (.BoolOp op [a] pos) wa := ⟨pe_one h.run, h.mono⟩
theorem Zv1 (h : DE X F W a wa) (h2 : DE X F W (.BoolOp .And (b :: es) pos) wb) : DE X F W (.BoolOp .And (a :: b :: es) pos) (wAnd wa wb) :=
  ⟨Zb5 (pe_and h.run h2.run) fun σ H Q ⟨l, env, k, q⟩ => ⟨l, env, k, Zcb h.mono q (fun x hx v H' c => by
    unfold asB at hx
    split at hx
    · rename_i b
      have e := c.shBl
      cases e
      refine ⟨b, rfl, ?_⟩
      cases b with
      | true => exact ⟨l, env, k.at c.tail, hx⟩
      | false => exact hx _ H' c
    · exact hx.elim) fun c fs z => z⟩, Ze8 h.mono h2.mono⟩
theorem Z6g (h : DE X F W a wa) (h2 : DE X F W (.BoolOp .Or (b :: es) pos) wb) : DE X F W (.BoolOp .Or (a :: b :: es) pos) (wOr wa wb) :=
  ⟨Zb5 (pe_or h.run h2.run) fun σ H Q ⟨l, env, k, q⟩ => ⟨l, env, k, Zcb h.mono q (fun x hx v H' c => by
    unfold asB at hx
    split at hx
    · rename_i b
      have e := c.shBl
      cases e
      refine ⟨b, rfl, ?_⟩
      cases b with
      | false => exact ⟨l, env, k.at c.tail, hx⟩
      | true => exact hx _ H' c
    · exact hx.elim) fun c fs z => z⟩, Zfo h.mono h2.mono⟩
theorem Z6l (h : DE X F W a wa) : DE X F W (.UnaryOp .Not a pos) (wNot wa) := ⟨Zb5 (pe_not h.run) fun σ H Q ⟨l, env, k, q⟩ => ⟨l, env, k, Zcb h.mono q (fun x hx v H' c => by
    unfold asB at hx
    split at hx
    · rename_i b
      have e := c.shBl
      cases e
      exact ⟨b, rfl, hx _ H' (c.tail.bl _)⟩
    · exact hx.elim) fun c fs z => z⟩, Zbs h.mono⟩
def aNil : WA := fun _ Q => Q (.ok [])
def Zam (wa : WE) (wr : WA) : WA := fun env Q => wa env (rk (fun x => wr env (rk (fun xs => Q (.ok (x :: xs))) Q)) Q)
theorem Zar : DA X F W [] aNil := ⟨Z2v pa_nil fun σ H Q ⟨l, env, k, q⟩ => q [] H rfl k.c, fun _ _ _ m h => m _ h⟩
theorem Zac (h : DE X F W e w) (h2 : DA X F W es wA) (hs : starEach (e :: es) X.env = (false, eval e X.env) :: starEach es X.env := by rfl) : DA X F W (e :: es) (Zam w wA) := by
  refine ⟨Z2v (pa_cons h.run h2.run hs) fun σ H Q ⟨l, env, k, q⟩ => ⟨l, env, k, Zcb h.mono q (fun x hx v H1 c1 => ?_) fun c fs z => z⟩, fun env Q Q' m q => Zbh h.mono (fun x hx => Zbh h2.mono (fun xs hxs => m _ hxs) m hx) m q⟩
  refine ⟨(x, some v) :: l, env, k.to1 c1, h2.mono env _ _ (fun r z => ?_) hx⟩
  cases r with
  | ok xs =>
    intro vs H' hl c2
    exact z (v :: vs) H' (by simp [hl]) (C.front c2)
  | ex c fs => exact fun A d H' hA hx c3 => z A d H' hA hx c3.tail
def Slot.stab : Slot → Option D
  | .sh d => some d
  | .ow d => some d
  | .nd d => some d.fz
  | _ => none
def stabs : List Slot → Option (List D)
  | [] => some []
  | x :: xs => match x.stab, stabs xs with
    | some d, some ds => some (d :: ds)
    | _, _ => none
theorem Znj : ∀ {xs : List Slot} {ds : List D}, stabs xs = some ds → ds.length = xs.length
  | [], ds, h => by cases h; rfl
  | x :: xs, ds, h => by
    unfold stabs at h
    split at h
    · rename_i d ds' e1 e2
      cases h
      simp [Znj e2]
    · cases h
theorem C.stab {x : Slot} {d : D} {v : Option V} {l : List Cell} {H : Hp} (h : C F ((x, v) :: l) H) (hx : x.stab = some d) : C F ((.sh d, v) :: l) H := by
  cases x with
  | sh d' => cases hx; exact h
  | ow d' => cases hx; exact h.frz
  | un => cases hx
  | bo d' => cases hx
  | bt d' => cases hx
  | lk _ d' => cases hx
  | lo _ _ _ => cases hx
  | nd _ => cases hx; exact h.fzN (.inl rfl)
  | nb _ => cases hx
  | ln _ _ => cases hx
  | xc _ => cases hx
  | xe _ _ _ => cases hx
  | na _ _ => cases hx
  | rt _ _ => cases hx
theorem C.stabs : ∀ {xs : List Slot} {ds : List D} {vs : List V} {l : List Cell} {H : Hp}, C F (xs.zip (vs.map some) ++ l) H → DL.stabs xs = some ds → vs.length = xs.length → C F ((ds.map Slot.sh).zip (vs.map some) ++ l) H
  | [], ds, vs, l, H, h, e, hl => by cases e; cases vs with
    | nil => exact h
    | cons _ _ => simp at hl
  | x :: xs, ds, [], l, H, h, e, hl => by simp at hl
  | x :: xs, ds, v :: vs, l, H, h, e, hl => by
    unfold DL.stabs at e
    split at e
    · rename_i d ds' e1 e2
      cases e
      have h1 : C F ((Slot.sh d, some v) :: (xs.zip (vs.map some) ++ l)) H := C.stab (h : C F ((x, some v) :: (xs.zip (vs.map some) ++ l)) H) e1
      have h2 := C.stabs (xs := xs) (l := (Slot.sh d, some v) :: l) (h1.back) e2 (by simpa using hl)
      exact C.front h2
    · cases e
theorem C.reps : ∀ {ds : List D} {vs : List V} {l : List Cell} {S H : Hp}, vs.length = ds.length → (∀ q ∈ (ds.map Slot.sh).zip (vs.map some) ++ l, SC F S H q) → Reps F.K S vs ds
  | [], [], _, _, _, _, _ => .nil
  | [], v :: vs, _, _, _, h, _ => by simp at h
  | d :: ds, [], _, _, _, h, _ => by simp at h
  | d :: ds, v :: vs, l, S, H, hl, h => by
    obtain ⟨u, e, r⟩ := h (Slot.sh d, some v) (by simp)
    cases e
    exact .cons r (C.reps (l := l) (by simpa using hl) fun q hq => h q (List.mem_cons_of_mem _ hq))
def wTup (wA : WA) : WE := fun env Q => wA env (rk (fun xs => match stabs xs with
  | some ds => ds.length ≤ 16777216 ∧ Q (.ok (.sh (.tup ds)))
  | none => False) Q)
def wLst (wA : WA) : WE := fun env Q => wA env (rk (fun xs => match stabs xs with
  | some ds => ds.length ≤ 16777216 ∧ Q (.ok (.ow (.lst ds)))
  | none => False) Q)
theorem Zm9 {β : Type} {l : List Cell} {env : En} {σ : L2.St} {k : List Slot → Prop} {Q : R β → Prop} {Q' : List V → Hp → Prop} (m : Mono wA) (h : wA env (rk k Q))
    (h1 : ∀ xs, k xs → ∀ vs H', vs.length = xs.length → C F (xs.zip (vs.map some) ++ (l ++ env.zip σ)) H' → Q' vs H') (h2 : ∀ c fs, Q (.ex c fs) → LAp F W l env σ Q' (.ex c fs)) : wA env (LAp F W l env σ Q') :=
  m env _ _ (fun r q => match r, q with
    | .ok x, q => h1 x q
    | .ex c fs, q => h2 c fs q) h
theorem Zb4 {k : Nat} (h : DA X F W es wA) : DE X F W (.Tuple es k pos) (wTup wA) := by
  refine ⟨Zb5 (pe_tup h.run) fun σ H Q ⟨l, env, k, q⟩ => ⟨l, env, k, Zm9 h.mono q (fun xs hx vs H1 hl c1 => ?_) fun c fs z => z⟩, fun env Q Q' m q => Zbh h.mono (fun xs hx => ?_) m q⟩
  · split at hx
    · rename_i ds e
      have hd := Znj e
      refine ⟨by rw [sizeLine_eq]; omega, fun p hp => hx.2 _ _ ?_⟩
      have c2 := c1.stabs e hl
      exact (c2.newSh (d := .tup ds) hp fun S g a => .tup upd_same ((C.reps (by omega) a).mono (Za9 (g.sh.free hp)))).perm ((List.Perm.refl _)) |>.sub (List.Sublist.cons_cons _ (List.sublist_append_right _ _))
    · exact hx.elim
  · split at hx
    · exact ⟨hx.1, m _ hx.2⟩
    · exact hx.elim
theorem Zdd (h : DA X F W es wA) : DE X F W (.List es pos) (wLst wA) := by
  refine ⟨Zb5 (pe_lst h.run) fun σ H Q ⟨l, env, k, q⟩ => ⟨l, env, k, Zm9 h.mono q (fun xs hx vs H1 hl c1 => ?_) fun c fs z => z⟩, fun env Q Q' m q => Zbh h.mono (fun xs hx => ?_) m q⟩
  · split at hx
    · rename_i ds e
      have hd := Znj e
      refine ⟨by rw [sizeLine_eq]; omega, fun p hp => hx.2 _ _ ?_⟩
      have c2 := c1.stabs e hl
      exact (c2.newOw (d := .lst ds) hp fun S g a => ⟨vs, rfl, C.reps (by omega) a⟩).sub (List.Sublist.cons_cons _ (List.sublist_append_right _ _))
    · exact hx.elim
  · split at hx
    · exact ⟨hx.1, m _ hx.2⟩
    · exact hx.elim
end
end DL
set_option Elab.async false
set_option linter.all false
set_option maxRecDepth 100000
set_option maxHeartbeats 4000000
namespace DL
open PySem PySem.Spec PyProof.Rows L2
mutual
def D.py : D → PyData
  | .non => .none
  | .bl b => .bool b
  | .int i => .int i
  | .str s => .str s
  | .tup ds => .tuple (D.pys ds)
  | .lst ds => .list (D.pys ds)
  | .dk _ => .dict []
  | .dt _ => .dict []
  | .obj _ _ _ => .dict []
  | .own d => d.py
  | .rf _ => .dict []
  | .fn _ => .dict []
  | .lso _ => .dict []
def D.pys : List D → List PyData
  | [] => []
  | d :: ds => d.py :: D.pys ds
end
def eqD (d e : D) : Bool := PyData.eqv d.py e.py
def Shp (d : D) : Prop := SeqAt.shaped d.py = true
theorem Zxx : ∀ ds : List D, D.pys ds = ds.map D.py
  | [] => rfl
  | _ :: ds => by rw [List.map_cons, ← Zxx ds]; rfl
mutual
theorem Rep.dp {K : PySem.W.Frag} {S : Hp} : ∀ {v : V} {d : D}, Rep K S v d → PyData.canLay0 d.py = true → Dp K S v d.py
  | _, _, .non, _ => .non
  | _, _, .bl, _ => .bl _
  | _, _, .int, _ => .int _
  | _, _, .str, _ => .str _
  | _, _, .tup h r, c => .tup (SqT.of h) (Reps.dp r (by simpa [D.py, PyData.canLay0] using c))
  | _, _, .lst h r, c => .lst h (Reps.dp r (by simpa [D.py, PyData.canLay0] using c))
  | _, _, .dk _ _ _, c => by simp [D.py, PyData.canLay0] at c
  | _, _, .dt _ _ _, c => by simp [D.py, PyData.canLay0] at c
  | _, _, .obj _ _ _ _, c => by simp [D.py, PyData.canLay0] at c
  | _, _, .rf, c => by simp [D.py, PyData.canLay0] at c
  | _, _, .fn _, c => by simp [D.py, PyData.canLay0] at c
theorem Reps.dp {K : PySem.W.Frag} {S : Hp} : ∀ {vs : List V} {ds : List D}, Reps K S vs ds → PyData.canLayAll0 (D.pys ds) = true → DpAll K S vs (D.pys ds)
  | _, _, .nil, _ => .nil
  | _, d :: ds, .cons h r, c => by
    have c' : PyData.canLay0 d.py = true ∧ PyData.canLayAll0 (D.pys ds) = true := by simpa [D.pys, PyData.canLayAll0, Bool.and_eq_true] using c
    exact .cons (Rep.dp h c'.1) (Reps.dp r c'.2)
end
mutual
theorem Zzl {K : PySem.W.Frag} {S S' : Hp} (e : Same S S') : ∀ {v : V} {d : PyData}, Dp K S v d → Dp K S' v d
  | _, _, .non => .non
  | _, _, .bl _ => .bl _
  | _, _, .int _ => .int _
  | _, _, .str _ => .str _
  | _, _, .tup h r => .tup (Z1s e h) (dps_mono e r)
  | _, _, .lst h r => .lst (Zk6 e h) (dps_mono e r)
theorem dps_mono {K : PySem.W.Frag} {S S' : Hp} (e : Same S S') : ∀ {vs : List V} {ds : List PyData}, DpAll K S vs ds → DpAll K S' vs ds
  | _, _, .nil => .nil
  | _, _, .cons h r => .cons (Zzl e h) (dps_mono e r)
end
section
variable {F : Fr}
theorem C.dp {l : List Cell} {H : Hp} {x : Slot} {v : V} {d : D} (h : C F ((x, some v) :: l) H) (hx : x.dat = some d) (c : PyData.canLay0 d.py = true) : Dp F.K H v d.py := by
  obtain ⟨S, g, cc, _⟩ := h
  have s := cc _ List.mem_cons_self
  have one : ∀ {d : D} {a : Addr}, PyData.canLay0 d.py = true → RC F.K S (H a) d → Dp F.K H (.ref a) d.py := fun {d a} c r => by
    cases d with
    | lst ds => obtain ⟨vs, e2, r⟩ := r; exact .lst (SqL.of e2) (dps_mono g.sh (r.dp (by simpa [D.py, PyData.canLay0] using c)))
    | dk kds => simp [D.py, PyData.canLay0] at c
    | dt kds => simp [D.py, PyData.canLay0] at c
    | _ => exact r.elim
  cases x with
  | un => cases hx
  | sh d' => cases hx; obtain ⟨u, e, r⟩ := s; cases e; exact Zzl g.sh (r.dp c)
  | ow d' => cases hx; obtain ⟨a, e, _, _, r⟩ := s; cases e; exact one c r
  | bo d' => cases hx; obtain ⟨a, e, _, r⟩ := s; cases e; exact one c r
  | bt d' => cases hx; obtain ⟨a, e, r⟩ := s; cases e; exact one c r
  | lk a d' => cases hx; obtain ⟨e, _, _, r⟩ := s; cases e; exact one c r
  | lo a d' => cases hx; simp [D.py, PyData.canLay0] at c
  | nd d' => cases hx
  | nb d' => cases hx
  | ln _ _ => cases hx
  | xc _ => cases hx
  | xe _ _ _ => cases hx
  | na _ _ => cases hx
  | rt _ _ => cases hx
end
theorem Zf2 {d : D} (h : Shp d) : PyData.canLay0 d.py = true := SeqAt.canLay_of_shaped h
def D.scal : D → D → Bool
  | .non, .non => true
  | .non, .int _ => true
  | .int _, .non => true
  | .non, .bl _ => true
  | .bl _, .non => true
  | .non, .str _ => true
  | .str _, .non => true
  | .int _, .int _ => true
  | .bl _, .bl _ => true
  | .str _, .str _ => true
  | _, _ => false
def EqOk (d e : D) : Prop := D.scal d e = true ∨ (Shp d ∧ Shp e)
def oEq (neg : Bool) : O2 := fun x y k => match x.dat, y.dat with
  | some d, some e => EqOk d e ∧ k (.sh (.bl (neg ^^ eqD d e)))
  | _, _ => False
theorem Zbm {neg : Bool} : Zi1 (oEq neg) := fun x y k k' m h => by
  unfold oEq at h ⊢
  split at h
  · exact ⟨h.1, m _ h.2⟩
  · exact h.elim
section
variable {X : Cx} {F : Fr} {W : WX} {a b c e o : Expr} {es : List Expr} {wa wb wc w : WE} {wA : WA} {pos : Pos}
theorem Zwl {K : PySem.W.Frag} {S S' : Hp} {v u : V} {d e : D} (r : Rep K S v d) (q : Rep K S' u e) (h : D.scal d e = true) : L2.scal v u = true ∧ decide (v = u) = eqD d e := by
  cases r <;> cases q <;> first
    | (exfalso; simp [D.scal] at h; done)
    | exact ⟨rfl, by first | rfl | (simp [eqD, D.py, PyData.eqv]; done) | (simp only [eqD, D.py, PyData.eqv]; first | exact dec_int | exact dec_bl | exact dec_str)⟩
theorem Zth {d e : D} (h : D.scal d e = true) : (∀ K S o, ¬ RC K S o d) ∧ ∀ K S o, ¬ RC K S o e := by
  cases d <;> cases e <;> first
    | (exfalso; simp [D.scal] at h; done)
    | exact ⟨fun _ _ _ z => z, fun _ _ _ z => z⟩
def rEqA (K : PySem.W.Frag) : R2 := fun x y H Q => rEq x y H Q ∨ rEqD K x y H Q
def rNeA (K : PySem.W.Frag) : R2 := fun x y H Q => rNe x y H Q ∨ rNeD K x y H Q
theorem C.repOf {l : List Cell} {H : Hp} {x : Slot} {v : V} {d : D} (h : C F ((x, some v) :: l) H) (hx : x.dat = some d) (n : ∀ K S o, ¬ RC K S o d) : ∃ S, Rep F.K S v d := by
  obtain ⟨S, g, cc, _⟩ := h
  have s := cc _ List.mem_cons_self
  cases x with
  | un => cases hx
  | sh d' => cases hx; obtain ⟨u, e, r⟩ := s; cases e; exact ⟨S, r⟩
  | ow d' => cases hx; obtain ⟨a, e, _, _, r⟩ := s; exact (n _ _ _ r).elim
  | bo d' => cases hx; obtain ⟨a, e, _, r⟩ := s; exact (n _ _ _ r).elim
  | bt d' => cases hx; obtain ⟨a, e, r⟩ := s; exact (n _ _ _ r).elim
  | lk a d' => cases hx; obtain ⟨e, _, _, r⟩ := s; exact (n _ _ _ r).elim
  | lo a d' => cases hx; obtain ⟨e, _, _, eu, od, kvs, e3, k, r⟩ := s; have e2 := eu.trans e3; exact (n F.K S (some (.dK kvs)) ⟨kvs, rfl, k, r⟩).elim
  | nd d' => cases hx
  | nb d' => cases hx
  | ln _ _ => cases hx
  | xc _ => cases hx
  | xe _ _ _ => cases hx
  | na _ _ => cases hx
  | rt _ _ => cases hx
theorem Z2z : Zjo F (rEqA F.K) (oEq false) := fun l H x y vx vy ks Q hc ho hq => by
  unfold oEq at ho
  split at ho
  · rename_i d e ed ee
    obtain ⟨ok, ho⟩ := ho
    rw [Bool.false_xor] at ho
    have fin : Q (.bl (eqD d e)) H := hq _ _ H ho (hc.tail.tail.bl _)
    rcases ok with ok | ⟨s1, s2⟩
    · obtain ⟨n1, n2⟩ := Zth ok
      obtain ⟨S1, r1⟩ := hc.tail.repOf ed n1
      obtain ⟨S2, r2⟩ := hc.repOf ee n2
      obtain ⟨z1, z2⟩ := Zwl r1 r2 ok
      exact .inl ⟨z1, by rw [z2]; exact fin⟩
    · exact .inr ⟨_, _, hc.tail.dp ed (Zf2 s1), hc.dp ee (Zf2 s2), s1, s2, fin⟩
  · exact ho.elim
theorem Zzu : Zjo F (rNeA F.K) (oEq true) := fun l H x y vx vy ks Q hc ho hq => by
  unfold oEq at ho
  split at ho
  · rename_i d e ed ee
    obtain ⟨ok, ho⟩ := ho
    rw [Bool.true_xor] at ho
    have fin : Q (.bl (!eqD d e)) H := hq _ _ H ho (hc.tail.tail.bl _)
    rcases ok with ok | ⟨s1, s2⟩
    · obtain ⟨n1, n2⟩ := Zth ok
      obtain ⟨S1, r1⟩ := hc.tail.repOf ed n1
      obtain ⟨S2, r2⟩ := hc.repOf ee n2
      obtain ⟨z1, z2⟩ := Zwl r1 r2 ok
      exact .inl ⟨z1, by rw [z2]; exact fin⟩
    · exact .inr ⟨_, _, hc.tail.dp ed (Zf2 s1), hc.dp ee (Zf2 s2), s1, s2, fin⟩
  · exact ho.elim
theorem Z7x (hu : X.A.units + 65 < cLine) (ha : DE X F W a wa) (hb : DE X F W b wb) (hK : X.K = F.K := by rfl) : DE X F W (.Compare a [.Eq] [b] pos) (wOp (oEq false) wa wb) :=
  Ztm (r := rEqA F.K) (by rw [← hK]; exact op_eq.or (op_eqD (by omega))) Z2z Zbm ha hb (nomark _)
theorem Z69 (hu : X.A.units + 65 < cLine) (ha : DE X F W a wa) (hb : DE X F W b wb) (hK : X.K = F.K := by rfl) : DE X F W (.Compare a [.NotEq] [b] pos) (wOp (oEq true) wa wb) :=
  Ztm (r := rNeA F.K) (by rw [← hK]; exact op_ne.or (op_neD (by omega))) Zzu Zbm ha hb (nomark _)
def D.key : D → Option L2.Key
  | .int i => some (.inl i)
  | .str s => some (.inr s)
  | _ => none
def D.keys : List D → Option (List L2.Key)
  | [] => some []
  | d :: ds => match d.key, D.keys ds with
    | some k, some ks => some (k :: ks)
    | _, _ => none
def D.keyT : D → Option (List L2.Key)
  | .tup ds => D.keys ds
  | _ => none
section
variable {κ α : Type} [DecidableEq κ]
def lk (kds : List (κ × α)) (k : κ) : Option α := (kds.find? fun kv => decide (kv.1 = k)).map (·.2)
def put (kds : List (κ × α)) (k : κ) (d : α) : List (κ × α) := if (kds.any fun kv => decide (kv.1 = k)) = true then kds.map (fun kv => if kv.1 = k then (kv.1, d) else kv) else kds ++ [(k, d)]
end
theorem lk_valV {κ : Type} [DecidableEq κ] {K : PySem.W.Frag} {S : Hp} (k : κ) : ∀ {kvs : List (κ × V)} {kds : List (κ × D)}, kvs.map Prod.fst = kds.map Prod.fst → Reps K S (kvs.map Prod.snd) (kds.map Prod.snd) →
    (lk kds k = none ∧ valV kvs k = none) ∨ ∃ d v, lk kds k = some d ∧ valV kvs k = some v ∧ Rep K S v d
  | [], [], _, _ => .inl ⟨rfl, rfl⟩
  | [], _ :: _, h, _ => by simp at h
  | _ :: _, [], h, _ => by simp at h
  | (k1, v) :: kvs, (k2, d) :: kds, h, r => by
    have h1 : k1 = k2 := by simpa using congrArg List.head? h
    have h2 : kvs.map Prod.fst = kds.map Prod.fst := by simpa using congrArg List.tail h
    subst h1
    have r' : Reps K S (v :: kvs.map Prod.snd) (d :: kds.map Prod.snd) := r
    cases r' with
    | cons r1 r2 =>
      by_cases e : k1 = k
      · refine .inr ⟨d, v, ?_, ?_, r1⟩
        · simp [lk, List.find?_cons, e]
        · simp [valV, List.find?_cons, e]
      · rcases lk_valV k h2 r2 with ⟨a, b⟩ | ⟨d', v', a, b, c⟩
        · refine .inl ⟨?_, ?_⟩
          · simpa [lk, List.find?_cons, e] using a
          · simpa [valV, List.find?_cons, e] using b
        · refine .inr ⟨d', v', ?_, ?_, c⟩
          · simpa [lk, List.find?_cons, e] using a
          · simpa [valV, List.find?_cons, e] using b
theorem Z0f {K : PySem.W.Frag} {S : Hp} {v : V} {d : D} {k : L2.Key} (r : Rep K S v d) (h : d.key = some k) : v = kV k := by
  cases r <;> first | (cases h; rfl) | cases h
theorem Ztp {K : PySem.W.Frag} {S : Hp} : ∀ {vs : List V} {ds : List D} {ks : List L2.Key}, Reps K S vs ds → D.keys ds = some ks → vs = ks.map kV
  | _, _, _, .nil, h => by cases h; rfl
  | _, _, ks, .cons r rr, h => by
    unfold D.keys at h
    split at h
    · rename_i k ks' e1 e2
      cases h
      rw [List.map_cons, ← Z0f r e1, ← Ztp rr e2]
    · cases h
theorem C.dictK {l : List Cell} {H : Hp} {x : Slot} {v : Option V} {kds : List (L2.Key × D)} (h : C F ((x, v) :: l) H) (hx : x.dat = some (.dk kds)) :
    ∃ a kvs, v = some (.ref a) ∧ Rd H a (.dK kvs) ∧ kvs.map Prod.fst = kds.map Prod.fst ∧ ∃ S, GS F S H ∧ Reps F.K S (kvs.map Prod.snd) (kds.map Prod.snd) ∧ (∀ p ∈ (x, v) :: l, SC F S H p) ∧ ((x, v) :: l).Pairwise (Zby H) := by
  obtain ⟨S, g, cc, pw⟩ := h
  have s := cc _ List.mem_cons_self
  cases x with
  | un => cases hx
  | sh d' => cases hx; obtain ⟨u, e, r⟩ := s; cases r with
    | dk hr k r => exact ⟨_, _, e, Zup g.sh hr, k, S, g, r, cc, pw⟩
  | ow d' => cases hx; obtain ⟨a, e, _, _, kvs, e2, k, r⟩ := s; exact ⟨a, kvs, e, .inl e2, k, S, g, r, cc, pw⟩
  | bo d' => cases hx; obtain ⟨a, e, _, kvs, e2, k, r⟩ := s; exact ⟨a, kvs, e, .inl e2, k, S, g, r, cc, pw⟩
  | bt d' => cases hx; obtain ⟨a, e, kvs, e2, k, r⟩ := s; exact ⟨a, kvs, e, .inl e2, k, S, g, r, cc, pw⟩
  | lk a d' => cases hx; obtain ⟨e, _, _, kvs, e2, k, r⟩ := s; exact ⟨a, kvs, e, .inl e2, k, S, g, r, cc, pw⟩
  | lo a d' => cases hx; obtain ⟨e, _, _, eu, od, kvs, e3, k, r⟩ := s; have e2 := eu.trans e3; exact ⟨a, kvs, e, .inr ⟨od, e2⟩, k, S, g, r, cc, pw⟩
  | nd d' => cases hx
  | nb d' => cases hx
  | ln _ _ => cases hx
  | xc _ => cases hx
  | xe _ _ _ => cases hx
  | na _ _ => cases hx
  | rt _ _ => cases hx
theorem C.dictT {l : List Cell} {H : Hp} {x : Slot} {v : Option V} {kds : List (List L2.Key × D)} (h : C F ((x, v) :: l) H) (hx : x.dat = some (.dt kds)) :
    ∃ a kvs, v = some (.ref a) ∧ H a = some (.dT kvs) ∧ kvs.map Prod.fst = kds.map Prod.fst ∧ ∃ S, GS F S H ∧ Reps F.K S (kvs.map Prod.snd) (kds.map Prod.snd) ∧ (∀ p ∈ (x, v) :: l, SC F S H p) ∧ ((x, v) :: l).Pairwise (Zby H) := by
  obtain ⟨S, g, cc, pw⟩ := h
  have s := cc _ List.mem_cons_self
  cases x with
  | un => cases hx
  | sh d' => cases hx; obtain ⟨u, e, r⟩ := s; cases r with
    | dt hr k r => exact ⟨_, _, e, g.sh _ _ hr, k, S, g, r, cc, pw⟩
  | ow d' => cases hx; obtain ⟨a, e, _, _, kvs, e2, k, r⟩ := s; exact ⟨a, kvs, e, e2, k, S, g, r, cc, pw⟩
  | bo d' => cases hx; obtain ⟨a, e, _, kvs, e2, k, r⟩ := s; exact ⟨a, kvs, e, e2, k, S, g, r, cc, pw⟩
  | bt d' => cases hx; obtain ⟨a, e, kvs, e2, k, r⟩ := s; exact ⟨a, kvs, e, e2, k, S, g, r, cc, pw⟩
  | lk a d' => cases hx; obtain ⟨e, _, _, kvs, e2, k, r⟩ := s; exact ⟨a, kvs, e, e2, k, S, g, r, cc, pw⟩
  | lo a d' => cases hx
  | nd d' => cases hx
  | nb d' => cases hx
  | ln _ _ => cases hx
  | xc _ => cases hx
  | xe _ _ _ => cases hx
  | na _ _ => cases hx
  | rt _ _ => cases hx
theorem C.sh0 {l : List Cell} {H : Hp} {v : V} {d : D} (h : C F ((.sh d, some v) :: l) H) : ∃ S, GS F S H ∧ Rep F.K S v d := by
  obtain ⟨S, g, cc, _⟩ := h
  obtain ⟨u, e, r⟩ := cc _ List.mem_cons_self
  cases e
  exact ⟨S, g, r⟩
theorem C.key {l : List Cell} {H : Hp} {v : V} {d : D} {k : L2.Key} (h : C F ((.sh d, some v) :: l) H) (hk : d.key = some k) : v = kV k := by
  obtain ⟨S, _, r⟩ := h.sh0
  exact Z0f r hk
theorem Zlt {K : PySem.W.Frag} {S : Hp} {v : V} {ds : List D} {ks : List L2.Key} (r : Rep K S v (.tup ds)) (hk : D.keys ds = some ks) : ∃ a, v = .ref a ∧ S a = some (.tup (ks.map kV)) := by
  cases r with
  | tup hq r =>
    rw [Ztp r hk] at hq
    exact ⟨_, rfl, hq⟩
theorem C.beside {l : List Cell} {H : Hp} {v : V} {d : D} {S : Hp} (g : GS F S H) (cc : ∀ p ∈ l, SC F S H p) (pw : l.Pairwise (Zby H)) (r : Rep F.K S v d) : C F ((.sh d, some v) :: l) H :=
  ⟨S, g, fun p hp => by
    rcases List.mem_cons.mp hp with rfl | hp
    · exact ⟨v, rfl, r⟩
    · exact cc p hp, Zbx (fun z => z) pw⟩
end
end DL
set_option Elab.async false
set_option linter.all false
set_option maxRecDepth 100000
set_option maxHeartbeats 4000000
namespace DL
open PySem PySem.Spec PyProof.Rows L2
section
variable {X : Cx} {F : Fr} {W : WX} {a b c e o : Expr} {es : List Expr} {wa wb wc w : WE} {wA : WA} {pos : Pos}
def rIxD : R2 := fun x y H Q => ∃ a v, x = .ref a ∧ DGet H a y (some v) ∧ Q v H
theorem Z4z (hu : X.A.units + 1 < cLine) : IxR X rIxD := by
  intro value slice pins s σ H x y v u Q I rx ry h hs
  obtain ⟨a, z, rfl, g, q⟩ := h
  cases rx
  have hT := dict_typeIs I g
  unfold subscriptTail
  refine wpAny_bind ?_
  rw [getitemInPython_of_ne hT.not_modules]
  refine wpAny_bind (wpAny_specialOf hT PySem.F.slot_dict_getitem.lookup ?_)
  have h₂ : wpAny (model X.prog X.w) X.A (getItem (.ref a) u) (EP X pins σ Q) X.xe s := d_getItem hu I g ry fun w' s3 I3 rw' => ⟨z, H, I3, rw', q⟩
  have fin : wpAny (model X.prog X.w) X.A (subscripted slice false (.ref a) u) (fun r s₃ => wpAny (model X.prog X.w) X.A (letTemporaryGo value (.ref a) r >>= fun _ => pure r) (EP X pins σ Q) X.xe s₃) X.xe s := by
    rw [hs]
    exact wpAny_operating (wpAny_mono h₂ (fun r s₃ h₃ => wpAny_bind (wpAny_letTemporaryGo (wpAny_pure h₃))) fun _ _ x => x)
  first
    | exact wpAny_pure (wpAny_bind fin)
    | exact wpAny_bind (wpAny_pure (wpAny_bind fin))
    | exact wpAny_bind fin
def rIxA (K : PySem.W.Frag) : R2 := fun x y H Q => rIx K x y H Q ∨ rIxD x y H Q
def Zwd (d e : D) (k : D → Prop) : Prop := match d with
  | .lst ds => ∃ i z, e = .int i ∧ atI ds i = some z ∧ k z
  | .tup ds => ∃ i z, e = .int i ∧ atI ds i = some z ∧ k z
  | .str s => s.length ≤ 16777216 ∧ ∃ i c, e = .int i ∧ atI s.cps.toList i = some c ∧ k (.str ⟨#[c]⟩)
  | .dk kds => ∃ j z, e.key = some j ∧ lk kds j = some z ∧ k z
  | .dt kds => ∃ j z, e.keyT = some j ∧ lk kds j = some z ∧ k z
  | _ => False
def oIx : O2 := fun x y k => match x.dat, y with
  | some d, .sh e => Zwd d e fun z => k (.sh z)
  | _, _ => False
theorem Zuk {d e : D} {k k' : D → Prop} (m : ∀ z, k z → k' z) (h : Zwd d e k) : Zwd d e k' := by
  cases d with
  | lst ds => obtain ⟨i, z, h1, h2, h3⟩ := h; exact ⟨i, z, h1, h2, m _ h3⟩
  | tup ds => obtain ⟨i, z, h1, h2, h3⟩ := h; exact ⟨i, z, h1, h2, m _ h3⟩
  | str s => obtain ⟨h0, i, z, h1, h2, h3⟩ := h; exact ⟨h0, i, z, h1, h2, m _ h3⟩
  | dk s => obtain ⟨i, z, h1, h2, h3⟩ := h; exact ⟨i, z, h1, h2, m _ h3⟩
  | dt s => obtain ⟨i, z, h1, h2, h3⟩ := h; exact ⟨i, z, h1, h2, m _ h3⟩
  | _ => exact h.elim
theorem Zbp : Zi1 oIx := fun x y k k' m h => by
  unfold oIx at h ⊢
  split at h
  · exact Zuk (fun z hz => m _ hz) h
  · exact h.elim
theorem Zvn {K : PySem.W.Frag} {S : Hp} {vs : List V} {ds : List D} {i : Int} {d : D} (r : Reps K S vs ds) (h : atI ds i = some d) : ∃ (j : Nat) (u : V), ds[j]? = some d ∧ vs[j]? = some u ∧ atI vs i = some u := by
  unfold atI at h ⊢
  rw [r.len]
  cases q : ixN ds.length i with
  | none => rw [q] at h; cases h
  | some j =>
    rw [q] at h
    have h : ds[j]? = some d := h
    obtain ⟨u, hu, _⟩ := r.get h
    exact ⟨j, u, h, hu, hu⟩
theorem Z0i {l : List Cell} {H : Hp} {x : Slot} {d e : D} {vx vy : V} {k : D → Prop} {Q : VK} (hc : C F ((.sh e, some vy) :: (x, some vx) :: l) H) (hx : x.dat = some d) (h : Zwd d e k)
    (hq : ∀ z v, k z → C F ((.sh z, some v) :: l) H → Q v H) : rIxA F.K vx vy H Q := by
  cases d with
  | lst ds =>
    obtain ⟨i, z, rfl, h2, h3⟩ := h
    have ei := hc.shInt
    cases ei
    obtain ⟨a, vs, ea, hl, hlen, S, g, r, cc, pw⟩ := hc.tail.seqL hx
    cases ea
    obtain ⟨j, u, h4, h5, h6⟩ := Zvn r h2
    obtain ⟨d', e4, ru⟩ := r.getV h5
    rw [h4] at e4; cases e4
    exact .inl (.inl ⟨a, vs, i, u, rfl, rfl, hl, h6, hq z u h3 (C.beside g (fun p hp => cc p (List.mem_cons_of_mem _ hp)) pw ru)⟩)
  | tup ds =>
    obtain ⟨i, z, rfl, h2, h3⟩ := h
    have ei := hc.shInt
    cases ei
    obtain ⟨a, vs, ea, hl, hlen, S, g, r, cc, pw⟩ := hc.tail.seqT hx
    cases ea
    obtain ⟨j, u, h4, h5, h6⟩ := Zvn r h2
    obtain ⟨d', e4, ru⟩ := r.getV h5
    rw [h4] at e4; cases e4
    exact .inl (.inr (.inl ⟨a, vs, i, u, rfl, rfl, hl, h6, hq z u h3 (C.beside g (fun p hp => cc p (List.mem_cons_of_mem _ hp)) pw ru)⟩))
  | str s =>
    obtain ⟨h0, i, c, rfl, h2, h3⟩ := h
    have ei := hc.shInt
    cases ei
    obtain ⟨S, r⟩ := hc.tail.repOf hx fun _ _ _ z => z
    cases r
    exact .inl (.inr (.inr ⟨s, i, c, rfl, rfl, by rw [sizeLine_eq]; exact h0, h2, hq _ _ h3 (hc.tail.tail.str _)⟩))
  | dk kds =>
    obtain ⟨j, z, h1, h2, h3⟩ := h
    have ek := hc.key h1
    obtain ⟨a, kvs, ea, hr, hk, S, g, r, cc, pw⟩ := hc.tail.dictK hx
    cases ea
    rcases lk_valV j hk r with ⟨n, _⟩ | ⟨d', v', n, m, rr⟩
    · rw [n] at h2; cases h2
    · rw [n] at h2; cases h2
      exact .inr ⟨a, v', rfl, .inl ⟨kvs, j, hr, ek, m.symm⟩, hq _ _ h3 ((C.beside g cc pw rr).swap.tail)⟩
  | dt kds =>
    obtain ⟨j, z, h1, h2, h3⟩ := h
    cases e with
    | tup es =>
      obtain ⟨S0, g0, r0⟩ := hc.sh0
      obtain ⟨ta, et, ht⟩ := Zlt r0 h1
      obtain ⟨a, kvs, ea, hr, hk, S, g, r, cc, pw⟩ := hc.tail.dictT hx
      cases ea
      rcases lk_valV j hk r with ⟨n, _⟩ | ⟨d', v', n, m, rr⟩
      · rw [n] at h2; cases h2
      · rw [n] at h2; cases h2
        exact .inr ⟨a, v', rfl, .inr ⟨kvs, j, ta, .inl hr, et, g0.sh _ _ ht, m.symm⟩, hq _ _ h3 ((C.beside g cc pw rr).swap.tail)⟩
    | _ => cases h1
  | _ => exact h.elim
theorem Z5z : Zjo F (rIxA F.K) oIx := fun l H x y vx vy ks Q hc ho hq => by
  unfold oIx at ho
  split at ho
  · rename_i d e hd
    exact Z0i hc hd ho fun z v hz cz => hq _ _ H hz cz
  · exact ho.elim
theorem Zh9 (hu : X.A.units + 65 < cLine) (ha : DE X F W a wa) (hb : DE X F W b wb) (hs : PlainIx b := by intro _ _; rfl) (hK : X.K = F.K := by rfl) : DE X F W (.Subscript a b pos) (wOp oIx wa wb) :=
  ⟨Zb5 (pe_ix (r := rIxA F.K) (by rw [← hK]; exact ix_seq.or (Z4z (by omega))) ha.run hb.run hs) fun _ _ _ h => Zze Z5z ha hb h, Zak ha.mono hb.mono Zbp⟩
def oIxN (n : Nat) : O1 := fun x k => match x.dat with
  | some (.lst ds) => (match ds[n]? with | some d => k (.sh d) | none => False)
  | some (.tup ds) => (match ds[n]? with | some d => k (.sh d) | none => False)
  | some (.str s) => s.length ≤ 16777216 ∧ (match s.cps.toList[n]? with | some c => k (.sh (.str ⟨#[c]⟩)) | none => False)
  | _ => False
theorem Zah {n : Nat} : Zg1 (oIxN n) := fun x k k' m h => by
  unfold oIxN at h ⊢
  split at h
  · split at h
    · exact m _ h
    · exact h.elim
  · split at h
    · exact m _ h
    · exact h.elim
  · refine ⟨h.1, ?_⟩
    have h := h.2
    split at h
    · exact m _ h
    · exact h.elim
  · exact h.elim
theorem Z3x {n : Nat} {x : Slot} {k : Slot → Prop} (h : oIxN n x k) : oIx x (.sh (.int (n : Int))) k := by
  unfold oIxN at h
  unfold oIx
  split at h
  · rename_i ds e
    rw [e]
    split at h
    · rename_i d e2
      exact ⟨_, d, rfl, atI_nat e2, h⟩
    · exact h.elim
  · rename_i ds e
    rw [e]
    split at h
    · rename_i d e2
      exact ⟨_, d, rfl, atI_nat e2, h⟩
    · exact h.elim
  · rename_i s e
    rw [e]
    obtain ⟨h0, h⟩ := h
    split at h
    · rename_i d e2
      exact ⟨h0, _, d, rfl, atI_nat e2, h⟩
    · exact h.elim
  · exact h.elim
theorem Zax (n : Nat) {i : Int} {j : Nat} {p : Pos} (hu : X.A.units + 65 < cLine) (ha : DE X F W a wa) (hi : i = (n : Int) := by rfl) (hK : X.K = F.K := by rfl) : DE X F W (.Subscript a (.Constant (.int i) j p) pos) (wUn (oIxN n) wa) := by
  subst hi
  have h := Zh9 (pos := pos) hu ha (Zaw (X := X) (F := F) (W := W) (i := (n : Int)) (j := j) (pos := p)) (fun _ _ => rfl) hK
  refine ⟨Zb5 h.run fun σ H Q ⟨l, env, k, q⟩ => ⟨l, env, k, ?_⟩, Zai ha.mono Zah⟩
  exact Zbh ha.mono (fun x hx => (show oIx x (.sh (.int (n : Int))) (fun z => LEp F W l env σ Q (R.ok z)) from Z3x hx)) (fun _ z => z) q
def oIxL : O1 := fun x k => match x.dat with
  | some (.lst ds) => (match ds.getLast? with | some d => k (.sh d) | none => False)
  | some (.tup ds) => (match ds.getLast? with | some d => k (.sh d) | none => False)
  | _ => False
theorem Zlj : Zg1 oIxL := fun x k k' m h => by
  unfold oIxL at h ⊢
  split at h
  · split at h
    · exact m _ h
    · exact h.elim
  · split at h
    · exact m _ h
    · exact h.elim
  · exact h.elim
theorem Zs7 {ds : List D} {d : D} (h : ds.getLast? = some d) : atI ds (-1) = some d := by
  obtain ⟨ys, rfl⟩ : ∃ ys, ds = ys ++ [d] := by
    rw [List.getLast?_eq_some_iff] at h
    exact h
  exact atI_last _ _
theorem Zx9 {j : Nat} {p p2 : Pos} (hu : X.A.units + 65 < cLine) (ha : DE X F W a wa) (hK : X.K = F.K := by rfl) : DE X F W (.Subscript a (.UnaryOp .USub (.Constant (.int 1) j p) p2) pos) (wUn oIxL wa) := by
  have h := Zh9 (pos := pos) hu ha (Z5l (pos := p2) (Zaw (X := X) (F := F) (W := W) (i := 1) (j := j) (pos := p))) (fun _ _ => rfl) hK
  refine ⟨Zb5 h.run fun σ H Q ⟨l, env, k, q⟩ => ⟨l, env, k, ?_⟩, Zai ha.mono Zlj⟩
  refine Zbh ha.mono (fun x hx => ?_) (fun _ z => z) q
  unfold oIxL at hx
  split at hx
  · rename_i ds e
    split at hx
    · rename_i d e2
      show oIx x (.sh (.int (-1))) (fun z => LEp F W l env σ Q (R.ok z))
      unfold oIx
      rw [e]
      exact ⟨-1, d, rfl, Zs7 e2, hx⟩
    · exact hx.elim
  · rename_i ds e
    split at hx
    · rename_i d e2
      show oIx x (.sh (.int (-1))) (fun z => LEp F W l env σ Q (R.ok z))
      unfold oIx
      rw [e]
      exact ⟨-1, d, rfl, Zs7 e2, hx⟩
    · exact hx.elim
  · exact hx.elim
def hasK {κ : Type} [DecidableEq κ] (kds : List (κ × D)) (k : κ) : Bool := (lk kds k).isSome
def memD (x : D) (ds : List D) : Bool := ds.any fun z => eqD z x
def D.flat : D → Bool
  | .non => true
  | .bl _ => true
  | .int _ => true
  | .str _ => true
  | _ => false
def inOf (d e : D) (k : Bool → Prop) : Prop := match d with
  | .lst ds => ((Shp e ∧ Shp (.lst ds)) ∨ (e.flat = true ∧ ds.all D.flat = true)) ∧ k (memD e ds)
  | .tup ds => e.flat = true ∧ ds.all D.flat = true ∧ k (memD e ds)
  | .str s => ∃ c, e = .str ⟨#[c]⟩ ∧ k (decide (c ∈ s.cps.toList))
  | .dk kds => ∃ j, e.key = some j ∧ k (hasK kds j)
  | .dt kds => ∃ j, e.keyT = some j ∧ k (hasK kds j)
  | _ => False
theorem Zx6 {d e : D} {k k' : Bool → Prop} (m : ∀ z, k z → k' z) (h : inOf d e k) : inOf d e k' := by
  cases d with
  | lst ds => exact ⟨h.1, m _ h.2⟩
  | tup ds => exact ⟨h.1, h.2.1, m _ h.2.2⟩
  | str s => obtain ⟨c, h1, h2⟩ := h; exact ⟨c, h1, m _ h2⟩
  | dk s => obtain ⟨c, h1, h2⟩ := h; exact ⟨c, h1, m _ h2⟩
  | dt s => obtain ⟨c, h1, h2⟩ := h; exact ⟨c, h1, m _ h2⟩
  | _ => exact h.elim
def oIn (neg : Bool) : O2 := fun x y k => match x, y.dat with
  | .sh e, some d => inOf d e fun z => k (.sh (.bl (neg ^^ z)))
  | _, _ => False
theorem Ze6 {neg : Bool} : Zi1 (oIn neg) := fun x y k k' m h => by
  unfold oIn at h ⊢
  split at h
  · exact Zx6 (fun z hz => m _ hz) h
  · exact h.elim
def rDIn (neg : Bool) : R2 := fun x y H Q => ∃ a o, y = .ref a ∧ DGet H a x o ∧ Q (.bl (neg ^^ o.isSome)) H
def rSgn (neg : Bool) : R2 := fun x y H Q => ∃ (c : Nat) (z : Str), x = .str ⟨#[c]⟩ ∧ y = .str z ∧ Q (.bl (neg ^^ decide (c ∈ z.cps.toList))) H
def Z7m (K : PySem.W.Frag) (neg : Bool) : R2 := fun x y H Q => ∃ d ds, Dp K H x d ∧ Dp K H y (.list ds) ∧ SeqAt.shaped d = true ∧ SeqAt.shaped (.list ds) = true ∧ Q (.bl (neg ^^ ds.any fun z => PyData.eqv z d)) H
def rInA (K : PySem.W.Frag) (neg : Bool) : R2 := fun x y H Q => (L2.rIn K neg x y H Q ∨ Z7m K neg x y H Q) ∨ (rDIn neg x y H Q ∨ rSgn neg x y H Q)
theorem Z6p (hu : X.A.units + 65 < cLine) : OpR X (compareOp .In) (rInA X.K false) := by
  refine (op_in_seq.or ?_).or (OpR.or ?_ ?_)
  · intro pins s σ H x y v u Q I rx ry ⟨d, ds, h1, h2, h3, h4, q⟩
    exact op_inD hu pins s σ H x y v u Q I rx ry ⟨d, ds, h1, h2, h3, h4, by rw [Bool.false_xor] at q; exact q⟩
  · intro pins s σ H x y v u Q I rx ry ⟨a, o, e, g, q⟩
    subst e
    cases ry
    rw [Bool.false_xor] at q
    exact d_in (by omega) I g rx fun s3 I3 => ⟨.bl o.isSome, H, I3, rfl, q⟩
  · intro pins s σ H x y v u Q I rx ry ⟨c, z, e1, e2, q⟩
    rw [Bool.false_xor] at q
    exact op_in_sign pins s σ H x y v u Q I rx ry ⟨c, z, e1, e2, q⟩
theorem Ztv (hu : X.A.units + 65 < cLine) : OpR X (compareOp .NotIn) (rInA X.K true) := by
  refine (op_notIn_seq.or ?_).or (OpR.or ?_ ?_)
  · intro pins s σ H x y v u Q I rx ry ⟨d, ds, h1, h2, h3, h4, q⟩
    exact op_notInD hu pins s σ H x y v u Q I rx ry ⟨d, ds, h1, h2, h3, h4, by rw [Bool.true_xor] at q; exact q⟩
  · intro pins s σ H x y v u Q I rx ry ⟨a, o, e, g, q⟩
    subst e
    cases ry
    rw [Bool.true_xor] at q
    exact d_notIn (by omega) I g rx fun s3 I3 => ⟨.bl !o.isSome, H, I3, rfl, q⟩
  · intro pins s σ H x y v u Q I rx ry ⟨c, z, e1, e2, q⟩
    rw [Bool.true_xor] at q
    exact op_notIn_sign pins s σ H x y v u Q I rx ry ⟨c, z, e1, e2, q⟩
theorem Zsb {K : PySem.W.Frag} {S : Hp} {v : V} {d : D} (r : Rep K S v d) (h : d.flat = true) : flatV v = true := by
  cases r <;> first | rfl | (cases h; done)
theorem Zxr {K : PySem.W.Frag} {S S' : Hp} {v u : V} {d e : D} (r : Rep K S v d) (q : Rep K S' u e) (h1 : d.flat = true) (h2 : e.flat = true) : eqV v u = eqD d e := by
  cases r <;> first
    | (cases h1; done)
    | (cases q <;> first
      | (cases h2; done)
      | rfl
      | (simp [eqV, eqD, D.py, PyData.eqv]))
theorem Zou {K : PySem.W.Frag} {S : Hp} : ∀ {vs : List V} {ds : List D}, Reps K S vs ds → ds.all D.flat = true → vs.all flatV = true
  | _, _, .nil, _ => rfl
  | _, d :: ds, .cons r rr, h => by
    rw [List.all_cons, Bool.and_eq_true] at h
    rw [List.all_cons, Zsb r h.1, Zou rr h.2]; rfl
theorem Zrw {K : PySem.W.Frag} {S S' : Hp} {u : V} {e : D} (q : Rep K S' u e) (he : e.flat = true) : ∀ {vs : List V} {ds : List D}, Reps K S vs ds → ds.all D.flat = true → inV u vs = memD e ds
  | _, _, .nil, _ => rfl
  | _, d :: ds, .cons r rr, h => by
    rw [List.all_cons, Bool.and_eq_true] at h
    have ih := Zrw q he rr h.2
    show (eqV _ u || inV u _) = (eqD d e || memD e ds)
    rw [ih, Zxr r q h.1 he]
theorem Zzd {neg : Bool} : Zjo F (rInA F.K neg) (oIn neg) := fun l H x y vx vy ks Q hc ho hq => by
  unfold oIn at ho
  split at ho
  · rename_i e d hd
    have fin : ∀ b, ks (.sh (.bl (neg ^^ b))) → Q (.bl (neg ^^ b)) H := fun b hb => hq _ _ H hb (hc.tail.tail.bl _)
    have fin' : ∀ b, ks (.sh (.bl (neg ^^ b))) → Q (.bl (if neg = true then !b else b)) H := fun b hb => by
      have := fin b hb
      cases neg with
      | true => rw [Bool.true_xor] at this; exact this
      | false => rw [Bool.false_xor] at this; exact this
    cases d with
    | lst ds =>
      obtain ⟨c, hk⟩ := ho
      rcases c with ⟨s1, s2⟩ | ⟨s1, s2⟩
      · refine .inl (.inr ⟨e.py, D.pys ds, hc.tail.dp (x := .sh e) rfl (Zf2 s1), ?_, s1, s2, ?_⟩)
        · exact hc.dp (d := .lst ds) hd (Zf2 s2)
        · have z := fin _ hk
          rw [Zxx, List.any_map]
          exact z
      · obtain ⟨S1, _, r1⟩ := hc.tail.sh0
        obtain ⟨a, vs, ea, hl, hlen, S, g, r, cc, pw⟩ := hc.seqL hd
        cases ea
        refine .inl (.inl ⟨a, vs, rfl, .inl hl, Zsb r1 s1, Zou r s2, ?_⟩)
        rw [Zrw r1 s1 r s2]
        exact fin' _ hk
    | tup ds =>
      obtain ⟨s1, s2, hk⟩ := ho
      obtain ⟨S1, _, r1⟩ := hc.tail.sh0
      obtain ⟨a, vs, ea, hl, hlen, S, g, r, cc, pw⟩ := hc.seqT hd
      cases ea
      refine .inl (.inl ⟨a, vs, rfl, .inr hl, Zsb r1 s1, Zou r s2, ?_⟩)
      rw [Zrw r1 s1 r s2]
      exact fin' _ hk
    | str s =>
      obtain ⟨c, rfl, hk⟩ := ho
      have e1 := hc.tail.shStr
      cases e1
      obtain ⟨S, r⟩ := hc.repOf hd fun _ _ _ z => z
      cases r
      exact .inr (.inr ⟨c, s, rfl, rfl, fin _ hk⟩)
    | dk kds =>
      obtain ⟨j, h1, hk⟩ := ho
      have ek := hc.tail.key h1
      obtain ⟨a, kvs, ea, hr, hkk, S, g, r, cc, pw⟩ := hc.dictK hd
      cases ea
      refine .inr (.inl ⟨a, valV kvs j, rfl, .inl ⟨kvs, j, hr, ek, rfl⟩, ?_⟩)
      have z := fin _ hk
      unfold hasK at z
      rcases lk_valV j hkk r with ⟨n, m⟩ | ⟨d', v', n, m, rr⟩
      · rw [n] at z; rw [m]; exact z
      · rw [n] at z; rw [m]; exact z
    | dt kds =>
      obtain ⟨j, h1, hk⟩ := ho
      cases e with
      | tup es =>
        obtain ⟨S0, g0, r0⟩ := hc.tail.sh0
        obtain ⟨ta, et, ht⟩ := Zlt r0 h1
        obtain ⟨a, kvs, ea, hr, hkk, S, g, r, cc, pw⟩ := hc.dictT hd
        cases ea
        refine .inr (.inl ⟨a, valV kvs j, rfl, .inr ⟨kvs, j, ta, .inl hr, et, g0.sh _ _ ht, rfl⟩, ?_⟩)
        have z := fin _ hk
        unfold hasK at z
        rcases lk_valV j hkk r with ⟨n, m⟩ | ⟨d', v', n, m, rr⟩
        · rw [n] at z; rw [m]; exact z
        · rw [n] at z; rw [m]; exact z
      | _ => cases h1
    | _ => exact ho.elim
  · exact ho.elim
theorem Zwg (hu : X.A.units + 65 < cLine) (ha : DE X F W a wa) (hb : DE X F W b wb) (hm : behindInMarks .NotIn b = false := by rfl) (hK : X.K = F.K := by rfl) : DE X F W (.Compare a [.NotIn] [b] pos) (wOp (oIn true) wa wb) :=
  Ztm (r := rInA F.K true) (by rw [← hK]; exact Ztv hu) Zzd Ze6 ha hb hm
end
end DL
set_option Elab.async false
set_option linter.all false
set_option maxRecDepth 100000
set_option maxHeartbeats 4000000
namespace DL
open PySem PySem.Spec PyProof.Rows L2
def frzS : Slot → Slot
  | .ow d => .sh d
  | x => x
abbrev G := List Slot → (R Slot → Prop) → Prop
def Zc1 (γ : G) : Prop := ∀ xs Q Q', (∀ r, Q r → Q' r) → γ xs Q → γ xs Q'
def Slot.arg : Slot → Slot
  | .sh d => .sh d
  | .ow d => .sh d
  | .bo d => .bo d
  | .bt d => .bo d
  | .lk _ d => .bo d
  | .lo _ _ _ => .un
  | .nd _ => .un
  | .nb d => .nb d
  | .ln _ d => .nb d
  | .xc a => .xc a
  | .xe a _ _ => .xc a
  | .na _ _ => .un
  | .rt _ _ => .un
  | .un => .un
def outK (Q : R Slot → Prop) : R Slot → Prop
  | .ok (.sh d) => Q (.ok (.sh d))
  | .ok (.ow d) => Q (.ok (.ow d))
  | .ok (.nd d) => Q (.ok (.nd d))
  | .ok _ => False
  | .ex c fs => Q (.ex c fs)
def RX.slot : RX → Slot
  | .sh d => .sh d
  | .ow d => .ow d
  | .nd d => .nd d
def Zh4 (ms : List (Addr × D)) : List Cell := ms.map fun m => (Slot.na m.1 m.2, some (V.ref m.1))
def Zu5 : Slot → Option V → List Cell
  | .rt ms x, v => (x.slot, v) :: Zh4 ms
  | x, v => [(x, v)]
theorem C.cells {F : Fr} {x : Slot} {v : Option V} {l : List Cell} {H : Hp} (h : C F ((x, v) :: l) H) : C F (Zu5 x v ++ l) H := by
  cases x with
  | rt ms y => obtain ⟨S, g, c, _⟩ := h; exact (c _ List.mem_cons_self).elim
  | _ => exact h
def msOf : List Slot → List (Addr × D)
  | [] => []
  | .na a d :: xs => (a, d) :: msOf xs
  | _ :: xs => msOf xs
def Z52 (F : Fr) (ms : List (Addr × D)) (Q : VK) (E : XK) : R Slot → Prop
  | .ok (.sh d) => ∀ v H', C F [(.sh d, some v)] H' → Q v H'
  | .ok (.ow d) => ∀ v H', C F [(.ow d, some v)] H' → Q v H'
  | .ok (.nd d) => ∀ v H', C F [(.nd d, some v)] H' → Q v H'
  | .ok (.rt ms' x) => ∀ v H', C F (Zu5 (.rt ms' x) (some v)) H' → Q v H'
  | .ok _ => False
  | .ex c fs => ∀ A d H', F.mg c = some (.ref A) → XF H' d fs → C F (Zh4 ms) H' → E (.ref A) d H'
def spG (K : PySem.W.Frag) (mg : Str → Option Value) (n : Nat) (γ : G) : Sp := fun vs H Q E => vs.length = n ∧ ∃ (xs : List Slot) (S H0 : Hp), xs.length = vs.length ∧ (∀ x ∈ xs, x.env) ∧
  C ⟨K, mg, H0, S⟩ (xs.zip (vs.map some)) H ∧ γ xs (Z52 ⟨K, mg, H0, S⟩ (msOf xs) Q E)
def Zbt (γ : G) (wA : WA) : WE := fun env Q => wA env (rk (fun xs => γ (xs.map Slot.arg) (outK Q)) Q)
theorem Zs6 {Q Q' : R Slot → Prop} (m : ∀ r, Q r → Q' r) : ∀ r, outK Q r → outK Q' r
  | .ok (.sh d), h => m _ h
  | .ok (.ow d), h => m _ h
  | .ok (.nd d), h => m _ h
  | .ok .un, h => h
  | .ok (.bo _), h => h
  | .ok (.bt _), h => h
  | .ok (.lk _ _), h => h
  | .ok (.lo _ _ _), h => h
  | .ok (.nb _), h => h
  | .ok (.ln _ _), h => h
  | .ok (.xc _), h => h
  | .ok (.xe _ _ _), h => h
  | .ok (.na _ _), h => h
  | .ok (.rt _ _), h => h
  | .ex c fs, h => m _ h
section
variable {F : Fr}
theorem C.argF : ∀ {xs : List Slot} {vs : List V} {l : List Cell} {H : Hp}, C F (xs.zip (vs.map some) ++ l) H → vs.length = xs.length →
    C F ((xs.map frzS).zip (vs.map some) ++ l) H
  | [], vs, l, H, h, hl => by cases vs with
    | nil => exact h
    | cons _ _ => simp at hl
  | x :: xs, [], l, H, h, hl => by simp at hl
  | x :: xs, v :: vs, l, H, h, hl => by
    have h0 : C F ((x, some v) :: (xs.zip (vs.map some) ++ l)) H := h
    have h1 : C F ((frzS x, some v) :: (xs.zip (vs.map some) ++ l)) H := by
      cases x with
      | ow d => exact h0.frz
      | sh d => exact h0
      | un => exact h0
      | bo d => exact h0
      | bt d => exact h0
      | lk _ d => exact h0
      | lo _ _ d => exact h0
      | nd d => exact h0
      | nb d => exact h0
      | ln _ _ => exact h0
      | xc _ => exact h0
      | xe _ _ _ => exact h0
      | na _ _ => exact h0
      | rt _ _ => exact h0
    exact C.front (C.argF (xs := xs) h1.back (by simpa using hl))
theorem Zy0 : ∀ x : Slot, (x.arg).env := fun x => by cases x <;> trivial
theorem Zue : ∀ xs : List Slot, msOf (xs.map Slot.arg) = []
  | [] => rfl
  | x :: xs => by cases x <;> exact Zue xs
theorem C.enter {xs : List Slot} {vs : List V} {l : List Cell} {H : Hp} (h : C F (xs.zip (vs.map some) ++ l) H) (hl : vs.length = xs.length) :
    ∃ S, GS F S H ∧ (∀ p ∈ l, SC F S H p) ∧ l.Pairwise (Zby H) ∧ C ⟨F.K, F.mg, H, S⟩ ((xs.map Slot.arg).zip (vs.map some)) H := by
  obtain ⟨S, g, cc, pw⟩ := h.argF hl
  refine ⟨S, g, fun p hp => cc p (List.mem_append_right _ hp), pw.sublist (List.sublist_append_right _ _), S, ⟨Same.refl S, g.sh, Same.refl H, fun a z => .inl z⟩, fun p hp => ?_, ?_⟩
  · have conv : ∀ (xs : List Slot) (us : List (Option V)), p ∈ (xs.map Slot.arg).zip us → ∃ q ∈ (xs.map frzS).zip us, p = (q.1.arg, q.2) := by
      intro xs
      induction xs with
      | nil => intro us h; simp at h
      | cons x xs ih =>
        intro us h
        cases us with
        | nil => simp at h
        | cons u us =>
          rcases List.mem_cons.mp h with rfl | h
          · refine ⟨(frzS x, u), List.mem_cons_self, ?_⟩
            cases x <;> rfl
          · obtain ⟨q, hq, e⟩ := ih us h
            exact ⟨q, List.mem_cons_of_mem _ hq, e⟩
    obtain ⟨q, hq, rfl⟩ := conv xs _ hp
    have s := cc q (List.mem_append_left _ hq)
    obtain ⟨x, v⟩ := q
    cases x with
    | un => trivial
    | sh d => exact s
    | ow d =>
      exfalso
      have hm : Slot.ow d ∈ xs.map frzS := (List.of_mem_zip hq).1
      obtain ⟨y, _, e⟩ := List.mem_map.mp hm
      cases y <;> cases e
    | bo d => obtain ⟨a, e, _, r⟩ := s; exact ⟨a, e, r.nn, r⟩
    | bt d => obtain ⟨a, e, r⟩ := s; exact ⟨a, e, r.nn, r⟩
    | lk a d => obtain ⟨e, _, _, r⟩ := s; exact ⟨a, e, r.nn, r⟩
    | lo a _ d => trivial
    | nd d => trivial
    | nb d => obtain ⟨a, e, r, _⟩ := s; exact ⟨a, e, r, r.dom1⟩
    | ln fp d => obtain ⟨a, e, r, _⟩ := s; exact ⟨a, e, r, r.dom1⟩
    | xc a => exact s
    | xe a dd ns => exact s.1
    | na a d => trivial
    | rt _ _ => trivial
  · have : ∀ p ∈ (xs.map Slot.arg).zip (vs.map some), ¬ p.1.own := fun p hp => by
      obtain ⟨y, _, e⟩ := List.mem_map.mp (List.of_mem_zip hp).1
      rw [← e]
      cases y <;> exact fun z => z
    revert this
    generalize (xs.map Slot.arg).zip (vs.map some) = m
    intro this
    induction m with
    | nil => exact .nil
    | cons p m ih => exact Zbx (this p List.mem_cons_self) (ih fun q hq => this q (List.mem_cons_of_mem _ hq))
theorem C.leave {l : List Cell} {S H H' : Hp} (g : GS F S H) (cc : ∀ p ∈ l, SC F S H p) (pw : l.Pairwise (Zby H)) {m : List Cell} (h : C ⟨F.K, F.mg, H, S⟩ m H') (hm : ∀ p ∈ m, (∃ d v, p = (.sh d, v)) ∨ (∃ d v, p = (.ow d, v)) ∨ ∃ d v, p = (.nd d, v)) : C F (m ++ l) H' := by
  obtain ⟨S', g', cc', pw'⟩ := h
  have gr : ∀ p ∈ l, SC F S' H' p := fun p hp => (cc p hp).grow g'.s0 g'.h0 fun a z => by
    rcases g'.fr a z with y | y | y
    · exact .inl y
    · exact .inr (.inl y)
    · exact .inr (g'.kt_old y)
  refine ⟨S', ⟨g.s0.trans g'.s0, g'.sh, g.h0.trans g'.h0, fun a z => ?_⟩, fun p hp => ?_, List.pairwise_append.mpr ⟨pw', Zi0 pw cc g'.h0, fun p hp q hq => ?_⟩⟩
  · rcases g'.fr a z with z | z | z
    · rcases g.fr a z with y | y | y
      · exact .inl y
      · exact .inr (.inl y)
      · exact .inr (.inr (by rw [Zh3 g'.s0 z]; exact y))
    · exact .inr (.inl (g.h0.free z))
    · exact .inr (.inr z)
  · rcases List.mem_append.mp hp with hp | hp
    · have s := cc' p hp
      rcases hm p hp with ⟨d, v, rfl⟩ | ⟨d, v, rfl⟩ | ⟨d, v, rfl⟩
      · exact s
      · obtain ⟨a, e, h0, hS, r⟩ := s
        exact ⟨a, e, g.h0.free h0, hS, r⟩
      · obtain ⟨a, e, r, n, q⟩ := s
        exact ⟨a, e, r, n, fun b hb => ⟨g.h0.free (q b hb).1, (q b hb).2⟩⟩
    · exact gr p hp
  · have key : Dj H' p q := fun a ha hb => by
      rw [Zh2 (cc q hq) g'.h0] at hb
      exact (Zdf (cc q hq) a hb).1 (Zdf (cc' p hp) a ha).2.1
    exact ⟨fun _ _ => key, fun _ _ => key⟩
end
section
variable {X : Cx} {F : Fr} {W : WX} {a b c e o : Expr} {es : List Expr} {wa wb wc w : WE} {wA : WA} {pos : Pos}
theorem Z4f {k n : Nat} {f : Addr} {fd : FuncData} {ps : List Str} {γ : G} {x : Str} {p : Pos} (m : Zc1 γ) (Fk : FnOk X.prog X.w X.K X.mg X.base (L2.CX X.prog X.w) k f fd ps (spG F.K F.mg n γ)) (hr : Room k X.A)
    (hm : X.mg x = some (.ref f)) (hk : PySem.W.keepIn X.K (.ref f) = true) (hb : Binds X.K fd ps []) (tk : Takes X W) (hn : (e :: es).length = n) (ha : DA X F W (e :: es) wA) (hnA : ∀ env Q, wA env Q → wA env fun r => Q r ∧ ∀ xs, r = .ok xs → xs.length = n)
    (hg : Gl X x := by rfl) (hdb : (x == ("__debug__" : Str)) = false := by decide) (he : starEach (e :: es) X.env = (false, eval e X.env) :: starEach es X.env := by rfl) (hpl : (backTo pos (starEach es X.env)).any (·.1) = false := by rfl) :
    DE X F W (.Call (.Name x p) (e :: es) [] pos) (Zbt γ wA) := by
  refine ⟨Zb5 (pe_callS (E := L2.WE W) Fk hr hg hm hk hb (fun σ => passAt tk σ) ha.run hdb he hpl) fun σ H Q ⟨l, env, k, q⟩ => ⟨l, env, k, ?_⟩, fun env Q Q' mm q => Zbh ha.mono (fun xs hx => m _ _ _ (Zs6 mm) hx) mm q⟩
  refine ha.mono env _ _ (fun r z => ?_) (hnA env _ q)
  obtain ⟨z, hlen⟩ := z
  cases r with
  | ex c fs => exact z
  | ok xs =>
    intro vs H1 hl c1
    have hx : γ (xs.map Slot.arg) (outK (LEp F W l env σ Q)) := z
    obtain ⟨S, g, cc, pw, ce⟩ := c1.enter hl
    refine ⟨by rw [hl]; exact hlen xs rfl, xs.map Slot.arg, S, H1, by rw [List.length_map]; exact hl.symm, fun x hx => ?_, ce, m _ _ _ (fun r z => ?_) hx⟩
    · obtain ⟨y, _, rfl⟩ := List.mem_map.mp hx
      exact Zy0 y
    · cases r with
      | ok x =>
        cases x with
        | sh d => exact fun v H' c2 => z v H' (C.leave g cc pw c2 fun p hp => by
            have e : p = (.sh d, some v) := by simpa using hp
            exact .inl ⟨d, _, e⟩)
        | ow d => exact fun v H' c2 => z v H' (C.leave g cc pw c2 fun p hp => by
            have e : p = (.ow d, some v) := by simpa using hp
            exact .inr (.inl ⟨d, _, e⟩))
        | nd d => exact fun v H' c2 => z v H' (C.leave g cc pw c2 fun p hp => by
            have e : p = (.nd d, some v) := by simpa using hp
            exact .inr (.inr ⟨d, _, e⟩))
        | un => exact z
        | bo d => exact z
        | bt d => exact z
        | lk _ d => exact z
        | lo _ _ _ => exact z
        | nb _ => exact z
        | ln _ _ => exact z
        | xc _ => exact z
        | xe _ _ _ => exact z
        | na _ _ => exact z
        | rt _ _ => exact (show False from z).elim
      | ex c fs => exact fun A d H' hA hx c2 => z A d H' hA hx (C.leave (m := []) g cc pw (by rw [Zue] at c2; exact c2) fun p hp => by simp at hp)
theorem Za3 : ∀ env (Q : R (List Slot) → Prop), aNil env Q → aNil env fun r => Q r ∧ ∀ xs, r = .ok xs → xs.length = 0 := fun env Q h => ⟨h, fun xs e => by cases e; rfl⟩
theorem Zal {n : Nat} (m1 : Mono w) (m2 : Mono wA) (h2 : ∀ env Q, wA env Q → wA env fun r => Q r ∧ ∀ xs, r = .ok xs → xs.length = n) : ∀ env Q, Zam w wA env Q → Zam w wA env fun r => Q r ∧ ∀ xs, r = .ok xs → xs.length = n + 1 := fun env Q h =>
  m1 env _ _ (fun r z => match r, z with
    | .ok x, z => m2 env _ _ (fun r' z' => match r', z' with
      | .ok xs, z' => ⟨z'.1, fun ys e => by cases e; simp [z'.2 xs rfl]⟩
      | .ex c fs, z' => ⟨z'.1, fun ys e => nomatch e⟩) (h2 env _ z)
    | .ex c fs, z => ⟨z, fun ys e => nomatch e⟩) h
end
inductive O where
  | nx (env : En) | ret (x : Slot) | bk (env : En) | ct (env : En) | ex (c : Str) (fs : List (Str × D)) (env : En)
abbrev WS := En → (O → Prop) → Prop
abbrev WG := Slot → En → (En → Prop) → Prop
def Zbl (w : WS) : Prop := ∀ env Q Q', (∀ r, Q r → Q' r) → w env Q → w env Q'
def Zn5 (g : WG) : Prop := ∀ x env k k', (∀ e, k e → k' e) → g x env k → g x env k'
def rks {α : Type} (k : α → Prop) (Q : O → Prop) (env : En) : R α → Prop
  | .ok x => k x
  | .ex c fs => Q (.ex c fs env)
theorem Zcf {α : Type} {w : En → (R α → Prop) → Prop} (m : Mono w) {k k' : α → Prop} {Q Q' : O → Prop} {env : En} (hk : ∀ x, k x → k' x) (hq : ∀ r, Q r → Q' r) (h : w env (rks k Q env)) : w env (rks k' Q' env) :=
  m env _ _ (fun r q => match r, q with
    | .ok x, q => hk x q
    | .ex c fs, q => hq _ q) h
def LSp (F : Fr) (W : WX) (l : List Cell) (D : Ends) : O → Prop
  | .nx env' => ∀ σ' H', CE F l env' σ' H' → D.nx σ' H'
  | .bk env' => ∀ σ' H', CE F l env' σ' H' → D.bk σ' H'
  | .ct env' => ∀ σ' H', CE F l env' σ' H' → D.ct σ' H'
  | .ret x => ∀ v H', C F (Zu5 x (some v) ++ l) H' → D.rt v H'
  | .ex c fs env' => ∀ A d σ' H', F.mg c = some (.ref A) → XF H' d fs → CE F l env' σ' H' → W (.ref A) d σ' H'
def LS (F : Fr) (W : WX) (w : WS) : TS := fun D σ H => ∃ l env, CE F l env σ H ∧ (∀ p ∈ l, p.1.env) ∧ w env (LSp F W l D)
structure DS (X : Cx) (F : Fr) (W : WX) (st : Stmt) (w : WS) : Prop where
  run : PS X st (LS F W w)
  mono : Zbl w
structure DSs (X : Cx) (F : Fr) (W : WX) (sts : List Stmt) (w : WS) : Prop where
  run : PSs X sts (LS F W w)
  mono : Zbl w
def LG (F : Fr) (g : WG) : TG := fun v σ H Q => ∃ l env x, env.length = σ.length ∧ (∀ y ∈ env, y.env) ∧ C F ((x, some v) :: (l ++ env.zip σ)) H ∧ g x env fun env' => ∀ σ' H', CE F l env' σ' H' → Q σ' H'
structure DG (X : Cx) (F : Fr) (tg : Expr) (g : WG) : Prop where
  run : PG X tg (LG F g)
  mono : Zn5 g
section
variable {X : Cx} {F : Fr} {W : WX} {e tg : Expr} {st : Stmt} {sts : List Stmt} {we wc : WE} {w w1 w2 : WS} {g : WG} {pos : Pos}
theorem Z6q {l : List Cell} {Dn : Ends} {env : En} {σ : L2.St} {Q : VK} {c : Str} {fs : List (Str × D)} (k : LSp F W l Dn (.ex c fs env)) (hl : env.length = σ.length) (ho : ∀ x ∈ env, x.env) : LEp F W l env σ Q (.ex c fs) :=
  fun A d H' hA hx c2 => k A d σ H' hA hx ⟨hl, ho, c2⟩
theorem Zxl {l : List Cell} {env : En} {σ : L2.St} {H : Hp} {D : Ends} {k : Slot → Prop} {Q : VK} (he : DE X F W e we) (ce : CE F l env σ H) (h : we env (rks k (LSp F W l D) env))
    (h1 : ∀ x, k x → ∀ v H', C F ((x, some v) :: (l ++ env.zip σ)) H' → Q v H') : LE F W we σ H Q :=
  ⟨l, env, ce, he.mono env _ _ (fun r z => match r, z with
    | .ok x, z => h1 x z
    | .ex c fs, z => Z6q (Dn := D) z ce.len ce.ok) h⟩
theorem Z6i {l : List Cell} {env : En} {σ : L2.St} {H : Hp} {D : Ends} {k : Bool → Prop} {Q : Bool → Hp → Prop} (he : DT X F W e we) (ce : CE F l env σ H) (h : we env (rks (asB k) (LSp F W l D) env))
    (h1 : ∀ b, k b → ∀ H', C F (l ++ env.zip σ) H' → Q b H') : LT F W we σ H Q :=
  ⟨l, env, ce, he.mono env _ _ (fun r z => match r, z with
    | .ok x, z => by
      have z : asB k x := z
      unfold asB at z
      split at z
      · exact ⟨_, rfl, fun H' c => h1 _ z H' c⟩
      · exact z.elim
    | .ex c fs, z => fun A d H' hA hx c2 => z A d σ H' hA hx ⟨ce.len, ce.ok, c2⟩) h⟩
def Zbk : WS := fun env Q => Q (.nx env)
def wSeq (w1 w2 : WS) : WS := fun env Q => w1 env fun o => match o with
  | .nx e => w2 e Q
  | o => Q o
theorem Za6 : DSs X F W [] Zbk := ⟨Zu3 pss_nil fun D σ H ⟨l, env, k, hl, q⟩ => q σ H k, fun _ _ _ m h => m _ h⟩
theorem Zag (h1 : Zbl w1) (h2 : Zbl w2) : Zbl (wSeq w1 w2) := fun env Q Q' m h => h1 env _ _ (fun o z => match o, z with
  | .nx e, z => h2 e _ _ m z
  | .ret _, z => m _ z
  | .bk _, z => m _ z
  | .ct _, z => m _ z
  | .ex _ _ _, z => m _ z) h
theorem Zaj (h1 : DS X F W st w1) (h2 : DSs X F W sts w2) : DSs X F W (st :: sts) (wSeq w1 w2) :=
  ⟨Zu3 (pss_cons h1.run h2.run) fun D σ H ⟨l, env, k, hl, q⟩ => ⟨l, env, k, hl, h1.mono env _ _ (fun o z => match o, z with
    | .nx e, z => fun σ' H' k' => ⟨l, e, k', hl, z⟩
    | .ret _, z => z
    | .bk _, z => z
    | .ct _, z => z
    | .ex _ _ _, z => z) q⟩, Zag h1.mono h2.mono⟩
theorem Za8 (h1 : DS X F W st w1) : DSs X F W [st] w1 := ⟨pss_one h1.run, h1.mono⟩
def wFrz (i : Nat) (w : WS) : WS := fun env Q => match env[i]? with
  | some x => w (env.set i (frzS x)) Q
  | none => False
theorem CE.frz {l : List Cell} {env : En} {σ : L2.St} {H : Hp} {i : Nat} {x : Slot} (k : CE F l env σ H) (hx : env[i]? = some x) : CE F l (env.set i (frzS x)) σ H := by
  obtain ⟨v, h1, h2⟩ := Zb6 k.len hx
  refine ⟨by rw [List.length_set]; exact k.len, fun y hy => ?_, ?_⟩
  · rcases List.mem_or_eq_of_mem_set hy with hy | rfl
    · exact k.ok y hy
    · have := k.ok x (Zbz hx)
      cases x <;> first | exact this | trivial
  · have e : σ = σ.set i v := by
      apply List.ext_getElem?
      intro j
      rw [List.getElem?_set]
      split
      · subst_vars
        split
        · rw [h1]
        · rename_i hlt
          rw [List.getElem?_eq_none (by omega)]
      · rfl
    rw [e, Zg5]
    have p1 := Zdc h2
    have p2 := Zgy (y := (frzS x, v)) h2
    have c1 : C F ((x, v) :: (l ++ (env.zip σ).eraseIdx i)) H := (k.c.perm (List.Perm.append_left l p1)).front
    have c2 : C F ((frzS x, v) :: (l ++ (env.zip σ).eraseIdx i)) H := by
      cases x with
      | ow d => exact c1.frz
      | un => exact c1
      | sh d => exact c1
      | bo d => exact c1
      | bt d => exact c1
      | lk _ d => exact c1
      | lo _ _ _ => exact c1
      | nd _ => exact c1
      | nb _ => exact c1
      | ln _ _ => exact c1
      | xc _ => exact c1
      | xe _ _ _ => exact c1
      | na _ _ => exact c1
      | rt _ _ => exact c1
    exact c2.back.perm (List.Perm.append_left l p2.symm)
theorem Zz3 (i : Nat) (h : DS X F W st w) : DS X F W st (wFrz i w) := by
  refine ⟨Zfg h.run fun D σ H ⟨l, env, k, hl, q⟩ => ?_, fun env Q Q' m q => ?_⟩
  · unfold wFrz at q
    split at q
    · rename_i x e
      exact ⟨l, _, k.frz e, hl, q⟩
    · exact q.elim
  · unfold wFrz at q ⊢
    split at q
    · exact h.mono _ _ _ m q
    · exact q.elim
theorem C.setName {l : List Cell} {env : En} {σ : L2.St} {H : Hp} {i : Nat} {x : Slot} {v : V} (hl : env.length = σ.length) (ho : ∀ y ∈ env, y.env) (hx : x.env) (hi : i < env.length) (c : C F ((x, some v) :: (l ++ env.zip σ)) H) : CE F l (env.set i x) (σ.set i (some v)) H := by
  refine ⟨by simp [hl], fun y hy => ?_, ?_⟩
  · rcases List.mem_or_eq_of_mem_set hy with hy | rfl
    · exact ho y hy
    · exact hx
  · rw [Zg5]
    obtain ⟨w, hw⟩ : ∃ w, (env.zip σ)[i]? = some w := ⟨_, List.getElem?_eq_getElem (by rw [List.length_zip]; omega)⟩
    have p2 := Zgy (y := (x, some v)) hw
    have c1 : C F ((x, some v) :: (l ++ (env.zip σ).eraseIdx i)) H := c.sub (List.Sublist.cons_cons _ ((List.eraseIdx_sublist _ _).append_left l))
    exact c1.back.perm (List.Perm.append_left l p2.symm)
def gN (i : Nat) : WG := fun x env k => match x with
  | .sh d => i < env.length ∧ k (env.set i (.sh d))
  | .ow d => i < env.length ∧ k (env.set i (.ow d))
  | .nd d => i < env.length ∧ k (env.set i (.nd d))
  | _ => False
theorem Zd0 (i : Nat) {x : Str} (hN : X.N.Nodup) (hi : X.N[i]? = some x := by rfl) (hx : Loc X.env.scope x := by first | exact Or.inl rfl | exact Or.inr rfl) (hf : X.fn x = true ∨ X.env.scope.names.lookup x = some .local := by first | exact .inl rfl | exact .inr rfl) : DG X F (.Name x pos) (gN i) := by
  refine ⟨⟨fun pins s σ H v u Q I r h => ?_⟩, fun x env k k' m h => ?_⟩
  · refine (pg_name hN hi hx hf).run pins s σ H v u Q I r ?_
    obtain ⟨l, env, y, hl, ho, c, h⟩ := h
    unfold gN at h
    split at h
    · exact h.2 _ _ (C.setName hl ho trivial h.1 c)
    · exact h.2 _ _ (C.setName hl ho trivial h.1 c)
    · exact h.2 _ _ (C.setName hl ho trivial h.1 c)
    · exact h.elim
  · unfold gN at h ⊢
    split at h
    · exact ⟨h.1, m _ h.2⟩
    · exact ⟨h.1, m _ h.2⟩
    · exact ⟨h.1, m _ h.2⟩
    · exact h.elim
def Zto : List Nat → List D → En → (En → Prop) → Prop
  | [], [], env, k => k env
  | i :: is, d :: ds, env, k => i < env.length ∧ Zto is ds (env.set i (.sh d)) k
  | _, _, _, _ => False
def gT (is : List Nat) : WG := fun x env k => match x.dat with
  | some (.tup ds) => Zto is ds env k
  | some (.lst ds) => Zto is ds env k
  | _ => False
theorem Zhm : ∀ {is : List Nat} {ds : List D} {env : En} {k k' : En → Prop}, (∀ e, k e → k' e) → Zto is ds env k → Zto is ds env k'
  | [], [], _, _, _, m, h => m _ h
  | _ :: _, _ :: _, _, _, _, m, h => ⟨h.1, Zhm m h.2⟩
  | [], _ :: _, _, _, _, _, h => h.elim
  | _ :: _, [], _, _, _, _, h => h.elim
theorem Zob : ∀ {is : List Nat} {ds : List D} {env : En} {k : En → Prop}, Zto is ds env k → ds.length = is.length
  | [], [], _, _, _ => rfl
  | _ :: is, _ :: ds, _, _, h => by simp [Zob h.2]
  | [], _ :: _, _, _, h => h.elim
  | _ :: _, [], _, _, h => h.elim
def gNs : List Nat → TGs
  | [] => gNil
  | i :: is => gCons (gName i) (gNs is)
inductive NamesAt (X : Cx) : List Expr → List Nat → Prop
  | nil : NamesAt X [] []
  | cons {x : Str} {p : Pos} {es : List Expr} {i : Nat} {is : List Nat} (hi : X.N[i]? = some x) (hx : Loc X.env.scope x) (hf : X.fn x = true ∨ X.env.scope.names.lookup x = some .local) (r : NamesAt X es is) : NamesAt X (.Name x p :: es) (i :: is)
theorem NamesAt.pgs (hN : X.N.Nodup) : ∀ {es : List Expr} {is : List Nat}, NamesAt X es is → PGs X es (gNs is)
  | _, _, .nil => pgs_nil
  | _, _, .cons hi hx hf r => pgs_cons (pg_name hN hi hx hf) (NamesAt.pgs hN r)
theorem Zu2 {l : List Cell} {Q : L2.St → Hp → Prop} {H : Hp} : ∀ {is : List Nat} {ds : List D} {vs : List V} {env : En} {σ : L2.St}, vs.length = ds.length → env.length = σ.length → (∀ y ∈ env, y.env) →
    (C F ((ds.map Slot.sh).zip (vs.map some) ++ (l ++ env.zip σ)) H) → Zto is ds env (fun env' => ∀ σ' H', CE F l env' σ' H' → Q σ' H') → gNs is vs σ H Q
  | [], [], [], env, σ, _, hl, ho, c, h => ⟨rfl, h σ H ⟨hl, ho, c⟩⟩
  | i :: is, d :: ds, v :: vs, env, σ, hv, hl, ho, c, h => by
    obtain ⟨hi, h⟩ := h
    refine ⟨v, vs, rfl, ?_⟩
    have c1 : C F ((.sh d, some v) :: (((ds.map Slot.sh).zip (vs.map some) ++ l) ++ env.zip σ)) H := by rw [List.append_assoc]; exact c
    have k := C.setName (x := .sh d) hl ho trivial hi c1
    refine Zu2 (is := is) (ds := ds) (vs := vs) (by simpa using hv) k.len k.ok ?_ h
    rw [← List.append_assoc]; exact k.c
  | [], _ :: _, _, _, _, _, _, _, _, h => h.elim
  | _ :: _, [], _, _, _, _, _, _, _, h => h.elim
  | _, [], _ :: _, _, _, hv, _, _, _, _ => by simp at hv
  | _, _ :: _, [], _, _, hv, _, _, _, _ => by simp at hv
theorem C.spread {l : List Cell} {vs : List V} {ds : List D} {S H : Hp} (g : GS F S H) (cc : ∀ p ∈ l, SC F S H p) (pw : l.Pairwise (Zby H)) (r : Reps F.K S vs ds) : C F ((ds.map Slot.sh).zip (vs.map some) ++ l) H := by
  have : ∀ {vs : List V} {ds : List D}, Reps F.K S vs ds → (∀ p ∈ (ds.map Slot.sh).zip (vs.map some), SC F S H p) ∧ ∀ p ∈ (ds.map Slot.sh).zip (vs.map some), ¬ p.1.own := fun {vs ds} r => by
    induction ds generalizing vs with
    | nil => cases r; exact ⟨fun p hp => by simp at hp, fun p hp => by simp at hp⟩
    | cons d ds ih =>
      cases r with
      | cons r1 r2 =>
        obtain ⟨i1, i2⟩ := ih r2
        refine ⟨fun p hp => ?_, fun p hp => ?_⟩
        · rcases List.mem_cons.mp hp with rfl | hp
          · exact ⟨_, rfl, r1⟩
          · exact i1 p hp
        · rcases List.mem_cons.mp hp with rfl | hp
          · exact fun z => z
          · exact i2 p hp
  obtain ⟨i1, i2⟩ := this r
  refine ⟨S, g, fun p hp => (List.mem_append.mp hp).elim (i1 p) (cc p), ?_⟩
  revert i2
  generalize (ds.map Slot.sh).zip (vs.map some) = m
  intro i2
  induction m with
  | nil => exact pw
  | cons p m ih => exact Zbx (i2 p List.mem_cons_self) (ih fun q hq => i2 q (List.mem_cons_of_mem _ hq))
theorem Z71 {t1 t2 : TG} (h1 : PG X tg t1) (h2 : PG X tg t2) : PG X tg (fun v σ H Q => t1 v σ H Q ∨ t2 v σ H Q) := ⟨fun pins s σ H v u Q I r h => h.elim (h1.run pins s σ H v u Q I r) (h2.run pins s σ H v u Q I r)⟩
theorem Zfl : ∀ {es : List Expr} {is : List Nat}, NamesAt X es is → (assignEach es X.env).length = es.length ∧ (assignEach es X.env).findIdx? (·.1) = none
  | _, _, .nil => ⟨rfl, rfl⟩
  | _, _, .cons (es := es) (x := x) (p := p) _ _ _ r => by
    obtain ⟨a, b⟩ := Zfl r
    have e : assignEach (.Name x p :: es) X.env = (false, assign (.Name x p) X.env) :: assignEach es X.env := rfl
    rw [e]
    refine ⟨by simp [a], ?_⟩
    rw [List.findIdx?_cons, b]
    rfl
theorem Znn : ∀ {es : List Expr} {is : List Nat}, NamesAt X es is → es.length = is.length
  | _, _, .nil => rfl
  | _, _, .cons _ _ _ r => by simp [Znn r]
theorem Zli {es : List Expr} {is : List Nat} {k : Nat} (hc : X.calm = true) (hN : X.N.Nodup) (n : NamesAt X es is) (hK : X.K = F.K := by rfl) : DG X F (.Tuple es k pos) (gT is) := by
  obtain ⟨e1, e2⟩ := Zfl n
  have en := Znn n
  refine ⟨⟨fun pins s σ H v u Q I r h => ?_⟩, fun x env k k' m h => ?_⟩
  · refine (Z71 (pg_tup (n := es.length) hc (n.pgs hN) e1 e2) (pg_lst (n := es.length) hc (n.pgs hN) e1 e2)).run pins s σ H v u Q I r ?_
    obtain ⟨l, env, y, hl, ho, c, h⟩ := h
    unfold gT at h
    split at h
    · rename_i ds e
      obtain ⟨a, vs, ea, hq, hlen, S, g, rp, cc, pw⟩ := c.seqT e
      cases ea
      have hn := Zob h
      refine .inl ⟨a, vs, rfl, by rw [hK]; exact hq, by omega, ?_⟩
      exact Zu2 hlen hl ho (C.spread g (fun p hp => cc p (List.mem_cons_of_mem _ hp)) pw rp) h
    · rename_i ds e
      obtain ⟨a, vs, ea, hq, hlen, S, g, rp, cc, pw⟩ := c.seqL e
      cases ea
      have hn := Zob h
      refine .inr ⟨a, vs, rfl, by rw [hK]; exact hq, by omega, ?_⟩
      exact Zu2 hlen hl ho (C.spread g (fun p hp => cc p (List.mem_cons_of_mem _ hp)) pw rp) h
    · exact h.elim
  · unfold gT at h ⊢
    split at h
    · exact Zhm m h
    · exact Zhm m h
    · exact h.elim
def wAsg (g : WG) (we : WE) : WS := fun env Q => we env (rks (fun x => g x env fun env' => Q (.nx env')) Q env)
theorem Zaq (hg : Zn5 g) (he : Mono we) : Zbl (wAsg g we) := fun env Q Q' m h => Zcf he (fun x hx => hg x env _ _ (fun e z => m _ z) hx) m h
theorem Zmy (hg : DG X F tg g) (he : DE X F W e we) (hs : swapsWithSole [tg] e pos.line X.env = pure false := by rfl) (hw : swappedStores [tg] e X.env = pure none := by rfl)
    (h1 : (assignEach [tg] X.env).map (·.2) = [assign tg X.env] := by rfl) : DS X F W (.Assign [tg] e pos) (wAsg g we) :=
  ⟨Zfg (ps_asg he.run hg.run hs hw h1) fun D σ H ⟨l, env, k, hl, q⟩ => Zxl he k q fun x hx v H1 c1 => ⟨l, env, x, k.len, k.ok, c1, hx⟩, Zaq hg.mono he.mono⟩
theorem Zbd (i : Nat) {x : Str} {p : Pos} (hN : X.N.Nodup) (he : DE X F W e we) (hi : X.N[i]? = some x := by rfl) (hx : Loc X.env.scope x := by first | exact Or.inl rfl | exact Or.inr rfl) (hs : swapsWith e (some (.Name x p)) pos.line X.env = pure false := by rfl)
    (hf : X.fn x = true ∨ X.env.scope.names.lookup x = some .local := by first | exact .inl rfl | exact .inr rfl) : DS X F W (.Assign [.Name x p] e pos) (wAsg (gN i) we) := by
  have hg : DG X F (.Name x p) (gN i) := Zd0 i hN hi hx hf
  refine ⟨Zfg (ps_set hN hi hx he.run hs hf) fun D σ H ⟨l, env, k, hl, q⟩ => Zxl he k q fun x hx v H1 c1 => ?_, Zaq hg.mono he.mono⟩
  unfold gN at hx
  split at hx
  · exact hx.2 _ _ (C.setName k.len k.ok trivial hx.1 c1)
  · exact hx.2 _ _ (C.setName k.len k.ok trivial hx.1 c1)
  · exact hx.2 _ _ (C.setName k.len k.ok trivial hx.1 c1)
  · exact hx.elim
def wIf (wc : WE) (w1 w2 : WS) : WS := fun env Q => wc env (rks (asB fun b => match b with | true => w1 env Q | false => w2 env Q) Q env)
theorem Zcu {s1 s2 : List Stmt} (hc : DT X F W e wc) (h1 : DSs X F W s1 w1) (h2 : DSs X F W s2 w2) : DS X F W (.If e s1 s2 pos) (wIf wc w1 w2) :=
  ⟨Zfg (ps_if hc.run h1.run h2.run) fun D σ H ⟨l, env, k, hl, q⟩ => Z6i hc k q fun b hb H1 c1 => by
    cases b with
    | true => exact ⟨l, env, k.at c1, hl, hb⟩
    | false => exact ⟨l, env, k.at c1, hl, hb⟩, fun env Q Q' m h => Zcf hc.mono (fun x hx => Ze3 (fun b z => match b, z with
    | true, z => h1.mono env _ _ m z
    | false, z => h2.mono env _ _ m z) hx) m h⟩
def wRet (we : WE) : WS := fun env Q => we env (rks (fun x => Q (.ret x)) Q env)
theorem Zbi (he : DE X F W e we) : DS X F W (.Return (some e) pos) (wRet we) :=
  ⟨Zfg (ps_ret he.run) fun D σ H ⟨l, env, k, hl, q⟩ => Zxl he k q fun x hx v H1 c1 => hx v H1 (C.cells (c1.sub (List.Sublist.cons_cons _ (List.sublist_append_left _ _)))), fun env Q Q' m h => Zcf he.mono (fun x z => m _ z) m h⟩
def Zim (i : Nat) : WS := fun env Q => match env[i]? with
  | some (.sh d) => Q (.ret (.sh d))
  | some (.ow d) => Q (.ret (.ow d))
  | some (.nd d) => Q (.ret (.nd d))
  | _ => False
theorem Zjh (i : Nat) {x : Str} {p : Pos} (hN : X.N[i]? = some x := by rfl) (hv : Vis X.env.scope x := by first | exact Or.inl rfl | exact Or.inr (Or.inl rfl) | exact Or.inr (Or.inr rfl)) (hd : (x == ("__debug__" : Str)) = false := by decide)
    (hcd : (x == ("__classdict__" : Str)) = false := by decide) : DS X F W (.Return (some (.Name x p)) pos) (Zim i) := by
  refine ⟨Zfg (ps_ret (pe_var hN hv hd hcd)) fun D σ H ⟨l, env, k, hl, q⟩ => ?_, fun env Q Q' m h => ?_⟩
  · unfold Zim at q
    split at q
    · rename_i d e
      obtain ⟨v, h1, h2⟩ := Zb6 k.len e
      have c1 := k.c.dup (List.mem_append_right l (Zbz h2))
      obtain ⟨u, rfl⟩ := c1.val
      exact ⟨u, h1, q u H (c1.sub (List.Sublist.cons_cons _ (List.sublist_append_left _ _)))⟩
    · rename_i d e
      obtain ⟨v, h1, h2⟩ := Zb6 k.len e
      have c1 : C F ((.ow d, v) :: (l ++ (env.zip σ).eraseIdx i)) H := (k.c.perm (List.Perm.append_left l (Zdc h2))).front
      obtain ⟨S, g, cc, _⟩ := id c1
      obtain ⟨a, ea, _⟩ := cc _ List.mem_cons_self
      subst ea
      exact ⟨.ref a, h1, q _ H (c1.sub (List.Sublist.cons_cons _ (List.sublist_append_left _ _)))⟩
    · rename_i d e
      obtain ⟨v, h1, h2⟩ := Zb6 k.len e
      have c1 : C F ((.nd d, v) :: (l ++ (env.zip σ).eraseIdx i)) H := (k.c.perm (List.Perm.append_left l (Zdc h2))).front
      obtain ⟨S, g, cc, _⟩ := id c1
      obtain ⟨a, ea, _⟩ := cc _ List.mem_cons_self
      subst ea
      exact ⟨.ref a, h1, q _ H (c1.sub (List.Sublist.cons_cons _ (List.sublist_append_left _ _)))⟩
    · exact q.elim
  · unfold Zim at h ⊢
    split at h
    · exact m _ h
    · exact m _ h
    · exact m _ h
    · exact h.elim
def wAug (i : Nat) (f : Int → Int → Int) (we : WE) : WS := fun env Q => match env[i]? with
  | some (.sh (.int n)) => we env (rks (fun x => match x with
    | .sh (.int m) => Q (.nx (env.set i (.sh (.int (f n m)))))
    | _ => False) Q env)
  | _ => False
theorem Z5h (i : Nat) {x : Str} {p : Pos} {op : Operator} {f : Int → Int → Int} (ip : PIp X op (ipI f)) (hN : X.N.Nodup) (he : DE X F W e we) (hi : X.N[i]? = some x := by rfl) (hx : Loc X.env.scope x := by first | exact Or.inl rfl | exact Or.inr rfl)
    (hf : X.fn x = true ∨ X.env.scope.names.lookup x = some .local := by first | exact .inl rfl | exact .inr rfl) : DS X F W (.AugAssign (.Name x p) op e pos) (wAug i f we) := by
  refine ⟨Zfg (ps_aug hN hi hx he.run ip hf) fun D σ H ⟨l, env, k, hl, q⟩ => ?_, fun env Q Q' m h => ?_⟩
  · unfold wAug at q
    split at q
    · rename_i n en
      obtain ⟨v, h1, h2⟩ := Zb6 k.len en
      have c0 := k.c.dup (List.mem_append_right l (Zbz h2))
      have ev := c0.shInt
      subst ev
      refine ⟨.int n, h1, Zxl he k q fun y hy u H1 c1 => ?_⟩
      split at hy
      · rename_i m
        have eu := c1.shInt
        cases eu
        have hi2 : i < env.length := (List.getElem?_eq_some_iff.mp en).1
        exact ⟨n, m, rfl, rfl, hy _ H1 (C.setName k.len k.ok trivial hi2 (c1.tail.int _))⟩
      · exact hy.elim
    · exact q.elim
  · unfold wAug at h ⊢
    split at h
    · exact Zcf he.mono (fun x z => by
        split at z
        · exact m _ z
        · exact z.elim) m h
    · exact h.elim
theorem Ztt (i : Nat) {x : Str} {p : Pos} (hN : X.N.Nodup) (he : DE X F W e we) (hi : X.N[i]? = some x := by rfl) (hx : Loc X.env.scope x := by first | exact Or.inl rfl | exact Or.inr rfl)
    (hf : X.fn x = true ∨ X.env.scope.names.lookup x = some .local := by first | exact .inl rfl | exact .inr rfl) : DS X F W (.AugAssign (.Name x p) .Add e pos) (wAug i (fun n m => n + m) we) := Z5h i ip_add hN he hi hx hf
end
end DL
set_option Elab.async false
set_option linter.all false
set_option maxRecDepth 100000
set_option maxHeartbeats 4000000
namespace DL
open PySem PySem.Spec PyProof.Rows L2
section
variable {X : Cx} {F : Fr} {W : WX} {e e2 tg : Expr} {es : List Expr} {st : Stmt} {sts : List Stmt} {we we2 wc wk : WE} {wA : WA} {w w1 w2 : WS} {g : WG} {wi : WI} {pos p : Pos}
def ItS (F : Fr) (J : It) (ds : List D) (gh : List Cell) : Prop := ∀ (l : List Cell) (H : Hp), C F (gh ++ l) H → ∀ i : Nat,
  (∀ d, ds[i]? = some d → J.go i H ∧ ∀ x H', J.yld i H x H' → C F ((.sh d, some x) :: (gh ++ l)) H') ∧ (ds.length ≤ i → J.stop i H)
def LIp (F : Fr) (W : WX) (l : List Cell) (env : En) (σ : L2.St) (Rk : It → Hp → Prop) : R (List D) → Prop
  | .ok ds => ∀ J gh H', (∀ q ∈ gh, q.1.env) → ItS F J ds gh → C F (gh ++ (l ++ env.zip σ)) H' → Rk J H'
  | .ex c fs => ∀ A d H', F.mg c = some (.ref A) → XF H' d fs → C F (l ++ env.zip σ) H' → W (.ref A) d σ H'
def LI (F : Fr) (W : WX) (w : WI) : TI := fun σ H Rk => ∃ l env, CE F l env σ H ∧ w env (LIp F W l env σ Rk)
structure DI (X : Cx) (F : Fr) (W : WX) (tg iter : Expr) (w : WI) : Prop where
  run : PI X tg iter (LI F W w)
  mono : Mono w
theorem Zyc {iter : Expr} {t t' : TI} (h : PI X tg iter t) (q : ∀ σ H R, t' σ H R → t σ H R) : PI X tg iter t' := ⟨fun pins s σ H R I z => h.run pins s σ H R I (q _ _ _ z)⟩
def iSeq (K : PySem.W.Frag) (tl : TE) : TI := fun σ H Rk => tl σ H fun x H1 => (∃ a, x = .ref a ∧ (∃ xs, SqL K H1 a xs) ∧ Rk (Itl K a) H1) ∨ ∃ a, x = .ref a ∧ (∃ xs, SqT K H1 a xs) ∧ Rk (Itt K a) H1
theorem Z5y {l : Expr} {tl : TE} (hl : PE X l tl) : PI X tg l (iSeq X.K tl) := by
  refine ⟨fun pins s σ H R I h => ?_⟩
  refine thn (hl.run pins s σ H _ I h) fun v s1 ⟨x, H1, I1, r1, q1⟩ => ?_
  rcases q1 with ⟨a, e, ⟨xs, hq⟩, q⟩ | ⟨a, e, ⟨xs, hq⟩, q⟩
  · subst e
    cases r1
    obtain ⟨its, rv, p, hz⟩ := I1.list hq
    refine wpAny_pyIter_list p.isList ?_
    refine ⟨s1.heap.objs.size, [s1.heap.objs.size], _, _, H1, rfl, I1.kept (t' := s1.toks) fun b o e => Heap.get?_push_of_some _ e, turn_list a _, ⟨_, Heap.get?_push_size _ rfl, rfl, rfl⟩, fun b hb => ?_, q⟩
    have e : b = s1.heap.objs.size := by simpa using hb
    subst e
    exact I1.fpOk (Nat.le_refl _) (I1.hok.fresh (Nat.le_refl _))
  · subst e
    cases r1
    obtain ⟨its, rv, p, hz⟩ := I1.tuple hq
    refine wpAny_pyIter_tuple (show s1.heap.IsTuple a its.toArray from p) ?_
    refine ⟨s1.heap.objs.size, [s1.heap.objs.size], _, _, H1, rfl, I1.kept (t' := s1.toks) fun b o e => Heap.get?_push_of_some _ e, turn_tuple a _, ⟨_, Heap.get?_push_size _ rfl, rfl, rfl⟩, fun b hb => ?_, q⟩
    have e : b = s1.heap.objs.size := by simpa using hb
    subst e
    exact I1.fpOk (Nat.le_refl _) (I1.hok.fresh (Nat.le_refl _))
def Zqn (k : List D → Prop) : Slot → Prop
  | .sh (.lst ds) => k ds
  | .sh (.tup ds) => k ds
  | .bo (.lst ds) => k ds
  | .ow (.lst ds) => k ds
  | .lk _ (.lst ds) => k ds
  | _ => False
def Zhv (we : WE) : WI := fun env Q => we env (rk (Zqn fun ds => Q (.ok ds)) Q)
theorem Zpf {k k' : List D → Prop} (m : ∀ ds, k ds → k' ds) {x : Slot} (h : Zqn k x) : Zqn k' x := by
  unfold Zqn at h ⊢
  split at h
  · exact m _ h
  · exact m _ h
  · exact m _ h
  · exact m _ h
  · exact m _ h
  · exact h.elim
theorem C.ghost {l : List Cell} {H : Hp} {x : Slot} {v : V} {k : List D → Prop} (c : C F ((x, some v) :: l) H) (h : Zqn k x) : ∃ (ds : List D) (y : D × Slot), k ds ∧ ((x = .ow y.1 ∧ y.2 = Slot.sh y.1) ∨ (x = y.2)) ∧ y.2.still ∧ (y.2.dat = some (.lst ds) ∨ y.2.dat = some (.tup ds)) ∧ C F ((y.2, some v) :: l) H := by
  unfold Zqn at h
  split at h
  · rename_i ds; exact ⟨ds, (.lst ds, .sh (.lst ds)), h, .inr rfl, trivial, .inl rfl, c⟩
  · rename_i ds; exact ⟨ds, (.tup ds, .sh (.tup ds)), h, .inr rfl, trivial, .inr rfl, c⟩
  · rename_i ds; exact ⟨ds, (.lst ds, .bo (.lst ds)), h, .inr rfl, trivial, .inl rfl, c⟩
  · rename_i ds; exact ⟨ds, (.lst ds, .sh (.lst ds)), h, .inl ⟨rfl, rfl⟩, trivial, .inl rfl, c.frz⟩
  · rename_i a ds; exact ⟨ds, (.lst ds, .lk a (.lst ds)), h, .inr rfl, trivial, .inl rfl, c⟩
  · exact h.elim
theorem Zph {x : Slot} (h : x.still) : x.env := by cases x <;> first | trivial | exact h.elim
theorem Zum {y : Slot} {v : Option V} (h : y.env) : ∀ q ∈ [(y, v)], (q : Cell).1.env := fun q hq => by
  have e : q = (y, v) := by simpa using hq
  subst e
  exact h
theorem Z7c {a : Addr} {ds : List D} {y : Slot} (hd : y.dat = some (.lst ds)) : ItS F (Itl F.K a) ds [(y, some (.ref a))] := by
  intro l H c i
  obtain ⟨a', vs, ea, hq, hl, S, g, r, cc, pw⟩ := C.seqL (l := l) c hd
  cases ea
  obtain ⟨_, _, _, pw'⟩ := id c
  refine ⟨fun d hd' => ?_, fun hi => ⟨vs, hq, by omega⟩⟩
  obtain ⟨u, hu, ru⟩ := r.get hd'
  refine ⟨⟨vs, u, hq, hu⟩, fun x H' ⟨e1, e2⟩ => ?_⟩
  subst e1
  have := e2 vs hq
  rw [hu] at this
  cases this
  exact C.beside g cc pw' ru
theorem Z68 {a : Addr} {ds : List D} {y : Slot} (hd : y.dat = some (.tup ds)) : ItS F (Itt F.K a) ds [(y, some (.ref a))] := by
  intro l H c i
  obtain ⟨a', vs, ea, hq, hl, S, g, r, cc, pw⟩ := C.seqT (l := l) c hd
  cases ea
  obtain ⟨_, _, _, pw'⟩ := id c
  refine ⟨fun d hd' => ?_, fun hi => ⟨vs, hq, by omega⟩⟩
  obtain ⟨u, hu, ru⟩ := r.get hd'
  refine ⟨⟨vs, u, hq, hu⟩, fun x H' ⟨e1, e2⟩ => ?_⟩
  subst e1
  have := e2 vs hq
  rw [hu] at this
  cases this
  exact C.beside g cc pw' ru
theorem Zha (he : DE X F W e we) (hK : X.K = F.K := by rfl) : DI X F W tg e (Zhv we) := by
  refine ⟨Zyc (Z5y he.run) fun σ H Rk ⟨l, env, k, q⟩ => ⟨l, env, k, Zcb he.mono q (fun x hx v H1 c1 => ?_) fun c fs z => z⟩, fun env Q Q' m h => Zbh he.mono (fun x hx => Zpf (fun ds z => m _ z) hx) m h⟩
  obtain ⟨ds, y, hk, _, hs, hd, c2⟩ := C.ghost c1 hx
  rw [hK]
  rcases hd with hd | hd
  · obtain ⟨a, vs, ea, hq, hl, _⟩ := c2.seqL hd
    cases ea
    exact .inl ⟨a, rfl, ⟨vs, hq⟩, hk _ [(y.2, some (.ref a))] H1 (Zum (Zph hs)) (Z7c hd) c2⟩
  · obtain ⟨a, vs, ea, hq, hl, _⟩ := c2.seqT hd
    cases ea
    exact .inr ⟨a, rfl, ⟨vs, hq⟩, hk _ [(y.2, some (.ref a))] H1 (Zum (Zph hs)) (Z68 hd) c2⟩
def Zoc (lo : Int) (n : Nat) : List D := (List.range n).map fun (i : Nat) => D.int (lo + (i : Int))
def Bd62 (i : Int) : Prop := -(2 ^ 62) ≤ i ∧ i < 2 ^ 62
def Zyp (k : Int → Prop) : List Slot → Prop
  | [.sh (.int j)] => k j
  | _ => False
def Zta (wA : WA) : WI := fun env Q => wA env (rk (Zyp fun j => Bd62 j ∧ Q (.ok (Zoc 0 j.toNat))) Q)
theorem Z7z {lo : Int} {n : Nat} : ItS F (Itr lo n) (Zoc lo n) [] := by
  intro l H c i
  refine ⟨fun d hd => ?_, fun hi => by
    have e : (Zoc lo n).length = n := by simp [Zoc]
    show n ≤ i
    omega⟩
  unfold Zoc at hd
  rw [List.getElem?_map] at hd
  obtain ⟨j, hj, rfl⟩ := Option.map_eq_some_iff.mp hd
  obtain ⟨h1, h2⟩ := List.getElem?_eq_some_iff.mp hj
  have hi : i < n := by simpa using h1
  have hj' : j = i := by rw [← h2]; simp
  subst hj'
  refine ⟨hi, fun x H' ⟨e1, e2⟩ => ?_⟩
  subst e1 e2
  exact c.int _
theorem Zqo {k k' : Int → Prop} (m : ∀ j, k j → k' j) {xs : List Slot} (h : Zyp k xs) : Zyp k' xs := by
  unfold Zyp at h ⊢
  split at h
  · exact m _ h
  · exact h.elim
theorem Zlw (hm : X.mg "range" = none) (ha : DA X F W [e] wA) (hg : Gl X "range" := by rfl) (hs : starEach [e] X.env = [(false, eval e X.env)] := by rfl) : DI X F W tg (.Call (.Name "range" p) [e] [] pos) (Zta wA) := by
  refine ⟨Zyc (pi_range1 hg hm ha.run hs) fun σ H Rk ⟨l, env, k, q⟩ => ⟨l, env, k, Zm9 ha.mono q (fun xs hx vs H1 hl c1 => ?_) fun c fs z => z⟩, fun env Q Q' m h => Zbh ha.mono (fun x hx => Zqo (fun j z => ⟨z.1, m _ z.2⟩) hx) m h⟩
  unfold Zyp at hx
  split at hx
  · rename_i j
    match vs, hl with
    | [v], _ =>
      have e1 := C.shInt (l := l ++ env.zip σ) c1
      cases e1
      exact ⟨j, rfl, hx.1.1, hx.1.2, hx.2 _ [] H1 (fun _ h => by simp at h) Z7z (C.tail c1)⟩
  · exact hx.elim
def Zuy (ds : List D) : List D := ds.zipIdx.map fun (d, i) => D.tup [.int (i : Int), d]
def lst1 (k : List D → Prop) : List Slot → Prop
  | [.sh (.lst ds)] => k ds
  | [.bo (.lst ds)] => k ds
  | [.ow (.lst ds)] => k ds
  | [.lk _ (.lst ds)] => k ds
  | _ => False
theorem Zsx {k k' : List D → Prop} (m : ∀ j, k j → k' j) {xs : List Slot} (h : lst1 k xs) : lst1 k' xs := by
  unfold lst1 at h ⊢
  split at h
  · exact m _ h
  · exact m _ h
  · exact m _ h
  · exact m _ h
  · exact h.elim
def Z00 (wA : WA) : WI := fun env Q => wA env (rk (lst1 fun ds => Q (.ok (Zuy ds))) Q)
theorem Z7o {a : Addr} {ds : List D} {y : Slot} (hd : y.dat = some (.lst ds)) : ItS F (Ite F.K a) (Zuy ds) [(y, some (.ref a))] := by
  intro l H c i
  obtain ⟨a', vs, ea, hq, hl, S, g, r, cc, pw⟩ := C.seqL (l := l) c hd
  cases ea
  obtain ⟨_, _, _, pw'⟩ := id c
  refine ⟨fun d hd' => ?_, fun hi => ⟨vs, hq, by
    have e : (Zuy ds).length = ds.length := by simp [Zuy]
    omega⟩⟩
  unfold Zuy at hd'
  rw [List.getElem?_map] at hd'
  obtain ⟨⟨d0, j⟩, hj, rfl⟩ := Option.map_eq_some_iff.mp hd'
  rw [List.getElem?_zipIdx] at hj
  obtain ⟨d1, h1, h2⟩ := Option.map_eq_some_iff.mp hj
  cases h2
  obtain ⟨u, hu, ru⟩ := r.get h1
  refine ⟨⟨vs, u, hq, hu⟩, fun x H' ⟨T, z, ex, hT, eH, hz⟩ => ?_⟩
  subst ex eH
  have := hz vs hq
  rw [hu] at this
  cases this
  refine C.newSh (c : C F ([(y, some (V.ref a))] ++ l) H) hT fun S' g' cc' => ?_
  have g2 : Same S' (upd S' T (.tup [.int (i : Int), u])) := Za9 (g'.sh.free hT)
  have ru' : Rep F.K S' u d0 := by
    obtain ⟨S2, g3, c3, _⟩ := c
    have s := cc' _ (List.mem_cons_self : (y, some (V.ref a)) ∈ _)
    have : ∃ vs', Reps F.K S' vs' ds ∧ SqL F.K H a vs' := by
      cases y with
      | un => cases hd
      | sh d => cases hd; obtain ⟨w, ew, rw⟩ := s; cases ew; cases rw with
        | lst hq2 r2 => exact ⟨_, r2, Zk6 g'.sh hq2⟩
      | ow d => cases hd; obtain ⟨b, eb, _, _, vs', e2, r2⟩ := s; cases eb; exact ⟨vs', r2, SqL.of e2⟩
      | bo d => cases hd; obtain ⟨b, eb, _, vs', e2, r2⟩ := s; cases eb; exact ⟨vs', r2, SqL.of e2⟩
      | bt d => cases hd; obtain ⟨b, eb, vs', e2, r2⟩ := s; cases eb; exact ⟨vs', r2, SqL.of e2⟩
      | lk b d => cases hd; obtain ⟨eb, _, _, vs', e2, r2⟩ := s; cases eb; exact ⟨vs', r2, SqL.of e2⟩
      | lo b _ d => cases hd
      | nd d => cases hd
      | nb d => cases hd
      | ln _ _ => cases hd
      | xc _ => cases hd
      | xe _ _ _ => cases hd
      | na _ _ => cases hd
      | rt _ _ => cases hd
    obtain ⟨vs', r2, hq2⟩ := this
    obtain ⟨u', hu', ru'⟩ := r2.get h1
    have := hz vs' hq2
    rw [hu'] at this
    cases this
    exact ru'
  rw [Nat.zero_add]
  exact .tup upd_same (.cons .int (.cons (ru'.mono g2) .nil))
theorem Zxw {xs : List Slot} {k : List D → Prop} {vs : List V} {l : List Cell} {H : Hp} (hx : lst1 k xs) (hl : vs.length = xs.length) (c : C F (xs.zip (vs.map some) ++ l) H) : ∃ a ds y, vs = [.ref a] ∧ k ds ∧ y.still ∧ y.dat = some (.lst ds) ∧ C F ((y, some (.ref a)) :: l) H ∧ ∃ us, SqL F.K H a us := by
  have fin : ∀ {y : Slot} {v : V} {ds : List D}, y.still → y.dat = some (.lst ds) → k ds → C F ((y, some v) :: l) H → vs = [v] → ∃ a ds y, vs = [.ref a] ∧ k ds ∧ y.still ∧ y.dat = some (.lst ds) ∧ C F ((y, some (.ref a)) :: l) H ∧ ∃ us, SqL F.K H a us := by
    intro y v ds hs hd hk c e
    obtain ⟨a, us, ea, hq, _⟩ := c.seqL hd
    cases ea
    exact ⟨a, ds, y, e, hk, hs, hd, c, us, hq⟩
  unfold lst1 at hx
  split at hx
  · match vs, hl with
    | [v], _ => exact fin (y := .sh _) trivial rfl hx c rfl
  · match vs, hl with
    | [v], _ => exact fin (y := .bo _) trivial rfl hx c rfl
  · match vs, hl with
    | [v], _ => exact fin (y := .sh _) trivial rfl hx (C.frz c) rfl
  · match vs, hl with
    | [v], _ => exact fin (y := .lk _ _) trivial rfl hx c rfl
  · exact hx.elim
theorem Z3m {elts : List Expr} {kk : Nat} {tpos : Pos} (hm : X.mg "enumerate" = none) (ha : DA X F W [e] wA) (hg : Gl X "enumerate" := by rfl) (hs : starEach [e] X.env = [(false, eval e X.env)] := by rfl) (hK : X.K = F.K := by rfl) :
    DI X F W (.Tuple elts kk tpos) (.Call (.Name "enumerate" p) [e] [] pos) (Z00 wA) := by
  refine ⟨Zyc (pi_enum hg hm ha.run hs) fun σ H Rk ⟨l, env, k, q⟩ => ⟨l, env, k, Zm9 ha.mono q (fun xs hx vs H1 hl c1 => ?_) fun c fs z => z⟩, fun env Q Q' m h => Zbh ha.mono (fun x hx => Zsx (fun j z => m _ z) hx) m h⟩
  obtain ⟨a, ds, y, ev, hk, hst, hd, c2, us, hq⟩ := Zxw hx hl c1
  rw [hK]
  exact ⟨a, us, ev, hq, hk _ [(y, some (.ref a))] H1 (Zum (Zph hst)) (Z7o hd) c2⟩
def Zm2 (g : WG) (body : WS) : List D → En → (O → Prop) → Prop
  | [], env, Q => Q (.nx env)
  | d :: ds, env, Q => g (.sh d) env fun e1 => body e1 fun o => match o with
    | .nx e => Zm2 g body ds e Q
    | .ct e => Zm2 g body ds e Q
    | .bk e => Q (.nx e)
    | .ret x => Q (.ret x)
    | .ex c fs e => Q (.ex c fs e)
def wFor (g : WG) (wi : WI) (body : WS) : WS := fun env Q => wi env (rks (fun ds => Zm2 g body ds env Q) Q env)
theorem Zle (hg : Zn5 g) (hb : Zbl w) : ∀ (ds : List D) (env : En) (Q Q' : O → Prop), (∀ r, Q r → Q' r) → Zm2 g w ds env Q → Zm2 g w ds env Q'
  | [], env, Q, Q', m, h => m _ h
  | d :: ds, env, Q, Q', m, h => hg _ _ _ _ (fun e z => hb _ _ _ (fun o z => match o, z with
    | .nx e, z => Zle hg hb ds e Q Q' m z
    | .ct e, z => Zle hg hb ds e Q Q' m z
    | .bk e, z => m _ z
    | .ret x, z => m _ z
    | .ex c fs e, z => m _ z) z) h
theorem Z7h {iter : Expr} {l : List Cell} {env : En} {σ : L2.St} {H : Hp} {Dn : Ends} {k : List D → Prop} {Rk : It → Hp → Prop} (hi : DI X F W tg iter wi) (ce : CE F l env σ H) (h : wi env (rks k (LSp F W l Dn) env))
    (h1 : ∀ ds, k ds → ∀ J gh H', (∀ q ∈ gh, q.1.env) → ItS F J ds gh → C F (gh ++ (l ++ env.zip σ)) H' → Rk J H') : LI F W wi σ H Rk :=
  ⟨l, env, ce, hi.mono env _ _ (fun r z => match r, z with
    | .ok x, z => h1 x z
    | .ex c fs, z => fun A d H' hA hx c2 => z A d σ H' hA hx ⟨ce.len, ce.ok, c2⟩) h⟩
theorem Zu7 {gh l : List Cell} {env : En} {σ : L2.St} {H : Hp} (k : CE F (gh ++ l) env σ H) : CE F l env σ H := ⟨k.len, k.ok, (by have := k.c; rw [List.append_assoc] at this; exact this.right)⟩
theorem Zfq {iter : Expr} {body : List Stmt} (hp : PassesOwn (model X.prog X.w) X.A X.env X.xe) (hc : X.calm = true) (hi : DI X F W tg iter wi) (hg : DG X F tg g) (hb : DSs X F W body w)
    (hs : ∀ x, foldedSetIterable iter X.env x = pure x := by intro _; rfl) : DS X F W (.For tg iter body [] pos) (wFor g wi w) := by
  refine ⟨Zfg (ps_for hp hc hi.run hg.run hb.run hs) fun Dn σ H ⟨l, env, k, hl, q⟩ => Z7h hi k q fun ds hds J gh H1 hgh its c1 => ?_, fun env Q Q' m h => Zcf hi.mono (fun ds z => Zle hg.mono hb.mono ds env Q Q' m z) m h⟩
  refine ⟨fun i m σ H => m = ds.length - i ∧ i ≤ ds.length ∧ ∃ env, CE F (gh ++ l) env σ H ∧ Zm2 g w (ds.drop i) env (LSp F W l Dn), ⟨ds.length, by simp, Nat.zero_le _, env, ⟨k.len, k.ok, by rw [List.append_assoc]; exact c1⟩, by simpa using hds⟩, ?_⟩
  rintro i m σ2 H2 ⟨rfl, hi2, env2, k2, q2⟩
  have c2 : C F (gh ++ (l ++ env2.zip σ2)) H2 := by rw [← List.append_assoc]; exact k2.c
  by_cases hlt : i < ds.length
  · have e1 : ds[i]? = some ds[i] := List.getElem?_eq_getElem hlt
    obtain ⟨go, yl⟩ := (its _ _ c2 i).1 _ e1
    have ed : ds.drop i = ds[i] :: ds.drop (i + 1) := List.drop_eq_getElem_cons hlt
    rw [ed] at q2
    refine .inr ⟨go, fun σ' H' => ∃ env', CE F (gh ++ l) env' σ' H' ∧ Zm2 g w (ds.drop (i + 1)) env' (LSp F W l Dn), fun σ' H' ⟨env', k', q'⟩ => ⟨ds.length - (i + 1), by omega, rfl, hlt, env', k', q'⟩, fun x H' hy => ?_⟩
    refine ⟨gh ++ l, env2, .sh ds[i], k2.len, k2.ok, ?_, hg.mono _ _ _ _ (fun e1 z σ3 H3 k3 => ?_) q2⟩
    · have := yl x H' hy
      rw [← List.append_assoc] at this
      exact this
    · refine ⟨gh ++ l, e1, k3, fun q hq => (List.mem_append.mp hq).elim (hgh q) (hl q), hb.mono _ _ _ (fun o z => ?_) z⟩
      cases o with
      | nx e => exact fun σ' H' k' => ⟨e, k', z⟩
      | ct e => exact fun σ' H' k' => ⟨e, k', z⟩
      | bk e => exact fun σ' H' k' => z σ' H' (Zu7 k')
      | ret x => exact fun v H' c3 => z v H' (by
          exact c3.sub (List.Sublist.append (List.Sublist.refl _) (List.sublist_append_right _ _)))
      | ex c fs e => exact fun A d σ' H' hA hx k' => z A d σ' H' hA hx (Zu7 k')
  · have e : i = ds.length := by omega
    subst e
    rw [List.drop_length] at q2
    exact .inl ⟨(its _ _ c2 _).2 (Nat.le_refl _), q2 σ2 H2 (Zu7 k2)⟩
def wWh (wc : WE) (body : WS) : Nat → En → (O → Prop) → Prop
  | 0, _, _ => False
  | n + 1, env, Q => wc env (rks (asB fun b => match b with
    | true => body env fun o => match o with
      | .nx e => wWh wc body n e Q
      | .ct e => wWh wc body n e Q
      | .bk e => Q (.nx e)
      | .ret x => Q (.ret x)
      | .ex c fs e => Q (.ex c fs e)
    | false => Q (.nx env)) Q env)
def Zlp (wc : WE) (body : WS) : WS := fun env Q => ∃ n, wWh wc body n env Q
theorem Zr7 (hc : Mono wc) (hb : Zbl w) : ∀ (n : Nat) (env : En) (Q Q' : O → Prop), (∀ r, Q r → Q' r) → wWh wc w n env Q → wWh wc w n env Q'
  | 0, _, _, _, _, h => h
  | n + 1, env, Q, Q', m, h => Zcf hc (fun x hx => Ze3 (fun b z => match b, z with
    | true, z => hb _ _ _ (fun o z => match o, z with
      | .nx e, z => Zr7 hc hb n e Q Q' m z
      | .ct e, z => Zr7 hc hb n e Q Q' m z
      | .bk e, z => m _ z
      | .ret x, z => m _ z
      | .ex c fs e, z => m _ z) z
    | false, z => m _ z) hx) m h
theorem Zlm {body : List Stmt} (hp : PassesOwn (model X.prog X.w) X.A X.env X.xe) (hc : DT X F W e wc) (hb : DSs X F W body w) : DS X F W (.While e body [] pos) (Zlp wc w) := by
  refine ⟨Zfg (ps_while hp hc.run hb.run) fun Dn σ H ⟨l, env, k, hl, n, q⟩ => ?_, fun env Q Q' m ⟨n, h⟩ => ⟨n, Zr7 hc.mono hb.mono n env Q Q' m h⟩⟩
  refine ⟨fun m σ H => ∃ env, CE F l env σ H ∧ wWh wc w m env (LSp F W l Dn), ⟨n, env, k, q⟩, ?_⟩
  rintro m σ2 H2 ⟨env2, k2, q2⟩
  cases m with
  | zero => exact q2.elim
  | succ m =>
    refine Z6i hc k2 q2 fun b hb2 H3 c3 => ?_
    cases b with
    | true =>
      refine ⟨fun σ' H' => ∃ env', CE F l env' σ' H' ∧ wWh wc w m env' (LSp F W l Dn), fun σ' H' ⟨env', k', q'⟩ => ⟨m, Nat.lt_succ_self _, env', k', q'⟩, l, env2, k2.at c3, hl, hb.mono _ _ _ (fun o z => ?_) hb2⟩
      cases o with
      | nx e => exact fun σ' H' k' => ⟨e, k', z⟩
      | ct e => exact fun σ' H' k' => ⟨e, k', z⟩
      | bk e => exact z
      | ret x => exact z
      | ex c fs e => exact z
    | false => exact hb2 σ2 H3 (k2.at c3)
theorem CE.own {l : List Cell} {env : En} {σ : L2.St} {H : Hp} {i : Nat} {d : D} (k : CE F l env σ H) (h : env[i]? = some (.ow d)) (hl : ∀ q ∈ l, q.1.env) :
    ∃ a, σ[i]? = some (some (.ref a)) ∧ i < env.length ∧ C F ((.ow d, some (.ref a)) :: (l ++ (env.zip σ).eraseIdx i)) H ∧ (∀ q ∈ l ++ (env.zip σ).eraseIdx i, q.1.env) := by
  obtain ⟨v, h1, h2⟩ := Zb6 k.len h
  have c1 : C F ((.ow d, v) :: (l ++ (env.zip σ).eraseIdx i)) H := (k.c.perm (List.Perm.append_left l (Zdc h2))).front
  obtain ⟨S, g, cc, _⟩ := id c1
  obtain ⟨a, ea, _⟩ := cc _ List.mem_cons_self
  subst ea
  exact ⟨a, h1, (List.getElem?_eq_some_iff.mp h).1, c1, fun q hq => (List.mem_append.mp hq).elim (hl q) fun hq => k.ok _ (List.of_mem_zip (Ztq hq)).1⟩
theorem CE.ownSet {l : List Cell} {env : En} {σ : L2.St} {H H' : Hp} {i : Nat} {d d' : D} {a : Addr} (k : CE F l env σ H) (h : env[i]? = some (.ow d)) (hs : σ[i]? = some (some (.ref a)))
    (c : C F ((.ow d', some (.ref a)) :: (l ++ (env.zip σ).eraseIdx i)) H') : CE F l (env.set i (.ow d')) σ H' := by
  obtain ⟨v, h1, h2⟩ := Zb6 k.len h
  refine ⟨by simp [k.len], fun y hy => ?_, ?_⟩
  · rcases List.mem_or_eq_of_mem_set hy with hy | rfl
    · exact k.ok y hy
    · trivial
  · have e : σ = σ.set i (some (.ref a)) := by
      apply List.ext_getElem?
      intro j
      rw [List.getElem?_set]
      split
      · subst_vars
        split
        · rw [hs]
        · rename_i hlt
          rw [List.getElem?_eq_none (by omega)]
      · rfl
    rw [e, Zg5]
    rw [e] at h2
    rw [e] at c
    have e3 : (env.zip (σ.set i (some (V.ref a)))).eraseIdx i = (env.zip σ).eraseIdx i := by rw [← e]
    have p2 := Zgy (y := ((Slot.ow d'), some (V.ref a))) (l := env.zip σ) (i := i) (by rw [← e] at h2; exact h2)
    rw [e3] at c
    exact c.back.perm (List.Perm.append_left l p2.symm)
theorem CE.slot {l : List Cell} {env : En} {σ : L2.St} {H : Hp} {i : Nat} {x : Slot} (k : CE F l env σ H) (h : env[i]? = some x) : ∃ v, σ[i]? = some v ∧ (x, v) ∈ l ++ env.zip σ := by
  obtain ⟨v, h1, h2⟩ := Zb6 k.len h
  exact ⟨v, h1, List.mem_append_right _ (Zbz h2)⟩
def wApp (i : Nat) (we : WE) : WS := fun env Q => match env[i]? with
  | some (.ow (.lst ds)) => we env (rks (fun y => match y.stab with
    | some d => ds.length < 16777216 ∧ Q (.nx (env.set i (.ow (.lst (ds ++ [d])))))
    | none => False) Q env)
  | _ => False
theorem Zc0 (i : Nat) {x : Str} {p2 apos cpos : Pos} (he : DE X F W e we) (hN : X.N[i]? = some x := by rfl) (hv : Vis X.env.scope x := by first | exact Or.inl rfl | exact Or.inr (Or.inl rfl) | exact Or.inr (Or.inr rfl)) (hd : (x == ("__debug__" : Str)) = false := by decide)
    (hcd : (x == ("__classdict__" : Str)) = false := by decide) (hs : starEach (e :: []) X.env = (false, eval e X.env) :: starEach [] X.env := by rfl)
    (hpe : ∀ {te : TE}, PE X e te → PE X (.Call (.Attribute (.Name x p2) "append" apos) [e] [] cpos) (tBM X.K "list" rAppend (tVar i) (tCons te tNil)))
    (hsw : swapsWith (.Call (.Attribute (.Name x p2) "append" apos) [e] [] cpos) none pos.line X.env = pure false := by rfl) (hK : X.K = F.K := by rfl) :
    DS X F W (.Expr (.Call (.Attribute (.Name x p2) "append" apos) [e] [] cpos) pos) (wApp i we) := by
  refine ⟨Zfg (ps_expr (hpe he.run) hsw) fun Dn σ H ⟨l, env, k, hl, q⟩ => ?_, fun env Q Q' m h => ?_⟩
  · unfold wApp at q
    split at q
    · rename_i ds en
      obtain ⟨a, hs1, hi, c1, nb⟩ := k.own en hl
      obtain ⟨S, g, rc, cc, up⟩ := c1.mut nb
      obtain ⟨vs, ev, rr⟩ := rc
      refine ⟨.ref a, hs1, .inl ⟨rfl, vs, by rw [hK]; exact SqL.of ev⟩, Zxl he k q fun y hy v H1 c2 => ?_⟩
      split at hy
      · rename_i d ed
        have c3 := c2.stab ed
        have k3 : CE F [] env σ H1 := ⟨k.len, k.ok, c3.tail.right⟩
        have k1 : CE F l env σ H1 := k.at c3.tail
        obtain ⟨a2, hs2, _, c4, nb4⟩ := (⟨k.len, k.ok, c3⟩ : CE F ((.sh d, some v) :: l) env σ H1).own en (fun q hq => by
          rcases List.mem_cons.mp hq with rfl | hq
          · trivial
          · exact hl q hq)
        rw [hs1] at hs2; cases hs2
        obtain ⟨S2, g2, rc2, cc2, up2⟩ := c4.mut nb4
        obtain ⟨vs2, ev2, rr2⟩ := rc2
        obtain ⟨w, ew, rw⟩ := cc2 (Slot.sh d, some v) (by simp)
        cases ew
        refine ⟨a, vs2, v, rfl, rfl, ev2, by rw [rr2.len, sizeLine_eq]; exact hy.1, hy.2 σ _ ?_⟩
        have c5 := up2 (.lst (vs2 ++ [v])) (.lst (ds ++ [d])) ⟨_, rfl, rr2.app (.cons rw .nil)⟩
        exact k1.ownSet en hs1 (c5.sub (List.Sublist.cons_cons _ (List.sublist_cons_self _ _)))
      · exact hy.elim
    · exact q.elim
  · unfold wApp at h ⊢
    split at h
    · exact Zcf he.mono (fun y hy => by
        split at hy
        · exact ⟨hy.1, m _ hy.2⟩
        · exact hy.elim) m h
    · exact h.elim
def Ztr (c z d : D) (k : D → Prop) : Prop := match c with
  | .lst ds => ∃ i j, z = .int i ∧ ixN ds.length i = some j ∧ k (.lst (ds.set j d))
  | .dk kds => ∃ j, z.key = some j ∧ kds.length < 16777216 ∧ k (.dk (put kds j d))
  | .dt kds => ∃ j, z.keyT = some j ∧ kds.length < 16777216 ∧ k (.dt (put kds j d))
  | _ => False
theorem Zqa {c z d : D} {k k' : D → Prop} (m : ∀ x, k x → k' x) (h : Ztr c z d k) : Ztr c z d k' := by
  cases c with
  | lst ds => obtain ⟨i, j, h1, h2, h3⟩ := h; exact ⟨i, j, h1, h2, m _ h3⟩
  | dk ds => obtain ⟨j, h1, h2, h3⟩ := h; exact ⟨j, h1, h2, m _ h3⟩
  | dt ds => obtain ⟨j, h1, h2, h3⟩ := h; exact ⟨j, h1, h2, m _ h3⟩
  | _ => exact h.elim
def wSet (i : Nat) (wk we : WE) : WS := fun env Q => match env[i]? with
  | some (.ow c) => we env (rks (fun y => match y.stab with
    | some d => wk env (rks (fun z => match z with
      | .sh zd => Ztr c zd d fun c' => Q (.nx (env.set i (.ow c')))
      | _ => False) Q env)
    | none => False) Q env)
  | _ => False
def Z73 : V → V → V → Hp → (Hp → Prop) → Prop := fun o i v H Q => ∃ a H', o = .ref a ∧ DPut H a i v H' ∧ Q H'
theorem Z1b (hu : X.A.units + 1 < cLine) : PSet X Z73 := by
  intro pins s σ H o i v ov iv u Q I r1 r2 r3 ⟨a, H', e, g, q⟩
  subst e
  cases r1
  exact d_setItem hu I g r2 r3 fun s4 I4 => ⟨H', I4, q⟩
theorem psor {t t' : TSet} (h : PSet X t) (h' : PSet X t') : PSet X (fun o i v H Q => t o i v H Q ∨ t' o i v H Q) := fun pins s σ H o i v ov iv u Q I r1 r2 r3 z => z.elim (h pins s σ H o i v ov iv u Q I r1 r2 r3) (h' pins s σ H o i v ov iv u Q I r1 r2 r3)
theorem Zy9 {κ α β : Type} [DecidableEq κ] (k : κ) (a : α) (b : β) : ∀ {xs : List (κ × α)} {ys : List (κ × β)}, xs.map Prod.fst = ys.map Prod.fst → (xs.any fun kv => decide (kv.1 = k)) = ys.any fun kv => decide (kv.1 = k)
  | [], [], _ => rfl
  | [], _ :: _, h => by simp at h
  | _ :: _, [], h => by simp at h
  | x :: xs, y :: ys, h => by
    have h1 : x.1 = y.1 := by simpa using congrArg List.head? h
    have h2 : xs.map Prod.fst = ys.map Prod.fst := by simpa using congrArg List.tail h
    rw [List.any_cons, List.any_cons, h1, Zy9 k a b h2]
theorem Zwy {κ : Type} [DecidableEq κ] {K : PySem.W.Frag} {S : Hp} {k : κ} {v : V} {d : D} (rv : Rep K S v d) : ∀ {kvs : List (κ × V)} {kds : List (κ × D)}, kvs.map Prod.fst = kds.map Prod.fst → Reps K S (kvs.map Prod.snd) (kds.map Prod.snd) →
    (kvs.map fun kv => if kv.1 = k then (kv.1, v) else kv).map Prod.fst = (kds.map fun kv => if kv.1 = k then (kv.1, d) else kv).map Prod.fst ∧
    Reps K S ((kvs.map fun kv => if kv.1 = k then (kv.1, v) else kv).map Prod.snd) ((kds.map fun kv => if kv.1 = k then (kv.1, d) else kv).map Prod.snd)
  | [], [], _, _ => ⟨rfl, .nil⟩
  | [], _ :: _, h, _ => by simp at h
  | _ :: _, [], h, _ => by simp at h
  | (k1, v1) :: kvs, (k2, d1) :: kds, h, r => by
    have h1 : k1 = k2 := by simpa using congrArg List.head? h
    have h2 : kvs.map Prod.fst = kds.map Prod.fst := by simpa using congrArg List.tail h
    subst h1
    have r' : Reps K S (v1 :: kvs.map Prod.snd) (d1 :: kds.map Prod.snd) := r
    cases r' with
    | cons r1 r2 =>
      obtain ⟨i1, i2⟩ := Zwy rv h2 r2
      by_cases e : k1 = k
      · simp only [List.map_cons, e, if_true]
        exact ⟨by rw [i1], .cons rv i2⟩
      · simp only [List.map_cons, if_neg e]
        exact ⟨by rw [i1], .cons r1 i2⟩
theorem Zy3 {κ : Type} [DecidableEq κ] {K : PySem.W.Frag} {S : Hp} {k : κ} {v : V} {d : D} (rv : Rep K S v d) {kvs : List (κ × V)} {kds : List (κ × D)} (h : kvs.map Prod.fst = kds.map Prod.fst) (r : Reps K S (kvs.map Prod.snd) (kds.map Prod.snd)) :
    (putK kvs k v).map Prod.fst = (put kds k d).map Prod.fst ∧ Reps K S ((putK kvs k v).map Prod.snd) ((put kds k d).map Prod.snd) := by
  unfold putK put
  rw [Zy9 k v d h]
  split
  · exact Zwy rv h r
  · rw [List.map_append, List.map_append, List.map_append, List.map_append, h]
    exact ⟨rfl, r.app (.cons rv .nil)⟩
theorem Zfx (i : Nat) {x : Str} {p2 tpos : Pos} (hu : X.A.units + 65 < cLine) (hk : DE X F W e2 wk) (he : DE X F W e we) (hN : X.N[i]? = some x := by rfl) (hv : Vis X.env.scope x := by first | exact Or.inl rfl | exact Or.inr (Or.inl rfl) | exact Or.inr (Or.inr rfl)) (hd : (x == ("__debug__" : Str)) = false := by decide)
    (hcd : (x == ("__classdict__" : Str)) = false := by decide) (hs : swapsWithSole [.Subscript (.Name x p2) e2 tpos] e pos.line X.env = pure false := by rfl) (hw : swappedStores [.Subscript (.Name x p2) e2 tpos] e X.env = pure none := by rfl)
    (h1 : (assignEach [.Subscript (.Name x p2) e2 tpos] X.env).map (·.2) = [assign (.Subscript (.Name x p2) e2 tpos) X.env] := by rfl)
    (ha : ∀ v, assign (.Subscript (.Name x p2) e2 tpos) X.env v = (do
      let ov ← holding [v] (eval (.Name x p2) X.env)
      let iv ← holding [v, ov] (eval e2 X.env)
      standAt tpos
      holding [v, ov, iv] (setItem ov iv v)
      release [v, ov, iv] []) := by intro _; rfl) :
    DS X F W (.Assign [.Subscript (.Name x p2) e2 tpos] e pos) (wSet i wk we) := by
  refine ⟨Zfg (ps_asg he.run (pg_sub (pe_var hN hv hd hcd) hk.run (psor set_list (Z1b (by omega))) ha) hs hw h1) fun Dn σ H ⟨l, env, k, hl, q⟩ => ?_, fun env Q Q' m h => ?_⟩
  · unfold wSet at q
    split at q
    · rename_i c en
      obtain ⟨a, hs1, hi, _, _⟩ := k.own en hl
      refine Zxl he k q fun y hy v H1 c1 => ?_
      split at hy
      · rename_i d ed
        have c2 := c1.stab ed
        have k2 : CE F ((.sh d, some v) :: l) env σ H1 := ⟨k.len, k.ok, c2⟩
        refine ⟨.ref a, hs1, ?_⟩
        refine ⟨(.sh d, some v) :: l, env, k2, hk.mono env _ _ (fun r z => ?_) hy⟩
        cases r with
        | ex cn fs => exact fun A dd H' hA hx c3 => z A dd σ H' hA hx ⟨k.len, k.ok, c3.tail⟩
        | ok zs =>
          intro u H2 c3
          dsimp only [rks] at z
          split at z
          · rename_i zd
            have k3 : CE F ((.sh zd, some u) :: (.sh d, some v) :: l) env σ H2 := ⟨k.len, k.ok, c3⟩
            have hl3 : ∀ q ∈ (Slot.sh zd, some u) :: (Slot.sh d, some v) :: l, q.1.env := fun q hq => by
              rcases List.mem_cons.mp hq with rfl | hq
              · trivial
              · rcases List.mem_cons.mp hq with rfl | hq
                · trivial
                · exact hl q hq
            obtain ⟨a2, hs2, _, c4, nb4⟩ := k3.own en hl3
            rw [hs1] at hs2; cases hs2
            obtain ⟨S2, g2, rc2, cc2, up2⟩ := c4.mut nb4
            obtain ⟨v', ev', rv⟩ := cc2 (Slot.sh d, some v) (by simp)
            cases ev'
            have kl : CE F l env σ H2 := k.at c3.tail.tail
            have fin : ∀ o' c', RC F.K S2 (some o') c' → LSp F W l Dn (.nx (env.set i (.ow c'))) → Dn.nx σ (upd H2 a o') := fun o' c' r z => by
              have c5 := up2 o' c' r
              exact z σ _ (kl.ownSet en hs1 (c5.sub (List.Sublist.cons_cons _ ((List.sublist_cons_self _ _).trans (List.sublist_cons_self _ _)))))
            cases c with
            | lst ds =>
              obtain ⟨n, j, rfl, hj, z⟩ := z
              have eu := C.shInt c3
              cases eu
              obtain ⟨vs, ev, rr⟩ := rc2
              exact .inl ⟨a, vs, n, j, rfl, rfl, ev, by rw [rr.len]; exact hj, fin (.lst (vs.set j v)) (.lst (ds.set j d)) ⟨_, rfl, rr.set j rv⟩ z⟩
            | dk kds =>
              obtain ⟨j, hj, hz, z⟩ := z
              have eu := c3.key hj
              obtain ⟨kvs, ev, hk2, rr⟩ := rc2
              have hlen : kvs.length = kds.length := by simpa using congrArg List.length hk2
              exact .inr ⟨a, _, rfl, .inl ⟨kvs, j, ev, eu, by rw [hlen, sizeLine_eq]; exact hz, rfl⟩, fin (.dK (putK kvs j v)) (.dk (put kds j d)) ⟨_, rfl, Zy3 rv hk2 rr⟩ z⟩
            | dt kds =>
              obtain ⟨j, hj, hz, z⟩ := z
              cases zd with
              | tup es =>
                obtain ⟨S0, g0, r0⟩ := c3.sh0
                obtain ⟨ta, et, ht⟩ := Zlt r0 hj
                obtain ⟨kvs, ev, hk2, rr⟩ := rc2
                have hlen : kvs.length = kds.length := by simpa using congrArg List.length hk2
                exact .inr ⟨a, _, rfl, .inr ⟨kvs, j, ta, ev, et, g0.sh _ _ ht, by rw [hlen, sizeLine_eq]; exact hz, rfl⟩, fin (.dT (putK kvs j v)) (.dt (put kds j d)) ⟨_, rfl, Zy3 rv hk2 rr⟩ z⟩
              | _ => cases hj
            | _ => exact z.elim
          · exact z.elim
      · exact hy.elim
    · exact q.elim
  · unfold wSet at h ⊢
    split at h
    · refine Zcf he.mono (fun y hy => ?_) m h
      split at hy
      · refine Zcf hk.mono (fun z hz => ?_) m hy
        split at hz
        · exact Zqa (fun c z => m _ z) hz
        · exact hz.elim
      · exact hy.elim
    · exact h.elim
end
end DL
set_option Elab.async false
set_option linter.all false
set_option maxRecDepth 100000
set_option maxHeartbeats 4000000
namespace DL
open PySem PySem.Spec PyProof.Rows L2
section
variable {X : Cx} {F : Fr} {W : WX} {e e2 tg : Expr} {es : List Expr} {we we2 wc wt : WE} {wi : WI} {pos p : Pos}
theorem Z6s {x : Str} {id : String} {r : List V → Hp → VK → Prop} {o : O1} (hc : CallR X (.builtin id) r) (sn : Zvk F (fun x H Q => r [x] H Q) o) (om : Zg1 o) (hm : X.mg x = none) (hv : bootBuiltins x = some (.builtin id)) (he : DE X F W e we)
    (hg : Gl X x := by rfl) (hn : x ≠ "__name__" := by decide) (hdb : (x == ("__debug__" : Str)) = false := by decide) (hs : starEach (e :: []) X.env = (false, eval e X.env) :: starEach [] X.env := by rfl)
    (hpl : (backTo pos (starEach [] X.env)).any (·.1) = false := by rfl) : DE X F W (.Call (.Name x p) [e] [] pos) (wUn o we) :=
  ⟨Zb5 (pe_callB hc hg hm hv (pa_cons he.run pa_nil hs) hn hdb hs hpl) fun σ H Q h => Z1o sn he h, Zai he.mono om⟩
theorem Z50 {x : Str} {id : String} {r : List V → Hp → VK → Prop} {o : O1} (hc : CallR X (.type id) r) (sn : Zvk F (fun x H Q => r [x] H Q) o) (om : Zg1 o) (hm : X.mg x = none) (hv : bootBuiltins x = some (.type id)) (he : DE X F W e we)
    (hg : Gl X x := by rfl) (hn : x ≠ "__name__" := by decide) (hdb : (x == ("__debug__" : Str)) = false := by decide) (hs : starEach (e :: []) X.env = (false, eval e X.env) :: starEach [] X.env := by rfl)
    (hpl : (backTo pos (starEach [] X.env)).any (·.1) = false := by rfl) : DE X F W (.Call (.Name x p) [e] [] pos) (wUn o we) :=
  ⟨Zb5 (pe_callTy hc hg hm hv (pa_cons he.run pa_nil hs) hn hdb hs hpl) fun σ H Q h => Z1o sn he h, Zai he.mono om⟩
theorem Z7w {x : Str} {id : String} {r : List V → Hp → VK → Prop} {o : O2} (hc : CallR X (.builtin id) r) (sn : Zjo F (fun x y H Q => r [x, y] H Q) o) (om : Zi1 o) (hm : X.mg x = none) (hv : bootBuiltins x = some (.builtin id)) (he : DE X F W e we) (he2 : DE X F W e2 we2)
    (hg : Gl X x := by rfl) (hn : x ≠ "__name__" := by decide) (hdb : (x == ("__debug__" : Str)) = false := by decide) (hs : starEach (e :: [e2]) X.env = (false, eval e X.env) :: starEach [e2] X.env := by rfl)
    (hs2 : starEach (e2 :: []) X.env = (false, eval e2 X.env) :: starEach [] X.env := by rfl) (hpl : (backTo pos (starEach [e2] X.env)).any (·.1) = false := by rfl) : DE X F W (.Call (.Name x p) [e, e2] [] pos) (wOp o we we2) :=
  ⟨Zb5 (pe_callB hc hg hm hv (pa_cons he.run (pa_cons he2.run pa_nil hs2) hs) hn hdb hs hpl) fun σ H Q h => Zze sn he he2 h, Zak he.mono he2.mono om⟩
def Z65 : D → Option Int
  | .lst ds => some (ds.length : Int)
  | .tup ds => some (ds.length : Int)
  | .str s => if s.length ≤ 16777216 then some (s.length : Int) else none
  | .dk kds => some (kds.length : Int)
  | .dt kds => some (kds.length : Int)
  | _ => none
def oLen : O1 := fun x k => match x.dat with
  | some d => (match Z65 d with | some n => k (.sh (.int n)) | none => False)
  | none => False
theorem Zfd : Zg1 oLen := fun x k k' m h => by
  unfold oLen at h ⊢
  split at h
  · split at h
    · exact m _ h
    · exact h.elim
  · exact h.elim
def Z4w (K : PySem.W.Frag) : List V → Hp → VK → Prop := fun xs H Q => (((∃ p ys, xs = [.ref p] ∧ (SqL K H p ys ∨ SqT K H p ys) ∧ Q (.int ys.length) H) ∨ (∃ z, xs = [.str z] ∧ z.length ≤ sizeLine ∧ Q (.int z.length) H)) ∨ (∃ p kvs, xs = [V.ref p] ∧ Rd H p (.dK kvs) ∧ Q (.int (kvs.length : Int)) H)) ∨ rLenT xs H Q
theorem Zzn : CallR X (.builtin "len") (Z4w X.K) := by
  refine ((call_len_seq.or call_len_str).or ?_).or call_len_dT
  intro pins s σ H xs us Q I r h
  obtain ⟨a, kvs, rfl, ha, q⟩ := h
  obtain ⟨u, rfl, ru⟩ := vals1 r
  cases ru
  exact d_len I ha fun t s' I' => ⟨.int kvs.length, H, I', ⟨t, rfl⟩, q⟩
theorem Z4e : Zvk F (fun x H Q => Z4w F.K [x] H Q) oLen := fun l H x vx ks Q hc ho hq => by
  unfold oLen at ho
  split at ho
  · rename_i d hd
    cases d with
    | lst ds =>
      obtain ⟨a, vs, ea, hl, hlen, _⟩ := hc.seqL hd
      cases ea
      exact .inl (.inl (.inl ⟨a, vs, rfl, .inl hl, by rw [hlen]; exact hq _ _ H ho (hc.tail.int _)⟩))
    | tup ds =>
      obtain ⟨a, vs, ea, hl, hlen, _⟩ := hc.seqT hd
      cases ea
      exact .inl (.inl (.inl ⟨a, vs, rfl, .inr hl, by rw [hlen]; exact hq _ _ H ho (hc.tail.int _)⟩))
    | str s =>
      obtain ⟨S, r⟩ := hc.repOf hd fun _ _ _ z => z
      cases r
      unfold Z65 at ho
      by_cases h : s.length ≤ 16777216
      · simp only [h, if_true] at ho
        exact .inl (.inl (.inr ⟨s, rfl, by rw [sizeLine_eq]; exact h, hq _ _ H ho (hc.tail.int _)⟩))
      · simp only [h, if_false] at ho
    | dk kds =>
      obtain ⟨a, kvs, ea, hr, hk, _⟩ := hc.dictK hd
      cases ea
      have hlen : kvs.length = kds.length := by simpa using congrArg List.length hk
      exact .inl (.inr ⟨a, kvs, rfl, hr, by rw [hlen]; exact hq _ _ H ho (hc.tail.int _)⟩)
    | dt kds =>
      obtain ⟨a, kvs, ea, hr, hk, _⟩ := hc.dictT hd
      cases ea
      have hlen : kvs.length = kds.length := by simpa using congrArg List.length hk
      exact .inr ⟨a, kvs, rfl, hr, by rw [hlen]; exact hq _ _ H ho (hc.tail.int _)⟩
    | _ => exact ho.elim
  · exact ho.elim
theorem Zos (hm : X.mg "len" = none) (he : DE X F W e we) (hg : Gl X "len" := by rfl) (hs : starEach (e :: []) X.env = (false, eval e X.env) :: starEach [] X.env := by rfl) (hpl : (backTo pos (starEach [] X.env)).any (·.1) = false := by rfl) (hK : X.K = F.K := by rfl) : DE X F W (.Call (.Name "len" p) [e] [] pos) (wUn oLen we) :=
  Z6s (r := Z4w F.K) (by rw [← hK]; exact Zzn) Z4e Zfd hm PySem.boot_len he hg (by decide) (by decide) hs hpl
def oSum : O1 := fun x k => match x.dat with
  | some (.lst ds) => ∃ ns : List Int, ds = ns.map D.int ∧ k (.sh (.int ns.sum))
  | _ => False
theorem Z6r (hc : X.calm = true) (hm : X.mg "sum" = none) (he : DE X F W e we) (hg : Gl X "sum" := by rfl) (hs : starEach (e :: []) X.env = (false, eval e X.env) :: starEach [] X.env := by rfl) (hpl : (backTo pos (starEach [] X.env)).any (·.1) = false := by rfl) (hK : X.K = F.K := by rfl) : DE X F W (.Call (.Name "sum" p) [e] [] pos) (wUn oSum we) :=
  Z6s (r := rSum F.K) (by rw [← hK]; exact cr_sum hc) (fun l H x vx ks Q c ho hq => by
    unfold oSum at ho
    split at ho
    · rename_i ds hd
      obtain ⟨ns, rfl, hk⟩ := ho
      obtain ⟨a, vs, ea, hl, hlen, S, g, r, _⟩ := c.seqL hd
      cases ea
      rw [r.ints] at hl
      exact ⟨a, ns, rfl, hl, hq _ _ H hk (c.tail.int _)⟩
    · exact ho.elim) (fun x k k' m h => by
    unfold oSum at h ⊢
    split at h
    · obtain ⟨ns, e1, e2⟩ := h; exact ⟨ns, e1, m _ e2⟩
    · exact h.elim) hm (by decide +kernel) he hg (by decide) (by decide) hs hpl
def imin (i j : Int) : Int := if j < i then j else i
def oMin : O2 := oI0 fun i j => .int (imin i j)
theorem Z5u {g : Int → Int → Int} {r : List V → Hp → VK → Prop} (hr : ∀ i j H Q, Q (.int (g i j)) H → r [.int i, .int j] H Q) : Zjo F (fun x y H Q => r [x, y] H Q) (oI0 fun i j => .int (g i j)) := fun l H x y vx vy ks Q hc ho hq => by
  unfold oI0 at ho
  split at ho
  · rename_i i j
    have e1 := hc.shInt
    have e2 := hc.tail.shInt
    cases e1; cases e2
    exact hr i j H Q (hq _ _ H ho (hc.tail.tail.int _))
  · exact ho.elim
theorem Z39 (hc : X.calm = true) (hm : X.mg "min" = none) (he : DE X F W e we) (he2 : DE X F W e2 we2) (hg : Gl X "min" := by rfl) (hs : starEach (e :: [e2]) X.env = (false, eval e X.env) :: starEach [e2] X.env := by rfl)
    (hs2 : starEach (e2 :: []) X.env = (false, eval e2 X.env) :: starEach [] X.env := by rfl) (hpl : (backTo pos (starEach [e2] X.env)).any (·.1) = false := by rfl) : DE X F W (.Call (.Name "min" p) [e, e2] [] pos) (wOp oMin we we2) :=
  Z7w (call_min2 hc) (Z5u (g := fun i j => if j < i then j else i) (r := fun xs H Q => ∃ i j, xs = [V.int i, V.int j] ∧ Q (.int (if j < i then j else i)) H) fun i j H Q q => ⟨i, j, rfl, q⟩) Zaz hm (by decide +kernel) he he2 hg (by decide) (by decide) hs hs2 hpl
def keyD : L2.Key → D
  | .inl i => .int i
  | .inr s => .str s
def Z6b : D → Option (List D)
  | .lst ds => some ds
  | .tup ds => some ds
  | .dk kds => some (kds.map fun kv => keyD kv.1)
  | _ => none
def Zps : O1 := fun x k => match x.dat with
  | some d => (match Z6b d with | some ds => k (.ow (.lst ds)) | none => False)
  | none => False
def Z22 (K : PySem.W.Frag) : List V → Hp → VK → Prop := fun xs H Q => (∃ p ys, xs = [.ref p] ∧ (SqL K H p ys ∨ SqT K H p ys) ∧ ∀ l, H l = none → Q (.ref l) (upd H l (.lst ys))) ∨
  (∃ (a : Addr) (kvs : List (L2.Key × V)), xs = [.ref a] ∧ Rd H a (.dK kvs) ∧ ∀ p, H p = none → Q (.ref p) (upd H p (.lst (kvs.map fun kv => kV kv.1))))
theorem Z0o {K : PySem.W.Frag} {S : Hp} (k : L2.Key) : Rep K S (kV k) (keyD k) := by cases k; exact .int; exact .str
theorem Ztj {K : PySem.W.Frag} {S : Hp} : ∀ ks : List L2.Key, Reps K S (ks.map kV) (ks.map keyD)
  | [] => .nil
  | k :: ks => .cons (Z0o k) (Ztj ks)
theorem C.newFrom {l : List Cell} {H : Hp} {a : Addr} {vs : List V} {ds : List D} {S : Hp} (g : GS F S H) (cc : ∀ q ∈ l, SC F S H q) (pw : l.Pairwise (Zby H)) (r : Reps F.K S vs ds) (ha : H a = none) : C F ((.ow (.lst ds), some (.ref a)) :: l) (upd H a (.lst vs)) := by
  have hS : S a = none := g.sh.free ha
  refine ⟨S, ⟨g.s0, g.sh.trans (Za9 ha), g.h0.trans (Za9 ha), g.fr⟩, fun q hq => ?_, List.pairwise_cons.mpr ⟨fun q hq => ?_, Zi0 pw cc (Za9 ha)⟩⟩
  · rcases List.mem_cons.mp hq with rfl | hq
    · exact ⟨a, rfl, g.h0.free ha, hS, by rw [upd_same]; exact ⟨vs, rfl, r⟩⟩
    · exact (cc q hq).grow (Same.refl S) (Za9 ha) fun b hb => .inl hb
  · have ap := Zop (d := .lst ds) ha (cc q hq)
    unfold Zby Dj at ap ⊢
    rw [Zh2 (cc q hq) (Za9 ha)]
    exact ap
theorem C.newFromT {l : List Cell} {H : Hp} {a : Addr} {vs : List V} {ds : List D} {S : Hp} (g : GS F S H) (cc : ∀ q ∈ l, SC F S H q) (pw : l.Pairwise (Zby H)) (r : Reps F.K S vs ds) (ha : H a = none) : C F ((.sh (.tup ds), some (.ref a)) :: l) (upd H a (.tup vs)) := by
  have hS : S a = none := g.sh.free ha
  refine ⟨upd S a (.tup vs), g.new ha, fun q hq => ?_, Zbx (fun z => z) (Zi0 pw cc (Za9 ha))⟩
  rcases List.mem_cons.mp hq with rfl | hq
  · exact ⟨_, rfl, .tup upd_same (r.mono (Za9 hS))⟩
  · refine (cc q hq).grow (Za9 hS) (Za9 ha) fun b hb => ?_
    by_cases e : b = a
    · subst e; exact .inr (.inl ha)
    · rw [upd_ne e] at hb; exact .inl hb
theorem Z0h : Zvk F (fun x H Q => Z22 F.K [x] H Q) Zps := fun l H x vx ks Q hc ho hq => by
  unfold Zps at ho
  split at ho
  · rename_i d hd
    have pwl : l.Pairwise (Zby H) := by obtain ⟨_, _, _, pw⟩ := hc; exact (List.pairwise_cons.mp pw).2
    cases d with
    | lst ds =>
      obtain ⟨a, vs, ea, hl, hlen, S, g, r, cc, _⟩ := hc.seqL hd
      cases ea
      exact .inl ⟨a, vs, rfl, .inl hl, fun b hb => hq _ _ _ ho (C.newFrom g (fun q hq => cc q (List.mem_cons_of_mem _ hq)) pwl r hb)⟩
    | tup ds =>
      obtain ⟨a, vs, ea, hl, hlen, S, g, r, cc, _⟩ := hc.seqT hd
      cases ea
      exact .inl ⟨a, vs, rfl, .inr hl, fun b hb => hq _ _ _ ho (C.newFrom g (fun q hq => cc q (List.mem_cons_of_mem _ hq)) pwl r hb)⟩
    | dk kds =>
      obtain ⟨a, kvs, ea, hr, hk, S, g, r, cc, pw⟩ := hc.dictK hd
      cases ea
      refine .inr ⟨a, kvs, rfl, hr, fun b hb => hq _ _ _ ho ?_⟩
      have e1 : (kvs.map fun kv => kV kv.1) = (kvs.map Prod.fst).map kV := by rw [List.map_map]; rfl
      have e2 : (kds.map fun kv => keyD kv.1) = (kds.map Prod.fst).map keyD := by rw [List.map_map]; rfl
      rw [e1, e2, hk]
      exact C.newFrom g (fun q hq => cc q (List.mem_cons_of_mem _ hq)) pwl (Ztj _) hb
    | _ => exact ho.elim
  · exact ho.elim
theorem Zeu : Zg1 Zps := fun x k k' m h => by
  unfold Zps at h ⊢
  split at h
  · split at h
    · exact m _ h
    · exact h.elim
  · exact h.elim
theorem Zvd (hc : X.calm = true) (hm : X.mg "list" = none) (he : DE X F W e we) (hg : Gl X "list" := by rfl) (hs : starEach (e :: []) X.env = (false, eval e X.env) :: starEach [] X.env := by rfl) (hpl : (backTo pos (starEach [] X.env)).any (·.1) = false := by rfl) (hK : X.K = F.K := by rfl) : DE X F W (.Call (.Name "list" p) [e] [] pos) (wUn Zps we) :=
  Z50 (r := Z22 F.K) (by rw [← hK]; exact call_list_of.or (call_listD hc)) Z0h Zeu hm (by decide +kernel) he hg (by decide) (by decide) hs hpl
def Zpt : O1 := fun x k => match x.dat with
  | some (.dk kds) => k (.ow (.dk kds))
  | _ => False
theorem Zvi (hm : X.mg "dict" = none) (he : DE X F W e we) (hg : Gl X "dict" := by rfl) (hs : starEach (e :: []) X.env = (false, eval e X.env) :: starEach [] X.env := by rfl) (hpl : (backTo pos (starEach [] X.env)).any (·.1) = false := by rfl) : DE X F W (.Call (.Name "dict" p) [e] [] pos) (wUn Zpt we) :=
  Z50 call_dictD (fun l H x vx ks Q hc ho hq => by
    unfold Zpt at ho
    split at ho
    · rename_i kds hd
      obtain ⟨a, kvs, ea, hr, hk, S, g, r, cc, pw⟩ := hc.dictK hd
      cases ea
      refine ⟨a, kvs, rfl, hr, fun b hb => hq _ _ _ ho ?_⟩
      have hS : S b = none := g.sh.free hb
      have pwl := (List.pairwise_cons.mp pw).2
      refine ⟨S, ⟨g.s0, g.sh.trans (Za9 hb), g.h0.trans (Za9 hb), g.fr⟩, fun q hq => ?_, List.pairwise_cons.mpr ⟨fun q hq => ?_, Zi0 pwl (fun q hq => cc q (List.mem_cons_of_mem _ hq)) (Za9 hb)⟩⟩
      · rcases List.mem_cons.mp hq with rfl | hq
        · exact ⟨b, rfl, g.h0.free hb, hS, by rw [upd_same]; exact ⟨kvs, rfl, hk, r⟩⟩
        · exact (cc q (List.mem_cons_of_mem _ hq)).grow (Same.refl S) (Za9 hb) fun c hc => .inl hc
      · have ap := Zop (d := .dk kds) hb (cc q (List.mem_cons_of_mem _ hq))
        unfold Zby Dj at ap ⊢
        rw [Zh2 (cc q (List.mem_cons_of_mem _ hq)) (Za9 hb)]
        exact ap
    · exact ho.elim) (fun x k k' m h => by
    unfold Zpt at h ⊢
    split at h
    · exact m _ h
    · exact h.elim) hm (by decide +kernel) he hg (by decide) (by decide) hs hpl
def tyD : D → String
  | .non => "NoneType"
  | .bl _ => "bool"
  | .int _ => "int"
  | .str _ => "str"
  | .tup _ => "tuple"
  | .lst _ => "list"
  | .dk _ => "dict"
  | .dt _ => "dict"
  | .obj _ _ _ => "dict"
  | .own _ => "dict"
  | .rf _ => "dict"
  | .fn _ => "dict"
  | .lso _ => "dict"
def D.noObj : D → Bool
  | .obj _ _ _ => false
  | .own _ => false
  | .rf _ => false
  | .fn _ => false
  | .lso _ => false
  | _ => true
def isD (d : D) (T : String) : Bool := (tyD d == T) || (tyD d == "bool" && T == "int")
def oIsi (T : String) : O1 := fun x k => match x.dat with
  | some d => d.noObj = true ∧ k (.sh (.bl (isD d T)))
  | none => False
theorem C.ty {l : List Cell} {H : Hp} {x : Slot} {v : V} {d : D} (h : C F ((x, some v) :: l) H) (hx : x.dat = some d) (hn : d.noObj = true) : TyX F.K H v (.type (tyD d)) := by
  obtain ⟨S, g, cc, _⟩ := h
  have s := cc _ List.mem_cons_self
  have one : ∀ {d : D} {a : Addr}, RC F.K S (H a) d → TyX F.K H (.ref a) (.type (tyD d)) := fun {d a} r => by
    cases d with
    | lst ds => obtain ⟨vs, e2, r⟩ := r; exact .base (.lst e2)
    | dk kds => obtain ⟨kvs, e2, _⟩ := r; exact .base (.dK e2)
    | dt kds => obtain ⟨kvs, e2, _⟩ := r; exact .base (.dT e2)
    | _ => exact r.elim
  cases x with
  | un => cases hx
  | sh d' =>
    cases hx
    obtain ⟨u, e, r⟩ := s
    cases e
    cases r with
    | non => exact .base .non
    | bl => exact .base (.bl _)
    | int => exact .base (.int _)
    | str => exact .base (.str _)
    | tup hq _ => exact .base (.tup (g.sh _ _ hq))
    | lst hq _ =>
      rcases hq with hq | ⟨o, its, n, hk, hc, _⟩
      · rcases hq with hq | ⟨o, hq⟩
        · exact .base (.lst (g.sh _ _ hq))
        · exact .base (.frz (g.sh _ _ hq))
      · exact .kList hk hc
    | dk hq _ _ =>
      rcases hq with hq | ⟨o, hq⟩
      · exact .base (.dK (g.sh _ _ hq))
      · exact .fDict (g.sh _ _ hq)
    | dt hq _ _ => exact .base (.dT (g.sh _ _ hq))
    | obj _ _ _ _ => cases hn
    | rf => cases hn
    | fn _ => cases hn
  | ow d' => cases hx; obtain ⟨a, e, _, _, r⟩ := s; cases e; exact one r
  | bo d' => cases hx; obtain ⟨a, e, _, r⟩ := s; cases e; exact one r
  | bt d' => cases hx; obtain ⟨a, e, r⟩ := s; cases e; exact one r
  | lk a d' => cases hx; obtain ⟨e, _, _, r⟩ := s; cases e; exact one r
  | lo a d' => cases hx; obtain ⟨e, _, _, eu, od, kvs, e3, k, r⟩ := s; have e2 := eu.trans e3; cases e; exact .fDict e2
  | nd d' => cases hx
  | nb d' => cases hx
  | ln _ _ => cases hx
  | xc _ => cases hx
  | xe _ _ _ => cases hx
  | na _ _ => cases hx
  | rt _ _ => cases hx
def Zpc (T : String) : Prop := ∀ t ∈ ["NoneType", "bool", "int", "str", "tuple", "list", "dict"], kitB t T = some ((t == T) || (t == "bool" && T == "int"))
theorem Z3u (d : D) : tyD d ∈ ["NoneType", "bool", "int", "str", "tuple", "list", "dict"] := by cases d <;> simp [tyD]
theorem Zka {T : Str} {U : String} {tp : Pos} (hm : X.mg "isinstance" = none) (hT : X.mg T = none) (hv : bootBuiltins T = some (.type U)) (kit : Zpc U) (he : DE X F W e we) (hcl : ClsV (.ty U) (.type U)) (hg : Gl X "isinstance" := by rfl) (hgT : Gl X T := by rfl) (hn : T ≠ "__name__" := by decide) (hdT : (T == ("__debug__" : Str)) = false := by decide)
    (hs : starEach (e :: [.Name T tp]) X.env = (false, eval e X.env) :: starEach [.Name T tp] X.env := by rfl) (hpl : (backTo pos (starEach [.Name T tp] X.env)).any (·.1) = false := by rfl) (hK : X.K = F.K := by rfl) :
    DE X F W (.Call (.Name "isinstance" p) [e, .Name T tp] [] pos) (wUn (oIsi U) we) := by
  refine ⟨Zb5 (pe_callB (r := rIsi X.K) call_isi hg hm (by decide +kernel) (pa_cons he.run (pa_cons (pe_bltn (v := .ty U) hgT hT hv rfl hn hdT) pa_nil) hs) (by decide) (by decide) hs hpl) fun σ H Q ⟨l, env, k, q⟩ => ?_, Zai he.mono fun x k k' m h => ?_⟩
  · refine ⟨l, env, k, Zcb he.mono q (fun x hx v H1 c1 => ?_) fun c fs z => z⟩
    unfold oIsi at hx
    split at hx
    · rename_i d hd
      refine ⟨v, .ty U, .type (tyD d), .type U, isD d U, rfl, hcl, by rw [hK]; exact c1.ty hd hx.1, kit_ty (kit _ (Z3u d)), hx.2 _ H1 (c1.tail.bl _)⟩
    · exact hx.elim
  · unfold oIsi at h ⊢
    split at h
    · exact ⟨h.1, m _ h.2⟩
    · exact h.elim
abbrev WO := En → (R (Option Int) → Prop) → Prop
def LOp (F : Fr) (W : WX) (l : List Cell) (env : En) (σ : L2.St) (Q : Option Int → Hp → Prop) : R (Option Int) → Prop
  | .ok o => ∀ H', C F (l ++ env.zip σ) H' → Q o H'
  | .ex c fs => ∀ A d H', F.mg c = some (.ref A) → XF H' d fs → C F (l ++ env.zip σ) H' → W (.ref A) d σ H'
def LO (F : Fr) (W : WX) (w : WO) : TO := fun σ H Q => ∃ l env, CE F l env σ H ∧ w env (LOp F W l env σ Q)
structure DO (X : Cx) (F : Fr) (W : WX) (e : Option Expr) (w : WO) : Prop where
  run : PO X e (LO F W w)
  mono : Mono w
theorem Z2i {o : Option Expr} {t t' : TO} (h : PO X o t) (q : ∀ σ H Q, t' σ H Q → t σ H Q) : PO X o t' := ⟨fun pins s σ H Q I z => h.run pins s σ H Q I (q _ _ _ z)⟩
def wNoP : WO := fun _ Q => Q (.ok none)
def Ztx (we : WE) : WO := fun env Q => we env (rk (fun x => match x with | .sh (.int i) => Q (.ok (some i)) | _ => False) Q)
theorem Zun : DO X F W none wNoP := ⟨Z2i po_none fun σ H Q ⟨l, env, k, q⟩ => q H k.c, fun _ _ _ m h => m _ h⟩
theorem Znu (he : DE X F W e we) : DO X F W (some e) (Ztx we) := by
  refine ⟨Z2i (po_some he.run) fun σ H Q ⟨l, env, k, q⟩ => ⟨l, env, k, Zcb he.mono q (fun x hx v H1 c1 => ?_) fun c fs z => z⟩, fun env Q Q' m h => Zbh he.mono (fun x hx => ?_) m h⟩
  · split at hx
    · rename_i i
      have e1 := c1.shInt
      cases e1
      exact ⟨i, rfl, hx H1 c1.tail⟩
    · exact hx.elim
  · split at hx
    · exact m _ hx
    · exact hx.elim
def cutD {α : Type} (xs : List α) (lo hi : Option Int) : List α := (xs.drop (HT.sIx xs.length 0 lo)).take (HT.sIx xs.length xs.length hi - HT.sIx xs.length 0 lo)
def Zkp (x : Slot) (lo hi : Option Int) (k : Slot → Prop) : Prop := match x.dat with
  | some (.lst ds) => k (.ow (.lst (cutD ds lo hi)))
  | some (.tup ds) => ¬ (HT.sIx ds.length 0 lo = 0 ∧ HT.sIx ds.length ds.length hi = ds.length) ∧ k (.sh (.tup (cutD ds lo hi)))
  | some (.str s) => s.length ≤ 16777216 ∧ k (.sh (.str (cutS s lo hi)))
  | _ => False
theorem Zms {x : Slot} {lo hi : Option Int} {k k' : Slot → Prop} (m : ∀ z, k z → k' z) (h : Zkp x lo hi k) : Zkp x lo hi k' := by
  unfold Zkp at h ⊢
  split at h
  · exact m _ h
  · exact ⟨h.1, m _ h.2⟩
  · exact ⟨h.1, m _ h.2⟩
  · exact h.elim
def Zpe (we : WE) (wl wh : WO) : WE := fun env Q => we env (rk (fun x => wl env (rk (fun lo => wh env (rk (fun hi => Zkp x lo hi fun z => Q (.ok z)) Q)) Q)) Q)
def rSlA (K : PySem.W.Frag) : V → Option Int → Option Int → Hp → VK → Prop := fun x lo hi H Q => (rSlL K x lo hi H Q ∨ rSlT K x lo hi H Q) ∨ rSlS x lo hi H Q
theorem Zwp {β : Type} {w : WO} {l : List Cell} {env : En} {σ : L2.St} {k : Option Int → Prop} {Q : R β → Prop} {Q' : Option Int → Hp → Prop} (m : Mono w) (h : w env (rk k Q))
    (h1 : ∀ x, k x → ∀ H', C F (l ++ env.zip σ) H' → Q' x H') (h2 : ∀ c fs, Q (.ex c fs) → LOp F W l env σ Q' (.ex c fs)) : w env (LOp F W l env σ Q') :=
  m env _ _ (fun r q => match r, q with
    | .ok x, q => h1 x q
    | .ex c fs, q => h2 c fs q) h
theorem Zm7 {lo hi : Option Expr} {wl wh : WO} {p2 : Pos} (he : DE X F W e we) (hl : DO X F W lo wl) (hh : DO X F W hi wh) (hK : X.K = F.K := by rfl) : DE X F W (.Subscript e (.Slice lo hi none p2) pos) (Zpe we wl wh) := by
  refine ⟨Zb5 (pe_slice (r := rSlA F.K) (by rw [← hK]; exact (sl_list.or sl_tup).or sl_str) he.run hl.run hh.run) fun σ H Q ⟨l, env, k, q⟩ => ⟨l, env, k, Zcb he.mono q (fun x hx v H1 c1 => ?_) fun c fs z => z⟩, fun env Q Q' m h => Zbh he.mono (fun x hx => Zbh hl.mono (fun lo hlo => Zbh hh.mono (fun hi hhi => Zms (fun z hz => m _ hz) hhi) m hlo) m hx) m h⟩
  refine ⟨(x, some v) :: l, env, k.to1 c1, Zwp hl.mono hx (fun a ha H2 c2 => ?_) fun c fs z => fun A d H' hA hx c3 => z A d H' hA hx c3.tail⟩
  refine ⟨(x, some v) :: l, env, k.to1 c2, Zwp hh.mono ha (fun b hb H3 c3 => ?_) fun c fs z => fun A d H' hA hx c3 => z A d H' hA hx c3.tail⟩
  have c4 : C F ((x, some v) :: (l ++ env.zip σ)) H3 := c3
  have pwl : (l ++ env.zip σ).Pairwise (Zby H3) := by obtain ⟨_, _, _, pw⟩ := c4; exact (List.pairwise_cons.mp pw).2
  unfold Zkp at hb
  split at hb
  · rename_i ds hd
    obtain ⟨p, vs, ea, hq, hlen, S, g, r, cc, _⟩ := c4.seqL hd
    cases ea
    refine .inl (.inl ⟨p, vs, rfl, hq, fun n hn => hb _ _ (C.newFrom g (fun q hq => cc q (List.mem_cons_of_mem _ hq)) pwl ?_ hn)⟩)
    unfold cutV cutD
    rw [hlen]
    exact (r.drop _).take _
  · rename_i ds hd
    obtain ⟨p, vs, ea, hq, hlen, S, g, r, cc, _⟩ := c4.seqT hd
    cases ea
    refine .inl (.inr ⟨p, vs, rfl, hq, by rw [hlen]; exact hb.1, fun n hn => hb.2 _ _ (C.newFromT g (fun q hq => cc q (List.mem_cons_of_mem _ hq)) pwl ?_ hn)⟩)
    unfold cutV cutD
    rw [hlen]
    exact (r.drop _).take _
  · rename_i s hd
    obtain ⟨S, r⟩ := c4.repOf hd fun _ _ _ z => z
    cases r
    exact .inr ⟨s, rfl, by rw [sizeLine_eq]; exact hb.1, hb.2 _ H3 (c4.tail.str _)⟩
  · exact hb.elim
end
end DL
set_option Elab.async false
set_option linter.all false
set_option maxRecDepth 100000
set_option maxHeartbeats 4000000
namespace DL
open PySem PySem.Spec PyProof.Rows L2
theorem C.revalue {F : Fr} {H : Hp} : ∀ {l1 l2 : List Cell} {a : List Cell}, l1.length = l2.length → (∀ (i : Nat) p q, l1[i]? = some p → l2[i]? = some q → p = q ∨ q.1 = .un) → C F (a ++ l1) H → C F (a ++ l2) H
  | [], [], a, _, _, h => h
  | [], _ :: _, _, h, _, _ => by simp at h
  | _ :: _, [], _, h, _, _ => by simp at h
  | p :: l1, q :: l2, a, hl, hr, h => by
    have h1 : C F ((a ++ [q]) ++ l1) H := by
      rcases hr 0 p q rfl rfl with rfl | e
      · rw [List.append_assoc]; exact h
      · have h2 : C F (a ++ l1) H := h.front.tail
        have h3 : C F ((.un, q.2) :: (a ++ l1)) H := h2.un _
        rw [List.append_assoc]
        have : q = (.un, q.2) := by rw [← e]
        rw [this]
        exact h3.back
    have h2 := C.revalue (l1 := l1) (l2 := l2) (a := a ++ [q]) (by simpa using hl) (fun i p' q' e1 e2 => hr (i + 1) p' q' (by simpa using e1) (by simpa using e2)) h1
    rw [List.append_assoc] at h2
    exact h2
section
variable {X : Cx} {F : Fr} {W : WX} {e e2 tg : Expr} {es : List Expr} {st : Stmt} {we we2 wc wt : WE} {wi : WI} {w : WS} {pos p : Pos}
theorem CE.un {l : List Cell} {env : En} {σ : L2.St} {H : Hp} (k : CE F l env σ H) (i : Nat) (v : Option V) : CE F l (env.set i .un) (σ.set i v) H := by
  refine ⟨by simp [k.len], fun y hy => ?_, ?_⟩
  · rcases List.mem_or_eq_of_mem_set hy with hy | rfl
    · exact k.ok y hy
    · trivial
  · rw [Zg5]
    refine C.revalue (l1 := env.zip σ) (by simp) (fun j p q h1 h2 => ?_) k.c
    rw [List.getElem?_set] at h2
    split at h2
    · split at h2
      · cases h2; exact .inr rfl
      · cases h2
    · rw [h1] at h2; cases h2; exact .inl rfl
theorem Zrx {α : Type} {l : List α} {i : Nat} {x : α} (h : l[i]? = some x) : l.set i x = l := by
  apply List.ext_getElem?
  intro j
  rw [List.getElem?_set]
  split
  · subst_vars
    split
    · rw [h]
    · rename_i hlt
      rw [List.getElem?_eq_none (by omega)]
  · rfl
def wFgt (i : Nat) (w : WS) : WS := fun env Q => w (env.set i .un) Q
theorem Z24 (i : Nat) (h : DS X F W st w) : DS X F W st (wFgt i w) := ⟨Zfg h.run fun D σ H ⟨l, env, k, hl, q⟩ => ⟨l, env.set i .un, by
    by_cases hi : i < σ.length
    · have e : σ.set i σ[i] = σ := Zrx (List.getElem?_eq_getElem hi)
      have := k.un i σ[i]
      rw [e] at this
      exact this
    · have e : env.set i .un = env := List.set_eq_of_length_le (by rw [k.len]; omega)
      rw [e]; exact k, hl, q⟩, fun env Q Q' m q => h.mono _ _ _ m q⟩
def rk0 {α : Type} (k : α → Prop) : R α → Prop
  | .ok x => k x
  | .ex _ _ => False
def W0 : WX := fun _ _ _ _ => False
def lcL (i : Nat) (wt we : WE) : List D → En → List D → (List D → Prop) → Prop
  | [], _, acc, k => k acc
  | d :: ds, env, acc, k => wt (env.set i (.sh d)) (rk0 (asB fun b => match b with
    | true => we (env.set i (.sh d)) (rk0 fun y => match y.stab with
      | some z => acc.length < 16777216 ∧ lcL i wt we ds env (acc ++ [z]) k
      | none => False)
    | false => lcL i wt we ds env acc k))
def unAt (env : En) (i : Nat) : Prop := match env[i]? with
  | some .un => True
  | _ => False
def wLc (i : Nat) (wi : WI) (wt we : WE) : WE := fun env Q => unAt env i ∧ wi env (rk (fun ds => lcL i wt we ds env [] fun acc => Q (.ok (.ow (.lst acc)))) Q)
theorem Zwk {α : Type} {w : En → (R α → Prop) → Prop} (m : Mono w) {k k' : α → Prop} {env : En} (hk : ∀ x, k x → k' x) (h : w env (rk0 k)) : w env (rk0 k') :=
  m env _ _ (fun r q => match r, q with
    | .ok x, q => hk x q
    | .ex c fs, q => q) h
theorem Zq1 {i : Nat} (mt : Mono wt) (me : Mono we) : ∀ {ds : List D} {env : En} {acc : List D} {k k' : List D → Prop}, (∀ a, k a → k' a) → lcL i wt we ds env acc k → lcL i wt we ds env acc k'
  | [], _, _, _, _, m, h => m _ h
  | d :: ds, env, acc, k, k', m, h => Zwk mt (fun x hx => Ze3 (fun b z => match b, z with
    | true, z => Zwk me (fun y hy => by
      split at hy
      · exact ⟨hy.1, Zq1 mt me m hy.2⟩
      · exact hy.elim) z
    | false, z => Zq1 mt me m z) hx) h
theorem Zr8 {i : Nat} (mi : Mono wi) (mt : Mono wt) (me : Mono we) : Mono (wLc i wi wt we) := fun env Q Q' m h => ⟨h.1, Zbh mi (fun ds z => Zq1 mt me (fun a z => m _ z) z) m h.2⟩
theorem Zq5 {k : Bool → Prop} {x : Slot} (h : asB k x) : ∃ b, x = .sh (.bl b) ∧ k b := by
  unfold asB at h
  split at h
  · exact ⟨_, rfl, h⟩
  · exact h.elim
theorem Zv9 {iter : Expr} {x : Str} {px : Pos} {i : Nat} {tt : TT} {te : TE} (hi : DI X F W (.Name x px) iter wi) (mt : Mono wt) (me : Mono we) (htt : ∀ σ H Q, LT F W0 wt σ H Q → tt σ H Q) (hte : ∀ σ H Q, LE F W0 we σ H Q → te σ H Q)
    {σ : L2.St} {H : Hp} {Q : VK} {l : List Cell} {env : En} {Qe : R Slot → Prop} (k : CE F l env σ H) (q : wLc i wi wt we env Qe) (h1 : ∀ acc v H', Qe (.ok (.ow (.lst acc))) → C F ((.ow (.lst acc), some v) :: (l ++ env.zip σ)) H' → Q v H') (h2 : ∀ c fs, Qe (.ex c fs) → LIp F W l env σ (fun _ _ => True) (.ex c fs)) :
    tLc (LI F W wi) (gName i) tt te [i] σ H Q := by
  obtain ⟨hu, q⟩ := q
  have hun : env[i]? = some .un := by
    unfold unAt at hu
    split at hu
    · assumption
    · exact hu.elim
  refine ⟨l, env, k, hi.mono env _ _ (fun r z => ?_) q⟩
  cases r with
  | ex c fs => exact h2 c fs z
  | ok ds =>
    intro J gh H1 hgh its c1 Da hD
    have hne : ∀ q ∈ gh ++ (l ++ env.zip σ), ∀ d a, q = (Slot.bt d, some (V.ref a)) → a ≠ Da := fun q hq d a e z => by
      obtain ⟨S, g, cc, _⟩ := c1
      have s := cc q hq
      subst e z
      obtain ⟨b, eb, r⟩ := s
      cases eb
      exact r.nn hD
    have cacc : C F ((.ow (.lst []), some (.ref Da)) :: (gh ++ (l ++ env.zip σ))) (upd H1 Da (.lst [])) := c1.newOw hD fun S g a => ⟨[], rfl, .nil⟩
    refine ⟨fun j m H => m = ds.length - j ∧ j ≤ ds.length ∧ ∃ acc, C F ((.ow (.lst acc), some (.ref Da)) :: (gh ++ (l ++ env.zip σ))) H ∧ lcL i wt we (ds.drop j) env acc fun acc => Qe (.ok (.ow (.lst acc))), ⟨ds.length, by simp, Nat.zero_le _, [], cacc, by rw [List.drop_zero]; exact z⟩, ?_⟩
    rintro j m H2 ⟨rfl, hj, acc, c2, q2⟩
    by_cases hlt : j < ds.length
    · have e1 : ds[j]? = some ds[j] := List.getElem?_eq_getElem hlt
      have c2' : C F (gh ++ ((.ow (.lst acc), some (.ref Da)) :: (l ++ env.zip σ))) H2 := c2.back
      obtain ⟨go, yl⟩ := (its _ _ c2' j).1 _ e1
      have ed : ds.drop j = ds[j] :: ds.drop (j + 1) := List.drop_eq_getElem_cons hlt
      rw [ed] at q2
      refine .inr ⟨go, fun H' => ∃ acc, C F ((.ow (.lst acc), some (.ref Da)) :: (gh ++ (l ++ env.zip σ))) H' ∧ lcL i wt we (ds.drop (j + 1)) env acc fun acc => Qe (.ok (.ow (.lst acc))), fun H' ⟨acc', c', q'⟩ => ⟨ds.length - (j + 1), by omega, rfl, hlt, acc', c', q'⟩, fun y H' hy => ?_⟩
      have c3 := yl y H' hy
      -- the block's state
      have wipe1 : wipe σ [i] = σ.set i none := rfl
      have k0 : CE F ((.sh ds[j], some y) :: (.ow (.lst acc), some (.ref Da)) :: (gh ++ l)) env σ H' := ⟨k.len, k.ok, by
        have : C F ((.sh ds[j], some y) :: (.ow (.lst acc), some (.ref Da)) :: (gh ++ (l ++ env.zip σ))) H' := C.perm c3 (List.Perm.cons _ List.perm_middle)
        show C F ((.sh ds[j], some y) :: (.ow (.lst acc), some (.ref Da)) :: ((gh ++ l) ++ env.zip σ)) H'
        rw [List.append_assoc]; exact this⟩
      have hi2 : i < env.length := (List.getElem?_eq_some_iff.mp hun).1
      have k1 := k0.un i none
      rw [Zrx hun] at k1
      have k2 : CE F ((.ow (.lst acc), some (.ref Da)) :: (gh ++ l)) (env.set i (.sh ds[j])) ((σ.set i none).set i (some y)) H' := C.setName (x := .sh ds[j]) k1.len k1.ok trivial hi2 k1.c
      -- back to the names ahead of it
      have back : ∀ {a : List Cell} {H5 : Hp}, C F (a ++ ((.ow (.lst acc), some (.ref Da)) :: (gh ++ l) ++ (env.set i (.sh ds[j])).zip ((σ.set i none).set i (some y)))) H5 → C F (a ++ ((.ow (.lst acc), some (.ref Da)) :: (gh ++ (l ++ env.zip σ)))) H5 := fun {a H5} c => by
        have : C F ((a ++ ((.ow (.lst acc), some (.ref Da)) :: (gh ++ l))) ++ env.zip σ) H5 := by
          refine C.revalue (l1 := (env.set i (.sh ds[j])).zip ((σ.set i none).set i (some y))) (by simp) (fun n p q e1 e2 => ?_) (by rw [List.append_assoc]; exact c)
          rw [List.set_set, Zg5, List.getElem?_set] at e1
          split at e1
          · subst_vars
            obtain ⟨v, e3, e4⟩ := Zb6 k.len hun
            rw [e4] at e2
            cases e2
            exact .inr rfl
          · rw [e1] at e2; cases e2; exact .inl rfl
        rw [List.append_assoc] at this
        have e : ((Slot.ow (D.lst acc), some (V.ref Da)) :: (gh ++ l)) ++ env.zip σ = (Slot.ow (D.lst acc), some (V.ref Da)) :: (gh ++ (l ++ env.zip σ)) := by rw [List.cons_append, List.append_assoc]
        rw [e] at this
        exact this
      refine ⟨by rw [wipe1]; show (((σ.set i none).set i (some y)).set i none) = σ.set i none; rw [List.set_set, List.set_set], ?_⟩
      rw [wipe1]
      refine htt _ _ _ ⟨_, _, k2, mt _ _ _ (fun r z => ?_) q2⟩
      cases r with
      | ex c fs => exact z.elim
      | ok bx =>
        obtain ⟨b, eb, z⟩ := Zq5 (show asB _ bx from z)
        subst eb
        refine ⟨b, rfl, fun H4 c4 => ?_⟩
        cases b with
        | false =>
          rw [if_neg Bool.false_ne_true]
          exact ⟨acc, back (a := []) c4, z⟩
        | true =>
          rw [if_pos rfl]
          refine hte _ _ _ ⟨_, _, k2.at c4, me _ _ _ (fun r z => ?_) z⟩
          cases r with
          | ex c fs => exact z.elim
          | ok yv =>
            intro u H5 c5
            dsimp only [rk0] at z
            split at z
            · rename_i zd ez
              have c6 := c5.stab ez
              have c7 := back (a := [(.sh zd, some u)]) c6
              have c8 : C F ((.ow (.lst acc), some (.ref Da)) :: (.sh zd, some u) :: (gh ++ (l ++ env.zip σ))) H5 := C.swap c7
              obtain ⟨S, g, cc, pw⟩ := id c8
              have so := cc _ List.mem_cons_self
              obtain ⟨a0, ea, h0, hS, vs, ev, rr⟩ := so
              cases ea
              obtain ⟨u', eu, ru⟩ := cc (Slot.sh zd, some u) (by simp)
              cases eu
              refine ⟨vs, ev, by rw [rr.len, sizeLine_eq]; exact z.1, acc ++ [zd], ?_, z.2⟩
              obtain ⟨p1, p2⟩ := List.pairwise_cons.mp pw
              have na : ∀ q ∈ gh ++ (l ++ env.zip σ), Da ∉ fpC H5 q := fun q hq => (p1 q (List.mem_cons_of_mem _ hq)).no trivial (by simp [fpC])
              have p3 : (gh ++ (l ++ env.zip σ)).Pairwise (Zby H5) := (List.pairwise_cons.mp p2).2
              refine ⟨S, g.mut hS h0, fun q hq => ?_, List.pairwise_cons.mpr ⟨fun q hq => ?_, Zwn p3 na⟩⟩
              · rcases List.mem_cons.mp hq with rfl | hq
                · exact ⟨Da, rfl, h0, hS, by rw [upd_same]; exact ⟨_, rfl, rr.app (.cons ru .nil)⟩⟩
                · have s := cc q (List.mem_cons_of_mem _ (List.mem_cons_of_mem _ hq))
                  have nb := hne q hq
                  by_cases ht : q.1.env
                  · exact s.mut h0 (na q hq) ht
                  · obtain ⟨x, w⟩ := q
                    cases x with
                    | bt d2 =>
                      obtain ⟨a2, e2, r2⟩ := s
                      have ne : a2 ≠ Da := nb d2 a2 (by rw [e2])
                      exact ⟨a2, e2, by rw [upd_ne ne]; exact r2⟩
                    | rt _ _ => exact s.elim
                    | _ => exact (ht trivial).elim
              · have e2 : fpC (upd H5 Da (.lst (vs ++ [u]))) q = fpC H5 q := Zed fun b hb => upd_ne fun z => na q hq (z ▸ hb)
                have key : Dj (upd H5 Da (.lst (vs ++ [u]))) (.ow (.lst (acc ++ [zd])), some (.ref Da)) q := fun b hb hq2 => by
                  obtain rfl : b = Da := by simpa [fpC] using hb
                  rw [e2] at hq2
                  exact na q hq hq2
                exact ⟨fun _ _ => key, fun _ _ => key⟩
            · exact z.elim
    · have e : j = ds.length := by omega
      subst e
      rw [List.drop_length] at q2
      have c2' : C F (gh ++ ((.ow (.lst acc), some (.ref Da)) :: (l ++ env.zip σ))) H2 := c2.back
      exact .inl ⟨(its _ _ c2' _).2 (Nat.le_refl _), h1 acc _ H2 q2 (c2'.right)⟩
theorem Z7u (i : Nat) {iter elt : Expr} {scope : Scope} {x : Str} {px : Pos} {ifs : List Expr} {tt : TT} (hc : X.calm = true) (hN : X.N.Nodup) (hi : DI X F W (.Name x px) iter wi) (ok : BlkOk X.N X.env.scope scope [(x, i)])
    (hg : ∀ (s : Shared) (H : Hp) (C : Addr) (cl : List (Str × Addr)) (fp : List Addr), PG (X.blk s H scope (compEnvC scope cl C X.env) fp) (.Name x px) (gName i)) (ht : ∀ (s : Shared) (H : Hp) (C : Addr) (cl : List (Str × Addr)) (fp : List Addr), PTs (X.blk s H scope (compEnvC scope cl C X.env) fp) ifs tt)
    (htt : ∀ σ H Q, LT F W0 wt σ H Q → tt σ H Q) (mt : Mono wt) (he : ∀ (s : Shared) (H : Hp) (C : Addr) (cl : List (Str × Addr)) (fp : List Addr), DE (X.blk s H scope (compEnvC scope cl C X.env) fp) F W0 elt we) (me : Mono we) (hs : ∀ x, foldedSetIterable iter X.env x = pure x := by intro _; rfl) :
    DE X F W (.ListComp elt [⟨.Name x px, iter, ifs, 0⟩] scope pos) (wLc i wi wt we) :=
  ⟨Zb5 (pe_lc (own := [(x, i)]) hc hN hi.run ok hg ht (fun s H C cl fp => (he s H C cl fp).run) hs) fun σ H Q ⟨l, env, k, q⟩ => Zv9 hi mt me htt (fun _ _ _ z => z) k q (fun acc v H' z c => z v H' c) (fun c fs z => z), Zr8 hi.mono mt me⟩
theorem Z49 : ∀ σ H Q, LT F W0 (wBl true) σ H Q → tYes σ H Q := fun σ H Q ⟨l, env, k, q⟩ => by
  obtain ⟨b, e, z⟩ := q
  cases e
  exact z H k.c
theorem Z1t (j : Nat) (i : Nat) {iter elt : Expr} {scope : Scope} {x y : Str} {px py spos : Pos} {ifs : List Expr} {tt : TT} (hc : X.calm = true) (hN : X.N.Nodup) (hy : X.N[j]? = some y) (hyl : X.env.scope.names.lookup y = some .local)
    (hsw : swapsWith (.ListComp elt [⟨.Name x px, iter, ifs, 0⟩] scope pos) (some (.Name y py)) spos.line X.env = pure true) (hi : DI X F W (.Name x px) iter wi) (ok : BlkOk X.N X.env.scope scope [(x, i)])
    (hg : ∀ (s : Shared) (H : Hp) (C : Addr) (cl : List (Str × Addr)) (fp : List Addr), PG (X.blk s H scope (compEnvC scope cl C X.env) fp) (.Name x px) (gName i)) (ht : ∀ (s : Shared) (H : Hp) (C : Addr) (cl : List (Str × Addr)) (fp : List Addr), PTs (X.blk s H scope (compEnvC scope cl C X.env) fp) ifs tt)
    (htt : ∀ σ H Q, LT F W0 wt σ H Q → tt σ H Q) (mt : Mono wt) (he : ∀ (s : Shared) (H : Hp) (C : Addr) (cl : List (Str × Addr)) (fp : List Addr), DE (X.blk s H scope (compEnvC scope cl C X.env) fp) F W0 elt we) (me : Mono we) (hs : ∀ x, foldedSetIterable iter X.env x = pure x := by intro _; rfl) :
    DS X F W (.Assign [.Name y py] (.ListComp elt [⟨.Name x px, iter, ifs, 0⟩] scope pos) spos) (wAsg (gN j) (wLc i wi wt we)) := by
  refine ⟨Zfg (ps_setLc (own := [(x, i)]) hc hN hy hyl hsw hi.run ok hg ht (fun s H C cl fp => (he s H C cl fp).run) hs) fun D σ H ⟨l, env, k, hl, q⟩ => ?_, Zaq (fun x env k k' m h => ?_) (Zr8 hi.mono mt me)⟩
  · have q : wLc i wi wt we env (rks _ _ env) := q
    show tLc (LI F W wi) (gName i) tt (LE F W0 we) [i] σ H (fun x H1 => gName j x σ H1 D.nx)
    refine Zv9 (Qe := rks (fun x => gN j x env fun env' => LSp F W l D (.nx env')) (LSp F W l D) env) hi mt me htt (fun _ _ _ z => z) k q (fun acc v H' z c => ?_) (fun c fs z => fun A d H' hA hx c2 => z A d σ H' hA hx (k.at c2))
    have z : gN j (.ow (.lst acc)) env (fun env' => LSp F W l D (.nx env')) := z
    exact z.2 _ _ (C.setName k.len k.ok trivial z.1 c)
  · unfold gN at h ⊢
    split at h
    · exact ⟨h.1, m _ h.2⟩
    · exact ⟨h.1, m _ h.2⟩
    · exact ⟨h.1, m _ h.2⟩
    · exact h.elim
def Zqw (c : Str) : WS := fun env Q => Q (.ex c [] env)
theorem Z10 {c : Str} {A : Addr} (gC : F.mg c = some (.ref A)) (h : PS X st (fun _ σ H => W (.ref A) none σ H)) : DS X F W st (Zqw c) :=
  ⟨Zfg h fun D σ H ⟨l, env, k, hl, q⟩ => q A none σ H gC (.inl ⟨rfl, rfl⟩) k, fun _ _ _ m h => m _ h⟩
end
def Z1a (xs : List Slot) (e : En) : Prop := ∀ (j : Nat) (a : Addr) (d : D), xs[j]? = some (.na a d) → e[j]? = some (.na a d)
def fin (xs : List Slot) (Q : R Slot → Prop) : O → Prop
  | .ret (.sh d) => Q (.ok (.sh d))
  | .ret (.ow d) => Q (.ok (.ow d))
  | .ret (.nd d) => Q (.ok (.nd d))
  | .ret (.rt ms x) => Q (.ok (.rt ms x))
  | .nx _ => Q (.ok (.sh .non))
  | .ex c fs e => Z1a xs e ∧ Q (.ex c fs)
  | _ => False
def gOf (n : Nat) (w : WS) : G := fun xs Q => w (xs ++ List.replicate (n - xs.length) .un) (fin xs Q)
theorem Z03 {xs : List Slot} {Q Q' : R Slot → Prop} (m : ∀ r, Q r → Q' r) : ∀ o, fin xs Q o → fin xs Q' o
  | .ret (.sh _), h => m _ h
  | .ret (.ow _), h => m _ h
  | .ret (.nd _), h => m _ h
  | .ret .un, h => h
  | .ret (.bo _), h => h
  | .ret (.bt _), h => h
  | .ret (.lk _ _), h => h
  | .ret (.lo _ _ _), h => h
  | .ret (.nb _), h => h
  | .ret (.ln _ _), h => h
  | .ret (.xc _), h => h
  | .ret (.xe _ _ _), h => h
  | .ret (.na _ _), h => h
  | .ret (.rt _ _), h => m _ h
  | .nx _, h => m _ h
  | .bk _, h => h
  | .ct _, h => h
  | .ex _ _ _, h => ⟨h.1, m _ h.2⟩
theorem Zbg {n : Nat} {w : WS} (m : Zbl w) : Zc1 (gOf n w) := fun xs Q Q' mm h => m _ _ _ (Z03 mm) h
theorem Zyh {α β : Type} : ∀ {xs : List α} {us : List β} (ys : List α) (vs : List β), xs.length = us.length → (xs ++ ys).zip (us ++ vs) = xs.zip us ++ ys.zip vs
  | [], [], _, _, _ => rfl
  | x :: xs, u :: us, ys, vs, h => by
    show (x, u) :: (xs ++ ys).zip (us ++ vs) = (x, u) :: (xs.zip us ++ ys.zip vs)
    rw [Zyh ys vs (by simpa using h)]
  | [], _ :: _, _, _, h => by simp at h
  | _ :: _, [], _, _, h => by simp at h
section
variable {P : Program} {w : World} {K : PySem.W.Frag} {mg : Str → Option Value} {base : Heap}
theorem C.unsR {F : Fr} {H : Hp} (n : Nat) : ∀ {m : Nat} {l : List Cell}, C F l H → C F (l ++ (List.replicate m (Slot.un)).zip (List.replicate m (none : Option V))) H
  | 0, l, h => by simpa using h
  | m + 1, l, h => by
    have : C F (l ++ ((Slot.un, (none : Option V)) :: (List.replicate m (Slot.un)).zip (List.replicate m (none : Option V)))) H := C.back ((C.unsR n (m := m) h).un none)
    rw [List.replicate_succ, List.replicate_succ]
    exact this
theorem Zyb {F : Fr} {H : Hp} : ∀ {xs : List Slot} {env : En} {σ : L2.St}, C F (env.zip σ) H → env.length = σ.length → Z1a xs env → C F (Zh4 (msOf xs)) H ∧ (Zh4 (msOf xs)).Sublist (env.zip σ)
  | [], env, σ, c, _, _ => ⟨c.sub (List.nil_sublist _), List.nil_sublist _⟩
  | x :: xs, [], σ, c, hl, k => by
    have none : ∀ j a d, (x :: xs)[j]? ≠ some (Slot.na a d) := fun j a d e => by have := k j a d e; simp at this
    have key : ∀ ys : List Slot, (∀ (j : Nat) a d, ys[j]? ≠ some (Slot.na a d)) → msOf ys = [] := fun ys => by
      induction ys with
      | nil => intro _; rfl
      | cons y ys ih =>
        intro h
        have h1 := ih fun j a d e => h (j + 1) a d (by simpa using e)
        cases y with
        | na a d => exact (h 0 a d rfl).elim
        | _ => exact h1
    rw [key _ none]
    exact ⟨c.sub (List.nil_sublist _), List.nil_sublist _⟩
  | x :: xs, y :: env, [], c, hl, k => by simp at hl
  | x :: xs, y :: env, v :: σ, c, hl, k => by
    have c1 : C F ((y, v) :: env.zip σ) H := c
    obtain ⟨_, s2⟩ := Zyb (xs := xs) c1.tail (by simpa using hl) fun j a d e => by simpa using k (j + 1) a d (by simpa using e)
    have step : (Zh4 (msOf (x :: xs))).Sublist ((y, v) :: env.zip σ) := by
      cases x with
      | na a d =>
        have e0 := k 0 a d rfl
        simp only [List.getElem?_cons_zero, Option.some.injEq] at e0
        subst e0
        obtain ⟨S, g, cc, _⟩ := c1
        obtain ⟨e, _⟩ := cc _ List.mem_cons_self
        subst e
        exact List.Sublist.cons_cons _ s2
      | _ => exact s2.cons _
    exact ⟨c.sub step, step⟩
theorem Zxh {F : Fr} {H : Hp} {xs : List Slot} {env : En} {σ : L2.St} (k : CE F [] env σ H) (h : Z1a xs env) (_ : ∀ x ∈ xs, x.env) : C F (Zh4 (msOf xs)) H := (Zyb (show C F (env.zip σ) H from k.c) k.len h).1
theorem Z0j {xs : List Slot} {e : En} (h : msOf xs = []) : Z1a xs e := by
  have key : ∀ (ys : List Slot) (j : Nat) (a : Addr) (d : D), msOf ys = [] → ys[j]? ≠ some (Slot.na a d) := fun ys => by
    induction ys with
    | nil => intro j a d _ z; simp at z
    | cons y ys ih =>
      intro j a d h z
      cases j with
      | zero => simp only [List.getElem?_cons_zero, Option.some.injEq] at z; subst z; cases h
      | succ j =>
        have h' : msOf ys = [] := by cases y <;> first | exact h | cases h
        exact ih j a d h' (by simpa using z)
  exact fun j a d z => (key xs j a d h z).elim
theorem Z6j {x qual : Str} {st : Stmt} {f : Addr} {fd : FuncData} {N ps : List Str} {k : Nat} (Fn : Fun K x qual st f fd) (S : FnScope N ps (defScope st)) (hNP : ps.length ≤ N.length) {ws : WS}
    (hb : ∀ (cdv : Value) (A : Around) (outer : List PySem.Env) (s : Shared) (H H0 S0 : Hp) (E : XK), Room k (A.deeper (envOfC qual (defScope st) s.heap.objs.size f cdv)) →
      DSs (cxOf (L2.CX P w) P w K mg base N qual (defScope st) f cdv A outer s H E) ⟨K, mg, H0, S0⟩ (fun c d _ H' => E c d H') (defBody st) ws) :
    FnOk P w K mg base (L2.CX P w) (k + 1) f fd ps (spG K mg ps.length (gOf N.length ws)) := by
  refine Fn.okX S (fun vs H Q E h => h.1) (fun cdv A outer s H vs Q E hr h => ?_)
  obtain ⟨hl, xs, S0, H0, hx, hst, c, h⟩ := h
  have h : ws (xs ++ List.replicate (N.length - xs.length) .un) (fin xs (Z52 ⟨K, mg, H0, S0⟩ (msOf xs) Q E)) := h
  refine ⟨_, (hb cdv A outer s H H0 S0 E hr).run, [], xs ++ List.replicate (N.length - xs.length) .un, ⟨?_, ?_, ?_⟩, fun p hp => by simp at hp, (hb cdv A outer s H H0 S0 E hr).mono _ _ _ (fun o z => ?_) h⟩
  · unfold L2.start; simp [hx]
  · intro y hy
    rcases List.mem_append.mp hy with hy | hy
    · exact hst y hy
    · rw [(List.mem_replicate.mp hy).2]; trivial
  · unfold L2.start
    rw [Zyh _ _ (by simp [hx]), hx]
    exact C.unsR 0 c
  · cases o with
    | ret y =>
      cases y with
      | sh d => exact z
      | ow d => exact z
      | nd d => exact z
      | rt ms x => exact fun v H' c => z v H' (by rw [List.append_nil] at c; exact c)
      | _ => exact z.elim
    | nx e => exact fun σ' H' k' => z .non H' (C.non (k'.c.sub (List.nil_sublist _)))
    | bk e => exact z.elim
    | ct e => exact z.elim
    | ex cn fs e => exact fun A d σ' H' hA hx k' => z.2 A d H' hA hx (Zxh k' z.1 hst)
theorem Z6k {γ : G} (hγ : ∀ ns : List Int, ns.length ≤ 63 → γ [.sh (.lst (ns.map D.int))] fun r => r = .ok (.sh (.bl true))) (m : Zc1 γ) {H : Hp} {a : Addr} {ns : List Int} (hn : ns.length ≤ 63) (hS : SqL K H a (ns.map V.int)) :
    spG K mg 1 γ [.ref a] H (fun v _ => v = .bl true) fun _ _ _ => False := by
  refine ⟨rfl, [.sh (.lst (ns.map D.int))], H, H, rfl, fun x hx => ?_, ?_, m _ _ _ (fun r z => ?_) (hγ ns hn)⟩
  · have e : x = .sh (.lst (ns.map D.int)) := by simpa using hx
    subst e; trivial
  · refine ⟨H, ⟨Same.refl H, Same.refl H, Same.refl H, fun a z => .inl z⟩, fun p hp => ?_, by simp [List.zip]⟩
    have e : p = (Slot.sh (.lst (ns.map D.int)), some (V.ref a)) := by simpa using hp
    subst e
    exact ⟨_, rfl, .lst hS (Reps.ofInts ns)⟩
  · subst z
    intro v H' c
    have e := c.shBl
    cases e
    rfl
theorem noCX {H : Hp} {s : Shared} {e : Value} {s' : Shared} (h : L2.CX P w [] H s (fun _ _ _ => False) e s') : False := by
  obtain ⟨_, _, _, _, _, _, _, _, _, _, _, _, z⟩ := h
  exact z.elim
theorem Zcd {k : Nat} {A : Around} (r : Room k A) : A.units + 65 < cLine := by have := r.un; omega
end
end DL
set_option Elab.async false
set_option linter.all false
set_option maxRecDepth 100000
set_option maxHeartbeats 4000000
namespace DL
open PySem PySem.Spec PyProof.Rows L2
section
variable {we we2 wc wt : WE} {wA : WA} {wi : WI} {wl wh : WO} {g : WG} {w w1 w2 : WS}
theorem Zab (i : Nat) : Mono (wVar i) := fun env Q Q' m h => by
  unfold wVar at h ⊢
  split at h
  · exact m _ h
  · exact m _ h
  · exact m _ h
  · exact m _ h
  · exact m _ h
  · exact m _ h
  · exact m _ h
  · exact m _ h
  · exact m _ h
  · exact h.elim
theorem Zav {i : Int} : Mono (wInt i) := fun _ _ _ m h => m _ h
theorem m_bl {i : Bool} : Mono (wBl i) := fun _ _ _ m h => m _ h
theorem Zfn {i : Str} : Mono (wStr i) := fun _ _ _ m h => m _ h
theorem Zw7 : Mono wNon := fun _ _ _ m h => m _ h
theorem Zs0 : Zg1 oSum := fun x k k' m h => by
  unfold oSum at h ⊢
  split at h
  · obtain ⟨ns, e1, e2⟩ := h; exact ⟨ns, e1, m _ e2⟩
  · exact h.elim
theorem Zc9 : Zg1 Zpt := fun x k k' m h => by
  unfold Zpt at h ⊢
  split at h
  · exact m _ h
  · exact h.elim
theorem Zdl {T : String} : Zg1 (oIsi T) := fun x k k' m h => by
  unfold oIsi at h ⊢
  split at h
  · exact ⟨h.1, m _ h.2⟩
  · exact h.elim
theorem Zan : Mono aNil := fun _ _ _ m h => m _ h
theorem Zaa (h1 : Mono we) (h2 : Mono wA) : Mono (Zam we wA) := fun env Q Q' m q => Zbh h1 (fun x hx => Zbh h2 (fun xs hxs => m _ hxs) m hx) m q
theorem Zcr (h : Mono wA) : Mono (wTup wA) := fun env Q Q' m q => Zbh h (fun xs hx => by
  split at hx
  · exact ⟨hx.1, m _ hx.2⟩
  · exact hx.elim) m q
theorem Zde (h : Mono wA) : Mono (wLst wA) := fun env Q Q' m q => Zbh h (fun xs hx => by
  split at hx
  · exact ⟨hx.1, m _ hx.2⟩
  · exact hx.elim) m q
theorem Zbb {γ : G} (mg : Zc1 γ) (h : Mono wA) : Mono (Zbt γ wA) := fun env Q Q' mm q => Zbh h (fun xs hx => mg _ _ _ (Zs6 mm) hx) mm q
theorem Z4d : Mono wNoP := fun _ _ _ m h => m _ h
theorem Zpj (h : Mono we) : Mono (Ztx we) := fun env Q Q' m q => Zbh h (fun x hx => by
  split at hx
  · exact m _ hx
  · exact hx.elim) m q
theorem Zoh (h : Mono we) (h1 : Mono wl) (h2 : Mono wh) : Mono (Zpe we wl wh) := fun env Q Q' m q => Zbh h (fun x hx => Zbh h1 (fun lo hlo => Zbh h2 (fun hi hhi => Zms (fun z hz => m _ hz) hhi) m hlo) m hx) m q
theorem Zhk (h : Mono we) : Mono (Zhv we) := fun env Q Q' m q => Zbh h (fun x hx => Zpf (fun ds z => m _ z) hx) m q
theorem Zv5 (h : Mono wA) : Mono (Zta wA) := fun env Q Q' m q => Zbh h (fun x hx => Zqo (fun j z => ⟨z.1, m _ z.2⟩) hx) m q
theorem Z5o (h : Mono wA) : Mono (Z00 wA) := fun env Q Q' m q => Zbh h (fun x hx => Zsx (fun j z => m _ z) hx) m q
theorem Za1 {i : Nat} : Zn5 (gN i) := fun x env k k' m h => by
  unfold gN at h ⊢
  split at h
  · exact ⟨h.1, m _ h.2⟩
  · exact ⟨h.1, m _ h.2⟩
  · exact ⟨h.1, m _ h.2⟩
  · exact h.elim
theorem Zq7 {is : List Nat} : Zn5 (gT is) := fun x env k k' m h => by
  unfold gT at h ⊢
  split at h
  · exact Zhm m h
  · exact Zhm m h
  · exact h.elim
theorem Za5 : Zbl Zbk := fun _ _ _ m h => m _ h
theorem m_if (hc : Mono wc) (h1 : Zbl w1) (h2 : Zbl w2) : Zbl (wIf wc w1 w2) := fun env Q Q' m h => Zcf hc (fun x hx => Ze3 (fun b z => match b, z with
    | true, z => h1 env _ _ m z
    | false, z => h2 env _ _ m z) hx) m h
theorem Zb3 (h : Mono we) : Zbl (wRet we) := fun env Q Q' m q => Zcf h (fun x z => m _ z) m q
theorem Zmo {i : Nat} : Zbl (Zim i) := fun env Q Q' m h => by
  unfold Zim at h ⊢
  split at h
  · exact m _ h
  · exact m _ h
  · exact m _ h
  · exact h.elim
theorem Z5b {i : Nat} {f : Int → Int → Int} (h : Mono we) : Zbl (wAug i f we) := fun env Q Q' m q => by
  unfold wAug at q ⊢
  split at q
  · exact Zcf h (fun x z => by
      split at z
      · exact m _ z
      · exact z.elim) m q
  · exact q.elim
theorem Zj9 (hg : Zn5 g) (hi : Mono wi) (hb : Zbl w) : Zbl (wFor g wi w) := fun env Q Q' m h => Zcf hi (fun ds z => Zle hg hb ds env Q Q' m z) m h
theorem Zoo (hc : Mono wc) (hb : Zbl w) : Zbl (Zlp wc w) := fun env Q Q' m ⟨n, h⟩ => ⟨n, Zr7 hc hb n env Q Q' m h⟩
theorem Zov {i : Nat} (h : Mono we) : Zbl (wApp i we) := fun env Q Q' m q => by
  unfold wApp at q ⊢
  split at q
  · exact Zcf h (fun y hy => by
      split at hy
      · exact ⟨hy.1, m _ hy.2⟩
      · exact hy.elim) m q
  · exact q.elim
theorem Zr0 {i : Nat} (h1 : Mono we) (h2 : Mono we2) : Zbl (wSet i we we2) := fun env Q Q' m h => by
  unfold wSet at h ⊢
  split at h
  · refine Zcf h2 (fun y hy => ?_) m h
    split at hy
    · refine Zcf h1 (fun z hz => ?_) m hy
      split at hz
      · exact Zqa (fun c z => m _ z) hz
      · exact hz.elim
    · exact hy.elim
  · exact h.elim
theorem Z41 {i : Nat} (h : Zbl w) : Zbl (wFrz i w) := fun env Q Q' m q => by
  unfold wFrz at q ⊢
  split at q
  · exact h _ _ _ m q
  · exact q.elim
theorem Zbu {i : Nat} (h : Zbl w) : Zbl (wFgt i w) := fun env Q Q' m q => h _ _ _ m q
theorem Zyi {c : Str} : Zbl (Zqw c) := fun _ _ _ m h => m _ h
end
def Zdg (K : PySem.W.Frag) (mg : Str → Option Value) (x : Str) (st : Stmt) (ps : List Str) : Prop := ∃ f fd, Fun K x x st f fd ∧ mg x = some (.ref f) ∧ ∀ (s : Shared) (us : List Value), us.length = ps.length → BindsTo s fd ⟨us, []⟩ (ps.zip us)
def FnAt (P : Program) (w : World) (K : PySem.W.Frag) (mg : Str → Option Value) (base : Heap) (x : Str) (k n : Nat) (γ : G) : Prop :=
  (∃ f fd ps, FnOk P w K mg base (L2.CX P w) k f fd ps (spG K mg n γ) ∧ mg x = some (.ref f) ∧ PySem.W.keepIn K (.ref f) = true ∧ Binds K fd ps []) ∧ Zc1 γ
section
variable {P : Program} {w : World} {K : PySem.W.Frag} {mg : Str → Option Value} {base : Heap}
theorem Zem {x : Str} {st : Stmt} {N ps : List Str} {k n : Nat} {ws : WS} (T : Zdg K mg x st ps) (S : FnScope N ps (defScope st)) (hNP : ps.length ≤ N.length) (hm : Zbl ws) (hn : ps.length = n)
    (hb : ∀ (f : Addr) (cdv : Value) (A : Around) (outer : List PySem.Env) (s : Shared) (H H0 S0 : Hp) (E : XK), Room k (A.deeper (envOfC x (defScope st) s.heap.objs.size f cdv)) →
      DSs (cxOf (L2.CX P w) P w K mg base N x (defScope st) f cdv A outer s H E) ⟨K, mg, H0, S0⟩ (fun c d _ H' => E c d H') (defBody st) ws) :
    FnAt P w K mg base x (k + 1) n (gOf N.length ws) := by
  obtain ⟨f, fd, Fn, hx, bd⟩ := T
  subst hn
  exact ⟨⟨f, fd, ps, Z6j Fn S hNP (fun cdv A outer s H H0 S0 E hr => hb f cdv A outer s H H0 S0 E hr), hx, Fn.kp, fun s us _ hl => by rw [List.append_nil] at hl ⊢; exact bd s us hl⟩, Zbg hm⟩
end
section
variable {X : Cx} {F : Fr} {W : WX} {e : Expr} {es : List Expr} {wA : WA} {pos p : Pos}
theorem Zbf {k j n : Nat} {γ : G} {x : Str} (A : FnAt X.prog X.w F.K F.mg X.base x k n γ) (hr : Room j X.A) (hj : k ≤ j) (tk : Takes X W) (ha : DA X F W (e :: es) wA) (hnA : ∀ env Q, wA env Q → wA env fun r => Q r ∧ ∀ xs, r = .ok xs → xs.length = n) (hn : (e :: es).length = n)
    (hg : Gl X x := by rfl) (hdb : (x == ("__debug__" : Str)) = false := by decide) (he : starEach (e :: es) X.env = (false, eval e X.env) :: starEach es X.env := by rfl) (hpl : (backTo pos (starEach es X.env)).any (·.1) = false := by rfl) (hK : X.K = F.K := by rfl) (hM : X.mg = F.mg := by rfl) :
    DE X F W (.Call (.Name x p) (e :: es) [] pos) (Zbt γ wA) := by
  obtain ⟨⟨f, fd, ps, Fk, hm, hk, hb⟩, m⟩ := A
  refine Z4f m (by rw [hK, hM]; exact Fk) (hr.mono hj) (by rw [hM]; exact hm) (by rw [hK]; exact hk) (by rw [hK]; exact hb) tk hn ha hnA hg hdb he hpl
end
theorem Zcc {K : PySem.W.Frag} {h : Heap} {mg : Str → Option Value} {x : Str} {st : Stmt} {ps : List Str} {f : Addr} {oc : Value} {od an : Option Addr} {osl : Array (Option Value)} {kV doc pm cdv ct : Value} (X : K.In h) (G : h.Ns mainGlobals mg)
    (a : PySem.W.nsIn K mainGlobals x = some (some (.ref f))) (l : K.lookup f = some ⟨oc, od, .func (PySem.W.fnOf x x (defArgs st) (defBody st) (defScope st) .none kV doc pm an cdv ct), osl⟩) (c : PySem.W.codeIn K cdv x = true) (k : PySem.W.keepIn K (.ref f) = true)
    (hb : ∀ us : List Value, us.length = ps.length → bindArgs (PySem.W.fnOf x x (defArgs st) (defBody st) (defScope st) .none kV doc pm an cdv ct) ⟨us, []⟩ = pure (ps.zip us)) : Zdg K mg x st ps :=
  ⟨f, _, fun_mk l c k, PySem.W.mg_of X G a, fun s us hl => .of_eq (hb us hl)⟩
def spLaw (K : PySem.W.Frag) : Sp := fun vs H Q _ => ∃ (a : Addr) (ns : List Int), vs = [.ref a] ∧ SqL K H a (ns.map V.int) ∧ ns.length ≤ 63 ∧ ∀ H', Q (.bl true) H'
theorem Z5s {P : Program} {w : World} {K : PySem.W.Frag} {mg : Str → Option Value} {st : Stmt} {N : List Str} {x : Str} {k : Nat} {ws : WS} {fa : Addr} (T : Zdg K mg "law" st [x]) (S : FnScope N [x] (defScope st)) (hNP : 1 ≤ N.length) (hm : Zbl ws) (hfa : mg "law" = some (.ref fa))
    (hγ : ∀ ns : List Int, ns.length ≤ 63 → gOf N.length ws [.sh (.lst (ns.map D.int))] fun r => r = .ok (.sh (.bl true)))
    (hb : ∀ (base : Heap), K.In base → base.Ns mainGlobals mg → ∀ (f : Addr) (cdv : Value) (A : Around) (outer : List PySem.Env) (s : Shared) (H H0 S0 : Hp) (E : XK), Room k (A.deeper (envOfC "law" (defScope st) s.heap.objs.size f cdv)) →
      DSs (cxOf (L2.CX P w) P w K mg base N "law" (defScope st) f cdv A outer s H E) ⟨K, mg, H0, S0⟩ (fun c d _ H' => E c d H') (defBody st) ws) :
    ∃ fd : FuncData, (∀ (s : Shared) (v : Value), BindsTo s fd ⟨[v], []⟩ [(x, v)]) ∧ ∀ base : Heap, K.In base → base.Ns mainGlobals mg → FnOk P w K mg base (L2.CX P w) (k + 1) fa fd [x] (spLaw K) := by
  obtain ⟨f, fd, Fn, hx, bd⟩ := T
  rw [hfa] at hx
  cases hx
  refine ⟨fd, fun s v => bd s [v] rfl, fun base h1 h2 => ?_⟩
  refine (Z6j Fn S hNP (fun cdv A outer s H H0 S0 E hr => hb base h1 h2 fa cdv A outer s H H0 S0 E hr)).imp fun vs H Q E ⟨a, ns, ev, hS, hn, hq⟩ => ?_
  subst ev
  have h := Z6k (K := K) (mg := mg) (H := H) (a := a) hγ (Zbg hm) hn hS
  obtain ⟨hl, xs, S, H0, h1, h2, h3, h4⟩ := h
  have fin : ∀ (v : V) (H' : Hp), v = .bl true → Q v H' := fun v H' e => (e ▸ hq H')
  refine ⟨hl, xs, S, H0, h1, h2, h3, Zbg hm _ _ _ (fun r z => ?_) h4⟩
  cases r with
  | ex c fs => exact fun A d H' hA hx hc => (z A d H' hA hx hc).elim
  | ok y =>
    cases y with
    | sh d => exact fun v H' c => fin v H' (z v H' c)
    | ow d => exact fun v H' c => fin v H' (z v H' c)
    | nd d => exact fun v H' c => fin v H' (z v H' c)
    | rt ms x => exact fun v H' c => fin v H' (z v H' c)
    | _ => exact z
end DL
set_option Elab.async false
set_option linter.all false
set_option maxRecDepth 100000
set_option maxHeartbeats 4000000
namespace DL
open PySem PySem.Spec PyProof.Rows L2
section
variable {X : Cx} {F : Fr} {W : WX} {a b c e o : Expr} {es : List Expr} {is : List Nat} {st : Stmt} {wa wb wc we : WE} {wA : WA} {w : WS} {wi : WI} {pos p apos cpos : Pos} {x : Str}
theorem nac {i : Nat} (r : NamesAt X es is) (hi : X.N[i]? = some x := by rfl) (hx : Loc X.env.scope x := by first | exact Or.inl rfl | exact Or.inr rfl) (hf : X.fn x = true ∨ X.env.scope.names.lookup x = some .local := by first | exact .inl rfl | exact .inr rfl) : NamesAt X (.Name x p :: es) (i :: is) := .cons hi hx hf r
def Zwi (o1 o2 : O2) (wa wb wc : WE) : WE := fun env Q => wa env (rk (fun x => wb env (rk (fun y => o1 x y (asB fun k => match k with
  | true => wc env (rk (fun z => o2 y z fun z => Q (.ok z)) Q)
  | false => Q (.ok (.sh (.bl false))))) Q)) Q)
theorem Zyk {o1 o2 : O2} (h1 : Zi1 o1) (h2 : Zi1 o2) (ha : Mono wa) (hb : Mono wb) (hc : Mono wc) : Mono (Zwi o1 o2 wa wb wc) := fun env Q Q' m q => Zbh ha (fun x hx => Zbh hb (fun y hy => h1 _ _ _ _ (fun z hz => Ze3 (fun k hk => match k, hk with
  | true, hk => Zbh hc (fun z hz => h2 _ _ _ _ (fun z hz => m _ hz) hz) m hk
  | false, hk => m _ hk) hz) hy) m hx) m q
def Z2e (F : Fr) (r : R2) (o : O2) : Prop := ∀ (l : List Cell) (H : Hp) (x y : Slot) (vx vy : V) (ks : Slot → Prop) (Q : VK),
  C F ((y, some vy) :: (x, some vx) :: l) H → o x y ks → (∀ z v, ks z → C F ((z, some v) :: (y, some vy) :: (x, some vx) :: l) H → Q v H) → r vx vy H Q
theorem Z4p {g : Int → Int → Bool} : Z2e F (rI0 fun i j => .bl (g i j)) (oI0 fun i j => .bl (g i j)) := fun l H x y vx vy ks Q hc ho hq => by
  unfold oI0 at ho
  split at ho
  · rename_i i j
    have e1 := hc.shInt
    have e2 := hc.tail.shInt
    cases e1; cases e2
    exact ⟨i, j, rfl, rfl, hq _ _ ho (hc.bl _)⟩
  · exact ho.elim
theorem Z13 {op op' : CmpOp} {r r' : R2} {o1 o2 : O2} (ho : OpR X (compareOp op) r) (ho' : OpR X (compareOp op') r') (s1 : Z2e F r o1) (s2 : Zjo F r' o2) (m1 : Zi1 o1) (m2 : Zi1 o2) (ha : DE X F W a wa) (hb : DE X F W b wb) (hc : DE X F W c wc)
    (hm : lastMarks [op, op'] [b, c] = false := by with_unfolding_all rfl) : DE X F W (.Compare a [op, op'] [b, c] pos) (Zwi o1 o2 wa wb wc) := by
  refine ⟨Zb5 (pe_chain ho ho' ha.run hb.run hc.run hm) fun σ H Q ⟨l, env, k, q⟩ => ⟨l, env, k, Zcb ha.mono q (fun x hx v H1 c1 => ?_) fun c fs q => q⟩, Zyk m1 m2 ha.mono hb.mono hc.mono⟩
  refine ⟨(x, some v) :: l, env, k.to1 c1, Zcb hb.mono hx (fun y hy u H2 c2 => ?_) fun c fs q => fun A d H' hA hx c3 => q A d H' hA hx c3.tail⟩
  refine s1 _ H2 x y v u _ _ c2 hy fun z vz hz cz => ?_
  obtain ⟨kb, ek, hk⟩ := Zq5 hz
  subst ek
  have ez := cz.shBl
  cases ez
  refine ⟨kb, rfl, ?_⟩
  cases kb with
  | true =>
    rw [if_pos rfl]
    refine ⟨(y, some u) :: (x, some v) :: l, env, ⟨k.len, k.ok, c2⟩, Zcb hc.mono hk (fun z hz w H3 c3 => ?_) fun c fs q => fun A d H' hA hx c3 => q A d H' hA hx c3.tail.tail⟩
    exact s2 _ H3 y z u w _ Q c3 hz fun z2 vz H' hz2 cz2 => hz2 vz H' cz2.swap.tail
  | false =>
    rw [if_neg Bool.false_ne_true]
    exact hk _ H2 (c2.tail.tail.bl _)
def wDnK : WE := fun _ Q => Q (.ok (.ow (.dk [])))
def wDnT : WE := fun _ Q => Q (.ok (.ow (.dt [])))
theorem Z1f : Mono wDnK := fun _ _ _ m h => m _ h
theorem Z32 : Mono wDnT := fun _ _ _ m h => m _ h
theorem Zyo : DE X F W (.Dict [] [] pos) wDnK := ⟨Zb5 pe_dnewK fun σ H Q ⟨l, env, k, h⟩ => fun q hq => h _ _ (k.c.newOw hq fun S g a => ⟨[], rfl, rfl, .nil⟩), Z1f⟩
theorem Z2k : DE X F W (.Dict [] [] pos) wDnT := ⟨Zb5 pe_dnewT fun σ H Q ⟨l, env, k, h⟩ => fun q hq => h _ _ (k.c.newOw hq fun S g a => ⟨[], rfl, rfl, .nil⟩), Z32⟩
def Zz9 (d e : D) (k : D → Prop) : Prop := match d with
  | .dk kds => ∃ j, e.key = some j ∧ k ((lk kds j).getD .non)
  | .dt kds => ∃ j, e.keyT = some j ∧ k ((lk kds j).getD .non)
  | _ => False
def isDict : D → Prop
  | .dk _ => True
  | .dt _ => True
  | _ => False
theorem Zxu {d e : D} {k k' : D → Prop} (m : ∀ z, k z → k' z) (h : Zz9 d e k) : Zz9 d e k' := by
  cases d with
  | dk s => obtain ⟨i, h1, h3⟩ := h; exact ⟨i, h1, m _ h3⟩
  | dt s => obtain ⟨i, h1, h3⟩ := h; exact ⟨i, h1, m _ h3⟩
  | _ => exact h.elim
def wGet (wa wb : WE) : WE := fun env Q => wa env (rk (fun x => match x.dat with
  | some d => isDict d ∧ wb env (rk (fun y => match y with
    | .sh e => Zz9 d e fun z => Q (.ok (.sh z))
    | _ => False) Q)
  | none => False) Q)
theorem Z3i (ha : Mono wa) (hb : Mono wb) : Mono (wGet wa wb) := fun env Q Q' m q => Zbh ha (fun x hx => by
  split at hx
  · refine ⟨hx.1, Zbh hb (fun y hy => ?_) m hx.2⟩
    split at hy
    · exact Zxu (fun z hz => m _ hz) hy
    · exact hy.elim
  · exact hx.elim) m q
theorem C.isDict {l : List Cell} {H : Hp} {y : Slot} {v : V} {d : D} (h : C F ((y, some v) :: l) H) (hy : y.dat = some d) (hd : DL.isDict d) : ∃ a, v = .ref a ∧ IsD H a := by
  cases d with
  | dk kds => obtain ⟨a, kvs, ea, hr, _⟩ := h.dictK hy; cases ea; exact ⟨a, rfl, .inl ⟨kvs, hr⟩⟩
  | dt kds => obtain ⟨a, kvs, ea, hr, _⟩ := h.dictT hy; cases ea; exact ⟨a, rfl, .inr ⟨kvs, .inl hr⟩⟩
  | _ => exact hd.elim
theorem Z23 (hu : X.A.units + 65 < cLine) (ha : DE X F W a wa) (hb : DE X F W b wb) (hbase : attributeBase a "get" X.env (eval a X.env) = eval a X.env := by rfl)
    (hfew : ((backTo cpos (starEach [b] X.env)).all (fun x => !x.1) && (backToKw cpos (keywordEach [] X.env)).all (fun x => x.1.isSome) && decide (([b] : List Expr).length + ([] : List Keyword).length + (if ([] : List Keyword).isEmpty then 0 else 1) < 30)) = true := by rfl)
    (hline : (apos.endLine == cpos.line) = true := by rfl) (htrees : backTo cpos (starEach [b] X.env) = [(false, eval b X.env)] := by rfl) : DE X F W (.Call (.Attribute a "get" apos) [b] [] cpos) (wGet wa wb) := by
  refine ⟨Zb5 (pe_dget1 (by omega) ha.run hb.run ⟨hbase, hfew, hline, htrees⟩) fun σ H Q ⟨l, env, k, q⟩ => ⟨l, env, k, Zcb ha.mono q (fun x hx v H1 c1 => ?_) fun c fs q => q⟩, Z3i ha.mono hb.mono⟩
  split at hx
  · rename_i d hd
    obtain ⟨hdd, hx⟩ := hx
    obtain ⟨a0, ea, hI⟩ := c1.isDict hd hdd
    subst ea
    refine ⟨a0, rfl, hI, (x, some (.ref a0)) :: l, env, k.to1 c1, Zcb hb.mono hx (fun y hy u H2 c2 => ?_) fun c fs q => fun A d H' hA hx c3 => q A d H' hA hx c3.tail⟩
    have c2' : C F ((y, some u) :: (x, some (V.ref a0)) :: (l ++ env.zip σ)) H2 := c2
    split at hy
    · rename_i e
      cases d with
      | dk kds =>
        obtain ⟨j, h1, h3⟩ := hy
        have ek := c2'.key h1
        obtain ⟨a1, kvs, ea, hr, hk, S, g, r, cc, pw⟩ := c2'.tail.dictK hd
        cases ea
        refine ⟨valV kvs j, .inl ⟨kvs, j, hr, ek, rfl⟩, ?_⟩
        rcases lk_valV j hk r with ⟨n, m⟩ | ⟨d', v', n, m, rr⟩
        · rw [n] at h3; rw [m]; exact h3 _ H2 c2'.tail.tail.non
        · rw [n] at h3; rw [m]; exact h3 _ H2 ((C.beside g cc pw rr).swap.tail)
      | dt kds =>
        obtain ⟨j, h1, h3⟩ := hy
        cases e with
        | tup es =>
          obtain ⟨S0, g0, r0⟩ := c2'.sh0
          obtain ⟨ta, et, ht⟩ := Zlt r0 h1
          obtain ⟨a1, kvs, ea, hr, hk, S, g, r, cc, pw⟩ := c2'.tail.dictT hd
          cases ea
          refine ⟨valV kvs j, .inr ⟨kvs, j, ta, .inl hr, et, g0.sh _ _ ht, rfl⟩, ?_⟩
          rcases lk_valV j hk r with ⟨n, m⟩ | ⟨d', v', n, m, rr⟩
          · rw [n] at h3; rw [m]; exact h3 _ H2 c2'.tail.tail.non
          · rw [n] at h3; rw [m]; exact h3 _ H2 ((C.beside g cc pw rr).swap.tail)
        | _ => cases h1
      | _ => exact hdd.elim
    · exact hy.elim
  · exact hx.elim
def Z54 (K : PySem.W.Frag) : R2 := fun x y H Q => ∃ l b xs zs, x = .ref l ∧ y = .ref b ∧ SqL K H l xs ∧ SqL K H b zs ∧ xs.length + zs.length ≤ sizeLine ∧ ∀ p, H p = none → Q (.ref p) (upd H p (.lst (xs ++ zs)))
def oCat : O2 := fun x y k => match x.dat, y.dat with
  | some (.lst ds), some (.lst es) => ds.length + es.length ≤ 16777216 ∧ k (.ow (.lst (ds ++ es)))
  | _, _ => False
theorem Zgc : Zi1 oCat := fun x y k k' m h => by
  unfold oCat at h ⊢
  split at h
  · exact ⟨h.1, m _ h.2⟩
  · exact h.elim
def Z45 (K : PySem.W.Frag) (mg : Str → Option Value) (x : Str) : Prop := ∃ C, mg x = some (.ref C) ∧ PySem.W.excIn K C [.type "ValueError", .type "Exception", .type "BaseException", .type "object"] "ValueError.__new__" = true ∧ PySem.W.keepIn K (.ref C) = true ∧
  PySem.W.subIn K (.ref C) (.type "BaseException") = some true ∧ PySem.W.typeIn K (.ref C) = some (.type "type") ∧ PySem.W.isClsIn K C = true
theorem Ztd {c m : Str} {j : Nat} {p2 pos2 : Pos} (E : Z45 F.K F.mg c) (tk : Takes X W) (hc : X.calm = true := by rfl) (hg : Gl X c := by rfl) (hdb : (c == ("__debug__" : Str)) = false := by decide) (hK : X.K = F.K := by rfl) (hM : X.mg = F.mg := by rfl) :
    DS X F W (.Raise (some (.Call (.Name c p) [.Constant (.str m) j p2] [] pos)) none pos2) (Zqw c) := by
  obtain ⟨C, gC, q, kC, b, t, i⟩ := E
  exact Z10 gC (ps_raise hc tk (pmk_own PySem.F.excBase_ValueError (by rw [hK]; exact q) (by rw [hM]; exact gC) (by rw [hK]; exact kC) (raises_own (by rw [hK]; exact b) (by rw [hK]; exact t)) hg hdb))
end
theorem Zys : bootBuiltins "int" = some (.type "int") := by decide +kernel
theorem Zw8 : bootBuiltins "bool" = some (.type "bool") := by decide +kernel
theorem Zsn : bootBuiltins "str" = some (.type "str") := by decide +kernel
theorem Zp0 : bootBuiltins "list" = some (.type "list") := by decide +kernel
theorem Zic : bootBuiltins "tuple" = some (.type "tuple") := by decide +kernel
theorem Z35 : Zpc "int" := by unfold Zpc; decide +kernel
theorem Z12 : Zpc "bool" := by unfold Zpc; decide +kernel
theorem Z0b : Zpc "str" := by unfold Zpc; decide +kernel
theorem Zw3 : Zpc "list" := by unfold Zpc; decide +kernel
theorem Zk7 : Zpc "tuple" := by unfold Zpc; decide +kernel
theorem Z06 : ClsV (.ty "int") (.type "int") := .ty _
theorem Zy6 : ClsV (.ty "bool") (.type "bool") := .ty _
theorem Zws : ClsV (.ty "str") (.type "str") := .ty _
theorem Zte : ClsV (.ty "list") (.type "list") := .ty _
theorem Zj5 : ClsV (.ty "tuple") (.type "tuple") := .ty _
end DL
set_option Elab.async false
set_option linter.all false
set_option maxRecDepth 100000
set_option maxHeartbeats 4000000
namespace DL
open PySem PySem.Spec PyProof.Rows L2
section
variable {X : Cx} {F : Fr} {W : WX} {a b c e o : Expr} {wa wb wc we : WE} {pos p : Pos}
theorem Z3d {w : WE} (m : Mono w) {σ : L2.St} {H : Hp} {Q : Bool → Hp → Prop} (h : LT F W w σ H Q) : LE F W w σ H fun x H' => ∃ k, x = .bl k ∧ Q k H' := by
  obtain ⟨l, env, k, q⟩ := h
  refine ⟨l, env, k, m env _ _ (fun r z => ?_) q⟩
  cases r with
  | ok x =>
    obtain ⟨b, rfl, z⟩ := z
    exact fun v H' c => by
      have e := c.shBl
      cases e
      exact ⟨b, rfl, z H' c.tail⟩
  | ex c fs => exact z
theorem Zpk {op : CmpOp} {r : R2} {o : O2} (ho : OpR X (compareOp op) r) (sn : Zjo F r o) (om : Zi1 o) (ha : DE X F W a wa) (hb : DE X F W b wb) (hm : behindInMarks op b = false) : DT X F W (.Compare a [op] [b] pos) (wOp o wa wb) :=
  ⟨Znq (pt_cmpR ho ha.run hb.run hm) fun _ _ _ h => Zze sn ha hb (Z3d (Zak ha.mono hb.mono om) h), Zak ha.mono hb.mono om⟩
theorem Z59 (ha : DE X F W a wa) (hb : DE X F W b wb) : DT X F W (.Compare a [.Lt] [b] pos) (wOp oLt wa wb) := Zpk op_lt Zqy Zaz ha hb (nomark _)
theorem Z5a (ha : DE X F W a wa) (hb : DE X F W b wb) : DT X F W (.Compare a [.Gt] [b] pos) (wOp oGt wa wb) := Zpk op_gt Zqy Zaz ha hb (nomark _)
theorem Z7g (ha : DE X F W a wa) (hb : DE X F W b wb) : DT X F W (.Compare a [.GtE] [b] pos) (wOp oGe wa wb) := Zpk op_ge Zqy Zaz ha hb (nomark _)
theorem Zpq (hu : X.A.units + 65 < cLine) (ha : DE X F W a wa) (hb : DE X F W b wb) (hK : X.K = F.K := by rfl) : DT X F W (.Compare a [.Eq] [b] pos) (wOp (oEq false) wa wb) :=
  Zpk (r := rEqA F.K) (by rw [← hK]; exact op_eq.or (op_eqD (by omega))) Z2z Zbm ha hb (nomark _)
theorem Zrf (hu : X.A.units + 65 < cLine) (ha : DE X F W a wa) (hb : DE X F W b wb) (hK : X.K = F.K := by rfl) : DT X F W (.Compare a [.NotEq] [b] pos) (wOp (oEq true) wa wb) :=
  Zpk (r := rNeA F.K) (by rw [← hK]; exact op_ne.or (op_neD (by omega))) Zzu Zbm ha hb (nomark _)
theorem Z5x (hu : X.A.units + 65 < cLine) (ha : DE X F W a wa) (hb : DE X F W b wb) (hm : behindInMarks .In b = false := by rfl) (hK : X.K = F.K := by rfl) : DT X F W (.Compare a [.In] [b] pos) (wOp (oIn false) wa wb) :=
  Zpk (r := rInA F.K false) (by rw [← hK]; exact Z6p hu) Zzd Ze6 ha hb hm
theorem Zrq (hu : X.A.units + 65 < cLine) (ha : DE X F W a wa) (hb : DE X F W b wb) (hm : behindInMarks .NotIn b = false := by rfl) (hK : X.K = F.K := by rfl) : DT X F W (.Compare a [.NotIn] [b] pos) (wOp (oIn true) wa wb) :=
  Zpk (r := rInA F.K true) (by rw [← hK]; exact Ztv hu) Zzd Ze6 ha hb hm
theorem Z6o {j : Nat} {p : Pos} (ha : DE X F W a wa) : DT X F W (.Compare a [.Is] [.Constant .none j p] pos) (wUn (oIsN false) wa) :=
  ⟨Znq (pt_cmpR op_isN ha.run pe_non (nomark _)) fun _ _ _ h => Z2u (neg := false) (fun x H Q q => ⟨rfl, by rw [Bool.false_xor] at q; exact q⟩) ha (Z3d (Zai ha.mono Zeg) h), Zai ha.mono Zeg⟩
theorem Zrj {j : Nat} {p : Pos} (ha : DE X F W a wa) : DT X F W (.Compare a [.IsNot] [.Constant .none j p] pos) (wUn (oIsN true) wa) :=
  ⟨Znq (pt_cmpR op_notN ha.run pe_non (nomark _)) fun _ _ _ h => Z2u (neg := true) (fun x H Q q => ⟨rfl, by rw [Bool.true_xor] at q; exact q⟩) ha (Z3d (Zai ha.mono Zeg) h), Zai ha.mono Zeg⟩
end
end DL
set_option Elab.async false
set_option linter.all false
set_option maxRecDepth 100000
set_option maxHeartbeats 4000000
namespace DL
open PySem PySem.Spec PyProof.Rows L2
structure Slo {α : Type} (lt : α → α → Bool) : Prop where
  irr : ∀ x, lt x x = false
  tri : ∀ x y, lt x y = false → lt y x = false → x = y
  tr : ∀ x y z, lt x y = true → lt y z = true → lt x z = true
theorem Slo.swo {α : Type} {lt : α → α → Bool} (O : Slo lt) : SrtO.Swo lt := by
  refine ⟨fun x y h => ?_, fun x y z h1 h2 => ?_⟩
  · cases h' : lt y x with
    | false => rfl
    | true =>
      have := O.tr _ _ _ h h'
      rw [O.irr] at this
      cases this
  · cases h' : lt z x with
    | false => rfl
    | true =>
      cases h3 : lt x y with
      | false =>
        have := O.tri _ _ h3 h1
        subst this
        rw [h'] at h2
        cases h2
      | true =>
        have := O.tr _ _ _ h' h3
        rw [this] at h2
        cases h2
def ltS (s t : Str) : Bool := decide (s.cps.toList < t.cps.toList)
theorem Z3b {s t : Str} (h : s.cps.toList = t.cps.toList) : s = t := by
  cases s; cases t
  congr 1
  exact Array.ext' h
theorem Zug : Slo ltS := by
  refine ⟨fun x => decide_eq_false (List.lt_irrefl _), fun x y h1 h2 => ?_, fun x y z h1 h2 => ?_⟩
  · have a := of_decide_eq_false h1
    have b := of_decide_eq_false h2
    exact Z3b (List.le_antisymm (List.not_lt.mp b) (List.not_lt.mp a))
  · exact decide_eq_true (List.lt_trans (of_decide_eq_true h1) (of_decide_eq_true h2))
def ltK1 : L2.Key → L2.Key → Bool
  | .inl i, .inl j => decide (i < j)
  | .inr s, .inr t => ltS s t
  | .inl _, .inr _ => true
  | .inr _, .inl _ => false
theorem Zzv : Slo ltK1 := by
  refine ⟨fun x => ?_, fun x y h1 h2 => ?_, fun x y z h1 h2 => ?_⟩
  · cases x with
    | inl i => exact decide_eq_false (Int.lt_irrefl i)
    | inr s => exact Zug.irr s
  · cases x <;> cases y
    · have a := of_decide_eq_false h1
      have b := of_decide_eq_false h2
      congr 1
      omega
    · cases h1
    · cases h2
    · exact congrArg _ (Zug.tri _ _ h1 h2)
  · cases x <;> cases y <;> cases z <;> first
      | rfl
      | (exfalso; cases h1; done)
      | (exfalso; cases h2; done)
      | exact Zug.tr _ _ _ h1 h2
      | exact decide_eq_true (Int.lt_trans (of_decide_eq_true h1) (of_decide_eq_true h2))
def ltK : List L2.Key → List L2.Key → Bool
  | [], [] => false
  | [], _ :: _ => true
  | _ :: _, [] => false
  | a :: as, b :: bs => if a = b then ltK as bs else ltK1 a b
theorem Zyy : Slo ltK := by
  refine ⟨?_, ?_, ?_⟩
  · intro x
    induction x with
    | nil => rfl
    | cons a as ih => rw [ltK, if_pos rfl]; exact ih
  · intro x
    induction x with
    | nil => intro y h1 h2; cases y with
      | nil => rfl
      | cons _ _ => cases h1
    | cons a as ih =>
      intro y h1 h2
      cases y with
      | nil => cases h2
      | cons b bs =>
        rw [ltK] at h1 h2
        by_cases e : a = b
        · subst e
          rw [if_pos rfl] at h1 h2
          rw [ih _ h1 h2]
        · rw [if_neg e] at h1
          rw [if_neg (fun z => e z.symm)] at h2
          exact (e (Zzv.tri _ _ h1 h2)).elim
  · intro x
    induction x with
    | nil => intro y z h1 h2; cases y with
      | nil => cases h1
      | cons _ _ => cases z with
        | nil => cases h2
        | cons _ _ => rfl
    | cons a as ih =>
      intro y z h1 h2
      cases y with
      | nil => cases h1
      | cons b bs =>
        cases z with
        | nil => cases h2
        | cons c cs =>
          rw [ltK] at h1 h2 ⊢
          by_cases e : a = b
          · subst e
            rw [if_pos rfl] at h1
            by_cases e2 : a = c
            · subst e2
              rw [if_pos rfl] at h2 ⊢
              exact ih _ _ h1 h2
            · rw [if_neg e2] at h2 ⊢
              exact h2
          · rw [if_neg e] at h1
            by_cases e2 : b = c
            · subst e2
              rw [if_neg e]
              exact h1
            · rw [if_neg e2] at h2
              have h3 := Zzv.tr _ _ _ h1 h2
              have ne : a ≠ c := fun z => by
                subst z
                rw [Zzv.irr] at h3
                cases h3
              rw [if_neg ne]
              exact h3
def shK (ks : List L2.Key) : List Bool := ks.map Sum.isLeft
inductive KeysAre : List Value → List L2.Key → Prop
  | nil : KeysAre [] []
  | int {i : Int} {t : Tok} {vs : List Value} {ks : List L2.Key} : KeysAre vs ks → KeysAre (.int i t :: vs) (.inl i :: ks)
  | str {x : Str} {t : Tok} {vs : List Value} {ks : List L2.Key} : KeysAre vs ks → KeysAre (.str x t :: vs) (.inr x :: ks)
theorem KeysAre.len : ∀ {vs : List Value} {ks : List L2.Key}, KeysAre vs ks → vs.length = ks.length
  | _, _, .nil => rfl
  | _, _, .int h => congrArg (· + 1) h.len
  | _, _, .str h => congrArg (· + 1) h.len
theorem Zmi : ∀ {ks : List L2.Key} {us : List Value}, Vals (ks.map kV) us → KeysAre us ks
  | [], _, .nil => .nil
  | .inl i :: ks, _, .cons h r => by
    obtain ⟨t, rfl⟩ := h
    exact .int (Zmi r)
  | .inr x :: ks, _, .cons h r => by
    obtain ⟨t, rfl⟩ := h
    exact .str (Zmi r)
def Zmn (h : Heap) (v : Value) (ks : List L2.Key) : Prop := ∃ a o arr n, v = .ref a ∧ h.get? a = some o ∧ o.cls = .type "tuple" ∧ o.data = .seq arr n ∧ KeysAre arr.toList ks
theorem Zmn.keeps {h h' : Heap} {v : Value} {ks : List L2.Key} (p : Zmn h v ks) (k : ∀ b o, h.get? b = some o → o.cls = .type "tuple" → h'.get? b = some o) : Zmn h' v ks := by
  obtain ⟨a, o, arr, n, e, ho, hc, hd, q⟩ := p
  exact ⟨a, o, arr, n, e, k _ _ ho hc, hc, hd, q⟩
section
variable {prog : Program} {w : World} {A : Around} {E : Value → Shared → Prop} {s : Shared}
theorem Zq2 {Q : Bool → Shared → Prop} : ∀ {us ws : List Value} {ks js : List L2.Key} (i : Nat), KeysAre us ks → KeysAre ws js → shK ks = shK js → (i = 0 → (shK ks).head? = some true) → Q (ltK ks js) s →
    PySem.W.KatLex prog w A true false Q (us.zip ws) i s
  | _, _, _, _, i, .nil, .nil, _, _, h => PySem.W.kat_nil h
  | _, _, _, _, i, .nil, .int _, e, _, _ => by simp [shK] at e
  | _, _, _, _, i, .nil, .str _, e, _, _ => by simp [shK] at e
  | _, _, _, _, i, .int _, .nil, e, _, _ => by simp [shK] at e
  | _, _, _, _, i, .str _, .nil, e, _, _ => by simp [shK] at e
  | _, _, _, _, i, .int _, .str _, e, _, _ => by simp [shK] at e
  | _, _, _, _, i, .str _, .int _, e, _, _ => by simp [shK] at e
  | _, _, _, _, i, .int (i := p) (t := t) (vs := us) (ks := ks) h1, .int (i := q) (t := u) (vs := ws) (ks := js) h2, e, h0, h => by
    have e' : shK ks = shK js := by simpa [shK] using e
    refine PySem.W.kat_cons (wpAny_eqBool_int ?_)
    by_cases x : p = q
    · subst x
      rw [beq_self_eq_true]
      rw [ltK, if_pos rfl] at h
      exact PySem.W.kat_yes (Zq2 (i + 1) h1 h2 e' (fun z => by omega) h)
    · rw [show (p == q) = false from beq_eq_false_iff_ne.mpr x]
      rw [ltK, if_neg (fun z => x (Sum.inl.inj z))] at h
      exact PySem.W.kat_no (TS.oneLt_ints _ h)
  | _, _, _, _, i, .str (x := p) (t := t) (vs := us) (ks := ks) h1, .str (x := q) (t := u) (vs := ws) (ks := js) h2, e, h0, h => by
    have e' : shK ks = shK js := by simpa [shK] using e
    have hi : i ≠ 0 := fun z => by simpa [shK] using h0 z
    refine PySem.W.kat_cons (SeqAt.EqAt.str_str p t q u prog w _ _ ?_)
    by_cases x : p = q
    · subst x
      rw [beq_self_eq_true]
      rw [ltK, if_pos rfl] at h
      exact PySem.W.kat_yes (Zq2 (i + 1) h1 h2 e' (fun z => by omega) h)
    · rw [show (p == q) = false from beq_eq_false_iff_ne.mpr x]
      rw [ltK, if_neg (fun z => x (Sum.inr.inj z))] at h
      have hb : (true && i == 0) = false := by simp [hi]
      refine PySem.W.kat_no ?_
      rw [hb]
      exact PySem.W.kat_one _ _ (lt_str h)
theorem Z08 {vs : List Value} {k : Value → List L2.Key} {sh : List Bool} (hs : sh.head? = some true) (hp : ∀ v ∈ vs, Zmn s.heap v (k v) ∧ shK (k v) = sh) : SrtO.Cmp prog w A s (tuples' true) (fun p => p.1 ∈ vs) (SrtO.lt2 fun v u => ltK (k v) (k u)) := by
  intro p q hm hm'
  obtain ⟨⟨a, o, arr, n, e, ho, hc, hd, kk⟩, s1⟩ := hp _ hm
  obtain ⟨⟨a', o', arr', n', e', ho', hc', hd', kk'⟩, s2⟩ := hp _ hm'
  show wpAny (model prog w) A (keyLt' (tuples' true) p.1 q.1) (fun r s' => s' = s ∧ r = ltK (k p.1) (k q.1)) (fun _ _ => False) s
  rw [e] at s1 kk ⊢
  rw [e'] at s2 kk' ⊢
  refine PySem.W.kat_lt ho hd ho' hd' ?_
  have l1 := kk.len
  have l2 := kk'.len
  have l3 : (shK (k (.ref a))).length = (shK (k (.ref a'))).length := by rw [s1, s2]
  have l4 : (k (.ref a)).length = (k (.ref a')).length := by simpa [shK] using l3
  rw [Array.length_toList] at l1 l2
  have sz : decide (arr.size < arr'.size) = false := decide_eq_false (by omega)
  rw [sz]
  exact Zq2 0 kk kk' (s1.trans s2.symm) (fun _ => by rw [s1]; exact hs) ⟨rfl, rfl⟩
theorem Zvp {h : Heap} {k : Value → List L2.Key} {sh : List Bool} (hs : sh.head? = some true) : ∀ {vs : List Value}, (∀ v ∈ vs, Zmn h v (k v) ∧ shK (k v) = sh) → ∃ fs : List Value, PySem.W.KatTups h vs fs ∧ fs.length = vs.length ∧ ∀ f ∈ fs, ∃ x t, f = Value.int x t
  | [], _ => ⟨[], PySem.W.KatTups.nil, rfl, fun _ hm => by simp at hm⟩
  | v :: vs, hp => by
    obtain ⟨fs, h1, h2, h3⟩ := Zvp hs (vs := vs) fun v' hm => hp v' (List.mem_cons_of_mem _ hm)
    obtain ⟨⟨a, o, arr, n, e, ho, hc, hd, kk⟩, s1⟩ := hp v List.mem_cons_self
    rw [← s1] at hs
    generalize k v = ks at kk hs
    generalize hl : arr.toList = us at kk
    cases kk with
    | nil => simp [shK] at hs
    | str _ => simp [shK] at hs
    | @int x t us ks q =>
      subst e
      refine ⟨.int x t :: fs, PySem.W.KatTups.cons ho hc hd ?_ h1, by rw [List.length_cons, List.length_cons, h2], fun f hm => ?_⟩
      · have z := congrArg (fun l : List Value => l[0]?) hl
        simpa using z
      · rcases List.mem_cons.mp hm with rfl | hm
        · exact ⟨x, t, rfl⟩
        · exact h3 f hm
theorem Z5v {vs : List Value} {k : Value → List L2.Key} {sh : List Bool} (h0 : 0 < vs.length) (hs : sh.head? = some true) (hp : ∀ v ∈ vs, Zmn s.heap v (k v) ∧ shK (k v) = sh) {Q : SortKind → Shared → Prop} (hq : Q (tuples' true) s) :
    wpAny (model prog w) A (keyKind' vs.toArray) Q E s := by
  obtain ⟨fs, h1, h2, h3⟩ := Zvp hs hp
  refine PySem.W.kat_kind (T := .type "int") h1 (by omega) (fun f hm => ?_) (by rfl) ?_
  · obtain ⟨x, t, rfl⟩ := h3 f hm
    exact PySem.W.Looks.now
  · have e : (Value.type "int" != Value.type "tuple") = true := by first | decide +kernel | rfl | decide
    rw [e]
    exact hq
end
section
variable {X : Cx}
theorem Z3v {pins : List (Addr × Obj)} {s : Shared} {σ : L2.St} {H : Hp} (I : Inv X pins σ H s) {t : Addr} {ks : List L2.Key} (h : H t = some (.tup (ks.map kV))) : Zmn s.heap (.ref t) ks := by
  obtain ⟨_, its2, r2, o, ho, hc, n, hd⟩ := I.hok _ _ h
  exact ⟨t, o, _, n, rfl, ho, hc, hd, by simpa using Zmi r2⟩
end
end DL
set_option Elab.async false
set_option linter.all false
set_option maxRecDepth 100000
set_option maxHeartbeats 4000000
namespace DL
open PySem PySem.Spec PyProof.Rows L2
section
variable {X : Cx}
theorem Zwe {pins : List (Addr × Obj)} {s : Shared} {σ : L2.St} {H : Hp} (I : Inv X pins σ H s) {a : Addr} {xs : List V} (h : H a = some (.lst xs)) :
    ∃ us n, Vals xs us ∧ s.heap.get? a = some (seqObj "list" us.toArray n) ∧ xs.length ≤ sizeLine := by
  obtain ⟨hz, its, n, rv, hob⟩ := I.hok a _ h
  exact ⟨its, n, rv, hob, hz⟩
theorem Zwt {pins : List (Addr × Obj)} {s : Shared} {σ : L2.St} {H : Hp} (I : Inv X pins σ H s) {a : Addr} {xs ys : List V} {us : List Value} {n t : Nat} (f : Obj → Obj) (h : H a = some (.lst xs)) (r : Vals ys us) (hz : ys.length ≤ sizeLine)
    (hg : (s.heap.update a f).get? a = some (seqObj "list" us.toArray n)) : Inv X pins σ (upd H a (.lst ys)) { s with heap := s.heap.update a f, toks := t } := by
  have s1 := Heap.SameBut.update s.heap a f
  exact I.write (e := a) (t' := t) (by rw [h]; trivial) (.inl rfl) (fun b u hb hu => (s1.2 b hb).trans hu) ⟨_, hg⟩ ⟨hz, us, n, r, hg⟩
theorem Zsy : ∀ {vs : List V} {us : List Value} {v : V} {u : Value}, Vals vs us → RelV v u → Vals (vs ++ [v]) (us ++ [u])
  | _, _, _, _, .nil, h => .cons h .nil
  | _, _, _, _, .cons h r, q => .cons h (Zsy r q)
theorem Vals.at {i : Nat} {v : V} {vs : List V} {us : List Value} (r : Vals vs us) (h : vs[i]? = some v) : ∃ u, us[i]? = some u ∧ RelV v u := by
  induction r generalizing i with
  | nil => simp at h
  | @cons x u xs us h1 r ih =>
    cases i with
    | zero => simp at h; subst h; exact ⟨u, rfl, h1⟩
    | succ i => exact ih (by simpa using h)
theorem Vals.atV {i : Nat} {u : Value} {vs : List V} {us : List Value} (r : Vals vs us) (h : us[i]? = some u) : ∃ v, vs[i]? = some v ∧ RelV v u := by
  induction r generalizing i with
  | nil => simp at h
  | @cons x u' xs us h1 r ih =>
    cases i with
    | zero => simp at h; subst h; exact ⟨x, rfl, h1⟩
    | succ i => exact ih (by simpa using h)
def Znc (K : PySem.W.Frag) (sp : Sp) (f : Addr) : List V → List V → Hp → VK → Prop := fun vs zs H Q => ∃ (a : Addr) (xs : List V) (J : Addr → Nat → List V → Hp → Prop), vs = [.ref a] ∧ zs = [.ref f] ∧ SqL K H a xs ∧
  (∀ c, H c = none → J c 0 [] (upd H c (.lst []))) ∧
  (∀ c j x ks H', xs[j]? = some x → J c j ks H' → H' c = some (.lst ks) ∧ sp [x] H' (fun v H'' => H'' c = some (.lst ks) ∧ J c (j + 1) (ks ++ [v]) (upd H'' c (.lst (ks ++ [v])))) (fun _ _ _ => False)) ∧
  ∀ c ks H', J c xs.length ks H' → H' c = some (.lst ks) ∧ ∃ (kk : V → List L2.Key) (sh : List Bool), ks.length = xs.length ∧ sh.head? = some true ∧ (∀ v ∈ ks, shK (kk v) = sh ∧ ∃ t, v = .ref t ∧ H' t = some (.tup ((kk v).map kV))) ∧
    ∀ b (zs : List (V × V)), H' b = none → zs.Perm (ks.zip xs) → zs.Pairwise (fun p q => ltK (kk q.1) (kk p.1) = false) → Q (.ref b) (upd (upd H' c (.lst [])) b (.lst (zs.map (·.2))))
theorem Inv.track {pins : List (Addr × Obj)} {s : Shared} {σ : L2.St} {H : Hp} {h' : Heap} {t' : Nat} {b : Addr} {out : List V} {us : List Value} {n : Nat} (I : Inv X pins σ H s) (f : FpOk X pins H b)
    (k : ∀ c o, c ≠ b → s.heap.get? c = some o → h'.get? c = some o) (hz : out.length ≤ sizeLine) (r : Vals out us) (hg : h'.get? b = some (seqObj "list" us.toArray n)) : Inv X pins σ (upd H b (.lst out)) { s with heap := h', toks := t' } := by
  have hn : H b = none := f.1
  refine I.step (g' := s.gens) (d' := s.drawn) (ch := [b]) (fun c hc => ?_) (fun c o _ _ hc e _ => k c o (fun z => hc (by simp [z])) e) (fun c o _ _ hc e _ => ⟨o.slots, k c o (fun z => hc (by simp [z])) e⟩)
    (fun c o hc e q => ?_) (fun c o hc e => ⟨o, k c o (fun z => hc (by simp [z])) e⟩) (fun c xs e => ?_) (fun c o u e => ?_) (fun c ps e => ⟨#[], ?_⟩) (fun m hm => ?_) (fun c u e => ?_) I.bare
  · obtain rfl : c = b := by simpa using hc
    exact ⟨f.2.2.2.1, f.2.1, f.2.2.2.2.1, f.2.2.2.2.2⟩
  · rw [upd_ne (fun z => hc (by simp [z]))]; exact q
  · rw [upd_ne (ne_of_none e hn)]; exact e
  · rw [upd_ne (ne_of_none e hn)]; exact e
  · rw [upd_ne (ne_of_none e hn), e]; simp
  · obtain ⟨o, es, ep, ho, r⟩ := hm
    exact ⟨o, es, ep, k _ o (fun z => f.2.1 z.symm) ho, r⟩
  · by_cases hb : c = b
    · subst hb
      rw [upd_same] at e
      cases e
      exact ⟨hz, us, n, r, hg⟩
    · rw [upd_ne hb] at e
      have nb : ∀ d u, H d = some u → d ≠ b := fun d u e => ne_of_none e hn
      refine (I.hok c u e).stay (fun d v hd q => k d v ?_ q) (fun d q => by rw [upd_ne (ne_of_none q hn)]; exact q) fun d xs q => by rw [upd_ne (ne_of_none q hn)]; exact q
      rcases hd with z | z
      · rw [z]; exact hb
      · exact nb d _ z
theorem Z0z {vs : List V} {us : List Value} (r : Vals vs us) (h : ∀ x ∈ vs, ∃ t, x = V.ref t) : vs = us.map backV ∧ ∀ u ∈ us, ∃ a, u = Value.ref a := refs_back r h
def Zne (zs : List (V × V)) (ps : List Keyed) : Prop := Vals (zs.map (·.1)) (ps.map (·.1)) ∧ Vals (zs.map (·.2)) (ps.map (·.2))
theorem Zmx : ∀ {ks xs : List V} {ku xu : List Value}, Vals ks ku → Vals xs xu → Zne (ks.zip xs) (ku.zip xu)
  | _, _, _, _, .nil, _ => ⟨.nil, .nil⟩
  | _, _, _, _, .cons _ _, .nil => ⟨.nil, .nil⟩
  | _, _, _, _, .cons h1 r1, .cons h2 r2 => by
    obtain ⟨a, b⟩ := Zmx r1 r2
    exact ⟨.cons h1 a, .cons h2 b⟩
theorem Zru {ps qs : List Keyed} (h : ps.Perm qs) : ∀ {zs : List (V × V)}, Zne zs ps → ∃ zs' : List (V × V), zs'.Perm zs ∧ Zne zs' qs := by
  induction h with
  | nil => exact fun {zs} r => ⟨zs, .refl _, r⟩
  | @cons p ps qs _ ih =>
    intro zs r
    cases zs with
    | nil => cases r.1
    | cons z zs =>
      obtain ⟨r1, r2⟩ := r
      cases r1 with
      | cons a1 r1 => cases r2 with
        | cons a2 r2 =>
          obtain ⟨zs', hp, q1, q2⟩ := ih (zs := zs) ⟨r1, r2⟩
          exact ⟨z :: zs', hp.cons z, .cons a1 q1, .cons a2 q2⟩
  | @swap p q ps =>
    intro zs r
    cases zs with
    | nil => cases r.1
    | cons z zs =>
      cases zs with
      | nil => obtain ⟨r1, r2⟩ := r; cases r1 with
        | cons _ r1 => cases r1
      | cons y zs =>
        obtain ⟨r1, r2⟩ := r
        cases r1 with
        | cons a1 r1 => cases r1 with
          | cons b1 r1 => cases r2 with
            | cons a2 r2 => cases r2 with
              | cons b2 r2 => exact ⟨y :: z :: zs, List.Perm.swap _ _ _, .cons b1 (.cons a1 r1), .cons b2 (.cons a2 r2)⟩
  | trans _ _ ih1 ih2 =>
    intro zs r
    obtain ⟨z1, h1, r1⟩ := ih1 r
    obtain ⟨z2, h2, r2⟩ := ih2 r1
    exact ⟨z2, h2.trans h1, r2⟩
theorem Zur {kv : V → List L2.Key} : ∀ {zs : List (V × V)} {ps : List Keyed}, Zne zs ps → (∀ p ∈ ps, ∃ t, p.1 = Value.ref t) → ps.Pairwise (fun p q => ltK (kv (backV q.1)) (kv (backV p.1)) = false) → zs.Pairwise fun p q => ltK (kv q.1) (kv p.1) = false := by
  intro zs
  induction zs with
  | nil => intro ps _ _ _; exact .nil
  | cons z zs ih =>
    intro ps r hr hp
    obtain ⟨r1, r2⟩ := r
    cases ps with
    | nil => cases r1
    | cons p ps =>
      cases r1 with
      | cons a1 r1 => cases r2 with
        | cons a2 r2 =>
          obtain ⟨h1, h2⟩ := List.pairwise_cons.mp hp
          refine List.pairwise_cons.mpr ⟨fun y hy => ?_, ih ⟨r1, r2⟩ (fun q hq => hr q (List.mem_cons_of_mem _ hq)) h2⟩
          have back : ∀ {v : V} {u : Value}, RelV v u → (∃ t, u = Value.ref t) → v = backV u := fun {v u} h ⟨t, e⟩ => by
            subst e
            cases v with
            | ref b =>
              have e : Value.ref t = Value.ref b := h
              cases e; rfl
            | non => cases h
            | bl b => cases h
            | int i => obtain ⟨_, e⟩ := h; cases e
            | str x => obtain ⟨_, e⟩ := h; cases e
            | _ => first | (cases h; done) | (obtain ⟨_, e⟩ := h; cases e)
          obtain ⟨i, hi, ey⟩ := List.getElem_of_mem hy
          have g1 : (zs.map (·.1))[i]? = some y.1 := by simp [hi, ey]
          obtain ⟨u, hu, ru⟩ := Vals.at r1 g1
          obtain ⟨q, hq, eq⟩ : ∃ q ∈ ps, q.1 = u := by
            obtain ⟨q, hq, e⟩ := List.mem_map.mp (List.mem_of_getElem? hu)
            exact ⟨q, hq, e⟩
          have := h1 q hq
          have e1 : z.1 = backV p.1 := back a1 (hr p List.mem_cons_self)
          have e2 : y.1 = backV u := back ru (eq ▸ hr q (List.mem_cons_of_mem _ hq))
          rw [e1, e2, ← eq]
          exact this
theorem Zxv {k : Nat} {f : Addr} {fd : FuncData} {ps : List Str} {sp : Sp} (F : FnOk X.prog X.w X.K X.mg X.base (L2.CX X.prog X.w) k f fd ps sp) (hr : Room (k + 2) X.A) (hb : Binds X.K fd ps []) :
    CallRK X (.builtin "sorted") [Str.ofString "key"] (Znc X.K sp f) := by
  intro pins s σ H vs zs us ws Q I r rz h
  obtain ⟨a, xs, J, rfl, rfl, hl0, j0, jS, jE⟩ := h
  obtain ⟨its, rv, hl, hz⟩ := I.list hl0
  obtain ⟨u, rfl, ru⟩ := vals1 r
  obtain rfl : u = Value.ref a := ru
  obtain ⟨w1, rfl, e1⟩ := vals1 rz
  obtain rfl : w1 = Value.ref f := e1
  have hZ : its.length ≤ sizeLine := by rw [← rv.length]; exact hz
  show wpAny (model X.prog X.w) X.A (call (.builtin "sorted") [.ref a] [(Str.ofString "key", .ref f)]) (EP X pins σ Q) X.xe s
  refine call_function_entry_kw kind_sorted plain_sorted entry_sorted (PyProof.Rows.ksk_s1 _ _) ?_
  unfold Builtin.«sorted»
  refine wpAny_bind (m := checkCount "sorted" 1 1 _) (wpAny_pure ?_)
  refine wpAny_bind (collect_list hl.isList ?_ hZ)
  refine wpAny_bind (wpAny_newList ?_ hZ)
  have hsz : ((s.heap.push (seqObj "list" #[] 0)).update s.heap.objs.size (Obj.mapSeq (· ++ its.toArray))).objs.size = s.heap.objs.size + 1 := by
    rw [Heap.size_update, size_push']
  have hoL : (((s.heap.push (seqObj "list" #[] 0)).update s.heap.objs.size (Obj.mapSeq (· ++ its.toArray))).push (seqObj "list" its.toArray 0)).get? (s.heap.objs.size + 1) = some (seqObj "list" its.toArray 0) := by
    rw [← hsz]; exact Heap.get?_push_size _ rfl
  have keep : ∀ b o, s.heap.get? b = some o → (((s.heap.push (seqObj "list" #[] 0)).update s.heap.objs.size (Obj.mapSeq (· ++ its.toArray))).push (seqObj "list" its.toArray 0)).get? b = some o := fun b o q => by
    have hlt : b < s.heap.objs.size := Heap.lt_size q
    rw [Heap.get?_push_ne _ _ _ (by rw [hsz]; exact Nat.ne_of_lt (Nat.lt_succ_of_lt hlt)), Heap.get?_update_ne _ _ _ _ (Nat.ne_of_lt hlt), Heap.get?_push_ne _ _ _ (Nat.ne_of_lt hlt)]
    exact q
  show wpAny _ _ _ _ _ { s with heap := ((s.heap.push (seqObj "list" #[] 0)).update s.heap.objs.size (Obj.mapSeq (· ++ its.toArray))).push (seqObj "list" its.toArray 0) }
  rw [hsz]
  refine wpAny_bind (wpAny_holding (wpAny_call_entry_kw slot_list_sort ⟨_, hoL, rfl⟩ entry_list_sort ?body (PyProof.Rows.ksk_l1 _ _)))
  generalize hh1 : (((s.heap.push (seqObj "list" #[] 0)).update s.heap.objs.size (Obj.mapSeq (· ++ its.toArray))).push (seqObj "list" its.toArray 0)) = h1 at hoL keep ⊢
  generalize hb0 : s.heap.objs.size + 1 = b at hoL ⊢
  have hge : s.heap.objs.size ≤ b := by omega
  show wpAny (model X.prog X.w) X.A.in1.in1 (Builtin.«list.sort» ⟨[.ref b], [(Str.ofString "key", .ref f)]⟩) _ _ _
  rw [PyProof.Rows.ksk_t1]
  unfold ksk_tree
  refine wpAny_bind (listItems_at hoL rfl ?_)
  have s1 := Heap.SameBut.update h1 b (Obj.mapSeq fun _ => (#[] : Array Value))
  refine wpAny_bind (listUpdate_at hoL rfl ?_ (by rw [List.size_toArray]; exact hZ) (Nat.zero_le _))
  obtain ⟨e1, ho1⟩ : ∃ e1, (h1.update b (Obj.mapSeq fun _ => (#[] : Array Value))).get? b = some (seqObj "list" #[] e1) := ⟨_, get?_update_seq hoL fun _ => #[]⟩
  refine wpAny_bind (seqEpoch_at ho1 rfl ?_)
  refine wpAny_bind (wpAny_newTuple ?_ (by show its.length ≤ _; exact hZ))
  refine wpAny_bind (wpAny_newList ?_ (Nat.zero_le _))
  refine wpAny_holding ?_
  generalize hh2 : (h1.update b (Obj.mapSeq fun _ => (#[] : Array Value))).push (seqObj "tuple" its.toArray 0) = h2 at *
  have keep2 : ∀ c o, s.heap.get? c = some o → h2.get? c = some o := fun c o q => by
    rw [← hh2]
    refine Heap.get?_push_of_some _ ?_
    have hc : c ≠ b := Nat.ne_of_lt (Nat.lt_of_lt_of_le (Heap.lt_size q) hge)
    exact (s1.2 c hc).trans (keep c o q)
  have hob : h2.get? b = some (seqObj "list" #[] e1) := by rw [← hh2]; exact Heap.get?_push_of_some _ ho1
  have hHb : H b = none := I.hok.fresh hge
  have I1 : Inv X (pins ++ [(b, seqObj "list" #[] e1)]) σ H { s with heap := h2, toks := s.toks } := by
    refine (I.kept (t' := s.toks) keep2).pins_of fun p hp => ?_
    rcases List.mem_append.mp hp with hp | hp
    · exact (I.kept (t' := s.toks) keep2).pin p (List.mem_append_right _ hp)
    · obtain rfl : p = (b, seqObj "list" #[] e1) := by simpa using hp
      exact ⟨hob, hHb, Nat.ne_of_gt (Nat.lt_of_lt_of_le I.lt hge), I.nofs hge, fun v z => by cases z⟩
  obtain ⟨c, hc0⟩ : ∃ c, h2.objs.size = c := ⟨_, rfl⟩
  have I2 : Inv X (pins ++ [(b, seqObj "list" #[] e1)]) σ (upd H c (.lst [])) { s with heap := h2.push (seqObj "list" #[] 0), toks := s.toks } :=
    I1.laid (t' := s.toks) (fun c' o q => Heap.get?_push_of_some _ q) (by show h2.objs.size ≤ c; omega) ⟨by rw [sizeLine_eq]; exact Nat.zero_le _, [], 0, .nil, by rw [← hc0]; exact Heap.get?_push_size _ rfl⟩
  have hlt : b < h2.objs.size := Heap.lt_size hob
  rw [hc0] at hlt
  have hbc : b ≠ c := Nat.ne_of_lt hlt
  have hHc : H c = none := I.hok.fresh (Nat.le_trans hge (Nat.le_of_lt hlt))
  have J0 := j0 c hHc
  show wpAny (model X.prog X.w) X.A.in1.in1 (ksk_rest b (.ref f) false its.toArray e1 (.ref h2.objs.size)) _ _ { s with heap := h2.push (seqObj "list" #[] 0) }
  rw [hc0]
  unfold ksk_rest
  refine wpAny_bind (wpAny_rule ?_)
  first
    | rw [List.forIn_toArray]
    | (rw [← Array.forIn_toList]; simp only [List.toList_toArray])
    | rw [← Array.forIn_toList]
  have hIb : ∀ {pins' : List (Addr × Obj)} {H' : Hp} {s' : Shared} (x : V) (u : Value) (hx : RelV x u) (Q' : VK), Inv X pins' σ H' s' → sp [x] H' Q' (fun _ _ _ => False) → wpAny (model X.prog X.w) X.A.in1.in1 (call (.ref f) [u]) (EP X pins' σ Q') (fun _ _ => False) s' := by
    intro pins' H' s' x u hx Q' I' hsp
    have hl1 : ([u] : List Value).length = ps.length := by
      have := F.len _ _ _ _ hsp
      simpa using this
    refine wpAny_call (codeAny_mono (F.run X.A.in1.in1 X.stack s' H' ⟨[u], []⟩ [u] [x] Q' (fun _ _ _ => False) ((hr.in1).in1) I'.env0.in1.in1 (by have := hb s' [u] I'.kIn (by simpa using hl1); rw [List.append_nil] at this; exact this) (.cons hx .nil) hsp) fun r s'' hq => ?_)
    cases r with
    | error e =>
      obtain ⟨_, _, _, _, _, _, _, _, _, _, _, _, z⟩ := hq
      exact z.elim
    | ok fl =>
      cases fl with
      | ret u => exact I'.after hq
      | next => exact False.elim hq
      | brk => exact False.elim hq
      | cont => exact False.elim hq
  refine wpAny_bind (ksk_fold (fun i s' => ∃ ks H', ks.length = i ∧ Inv X (pins ++ [(b, seqObj "list" #[] e1)]) σ H' s' ∧ J c i ks H') its 0 { s with heap := h2.push (seqObj "list" #[] 0) } ⟨[], _, rfl, I2, J0⟩ ?step ?done)
  case step =>
    rintro j u s' hu ⟨ks, H', hkj, I', hJ⟩
    rw [Nat.zero_add] at hJ hkj ⊢
    obtain ⟨x, hx, rx⟩ := Vals.atV rv hu
    obtain ⟨hc', hsp⟩ := jS c j x ks H' hx hJ
    refine wpAny_bind (wpAny_attempt (wpAny_mono (hIb x u rx _ I' hsp) (fun v s'' he => ?_) fun _ _ hF => hF.elim))
    obtain ⟨y, H'', I'', ry, hc'', hJ''⟩ := he
    dsimp only
    obtain ⟨ku, n, rk, hg, hkz⟩ := Zwe I'' hc''
    have hj : j < its.length := (List.getElem?_eq_some_iff.mp hu).1
    have hlen : ks.length + 1 ≤ sizeLine := by omega
    refine wpAny_bind (listUpdate_at hg rfl ?_ (by rw [List.size_toArray, ← rk.length]; exact hkz) (by rw [Array.size_push, List.size_toArray, ← rk.length]; omega))
    obtain ⟨n2, hg2⟩ : ∃ n2, (s''.heap.update c (Obj.mapSeq (·.push v))).get? c = some (seqObj "list" (ku ++ [v]).toArray n2) := by
      have := get?_update_seq hg (·.push v)
      rw [List.push_toArray] at this
      exact ⟨_, this⟩
    refine wpAny_pure ⟨rfl, ks ++ [y], _, by simp [hkj], Zwt (t := s''.toks) I'' _ hc'' (Zsy rk ry) (by simpa using hlen) hg2, hJ''⟩
  case done =>
    rintro s' ⟨ks, H', hkj, I', hJ⟩
    rw [Nat.zero_add, ← rv.length] at hJ
    obtain ⟨hc', kk, sh, hkl, hsh, hks, fin⟩ := jE c ks H' hJ
    obtain ⟨ku, n, rk, hg, hkz⟩ := Zwe I' hc'
    obtain ⟨hgb, hnb, _⟩ := I'.pin (b, seqObj "list" #[] e1) (by simp)
    dsimp only at hgb hnb
    try dsimp only
    refine wpAny_bind (listItems_at hg rfl ?_)
    have hkul : ku.length = its.length := by rw [← rk.length, ← rv.length]; exact hkl
    obtain ⟨eb1, eb2⟩ := Z0z rk fun v hv => by
      obtain ⟨_, t, e, _⟩ := hks v hv
      exact ⟨t, e⟩
    have htup : ∀ v ∈ ku, Zmn s'.heap v (kk (backV v)) ∧ shK (kk (backV v)) = sh := fun v hv => by
      have hm : backV v ∈ ks := by rw [eb1]; exact List.mem_map.mpr ⟨_, hv, rfl⟩
      obtain ⟨e1, t, e2, e3⟩ := hks _ hm
      obtain ⟨t', rfl⟩ := eb2 v hv
      have e4 : V.ref t' = V.ref t := e2
      cases e4
      exact ⟨Z3v I' e3, e1⟩
    have tail : ∀ (st : SortSt), failedOf st = none → (arrOf st).toList.Perm (ku.zip its) → (arrOf st).toList.Pairwise (fun p q => ltK (kk (backV q.1)) (kk (backV p.1)) = false) → wpAny (model X.prog X.w) X.A.in1.in1 (ksk_tail b false e1 (.ref c) st)
        (fun fin s' => ∃ v, fin = PySem.Fin.done (Flow.ret v) ∧ wpAny (model X.prog X.w) X.A.in1 (ret (Value.ref b)) (fun fin s' => ∃ v, fin = PySem.Fin.done (Flow.ret v) ∧ EP X pins σ Q v s') X.xe s') X.xe s' := by
      intro st hf hp hs
      obtain ⟨zs, hzp, hz1, hz2⟩ := Zru hp.symm (Zmx rk rv)
      have hrefs : ∀ p ∈ (arrOf st).toList, ∃ t, p.1 = Value.ref t := fun p hq => eb2 p.1 (List.of_mem_zip (hp.mem_iff.mp hq)).1
      have hpw := Zur (kv := kk) ⟨hz1, hz2⟩ hrefs hs
      have hQ := fin b zs hnb hzp hpw
      unfold ksk_tail
      try dsimp only
      refine wpAny_bind (listUpdate_at hg rfl ?_ (by rw [List.size_toArray, ← rk.length]; exact hkz) (Nat.zero_le _))
      refine wpAny_bind (wpAny_letGo ?_)
      have su := Heap.SameBut.update s'.heap c (Obj.mapSeq fun _ => (#[] : Array Value))
      have hgb1 := (su.2 b hbc).trans hgb
      obtain ⟨nc, hgc1⟩ : ∃ nc, (s'.heap.update c (Obj.mapSeq fun _ => (#[] : Array Value))).get? c = some (seqObj "list" ([] : List Value).toArray nc) := ⟨_, get?_update_seq hg fun _ => #[]⟩
      refine wpAny_bind (seqEpoch_at hgb1 rfl ?_)
      have hzl : zs.length = its.length := by rw [hzp.length_eq, List.length_zip, hkl, rv.length, Nat.min_self]
      have hsz2 : (arrOf st).size = its.length := by
        have := hp.length_eq
        rw [Array.length_toList, List.length_zip, hkul, Nat.min_self] at this
        exact this
      refine wpAny_bind (listUpdate_at hgb1 rfl ?_ (Nat.zero_le _) (by
        simp only [Bool.false_eq_true, if_false, Array.size_map]
        rw [hsz2]
        omega))
      rw [hf]
      simp only [bne_self_eq_false, Bool.false_eq_true, if_false]
      have I3 := fun t => Zwt (t := t) I' (Obj.mapSeq fun _ => (#[] : Array Value)) hc' (ys := []) .nil (by rw [sizeLine_eq]; exact Nat.zero_le _) hgc1
      have hn3 : (upd H' c (.lst [])) b = none := by rw [upd_ne hbc]; exact hnb
      obtain ⟨n4, hg4⟩ : ∃ n4, ((s'.heap.update c (Obj.mapSeq fun _ => (#[] : Array Value))).update b (Obj.mapSeq fun _ => (arrOf st).map (·.2))).get? b = some (seqObj "list" ((arrOf st).toList.map (·.2)).toArray n4) := by
        have := get?_update_seq hgb1 (fun _ => (arrOf st).map (·.2))
        have ea : (arrOf st).map (·.2) = ((arrOf st).toList.map (·.2)).toArray := by
          apply Array.ext'
          simp
        exact ⟨_, this.trans (by rw [ea])⟩
      have sv := Heap.SameBut.update (s'.heap.update c (Obj.mapSeq fun _ => (#[] : Array Value))) b (Obj.mapSeq fun _ => (arrOf st).map (·.2))
      refine wpAny_pure ⟨_, rfl, ?_⟩
      refine wpAny_pure ⟨_, rfl, .ref b, _, Inv.track (s := { s' with heap := s'.heap.update c (Obj.mapSeq fun _ => (#[] : Array Value)), toks := s'.toks }) (I3 s'.toks).unpinned (I.fpOk hge hn3) (fun d o hd q => (sv.2 d hd).trans q) (by rw [List.length_map, hzl]; exact hZ) hz2 hg4, rfl, hQ⟩
    unfold ksk_end
    try dsimp only
    rw [if_neg Bool.false_ne_true, if_neg Bool.false_ne_true]
    have hzs : (ku.toArray.zip its.toArray).toList = ku.zip its := PyProof.Rows.ksk_zip _ _
    by_cases h2 : its.toArray.size < 2
    · rw [if_pos h2, if_pos h2]
      refine wpAny_bind (wpAny_pure ?_)
      rw [StateT.run_pure]
      refine wpAny_bind (wpAny_pure ?_)
      try dsimp only
      refine tail (SortSt.mk' general' (ku.toArray.zip its.toArray) #[] 7 none) rfl (by show (ku.toArray.zip its.toArray).toList.Perm _; rw [hzs]) ?_
      show (ku.toArray.zip its.toArray).toList.Pairwise _
      rw [hzs]
      rw [List.size_toArray] at h2
      have : (ku.zip its).length < 2 := by rw [List.length_zip, hkul]; omega
      match hq : ku.zip its, this with
      | [], _ => exact .nil
      | [p], _ => exact List.pairwise_singleton _ _
      | _ :: _ :: l, z => exact absurd z (by rw [List.length_cons, List.length_cons]; omega)
    · rw [if_neg h2, if_neg h2]
      rw [List.size_toArray] at h2
      refine wpAny_bind (Z5v (by omega) hsh htup ?_)
      have hall : SrtO.AllL (fun p : Keyed => p.1 ∈ ku) (ku.toArray.zip its.toArray).toList := fun p hm => by
        rw [hzs] at hm
        exact (List.of_mem_zip hm).1
      refine wpAny_bind (wpAny_mono (SrtO.wpS_sortO (lt := SrtO.lt2 fun v u => ltK (kk (backV v)) (kk (backV u))) (st0 := SortSt.mk' (tuples' true) (ku.toArray.zip its.toArray) #[] 7 none)
        (Q := fun _ st' => SrtO.Srtd (SrtO.lt2 fun v u => ltK (kk (backV v)) (kk (backV u))) (arrOf st').toList ∧ SrtO.Stb (SrtO.lt2 fun v u => ltK (kk (backV v)) (kk (backV u))) (arrOf st').toList (ku.toArray.zip its.toArray).toList ∧ failedOf st' = none)
        (SrtO.swo2 ⟨fun x y => Zyy.swo.asym _ _, fun x y z => Zyy.swo.tr _ _ _⟩) (Z08 hsh htup) rfl hall rfl rfl fun st' a1 a2 a3 => ⟨a1, a2, a3⟩) ?_ fun _ _ e => e)
      rintro ⟨⟨⟩, st'⟩ s'' ⟨rfl, hp1, hp2, hf⟩
      try dsimp only
      refine tail st' hf ?_ hp1
      have := hp2.perm
      rw [hzs] at this
      exact this
end
end DL
set_option Elab.async false
set_option linter.all false
set_option maxRecDepth 100000
set_option maxHeartbeats 4000000
namespace DL
open PySem PySem.Spec PyProof.Rows L2
theorem Zoy {α β : Type} {R : α → β → Prop} {as as' : List α} (h : as.Perm as') : ∀ {bs : List β}, Paired R as bs → ∃ bs' : List β, bs'.Perm bs ∧ Paired R as' bs' := by
  induction h with
  | nil => exact fun {bs} r => ⟨bs, .refl _, r⟩
  | @cons p ps qs _ ih =>
    intro bs r
    cases r with
    | cons a r =>
      obtain ⟨bs', hp, q⟩ := ih r
      exact ⟨_, hp.cons _, .cons a q⟩
  | @swap p q ps =>
    intro bs r
    cases r with
    | cons a r => cases r with
      | cons b r => exact ⟨_, List.Perm.swap _ _ _, .cons b (.cons a r)⟩
  | trans _ _ ih1 ih2 =>
    intro bs r
    obtain ⟨b1, h1, r1⟩ := ih1 r
    obtain ⟨b2, h2, r2⟩ := ih2 r1
    exact ⟨b2, h2.trans h1, r2⟩
theorem Zoe {α β : Type} {R : α → β → Prop} : ∀ {as : List α} {bs : List β}, as.length = bs.length → (∀ (i : Nat) a b, as[i]? = some a → bs[i]? = some b → R a b) → Paired R as bs
  | [], [], _, _ => .nil
  | [], _ :: _, h, _ => by simp at h
  | _ :: _, [], h, _ => by simp at h
  | a :: as, b :: bs, h, q => .cons (q 0 a b rfl rfl) (Zoe (by simpa using h) fun i x y hx hy => q (i + 1) x y (by simpa using hx) (by simpa using hy))
theorem Zxg {α β : Type} {R : α → β → Prop} {as : List α} {bs : List β} (r : Paired R as bs) : ∀ b ∈ bs, ∃ a ∈ as, R a b := by
  induction r with
  | nil => intro b hb; cases hb
  | @cons a b as bs h r ih =>
    intro x hx
    rcases List.mem_cons.mp hx with rfl | hx
    · exact ⟨a, List.mem_cons_self, h⟩
    · obtain ⟨y, hy, z⟩ := ih x hx
      exact ⟨y, List.mem_cons_of_mem _ hy, z⟩
theorem Zy4 {α β : Type} {R : α → β → Prop} {P : α → α → Prop} {P' : β → β → Prop} (hP : ∀ a a' b b', R a b → R a' b' → P a a' → P' b b') : ∀ {as : List α} {bs : List β}, Paired R as bs → as.Pairwise P → bs.Pairwise P' := by
  intro as bs r
  induction r with
  | nil => intro _; exact .nil
  | @cons a b as bs h r ih =>
    intro hp
    obtain ⟨h1, h2⟩ := List.pairwise_cons.mp hp
    refine List.pairwise_cons.mpr ⟨fun y hy => ?_, ih h2⟩
    obtain ⟨x, hx, rx⟩ := Zxg r y hy
    exact hP _ _ _ _ h rx (h1 x hx)
section
variable {K : PySem.W.Frag} {S : Hp}
theorem Zub {vs : List V} {ds : List D} (r : Paired (Rep K S) vs ds) : Reps K S vs ds := by
  induction r with
  | nil => exact .nil
  | cons a r ih => exact .cons a ih
end
theorem Z6d : ∀ {a b : L2.Key}, kV a = kV b → a = b
  | .inl _, .inl _, h => by cases h; rfl
  | .inr _, .inr _, h => by cases h; rfl
  | .inl _, .inr _, h => by cases h
  | .inr _, .inl _, h => by cases h
theorem Zyj : ∀ {as bs : List L2.Key}, as.map kV = bs.map kV → as = bs
  | [], [], _ => rfl
  | [], _ :: _, h => by cases h
  | _ :: _, [], h => by cases h
  | a :: as, b :: bs, h => by
    rw [List.map_cons, List.map_cons] at h
    injection h with h1 h2
    rw [Z6d h1, Zyj h2]
noncomputable def Zyg (H : Hp) (v : V) : List L2.Key := open Classical in if h : ∃ ks : List L2.Key, ∃ t, v = .ref t ∧ H t = some (.tup (ks.map kV)) then h.choose else []
theorem Z0u {H : Hp} {t : Addr} {ks : List L2.Key} (h : H t = some (.tup (ks.map kV))) : Zyg H (.ref t) = ks := by
  have ex : ∃ ks : List L2.Key, ∃ t', V.ref t = .ref t' ∧ H t' = some (.tup (ks.map kV)) := ⟨ks, t, rfl, h⟩
  unfold Zyg
  rw [dif_pos ex]
  obtain ⟨t', e, q⟩ := ex.choose_spec
  cases e
  rw [h] at q
  injection q with q
  injection q with q
  exact (Zyj q).symm
section
variable {X : Cx} {F : Fr} {W : WX} {e a : Expr} {we wa : WE} {pos p : Pos}
def Z7n (γ : G) (ds : List D) (k : List D → Prop) : Prop := ∃ (kf : D → List L2.Key) (sh : List Bool), sh.head? = some true ∧ (∀ d ∈ ds, shK (kf d) = sh ∧ γ [.sh d] fun r => r = .ok (.sh (.tup ((kf d).map keyD)))) ∧
  ∀ es : List D, es.Perm ds → es.Pairwise (fun x y => ltK (kf y) (kf x) = false) → k es
def Zmp (γ : G) : O1 := fun x k => match x.dat with
  | some (.lst ds) => Z7n γ ds fun es => k (.ow (.lst es))
  | _ => False
theorem Zof {γ : G} : Zg1 (Zmp γ) := fun x k k' m h => by
  unfold Zmp at h ⊢
  split at h
  · obtain ⟨kf, sh, h1, h2, h⟩ := h
    exact ⟨kf, sh, h1, h2, fun a b c => m _ (h a b c)⟩
  · exact h.elim
theorem C.mut' {l : List Cell} {H : Hp} {a : Addr} {d : D} (h : C F ((.ow d, some (.ref a)) :: l) H) (nb : ∀ p ∈ l, p.1.env ∨ p.2 ≠ some (.ref a)) :
    ∃ S, GS F S H ∧ RC F.K S (H a) d ∧ (∀ p ∈ l, SC F S H p) ∧ ∀ o' d', RC F.K S (some o') d' → C F ((.ow d', some (.ref a)) :: l) (upd H a o') := by
  obtain ⟨S, g, c, b⟩ := h
  obtain ⟨a', e1, h0, hS, r⟩ := c _ List.mem_cons_self
  cases e1
  obtain ⟨b1, b2⟩ := List.pairwise_cons.mp b
  have na : ∀ p ∈ l, a ∉ fpC H p := fun p hp => (b1 p hp).no trivial (by simp [fpC])
  refine ⟨S, g, r, fun p hp => c p (List.mem_cons_of_mem _ hp), fun o' d' r' => ⟨S, g.mut hS h0, fun p hp => ?_, List.pairwise_cons.mpr ⟨fun p hp => ?_, Zwn b2 na⟩⟩⟩
  · rcases List.mem_cons.mp hp with rfl | hp
    · exact ⟨a, rfl, h0, hS, by rw [upd_same]; exact r'⟩
    · have s := c p (List.mem_cons_of_mem _ hp)
      rcases nb p hp with ht | nn
      · exact s.mut h0 (na p hp) ht
      · by_cases ht : p.1.env
        · exact s.mut h0 (na p hp) ht
        · obtain ⟨x, w⟩ := p
          cases x with
          | bt d2 =>
            obtain ⟨a2, e2, r2⟩ := s
            have ne : a2 ≠ a := fun z => by
              subst z
              exact nn e2
            exact ⟨a2, e2, by rw [upd_ne ne]; exact r2⟩
          | rt _ _ => exact s.elim
          | _ => exact (ht trivial).elim
  · have e2 : fpC (upd H a o') p = fpC H p := Zed fun b hb => upd_ne fun z => na p hp (z ▸ hb)
    have key : Dj (upd H a o') (.ow d', some (.ref a)) p := fun b hb hq => by
      obtain rfl : b = a := by simpa [fpC] using hb
      rw [e2] at hq
      exact na p hp hq
    exact ⟨fun _ _ => key, fun _ _ => key⟩
theorem Zsl : ∀ ks : List L2.Key, D.keys (ks.map keyD) = some ks
  | [] => rfl
  | k :: ks => by
    rw [List.map_cons, D.keys, Zsl ks]
    cases k <;> rfl
theorem Zy5 {γ : G} {f : Addr} (m : Zc1 γ) : Zvk F (fun x H Q => Znc F.K (spG F.K F.mg 1 γ) f [x] [.ref f] H Q) (Zmp γ) := fun l H x vx ks Q hc ho hq => by
  unfold Zmp at ho
  split at ho
  · rename_i ds hd
    obtain ⟨kf, sh, h1, h2, ho⟩ := ho
    obtain ⟨a, vs, ea, hl, hlen, S, g, r, cc, pw⟩ := hc.seqL hd
    cases ea
    have pwl := pw
    have c0 : C F ((ds.map Slot.sh).zip (vs.map some) ++ l) H := C.spread g (fun q hq => cc q (List.mem_cons_of_mem _ hq)) pwl r
    generalize hM : (ds.map Slot.sh).zip (vs.map some) ++ l = M at c0
    have hMl : l.Sublist M := by rw [← hM]; exact List.sublist_append_right _ _
    have hMi : ∀ (i : Nat) v d, vs[i]? = some v → ds[i]? = some d → (Slot.sh d, some v) ∈ M := fun i v d hv hd => by
      rw [← hM]
      refine List.mem_append_left _ (List.mem_of_getElem? (i := i) ?_)
      rw [List.getElem?_zip_eq_some]
      exact ⟨by rw [List.getElem?_map, hd]; rfl, by rw [List.getElem?_map, hv]; rfl⟩
    let kd : D → D := fun d => .tup ((kf d).map keyD)
    refine ⟨a, vs, fun c j ks H' => (∀ p ∈ M, p.1.env ∨ p.2 ≠ some (.ref c)) ∧ C F ((.ow (.lst ((ds.take j).map kd)), some (.ref c)) :: M) H' ∧ H' c = some (.lst ks), rfl, rfl, hl, fun c hn => ?_, fun c j v ks H' hv hJ => ?_, fun c ks H' hJ => ?_⟩
    · refine ⟨fun p hp => ?_, c0.newOw hn fun S g a => ⟨[], rfl, .nil⟩, upd_same⟩
      obtain ⟨S', g', cc', _⟩ := c0
      have s := cc' p hp
      obtain ⟨y, w⟩ := p
      cases y with
      | bt d =>
        obtain ⟨b, e, r⟩ := s
        refine .inr fun z => ?_
        have z' : w = some (.ref c) := z
        rw [z'] at e
        cases e
        exact r.nn hn
      | rt _ _ => exact s.elim
      | _ => exact .inl trivial
    · obtain ⟨nb, cJ, hc'⟩ := hJ
      refine ⟨hc', ?_⟩
      have hj : j < vs.length := (List.getElem?_eq_some_iff.mp hv).1
      obtain ⟨d, hdj⟩ : ∃ d, ds[j]? = some d := ⟨ds[j]'(by omega), List.getElem?_eq_getElem (by omega)⟩
      have hm : (Slot.sh d, some v) ∈ (Slot.ow (.lst ((ds.take j).map kd)), some (V.ref c)) :: M := List.mem_cons_of_mem _ (hMi j v d hv hdj)
      have c1 : C F ([Slot.sh d].zip ([v].map some) ++ ((Slot.ow (.lst ((ds.take j).map kd)), some (V.ref c)) :: M)) H' := cJ.dup hm
      obtain ⟨S1, g1, cc1, pw1, ce⟩ := c1.enter rfl
      refine ⟨rfl, [.sh d], S1, _, rfl, fun x hx => ?_, ce, m _ _ _ (fun r z => ?_) (h2 d (List.mem_of_getElem? hdj)).2⟩
      · obtain rfl : x = .sh d := by simpa using hx
        trivial
      · subst z
        intro v' H'' c2
        have c3 : C F ([(Slot.sh (kd d), some v')] ++ ((Slot.ow (.lst ((ds.take j).map kd)), some (V.ref c)) :: M)) H'' := C.leave g1 cc1 pw1 c2 fun p hp => by
          have e : p = (.sh (kd d), some v') := by simpa using hp
          exact .inl ⟨_, _, e⟩
        have c4 : C F ((Slot.ow (.lst ((ds.take j).map kd)), some (V.ref c)) :: (Slot.sh (kd d), some v') :: M) H'' := C.swap c3
        obtain ⟨S2, g2, ⟨us, eu, ru⟩, cc2, up⟩ := c4.mut' fun p hp => by
          rcases List.mem_cons.mp hp with rfl | hp
          · exact .inl trivial
          · exact nb p hp
        obtain ⟨S3, g3, ru2⟩ : ∃ S3, GS F S3 H' ∧ ∃ us0, H' c = some (.lst us0) ∧ Reps F.K S3 us0 ((ds.take j).map kd) := by
          obtain ⟨S3, g3, cc3, _⟩ := cJ
          obtain ⟨a', e1, _, _, us0, e2, r⟩ := cc3 _ List.mem_cons_self
          cases e1
          exact ⟨S3, g3, us0, e2, r⟩
        obtain ⟨vv, ev, rv⟩ := cc2 (Slot.sh (kd d), some v') List.mem_cons_self
        cases ev
        have hus : H'' c = some (.lst ks) := by
          -- the callee does not touch the caller's own container
          obtain ⟨Sc, gc, _⟩ := c2
          exact gc.h0 _ _ hc'
        have euu : us = ks := by
          rw [hus] at eu
          injection eu with eu
          injection eu with eu
          exact eu.symm
        subst euu
        have et : (ds.take (j + 1)).map kd = (ds.take j).map kd ++ [kd d] := by
          rw [List.take_add_one, hdj, List.map_append]; rfl
        refine ⟨hus, nb, ?_, upd_same⟩
        rw [et]
        exact (up (.lst (us ++ [v'])) (.lst ((ds.take j).map kd ++ [kd d])) ⟨_, rfl, ru.app (.cons rv .nil)⟩).sub (List.Sublist.cons_cons _ (List.sublist_cons_self _ _))
    · obtain ⟨nb, cJ, hc'⟩ := hJ
      rw [List.take_of_length_le (by omega)] at cJ
      refine ⟨hc', ?_⟩
      obtain ⟨S2, g2, ⟨us, eu, ru⟩, cc2, up⟩ := cJ.mut' nb
      have euu : us = ks := by
        rw [hc'] at eu
        injection eu with eu
        injection eu with eu
        exact eu.symm
      subst euu
      have hlk : us.length = ds.length := by rw [ru.len, List.length_map]
      have at_ : ∀ (i : Nat) v d, us[i]? = some v → ds[i]? = some d → ∃ t, v = .ref t ∧ H' t = some (.tup ((kf d).map kV)) ∧ Zyg H' v = kf d := fun i v d hv hd => by
        obtain ⟨d', h', rd⟩ := ru.getV hv
        rw [List.getElem?_map, hd] at h'
        cases h'
        obtain ⟨t, rfl, ht⟩ := Zlt rd (Zsl (kf d))
        have ht' := g2.sh _ _ ht
        exact ⟨t, rfl, ht', Z0u ht'⟩
      refine ⟨Zyg H', sh, by omega, h1, fun v hv => ?_, fun b zs hb hp hs => ?_⟩
      · obtain ⟨i, hi, ei⟩ := List.getElem_of_mem hv
        have hv' : us[i]? = some v := by rw [List.getElem?_eq_getElem hi, ei]
        have hd' : ds[i]? = some (ds[i]'(by omega)) := List.getElem?_eq_getElem (by omega)
        obtain ⟨t, e1, e2, e3⟩ := at_ i v _ hv' hd'
        exact ⟨by rw [e3]; exact (h2 _ (List.mem_of_getElem? hd')).1, t, e1, by rw [e3]; exact e2⟩
      · have pr : Paired (fun (q : V × V) d => Zyg H' q.1 = kf d ∧ (Slot.sh d, some q.2) ∈ M) (us.zip vs) ds := Zoe (by rw [List.length_zip]; omega) fun i q d hq hd => by
          rw [List.getElem?_zip_eq_some] at hq
          obtain ⟨_, _, _, e3⟩ := at_ i q.1 d hq.1 hd
          exact ⟨e3, hMi i q.2 d hq.2 hd⟩
        obtain ⟨es, hpe, pe⟩ := Zoy hp.symm pr
        have pw2 := Zy4 (P' := fun x y => ltK (kf y) (kf x) = false) (fun v v' d d' r1 r2 h => by rw [← r1.1, ← r2.1]; exact h) pe hs
        have c5 : C F ((.ow (.lst []), some (.ref c)) :: M) (upd H' c (.lst [])) := up (.lst []) (.lst []) ⟨[], rfl, .nil⟩
        have hb2 : (upd H' c (.lst [])) b = none := by
          rw [upd_ne (fun z => by rw [z, hc'] at hb; cases hb)]; exact hb
        refine hq _ _ _ (ho es hpe pw2) ?_
        obtain ⟨S6, g6, cc6, pw6⟩ := c5
        have rz : Reps F.K S6 (zs.map (·.2)) es := Zub (by
          clear hs hpe pw2 hp
          induction pe with
          | nil => exact .nil
          | @cons q d _ _ a r ih =>
            refine .cons ?_ ih
            obtain ⟨w, ew, rw⟩ := cc6 _ (List.mem_cons_of_mem _ a.2)
            cases ew
            exact rw)
        exact (C.newFrom g6 cc6 pw6 rz hb2).sub (List.Sublist.cons_cons _ (hMl.trans (List.sublist_cons_self _ _)))
  · exact ho.elim
theorem Z02 {k j : Nat} {γ : G} {x : Str} {pf kpos : Pos} (A : FnAt X.prog X.w F.K F.mg X.base x k 1 γ) (hr : Room j X.A) (hj : k + 2 ≤ j) (hm : X.mg "sorted" = none) (he : DE X F W e we) (hg : Gl X "sorted" := by rfl) (hg2 : Gl X x := by rfl) (hdx : (x == ("__debug__" : Str)) = false := by decide)
    (hs0 : starEach (e :: []) X.env = (false, eval e X.env) :: starEach [] X.env := by rfl) (hs : backTo pos (starEach (e :: []) X.env) = (false, eval e X.env) :: backTo pos (starEach [] X.env) := by rfl) (hpl : (backTo pos (starEach (e :: []) X.env)).any (·.1) = false := by rfl)
    (hall : (backToKw pos (keywordEach [⟨some (Str.ofString "key"), .Name x pf, kpos⟩] X.env)).all (·.1.isSome) = true := by rfl) (hnone : (backToKw pos (keywordEach [⟨some (Str.ofString "key"), .Name x pf, kpos⟩] X.env)).any (·.1.isNone) = false := by rfl)
    (hks : (backToKw pos (keywordEach [⟨some (Str.ofString "key"), .Name x pf, kpos⟩] X.env)).filterMap (·.1) = [Str.ofString "key"] := by rfl) (hK : X.K = F.K := by rfl) (hM : X.mg = F.mg := by rfl) :
    DE X F W (.Call (.Name "sorted" p) [e] [⟨some (Str.ofString "key"), .Name x pf, kpos⟩] pos) (wUn (Zmp γ) we) := by
  obtain ⟨⟨f, fd, ps, Fk, hmf, hk, hb⟩, m⟩ := A
  refine ⟨Zb5 (pe_callBK (r := Znc X.K (spG F.K F.mg 1 γ) f) (Zxv (by rw [hK, hM]; exact Fk) (hr.mono hj) (by rw [hK]; exact hb)) hg hm (by decide +kernel) (pa_cons he.run pa_nil hs0) (pk_cons (pe_glob hg2 (by rw [hM]; exact hmf) (v := .ref f) rfl hdx) pk_nil) (by decide) (by decide) hs hpl hall hnone hks) fun σ H Q h => ?_, Zai he.mono Zof⟩
  have h2 : tUn (fun x H Q => Znc F.K (spG F.K F.mg 1 γ) f [x] [.ref f] H Q) (LE F W we) σ H Q := Z1o (Zy5 m) he h
  rw [hK]
  exact h2
end
end DL
set_option Elab.async false
set_option linter.all false
set_option maxRecDepth 100000
set_option maxHeartbeats 4000000
namespace DL
open PySem PySem.Spec PyProof.Rows L2
section
variable {X : Cx} {F : Fr} {W : WX} {sts : List Stmt} {w : WS}
theorem Za2 (i : Nat) (h : DSs X F W sts w) : DSs X F W sts (wFgt i w) := ⟨Zu3 h.run fun D σ H ⟨l, env, k, hl, q⟩ => ⟨l, env.set i .un, by
    by_cases hi : i < σ.length
    · have e : σ.set i σ[i] = σ := Zrx (List.getElem?_eq_getElem hi)
      have := k.un i σ[i]
      rw [e] at this
      exact this
    · have e : env.set i .un = env := List.set_eq_of_length_le (by rw [k.len]; omega)
      rw [e]; exact k, hl, q⟩, fun env Q Q' m q => h.mono _ _ _ m q⟩
end
end DL
set_option Elab.async false
set_option linter.all false
set_option maxRecDepth 100000
set_option maxHeartbeats 4000000
namespace DL
open PySem PySem.Spec PyProof.Rows L2
def Slot.free : Slot → Prop
  | .lo _ _ _ => False
  | _ => True
section
variable {X : Cx} {F : Fr} {W : WX} {a b : Expr} {wa wb : WE} {pos : Pos}
theorem Z70 {H : Hp} {a : Addr} {k1 k2 : List (L2.Key × V)} (h1 : Rd H a (.dK k1)) (h2 : Rd H a (.dK k2)) : k1 = k2 := by
  rcases h1 with h1 | ⟨_, h1⟩ <;> rcases h2 with h2 | ⟨_, h2⟩ <;> (rw [h1] at h2; cases h2) <;> rfl
end
end DL
set_option Elab.async false
set_option linter.all false
set_option maxRecDepth 100000
set_option maxHeartbeats 4000000
namespace DL
open PySem PySem.Spec PyProof.Rows L2
section
variable {X : Cx} {F : Fr} {W : WX} {a b : Expr} {wa wb : WE} {pos : Pos}
theorem Z30 : OpR X (binaryOp .Add) (Z54 X.K) := by
  intro pins s σ H x y v u Q I rx ry h
  obtain ⟨l, b, xs, zs, rfl, rfl, hH, hB, hz, q⟩ := h
  cases rx
  cases ry
  obtain ⟨vs, r, ht, h1⟩ := I.list hH
  obtain ⟨ws, r2, ht2, h2⟩ := I.list hB
  have el := r.length
  have el2 := r2.length
  obtain ⟨⟨cls, dd, data, sl⟩, ho, hc, n, hd⟩ := ht.isList
  obtain ⟨⟨cls2, dd2, data2, sl2⟩, ho2, hc2, n2, hd2⟩ := ht2.isList
  simp only at hc hd hc2 hd2
  subst hc hd hc2 hd2
  have e : vs.toArray ++ ws.toArray = (vs ++ ws).toArray := by simp
  refine concat_meets ⟨_, ho, rfl⟩ ⟨_, ho2, rfl⟩ noFill_list_add seq_list_add PySem.F.slot_list_add PySem.F.entry_list_add (PySem.F.args_list_add_2 _ _) (list_addW l b vs.toArray ws.toArray n n2 dd dd2 sl sl2 (by simp; omega)) ⟨ho, ho2, ?_⟩
  rw [e]
  exact ⟨.ref _, _, I.lnew (t' := s.toks) (r.append r2) (by rw [List.length_append]; omega), rfl, q _ I.fresh⟩
theorem Z4q {l : List Cell} {H : Hp} {x : Slot} {a : Addr} {ds : List D} (h : C F ((x, some (.ref a)) :: l) H) (hx : x.dat = some (.lst ds)) : ∀ S, GS F S H → (∀ q ∈ (x, some (V.ref a)) :: l, SC F S H q) → ∃ us, SqL F.K H a us ∧ Reps F.K S us ds := by
  obtain ⟨b, us, ea, hl, hlen, _⟩ := h.seqL hx
  cases ea
  intro S g cc
  have s := cc _ List.mem_cons_self
  cases x with
  | un => cases hx
  | sh d => cases hx; obtain ⟨w, ew, rw⟩ := s; cases ew; cases rw with
    | lst hq2 r2 => exact ⟨_, Zk6 g.sh hq2, r2⟩
  | ow d => cases hx; obtain ⟨b, eb, _, _, vs', e2, r2⟩ := s; cases eb; exact ⟨vs', SqL.of e2, r2⟩
  | bo d => cases hx; obtain ⟨b, eb, _, vs', e2, r2⟩ := s; cases eb; exact ⟨vs', SqL.of e2, r2⟩
  | bt d => cases hx; obtain ⟨b, eb, vs', e2, r2⟩ := s; cases eb; exact ⟨vs', SqL.of e2, r2⟩
  | lk b d => cases hx; obtain ⟨eb, _, _, vs', e2, r2⟩ := s; cases eb; exact ⟨vs', SqL.of e2, r2⟩
  | lo b _ d => cases hx
  | nd d => cases hx
  | nb d => cases hx
  | ln _ _ => cases hx
  | xc _ => cases hx
  | xe _ _ _ => cases hx
  | na _ _ => cases hx
  | rt _ _ => cases hx
theorem Zv7 {K : PySem.W.Frag} {S : Hp} : ∀ {vs : List V} {ds : List D}, Reps K S vs ds → vs.length = ds.length
  | [], [], _ => rfl
  | _ :: _, _ :: _, .cons _ r => congrArg (· + 1) (Zv7 r)
theorem Zwx {K : PySem.W.Frag} {S : Hp} : ∀ {vs : List V} {ds : List D} {us : List V} {es : List D}, Reps K S vs ds → Reps K S us es → Reps K S (vs ++ us) (ds ++ es)
  | [], [], _, _, _, q => q
  | _ :: _, _ :: _, _, _, .cons h r, q => .cons h (Zwx r q)
theorem Z43 : Zjo F (Z54 F.K) oCat := fun l H x y vx vy ks Q hc ho hq => by
  unfold oCat at ho
  split at ho
  · rename_i ds es hd he
    obtain ⟨b, us, eb, hb, hlen, _⟩ := hc.seqL he
    have hc' := hc.swap
    obtain ⟨a, vs, ea, ha, hlen2, S, g, r, cc, pw⟩ := hc'.seqL hd
    cases ea
    cases eb
    have pwl : l.Pairwise (Zby H) := (List.pairwise_cons.mp pw).2
    obtain ⟨us2, hs2, r2⟩ := Z4q hc he S g (fun q hq => cc q ((List.Perm.swap _ _ _).mem_iff.mp hq))
    have l2 := Zv7 r2
    exact ⟨a, b, vs, us2, rfl, rfl, ha, hs2, by rw [sizeLine_eq]; omega, fun p hp => hq _ _ _ ho.2 (C.newFrom g (fun q hq => cc q (List.mem_cons_of_mem _ (List.mem_cons_of_mem _ hq))) pwl (Zwx r r2) hp)⟩
  · exact ho.elim
theorem Zyz (ha : DE X F W a wa) (hb : DE X F W b wb) (hK : X.K = F.K := by rfl) : DE X F W (.BinOp a .Add b pos) (wOp oCat wa wb) :=
  Zxo (by rw [← hK]; exact Z30) Z43 Zgc ha hb
end
end DL
set_option Elab.async false
set_option linter.all false
set_option maxRecDepth 100000
set_option maxHeartbeats 4000000
namespace DL
open PySem PySem.Spec PyProof.Rows L2
section
variable {F : Fr} {H : Hp} {l : List Cell}
def Slot.pl : Slot → List Addr
  | .lk a _ => [a]
  | .lo a _ _ => [a]
  | .ln fp _ => fp
  | _ => []
theorem Z6a {S : Hp} {p : Cell} (s : SC F S H p) : ∀ a ∈ p.1.pl, a ∈ fpC H p := fun a ha => by
  obtain ⟨x, v⟩ := p
  cases x with
  | lk b d => obtain ⟨rfl, _⟩ := s; simpa [fpC, Slot.pl] using ha
  | lo b _ d => obtain ⟨rfl, _⟩ := s; simpa [fpC, Slot.pl] using ha
  | ln fp d => exact ha
  | _ => simp [Slot.pl] at ha
theorem Zyd {S : Hp} {p : Cell} (s : SC F S H p) (o : p.1.own) (n : ¬ p.1.isOw) : fpC H p = p.1.pl := by
  obtain ⟨x, v⟩ := p
  cases x with
  | lk b d => obtain ⟨rfl, _⟩ := s; rfl
  | lo b _ d => obtain ⟨rfl, _⟩ := s; rfl
  | ln fp d => rfl
  | ow d => exact (n trivial).elim
  | nd d => exact (n trivial).elim
  | na _ _ => exact (n trivial).elim
  | _ => exact o.elim
theorem C.lend {d : D} {v : Option V} (h : C F ((.ow d, v) :: l) H) : ∃ a, v = some (.ref a) ∧ C F ((.lk a d, v) :: l) H ∧ ∀ p ∈ l, a ∉ p.1.pl := by
  obtain ⟨S, g, c, pw⟩ := h
  obtain ⟨a, rfl, h0, hS, r⟩ := c _ List.mem_cons_self
  obtain ⟨p1, p2⟩ := List.pairwise_cons.mp pw
  refine ⟨a, rfl, ⟨S, g, fun q hq => ?_, List.pairwise_cons.mpr ⟨fun q hq => ⟨fun z => z.elim, fun _ oq => (p1 q hq).2 trivial oq⟩, p2⟩⟩, fun p hp z => ?_⟩
  · rcases List.mem_cons.mp hq with rfl | hq
    · exact ⟨rfl, h0, hS, r⟩
    · exact c q (List.mem_cons_of_mem _ hq)
  · exact (p1 p hp).no trivial (a := a) (by simp [fpC]) (Z6a (c p (List.mem_cons_of_mem _ hp)) a z)
theorem CE.chg {env : En} {σ : L2.St} {i : Nat} {x y : Slot} (k : CE F l env σ H) (hx : env[i]? = some x) (hy : y.env) (h : ∀ v, (env.zip σ)[i]? = some (x, v) → C F ((x, v) :: (l ++ (env.zip σ).eraseIdx i)) H → C F ((y, v) :: (l ++ (env.zip σ).eraseIdx i)) H) : CE F l (env.set i y) σ H := by
  obtain ⟨v, h1, h2⟩ := Zb6 k.len hx
  refine ⟨by rw [List.length_set]; exact k.len, fun z hz => ?_, ?_⟩
  · rcases List.mem_or_eq_of_mem_set hz with hz | rfl
    · exact k.ok z hz
    · exact hy
  · have e : σ = σ.set i v := by
      apply List.ext_getElem?
      intro j
      rw [List.getElem?_set]
      split
      · subst_vars
        split
        · rw [h1]
        · rename_i hlt
          rw [List.getElem?_eq_none (by omega)]
      · rfl
    rw [e, Zg5]
    have p1 := Zdc h2
    have p2 := Zgy (y := (y, v)) h2
    have c1 : C F ((x, v) :: (l ++ (env.zip σ).eraseIdx i)) H := (k.c.perm (List.Perm.append_left l p1)).front
    exact (h v h2 c1).back.perm (List.Perm.append_left l p2.symm)
theorem CE.lend {env : En} {σ : L2.St} {i : Nat} {d : D} (k : CE F l env σ H) (hx : env[i]? = some (.ow d)) : ∃ a, CE F l (env.set i (.lk a d)) σ H ∧ (∀ p ∈ l, a ∉ p.1.pl) ∧ ∀ (j : Nat) (x : Slot), j ≠ i → env[j]? = some x → a ∉ x.pl := by
  obtain ⟨v, h1, h2⟩ := Zb6 k.len hx
  have c1 : C F ((.ow d, v) :: (l ++ (env.zip σ).eraseIdx i)) H := (k.c.perm (List.Perm.append_left l (Zdc h2))).front
  obtain ⟨a, e, c2, n⟩ := c1.lend
  refine ⟨a, k.chg hx trivial fun w hw c3 => ?_, fun p hp => n p (List.mem_append_left _ hp), fun j x ji hj => ?_⟩
  · obtain ⟨a', e', c4, _⟩ := c3.lend
    rw [h2] at hw
    cases hw
    rw [e] at e'
    cases e'
    exact c4
  · obtain ⟨w, h3, h4⟩ := Zb6 k.len hj
    refine n (x, w) (List.mem_append_right _ ?_)
    rw [List.mem_eraseIdx_iff_getElem?]
    exact ⟨j, ji, h4⟩
theorem CE.others {env e : En} {σ : L2.St} {i : Nat} (k : CE F l e σ H) {A : Addr} (hk : ∀ (j : Nat) (x : Slot), j ≠ i → e[j]? = some x → x.pl ≠ [] → env[j]? = some x) (hl : ∀ p ∈ l, A ∉ p.1.pl) (he : ∀ (j : Nat) (x : Slot), j ≠ i → env[j]? = some x → A ∉ x.pl) :
    ∀ p ∈ l ++ (e.zip σ).eraseIdx i, A ∉ p.1.pl := fun p hp eb => by
  rcases List.mem_append.mp hp with hp | hp
  · exact hl p hp eb
  · rw [List.mem_eraseIdx_iff_getElem?] at hp
    obtain ⟨j, hj, hp⟩ := hp
    have : e[j]? = some p.1 := by
      have := congrArg (Option.map Prod.fst) hp
      rw [← List.getElem?_map] at this
      have hz : (e.zip σ).map Prod.fst = e := List.map_fst_zip (by rw [k.len]; exact Nat.le_refl _)
      rw [hz] at this
      exact this
    exact he j p.1 hj (hk j p.1 hj this (fun z => by rw [z] at eb; simp at eb)) eb
end
end DL
set_option Elab.async false
set_option linter.all false
set_option maxRecDepth 100000
set_option maxHeartbeats 4000000
namespace DL
open PySem PySem.Spec PyProof.Rows L2
section
variable {X : Cx} {F : Fr} {W : WX} {a b : Expr} {wa wb : WE} {pos : Pos}
end
end DL
set_option Elab.async false
set_option linter.all false
set_option maxRecDepth 100000
set_option maxHeartbeats 4000000
namespace DL
open PySem PySem.Spec PyProof.Rows L2
section
variable {X : Cx} {F : Fr} {W : WX} {sts : List Stmt} {w : WS}
end
end DL
set_option Elab.async false
set_option linter.all false
set_option maxRecDepth 100000
set_option maxHeartbeats 4000000
namespace DL
open PySem PySem.Spec PyProof.Rows L2
section
variable {F : Fr} {H : Hp} {l : List Cell}
theorem CE.splitAt {env : En} {σ : L2.St} {i : Nat} {x : Slot} (k : CE F l env σ H) (hx : env[i]? = some x) : ∃ v, σ[i]? = some v ∧ (env.zip σ)[i]? = some (x, v) ∧ C F ((x, v) :: (l ++ (env.zip σ).eraseIdx i)) H := by
  obtain ⟨v, h1, h2⟩ := Zb6 k.len hx
  exact ⟨v, h1, h2, (k.c.perm (List.Perm.append_left l (Zdc h2))).front⟩
theorem Zrk {σ : L2.St} {i : Nat} {v : Option V} (h : σ[i]? = some v) : σ.set i v = σ := by
  apply List.ext_getElem?
  intro j
  rw [List.getElem?_set]
  split
  · subst_vars
    split
    · rw [h]
    · rename_i hlt
      rw [List.getElem?_eq_none (by omega)]
  · rfl
theorem CE.joinAt {env : En} {σ : L2.St} {i : Nat} {x y : Slot} {v : Option V} {H' : Hp} {l' : List Cell} (hl : env.length = σ.length) (ho : ∀ z ∈ env, z.env) (hy : y.env) (h1 : σ[i]? = some v) (h2 : (env.zip σ)[i]? = some (x, v)) (c : C F ((y, v) :: (l' ++ (env.zip σ).eraseIdx i)) H') : CE F l' (env.set i y) σ H' := by
  refine ⟨by rw [List.length_set]; exact hl, fun z hz => ?_, ?_⟩
  · rcases List.mem_or_eq_of_mem_set hz with hz | rfl
    · exact ho z hz
    · exact hy
  · have e : σ = σ.set i v := (Zrk h1).symm
    rw [e, Zg5]
    exact c.back.perm (List.Perm.append_left l' (Zgy (y := (y, v)) h2).symm)
theorem C.lock {kds : List (L2.Key × D)} {v : Option V} (h : C F ((.ow (.dk kds), v) :: l) H) (hl : ∀ p ∈ l, p.1.env) : ∃ a kvs, v = some (.ref a) ∧ H a = some (.dK kvs) ∧ (∀ p ∈ l, a ∉ p.1.pl) ∧ ∀ od, C F ((.lo a (.frz od (.dK kvs)) kds, v) :: l) (upd H a (.frz od (.dK kvs))) := by
  obtain ⟨S, g, c, pw⟩ := h
  obtain ⟨a, rfl, h0, hS, kvs, ev, ek, r⟩ := c _ List.mem_cons_self
  obtain ⟨p1, p2⟩ := List.pairwise_cons.mp pw
  have na : ∀ p ∈ l, a ∉ fpC H p := fun p hp => (p1 p hp).no trivial (by simp [fpC])
  refine ⟨a, kvs, rfl, ev, fun p hp z => na p hp (Z6a (c p (List.mem_cons_of_mem _ hp)) a z), fun od => ⟨S, g.mut hS h0, fun p hp => ?_, List.pairwise_cons.mpr ⟨fun p hp => ?_, Zwn p2 na⟩⟩⟩
  · rcases List.mem_cons.mp hp with rfl | hp
    · exact ⟨rfl, h0, hS, upd_same, od, kvs, rfl, ek, r⟩
    · exact (c p (List.mem_cons_of_mem _ hp)).mut h0 (na p hp) (hl p hp)
  · have e2 : fpC (upd H a (.frz od (.dK kvs))) p = fpC H p := Zed fun b hb => upd_ne fun z => na p hp (z ▸ hb)
    have key : Dj (upd H a (.frz od (.dK kvs))) (.lo a (.frz od (.dK kvs)) kds, some (.ref a)) p := fun b hb hq => by
      obtain rfl : b = a := by simpa [fpC] using hb
      rw [e2] at hq
      exact na p hp hq
    exact ⟨fun _ _ => key, fun _ _ => key⟩
end
def Zks : List Addr → List Slot → (List D → Prop) → Prop
  | [], [], k => k []
  | acc, .sh d :: xs, k => Zks acc xs fun ds => k (d :: ds)
  | acc, .ow d :: xs, k => Zks acc xs fun ds => k (.own d :: ds)
  | acc, .nd d :: xs, k => Zks acc xs fun ds => k (.own d :: ds)
  | a :: acc, .lk b d :: xs, k => a = b ∧ Zks acc xs fun ds => k (.own d :: ds)
  | _, _, _ => False
theorem Zhh : ∀ {acc : List Addr} {xs : List Slot} {k k' : List D → Prop}, (∀ ds, k ds → k' ds) → Zks acc xs k → Zks acc xs k'
  | [], [], _, _, m, h => m _ h
  | _ :: _, [], _, _, m, h => h.elim
  | acc, .sh d :: xs, _, _, m, h => by
    cases acc <;> exact Zhh (xs := xs) (fun ds z => m _ z) h
  | acc, .ow d :: xs, _, _, m, h => by
    cases acc <;> exact Zhh (xs := xs) (fun ds z => m _ z) h
  | acc, .nd d :: xs, _, _, m, h => by
    cases acc <;> exact Zhh (xs := xs) (fun ds z => m _ z) h
  | [], .lk b d :: xs, _, _, m, h => h.elim
  | a :: acc, .lk b d :: xs, _, _, m, h => ⟨h.1, Zhh (xs := xs) (fun ds z => m _ z) h.2⟩
  | [], .un :: _, _, _, m, h => h.elim
  | _ :: _, .un :: _, _, _, m, h => h.elim
  | [], .bo _ :: _, _, _, m, h => h.elim
  | _ :: _, .bo _ :: _, _, _, m, h => h.elim
  | [], .bt _ :: _, _, _, m, h => h.elim
  | _ :: _, .bt _ :: _, _, _, m, h => h.elim
  | [], .lo _ _ _ :: _, _, _, m, h => h.elim
  | _ :: _, .lo _ _ _ :: _, _, _, m, h => h.elim
  | [], .nb _ :: _, _, _, m, h => h.elim
  | _ :: _, .nb _ :: _, _, _, m, h => h.elim
  | [], .ln _ _ :: _, _, _, m, h => h.elim
  | _ :: _, .ln _ _ :: _, _, _, m, h => h.elim
  | [], .xc _ :: _, _, _, m, h => h.elim
  | [], .xe _ _ _ :: _, _, _, m, h => h.elim
  | [], .na _ _ :: _, _, _, m, h => h.elim
  | [], .rt _ _ :: _, _, _, m, h => h.elim
  | _ :: _, .xc _ :: _, _, _, m, h => h.elim
  | _ :: _, .xe _ _ _ :: _, _, _, m, h => h.elim
  | _ :: _, .na _ _ :: _, _, _, m, h => h.elim
  | _ :: _, .rt _ _ :: _, _, _, m, h => h.elim
section
variable {F : Fr} {S H : Hp} {l : List Cell}
theorem Zsd {K : PySem.W.Frag} {b : Addr} {d : D} (r : RC K S (H b) d) : D.foot H (.own d) (.ref b) = [b] := by
  show b :: D.inn H d (H b) = [b]
  rw [r.inn]
theorem Zgg : ∀ {acc : List Addr} {xs : List Slot} {vs : List V} {k : List D → Prop}, Zks acc xs k → vs.length = xs.length → ∀ a ∈ acc, ∃ d w, (Slot.lk a d, w) ∈ xs.zip (vs.map some)
  | [], _, _, _, _, _, a, ha => by simp at ha
  | _ :: _, [], _, _, h, _, _, _ => h.elim
  | a0 :: acc, x :: xs, [], _, _, hl, _, _ => by simp at hl
  | a0 :: acc, x :: xs, v :: vs, k, h, hl, a, ha => by
    have hl' : vs.length = xs.length := by simpa using hl
    have up : (∃ d w, (Slot.lk a d, w) ∈ xs.zip (vs.map some)) → ∃ d w, (Slot.lk a d, w) ∈ (x :: xs).zip ((v :: vs).map some) := fun ⟨d, w, z⟩ => ⟨d, w, List.mem_cons_of_mem _ z⟩
    cases x with
    | sh d => exact up (Zgg (k := fun ds => k (d :: ds)) h hl' a ha)
    | ow d => exact up (Zgg (k := fun ds => k (.own d :: ds)) h hl' a ha)
    | nd d => exact up (Zgg (k := fun ds => k (.own d :: ds)) h hl' a ha)
    | lk b d =>
      obtain ⟨rfl, h'⟩ := h
      rcases List.mem_cons.mp ha with rfl | ha
      · exact ⟨d, some v, List.mem_cons_self⟩
      · exact up (Zgg (k := fun ds => k (.own d :: ds)) h' hl' a ha)
    | _ => exact h.elim
theorem Zry : ∀ {acc : List Addr} {xs : List Slot} {vs : List V} {k : List D → Prop}, Zks acc xs k → vs.length = xs.length → (∀ p ∈ xs.zip (vs.map some), SC F S H p) → (xs.zip (vs.map some)).Pairwise (Zby H) → acc.Nodup →
    ∃ ds, k ds ∧ Itns F.K S H vs ds ∧ (D.foots H ds vs).Nodup ∧ ∀ b ∈ D.foots H ds vs, (F.H0 b = none ∧ S b = none ∧ H b ≠ none) ∧ (b ∈ acc ∨ ∃ p ∈ xs.zip (vs.map some), p.1.isOw ∧ b ∈ fpC H p)
  | acc, [], vs, k, h, hl, cc, pw, nd => by
    cases vs with
    | nil => cases acc with
      | nil => exact ⟨[], h, .nil, by simp [D.foots], fun b hb => by simp [D.foots] at hb⟩
      | cons _ _ => exact h.elim
    | cons _ _ => simp at hl
  | acc, x :: xs, [], k, h, hl, cc, pw, nd => by simp at hl
  | acc, x :: xs, v :: vs, k, h, hl, cc, pw, nd => by
    have hl' : vs.length = xs.length := by simpa using hl
    have cc' : ∀ p ∈ xs.zip (vs.map some), SC F S H p := fun p hp => cc p (List.mem_cons_of_mem _ hp)
    have s : SC F S H (x, some v) := cc _ List.mem_cons_self
    obtain ⟨p1, p2⟩ := List.pairwise_cons.mp pw
    -- an own thing ahead of the others
    have go : ∀ {acc' : List Addr} (d : D), x.own → (x.isOw ∨ ∀ a ∈ fpC H (x, some v), a ∈ acc) → fpC H (x, some v) = D.foot H (.own d) v → Itn F.K S H v (.own d) → (D.foot H (.own d) v).Nodup → Zks acc' xs (fun ds => k (.own d :: ds)) → acc'.Nodup → (∀ a ∈ acc', a ∈ acc) →
        (∀ a ∈ acc', a ∉ fpC H (x, some v)) →
        ∃ ds, k ds ∧ Itns F.K S H (v :: vs) ds ∧ (D.foots H ds (v :: vs)).Nodup ∧ ∀ b ∈ D.foots H ds (v :: vs), (F.H0 b = none ∧ S b = none ∧ H b ≠ none) ∧ (b ∈ acc ∨ ∃ p ∈ (x :: xs).zip ((v :: vs).map some), p.1.isOw ∧ b ∈ fpC H p) := by
      intro acc' d xo io ef it nf h nd' sub na
      obtain ⟨ds, hk, i1, n1, q⟩ := Zry h hl' cc' p2 nd'
      refine ⟨.own d :: ds, hk, .cons it i1, ?_, fun b hb => ?_⟩
      · show (D.foot H (.own d) v ++ D.foots H ds vs).Nodup
        refine List.nodup_append.mpr ⟨nf, n1, fun a ha b hb z => ?_⟩
        subst z
        rcases (q a hb).2 with z | ⟨p, hp, o, hf⟩
        · exact na a z (ef ▸ ha)
        · exact (p1 p hp).2 xo o a (ef ▸ ha) hf
      · rcases List.mem_append.mp (show b ∈ D.foot H (.own d) v ++ D.foots H ds vs from hb) with hb | hb
        · have hb' : b ∈ fpC H (x, some v) := ef ▸ hb
          obtain ⟨z1, z2, z3⟩ := Zdf s b hb'
          refine ⟨⟨z2, z3, z1⟩, ?_⟩
          rcases io with io | io
          · exact .inr ⟨_, List.mem_cons_self, io, hb'⟩
          · exact .inl (io b hb')
        · obtain ⟨z1, z2⟩ := q b hb
          refine ⟨z1, ?_⟩
          rcases z2 with z | ⟨p, hp, o, hf⟩
          · exact .inl (sub b z)
          · exact .inr ⟨p, List.mem_cons_of_mem _ hp, o, hf⟩
    cases x with
    | sh d =>
      have h' : Zks acc xs fun ds => k (d :: ds) := by cases acc <;> exact h
      obtain ⟨u, eu, r⟩ := s
      cases eu
      obtain ⟨ds, hk, i1, n1, q⟩ := Zry h' hl' cc' p2 nd
      have e : D.foots H (d :: ds) (v :: vs) = D.foots H ds vs := by
        show D.foot H d v ++ D.foots H ds vs = _
        rw [rep_foot r]; rfl
      refine ⟨d :: ds, hk, .cons (.sh r) i1, by rw [e]; exact n1, fun b hb => ?_⟩
      rw [e] at hb
      obtain ⟨z1, z2⟩ := q b hb
      refine ⟨z1, ?_⟩
      rcases z2 with z | ⟨p, hp, o, hf⟩
      · exact .inl z
      · exact .inr ⟨p, List.mem_cons_of_mem _ hp, o, hf⟩
    | ow d =>
      have h' : Zks acc xs fun ds => k (.own d :: ds) := by cases acc <;> exact h
      obtain ⟨a, eu, h0, hS, r⟩ := s
      cases eu
      have ef := Zsd r
      exact go d trivial (.inl trivial) (by rw [ef]; rfl) (.ow (.flat r)) (by rw [ef]; simp) h' nd (fun _ z => z) fun b hb hb2 => by
        obtain ⟨d', w, hm⟩ := Zgg h' hl' b hb
        have sw := cc' _ hm
        obtain ⟨ew, _⟩ := sw
        subst ew
        exact (p1 _ hm).1 trivial trivial b hb2 (by simp [fpC])
    | nd d =>
      have h' : Zks acc xs fun ds => k (.own d :: ds) := by cases acc <;> exact h
      obtain ⟨a, eu, r, n, q⟩ := s
      cases eu
      exact go d trivial (.inl trivial) rfl (.ow r) n h' nd (fun _ z => z) fun b hb hb2 => by
        obtain ⟨d', w, hm⟩ := Zgg h' hl' b hb
        have sw := cc' _ hm
        obtain ⟨ew, _⟩ := sw
        subst ew
        exact (p1 _ hm).1 trivial trivial b hb2 (by simp [fpC])
    | lk b d =>
      cases acc with
      | nil => exact h.elim
      | cons a acc =>
        obtain ⟨rfl, h'⟩ := h
        obtain ⟨ev, h0, hS, r⟩ := s
        cases ev
        have ef := Zsd r
        obtain ⟨n1, n2⟩ := List.nodup_cons.mp nd
        refine go (acc' := acc) d trivial (.inr fun c hc => ?_) (by rw [ef]; rfl) (.ow (.flat r)) (by rw [ef]; simp) h' n2 (fun c hc => List.mem_cons_of_mem _ hc) fun c hc hc2 => ?_
        · obtain rfl : c = a := by simpa [fpC] using hc
          exact List.mem_cons_self
        · obtain rfl : c = a := by simpa [fpC] using hc2
          exact n1 hc
    | _ => cases acc <;> exact h.elim
theorem Ztg {H' : Hp} {ds : List D} {vs : List V} (h : ∀ b ∈ D.foots H ds vs, H' b = H b) : D.foots H' ds vs = D.foots H ds vs := foots_congr ds vs h
def Zsf : List D → Bool
  | [] => false
  | .own _ :: _ => true
  | _ :: ds => Zsf ds
theorem Zqp {K : PySem.W.Frag} : ∀ {vs : List V} {ds : List D}, Itns K S H vs ds → Zsf ds = true → ∃ b, V.ref b ∈ vs
  | _, _, .nil, h => by cases h
  | .ref b :: _, .own _ :: _, .cons (.ow _) _, _ => ⟨b, List.mem_cons_self⟩
  | v :: vs, d :: ds, .cons (.sh r) q, h => by
    cases d with
    | own d => cases r
    | _ =>
      obtain ⟨b, hb⟩ := Zqp q h
      exact ⟨b, List.mem_cons_of_mem _ hb⟩
theorem C.pack {acc : List Addr} {xs : List Slot} {vs : List V} {k : List D → Prop} (h : Zks acc xs k) (hl : vs.length = xs.length) (c : C F (xs.zip (vs.map some) ++ l) H) (nd : acc.Nodup) (na : ∀ a ∈ acc, ∀ p ∈ l, a ∉ p.1.pl) :
    ∃ ds, k ds ∧ (Zsf ds = true → ∀ t, H t = none → C F ((.nd (.tup ds), some (.ref t)) :: l) (upd H t (.tup vs))) := by
  obtain ⟨S, g, cc, pw⟩ := c
  obtain ⟨w1, w2, w3⟩ := List.pairwise_append.mp pw
  obtain ⟨ds, hk, i1, n1, q⟩ := Zry h hl (fun p hp => cc p (List.mem_append_left _ hp)) w1 nd
  refine ⟨ds, hk, fun ho t ht => ?_⟩
  have hS : S t = none := g.sh.free ht
  have nt : ∀ b ∈ D.foots H ds vs, b ≠ t := fun b hb z => (q b hb).1.2.2 (z ▸ ht)
  have keep : ∀ b ∈ D.foots H ds vs, upd H t (.tup vs) b = H b := fun b hb => upd_ne (nt b hb)
  have ef : D.foots (upd H t (.tup vs)) ds vs = D.foots H ds vs := Ztg keep
  have cl : ∀ p ∈ l, SC F S H p := fun p hp => cc p (List.mem_append_right _ hp)
  have ei : D.inn (upd H t (.tup vs)) (.tup ds) (upd H t (.tup vs) t) = D.foots H ds vs := by rw [upd_same]; simp only [D.inn]; exact ef
  refine ⟨S, ⟨g.s0, g.sh.trans (Za9 ht), g.h0.trans (Za9 ht), g.fr⟩, fun p hp => ?_, List.pairwise_cons.mpr ⟨fun p hp => ?_, Zi0 w2 cl (Za9 ht)⟩⟩
  · rcases List.mem_cons.mp hp with rfl | hp
    · refine ⟨t, rfl, ?_, ?_, ?_⟩
      · rw [upd_same]
        exact .tup (Zqp i1 ho) (i1.mono (Same.refl S) keep)
      · rw [ei]
        exact List.nodup_cons.mpr ⟨fun z => nt t z rfl, n1⟩
      · rw [ei]
        intro b hb
        rcases List.mem_cons.mp hb with rfl | hb
        · exact ⟨g.h0.free ht, hS⟩
        · exact ⟨(q b hb).1.1, (q b hb).1.2.1⟩
    · exact (cl p hp).grow (Same.refl S) (Za9 ht) fun b hb => .inl hb
  · have key : Dj (upd H t (.tup vs)) (.nd (.tup ds), some (.ref t)) p := fun b hb hq => by
      rw [Zh2 (cl p hp) (Za9 ht)] at hq
      have hb : b ∈ t :: D.inn (upd H t (.tup vs)) (.tup ds) (upd H t (.tup vs) t) := hb
      rw [ei] at hb
      rcases List.mem_cons.mp hb with rfl | hb
      · exact (Zdf (cl p hp) _ hq).1 ht
      · rcases (q b hb).2 with z | ⟨x, hx, o, hf⟩
        · obtain ⟨d', w, hm⟩ := Zgg h hl b z
          have sw := cc _ (List.mem_append_left _ hm)
          obtain ⟨ew, _⟩ := sw
          subst ew
          have ap := w3 _ hm p hp
          by_cases io : p.1.isOw
          · exact ap.2 trivial io b (by simp [fpC]) hq
          · by_cases oq : p.1.own
            · rw [Zyd (cl p hp) oq io] at hq
              exact na b z p hp hq
            · rw [Zvv oq] at hq; simp at hq
        · exact (w3 x hx p hp).no o hf hq
    exact ⟨fun _ _ => key, fun _ _ => key⟩
end
def Znl : List Nat → List Addr → WA → WS
  | [], acc, wA => fun env Q => wA env (rks (fun xs => xs.length ≤ 16777216 ∧ Zks acc xs fun ds => Zsf ds = true ∧ Q (.ret (.nd (.tup ds)))) Q env)
  | i :: is, acc, wA => fun env Q => match env[i]? with
    | some (.ow d) => ∀ a, a ∉ acc → Znl is (acc ++ [a]) wA (env.set i (.lk a d)) Q
    | _ => False
theorem Zz8 {wA : WA} (h : Mono wA) : ∀ {is : List Nat} {acc : List Addr}, Zbl (Znl is acc wA)
  | [], acc => fun env Q Q' m q => Zcf h (fun xs hx => ⟨hx.1, Zhh (fun ds z => ⟨z.1, m _ z.2⟩) hx.2⟩) m q
  | i :: is, acc => fun env Q Q' m q => by
    unfold Znl at q ⊢
    split at q
    · exact fun a ha => Zz8 h _ _ _ m (q a ha)
    · exact q.elim
theorem Zx1 {X : Cx} {F : Fr} {W : WX} {es : List Expr} {wA : WA} (h : DA X F W es wA) {σ : L2.St} {H : Hp} {l : List Cell} {D : Ends} : ∀ {is : List Nat} {acc : List Addr} {env : En}, CE F l env σ H → (∀ p ∈ l, p.1.env) → acc.Nodup → (∀ a ∈ acc, ∀ p ∈ l, a ∉ p.1.pl) → (∀ a ∈ acc, ∃ x ∈ env, a ∈ x.pl) →
    Znl is acc wA env (LSp F W l D) → tTup (LA F W wA) σ H (fun v H' => D.rt v H')
  | [], acc, env, k, hl, nd, na, ne, q => by
    refine ⟨l, env, k, h.mono env _ _ (fun r z => ?_) q⟩
    cases r with
    | ex c fs => exact fun A d H' hA hx c => z A d σ H' hA hx ⟨k.len, k.ok, c⟩
    | ok xs =>
      intro vs H' hlen c1
      have c2 : C F (xs.zip (vs.map some) ++ l) H' := c1.sub ((List.sublist_append_left _ _).append_left _)
      obtain ⟨ds, hk, mk⟩ := c2.pack z.2 hlen nd na
      exact ⟨by rw [sizeLine_eq, hlen]; exact z.1, fun t ht => hk.2 _ _ (mk hk.1 t ht)⟩
  | i :: is, acc, env, k, hl, nd, na, ne, q => by
    unfold Znl at q
    split at q
    · rename_i d hx
      obtain ⟨a, k1, n1, n2⟩ := k.lend hx
      have nacc : a ∉ acc := fun z => by
        obtain ⟨x, hx', hp⟩ := ne a z
        obtain ⟨j, hj, ej⟩ := List.getElem_of_mem hx'
        by_cases ji : j = i
        · subst ji
          rw [List.getElem?_eq_getElem hj, ej] at hx
          cases hx
          simp [Slot.pl] at hp
        · exact n2 j x ji (by rw [List.getElem?_eq_getElem hj, ej]) hp
      refine Zx1 h (acc := acc ++ [a]) k1 hl (List.nodup_append.mpr ⟨nd, by simp, fun b hb c hc z => ?_⟩) (fun b hb p hp => ?_) (fun b hb => ?_) (q a nacc)
      · obtain rfl : c = a := by simpa using hc
        subst z
        exact nacc hb
      · rcases List.mem_append.mp hb with hb | hb
        · exact na b hb p hp
        · obtain rfl : b = a := by simpa using hb
          exact n1 p hp
      · have hi : i < env.length := (List.getElem?_eq_some_iff.mp hx).1
        rcases List.mem_append.mp hb with hb | hb
        · obtain ⟨x, hx', hp⟩ := ne b hb
          obtain ⟨j, hj, ej⟩ := List.getElem_of_mem hx'
          by_cases ji : j = i
          · subst ji
            rw [List.getElem?_eq_getElem hj, ej] at hx
            cases hx
            simp [Slot.pl] at hp
          · refine ⟨x, List.mem_of_getElem? (i := j) ?_, hp⟩
            rw [List.getElem?_set_ne (fun z => ji z.symm), List.getElem?_eq_getElem hj, ej]
        · obtain rfl : b = a := by simpa using hb
          exact ⟨.lk b d, List.mem_of_getElem? (i := i) (by rw [List.getElem?_set_self hi]), by simp [Slot.pl]⟩
    · exact q.elim
theorem Z3z {X : Cx} {F : Fr} {W : WX} {es : List Expr} {wA : WA} {k : Nat} {p2 pos : Pos} (is : List Nat) (h : DA X F W es wA) : DS X F W (.Return (some (.Tuple es k p2)) pos) (Znl is [] wA) :=
  ⟨Zfg (ps_ret (pe_tup h.run)) fun D σ H ⟨l, env, k, hl, q⟩ => Zx1 h k hl List.nodup_nil (fun a ha => by simp at ha) (fun a ha => by simp at ha) q, Zz8 h.mono⟩
def D.slot : D → Slot
  | .own (.tup ds) => .nd (.tup ds)
  | .own (.obj c ns ds) => .nd (.obj c ns ds)
  | .own (.lso ds) => .nd (.lso ds)
  | .own d => .ow d
  | d => .sh d
section
variable {F : Fr} {S H : Hp} {l : List Cell}
theorem Z1l {K : PySem.W.Frag} {v : V} {d : D} (r : Rep K S v d) : d.slot = .sh d := by cases r <;> rfl
theorem Z3p {K : PySem.W.Frag} {o : Option HO} {d : D} (r : RC K S o d) : (D.own d).slot = .ow d := by
  cases d <;> first | rfl | exact r.elim
theorem Z1c (d : D) : d.slot.env := by
  cases d with
  | own d => cases d <;> trivial
  | _ => trivial
theorem rcn_cases {K : PySem.W.Frag} {o : Option HO} {d : D} (r : RCn K S H o d) : RC K S o d ∨ (∃ ds, d = .tup ds) ∨ (∃ C ns ds, d = .obj C ns ds) ∨ ∃ ds, d = .lso ds := by
  cases r with
  | flat r => exact .inl r
  | tup _ i => exact .inr (.inl ⟨_, rfl⟩)
  | obj n k i => exact .inr (.inr (.inl ⟨_, _, _, rfl⟩))
  | lso i => exact .inr (.inr (.inr ⟨_, rfl⟩))
theorem Z1m {v : V} {d : D} (i : Itn F.K S H v d) (nd : (D.foot H d v).Nodup) (q : ∀ b ∈ D.foot H d v, F.H0 b = none ∧ S b = none) : SC F S H (d.slot, some v) ∧ fpC H (d.slot, some v) = D.foot H d v := by
  cases i with
  | sh r => rw [Z1l r, rep_foot r]; exact ⟨⟨v, rfl, r⟩, rfl⟩
  | @ow b d r =>
    rcases rcn_cases r with r1 | ⟨ds, rfl⟩ | ⟨C, ns, ds, rfl⟩ | ⟨ds, rfl⟩
    · rw [Z3p r1]
      rw [Zsd r1] at q ⊢
      obtain ⟨q1, q2⟩ := q b List.mem_cons_self
      exact ⟨⟨b, rfl, q1, q2, r1⟩, rfl⟩
    · exact ⟨⟨b, rfl, r, nd, q⟩, rfl⟩
    · exact ⟨⟨b, rfl, r, nd, q⟩, rfl⟩
    · exact ⟨⟨b, rfl, r, nd, q⟩, rfl⟩
theorem Zqv : ∀ {vs : List V} {ds : List D}, Itns F.K S H vs ds → (D.foots H ds vs).Nodup → (∀ b ∈ D.foots H ds vs, F.H0 b = none ∧ S b = none) →
    (∀ p ∈ (ds.map D.slot).zip (vs.map some), SC F S H p ∧ ∀ b ∈ fpC H p, b ∈ D.foots H ds vs) ∧ ((ds.map D.slot).zip (vs.map some)).Pairwise (Zby H)
  | _, _, .nil, _, _ => ⟨fun p hp => by simp at hp, .nil⟩
  | v :: vs, d :: ds, .cons i is, nd, q => by
    have nd' : (D.foot H d v ++ D.foots H ds vs).Nodup := nd
    obtain ⟨n1, n2, n3⟩ := List.nodup_append.mp nd'
    have q' : ∀ b ∈ D.foot H d v ++ D.foots H ds vs, F.H0 b = none ∧ S b = none := q
    obtain ⟨s1, e1⟩ := Z1m i n1 fun b hb => q' b (List.mem_append_left _ hb)
    obtain ⟨s2, p2⟩ := Zqv is n2 fun b hb => q' b (List.mem_append_right _ hb)
    refine ⟨fun p hp => ?_, List.pairwise_cons.mpr ⟨fun p hp => ?_, p2⟩⟩
    · rcases List.mem_cons.mp hp with rfl | hp
      · exact ⟨s1, fun b hb => List.mem_append_left _ (e1 ▸ hb)⟩
      · exact ⟨(s2 p hp).1, fun b hb => List.mem_append_right _ ((s2 p hp).2 b hb)⟩
    · have key : Dj H (d.slot, some v) p := fun b hb hq => n3 b (e1 ▸ hb) b ((s2 p hp).2 b hq) rfl
      exact ⟨fun _ _ => key, fun _ _ => key⟩
theorem Z4a {K : PySem.W.Frag} {o : Option HO} {ds : List D} (r : RCn K S H o (.tup ds)) : ∃ vs, o = some (.tup vs) ∧ Itns K S H vs ds := by
  cases r with
  | flat r => exact r.elim
  | tup _ i => exact ⟨_, rfl, i⟩
theorem Zwm {K : PySem.W.Frag} : ∀ {vs : List V} {ds : List D}, Itns K S H vs ds → vs.length = ds.length
  | _, _, .nil => rfl
  | _, _, .cons _ r => congrArg (· + 1) (Zwm r)
theorem C.unpack {ds : List D} {v : Option V} (c : C F ((.nd (.tup ds), v) :: l) H) : ∃ a vs, v = some (.ref a) ∧ H a = some (.tup vs) ∧ vs.length = ds.length ∧ C F ((ds.map D.slot).zip (vs.map some) ++ l) H := by
  obtain ⟨S, g, cc, pw⟩ := c
  obtain ⟨a, rfl, r, nd, q⟩ := cc _ List.mem_cons_self
  obtain ⟨vs, ev, i⟩ := Z4a r
  obtain ⟨p1, p2⟩ := List.pairwise_cons.mp pw
  have ei : D.inn H (.tup ds) (H a) = D.foots H ds vs := by rw [ev]; simp only [D.inn]
  rw [ei] at nd q
  obtain ⟨n1, n2⟩ := List.nodup_cons.mp nd
  obtain ⟨s, w⟩ := Zqv i n2 fun b hb => q b (List.mem_cons_of_mem _ hb)
  refine ⟨a, vs, rfl, ev, Zwm i, S, g, fun p hp => ?_, List.pairwise_append.mpr ⟨w, p2, fun p hp x hx => ?_⟩⟩
  · rcases List.mem_append.mp hp with hp | hp
    · exact (s p hp).1
    · exact cc p (List.mem_cons_of_mem _ hp)
  · have key : Dj H p x := fun b hb hq => by
      refine (p1 x hx).no trivial (a := b) ?_ hq
      show b ∈ a :: D.inn H (.tup ds) (H a)
      rw [ei]
      exact List.mem_cons_of_mem _ ((s p hp).2 b hb)
    exact ⟨fun _ _ => key, fun _ _ => key⟩
end
def Zoj : List Nat → List Slot → En → (En → Prop) → Prop
  | [], [], env, k => k env
  | i :: is, x :: xs, env, k => i < env.length ∧ Zoj is xs (env.set i x) k
  | _, _, _, _ => False
def gTn (is : List Nat) : WG := fun x env k => match x with
  | .nd (.tup ds) => Zoj is (ds.map D.slot) env k
  | _ => False
theorem Zow : ∀ {is : List Nat} {xs : List Slot} {env : En} {k k' : En → Prop}, (∀ e, k e → k' e) → Zoj is xs env k → Zoj is xs env k'
  | [], [], _, _, _, m, h => m _ h
  | _ :: _, _ :: _, _, _, _, m, h => ⟨h.1, Zow m h.2⟩
  | [], _ :: _, _, _, _, _, h => h.elim
  | _ :: _, [], _, _, _, _, h => h.elim
theorem Zp6 : ∀ {is : List Nat} {xs : List Slot} {env : En} {k : En → Prop}, Zoj is xs env k → xs.length = is.length
  | [], [], _, _, _ => rfl
  | _ :: is, _ :: ds, _, _, h => by simp [Zp6 h.2]
  | [], _ :: _, _, _, h => h.elim
  | _ :: _, [], _, _, h => h.elim
theorem Z2m {is : List Nat} : Zn5 (gTn is) := fun x env k k' m h => by
  unfold gTn at h ⊢
  split at h
  · exact Zow m h
  · exact h.elim
theorem Zwb {F : Fr} {l : List Cell} {Q : L2.St → Hp → Prop} {H : Hp} : ∀ {is : List Nat} {xs : List Slot} {vs : List V} {env : En} {σ : L2.St}, (∀ x ∈ xs, x.env) → vs.length = xs.length → env.length = σ.length → (∀ y ∈ env, y.env) →
    (C F (xs.zip (vs.map some) ++ (l ++ env.zip σ)) H) → Zoj is xs env (fun env' => ∀ σ' H', CE F l env' σ' H' → Q σ' H') → gNs is vs σ H Q
  | [], [], [], env, σ, _, _, hl, ho, c, h => ⟨rfl, h σ H ⟨hl, ho, c⟩⟩
  | i :: is, x :: xs, v :: vs, env, σ, hx, hv, hl, ho, c, h => by
    obtain ⟨hi, h⟩ := h
    refine ⟨v, vs, rfl, ?_⟩
    have c1 : C F ((x, some v) :: ((xs.zip (vs.map some) ++ l) ++ env.zip σ)) H := by rw [List.append_assoc]; exact c
    have k := C.setName (x := x) hl ho (hx x List.mem_cons_self) hi c1
    refine Zwb (is := is) (xs := xs) (vs := vs) (fun y hy => hx y (List.mem_cons_of_mem _ hy)) (by simpa using hv) k.len k.ok ?_ h
    rw [← List.append_assoc]; exact k.c
  | [], _ :: _, _, _, _, _, _, _, _, _, h => h.elim
  | _ :: _, [], _, _, _, _, _, _, _, _, h => h.elim
  | _, [], _ :: _, _, _, _, hv, _, _, _, _ => by simp at hv
  | _, _ :: _, [], _, _, _, hv, _, _, _, _ => by simp at hv
theorem Z3k {X : Cx} {F : Fr} {es : List Expr} {is : List Nat} {k : Nat} {pos : Pos} (hc : X.calm = true) (hN : X.N.Nodup) (n : NamesAt X es is) (hK : X.K = F.K := by rfl) : DG X F (.Tuple es k pos) (gTn is) := by
  obtain ⟨e1, e2⟩ := Zfl n
  have en := Znn n
  refine ⟨⟨fun pins s σ H v u Q I r h => ?_⟩, Z2m⟩
  refine (pg_tup (n := es.length) hc (n.pgs hN) e1 e2).run pins s σ H v u Q I r ?_
  obtain ⟨l, env, y, hl, ho, c, h⟩ := h
  unfold gTn at h
  split at h
  · rename_i ds
    obtain ⟨a, vs, ea, hq, hlen, c2⟩ := C.unpack c
    cases ea
    have hn := Zp6 h
    rw [List.length_map] at hn
    refine ⟨a, vs, rfl, by rw [hK]; exact SqT.of hq, by omega, ?_⟩
    exact Zwb (fun x hx => by obtain ⟨d, _, rfl⟩ := List.mem_map.mp hx; exact Z1c d) (by rw [List.length_map]; exact hlen) hl ho c2 h
  · exact h.elim
end DL
set_option Elab.async false
set_option linter.all false
set_option maxRecDepth 100000
set_option maxHeartbeats 4000000
namespace DL
open PySem PySem.Spec PyProof.Rows L2
structure GDict (K : PySem.W.Frag) (w : World) (mg : Str → Option Value) (x : Str) (tab : List (Str × Str)) : Prop where
  ex : ∃ a, mg x = some (.ref a) ∧ ∀ p ∈ tab, KDct K w a p.1 (.str p.2)
end DL
set_option Elab.async false
set_option linter.all false
set_option maxRecDepth 100000
set_option maxHeartbeats 4000000
namespace DL
open PySem PySem.Spec PyProof.Rows L2
section
variable {X : Cx} {F : Fr} {W : WX} {e : Expr} {we : WE} {p pos : Pos}
end
end DL
set_option Elab.async false
set_option linter.all false
set_option maxRecDepth 100000
set_option maxHeartbeats 4000000
namespace DL
open PySem PySem.Spec PyProof.Rows L2
def Z3f (K : PySem.W.Frag) (mg : Str → Option Value) (x c : Str) (b : Bool) : Prop := ∃ A C, mg c = some (.ref A) ∧ mg x = some (.ref C) ∧ PySem.W.exmOne K (.ref A) (.ref C) = some b
section
variable {X : Cx} {F : Fr} {W : WX} {x n : Str} {body suite : List Stmt} {b₀ : Stmt} {np pos pos' : Pos} {wb : WS}
theorem CE.xc {l : List Cell} {env : En} {σ : L2.St} {H : Hp} {i : Nat} {a : Addr} (k : CE F l env σ H) (hi : i < env.length) : CE F l (env.set i (.xc a)) (σ.set i (some (.ref a))) H :=
  C.setName k.len k.ok trivial hi (k.c.put (fun z => z) fun _ _ _ => rfl)
end
section
variable {X : Cx} {F : Fr} {W : WX} {e : Expr} {we : WE} {p tp pos : Pos} {a A : Addr} {oe : Obj} {pn : List (Addr × Obj)} {c T : Str} {b : Bool}
end
end DL
namespace DL
open PySem PySem.Spec PyProof.Rows L2
section
variable {K : PySem.W.Frag} {mg : Str → Option Value} {x c T : Str} {b : Bool} {l : List (Str × Bool)}
variable {g : Str → Bool}
end
end DL
set_option Elab.async false
set_option linter.all false
set_option maxRecDepth 100000
set_option maxHeartbeats 4000000
namespace DL
open PySem PySem.Spec PyProof.Rows L2
section
variable {F : Fr} {S S' H H' : Hp} {l : List Cell} {K : PySem.W.Frag}
end
section
variable {X : Cx} {F : Fr} {W : WX} {e : Expr} {we : WE} {x : Str} {apos cpos pos p2 p3 p4 : Pos}
def D.part (nb : Bool) : D → Option Slot
  | .own (.lst ds) => some (cond nb (.bo (.lst ds)) (.bt (.lst ds)))
  | .own _ => none
  | d => some (.sh d)
end
end DL
set_option Elab.async false
set_option linter.all false
set_option maxRecDepth 100000
set_option maxHeartbeats 4000000
namespace DL
open PySem PySem.Spec PyProof.Rows L2
section
variable {F : Fr} {S H : Hp} {l : List Cell} {K : PySem.W.Frag}
end
section
variable {X : Cx} {F : Fr} {W : WX} {a b e : Expr} {we wa wb : WE} {p pos : Pos}
end
section
variable {F : Fr} {H : Hp} {l : List Cell}
end
section
variable {X : Cx} {F : Fr} {W : WX} {a b : Expr} {wa wb : WE} {pos : Pos}
end
section
variable {F : Fr} {S S' H : Hp} {l : List Cell}
end
section
variable {X : Cx} {F : Fr} {W : WX} {e : Expr} {x : Str} {apos cpos pos p2 p3 p4 : Pos}
end
end DL
set_option Elab.async false
set_option linter.all false
set_option maxRecDepth 100000
set_option maxHeartbeats 4000000
namespace DL
open PySem PySem.Spec PyProof.Rows L2
inductive JMono : List WE → Prop
  | nil : JMono []
  | cons {w : WE} {ws : List WE} : Mono w → JMono ws → JMono (w :: ws)
section
variable {X : Cx} {F : Fr} {W : WX} {a b e : Expr} {we wa wb : WE} {p pos : Pos}
inductive DJ (X : Cx) (F : Fr) (W : WX) : List Expr → List WE → Prop
  | nil : DJ X F W [] []
  | fmt {e : Expr} {we : WE} {es : List Expr} {ws : List WE} {pos : Pos} : DE X F W e we → DJ X F W es ws → DJ X F W (.FormattedValue e (-1) none pos :: es) (we :: ws)
  | str {s : Str} {j : Nat} {es : List Expr} {ws : List WE} {pos : Pos} : DJ X F W es ws → DJ X F W (.Constant (.str s) j pos :: es) (wStr s :: ws)
end
end DL
set_option Elab.async false
set_option linter.all false
set_option maxRecDepth 100000
set_option maxHeartbeats 4000000
namespace DL
open PySem PySem.Spec PyProof.Rows L2
section
variable {prog : Program} {w : World}
structure ZApart (z TI TO i1 i2 : Addr) : Prop where
  tz : TI ≠ z
  oz : TO ≠ z
  az : i1 ≠ z
  bz : i2 ≠ z
  to : TI ≠ TO
  ta : TI ≠ i1
  tb : TI ≠ i2
  oa : TO ≠ i1
  ob : TO ≠ i2
  ab : i1 ≠ i2
variable {A : Around} {E : Value → Shared → Prop} {s : Shared}
end
end DL
set_option Elab.async false
set_option linter.all false
set_option maxRecDepth 100000
set_option maxHeartbeats 4000000
namespace DL
open PySem PySem.Spec PyProof.Rows L2
section
variable {X : Cx} {F : Fr} {W : WX} {a b : Expr} {wA : WA} {pos p : Pos}
def sl2 (k : Str → List D → Prop) : List Slot → Prop
  | [.sh (.str x), y] => lst1 (k x) [y]
  | _ => False
end
end DL
set_option Elab.async false
set_option linter.all false
set_option maxRecDepth 100000
set_option maxHeartbeats 4000000
namespace DL
open PySem PySem.Spec PyProof.Rows L2
section
variable {X : Cx} {F : Fr} {W : WX} {e tg : Expr} {we : WE} {pos p : Pos}
end
end DL
set_option Elab.async false
set_option linter.all false
set_option maxRecDepth 100000
set_option maxHeartbeats 4000000
namespace DL
open PySem PySem.Spec PyProof.Rows L2
section
variable {X : Cx} {F : Fr} {W : WX} {e : Expr} {we : WE} {pos p : Pos}
end
end DL
set_option Elab.async false
set_option linter.all false
set_option maxRecDepth 100000
set_option maxHeartbeats 4000000
namespace DL
open PySem PySem.Spec PyProof.Rows L2
section
variable {X : Cx} {F : Fr} {W : WX} {e : Expr} {we : WE} {pos p : Pos}
end
end DL
set_option Elab.async false
set_option linter.all false
set_option maxRecDepth 100000
set_option maxHeartbeats 4000000
namespace DL
open PySem PySem.Spec PyProof.Rows L2
section
variable {X : Cx} {F : Fr} {W : WX} {e : Expr} {we : WE} {pos p : Pos}
end
end DL
set_option Elab.async false
set_option linter.all false
set_option maxRecDepth 100000
set_option maxHeartbeats 4000000
namespace DL
open PySem PySem.Spec PyProof.Rows L2
section
variable {F : Fr} {S S' H H' : Hp} {l : List Cell}
def less (H : Hp) (fp : List Addr) : Hp := open Classical in fun a => if a ∈ fp then none else H a
theorem Zni {fp : List Addr} {a : Addr} (h : a ∈ fp) : less H fp a = none := by simp [less, h]
theorem Ze4 {fp : List Addr} {a : Addr} (h : a ∉ fp) : less H fp a = H a := by simp [less, h]
theorem Zl8 {fp : List Addr} {a : Addr} (h : a ∉ fp) (q : H a ≠ none) : less H fp a ≠ none := by rw [Ze4 h]; exact q
abbrev Fr.sub (F : Fr) (S H : Hp) (fp : List Addr) : Fr := ⟨F.K, F.mg, less H fp, S⟩
def okF (fp : List Addr) (p : Cell) : Prop := p.1.env ∨ ∃ d, p.1 = .bt d ∧ ∀ a, p.2 = some (.ref a) → a ∉ fp
theorem C.back_of' {fp : List Addr} (g : GS F S H) (h0 : ∀ b ∈ fp, F.H0 b = none) (cc : ∀ p ∈ l, SC F S H p) (pw : l.Pairwise (Zby H)) (hl : ∀ p ∈ l, okF fp p) (ap : ∀ p ∈ l, ∀ b ∈ fp, b ∉ fpC H p) {m : List Cell}
    (h : C (F.sub S H fp) m H') (hm : ∀ p ∈ m, (∃ d v, p = (.sh d, v)) ∨ (∃ d v, p = (.ow d, v)) ∨ (∃ d v, p = (.nd d, v)) ∨ ∃ a d v, p = (.na a d, v)) : C F (m ++ l) H' := by
  obtain ⟨S', g', cc', pw'⟩ := h
  have hp : ∀ p ∈ l, ∀ a ∈ fpC H p, H' a = H a := fun p hp a ha => by
    have nn := (Zdf (cc p hp) a ha).1
    have no : a ∉ fp := fun z => ap p hp a z ha
    have := Zh3 g'.h0 (b := a) (Zl8 no nn)
    rw [this]; exact Ze4 no
  have free : ∀ a, less H fp a = none → F.H0 a = none := fun a z => by
    by_cases h : a ∈ fp
    · exact h0 a h
    · rw [Ze4 h] at z; exact g.h0.free z
  have keepH : ∀ a, H a ≠ none → F.H0 a ≠ none → H' a = H a := fun a nn q => by
    have no : a ∉ fp := fun z => q (h0 a z)
    have := Zh3 g'.h0 (b := a) (Zl8 no nn)
    rw [this]; exact Ze4 no
  have gr : ∀ p ∈ l, SC F S' H' p := fun p hp' => (hl p hp').elim (fun hl => (cc p hp').keep g'.s0 keepH (hp p hp') (fun a ha => by
    cases e : S' a with
    | none => rfl
    | some o =>
      obtain ⟨d1, d2, d3⟩ := Zdf (cc p hp') a ha
      rcases g'.fr a (by rw [e]; simp) with z | z | z
      · exact (z d3).elim
      · exact (Zl8 (fun z => ap p hp' a z ha) d1 z).elim
      · rcases g'.kt_old z with y | y
        · exact (Zl8 (fun z => ap p hp' a z ha) d1 y).elim
        · have no : a ∉ fp := fun z => ap p hp' a z ha
          have y' : KT (less H fp a) := y
          rw [Ze4 no] at y'
          exact (Zzk (cc p hp') a ha y').elim) hl) fun ⟨d, e, nf⟩ => by
    obtain ⟨x, v⟩ := p
    have e : x = .bt d := e
    subst e
    obtain ⟨a, ea, r⟩ := cc _ hp'
    have no : a ∉ fp := nf a ea
    have hH : H' a = H a := by
      have := Zh3 g'.h0 (b := a) (Zl8 no r.nn)
      rw [this]; exact Ze4 no
    exact ⟨a, ea, by rw [hH]; exact r.mono g'.s0⟩
  have cg : ∀ p ∈ l, fpC H' p = fpC H p := fun p hp' => Zed (hp p hp')
  refine ⟨S', ⟨g.s0.trans g'.s0, g'.sh, fun b u e => ?_, fun a z => ?_⟩, fun p hp' => ?_, List.pairwise_append.mpr ⟨pw', ?_, fun p hp' q hq => ?_⟩⟩
  · have no : b ∉ fp := fun z => by rw [h0 b z] at e; cases e
    exact g'.h0 b u (by rw [show (F.sub S H fp).H0 b = less H fp b from rfl, Ze4 no]; exact g.h0 b u e)
  · rcases g'.fr a z with z | z | z
    · rcases g.fr a z with y | y | y
      · exact .inl y
      · exact .inr (.inl y)
      · exact .inr (.inr (by rw [Zh3 g'.s0 z]; exact y))
    · exact .inr (.inl (free a z))
    · exact .inr (.inr z)
  · rcases List.mem_append.mp hp' with hp' | hp'
    · have s := cc' p hp'
      rcases hm p hp' with ⟨d, v, rfl⟩ | ⟨d, v, rfl⟩ | ⟨d, v, rfl⟩ | ⟨a, d, v, rfl⟩
      · exact s
      · obtain ⟨a, e, h0, hS, r⟩ := s
        exact ⟨a, e, free a h0, hS, r⟩
      · obtain ⟨a, e, r, n, q⟩ := s
        exact ⟨a, e, r, n, fun b hb => ⟨free b (q b hb).1, (q b hb).2⟩⟩
      · obtain ⟨e, r, n, q⟩ := s
        exact ⟨e, r, n, fun b hb => ⟨free b (q b hb).1, (q b hb).2⟩⟩
    · exact gr p hp'
  · have key : ∀ l' : List Cell, (∀ p ∈ l', p ∈ l) → l'.Pairwise (Zby H) → l'.Pairwise (Zby H') := fun l' => by
      induction l' with
      | nil => exact fun _ _ => .nil
      | cons p l' ih =>
        intro hs h
        obtain ⟨h1, h2⟩ := List.pairwise_cons.mp h
        refine .cons (fun q hq => ?_) (ih (fun q hq => hs q (List.mem_cons_of_mem _ hq)) h2)
        have := h1 q hq
        unfold Zby Dj at this ⊢
        rw [cg p (hs p List.mem_cons_self), cg q (hs q (List.mem_cons_of_mem _ hq))]
        exact this
    exact key l (fun _ h => h) pw
  · have key : Dj H' p q := fun a ha hb => by
      rw [cg q hq] at hb
      have d := Zdf (cc q hq) a hb
      exact Zl8 (fun z => ap q hq a z hb) d.1 (Zdf (cc' p hp') a ha).2.1
    exact ⟨fun _ _ => key, fun _ _ => key⟩
theorem C.back_of {fp : List Addr} (g : GS F S H) (h0 : ∀ b ∈ fp, F.H0 b = none) (cc : ∀ p ∈ l, SC F S H p) (pw : l.Pairwise (Zby H)) (hl : ∀ p ∈ l, p.1.env) (ap : ∀ p ∈ l, ∀ b ∈ fp, b ∉ fpC H p) {m : List Cell}
    (h : C (F.sub S H fp) m H') (hm : ∀ p ∈ m, (∃ d v, p = (.sh d, v)) ∨ (∃ d v, p = (.ow d, v)) ∨ (∃ d v, p = (.nd d, v)) ∨ ∃ a d v, p = (.na a d, v)) : C F (m ++ l) H' := C.back_of' g h0 cc pw (fun p hp => .inl (hl p hp)) ap h hm
theorem C.chg {a : Addr} {d : D} {v : Option V} (h : C F ((.na a d, v) :: l) H) (hl : ∀ p ∈ l, p.1.env) : v = some (.ref a) ∧ ∃ S, GS F S H ∧ RCn F.K S H (H a) d ∧ (a :: D.inn H d (H a)).Nodup ∧
    (∀ b ∈ a :: D.inn H d (H a), F.H0 b = none ∧ S b = none ∧ H b ≠ none) ∧ (∀ p ∈ l, SC F S H p) ∧
    ∀ S' H' d', Same S S' → Same S' H' → (∀ b, H b ≠ none → b ∉ a :: D.inn H d (H a) → H' b = H b) → (∀ b, S' b ≠ none → S b ≠ none ∨ b ∈ a :: D.inn H d (H a) ∨ H b = none) →
      RCn F.K S' H' (H' a) d' → (a :: D.inn H' d' (H' a)).Nodup → (∀ b ∈ a :: D.inn H' d' (H' a), (b ∈ a :: D.inn H d (H a) ∨ H b = none) ∧ S' b = none) → C F ((.na a d', v) :: l) H' := by
  obtain ⟨S, g, cc, pw⟩ := h
  obtain ⟨rfl, r, nd, q⟩ := cc _ List.mem_cons_self
  obtain ⟨p1, p2⟩ := List.pairwise_cons.mp pw
  refine ⟨rfl, S, g, r, nd, fun b hb => ⟨(q b hb).1, (q b hb).2, r.dom1 b hb⟩, fun p hp => cc p (List.mem_cons_of_mem _ hp), fun S' H' d' e1 e2 e3 e4 r' nd' q' => ?_⟩
  have c1 : C (F.sub S H (a :: D.inn H d (H a))) [(.na a d', some (.ref a))] H' := by
    refine ⟨S', ⟨e1, e2, fun b u e => ?_, fun b z => ?_⟩, fun p hp => ?_, List.pairwise_singleton _ _⟩
    · by_cases hb : b ∈ a :: D.inn H d (H a)
      · rw [show (F.sub S H (a :: D.inn H d (H a))).H0 b = less H _ b from rfl, Zni hb] at e; cases e
      · rw [show (F.sub S H (a :: D.inn H d (H a))).H0 b = less H _ b from rfl, Ze4 hb] at e
        rw [e3 b (by rw [e]; simp) hb]; exact e
    · rcases e4 b z with z | z | z
      · exact .inl z
      · exact .inr (.inl (Zni z))
      · refine .inr (.inl ?_)
        by_cases hb : b ∈ a :: D.inn H d (H a)
        · exact Zni hb
        · rw [show (F.sub S H (a :: D.inn H d (H a))).H0 b = less H _ b from rfl, Ze4 hb]; exact z
    · obtain rfl : p = (Slot.na a d', some (V.ref a)) := by simpa using hp
      refine ⟨rfl, r', nd', fun b hb => ⟨?_, (q' b hb).2⟩⟩
      rcases (q' b hb).1 with z | z
      · exact Zni z
      · by_cases hb : b ∈ a :: D.inn H d (H a)
        · exact Zni hb
        · rw [show (F.sub S H (a :: D.inn H d (H a))).H0 b = less H _ b from rfl, Ze4 hb]; exact z
  exact C.back_of g (fun b hb => (q b hb).1) (fun p hp => cc p (List.mem_cons_of_mem _ hp)) p2 hl (fun p hp b hb => (p1 p hp).no trivial hb) c1 fun p hp => by
    obtain rfl : p = (Slot.na a d', some (V.ref a)) := by simpa using hp
    exact .inr (.inr (.inr ⟨_, _, _, rfl⟩))
end
inductive M1 where
  | ok (x : Slot) (env : En) | ex (c : Str) (fs : List (Str × D)) (env : En)
abbrev WM := En → (M1 → Prop) → Prop
def Zhs (w : WM) : Prop := ∀ env Q Q', (∀ r, Q r → Q' r) → w env Q → w env Q'
def LMp (F : Fr) (W : WX) (l : List Cell) (σ : L2.St) (Q : VK) : M1 → Prop
  | .ok x env' => ∀ v H', env'.length = σ.length → (∀ y ∈ env', y.env) → C F ((x, some v) :: (l ++ env'.zip σ)) H' → Q v H'
  | .ex c fs env' => ∀ A d H', F.mg c = some (.ref A) → XF H' d fs → CE F l env' σ H' → W (.ref A) d σ H'
def LMTp (F : Fr) (W : WX) (l : List Cell) (σ : L2.St) (Q : Bool → Hp → Prop) : M1 → Prop
  | .ok x env' => ∃ b, x = .sh (.bl b) ∧ ∀ H', CE F l env' σ H' → Q b H'
  | .ex c fs env' => ∀ A d H', F.mg c = some (.ref A) → XF H' d fs → CE F l env' σ H' → W (.ref A) d σ H'
def LM (F : Fr) (W : WX) (w : WM) : TE := fun σ H Q => ∃ l env, CE F l env σ H ∧ (∀ p ∈ l, p.1.env) ∧ w env (LMp F W l σ Q)
def LMT (F : Fr) (W : WX) (w : WM) : TT := fun σ H Q => ∃ l env, CE F l env σ H ∧ (∀ p ∈ l, p.1.env) ∧ w env (LMTp F W l σ Q)
structure DM (X : Cx) (F : Fr) (W : WX) (e : Expr) (w : WM) : Prop where
  run : PE X e (LM F W w)
  mono : Zhs w
structure DMT (X : Cx) (F : Fr) (W : WX) (e : Expr) (w : WM) : Prop where
  run : PT X e (LMT F W w)
  mono : Zhs w
structure DMW (X : Cx) (F : Fr) (W : WX) (e : Expr) (w : WM) : Prop where
  run : PW X e (LMT F W w)
  mono : Zhs w
def mk1 (k : Slot → En → Prop) (Q : M1 → Prop) : M1 → Prop
  | .ok x env => k x env
  | .ex c fs env => Q (.ex c fs env)
theorem Zm5 {w : WM} (m : Zhs w) {k k' : Slot → En → Prop} {Q Q' : M1 → Prop} {env : En} (hk : ∀ x e, k x e → k' x e) (hq : ∀ r, Q r → Q' r) (h : w env (mk1 k Q)) : w env (mk1 k' Q') :=
  m env _ _ (fun r q => match r, q with
    | .ok x e, q => hk x e q
    | .ex c fs e, q => hq _ q) h
def Zpv (we : WE) : WM := fun env Q => we env fun r => match r with
  | .ok x => Q (.ok x env)
  | .ex c fs => Q (.ex c fs env)
def mOp (o : O2) (wa wb : WM) : WM := fun env Q => wa env (mk1 (fun x e1 => x.env ∧ wb e1 (mk1 (fun y e2 => o x y fun z => Q (.ok z e2)) Q)) Q)
def mOr (wa wb : WM) : WM := fun env Q => wa env (mk1 (fun x e1 => asB (fun b => match b with | true => Q (.ok (.sh (.bl true)) e1) | false => wb e1 Q) x) Q)
section
variable {X : Cx} {F : Fr} {W : WX} {a b e : Expr} {es : List Expr} {we : WE} {wa wb wm : WM} {wA : WA} {pos : Pos}
theorem Zr1 (h : Mono we) : Zhs (Zpv we) := fun env Q Q' m q => h env _ _ (fun r z => by cases r <;> exact m _ z) q
theorem Z44 {o : O2} (om : Zi1 o) (ha : Zhs wa) (hb : Zhs wb) : Zhs (mOp o wa wb) := fun env Q Q' m q => Zm5 ha (fun x e1 z => ⟨z.1, Zm5 hb (fun y e2 z => om x y _ _ (fun u hu => m _ hu) z) m z.2⟩) m q
theorem Z5i (ha : Zhs wa) (hb : Zhs wb) : Zhs (mOr wa wb) := fun env Q Q' m q => Zm5 ha (fun x e1 z => Ze3 (fun b z => match b, z with
  | true, z => m _ z
  | false, z => hb _ _ _ m z) z) m q
theorem Z33 (h : DE X F W e we) : DM X F W e (Zpv we) := ⟨Zb5 h.run fun σ H Q ⟨l, env, k, hl, q⟩ => ⟨l, env, k, h.mono env _ _ (fun r z => match r, z with
  | .ok x, z => fun v H' c => z v H' k.len k.ok c
  | .ex c fs, z => fun A d H' hA hx c => z A d H' hA hx (k.at c)) q⟩, Zr1 h.mono⟩
theorem Zrd {w : WM} {l : List Cell} {env : En} {σ : L2.St} {k : Slot → En → Prop} {Q : M1 → Prop} {Q' : VK} (m : Zhs w) (h : w env (mk1 k Q))
    (h1 : ∀ x e, k x e → e.length = σ.length → (∀ y ∈ e, y.env) → ∀ v H', C F ((x, some v) :: (l ++ e.zip σ)) H' → Q' v H') (h2 : ∀ c fs e, Q (.ex c fs e) → LMp F W l σ Q' (.ex c fs e)) : w env (LMp F W l σ Q') :=
  m env _ _ (fun r z => match r, z with
    | .ok x e, z => fun v H' hl ho c => h1 x e z hl ho v H' c
    | .ex c fs e, z => h2 c fs e z) h
theorem Z18 {w : WM} {l : List Cell} {env : En} {σ : L2.St} {k : Bool → En → Prop} {Q : M1 → Prop} {Q' : Bool → Hp → Prop} (m : Zhs w) (h : w env (mk1 (fun x e => asB (fun b => k b e) x) Q))
    (h1 : ∀ b e, k b e → ∀ H', CE F l e σ H' → Q' b H') (h2 : ∀ c fs e, Q (.ex c fs e) → LMTp F W l σ Q' (.ex c fs e)) : w env (LMTp F W l σ Q') :=
  m env _ _ (fun r z => match r, z with
    | .ok x e, z => by
      obtain ⟨b, rfl, z⟩ := Zq5 (show asB _ x from z)
      exact ⟨b, rfl, fun H' c => h1 b e z H' c⟩
    | .ex c fs e, z => h2 c fs e z) h
theorem Z4k {l : List Cell} {p : Cell} {σ : L2.St} {Q Q' : VK} {c : Str} {fs : List (Str × D)} {e : En} (h : LMp F W l σ Q (.ex c fs e)) : LMp F W (p :: l) σ Q' (.ex c fs e) :=
  fun A d H' hA hx k => h A d H' hA hx ⟨k.len, k.ok, k.c.tail⟩
theorem Z7b {r : R2} {o : O2} (sn : Zjo F r o) (ha : DM X F W a wa) (hb : DM X F W b wb) {σ : L2.St} {H : Hp} {Q : VK} (h : LM F W (mOp o wa wb) σ H Q) : tOp r (LM F W wa) (LM F W wb) σ H Q := by
  obtain ⟨l, env, k, hl, q⟩ := h
  refine ⟨l, env, k, hl, Zrd ha.mono q (fun x e1 z hlen ho v H1 c1 => ?_) fun c fs e z => z⟩
  have ce1 : CE F ((x, some v) :: l) e1 σ H1 := ⟨hlen, ho, c1⟩
  refine ⟨(x, some v) :: l, e1, ce1, fun p hp => ?_, Zrd hb.mono z.2 (fun y e2 z hlen2 ho2 u H2 c2 => ?_) fun c fs e z => Z4k z⟩
  · rcases List.mem_cons.mp hp with rfl | hp
    · exact z.1
    · exact hl p hp
  · exact sn _ H2 x y v u (fun z => LMp F W l σ Q (.ok z e2)) Q c2 z fun z w H' hz hc => hz w H' hlen2 ho2 hc
theorem Z5n {σ : L2.St} {H : Hp} {Q : Bool → Hp → Prop} (m : Zhs wa) (h : LMT F W wa σ H Q) : LM F W wa σ H fun x H' => ∃ k, x = .bl k ∧ Q k H' := by
  obtain ⟨l, env, k, hl, q⟩ := h
  refine ⟨l, env, k, hl, m env _ _ (fun r z => ?_) q⟩
  cases r with
  | ok x e =>
    obtain ⟨b, rfl, z⟩ := z
    exact fun v H' h1 h2 c => by
      have e1 := c.shBl
      cases e1
      exact ⟨b, rfl, z H' ⟨h1, h2, c.tail⟩⟩
  | ex c fs e => exact z
theorem Z3n {op : CmpOp} {r : R2} {o : O2} (ho : OpR X (compareOp op) r) (sn : Zjo F r o) (om : Zi1 o) (ha : DM X F W a wa) (hb : DM X F W b wb) (hm : behindInMarks op b = false) : DMT X F W (.Compare a [op] [b] pos) (mOp o wa wb) :=
  ⟨Znq (pt_cmpR ho ha.run hb.run hm) fun _ _ _ h => Z7b sn ha hb (Z5n (Z44 om ha.mono hb.mono) h), Z44 om ha.mono hb.mono⟩
theorem Z4l (h : DMT X F W a wa) : DMW X F W (.BoolOp .Or [a] pos) wa := ⟨pw_or1 h.run, h.mono⟩
theorem Z5p (h : DMT X F W a wa) (h2 : DMW X F W (.BoolOp .Or (b :: es) pos) wb) : DMW X F W (.BoolOp .Or (a :: b :: es) pos) (mOr wa wb) :=
  ⟨Zyv (pw_or h.run h2.run) fun σ H Q ⟨l, env, k, hl, q⟩ => ⟨l, env, k, hl, Z18 h.mono q (fun b e hb H' c => by
    cases b with
    | false => exact ⟨l, e, c, hl, hb⟩
    | true =>
      obtain ⟨b', e1, z⟩ := hb
      cases e1
      exact z H' c) fun c fs e z => z⟩, Z5i h.mono h2.mono⟩
theorem Z0n (h : DMW X F W e wm) : DMT X F W e wm := ⟨h.run.pt, h.mono⟩
theorem Z0t (h : DT X F W e we) : DMT X F W e (Zpv we) := ⟨Znq h.run fun σ H Q ⟨l, env, k, hl, q⟩ => ⟨l, env, k, h.mono env _ _ (fun r z => match r, z with
  | .ok x, z => by
    obtain ⟨b, e, z⟩ := z
    exact ⟨b, e, fun H' c => z H' ⟨k.len, k.ok, c⟩⟩
  | .ex c fs, z => fun A d H' hA hx c => z A d H' hA hx (k.at c)) q⟩, Zr1 h.mono⟩
end
end DL
set_option Elab.async false
set_option linter.all false
set_option maxRecDepth 100000
set_option maxHeartbeats 4000000
namespace DL
open PySem PySem.Spec PyProof.Rows L2
inductive TK : List Nat → En → List Slot → List (Addr × D) → List Slot → En → Prop
  | nil {env : En} {xs : List Slot} : TK [] env xs [] xs env
  | cons {j : Nat} {js : List Nat} {env : En} {a : Addr} {d : D} {xs : List Slot} {ms : List (Addr × D)} {ys : List Slot} {e : En} : env[j]? = some (.na a d) → TK js (env.set j .un) xs ms ys e → TK (j :: js) env (.xc a :: xs) ((a, d) :: ms) ys e
def Z1j : List Nat → List (Addr × D) → En → En
  | j :: js, m :: ms, env => Z1j js ms (env.set j (.na m.1 m.2))
  | _, _, env => env
def SFs : List Nat → List (Addr × D) → L2.St → Prop
  | [], [], _ => True
  | j :: js, m :: ms, σ => σ[j]? = some (some (.ref m.1)) ∧ SFs js ms σ
  | _, _, _ => False
theorem Z1e {α : Type} (xs l R : List α) (y u : α) : (u :: (xs ++ (l ++ (y :: R)))).Perm (xs ++ ((y :: l) ++ (u :: R))) := by
  have h1 : (l ++ y :: R).Perm (y :: (l ++ R)) := List.perm_middle
  have h2 : ((y :: l) ++ u :: R).Perm (u :: ((y :: l) ++ R)) := List.perm_middle
  exact ((h1.append_left xs).cons u).trans ((List.perm_middle (l₁ := xs) (l₂ := y :: (l ++ R))).symm.trans (h2.append_left xs).symm)
theorem Zzt {α : Type} (X l E : List α) (p : α) : (p :: (X ++ (l ++ E))).Perm (X ++ (l ++ p :: E)) := by
  have := (@List.perm_middle _ p (X ++ l) E).symm
  simpa only [List.append_assoc, List.cons_append] using this
section
variable {F : Fr} {H : Hp} {σ : L2.St}
theorem Z2f : ∀ {js : List Nat} {ms : List (Addr × D)} {e : En} {l : List Cell}, SFs js ms σ → e.length = σ.length → (∀ y ∈ e, y.env) → C F (Zh4 ms ++ (l ++ e.zip σ)) H → CE F l (Z1j js ms e) σ H
  | [], [], e, l, _, hl, ho, c => ⟨hl, ho, c⟩
  | j :: js, m :: ms, e, l, h, hl, ho, c => by
    have hj : j < e.length := by rw [hl]; exact (List.getElem?_eq_some_iff.mp h.1).1
    have e1 : (e.set j (.na m.1 m.2)).zip σ = (e.zip σ).set j (.na m.1 m.2, some (.ref m.1)) := by
      have := Zg5 (xs := e) (ys := σ) j (Slot.na m.1 m.2) (some (V.ref m.1))
      rw [Zrk h.1] at this
      exact this
    show CE F l (Z1j js ms (e.set j (.na m.1 m.2))) σ H
    refine Z2f h.2 (by rw [List.length_set]; exact hl) (fun y hy => ?_) ?_
    · rcases List.mem_or_eq_of_mem_set hy with hy | rfl
      · exact ho y hy
      · trivial
    · have c1 : C F ((Slot.na m.1 m.2, some (V.ref m.1)) :: (Zh4 ms ++ (l ++ e.zip σ))) H := c
      obtain ⟨z, hz⟩ : ∃ z, (e.zip σ)[j]? = some z := ⟨_, List.getElem?_eq_getElem (by rw [List.length_zip, ← hl]; simpa using hj)⟩
      rw [e1]
      have c2 : C F ((Slot.na m.1 m.2, some (V.ref m.1)) :: (Zh4 ms ++ (l ++ (e.zip σ).eraseIdx j))) H := c1.sub (List.Sublist.cons_cons _ (List.Sublist.append (List.Sublist.refl _) (List.Sublist.append (List.Sublist.refl _) (List.eraseIdx_sublist _ _))))
      refine c2.perm ?_
      have p1 := Zgy (y := (Slot.na m.1 m.2, some (V.ref m.1))) hz
      refine List.Perm.trans ?_ (List.Perm.append_left _ (List.Perm.append_left _ p1)).symm
      exact Zzt _ _ _ _
  | [], _ :: _, _, _, h, _, _, _ => h.elim
  | _ :: _, [], _, _, h, _, _, _ => h.elim
end
section
variable {F : Fr} {H : Hp} {l : List Cell}
end
section
variable {X : Cx} {F : Fr} {W : WX} {a b c e o : Expr} {es : List Expr} {wa wb wc w : WE} {wA : WA} {pos p : Pos}
end
end DL
set_option Elab.async false
set_option linter.all false
set_option maxRecDepth 100000
set_option maxHeartbeats 4000000
namespace DL
open PySem PySem.Spec PyProof.Rows L2
def Zzf : List Str → Str → Option Nat
  | [], _ => none
  | n :: ns, f => if n = f then some 0 else (Zzf ns f).map (· + 1)
def Z7p : Slot → Option (Str × List Str × List D)
  | .sh (.obj C ns ds) => some (C, ns, ds)
  | .nb (.obj C ns ds) => some (C, ns, ds)
  | .ln _ (.obj C ns ds) => some (C, ns, ds)
  | _ => none
section
variable {F : Fr} {S H : Hp} {l : List Cell}
theorem Z4y {K : PySem.W.Frag} {o : Option HO} {C : Str} {ns : List Str} {ds : List D} (r : RCn K S H o (.obj C ns ds)) : ∃ Ca dx kvs, o = some (.ins Ca dx kvs) ∧ PySem.W.nsIn K mainGlobals C = some (some (.ref Ca)) ∧ kvs.map Prod.fst = ns ∧ Itns K S H (kvs.map Prod.snd) ds := by
  cases r with
  | flat r => exact r.elim
  | obj n k i => exact ⟨_, _, _, rfl, n, k, i⟩
end
section
variable {X : Cx} {F : Fr} {W : WX} {a b c e o : Expr} {es : List Expr} {wa wb wc w we wo : WE} {wA : WA} {pos p apos : Pos}
end
end DL
set_option Elab.async false
set_option linter.all false
set_option maxRecDepth 100000
set_option maxHeartbeats 4000000
namespace DL
open PySem PySem.Spec PyProof.Rows L2
section
variable {F : Fr} {S S' H H' : Hp} {l : List Cell}
theorem Zby.like {p q r : Cell} (h : Zby H p r) (e : fpC H q = fpC H p) (ho : q.1.isOw → p.1.isOw) (hw : q.1.own → p.1.own) : Zby H q r := by
  unfold Zby Dj at h ⊢
  rw [e]
  exact ⟨fun a b => h.1 (ho a) b, fun a b => h.2 (hw a) b⟩
theorem C.toNa {x : Slot} {d : D} {v : Option V} (h : C F ((x, v) :: l) H) (hx : x = .nd d ∨ x = .ow d) : ∃ a, v = some (.ref a) ∧ C F ((.na a d, v) :: l) H := by
  obtain ⟨S, g, c, pw⟩ := h
  obtain ⟨p1, p2⟩ := List.pairwise_cons.mp pw
  have s := c _ List.mem_cons_self
  have key : ∃ a, v = some (.ref a) ∧ SC F S H (.na a d, v) ∧ fpC H (.na a d, v) = fpC H (x, v) ∧ x.isOw := by
    rcases hx with rfl | rfl
    · obtain ⟨a, rfl, r, n, q⟩ := s
      exact ⟨a, rfl, ⟨rfl, r, n, q⟩, rfl, trivial⟩
    · obtain ⟨a, rfl, h0, hS, r⟩ := s
      have ei : a :: D.inn H d (H a) = [a] := by rw [r.inn]
      exact ⟨a, rfl, ⟨rfl, .flat r, by rw [ei]; simp, fun b hb => by
        rw [ei] at hb
        have e : b = a := by simpa using hb
        rw [e]; exact ⟨h0, hS⟩⟩, ei, trivial⟩
  obtain ⟨a, rfl, s', ef, ho⟩ := key
  refine ⟨a, rfl, S, g, fun p hp => ?_, List.pairwise_cons.mpr ⟨fun p hp => (p1 p hp).like ef (fun _ => ho) (fun _ => Z2s ho), p2⟩⟩
  rcases List.mem_cons.mp hp with rfl | hp
  · exact s'
  · exact c p (List.mem_cons_of_mem _ hp)
end
section
variable {F : Fr} {H : Hp} {l : List Cell} {env : En} {σ : L2.St} {i : Nat}
theorem CE.rest (k : CE F l env σ H) (hl : ∀ p ∈ l, p.1.env) : ∀ p ∈ l ++ (env.zip σ).eraseIdx i, p.1.env := fun p hp => by
  rcases List.mem_append.mp hp with hp | hp
  · exact hl p hp
  · exact k.ok _ (Zmr (Ztq hp))
theorem CE.toNa {x : Slot} {d : D} (k : CE F l env σ H) (hx : env[i]? = some x) (h : x = .nd d ∨ x = .ow d) : ∃ a, CE F l (env.set i (.na a d)) σ H := by
  obtain ⟨v, h1, h2, c⟩ := k.splitAt hx
  obtain ⟨a, rfl, c⟩ := c.toNa h
  exact ⟨a, CE.joinAt k.len k.ok trivial h1 h2 c⟩
end
section
variable {X : Cx} {F : Fr} {W : WX} {a b c e o : Expr} {es : List Expr} {st : Stmt} {sts : List Stmt} {w : WS} {we wo wa : WE} {wA : WA} {wm : WM} {pos p apos : Pos}
end
end DL
set_option Elab.async false
set_option linter.all false
set_option maxRecDepth 100000
set_option maxHeartbeats 4000000
namespace DL
open PySem PySem.Spec PyProof.Rows L2
def D.isFlat : D → Prop
  | .lst _ => True
  | .dk _ => True
  | .dt _ => True
  | _ => False
section
variable {F : Fr} {S S' H H' : Hp} {l : List Cell}
theorem Zl0 {K : PySem.W.Frag} {o : Option HO} {d : D} (r : RCn K S H o d) (h : d.isFlat) : RC K S o d := by
  cases d with
  | lst ds => exact Zjy r (.inl ⟨_, rfl⟩)
  | dk ds => exact Zjy r (.inr (.inl ⟨_, rfl⟩))
  | dt ds => exact Zjy r (.inr (.inr ⟨_, rfl⟩))
  | _ => exact h.elim
theorem C.mutA {b : Addr} {c : D} {v : Option V} (h : C F ((.na b c, v) :: l) H) (hc : c.isFlat) (hl : ∀ p ∈ l, p.1.env) : v = some (.ref b) ∧ ∃ S, GS F S H ∧ RC F.K S (H b) c ∧ (∀ p ∈ l, SC F S H p) ∧ ∀ (o' : HO) (c' : D), RC F.K S (some o') c' → C F ((.na b c', v) :: l) (upd H b o') := by
  obtain ⟨e, S, g, r, nd, q, cc, mk⟩ := h.chg hl
  have rc := Zl0 r hc
  rw [rc.inn] at nd q mk
  refine ⟨e, S, g, rc, cc, fun o' c' r' => ?_⟩
  have ei : D.inn (upd H b o') c' (upd H b o' b) = [] := by rw [upd_same]; exact r'.inn
  obtain ⟨q1, q2, q3⟩ := q b List.mem_cons_self
  refine mk S (upd H b o') c' (Same.refl S) (fun x u ex => by rw [upd_ne (ne_of_none ex q2)]; exact g.sh x u ex) (fun x hx hn => upd_ne fun z => hn (by rw [z]; exact List.mem_cons_self)) (fun x hx => .inl hx) (.flat (by rw [upd_same]; exact r')) (by rw [ei]; simp) fun x hx => ?_
  rw [ei] at hx
  have ex : x = b := by simpa using hx
  rw [ex]
  exact ⟨.inl List.mem_cons_self, q2⟩
end
end DL
set_option Elab.async false
set_option linter.all false
set_option maxRecDepth 100000
set_option maxHeartbeats 4000000
namespace DL
open PySem PySem.Spec PyProof.Rows L2
section
variable {F : Fr} {H : Hp} {l P : List Cell} {env : En} {σ : L2.St} {i j n : Nat}
theorem Z7t (ho : ∀ y ∈ env, y.env) {x : Slot} (hx : x.env) : ∀ y ∈ env.set j x, y.env := fun y hy => by
  rcases List.mem_or_eq_of_mem_set hy with hy | rfl
  · exact ho y hy
  · exact hx
theorem takeOut {a : Addr} {d : D} (hl : env.length = σ.length) (hj : env[j]? = some (.na a d)) (c : C F (P ++ (l ++ env.zip σ)) H) : σ[j]? = some (some (.ref a)) ∧ C F (P ++ (((Slot.na a d, some (V.ref a)) :: l) ++ (env.set j .un).zip σ)) H := by
  obtain ⟨w, h1, h2⟩ := Zb6 hl hj
  have ew : w = some (.ref a) := by
    obtain ⟨S, g, cc, _⟩ := c
    exact (cc (.na a d, w) (List.mem_append_right _ (List.mem_append_right _ (Zbz h2)))).1
  subst ew
  refine ⟨h1, ?_⟩
  have e1 : (env.set j .un).zip σ = (env.zip σ).set j (.un, some (.ref a)) := by
    have := Zg5 (xs := env) (ys := σ) j Slot.un (some (V.ref a))
    rw [Zrk h1] at this
    exact this
  have c2 : C F ((Slot.un, some (V.ref a)) :: (P ++ (l ++ env.zip σ))) H := c.un _
  refine c2.perm ?_
  rw [e1]
  have p1 := Zgy (y := (Slot.un, some (V.ref a))) h2
  have p2 := Zdc h2
  refine (List.Perm.cons _ (List.Perm.append_left _ (List.Perm.append_left _ p2))).trans ?_
  refine List.Perm.trans ?_ (List.Perm.append_left _ (List.Perm.append_left _ p1)).symm
  exact Z1e _ _ _ _ _
theorem CE.takeOut {a : Addr} {d : D} (k : CE F l env σ H) (hj : env[j]? = some (.na a d)) : σ[j]? = some (some (.ref a)) ∧ CE F ((Slot.na a d, some (V.ref a)) :: l) (env.set j .un) σ H := by
  obtain ⟨h1, c⟩ := DL.takeOut (P := []) k.len hj k.c
  exact ⟨h1, by rw [List.length_set]; exact k.len, Z7t k.ok trivial, c⟩
theorem CE.putIn {a : Addr} {d : D} (h : σ[j]? = some (some (.ref a))) (k : CE F ((Slot.na a d, some (V.ref a)) :: l) (env.set j .un) σ H) : CE F l (env.set j (.na a d)) σ H := by
  have := Z2f (js := [j]) (ms := [(a, d)]) (l := l) (e := env.set j .un) ⟨h, trivial⟩ k.len k.ok k.c
  simpa only [Z1j, List.set_set] using this
end
inductive BK where
  | nm (i : Nat) | fl (i : Nat) (C f : Str)
def bGet (B : BK) (env : En) (k : D → (Addr → En) → (D → En) → Prop) : Prop := match B with
  | .nm i => (match env[i]? with
    | some (.na a c) => c.isFlat ∧ k c (fun _ => env.set i .un) fun c' => env.set i (.na a c')
    | _ => False)
  | .fl i C f => (match env[i]? with
    | some (.na a (.obj C' ns ds)) => C' = C ∧ (match Zzf ns f with
      | some n => (match ds[n]? with
        | some (.own c) => c.isFlat ∧ k c (fun b => env.set i (.na a (.obj C' ns (ds.set n (.rf b))))) fun c' => env.set i (.na a (.obj C' ns (ds.set n (.own c'))))
        | _ => False)
      | none => False)
    | _ => False)
theorem Zzs {B : BK} {env : En} {k k' : D → (Addr → En) → (D → En) → Prop} (m : ∀ c o b, k c o b → k' c o b) (h : bGet B env k) : bGet B env k' := by
  cases B with
  | nm i =>
    dsimp only [bGet] at h ⊢
    split at h
    · exact ⟨h.1, m _ _ _ h.2⟩
    · exact h.elim
  | fl i C f =>
    dsimp only [bGet] at h ⊢
    split at h
    · refine ⟨h.1, ?_⟩
      have h := h.2
      split at h
      · split at h
        · exact ⟨h.1, m _ _ _ h.2⟩
        · exact h.elim
      · exact h.elim
    · exact h.elim
structure BaseOk (F : Fr) (tB : TE) (B : BK) : Prop where
  run : ∀ {l : List Cell} {env : En} {σ : L2.St} {H : Hp} {k : D → (Addr → En) → (D → En) → Prop}, CE F l env σ H → (∀ p ∈ l, p.1.env) → bGet B env k → ∃ c out back b, k c out back ∧ c.isFlat ∧ (∀ (l' : List Cell) (H1 : Hp) (Q : VK), CE F l' (out b) σ H1 → Q (.ref b) H1 → tB σ H1 Q) ∧
    CE F ((.na b c, some (.ref b)) :: l) (out b) σ H ∧ ∀ l' c' H', (∀ p ∈ l', p.1.env) → CE F ((.na b c', some (.ref b)) :: l') (out b) σ H' → CE F l' (back c') σ H'
theorem Z4c {F : Fr} (i : Nat) : BaseOk F (tVar i) (.nm i) := ⟨fun {l env σ H k} ce hl h => by
  dsimp only [bGet] at h
  split at h
  · rename_i a c hx
    obtain ⟨hσ, k1⟩ := ce.takeOut hx
    exact ⟨c, _, _, a, h.2, h.1, fun _ _ Q _ q => ⟨_, hσ, q⟩, k1, fun l' c' H' _ k2 => k2.putIn hσ⟩
  · exact h.elim⟩
def Z38 (B : BK) : WM := fun env Q => bGet B env fun c out back => ∃ es d, c = .lst es ∧ es.getLast? = some d ∧ Q (.ok (.sh d) (back (.lst es.dropLast)))
section
variable {B : BK} {we wk : WE}
theorem Z3y : Zhs (Z38 B) := fun env Q Q' m q => Zzs (fun c o b z => by
  obtain ⟨es, d, e, h, z⟩ := z
  exact ⟨es, d, e, h, m _ z⟩) q
end
section
variable {X : Cx} {F : Fr} {W : WX} {e e2 o : Expr} {we wk : WE} {B : BK} {tB : TE} {x : Str} {pos p2 apos cpos tpos : Pos}
theorem Z4b (hB : BaseOk F tB B) (hpe : PE X (.Call (.Attribute o "pop" apos) [] [] cpos) (tBM0 X.K "list" rPop tB)) (hK : X.K = F.K := by rfl) : DM X F W (.Call (.Attribute o "pop" apos) [] [] cpos) (Z38 B) := by
  refine ⟨Zb5 hpe fun σ H Q ⟨l, env, k, hl, q⟩ => ?_, Z3y⟩
  obtain ⟨c, out, back, b, ⟨es, d, rfl, hd, q⟩, hc, hb, k1, close⟩ := hB.run k hl q
  have rest1 : ∀ p ∈ l ++ (out b).zip σ, p.1.env := fun p hp => by
    rcases List.mem_append.mp hp with hp | hp
    · exact hl p hp
    · exact k1.ok _ (Zmr hp)
  obtain ⟨_, S, g, ⟨ws, ew, rr⟩, cc, _⟩ := C.mutA (show C F ((.na b (.lst es), some (V.ref b)) :: (l ++ (out b).zip σ)) H from k1.c) hc rest1
  have hd' : es[es.length - 1]? = some d := by rw [← List.getLast?_eq_getElem?]; exact hd
  obtain ⟨u, hu, ru⟩ := rr.get hd'
  have c1 : C F ((.sh d, some u) :: (.na b (.lst es), some (V.ref b)) :: (l ++ (out b).zip σ)) H := C.put k1.c (fun z => z) fun S2 g2 cc2 => by
    obtain ⟨_, r, _⟩ := cc2 (.na b (.lst es), some (V.ref b)) (by simp)
    obtain ⟨ws2, ew2, rr2⟩ := Zl0 r trivial
    rw [ew] at ew2
    cases ew2
    obtain ⟨u2, hu2, ru2⟩ := rr2.get hd'
    rw [hu] at hu2
    cases hu2
    exact ⟨u, rfl, ru2⟩
  have hl1 : ∀ p ∈ (Slot.sh d, some u) :: l, p.1.env := fun p hp => by
    rcases List.mem_cons.mp hp with rfl | hp
    · trivial
    · exact hl p hp
  obtain ⟨_, S3, g3, ⟨ws3, ew3, rr3⟩, cc3, up⟩ := (C.swap c1).mutA hc fun p hp => by
    rcases List.mem_cons.mp hp with rfl | hp
    · trivial
    · exact rest1 p hp
  rw [ew] at ew3
  cases ew3
  have c2 := up (.lst ws.dropLast) (.lst es.dropLast) ⟨_, rfl, rr3.dropLast⟩
  have k2 := close ((.sh d, some u) :: l) (.lst es.dropLast) _ hl1 ⟨k1.len, k1.ok, c2⟩
  exact hb _ H _ k1 ⟨.inl ⟨rfl, ws, by rw [hK]; exact SqL.of ew⟩, b, ws, u, rfl, rfl, ew, by rw [rr.len]; exact hu, q u _ k2.len k2.ok k2.c⟩
end
end DL
set_option Elab.async false
set_option linter.all false
set_option maxRecDepth 100000
set_option maxHeartbeats 4000000
namespace DL
open PySem PySem.Spec PyProof.Rows L2
section
variable {X : Cx} {F : Fr} {W : WX} {a b c e o tg : Expr} {es : List Expr} {s1 s2 : List Stmt} {w1 w2 : WS} {we wo : WE} {wA : WA} {wm : WM} {g : WG} {x : Str} {pos p p2 apos : Pos}
theorem C.gr {a : Addr} {o : HO} {l : List Cell} {H : Hp} (h : C F l H) (ha : H a = none) : C F l (upd H a o) := by
  obtain ⟨S, g, c, b⟩ := h
  exact ⟨S, ⟨g.s0, g.sh.trans (Za9 ha), g.h0.trans (Za9 ha), g.fr⟩, fun q hq => (c q hq).grow (Same.refl S) (Za9 ha) fun b hb => .inl hb, Zi0 b c (Za9 ha)⟩
def Zso (wm : WM) : WS := fun env Q => wm env fun r => match r with
  | .ok _ e1 => Q (.nx e1)
  | .ex c fs e1 => Q (.ex c fs e1)
def wIfM (wm : WM) (w1 w2 : WS) : WS := fun env Q => wm env fun r => match r with
  | .ok x e1 => asB (fun b => match b with | true => w1 e1 Q | false => w2 e1 Q) x
  | .ex c fs e1 => Q (.ex c fs e1)
theorem Zvj (h : Zhs wm) : Zbl (Zso wm) := fun env Q Q' m q => h _ _ _ (fun r z => by cases r <;> exact m _ z) q
theorem Z62 (h : Zhs wm) (h1 : Zbl w1) (h2 : Zbl w2) : Zbl (wIfM wm w1 w2) := fun env Q Q' m q => h _ _ _ (fun r z => by
  cases r with
  | ok x e1 => exact Ze3 (fun b z => by
      cases b with
      | true => exact h1 _ _ _ m z
      | false => exact h2 _ _ _ m z) z
  | ex c fs e1 => exact m _ z) q
theorem Z7y {l : List Cell} {env : En} {σ : L2.St} {H : Hp} {Dn : Ends} {k : Slot → En → Prop} {Q : VK} (he : DM X F W e wm) (ce : CE F l env σ H) (hl : ∀ p ∈ l, p.1.env) (h : wm env fun r => match r with
      | .ok x e1 => k x e1
      | .ex c fs e1 => LSp F W l Dn (.ex c fs e1))
    (h1 : ∀ x e1, k x e1 → e1.length = σ.length → (∀ y ∈ e1, y.env) → ∀ v H', C F ((x, some v) :: (l ++ e1.zip σ)) H' → Q v H') : LM F W wm σ H Q :=
  ⟨l, env, ce, hl, he.mono _ _ _ (fun r z => match r, z with
    | .ok x e1, z => fun v H' a b c => h1 x e1 z a b v H' c
    | .ex c fs e1, z => fun A d H' hA hx k => z A d σ H' hA hx k) h⟩
theorem Zw5 (he : DM X F W e wm) (hs : swapsWith e none pos.line X.env = pure false := by rfl) : DS X F W (.Expr e pos) (Zso wm) :=
  ⟨Zfg (ps_expr he.run hs) fun D σ H ⟨l, env, k, hl, q⟩ => Z7y he k hl q fun x e1 hx a b v H1 c1 => hx σ H1 ⟨a, b, c1.tail⟩, Zvj he.mono⟩
theorem Z6n (hc : DMT X F W e wm) (h1 : DSs X F W s1 w1) (h2 : DSs X F W s2 w2) : DS X F W (.If e s1 s2 pos) (wIfM wm w1 w2) :=
  ⟨Zfg (ps_if hc.run h1.run h2.run) fun D σ H ⟨l, env, k, hl, q⟩ => ⟨l, env, k, hl, hc.mono _ _ _ (fun r z => match r, z with
    | .ok x e1, z => by
      obtain ⟨b, rfl, z⟩ := Zq5 z
      refine ⟨b, rfl, fun H' c => ?_⟩
      cases b with
      | true => exact ⟨l, e1, c, hl, z⟩
      | false => exact ⟨l, e1, c, hl, z⟩
    | .ex c fs e1, z => fun A d H' hA hx k => z A d σ H' hA hx k) q⟩, Z62 hc.mono h1.mono h2.mono⟩
end
end DL
set_option Elab.async false
set_option linter.all false
set_option maxRecDepth 100000
set_option maxHeartbeats 4000000
namespace DL
open PySem PySem.Spec PyProof.Rows L2
section
variable {P : Program} {w : World} {K : PySem.W.Frag} {mg : Str → Option Value} {base : Heap}
end
end DL
set_option Elab.async false
set_option linter.all false
set_option maxRecDepth 100000
set_option maxHeartbeats 4000000
namespace DL
open PySem PySem.Spec PyProof.Rows L2
structure LkE (S S' : Hp) (d : Addr) (kvs : List (L2.Key × V)) : Prop where
  other : ∀ a, a ≠ d → S' a = S a
  l : S d = some (.dK kvs) ∨ ∃ o, S d = some (.frz o (.dK kvs))
  r : S' d = some (.dK kvs) ∨ ∃ o, S' d = some (.frz o (.dK kvs))
section
variable {K : PySem.W.Frag} {S S' : Hp} {d : Addr} {kvs : List (L2.Key × V)}
theorem LkE.symm (h : LkE S S' d kvs) : LkE S' S d kvs := ⟨fun a n => (h.other a n).symm, h.r, h.l⟩
theorem LkE.eq {a : Addr} {u : HO} (h : LkE S S' d kvs) (e : S a = some u) (n1 : ∀ k, u ≠ .dK k) (n2 : ∀ o k, u ≠ .frz o (.dK k)) : S' a = some u := by
  by_cases ha : a = d
  · subst ha
    rcases h.l with z | ⟨o, z⟩
    · rw [z] at e; cases e; exact (n1 _ rfl).elim
    · rw [z] at e; cases e; exact (n2 _ _ rfl).elim
  · rw [h.other a ha]; exact e
theorem LkE.rd {a : Addr} {u : HO} (h : LkE S S' d kvs) (n1 : ∀ k, u ≠ .dK k) (n2 : ∀ o k, u ≠ .frz o (.dK k)) (e : Rd S a u) : Rd S' a u := by
  rcases e with e | ⟨o, e⟩
  · exact .inl (h.eq e n1 n2)
  · exact .inr ⟨o, h.eq e (fun k z => by cases z) (fun o k z => by cases z; exact n1 _ rfl)⟩
theorem LkE.rdK {a : Addr} {k2 : List (L2.Key × V)} (h : LkE S S' d kvs) (e : Rd S a (.dK k2)) : Rd S' a (.dK k2) := by
  by_cases ha : a = d
  · subst ha
    have : k2 = kvs := Z70 e h.l
    rw [this]
    exact h.r
  · rcases e with e | ⟨o, e⟩
    · exact .inl (by rw [h.other a ha]; exact e)
    · exact .inr ⟨o, by rw [h.other a ha]; exact e⟩
theorem LkE.sqL {a : Addr} {vs : List V} (h : LkE S S' d kvs) (e : SqL K S a vs) : SqL K S' a vs := by
  rcases e with e | e
  · exact .inl (h.rd (fun k z => by cases z) (fun o k z => by cases z) e)
  · exact .inr e
mutual
theorem Rep.lk (h : LkE S S' d kvs) : ∀ {v : V} {t : D}, Rep K S v t → Rep K S' v t
  | _, _, .non => .non
  | _, _, .bl => .bl
  | _, _, .int => .int
  | _, _, .str => .str
  | _, _, .tup e r => .tup (h.eq e (fun k z => by cases z) (fun o k z => by cases z)) (Reps.lk h r)
  | _, _, .lst e r => .lst (h.sqL e) (Reps.lk h r)
  | _, _, .dk e k r => .dk (h.rdK e) k (Reps.lk h r)
  | _, _, .dt e k r => .dt (h.eq e (fun k z => by cases z) (fun o k z => by cases z)) k (Reps.lk h r)
  | _, _, .obj e n k r => .obj (h.eq e (fun k z => by cases z) (fun o k z => by cases z)) n k (Reps.lk h r)
  | _, _, .rf => .rf
  | _, _, .fn e => .fn e
theorem Reps.lk (h : LkE S S' d kvs) : ∀ {vs : List V} {ts : List D}, Reps K S vs ts → Reps K S' vs ts
  | _, _, .nil => .nil
  | _, _, .cons r q => .cons (Rep.lk h r) (Reps.lk h q)
end
theorem RC.lk {o : Option HO} {t : D} (h : LkE S S' d kvs) (r : RC K S o t) : RC K S' o t := by
  cases t with
  | lst ds => obtain ⟨vs, e, r⟩ := r; exact ⟨vs, e, r.lk h⟩
  | dk ds => obtain ⟨vs, e, k, r⟩ := r; exact ⟨vs, e, k, r.lk h⟩
  | dt ds => obtain ⟨vs, e, k, r⟩ := r; exact ⟨vs, e, k, r.lk h⟩
  | _ => exact r.elim
mutual
theorem RCn.lk {H H' : Hp} (h : LkE S S' d kvs) (hH : ∀ a, a ≠ d → H' a = H a) : ∀ {o : Option HO} {t : D}, RCn K S H o t → (∀ b ∈ D.inn H t o, b ≠ d) → RCn K S' H' o t
  | _, _, .flat r, _ => .flat (r.lk h)
  | _, _, .tup x r, n => .tup x (Itns.lk h hH r (by simpa only [D.inn] using n))
  | _, _, .obj a k r, n => .obj a k (Itns.lk h hH r (by simpa only [D.inn] using n))
  | _, _, .lso r, n => .lso (Itns.lk h hH r (by simpa only [D.inn] using n))
theorem Itn.lk {H H' : Hp} (h : LkE S S' d kvs) (hH : ∀ a, a ≠ d → H' a = H a) : ∀ {v : V} {t : D}, Itn K S H v t → (∀ b ∈ D.foot H t v, b ≠ d) → Itn K S' H' v t
  | _, _, .sh r, _ => .sh (r.lk h)
  | .ref b, .own t, .ow r, n => by
    have nb : b ≠ d := n b (by simp [D.foot])
    refine .ow ?_
    rw [hH b nb]
    exact RCn.lk h hH r fun c hc => n c (by simp [D.foot, hc])
theorem Itns.lk {H H' : Hp} (h : LkE S S' d kvs) (hH : ∀ a, a ≠ d → H' a = H a) : ∀ {vs : List V} {ts : List D}, Itns K S H vs ts → (∀ b ∈ D.foots H ts vs, b ≠ d) → Itns K S' H' vs ts
  | _, _, .nil, _ => .nil
  | _, _, .cons r q, n => .cons (Itn.lk h hH r fun b hb => n b (by simp only [D.foots]; exact List.mem_append_left _ hb)) (Itns.lk h hH q fun b hb => n b (by simp only [D.foots]; exact List.mem_append_right _ hb))
end
end
def D.noOwn : D → Bool
  | .own _ => false
  | _ => true
def Z48 : Slot → Prop
  | .bo (.lst _) => True
  | .bo _ => False
  | .nb (.obj _ _ ds) => ds.all D.noOwn = true
  | .nb _ => False
  | .bt _ => False
  | .rt _ _ => False
  | .xe _ _ _ => False
  | _ => True
section
variable {F F' : Fr} {S S' H H' : Hp} {d : Addr} {kvs : List (L2.Key × V)} {l : List Cell}
theorem Zpd {K : PySem.W.Frag} : ∀ {vs : List V} {ds : List D}, Itns K S H vs ds → ds.all D.noOwn = true → D.foots H ds vs = []
  | _, _, .nil, _ => by simp [D.foots]
  | v :: vs, t :: ds, .cons i is, h => by
    simp only [List.all_cons, Bool.and_eq_true] at h
    simp only [D.foots, Zpd is h.2, List.append_nil]
    cases i with
    | sh r => exact rep_foot r
    | ow r => cases h.1
theorem SC.lk {p : Cell} (s : SC F S H p) (h : LkE S S' d kvs) (h2 : LkE H H' d kvs) (ok : Z48 p.1) (hK : F'.K = F.K) (h0 : ∀ a, F'.H0 a = none ↔ F.H0 a = none) : SC F' S' H' p ∧ fpC H' p = fpC H p := by
  have nS : ∀ b, S b = none → b ≠ d := fun b e z => by
    subst z
    rcases h.l with z | ⟨o, z⟩ <;> (rw [z] at e; cases e)
  have nS' : ∀ b, S b = none → S' b = none := fun b e => by rw [h.other b (nS b e)]; exact e
  have fpd : ∀ b ∈ fpC H p, b ≠ d := fun b hb => nS b (Zdf s b hb).2.2
  have ef : fpC H' p = fpC H p := Zed fun a ha => h2.other a (fpd a ha)
  refine ⟨?_, ef⟩
  obtain ⟨x, v⟩ := p
  cases x with
  | un => trivial
  | sh t => obtain ⟨u, e, r⟩ := s; exact ⟨u, e, by rw [hK]; exact r.lk h⟩
  | ow t =>
    obtain ⟨a, rfl, q0, qS, r⟩ := s
    exact ⟨a, rfl, (h0 a).mpr q0, nS' a qS, by rw [hK, h2.other a (nS a qS)]; exact r.lk h⟩
  | bo t =>
    cases t with
    | lst ds =>
      obtain ⟨a, rfl, q0, r⟩ := s
      have na : a ≠ d := fun z => by
        subst z
        obtain ⟨vs, e, _⟩ := r
        rcases h2.l with z | ⟨o, z⟩ <;> (rw [z] at e; cases e)
      exact ⟨a, rfl, fun z => q0 ((h0 a).mp z), by rw [hK, h2.other a na]; exact r.lk h⟩
    | _ => exact ok.elim
  | bt t => exact ok.elim
  | lk a t =>
    obtain ⟨rfl, q0, qS, r⟩ := s
    exact ⟨rfl, (h0 a).mpr q0, nS' a qS, by rw [hK, h2.other a (nS a qS)]; exact r.lk h⟩
  | lo a u t =>
    obtain ⟨rfl, q0, qS, eu, od, k2, e3, k, r⟩ := s
    exact ⟨rfl, (h0 a).mpr q0, nS' a qS, by rw [h2.other a (nS a qS)]; exact eu, od, k2, e3, k, by rw [hK]; exact r.lk h⟩
  | nd t =>
    obtain ⟨a, rfl, r, n, q⟩ := s
    have na : a ≠ d := nS a (q a List.mem_cons_self).2
    have e2 : a :: D.inn H' t (H' a) = a :: D.inn H t (H a) := ef
    exact ⟨a, rfl, by rw [hK, h2.other a na]; exact r.lk h h2.other fun b hb => nS b (q b (List.mem_cons_of_mem _ hb)).2, by rw [e2]; exact n, fun b hb => by rw [e2] at hb; exact ⟨(h0 b).mpr (q b hb).1, nS' b (q b hb).2⟩⟩
  | na a t =>
    obtain ⟨rfl, r, n, q⟩ := s
    have na : a ≠ d := nS a (q a List.mem_cons_self).2
    have e2 : a :: D.inn H' t (H' a) = a :: D.inn H t (H a) := ef
    exact ⟨rfl, by rw [hK, h2.other a na]; exact r.lk h h2.other fun b hb => nS b (q b (List.mem_cons_of_mem _ hb)).2, by rw [e2]; exact n, fun b hb => by rw [e2] at hb; exact ⟨(h0 b).mpr (q b hb).1, nS' b (q b hb).2⟩⟩
  | nb t =>
    cases t with
    | obj C ns ds =>
      obtain ⟨a, rfl, r, q⟩ := s
      obtain ⟨Ca, dx, kv2, eo, nc, k, i⟩ := Z4y r
      have na : a ≠ d := fun z => by
        subst z
        rcases h2.l with z | ⟨o, z⟩ <;> (rw [z] at eo; cases eo)
      have e1 : D.inn H (.obj C ns ds) (H a) = [] := by rw [eo]; simp only [D.inn]; exact Zpd i ok
      have eH : H' a = H a := h2.other a na
      have e2 : D.inn H' (.obj C ns ds) (H' a) = [] := by
        rw [eH, inn_congr _ _ fun b hb => ?_]
        · exact e1
        · rw [e1] at hb; simp at hb
      refine ⟨a, rfl, by rw [hK, eH]; exact r.lk h h2.other fun b hb => by rw [e1] at hb; simp at hb, fun b hb => ?_⟩
      rw [e2] at hb
      have eb : b = a := by simpa using hb
      rw [eb]
      exact fun z => q a List.mem_cons_self ((h0 a).mp z)
    | _ => exact ok.elim
  | ln fp t =>
    obtain ⟨a, rfl, r, efp, n, q⟩ := s
    have q' : ∀ b ∈ a :: D.inn H t (H a), F.H0 b = none ∧ S b = none := by rw [← efp]; exact q
    have na : a ≠ d := nS a (q' a List.mem_cons_self).2
    have e2 : D.inn H' t (H' a) = D.inn H t (H a) := by rw [h2.other a na]; exact inn_congr _ _ fun b hb => h2.other b (nS b (q' b (List.mem_cons_of_mem _ hb)).2)
    exact ⟨a, rfl, by rw [hK, h2.other a na]; exact r.lk h h2.other fun b hb => nS b (q' b (List.mem_cons_of_mem _ hb)).2, by rw [e2]; exact efp, n, fun b hb => ⟨(h0 b).mpr (q b hb).1, nS' b (q b hb).2⟩⟩
  | xc a => exact s
  | xe _ _ _ => exact ok.elim
  | rt _ _ => exact ok.elim
def lkAt (H : Hp) (d : Addr) (u : HO) : Hp := open Classical in fun a => if a = d ∧ H a ≠ none then some u else H a
abbrev Fr.lock (F : Fr) (S : Hp) (d : Addr) (u : HO) : Fr := ⟨F.K, F.mg, lkAt F.H0 d u, lkAt S d u⟩
end
end DL
set_option Elab.async false
set_option linter.all false
set_option maxRecDepth 100000
set_option maxHeartbeats 4000000
namespace DL
open PySem PySem.Spec PyProof.Rows L2
def LS0 (F : Fr) (W : WX) (w : WS) : TS := fun D σ H => ∃ env, CE F [] env σ H ∧ w env (LSp F W [] D)
structure DS0 (X : Cx) (F : Fr) (W : WX) (st : Stmt) (w : WS) : Prop where
  run : PS X st (LS0 F W w)
  mono : Zbl w
structure DSs0 (X : Cx) (F : Fr) (W : WX) (sts : List Stmt) (w : WS) : Prop where
  run : PSs X sts (LS0 F W w)
  mono : Zbl w
section
variable {X : Cx} {F : Fr} {W : WX} {st : Stmt} {sts : List Stmt} {w w1 w2 : WS} {e tg : Expr} {pos : Pos} {g : WG}
end
inductive PathK where
  | fl (i : Nat) (C f : Str) | it (i n : Nat)
def Z72 (P : PathK) (env : En) (k : List (L2.Key × D) → Prop) : Prop := match P with
  | .fl i C f => (match env[i]? with
    | some x => (match Z7p x with
      | some (C', ns, ds) => C' = C ∧ (match Zzf ns f with
        | some n => (match ds[n]? with
          | some (.dk kds) => k kds
          | _ => False)
        | none => False)
      | none => False)
    | none => False)
  | .it i n => (match env[i]? with
    | some (.sh (.tup ds)) => (match ds[n]? with
      | some (.dk kds) => k kds
      | _ => False)
    | _ => False)
structure PathOk (F : Fr) (td : TE) (P : PathK) : Prop where
  run : ∀ {env : En} {σ : L2.St} {H : Hp} {k : List (L2.Key × D) → Prop}, CE F [] env σ H → Z72 P env k → ∃ kds d kvs, k kds ∧ Rd H d (.dK kvs) ∧ kvs.map Prod.fst = kds.map Prod.fst ∧
    (∀ S, GS F S H → (∀ p ∈ env.zip σ, SC F S H p) → Rd S d (.dK kvs) ∧ Reps F.K S (kvs.map Prod.snd) (kds.map Prod.snd)) ∧ ∀ H' (Q : VK), LkE H H' d kvs → Q (.ref d) H' → td σ H' Q
section
variable {F : Fr} {d : Addr} {od : Obj} {kvs : List (L2.Key × V)} {kds : List (L2.Key × D)}
end
section
variable {X : Cx} {F : Fr} {W : WX} {e tg iter : Expr} {body : List Stmt} {w : WS} {g : WG} {pos : Pos}
end
section
variable {P : Program} {w : World} {K : PySem.W.Frag} {mg : Str → Option Value} {base : Heap}
end
end DL
set_option Elab.async false
set_option linter.all false
set_option maxRecDepth 100000
set_option maxHeartbeats 4000000
namespace DL
open PySem PySem.Spec PyProof.Rows L2
structure GDictF (K : PySem.W.Frag) (w : World) (mg : Str → Option Value) (x : Str) (tab : List (Str × Str)) : Prop where
  ex : ∃ a, mg x = some (.ref a) ∧ ∀ p ∈ tab, ∃ f, KDct K w a p.1 (.ref f) ∧ PySem.W.nsIn K mainGlobals p.2 = some (some (.ref f))
section
variable {X : Cx} {F : Fr} {W : WX} {e : Expr} {es : List Expr} {wA : WA} {x : Str} {pos p : Pos}
end
end DL
set_option Elab.async false
set_option linter.all false
set_option maxRecDepth 100000
set_option maxHeartbeats 4000000
namespace DL
open PySem PySem.Spec PyProof.Rows L2
abbrev Zwo := Value × Option Nat × (Addr → Value → Option Addr → TS)
inductive MixOk (X : Cx) : List ExceptHandler → List Zwo → Prop
  | nil : MixOk X [] []
  | plain {x : Str} {c : Value} {ts : Addr → Value → Option Addr → TS} {st : Stmt} {sts : List Stmt} {np ps : Pos} {hds : List ExceptHandler} {l : List Zwo} (hc : Names X x c)
      (hsu : ∀ (a : Addr) (oe : Obj) (cls : Value) (d : Option Addr) (pn : List (Addr × Obj)), Zc cls d oe → (∃ vs, oe.data = .fields vs) → PSs (X.suite a ((a, oe) :: pn)) (st :: sts) (ts a cls d)) (r : MixOk X hds l) :
      MixOk X (.ExceptHandler (some (.Name x np)) none (st :: sts) ps :: hds) ((c, none, ts) :: l)
  | named {x n : Str} {i : Nat} {c : Value} {ts : Addr → Value → Option Addr → TS} {st : Stmt} {sts : List Stmt} {np ps : Pos} {hds : List ExceptHandler} {l : List Zwo} (hc : Names X x c) (hi : X.N[i]? = some n) (hln : X.env.kindOf n = some .local)
      (hsu : ∀ (a : Addr) (oe : Obj) (cls : Value) (d : Option Addr) (pn : List (Addr × Obj)), Zc cls d oe → (∃ vs, oe.data = .fields vs) → PSs (X.suite a ((a, oe) :: pn)) (st :: sts) (ts a cls d)) (r : MixOk X hds l) :
      MixOk X (.ExceptHandler (some (.Name x np)) (some n) (st :: sts) ps :: hds) ((c, some i, ts) :: l)
section
variable {X : Cx} {body : List Stmt} {hd0 : ExceptHandler} {hds : List ExceptHandler} {l : List Zwo} {pos : Pos} {tb : WX → TS} {Wout : WX}
end
end DL
set_option Elab.async false
set_option linter.all false
set_option maxRecDepth 100000
set_option maxHeartbeats 4000000
namespace DL
open PySem PySem.Spec PyProof.Rows L2
section
variable {F : Fr} {H : Hp} {l : List Cell}
theorem Z76 {S : Hp} {p : Cell} {dd : Addr} {fs : List (Str × V)} (s : SC F S H p) (h : H dd = some (.xd fs)) : dd ∉ fpC H p := fun hb => by
  have rc : ∀ {K : PySem.W.Frag} {d : D}, ¬ RC K S (H dd) d := fun {K d} r => by
    rw [h] at r
    cases d with
    | lst ds => obtain ⟨_, e, _⟩ := r; cases e
    | dk ds => obtain ⟨_, e, _⟩ := r; cases e
    | dt ds => obtain ⟨_, e, _⟩ := r; cases e
    | _ => exact r
  have rcn : ∀ {K : PySem.W.Frag} {d : D}, ¬ RCn K S H (H dd) d := fun {K d} r => by
    generalize e : H dd = o at r
    cases r with
    | flat r => exact rc (by rw [e]; exact r)
    | tup _ _ => rw [h] at e; cases e
    | obj _ _ _ => rw [h] at e; cases e
    | lso _ => rw [h] at e; cases e
  -- no place of an own thing holds an exception's fields
  have inn : (∀ {K : PySem.W.Frag} {o : Option HO} {d : D}, RCn K S H o d → dd ∉ D.inn H d o) := by
    intro K o d r
    refine @RCn.rec K S H (fun o d _ => dd ∉ D.inn H d o) (fun v d _ => dd ∉ D.foot H d v) (fun vs ds _ => dd ∉ D.foots H ds vs) ?_ ?_ ?_ ?_ ?_ ?_ ?_ ?_ o d r
    · intro o d r; rw [r.inn]; simp
    · intro vs ds _ _ ih; simpa only [D.inn] using ih
    · intro Ca dx C kvs ns ds _ _ _ ih; simpa only [D.inn] using ih
    · intro vs ds _ ih; simpa only [D.inn] using ih
    · intro v d r; rw [rep_foot r]; simp
    · intro b d r ih hm
      simp only [D.foot, List.mem_cons] at hm
      rcases hm with rfl | hm
      · exact rcn r
      · exact ih hm
    · simp [D.foots]
    · intro v d vs ds _ _ h1 h2 hm
      simp only [D.foots, List.mem_append] at hm
      exact hm.elim h1 h2
  obtain ⟨x, v⟩ := p
  cases x with
  | ow d =>
    obtain ⟨a, rfl, _, _, r⟩ := s
    obtain rfl : dd = a := by simpa [fpC] using hb
    exact rc r
  | lk a d =>
    obtain ⟨rfl, _, _, r⟩ := s
    obtain rfl : dd = a := by simpa [fpC] using hb
    exact rc r
  | lo a u d =>
    obtain ⟨rfl, _, _, eu, od, k, e3, _⟩ := s
    obtain rfl : dd = a := by simpa [fpC] using hb
    have e4 : u = .frz od (.dK k) := by simpa using e3
    rw [eu, e4] at h; cases h
  | nd d =>
    obtain ⟨a, rfl, r, _⟩ := s
    rcases List.mem_cons.mp (show dd ∈ a :: D.inn H d (H a) from hb) with rfl | hb
    · exact rcn r
    · exact inn r hb
  | na a d =>
    obtain ⟨rfl, r, _⟩ := s
    rcases List.mem_cons.mp (show dd ∈ a :: D.inn H d (H a) from hb) with rfl | hb
    · exact rcn r
    · exact inn r hb
  | ln fp d =>
    obtain ⟨a, rfl, r, ef, _⟩ := s
    have hb : dd ∈ fp := hb
    rw [ef] at hb
    rcases List.mem_cons.mp hb with rfl | hb
    · exact rcn r
    · exact inn r hb
  | _ => simp [fpC] at hb
theorem C.xe {a dd : Addr} {ns : List (Str × Int)} (h : C F l H) (hd : H dd = some (.xd (ns.map fun p => (p.1, V.int p.2)))) : C F ((.xe a dd ns, some (.ref a)) :: l) H := by
  obtain ⟨S, g, cc, pw⟩ := h
  by_cases h0 : F.H0 dd = none
  · cases hS : S dd with
    | some u =>
      have := g.sh _ _ hS
      rw [hd] at this
      cases this
      refine ⟨S, g, fun p hp => ?_, Zbx (fun z => z) pw⟩
      rcases List.mem_cons.mp hp with rfl | hp
      · exact ⟨rfl, .inl hS⟩
      · exact cc p hp
    | none =>
      refine ⟨upd S dd _, g.frz hS h0 hd, fun p hp => ?_, Zbx (fun z => z) pw⟩
      rcases List.mem_cons.mp hp with rfl | hp
      · exact ⟨rfl, .inl upd_same⟩
      · exact (cc p hp).frz hS (Z76 (cc p hp) hd)
  · refine ⟨S, g, fun p hp => ?_, Zbx (fun z => z) pw⟩
    rcases List.mem_cons.mp hp with rfl | hp
    · refine ⟨rfl, .inr ?_⟩
      cases e : F.H0 dd with
      | none => exact (h0 e).elim
      | some u =>
        have := g.h0 _ _ e
        rw [hd] at this
        exact this.symm
    · exact cc p hp
end
inductive HK where
  | pl (ws : WS) | nm (i : Nat) (ws : Addr → Str → WS) | nf (i : Nat) (ws : Addr → Addr → Str → List (Str × Int) → WS)
def HK.mono : HK → Prop
  | .pl ws => Zbl ws
  | .nm _ ws => ∀ a c, Zbl (ws a c)
  | .nf _ ws => ∀ a dd c ns, Zbl (ws a dd c ns)
inductive HksOk (X : Cx) (F : Fr) : List ExceptHandler → List (List (Str × Bool) × HK) → Prop
  | nil : HksOk X F [] []
  | pl {x : Str} {tab : List (Str × Bool)} {ws : WS} {st : Stmt} {sts : List Stmt} {np ps : Pos} {hds : List ExceptHandler} {r : List (List (Str × Bool) × HK)} (hx : ∃ C, F.mg x = some (.ref C)) (ht : ∀ p ∈ tab, Z3f F.K F.mg x p.1 p.2) (hg : Gl X x) (hd : (x == ("__debug__" : Str)) = false)
      (hsu : ∀ (a : Addr) (pn : List (Addr × Obj)), DSs (X.suite a pn) F W0 (st :: sts) ws) (ms : Zbl ws) (rest : HksOk X F hds r) : HksOk X F (.ExceptHandler (some (.Name x np)) none (st :: sts) ps :: hds) ((tab, .pl ws) :: r)
  | nm {x n : Str} {i : Nat} {tab : List (Str × Bool)} {ws : Addr → Str → WS} {st : Stmt} {sts : List Stmt} {np ps : Pos} {hds : List ExceptHandler} {r : List (List (Str × Bool) × HK)} (hx : ∃ C, F.mg x = some (.ref C)) (ht : ∀ p ∈ tab, Z3f F.K F.mg x p.1 p.2) (hg : Gl X x) (hd : (x == ("__debug__" : Str)) = false)
      (hi : X.N[i]? = some n) (hln : X.env.kindOf n = some .local)
      (hsu : ∀ (a A : Addr) (d : Option Addr) (oe : Obj) (c : Str) (pn : List (Addr × Obj)), F.mg c = some (.ref A) → (c, true) ∈ tab → Zc (.ref A) d oe → (∃ vs, oe.data = .fields vs) → DSs (X.suite a ((a, oe) :: pn)) F W0 (st :: sts) (ws a c)) (ms : ∀ a c, Zbl (ws a c)) (rest : HksOk X F hds r) :
      HksOk X F (.ExceptHandler (some (.Name x np)) (some n) (st :: sts) ps :: hds) ((tab, .nm i ws) :: r)
  | nf {x n : Str} {i : Nat} {tab : List (Str × Bool)} {ws : Addr → Addr → Str → List (Str × Int) → WS} {st : Stmt} {sts : List Stmt} {np ps : Pos} {hds : List ExceptHandler} {r : List (List (Str × Bool) × HK)} (hx : ∃ C, F.mg x = some (.ref C)) (ht : ∀ p ∈ tab, Z3f F.K F.mg x p.1 p.2) (hg : Gl X x) (hd : (x == ("__debug__" : Str)) = false)
      (hi : X.N[i]? = some n) (hln : X.env.kindOf n = some .local)
      (hsu : ∀ (a A dd : Addr) (oe : Obj) (c : Str) (ns : List (Str × Int)) (pn : List (Addr × Obj)), F.mg c = some (.ref A) → (c, true) ∈ tab → Zc (.ref A) (some dd) oe → (∃ vs, oe.data = .fields vs) → DSs (X.suite a ((a, oe) :: pn)) F W0 (st :: sts) (ws a dd c ns)) (ms : ∀ a dd c ns, Zbl (ws a dd c ns)) (rest : HksOk X F hds r) :
      HksOk X F (.ExceptHandler (some (.Name x np)) (some n) (st :: sts) ps :: hds) ((tab, .nf i ws) :: r)
section
variable {X : Cx} {F : Fr} {W : WX} {body : List Stmt} {hd0 : ExceptHandler} {hds : List ExceptHandler} {r : List (List (Str × Bool) × HK)} {pos : Pos} {wb : WS}
theorem HksOk.mono : ∀ {hds : List ExceptHandler} {r : List (List (Str × Bool) × HK)}, HksOk X F hds r → ∀ q ∈ r, q.2.mono
  | _, _, .nil, q, h => by simp at h
  | _, _, .pl _ _ _ _ _ ms rest, q, h => (List.mem_cons.mp h).elim (fun e => by rw [e]; exact ms) (rest.mono q)
  | _, _, .nm _ _ _ _ _ _ _ ms rest, q, h => (List.mem_cons.mp h).elim (fun e => by rw [e]; exact ms) (rest.mono q)
  | _, _, .nf _ _ _ _ _ _ _ ms rest, q, h => (List.mem_cons.mp h).elim (fun e => by rw [e]; exact ms) (rest.mono q)
end
end DL
set_option Elab.async false
set_option linter.all false
set_option maxRecDepth 100000
set_option maxHeartbeats 4000000
namespace DL
open PySem PySem.Spec PyProof.Rows L2
structure Init3 (K : PySem.W.Frag) (C : Addr) (f1 f2 f3 : Str) : Prop where
  oex : OexC K C
  n1 : PySem.W.findIn K (.ref C) f1 = some none
  n2 : PySem.W.findIn K (.ref C) f2 = some none
  n3 : PySem.W.findIn K (.ref C) f3 = some none
section
variable {X : Cx} {F : Fr} {W : WX} {e : Expr} {es : List Expr} {wA : WA} {x f1 f2 f3 : Str} {p pos pos2 : Pos}
end
end DL
set_option Elab.async false
set_option linter.all false
set_option maxRecDepth 100000
set_option maxHeartbeats 4000000
namespace DL
open PySem PySem.Spec PyProof.Rows L2
def it5 : Nat → Nat → Nat
  | 0, x => x
  | n + 1, x => it5 n (5 * x + 1)
theorem Zrp : ∀ (a b x : Nat), it5 (a + b) x = it5 b (it5 a x)
  | 0, b, x => by rw [Nat.zero_add]; rfl
  | a + 1, b, x => by
    rw [Nat.succ_add]
    exact Zrp a b (5 * x + 1)
theorem Z1w (n x : Nat) : it5 (n + 1) x = 5 * it5 n x + 1 := Zrp n 1 x
theorem Zz0 : ∀ k : Nat, ∃ c e, ∀ x, it5 (2 ^ k) x = x + 2 ^ k * (1 + (c + c)) + 4 * (2 ^ k * (e * x))
  | 0 => ⟨0, 1, fun x => by
    show 5 * x + 1 = _
    rw [Nat.pow_zero]
    omega⟩
  | k + 1 => by
    obtain ⟨c, e, h⟩ := Zz0 k
    refine ⟨c + (e * 2 ^ k + 2 * (e * 2 ^ k * c)), e + 2 * (2 ^ k * (e * e)), fun x => ?_⟩
    have e1 : (2 : Nat) ^ (k + 1) = 2 ^ k + 2 ^ k := by rw [Nat.pow_succ]; omega
    rw [e1, Zrp, h, h]
    generalize 2 ^ k = P
    have two : ∀ a : Nat, 2 * a = a + a := fun a => by omega
    have four : ∀ a : Nat, 4 * a = a + a + (a + a) := fun a => by omega
    simp only [two, four, Nat.mul_add, Nat.add_mul, Nat.mul_one, Nat.one_mul]
    simp only [Nat.mul_comm, Nat.mul_left_comm, Nat.mul_assoc]
    omega
theorem Zrc {P q r : Nat} (hr : r < P) : (P * q + r) % (P * 2) = P * (q % 2) + r := by
  have e : P * q + r = P * (q % 2) + r + P * 2 * (q / 2) := by
    have h := Nat.mod_add_div q 2
    have h2 : P * q = P * (q % 2 + 2 * (q / 2)) := by rw [h]
    rw [h2, Nat.mul_add, Nat.mul_assoc]
    omega
  rw [e, Nat.add_mul_mod_self_left]
  refine Nat.mod_eq_of_lt ?_
  have h2 : q % 2 < 2 := Nat.mod_lt _ (by decide)
  rcases Nat.lt_or_ge (q % 2) 1 with c | c
  · have z : q % 2 = 0 := by omega
    rw [z]; omega
  · have z : q % 2 = 1 := by omega
    rw [z]; omega
theorem Zyt : ∀ (k x j : Nat), ∃ n, n < 2 ^ k ∧ it5 n x % 2 ^ k = j % 2 ^ k
  | 0, x, j => ⟨0, by decide, by rw [Nat.pow_zero, Nat.mod_one, Nat.mod_one]⟩
  | k + 1, x, j => by
    obtain ⟨n, hn, e⟩ := Zyt k x j
    obtain ⟨c, d, hc⟩ := Zz0 k
    have hc' := hc (it5 n x)
    rw [← Zrp] at hc'
    rw [Nat.pow_succ]
    generalize hP : 2 ^ k = P at hn e hc' ⊢
    have P0 : 0 < P := by rw [← hP]; exact Nat.pow_pos (by decide)
    generalize hyy : it5 n x = y at e hc'
    have hy := Nat.div_add_mod y P
    have hj := Nat.div_add_mod j P
    have hr := Nat.mod_lt j P0
    rw [e] at hy
    have my : y % (P * 2) = P * (y / P % 2) + j % P := by
      have z := Zrc (q := y / P) hr
      rw [hy] at z
      exact z
    have mj : j % (P * 2) = P * (j / P % 2) + j % P := by
      have z := Zrc (q := j / P) hr
      rw [hj] at z
      exact z
    by_cases s : y / P % 2 = j / P % 2
    · exact ⟨n, by omega, by rw [hyy, my, mj, s]⟩
    · refine ⟨n + P, by omega, ?_⟩
      have q : it5 (n + P) x = P * (y / P + 1 + 2 * (c + 2 * (d * y))) + j % P := by
        rw [hc']
        have z : P * (y / P + 1 + 2 * (c + 2 * (d * y))) = P * (y / P) + P * (1 + (c + c)) + 4 * (P * (d * y)) := by
          have two : ∀ a : Nat, 2 * a = a + a := fun a => by omega
          have four : ∀ a : Nat, 4 * a = a + a + (a + a) := fun a => by omega
          simp only [two, four, Nat.mul_add, Nat.mul_one]
          omega
        rw [z]
        omega
      rw [q, Zrc hr, mj]
      have z : (y / P + 1 + 2 * (c + 2 * (d * y))) % 2 = j / P % 2 := by omega
      rw [z]
def Rnd (m : Nat) : Prop := ∃ k, m + 1 = 2 ^ (k + 1)
theorem Rnd.odd {m : Nat} (R : Rnd m) : m % 2 = 1 := by
  obtain ⟨k, e⟩ := R
  rw [Nat.pow_succ] at e
  omega
theorem Zwj (m i : Nat) (hi : i ≤ m) : ∀ n, lcgI m i n = it5 n i % (m + 1)
  | 0 => (Nat.mod_eq_of_lt (Nat.lt_succ_of_le hi)).symm
  | n + 1 => by
    show (lcgI m i n * 5 + 1) % (m + 1) = _
    rw [Zwj m i hi n, Z1w, Nat.mul_comm 5]
    rw [Nat.add_mod, Nat.mul_mod, Nat.mod_mod, ← Nat.mul_mod, ← Nat.add_mod]
theorem Rnd.all {m : Nat} (R : Rnd m) {i j : Nat} (hi : i ≤ m) (hj : j ≤ m) : ∃ k, k ≤ m ∧ lcgI m i k = j := by
  obtain ⟨k, e⟩ := R
  obtain ⟨n, hn, z⟩ := Zyt (k + 1) i j
  rw [← e] at hn z
  exact ⟨n, Nat.le_of_lt_succ hn, by rw [Zwj m i hi, z]; exact Nat.mod_eq_of_lt (Nat.lt_succ_of_le hj)⟩
theorem Rnd.meets {m : Nat} (R : Rnd m) (h : Int) {j : Nat} (hj : j ≤ m) : ∃ n, n ≤ m + 12 ∧ runI m (SetTable.bits h) n = j := by
  obtain ⟨k, hk, e⟩ := R.all (runI_le m (SetTable.bits h) 12) hj
  refine ⟨12 + k, by omega, ?_⟩
  rw [← e]
  exact runI_tail (bits_lt h) k
abbrev prb (m : Nat) (h : Int) (c : Nat) : SetTable.Probe := nth m (runAt m (SetTable.bits h % (m + 1)) (SetTable.bits h)) c
theorem Zyn (m : Nat) (h : Int) (a b : Nat) : nth m (prb m h a) b = prb m h (a + b) := (nth_add m a _ b).symm
theorem Zui (m : Nat) (h : Int) (c : Nat) : way m h c ≤ m := by
  have i0 : SetTable.bits h % (m + 1) ≤ m := Nat.le_of_lt_succ (Nat.mod_lt _ (Nat.succ_pos _))
  have b := runEnd_bd i0
  have z : (prb m h c).j + (prb m h c).more ≤ m := nth_in c _ (by
    show SetTable.bits h % (m + 1) + (SetTable.runEnd m (SetTable.bits h % (m + 1)) - SetTable.bits h % (m + 1)) ≤ m
    omega)
  exact Nat.le_trans (Nat.le_add_right _ _) z
theorem Rnd.first {m : Nat} (R : Rnd m) (h : Int) {js : List Nat} (hl : js.length ≤ m) : ∃ K, K < 10 * SetTable.turns m ∧ way m h K ∉ js ∧ ∀ c, c < K → way m h c ∈ js := by
  obtain ⟨j, hj, hn⟩ := st_missing js (m + 1) (Nat.lt_succ_of_le hl)
  obtain ⟨n, n1, n2⟩ := R.meets h (Nat.le_of_lt_succ hj)
  obtain ⟨k, k1, k2⟩ := run_nth m (SetTable.bits h) n
  have hk : way m h k ∉ js := by
    show (prb m h k).j ∉ js
    have z : (prb m h k).j = runI m (SetTable.bits h) n := congrArg SetTable.Probe.j k2
    rw [z, n2]
    exact hn
  obtain ⟨K, a1, a2, a3⟩ := st_least (p := fun c => way m h c ∉ js) k hk
  refine ⟨K, ?_, a2, fun c hc => Classical.byContradiction fun z => a3 c hc z⟩
  unfold SetTable.turns
  omega
structure Tb (t : SetTable) (hs : List Int) : Prop where
  asc : Ris t.place.toList
  cl : t.dummies = #[]
  len : t.place.toList.length = hs.length
  rnd : Rnd t.mask
  top : ∀ x ∈ t.place.toList, x ≤ t.mask
  found : ∀ (i : Nat) (h : Int) (j : Nat), hs[i]? = some h → t.place.toList[i]? = some j → ∃ c, way t.mask h c = j ∧ ∀ c', c' < c → way t.mask h c' ∈ t.place.toList
theorem Tb.ahead {t : SetTable} {hs : List Int} (T : Tb t hs) {h : Int} {K i : Nat} (hK : way t.mask h K ∉ t.place.toList) (hi : hs[i]? = some h) : ∃ c, c < K ∧ t.place.toList[i]? = some (way t.mask h c) := by
  have il : i < t.place.toList.length := by
    rw [T.len]
    exact (List.getElem?_eq_some_iff.mp hi).1
  have e := List.getElem?_eq_getElem il
  obtain ⟨c, c1, c2⟩ := T.found i h _ hi e
  refine ⟨c, ?_, by rw [e, c1]⟩
  have nk : c ≠ K := fun z => hK (by rw [← z, c1]; exact List.getElem_mem il)
  rcases Nat.lt_or_ge K c with z | z
  · exact absurd (c2 K z) hK
  · omega
theorem Tb.put {t : SetTable} {hs : List Int} (T : Tb t hs) {h : Int} {K p : Nat} (hp : SetTable.below t.place (way t.mask h K) = p) (hK : way t.mask h K ∉ t.place.toList) (hb : ∀ c, c < K → way t.mask h c ∈ t.place.toList) :
    p ≤ hs.length ∧ Tb (t.put (way t.mask h K)).1 (hs.take p ++ h :: hs.drop p) ∧ (t.put (way t.mask h K)).1.fill = hs.length + 1 := by
  obtain ⟨b1, -, -⟩ := below_cut T.asc (way t.mask h K)
  rw [hp] at b1
  have pl : p ≤ t.place.toList.length := by rw [Array.length_toList]; exact b1
  have ph : p ≤ hs.length := by rw [← T.len]; exact pl
  have new := put_place t (way t.mask h K)
  rw [hp] at new
  have cl2 := put_dm T.cl (way t.mask h K)
  have np : t.place[SetTable.below t.place (way t.mask h K)]? ≠ some (way t.mask h K) := fun z => hK (List.mem_of_getElem? (by rw [Array.getElem?_toList]; exact z))
  have grow : ∀ x, x ∈ t.place.toList → x ∈ (t.put (way t.mask h K)).1.place.toList := fun x hx => by rw [new]; exact mem_ins.2 (.inr hx)
  have ln : (t.put (way t.mask h K)).1.place.toList.length = hs.length + 1 := by rw [new, len_ins _ pl, T.len]
  refine ⟨ph, { asc := ris_insert T.asc np, cl := cl2, len := by rw [ln, len_ins _ ph], rnd := T.rnd, top := fun x hx => ?_, found := fun i h' j' e1 e2 => ?_ }, ?_⟩
  · rw [new] at hx
    rcases mem_ins.1 hx with z | z
    · subst z
      exact Zui _ _ _
    · exact T.top x z
  · rw [tins_get hs ph] at e1
    rw [new, tins_get _ pl] at e2
    have old : ∀ i, hs[i]? = some h' → t.place.toList[i]? = some j' → ∃ c, way t.mask h' c = j' ∧ ∀ c', c' < c → way t.mask h' c' ∈ (t.put (way t.mask h K)).1.place.toList := fun i a b => by
      obtain ⟨c, c1, c2⟩ := T.found i h' j' a b
      exact ⟨c, c1, fun c' l => grow _ (c2 c' l)⟩
    rcases Nat.lt_trichotomy i p with z | z | z
    · rw [if_pos z] at e1 e2
      exact old i e1 e2
    · rw [if_neg (by omega), if_pos z] at e1 e2
      cases e1
      cases e2
      exact ⟨K, rfl, fun c l => grow _ (hb c l)⟩
    · rw [if_neg (by omega), if_neg (by omega)] at e1 e2
      exact old (i - 1) e1 e2
  · show (t.put (way t.mask h K)).1.place.size + (t.put (way t.mask h K)).1.dummies.size = hs.length + 1
    rw [cl2, ← Array.length_toList, ln]
    rfl
end DL
set_option Elab.async false
set_option linter.all false
set_option maxRecDepth 100000
set_option maxHeartbeats 4000000
namespace DL
open PySem PySem.Spec PyProof.Rows L2
theorem Z28 {n : Nat} : ∀ (f k : Nat), n < 2 ^ (k + f) → ∃ k', k ≤ k' ∧ SetTable.sizeAbove.go n f (2 ^ k) = 2 ^ k' ∧ n < 2 ^ k' ∧ (k' = k ∨ 2 ^ k' ≤ 2 * n)
  | 0, k, h => ⟨k, Nat.le_refl _, rfl, h, .inl rfl⟩
  | f + 1, k, h => by
    unfold SetTable.sizeAbove.go
    by_cases c : 2 ^ k ≤ n
    · rw [if_pos c, ← Nat.pow_succ]
      obtain ⟨k', a, b, d, e⟩ := Z28 (n := n) f (k + 1) (by
        have z : k + 1 + f = k + (f + 1) := by omega
        rw [z]
        exact h)
      refine ⟨k', by omega, b, d, .inr ?_⟩
      rcases e with e | e
      · rw [e, Nat.pow_succ]
        omega
      · exact e
    · rw [if_neg c]
      exact ⟨k, Nat.le_refl _, rfl, by omega, .inl rfl⟩
theorem Z1y {n : Nat} (h : n < 100000) : ∃ M, SetTable.sizeAbove n = M + 1 ∧ Rnd M ∧ n ≤ M ∧ M ≤ 2 * n + 7 := by
  obtain ⟨k, a, b, c, d⟩ := Z28 (n := n) 64 3 (Nat.lt_of_lt_of_le h (by decide))
  have p : 0 < 2 ^ k := Nat.pow_pos (by decide)
  obtain ⟨q, rfl⟩ : ∃ q, k = q + 1 := ⟨k - 1, by omega⟩
  refine ⟨2 ^ (q + 1) - 1, ?_, ⟨q, by omega⟩, by omega, ?_⟩
  · show SetTable.sizeAbove.go n 64 8 = _
    rw [show (8 : Nat) = 2 ^ 3 from rfl, b]
    omega
  · rcases d with d | d
    · rw [d]
      have z : (2 : Nat) ^ 3 = 8 := rfl
      omega
    · omega
theorem Rnd.free {m : Nat} (R : Rnd m) (owner : Array (Option Nat)) (h : Int) {j : Nat} (hj : j ≤ m) (hf : oAt owner j = none) :
    ∃ K, SetTable.layClean.free m owner (SetTable.turns m) (SetTable.bits h % (m + 1)) (SetTable.bits h) = some (way m h K) ∧ oAt owner (way m h K) = none ∧ ∀ c, c < K → oAt owner (way m h c) ≠ none := by
  obtain ⟨n, n1, n2⟩ := R.meets h hj
  have e : way m h (off m (SetTable.bits h % (m + 1)) (SetTable.bits h) n) = j := by
    have z := congrArg SetTable.Probe.j (nth_off m n (SetTable.bits h % (m + 1)) (SetTable.bits h))
    rw [itL_run, n2] at z
    exact z
  obtain ⟨K, a1, a2, a3⟩ := st_least (p := fun c => oAt owner (way m h c) = none) _ (by rw [← e] at hf; exact hf)
  refine ⟨K, free_spec m owner _ n _ _ K ?_ a1 (fun c l => ?_) ?_, a2, a3⟩
  · unfold SetTable.turns
    omega
  · cases z : oAt owner (prb m h c).j with
    | none => exact absurd z (a3 c l)
    | some v => rfl
  · exact (congrArg Option.isNone a2).trans rfl
theorem Z1i {m : Nat} (R : Rnd m) {done : List Int} {owner : Array (Option Nat)} (W : Own m done owner) (hl : done.length ≤ m) (h : Int) :
    ∃ j, SetTable.layClean.free m owner (SetTable.turns m) (SetTable.bits h % (m + 1)) (SetTable.bits h) = some j ∧ Own m (done ++ [h]) (owner.setIfInBounds j (some done.length)) := by
  obtain ⟨js, l1, l2⟩ := W.ps
  obtain ⟨j0, b0, n0⟩ := st_missing js (m + 1) (by omega)
  have f0 : oAt owner j0 = none := Classical.byContradiction fun z => n0 (l2 j0 (Nat.le_of_lt_succ b0) z)
  obtain ⟨K, e, fr, occ⟩ := R.free owner h (Nat.le_of_lt_succ b0) f0
  have top := Zui m h K
  refine ⟨_, e, ?_⟩
  generalize hs : way m h K = S at fr top
  have here : oAt (owner.setIfInBounds S (some done.length)) S = some done.length := oAt_set_self _ (by rw [W.sz]; omega)
  have else_ : ∀ i, i ≠ S → oAt (owner.setIfInBounds S (some done.length)) i = oAt owner i := fun i z => oAt_set_ne _ z
  have still : ∀ i, oAt owner i ≠ none → oAt (owner.setIfInBounds S (some done.length)) i ≠ none := fun i z => by
    rw [else_ i fun y => z (by rw [y]; exact fr)]
    exact z
  constructor
  · rw [Array.size_setIfInBounds]
    exact W.sz
  · intro j k hj hk
    by_cases c : j = S
    · subst c
      rw [here] at hk
      cases hk
      exact ⟨h, K, by simp, hs, fun c' l => still _ (occ c' l)⟩
    · rw [else_ j c] at hk
      obtain ⟨h', K', x1, x2, x3⟩ := W.at_ j k hj hk
      refine ⟨h', K', ?_, x2, fun c' l => still _ (x3 c' l)⟩
      rw [List.getElem?_append_left (List.getElem?_eq_some_iff.mp x1).1, x1]
  · intro k hk
    rw [List.length_append, List.length_singleton] at hk
    rcases Nat.lt_or_ge k done.length with c | c
    · obtain ⟨j, j1, j2⟩ := W.all k c
      exact ⟨j, j1, by rw [else_ j fun y => by rw [y, fr] at j2; cases j2]; exact j2⟩
    · have z : k = done.length := by omega
      exact ⟨S, top, by rw [z]; exact here⟩
  · refine ⟨S :: js, by simp [l1], fun j hj z => ?_⟩
    by_cases c : j = S
    · exact c ▸ List.mem_cons_self
    · rw [else_ j c] at z
      exact List.mem_cons_of_mem _ (l2 j hj z)
theorem Zvr {m : Nat} (R : Rnd m) : ∀ (rest done : List Int) (owner : Array (Option Nat)), Own m done owner → done.length + rest.length ≤ m →
    ∃ o', rest.foldl (stepF m) (some (owner, done.length)) = some (o', done.length + rest.length) ∧ Own m (done ++ rest) o'
  | [], done, owner, W, _ => ⟨owner, rfl, by rw [List.append_nil]; exact W⟩
  | h :: rest, done, owner, W, hl => by
    rw [List.length_cons] at hl
    obtain ⟨j, e, W1⟩ := Z1i R W (by omega) h
    have ln : (done ++ [h]).length = done.length + 1 := by simp
    obtain ⟨o', f, W2⟩ := Zvr R rest (done ++ [h]) _ W1 (by omega)
    refine ⟨o', ?_, by rw [List.append_assoc] at W2; exact W2⟩
    rw [List.foldl_cons, stepF_some e, ← ln, f, ln, List.length_cons]
    congr 2
    omega
theorem Z0c {m : Nat} (R : Rnd m) {hs : Array Int} (hn : hs.size ≤ m) : ∃ owner, SetTable.layClean m hs = some owner ∧ Own m hs.toList owner := by
  have l0 : hs.toList.length = hs.size := Array.length_toList
  obtain ⟨o', f, W⟩ := Zvr R hs.toList [] _ (Own.init m) (by rw [l0]; show 0 + hs.size ≤ m; omega)
  refine ⟨o', ?_, W⟩
  rw [layClean_eq]
  have f' : hs.toList.foldl (stepF m) (some (Array.replicate (m + 1) none, 0)) = _ := f
  rw [f']
  rfl
theorem anew {m : Nat} (R : Rnd m) {hs : Array Int} (t : SetTable) {wanted : Nat} (hw : SetTable.sizeAbove wanted = m + 1) (hn : hs.size ≤ m) :
    ∃ t' order, t.relaid hs wanted = some (t', order) ∧ order.toList.Perm (List.range hs.size) ∧ Tb t' (order.toList.map fun i => hs.getD i 0) ∧ t'.mask = m ∧ t'.led = t.led ∧ t'.plain = t.plain := by
  obtain ⟨owner, e, W⟩ := Z0c R hn
  have ml : ∀ j k, (j, k) ∈ liveOf m owner ↔ j ≤ m ∧ oAt owner j = some k := fun j k => mem_live W.sz
  have rise := ris_live (fun j => owner.getD j none) (List.range (m + 1)) (by unfold Ris; first | exact List.pairwise_lt_range | exact List.pairwise_lt_range _)
  have rise1 : Ris ((liveOf m owner).map (·.1)) := rise.1
  have apart : ((liveOf m owner).map (·.1)).Nodup := List.Pairwise.imp (fun h => Nat.ne_of_lt h) rise1
  have len : (liveOf m owner).length = hs.size := by
    refine Nat.le_antisymm ?_ ?_
    · obtain ⟨js, l1, l2⟩ := W.ps
      have z := nat_nodup_len _ js apart fun x hx => by
        obtain ⟨⟨j, k⟩, m1, rfl⟩ := List.mem_map.mp hx
        obtain ⟨z1, z2⟩ := (ml j k).1 m1
        exact l2 j z1 (by rw [z2]; simp)
      rw [List.length_map, l1, Array.length_toList] at z
      exact z
    · have z := nat_nodup_len (List.range hs.size) ((liveOf m owner).map (·.2)) List.nodup_range fun k hk => by
        obtain ⟨j, z1, z2⟩ := W.all k (by rw [Array.length_toList]; exact List.mem_range.mp hk)
        exact List.mem_map.mpr ⟨(j, k), (ml j k).2 ⟨z1, z2⟩, rfl⟩
      rw [List.length_range, List.length_map] at z
      exact z
  refine ⟨tabOf t m owner, ((liveOf m owner).map (·.2)).toArray, ?_, ?_, ?_, rfl, rfl, rfl⟩
  · rw [relaid_eq, hw, Nat.add_sub_cancel, e]
    rfl
  · refine perm_range hs.size _ (by rw [← len]; exact List.length_map ..) fun k hk => ?_
    obtain ⟨j, z1, z2⟩ := W.all k (by rw [Array.length_toList]; exact hk)
    exact List.mem_map.mpr ⟨(j, k), (ml j k).2 ⟨z1, z2⟩, rfl⟩
  · have pl : (tabOf t m owner).place.toList = (liveOf m owner).map (·.1) := rfl
    refine { asc := rise1, cl := rfl, len := by rw [pl]; simp, rnd := R, top := fun x hx => ?_, found := fun i h j e1 e2 => ?_ }
    · rw [pl] at hx
      obtain ⟨⟨j, k⟩, m1, rfl⟩ := List.mem_map.mp hx
      exact ((ml j k).1 m1).1
    · rw [pl, List.getElem?_map] at e2
      have e1' : (((liveOf m owner).map (·.2)).map fun i => hs.getD i 0)[i]? = some h := e1
      rw [List.getElem?_map, List.getElem?_map] at e1'
      obtain ⟨⟨j', k⟩, q, rfl⟩ := Option.map_eq_some_iff.mp e2
      rw [q] at e1'
      have e3 : hs.getD k 0 = h := Option.some.inj e1'
      obtain ⟨z1, z2⟩ := (ml j' k).1 (List.mem_of_getElem? q)
      obtain ⟨h0, K, a1, a2, a3⟩ := W.at_ j' k z1 z2
      have e4 : hs.getD k 0 = h0 := by
        rw [Array.getElem?_toList] at a1
        rw [Array.getD_eq_getD_getElem?, a1]
        rfl
      rw [← e3, e4]
      refine ⟨K, a2, fun c l => ?_⟩
      rw [pl]
      cases y : oAt owner (way m h0 c) with
      | none => exact absurd y (a3 c l)
      | some v => exact List.mem_map.mpr ⟨(way m h0 c, v), (ml _ _).2 ⟨Zui _ _ _, y⟩, rfl⟩
end DL
set_option Elab.async false
set_option linter.all false
set_option maxRecDepth 100000
set_option maxHeartbeats 4000000
namespace DL
open PySem PySem.Spec PyProof.Rows L2
structure Sb (P : Program) (w : World) (h : Heap) (a : Addr) (L : List (Addr × List Int)) (es : Array (Int × Value)) (ep : Nat) (t : SetTable) : Prop where
  obj : ∃ o, h.get? a = some o ∧ o.ExactSet ∧ o.data = .set es ep t
  rws : es.toList = rowsOf P w L
  tb : Tb t (L.map fun p => thash P w p.2)
  one : (L.map (·.2)).Nodup
  tp : ∀ p ∈ L, IsT P w h p.2 p.1
  pla : t.plain = true
  ord : w.params.followText "set-order" = true ∨ t.led = true
  rm : L.length * 5 < t.mask * 3
  cap : t.mask ≤ 8 * L.length + 7
  few : L.length < 1000
section
variable {P : Program} {w : World} {A : Around} {E : Value → Shared → Prop} {s : Shared} {a : Addr} {L : List (Addr × List Int)} {es : Array (Int × Value)} {ep : Nat} {t : SetTable}
theorem Zj2 {L : List (Addr × List Int)} {es : Array (Int × Value)} (h : es.toList = rowsOf P w L) : es.size = L.length := by
  rw [← Array.length_toList, h]
  exact List.length_map ..
theorem fit {hs : List Int} {n : Nat} (T : Tb t hs) (hn : n = hs.length) (hm : n ≤ t.mask) : t.fits n = true := by
  have e : t.place.size = n := by rw [hn, ← T.len, Array.length_toList]
  unfold SetTable.fits SetTable.fill
  rw [T.cl]
  simp only [Bool.and_eq_true, beq_iff_eq, decide_eq_true_eq]
  exact ⟨e, by rw [e]; exact hm⟩
theorem Sb.fit (R : Sb P w s.heap a L es ep t) : t.fits es.size = true := by
  have r := R.rm
  refine DL.fit R.tb ?_ ?_
  · rw [List.length_map, Zj2 R.rws]
  · rw [Zj2 R.rws]; omega
theorem Sb.row (R : Sb P w s.heap a L es ep t) {i : Nat} {p : Addr × List Int} (h : L[i]? = some p) : es[i]? = some (thash P w p.2, Value.ref p.1) := by
  rw [← Array.getElem?_toList, R.rws]
  show (L.map _)[i]? = _
  rw [List.getElem?_map, h]
  rfl
theorem Zyq (hm : Rnd t.mask) : ¬ t.gaveWay = true := fun z => by
  unfold SetTable.gaveWay at z
  rw [hm.odd] at z
  exact absurd z (by decide)
theorem Zyr (m : Nat) (h : Int) (c : Nat) : (prb m h c).dummy = none := by
  have step : ∀ p : SetTable.Probe, p.dummy = none → (adv m p).dummy = none := fun p z => by
    unfold adv
    split <;> exact z
  have all : ∀ c p, SetTable.Probe.dummy p = none → (nth m p c).dummy = none := by
    intro c
    induction c with
    | zero => exact fun p z => z
    | succ c ih => exact fun p z => ih _ (step p z)
  exact all c _ rfl
theorem Sb.look (R : Sb P w s.heap a L es ep t) {x : Addr} {k : List Int} (hx : IsT P w s.heap k x) (hu : A.units < cLine) {K : Nat} (hKf : K < 10 * SetTable.turns t.mask)
    (hK : way t.mask (thash P w k) K ∉ t.place.toList) (hKb : ∀ c, c < K → way t.mask (thash P w k) c ∈ t.place.toList) {Q : SetFound → Shared → Prop}
    (yes : k ∈ L.map (·.2) → Q (.there none) s) (no : k ∉ L.map (·.2) → Q (.free (way t.mask (thash P w k) K) false) s) (f : Nat) :
    ∀ (c : Nat) (at_ : Option SetTable.Probe), at_.getD (t.probeStart (thash P w k)) = prb t.mask (thash P w k) c → c ≤ K → K - c < f →
      (∀ (i : Nat) p, L[i]? = some p → p.2 = k → ∃ c', c ≤ c' ∧ c' < K ∧ t.place.toList[i]? = some (way t.mask (thash P w k) c')) →
      wpAny (model P w) A (setSearchFrom a (.ref x) (thash P w k) true f at_) Q E s := by
  induction f with
  | zero => exact fun c _ _ _ l _ => absurd l (Nat.not_lt_zero _)
  | succ f ih =>
    intro c at_ e0 hc hf left
    obtain ⟨o, ho, -, hd⟩ := R.obj
    generalize hH : thash P w k = H at hK hKb no e0 left ih ⊢
    have wj : ∀ q, (nth t.mask (prb t.mask H c) q).j = way t.mask H (c + q) := fun q => congrArg SetTable.Probe.j (Zyn t.mask H c q)
    have met := go_spec t R.tb.asc R.tb.cl (fun i => (es[i]?.map (·.1)).getD 0) H (10 * SetTable.turns t.mask) (K - c) (prb t.mask H c) (Zyr _ _ _) (by omega)
      (fun q l => by rw [wj]; exact hKb _ (by omega)) (by rw [wj, Nat.add_sub_cancel' hc]; exact hK)
    have hashAt : ∀ (i : Nat) p, L[i]? = some p → (es[i]?.map (·.1)).getD 0 = thash P w p.2 := fun i p z => by rw [R.row z]; rfl
    rw [setSearchFrom_succ]
    refine wpAny_bind (wpAny_setState_of ho hd R.fit ?_)
    dsimp only
    refine wp_if_neg (Zyq R.tb.rnd) ?_
    try refine wpAny_bind (wpAny_pure ?_)
    rcases met with ⟨q, i, hq, hi, hh, before, go⟩ | ⟨before, go⟩
    · have probe : t.probe (fun i => (es[i]?.map (·.1)).getD 0) H (at_.getD (t.probeStart H)) = some (.candidate (way t.mask H (c + q)) i (prb t.mask H (c + (q + 1)))) := by
        rw [e0, ← wj, ← Zyn]
        exact go
      rw [wj] at hi
      rw [probe]
      dsimp only
      obtain ⟨p, hp⟩ : ∃ p, L[i]? = some p := by
        have z := (List.getElem?_eq_some_iff.mp hi).1
        rw [R.tb.len, List.length_map] at z
        exact ⟨_, List.getElem?_eq_getElem z⟩
      have pm : p ∈ L := List.mem_of_getElem? hp
      have live : t.slot (way t.mask H (c + q)) = .live i := slot_live R.tb.asc hi
      have rest : wpAny (model P w) A (searchRest a (.ref x) H true f es t (way t.mask H (c + q)) i (prb t.mask H (c + (q + 1)))) Q E s := by
        unfold searchRest
        rw [R.row hp]
        dsimp only
        refine wpAny_bind (wpAny_holding (wpAny_eqBool_tuple hu (R.tp p pm) hx ?_))
        refine wpAny_bind (wpAny_setState_of ho hd R.fit ?_)
        dsimp only
        by_cases same : p.2 = k
        · exact wp_if_pos (by simp [same]) (wpAny_pure (yes (List.mem_map.mpr ⟨p, pm, same⟩)))
        · refine wp_if_neg (by simp [same]) ?_
          try refine wpAny_bind (wpAny_pure ?_)
          rw [sameMem]
          simp only [if_true, live, R.row hp]
          refine wpAny_bind (wpAny_isSame_ref_self (wpAny_bind (wpAny_pure ?_)))
          simp only [if_true]
          refine wp_if_neg (by simp [same]) (ih (c + (q + 1)) _ rfl (by omega) (by omega) fun i0 p0 z0 k0 => ?_)
          obtain ⟨c', l1, l2, l3⟩ := left i0 p0 z0 k0
          refine ⟨c', ?_, l2, l3⟩
          have ne1 : ¬ c' < c + q := fun l => before (c' - c) i0 (by omega) (by rw [wj, Nat.add_sub_cancel' l1]; exact l3) (by rw [hashAt i0 p0 z0, k0]; exact hH)
          have ne2 : c' ≠ c + q := fun l => by
            rw [l] at l3
            have z := slot_live R.tb.asc l3
            rw [live] at z
            cases z
            rw [hp] at z0
            cases z0
            exact same k0
          omega
      by_cases hl : t.led = true
      · refine wp_if_neg (by simp [hl]) ?_
        try refine wpAny_bind (wpAny_pure ?_)
        exact rest
      · refine wp_if_pos (by simp [hl]) (wpAny_bind (seen_tup hx (fun y hy => ?_) (wp_if_neg (by decide) ?_)))
        · obtain ⟨e, m1, m2⟩ := List.mem_map.mp hy
          have m3 : e ∈ es ∧ e.1 = H := by simpa using m1
          have m4 : e ∈ es.toList := by simpa using m3.1
          rw [R.rws] at m4
          obtain ⟨p2, n1, n2⟩ := List.mem_map.mp m4
          subst n2
          exact ⟨p2.2, p2.1, m2.symm, R.tp p2 n1⟩
        · try refine wpAny_bind (wpAny_pure ?_)
          exact rest
    · have probe : t.probe (fun i => (es[i]?.map (·.1)).getD 0) H (at_.getD (t.probeStart H)) = some (.empty (way t.mask H K) none) := by
        have z := wj (K - c)
        rw [Nat.add_sub_cancel' hc] at z
        rw [e0, ← z]
        exact go
      rw [probe]
      dsimp only
      refine wpAny_pure (no fun m => ?_)
      obtain ⟨p0, m0, k0⟩ := List.mem_map.mp m
      obtain ⟨i0, b0, z0⟩ := List.getElem_of_mem m0
      have z1 : L[i0]? = some p0 := by rw [List.getElem?_eq_getElem b0, z0]
      obtain ⟨c', l1, l2, l3⟩ := left i0 p0 z1 k0
      exact before (c' - c) i0 (by omega) (by rw [wj, Nat.add_sub_cancel' l1]; exact l3) (by rw [hashAt i0 p0 z1, k0]; exact hH)
theorem Sb.search (R : Sb P w s.heap a L es ep t) {x : Addr} {k : List Int} (hx : IsT P w s.heap k x) (hu : A.units < cLine) {Q : SetFound → Shared → Prop}
    (yes : k ∈ L.map (·.2) → Q (.there none) s)
    (no : ∀ K, k ∉ L.map (·.2) → way t.mask (thash P w k) K ∉ t.place.toList → (∀ c, c < K → way t.mask (thash P w k) c ∈ t.place.toList) → Q (.free (way t.mask (thash P w k) K) false) s) :
    wpAny (model P w) A (setSearch a (.ref x) (thash P w k) true) Q E s := by
  have r := R.rm
  have c := R.cap
  have fw := R.few
  obtain ⟨K, k1, k2, k3⟩ := R.tb.rnd.first (thash P w k) (js := t.place.toList) (by rw [R.tb.len, List.length_map]; omega)
  unfold setSearch
  refine R.look hx hu k1 k2 k3 yes (fun z => no K z k2 k3) 100000 0 none rfl (Nat.zero_le _) ?_ fun i p z e => ?_
  · unfold SetTable.turns at k1
    omega
  · obtain ⟨c', l1, l2⟩ := R.tb.ahead k2 (i := i) (by rw [List.getElem?_map, z]; exact congrArg (fun y => some (thash P w y)) e)
    exact ⟨c', Nat.zero_le _, l1, l2⟩
theorem Zyw {o : Obj} {hs : List Int} (ho : s.heap.get? a = some o) (hex : o.ExactSet) (hd : o.data = .set es ep t) (hr : es.toList = rowsOf P w L) (T : Tb t hs) (hl : hs.length = L.length) (hm : L.length ≤ t.mask)
    (one : (L.map (·.2)).Nodup) (tp : ∀ p ∈ L, IsT P w s.heap p.2 p.1) (pl : t.plain = true) (ld : w.params.followText "set-order" = true ∨ t.led = true) (few : L.length < 1000) (ne : 0 < L.length) {Q : Unit → Shared → Prop}
    (hQ : ∀ h' L' es' ep' t', Heap.SameBut a s.heap h' → Sb P w h' a L' es' ep' t' → L'.Perm L → Q () { s with heap := h' }) : wpAny (model P w) A (setRelay a (SetTable.grown L.length)) Q E s := by
  have sz := Zj2 hr
  have g : SetTable.grown L.length = L.length * 4 := by
    unfold SetTable.grown
    rw [if_neg (by omega)]
  obtain ⟨M, m1, m2, m3, m4⟩ := Z1y (n := L.length * 4) (by omega)
  obtain ⟨t', order, e, pm, T2, em, el, epl⟩ := anew m2 t (hs := es.map (·.1)) m1 (by rw [Array.size_map, sz]; omega)
  rw [Array.size_map, sz] at pm
  obtain ⟨L2, r1, r2, r3⟩ := order_rows L es order hr pm
  rw [← r3] at T2
  have sz2 : (order.filterMap (es[·]?)).size = es.size := by rw [Zj2 r1, r2.length_eq, sz]
  rw [g, setRelay_eq]
  refine wpAny_bind (wpAny_setState_of ho hd (fit T (by rw [sz, hl]) (by rw [sz]; exact hm)) ?_)
  dsimp only
  refine wp_if_neg (by rw [m1, sizeLine_eq]; omega) ?_
  try refine wpAny_bind (wpAny_pure ?_)
  rw [e]
  dsimp only
  refine wpAny_bind (wp_if_neg (by rw [sz2]; simp) ?_)
  try refine wpAny_bind (wpAny_pure ?_)
  refine wpAny_pure (wpAny_storeSet_of ho hd ?_ (by rw [sz2, sz, sizeLine_eq]; omega))
  have sb : Heap.SameBut a s.heap (s.heap.update a (Obj.putSet (order.filterMap (es[·]?)) t')) := Heap.SameBut.update ..
  refine hQ _ L2 _ _ t' sb { obj := ⟨_, store_at ho hd, ⟨hex.1, hex.2.1, hex.2.2⟩, rfl⟩, rws := r1, tb := T2, one := (r2.map (·.2)).nodup_iff.mpr one, tp := fun p z => isT_same (tp p (r2.mem_iff.mp z)) ho hd sb, pla := epl.trans pl, ord := ?_, rm := ?_, cap := ?_, few := ?_ } r2
  · rw [el]; exact ld
  · rw [r2.length_eq, em]; omega
  · rw [r2.length_eq, em]; omega
  · rw [r2.length_eq]; exact few
theorem Sb.add (R : Sb P w s.heap a L es ep t) {x : Addr} {k : List Int} (hx : IsT P w s.heap k x) (hu : A.units < cLine) (few : L.length + 1 < 1000) {Q : Bool → Shared → Prop}
    (hQ : ∀ b h' L' es' ep' t', Heap.SameBut a s.heap h' → Sb P w h' a L' es' ep' t' → (k ∈ L.map (·.2) → L' = L) → (k ∉ L.map (·.2) → L'.Perm ((x, k) :: L)) → Q b { s with heap := h' }) :
    wpAny (model P w) A (setAddHashed a (.ref x) (thash P w k)) Q E s := by
  obtain ⟨o, ho, hex, hd⟩ := R.obj
  have sz := Zj2 R.rws
  have rm := R.rm
  unfold setAddHashed
  refine wpAny_holding ?_
  rw [show (100000 : Nat) = 99999 + 1 from rfl, setAddHashedIn_succ]
  refine wpAny_bind (wpAny_setState_of ho hd R.fit ?_)
  dsimp only
  refine wp_if_neg (by simp [byScan, Value.scannable]) ?_
  try refine wpAny_bind (wpAny_pure ?_)
  refine wpAny_bind (R.search hx hu (fun m => ?_) fun K m hK hb => ?_)
  · exact wpAny_pure (hQ false s.heap L es ep t (Heap.SameBut.refl a s.heap) R (fun _ => rfl) fun z => absurd m z)
  · dsimp only
    refine wpAny_bind (wpAny_setState_of ho hd R.fit ?_)
    dsimp only
    generalize hp : SetTable.below t.place (way t.mask (thash P w k) K) = p
    obtain ⟨p1, T1, fl⟩ := R.tb.put hp hK hb
    have e2 : (t.put (way t.mask (thash P w k) K)).2 = p := hp
    have pl1 : (t.put (way t.mask (thash P w k) K)).1.plain = true := R.pla
    have ld1 : w.params.followText "set-order" = true ∨ (t.put (way t.mask (thash P w k) K)).1.led = true := R.ord
    have mk1 : (t.put (way t.mask (thash P w k) K)).1.mask = t.mask := rfl
    generalize t.put (way t.mask (thash P w k) K) = tp at T1 fl e2 pl1 ld1 mk1 ⊢
    obtain ⟨t1, p'⟩ := tp
    dsimp only at T1 fl e2 pl1 ld1 mk1 ⊢
    subst e2
    first
      | (refine wpAny_bind ?_; refine wp_if_pos pl1 ?_; refine hashBy_tup hx ?_)
      | refine wp_if_pos pl1 (wpAny_bind (hashBy_tup hx ?_))
    simp only [if_true]
    have rw1 : (SetTable.insertAt es p' (thash P w k, Value.ref x)).toList = rowsOf P w (L.take p' ++ (x, k) :: L.drop p') := by rw [SetTable.toList_insertAt, rows_put, R.rws]
    have pm := put_perm L p' (x, k)
    have hh : (L.map fun p => thash P w p.2).take p' ++ thash P w k :: (L.map fun p => thash P w p.2).drop p' = (L.take p' ++ (x, k) :: L.drop p').map fun p => thash P w p.2 := by simp
    rw [hh] at T1
    rw [List.length_map] at fl
    generalize SetTable.insertAt es p' (thash P w k, Value.ref x) = es1 at rw1 ⊢
    generalize L.take p' ++ (x, k) :: L.drop p' = L1 at pm T1 rw1
    have len1 : L1.length = L.length + 1 := pm.length_eq
    have sz1 : es1.size = L.length + 1 := (Zj2 rw1).trans len1
    have one1 : (L1.map (·.2)).Nodup := (pm.map (·.2)).nodup_iff.mpr (List.nodup_cons.mpr ⟨m, R.one⟩)
    refine wpAny_bind (wpAny_storeSet_of ho hd ?_ (by rw [sz1, sizeLine_eq]; omega))
    have sb : Heap.SameBut a s.heap (s.heap.update a (Obj.putSet es1 t1)) := Heap.SameBut.update ..
    have ho1 := store_at (es' := es1) (t' := t1) ho hd
    generalize s.heap.update a (Obj.putSet es1 t1) = h1 at sb ho1 ⊢
    have tp1 : ∀ p ∈ L1, IsT P w h1 p.2 p.1 := fun p z => by
      rcases List.mem_cons.mp (pm.mem_iff.mp z) with z | z
      · subst z
        exact isT_same hx ho hd sb
      · exact isT_same (R.tp p z) ho hd sb
    have full : t1.tooFull = decide ((L.length + 1) * 5 ≥ t.mask * 3) := by
      unfold SetTable.tooFull
      rw [fl, mk1]
    by_cases hf : t1.tooFull = true
    · rw [sz]
      have relay : wpAny (model P w) A (setRelay a (SetTable.grown (L.length + 1))) (fun _ s' => wpAny (model P w) A (pure true) Q E s') E { s with heap := h1 } := by
        rw [← len1]
        refine Zyw (s := { s with heap := h1 }) ho1 ⟨hex.1, hex.2.1, hex.2.2⟩ rfl rw1 T1 (by rw [List.length_map]) (by rw [len1, mk1]; omega) one1 tp1 pl1 ld1 (by omega) (by omega) fun h2 L2 es2 ep2 t2 sb2 R2 pm2 => ?_
        exact wpAny_pure (hQ true h2 L2 es2 ep2 t2 (sb.trans sb2) R2 (fun z => absurd z m) fun _ => pm2.trans pm)
      first
        | (refine wpAny_bind ?_; refine wp_if_pos (by simp [hf]) ?_; exact relay)
        | (refine wp_if_pos (by simp [hf]) ?_; refine wpAny_bind ?_; exact relay)
    · have lt : (L.length + 1) * 5 < t.mask * 3 := by
        rw [full, decide_eq_true_eq] at hf
        omega
      have cp := R.cap
      have done : wpAny (model P w) A (pure true) Q E { s with heap := h1 } := wpAny_pure (hQ true h1 L1 es1 (ep + 1) t1 sb { obj := ⟨_, ho1, ⟨hex.1, hex.2.1, hex.2.2⟩, rfl⟩, rws := rw1, tb := T1, one := one1, tp := tp1, pla := pl1, ord := ld1, rm := by rw [len1, mk1]; exact lt, cap := by rw [len1, mk1]; omega, few := by omega } (fun z => absurd z m) fun _ => pm)
      first
        | exact wp_if_neg (by simp [hf]) done
        | (refine wpAny_bind ?_; refine wp_if_neg (by simp [hf]) ?_; exact wpAny_pure done)
end
end DL
set_option Elab.async false
set_option linter.all false
set_option maxRecDepth 100000
set_option maxHeartbeats 4000000
namespace DL
open PySem PySem.Spec PyProof.Rows L2
theorem Sb.keeps {P : Program} {w : World} {h h' : Heap} {a : Addr} {L : List (Addr × List Int)} {es : Array (Int × Value)} {ep : Nat} {t : SetTable} (R : Sb P w h a L es ep t) (ka : ∀ o, h.get? a = some o → h'.get? a = some o) (kt : ∀ p ∈ L, IsT P w h' p.2 p.1) : Sb P w h' a L es ep t := by
  obtain ⟨o, e, r⟩ := R.obj
  exact { R with obj := ⟨o, ka o e, r⟩, tp := kt }
theorem Sb.new {P : Program} {w : World} {h : Heap} {a : Addr} (ho : h.get? a = some { cls := .type "set", dict := none, data := .set #[] 0 (.fresh 0 0 (!w.params.followText "set-order")) }) :
    Sb P w h a [] #[] 0 (.fresh 0 0 (!w.params.followText "set-order")) := by
  refine { obj := ⟨_, ho, ⟨rfl, rfl, rfl⟩, rfl⟩, rws := rfl, tb := ?_, one := List.nodup_nil, tp := fun p z => (by cases z), pla := rfl, ord := ?_, rm := (by show 0 * 5 < 7 * 3; decide), cap := (by show 7 ≤ 8 * 0 + 7; decide), few := (by show 0 < 1000; decide) }
  · exact { asc := List.Pairwise.nil, cl := rfl, len := rfl, rnd := ⟨2, rfl⟩, top := fun x z => (by cases z), found := fun i h j z => (by simp at z) }
  · cases h : w.params.followText "set-order" with
    | true => exact .inl rfl
    | false => exact .inr (by show (!false) = true; rfl)
section
variable {P : Program} {w : World} {A : Around} {E : Value → Shared → Prop} {s : Shared}
end
end DL
set_option Elab.async false
set_option linter.all false
set_option maxRecDepth 100000
set_option maxHeartbeats 4000000
namespace DL
open PySem PySem.Spec PyProof.Rows L2
section
variable {P : Program} {w : World} {A : Around} {E : Value → Shared → Prop} {s : Shared} {a : Addr} {L : List (Addr × List Int)} {es : Array (Int × Value)} {ep : Nat} {t : SetTable}
end
def SbO (P : Program) (w : World) (a : Addr) (L : List (Addr × List Int)) : HO := .ext fun h => ∃ es ep t, (∃ o, h.get? a = some o ∧ o.ExactSet ∧ o.data = .set es ep t) ∧ ∀ h', (∃ o, h'.get? a = some o ∧ o.ExactSet ∧ o.data = .set es ep t) → (∀ p ∈ L, IsT P w h' p.2 p.1) → Sb P w h' a L es ep t
theorem Sb.ho {P : Program} {w : World} {H : Hp} {h : Heap} {a : Addr} {L : List (Addr × List Int)} {es : Array (Int × Value)} {ep : Nat} {t : SetTable} (R : Sb P w h a L es ep t) : ObjOk P w H h a (SbO P w a L) := by
  obtain ⟨o, ho, r⟩ := R.obj
  have r0 : ∃ o, h.get? a = some o ∧ o.ExactSet ∧ o.data = .set es ep t := ⟨o, ho, r⟩
  refine ⟨⟨es, ep, t, r0, fun h' ob tp => { R with obj := ob, tp := tp }⟩, ⟨o, ho⟩, fun h1 h2 p k => ?_⟩
  obtain ⟨es', ep', t', ⟨o', ho', r'⟩, q⟩ := p
  exact ⟨es', ep', t', ⟨o', k o' ho', r'⟩, q⟩
section
variable {X : Cx} {F : Fr} {W : WX} {e : Expr} {we : WE} {pos p pos2 p2 : Pos}
end
end DL
set_option Elab.async false
set_option linter.all false
set_option maxRecDepth 100000
set_option maxHeartbeats 4000000
namespace DL
open PySem PySem.Spec PyProof.Rows L2
section
variable {F : Fr} {S S' H H' : Hp} {l : List Cell} {p : Cell}
variable {X : Cx} {W : WX} {e : Expr} {we : WE} {pos q : Pos}
end
end DL
set_option Elab.async false
set_option linter.all false
set_option maxRecDepth 100000
set_option maxHeartbeats 4000000
namespace DL
open PySem PySem.Spec PyProof.Rows L2
section
variable {X : Cx} {F : Fr} {W : WX} {a b : Expr} {wa wb : WE} {pos : Pos}
end
end DL
set_option Elab.async false
set_option linter.all false
set_option maxRecDepth 100000
set_option maxHeartbeats 4000000
namespace DL
open PySem PySem.Spec PyProof.Rows L2
section
variable {X : Cx} {F : Fr} {W : WX} {e : Expr} {we : WE} {pos p : Pos}
end
end DL
set_option Elab.async false
set_option linter.all false
set_option maxRecDepth 100000
set_option maxHeartbeats 4000000
namespace DL
open PySem PySem.Spec PyProof.Rows L2
structure GKeys (K : PySem.W.Frag) (w : World) (mg : Str → Option Value) (x : Str) (ks : List Str) : Prop where
  ex : ∃ a es n, mg x = some (.ref a) ∧ KDict K w a es n ∧ es.toList.map He.keyOf = He.keysIn w.params ks
theorem Ztn {P : Params} (s : Str) : ∀ {l : List DictEntry} {ks : List Str}, l.map He.keyOf = He.keysIn P ks → (l.find? (·.key.isStr s)).isSome = decide (s ∈ ks) ∧ l.any (·.refKey) = false
  | [], [], _ => ⟨by simp, rfl⟩
  | [], _ :: _, h => by cases h
  | _ :: _, [], h => by cases h
  | e :: r, k :: ks, h => by
    have h1 : He.keyOf e :: r.map He.keyOf = some (k, PyData.keyHash P k) :: He.keysIn P ks := h
    injection h1 with h2 h3
    obtain ⟨i1, i2⟩ := Ztn s h3
    obtain ⟨hash, key, val⟩ := e
    unfold He.keyOf at h2
    dsimp only at h2
    cases key with
    | str x t =>
      cases h2
      refine ⟨?_, ?_⟩
      · rw [List.find?_cons]
        by_cases c : k = s
        · have z : (Value.str k t).isStr s = true := by show (k == s) = true; simpa using c
          simp only [z]
          simp [c]
        · have z : (Value.str k t).isStr s = false := by show (k == s) = false; simpa using c
          have c' : ¬ s = k := fun e => c e.symm
          simp only [z, List.mem_cons, c', false_or]
          exact i1
      · rw [List.any_cons, i2]
        rfl
    | _ => cases h2
theorem GKeys.at {K : PySem.W.Frag} {w : World} {mg : Str → Option Value} {x : Str} {ks : List Str} (G : GKeys K w mg x ks) (s : Str) : ∃ a es n r, mg x = some (.ref a) ∧ KDict K w a es n ∧ PySem.W.nsIn K a s = some r ∧ r.isSome = decide (s ∈ ks) := by
  obtain ⟨a, es, n, hm, D, hk⟩ := G.ex
  obtain ⟨h1, h2⟩ := Ztn s hk
  refine ⟨a, es, n, (es.toList.find? (·.key.isStr s)).map (·.val), hm, D, ?_, by rw [Option.isSome_map, h1]⟩
  unfold PySem.W.nsIn
  rw [D.at_]
  dsimp only
  cases q : es.toList.find? (·.key.isStr s) with
  | some e => rfl
  | none =>
    dsimp only
    rw [h2]
    rfl
section
variable {X : Cx} {F : Fr} {W : WX} {x : Str} {p pos : Pos} {e : Expr} {we : WE} {ks : List Str}
end
structure GTup (K : PySem.W.Frag) (mg : Str → Option Value) (x : Str) (ks : List Str) : Prop where
  ex : ∃ a, mg x = some (.ref a) ∧ ∀ H : Hp, SqT K H a (ks.map V.str)
section
variable {X : Cx} {F : Fr} {W : WX} {x : Str} {p pos : Pos} {e : Expr} {we : WE} {ks : List Str}
end
end DL
set_option Elab.async false
set_option linter.all false
set_option maxRecDepth 100000
set_option maxHeartbeats 4000000
namespace DL
open PySem PySem.Spec PyProof.Rows L2
section
variable {F : Fr} {S H : Hp} {l : List Cell}
end
section
variable {X : Cx} {F : Fr} {W : WX} {e : Expr} {we : WE}
end
end DL
set_option Elab.async false
set_option linter.all false
set_option maxRecDepth 100000
set_option maxHeartbeats 4000000
namespace DL
open PySem PySem.Spec PyProof.Rows L2
section
variable {X : Cx} {F : Fr} {W : WX} {a b : Expr} {wa wb : WM} {pos : Pos}
theorem Z5d (hu : X.A.units + 65 < cLine) (ha : DM X F W a wa) (hb : DM X F W b wb) (hK : X.K = F.K := by rfl) : DMT X F W (.Compare a [.NotEq] [b] pos) (mOp (oEq true) wa wb) :=
  Z3n (r := rNeA F.K) (by rw [← hK]; exact L2.op_ne.or (op_neD (by omega))) Zzu Zbm ha hb (nomark _)
end
section
variable {X : Cx} {F : Fr} {W : WX} {e : Expr} {we : WE} {pos p : Pos}
end
end DL
set_option Elab.async false
set_option linter.all false
set_option maxRecDepth 100000
namespace DL
open PySem PySem.Spec PyProof.Rows L2
variable {F : Fr}
variable {X : Cx} {W : WX} {e : Expr} {we : WE} {pos p p2 q : Pos}
end DL
set_option Elab.async false
set_option linter.all false
set_option maxRecDepth 100000
set_option maxHeartbeats 4000000
namespace DLQ
open Lean Elab Tactic Meta PySem PySem.Calls PyProof.Rows PyProof.V PySem.Spec PySem.SeqAt
open AutoSeq1 (wpAny_loadPart')
open MeetsSeq MeetsSeq2 MeetsSeq3 SeqRoads2
section
variable {prog : Program} {w : World}
end
end DLQ
namespace DL
open PySem PySem.Spec PyProof.Rows L2
section
variable {X : Cx} {F : Fr} {W : WX} {a b : Expr} {wa wb : WE} {pos : Pos}
end
end DL
set_option Elab.async false
set_option linter.all false
set_option maxRecDepth 100000
set_option maxHeartbeats 4000000
namespace DL
open PySem PySem.Spec PyProof.Rows L2
def Zri (i : Nat) : WM := fun env Q => match env[i]? with
  | some (.ow (.lst es)) => ∃ d, es.getLast? = some d ∧ Q (.ok (.sh d) (env.set i (.ow (.lst es.dropLast))))
  | _ => False
theorem Zr4 {i : Nat} : Zhs (Zri i) := fun env Q Q' m q => by
  unfold Zri at q ⊢
  split at q
  · obtain ⟨d, h1, h2⟩ := q
    exact ⟨d, h1, m _ h2⟩
  · exact q.elim
section
variable {F : Fr} {H : Hp} {l : List Cell} {env : En} {σ : L2.St} {i : Nat}
theorem C.ofNaL {a : Addr} {ds : List D} {v : Option V} (h : C F ((.na a (.lst ds), v) :: l) H) : C F ((.ow (.lst ds), v) :: l) H := by
  obtain ⟨S, g, c, pw⟩ := h
  obtain ⟨p1, p2⟩ := List.pairwise_cons.mp pw
  obtain ⟨rfl, r, n, q⟩ := c _ List.mem_cons_self
  have rc := Zl0 r (show D.isFlat (.lst ds) from trivial)
  have ei : a :: D.inn H (.lst ds) (H a) = [a] := by rw [rc.inn]
  refine ⟨S, g, fun p hp => ?_, List.pairwise_cons.mpr ⟨fun p hp => (p1 p hp).like (show fpC H (.ow (.lst ds), some (V.ref a)) = fpC H (.na a (.lst ds), some (V.ref a)) from ei.symm) (fun _ => trivial) (fun _ => trivial), p2⟩⟩
  rcases List.mem_cons.mp hp with rfl | hp
  · have := q a List.mem_cons_self
    exact ⟨a, rfl, this.1, this.2, rc⟩
  · exact c p (List.mem_cons_of_mem _ hp)
theorem CE.ofNaL {a : Addr} {ds : List D} (k : CE F l env σ H) (hx : env[i]? = some (.na a (.lst ds))) : CE F l (env.set i (.ow (.lst ds))) σ H := by
  obtain ⟨v, h1, h2, c⟩ := k.splitAt hx
  exact CE.joinAt k.len k.ok trivial h1 h2 c.ofNaL
end
section
variable {X : Cx} {F : Fr} {W : WX} {e o : Expr} {es : List Expr} {wm : WM} {i : Nat} {apos cpos pos p : Pos}
theorem Zvh (hpe : PE X (.Call (.Attribute o "pop" apos) [] [] cpos) (tBM0 X.K "list" rPop (tVar i))) (hK : X.K = F.K := by rfl) : DM X F W (.Call (.Attribute o "pop" apos) [] [] cpos) (Zri i) := by
  refine ⟨Zb5 (Z4b (W := W) (Z4c i) hpe hK).run fun σ H Q ⟨l, env, k, hl, q⟩ => ?_, Zr4⟩
  unfold Zri at q
  split at q
  · rename_i es hx
    obtain ⟨d, hd, q⟩ := q
    obtain ⟨a, k1⟩ := k.toNa hx (.inr rfl)
    have hi : i < env.length := (List.getElem?_eq_some_iff.mp hx).1
    refine ⟨l, _, k1, hl, ?_⟩
    unfold Z38 bGet
    dsimp only
    rw [List.getElem?_set_self hi]
    refine ⟨trivial, es, d, rfl, hd, fun v H' hlen ho c => ?_⟩
    have k2 : CE F ((.sh d, some v) :: l) ((env.set i (.na a (.lst es))).set i (.na a (.lst es.dropLast))) σ H' := ⟨hlen, ho, c⟩
    rw [List.set_set] at k2
    have k3 := k2.ofNaL (i := i) (by rw [List.getElem?_set_self hi])
    rw [List.set_set] at k3
    exact q v H' k3.len k3.ok k3.c
  · exact q.elim
def outM (e : En) (Q : M1 → Prop) : R Slot → Prop
  | .ok (.sh d) => Q (.ok (.sh d) e)
  | .ok (.ow d) => Q (.ok (.ow d) e)
  | .ok (.nd d) => Q (.ok (.nd d) e)
  | .ok _ => False
  | .ex c fs => Q (.ex c fs e)
theorem Zz4 {e : En} {Q Q' : M1 → Prop} (m : ∀ r, Q r → Q' r) : ∀ r, outM e Q r → outM e Q' r
  | .ok (.sh d), h => m _ h
  | .ok (.ow d), h => m _ h
  | .ok (.nd d), h => m _ h
  | .ok .un, h => h
  | .ok (.bo _), h => h
  | .ok (.bt _), h => h
  | .ok (.lk _ _), h => h
  | .ok (.lo _ _ _), h => h
  | .ok (.nb _), h => h
  | .ok (.ln _ _), h => h
  | .ok (.xc _), h => h
  | .ok (.xe _ _ _), h => h
  | .ok (.na _ _), h => h
  | .ok (.rt _ _), h => h
  | .ex c fs, h => m _ h
def Zsi (γ : G) (wm : WM) : WM := fun env Q => wm env (mk1 (fun x e1 => γ [x.arg] (outM e1 Q)) Q)
theorem Zv3 {γ : G} (m : Zc1 γ) (h : Zhs wm) : Zhs (Zsi γ wm) := fun env Q Q' mq q => Zm5 h (fun x e z => m _ _ _ (Zz4 mq) z) mq q
theorem Z0w {k j : Nat} {γ : G} {x : Str} (A : FnAt X.prog X.w F.K F.mg X.base x k 1 γ) (hr : Room j X.A) (hj : k ≤ j) (tk : Takes X W) (ha : DM X F W e wm)
    (hg : Gl X x := by rfl) (hdb : (x == ("__debug__" : Str)) = false := by decide) (he : starEach [e] X.env = (false, eval e X.env) :: starEach [] X.env := by rfl) (hpl : (backTo pos (starEach ([] : List Expr) X.env)).any (·.1) = false := by rfl) (hK : X.K = F.K := by rfl) (hM : X.mg = F.mg := by rfl) :
    DM X F W (.Call (.Name x p) [e] [] pos) (Zsi γ wm) := by
  obtain ⟨⟨f, fd, ps, Fk, hm, hk, hb⟩, m⟩ := A
  refine ⟨Zb5 (pe_callS (E := L2.WE W) (sp := spG F.K F.mg 1 γ) (by rw [hK, hM]; exact Fk) (hr.mono hj) hg (by rw [hM]; exact hm) (by rw [hK]; exact hk) (by rw [hK]; exact hb) (fun σ => passAt tk σ) (pa_cons ha.run pa_nil he) hdb he hpl) fun σ H Q ⟨l, env, k, hl, q⟩ => ⟨l, env, k, hl, Zrd ha.mono q (fun x e1 z hlen ho v H1 c1 => ?_) fun c fs e z => z⟩, Zv3 m ha.mono⟩
  obtain ⟨S, g, cc, pw, ce⟩ := C.enter (xs := [x]) (vs := [v]) (l := l ++ e1.zip σ) c1 rfl
  refine ⟨rfl, [x.arg], S, H1, rfl, fun y hy => ?_, ce, m _ _ _ (fun r z => ?_) z⟩
  · obtain rfl : y = x.arg := by simpa using hy
    exact Zy0 x
  · cases r with
    | ok y =>
      cases y with
      | sh d => exact fun v H' c2 => z v H' hlen ho (C.leave g cc pw c2 fun p hp => by
          have e : p = (.sh d, some v) := by simpa using hp
          exact .inl ⟨d, _, e⟩)
      | ow d => exact fun v H' c2 => z v H' hlen ho (C.leave g cc pw c2 fun p hp => by
          have e : p = (.ow d, some v) := by simpa using hp
          exact .inr (.inl ⟨d, _, e⟩))
      | nd d => exact fun v H' c2 => z v H' hlen ho (C.leave g cc pw c2 fun p hp => by
          have e : p = (.nd d, some v) := by simpa using hp
          exact .inr (.inr ⟨d, _, e⟩))
      | _ => exact (show False from z).elim
    | ex c fs => exact fun A d H' hA hx c2 => z A d H' hA hx ⟨hlen, ho, C.leave (m := []) g cc pw (by rw [show [x.arg] = [x].map Slot.arg from rfl, Zue] at c2; exact c2) fun p hp => by simp at hp⟩
end
end DL
set_option Elab.async false
set_option linter.all false
set_option maxRecDepth 100000
set_option maxHeartbeats 4000000
namespace DLQ
open PySem PySem.Spec PySem.Calls PyProof.Rows PySem.W Builtin Builtin.ObjectAttr Builtin.Getset_descriptor
section
structure AtX (h : Heap) (x : Addr) (ox : Obj) (C : Addr) : Prop where
  at_ : h.get? x = some ox
  cls : ox.cls = .ref C
theorem AtX.type {M : Model} {h : Heap} {x C : Addr} {ox : Obj} (I : AtX h x ox C) : Looks M h (typeOf (.ref x)) (.ref C) := I.cls ▸ (Looks.ld I.at_).andThen .now
variable {prog : Program} {w : World} {A : Around} {E : Value → Shared → Prop} {s : Shared} {K : Frag} {x D : Addr} {ox : Obj}
end
end DLQ
namespace DL
open PySem PySem.Spec PyProof.Rows L2
section
variable {X : Cx} {F : Fr} {W : WX} {e : Expr} {we : WE} {p tp pos : Pos} {a A : Addr} {oe : Obj} {dd : Option Addr} {pn : List (Addr × Obj)} {c T : Str} {b : Bool}
end
end DL
set_option Elab.async false
set_option linter.all false
set_option maxRecDepth 100000
set_option maxHeartbeats 4000000
namespace DL
open PySem PySem.Spec PyProof.Rows L2
def oRev : O1 := fun x k => match x.dat with
  | some (.lst ds) => k (.ow (.lst ds.reverse))
  | _ => False
theorem Zs5 : Zg1 oRev := fun x k k' m h => by
  unfold oRev at h ⊢
  split at h
  · exact m _ h
  · exact h.elim
section
variable {X : Cx} {F : Fr} {W : WX} {e : Expr} {we : WE} {k : Nat} {p1 p2 p3 pos : Pos}
theorem Z5f (he : DE X F W e we) (hK : X.K = F.K := by rfl) : DE X F W (.Subscript e (.Slice none none (some (.UnaryOp .USub (.Constant (.int 1) k p1) p2)) p3) pos) (wUn oRev we) := by
  refine ⟨Zb5 (pe_revL he.run) fun σ H Q ⟨l, env, k, q⟩ => ⟨l, env, k, Zcb he.mono q (fun x hx v H1 c1 => ?_) fun c fs z => z⟩, Zai he.mono Zs5⟩
  unfold oRev at hx
  split at hx
  · rename_i ds hd
    have pwl : (l ++ env.zip σ).Pairwise (Zby H1) := by obtain ⟨_, _, _, pw⟩ := c1; exact (List.pairwise_cons.mp pw).2
    obtain ⟨p, vs, ea, hq, hlen, S, g, r, cc, _⟩ := c1.seqL hd
    cases ea
    exact ⟨p, vs, rfl, by rw [hK]; exact hq, fun n hn => hx _ _ (C.newFrom g (fun q hq => cc q (List.mem_cons_of_mem _ hq)) pwl r.rev hn)⟩
  · exact hx.elim
end
end DL
set_option Elab.async false
set_option linter.all false
set_option maxRecDepth 100000
set_option maxHeartbeats 4000000
namespace DL
open PySem PySem.Spec PyProof.Rows L2
inductive Fault where
  | stuck | exc (c : Str) (fs : List (Str × D))
abbrev P := Except Fault
@[reducible] def stuck {α : Type} : P α := .error .stuck
@[reducible] def raise {α : Type} (c : String) : P α := .error (.exc (PySem.Str.ofString c) [])
def Ze1 {α β : Type} (a : α) (f : α → β) : β := f a
def bd {α β : Type} (m : P α) (f : α → P β) : P β := match m with
  | .ok a => f a
  | .error e => .error e
theorem Zas {α β : Type} {a : α} {f : α → P β} : bd (.ok a) f = f a := rfl
def grd {α : Type} (p : Prop) [Decidable p] (m : P α) : P α := if p then m else stuck
theorem Zzg {α : Type} {p : Prop} [Decidable p] {m : P α} (h : p) : grd p m = m := if_pos h
inductive Out (σ ρ : Type) where
  | nx (s : σ) | ct (s : σ) | bk (s : σ) | ret (r : ρ)
def Zft {α σ ρ : Type} (step : σ → α → P (Out σ ρ)) : List α → σ → P (Out σ ρ)
  | [], s => .ok (.nx s)
  | x :: xs, s => bd (step s x) fun o => match o with
    | .nx s' => Zft step xs s'
    | .ct s' => Zft step xs s'
    | .bk s' => .ok (.nx s')
    | .ret r => .ok (.ret r)
def Zdk {α σ : Type} (step : σ → α → P σ) : List α → σ → P σ
  | [], s => .ok s
  | x :: xs, s => bd (step s x) fun s' => Zdk step xs s'
def aft {σ ρ τ : Type} (m : P (Out σ ρ)) (ret : ρ → P τ) (nx : σ → P τ) : P τ := bd m fun o => match o with
  | .nx s => nx s
  | .ct s => nx s
  | .bk s => nx s
  | .ret r => ret r
def whN {σ ρ : Type} (c : σ → P Bool) (step : σ → P (Out σ ρ)) : Nat → σ → P (Out σ ρ)
  | 0, _ => stuck
  | n + 1, s => bd (c s) fun b => cond b (bd (step s) fun o => match o with
    | .nx s' => whN c step n s'
    | .ct s' => whN c step n s'
    | .bk s' => .ok (.nx s')
    | .ret r => .ok (.ret r)) (.ok (.nx s))
noncomputable def whX {σ ρ : Type} (c : σ → P Bool) (step : σ → P (Out σ ρ)) (s : σ) : P (Out σ ρ) :=
  open Classical in if h : ∃ n, whN c step n s ≠ stuck then whN c step h.choose s else stuck
def wnN {σ : Type} (c : σ → P Bool) (step : σ → P σ) : Nat → σ → P σ
  | 0, _ => stuck
  | n + 1, s => bd (c s) fun b => cond b (bd (step s) fun s' => wnN c step n s') (.ok s)
noncomputable def whN' {σ : Type} (c : σ → P Bool) (step : σ → P σ) (s : σ) : P σ :=
  open Classical in if h : ∃ n, wnN c step n s ≠ stuck then wnN c step h.choose s else stuck
theorem Zvt {σ : Type} {c : σ → P Bool} {step : σ → P σ} : ∀ {n : Nat} {s : σ} {r : P σ}, wnN c step n s = r → r ≠ stuck → wnN c step (n + 1) s = r
  | 0, s, r, h, hr => (hr h.symm).elim
  | n + 1, s, r, h, hr => by
    rw [wnN] at h ⊢
    cases hc : c s with
    | error e => rw [hc] at h; exact h
    | ok b =>
      rw [hc] at h
      cases b with
      | false => exact h
      | true =>
        simp only [bd, cond_true] at h ⊢
        cases hs : step s with
        | error e => rw [hs] at h; exact h
        | ok s' => rw [hs] at h; exact Zvt h hr
theorem Z20 {σ : Type} {c : σ → P Bool} {step : σ → P σ} {n m : Nat} {s : σ} {r : P σ} (h : wnN c step n s = r) (hr : r ≠ stuck) (hm : n ≤ m) : wnN c step m s = r := by
  induction hm with
  | refl => exact h
  | step _ ih => exact Zvt ih hr
theorem Zuo {σ : Type} {c : σ → P Bool} {step : σ → P σ} {n : Nat} {s : σ} {r : P σ} (h : wnN c step n s = r) (hr : r ≠ stuck) : whN' c step s = r := by
  have ex : ∃ n, wnN c step n s ≠ stuck := ⟨n, by rw [h]; exact hr⟩
  unfold whN'
  rw [dif_pos ex]
  have h2 := Z20 (r := wnN c step ex.choose s) rfl ex.choose_spec (Nat.le_max_left ex.choose n)
  have h3 := Z20 h hr (Nat.le_max_right ex.choose n)
  rw [← h2, h3]
theorem Zr6 {σ ρ : Type} {c : σ → P Bool} {step : σ → P (Out σ ρ)} : ∀ {n : Nat} {s : σ} {r : P (Out σ ρ)}, whN c step n s = r → r ≠ stuck → whN c step (n + 1) s = r
  | 0, s, r, h, hr => (hr h.symm).elim
  | n + 1, s, r, h, hr => by
    rw [whN] at h ⊢
    cases hc : c s with
    | error e => rw [hc] at h; exact h
    | ok b =>
      rw [hc] at h
      cases b with
      | false => exact h
      | true =>
        simp only [bd, cond_true] at h ⊢
        cases hs : step s with
        | error e => rw [hs] at h; exact h
        | ok o =>
          rw [hs] at h
          cases o with
          | nx s' => exact Zr6 h hr
          | ct s' => exact Zr6 h hr
          | bk s' => exact h
          | ret r' => exact h
theorem Z2q {σ ρ : Type} {c : σ → P Bool} {step : σ → P (Out σ ρ)} {n m : Nat} {s : σ} {r : P (Out σ ρ)} (h : whN c step n s = r) (hr : r ≠ stuck) (hm : n ≤ m) : whN c step m s = r := by
  induction hm with
  | refl => exact h
  | step _ ih => exact Zr6 ih hr
theorem Z2t {σ ρ : Type} {c : σ → P Bool} {step : σ → P (Out σ ρ)} {n : Nat} {s : σ} {r : P (Out σ ρ)} (h : whN c step n s = r) (hr : r ≠ stuck) : whX c step s = r := by
  have ex : ∃ n, whN c step n s ≠ stuck := ⟨n, by rw [h]; exact hr⟩
  unfold whX
  rw [dif_pos ex]
  have h2 := Z2q (r := whN c step ex.choose s) rfl ex.choose_spec (Nat.le_max_left ex.choose n)
  have h3 := Z2q h hr (Nat.le_max_right ex.choose n)
  rw [← h2, h3]
def Zns {α : Type} (m : P α) (f : α → Slot) (Q : R Slot → Prop) : Prop := match m with
  | .ok a => Q (.ok (f a))
  | .error (.exc c fs) => Q (.ex c fs)
  | .error .stuck => False
def Zeb {α : Type} (m : P α) (cv : α → O) (K : O → Prop) : Prop := match m with
  | .ok a => K (cv a)
  | .error (.exc c fs) => ∀ e, K (.ex c fs e)
  | .error .stuck => False
def EvP (env : En) (w : WE) (s : Slot) : Prop := ∀ Q : R Slot → Prop, Q (.ok s) → w env Q
def EvM {α : Type} (env : En) (w : WE) (f : α → Slot) (m : P α) : Prop := ∀ Q : R Slot → Prop, Zns m f Q → w env Q
def EvA (env : En) (w : WA) (xs : List Slot) : Prop := ∀ Q : R (List Slot) → Prop, Q (.ok xs) → w env Q
def EvI (env : En) (w : WI) (ds : List D) : Prop := ∀ Q : R (List D) → Prop, Q (.ok ds) → w env Q
def EvO (env : En) (w : WO) (o : Option Int) : Prop := ∀ Q : R (Option Int) → Prop, Q (.ok o) → w env Q
def OpP (o : O2) (x y z : Slot) : Prop := ∀ k : Slot → Prop, k z → o x y k
def UnP (o : O1) (x z : Slot) : Prop := ∀ k : Slot → Prop, k z → o x k
def ofO {α : Type} : Option α → P α
  | some a => .ok a
  | none => stuck
def OpM {α : Type} (o : O2) (x y : Slot) (f : α → Slot) (m : Option α) : Prop := ∀ (k : Slot → Prop) (a : α), m = some a → k (f a) → o x y k
def UnM {α : Type} (o : O1) (x : Slot) (f : α → Slot) (m : Option α) : Prop := ∀ (k : Slot → Prop) (a : α), m = some a → k (f a) → o x k
def Sim {α : Type} (γ : G) (xs : List Slot) (f : α → Slot) (m : P α) : Prop := ∀ Q : R Slot → Prop, Zns m f Q → γ xs Q
def B {τ : Type} (env : En) (w : WS) (cv : τ → O) (m : P τ) : Prop := ∀ K : O → Prop, Zeb m cv K → w env K
def BT {τ : Type} (env : En) (g : WG) (v : Slot) (w : WS) (cv : τ → O) (m : P τ) : Prop := ∀ K : O → Prop, Zeb m cv K → g v env fun e => w e K
@[reducible] def shE {α : Type} (enc : α → D) : α → Slot := fun a => .sh (enc a)
@[reducible] def owE {α : Type} (enc : α → D) : α → Slot := fun a => .ow (enc a)
@[reducible] def blE : Bool → Slot := fun b => .sh (.bl b)
theorem specE_bd {α β : Type} {m : P α} {mm : α → P β} {g : β → Slot} {Q : R Slot → Prop} (h : Zns (bd m mm) g Q) : (∃ a, m = .ok a ∧ Zns (mm a) g Q) ∨ ∃ c fs, m = .error (.exc c fs) ∧ Q (.ex c fs) := by
  cases m with
  | ok a => exact .inl ⟨a, rfl, h⟩
  | error e => cases e with
    | stuck => exact h.elim
    | exc c fs => exact .inr ⟨c, fs, rfl, h⟩
theorem specO_bd {α β : Type} {m : P α} {mm : α → P β} {cv : β → O} {K : O → Prop} (h : Zeb (bd m mm) cv K) : (∃ a, m = .ok a ∧ Zeb (mm a) cv K) ∨ ∃ c fs, m = .error (.exc c fs) ∧ ∀ e, K (.ex c fs e) := by
  cases m with
  | ok a => exact .inl ⟨a, rfl, h⟩
  | error e => cases e with
    | stuck => exact h.elim
    | exc c fs => exact .inr ⟨c, fs, rfl, h⟩
section
variable {env : En} {w wa wb wc : WE} {wA : WA} {wi : WI} {α β δ : Type}
theorem EvP.m {f : α → Slot} {v : α} (h : EvP env w (f v)) : EvM env w f (.ok v) := fun Q q => h Q q
theorem Zol {m : Option α} {f : α → Slot} {Q : R Slot → Prop} (q : Zns (ofO m) f Q) : ∃ a, m = some a ∧ Q (.ok (f a)) := by
  cases m with
  | some a => exact ⟨a, rfl, q⟩
  | none => exact q.elim
theorem Zau {o : O1} {x z : Slot} (h : EvP env wa x) (ho : UnP o x z) : EvP env (wUn o wa) z := fun Q q => h _ (ho _ q)
theorem Zei {o : O1} {x : Slot} {f : α → Slot} {m : Option α} (h : EvP env wa x) (ho : UnM o x f m) : EvM env (wUn o wa) f (ofO m) := fun Q q => h _ (by
  obtain ⟨a, e, q⟩ := Zol q
  exact ho _ a e q)
theorem Zre {k : Slot → Prop} {fa : α → Slot} {ma : P α} {mm : α → P β} {f : β → Slot} {Q : R Slot → Prop} (h : EvM env wa fa ma) (q : Zns (bd ma mm) f Q) (hk : ∀ a, Zns (mm a) f Q → k (fa a)) : wa env (rk k Q) := h _ (by
  rcases specE_bd q with ⟨a, e, q⟩ | ⟨c, fs, e, q⟩
  · rw [e]; exact hk a q
  · rw [e]; exact q)
theorem Z0s {o : O1} {fa : α → Slot} {ma : P α} {f : β → Slot} {mm : α → Option β} (h : EvM env wa fa ma) (ho : ∀ a, UnM o (fa a) f (mm a)) : EvM env (wUn o wa) f (bd ma fun a => ofO (mm a)) := fun Q q =>
  Zre h q fun a q => by
    obtain ⟨b, e, q⟩ := Zol q
    exact ho a _ b e q
theorem Za4 {o : O2} {x y z : Slot} (h : EvP env wa x) (h2 : EvP env wb y) (ho : OpP o x y z) : EvP env (wOp o wa wb) z := fun Q q => h _ (h2 _ (ho _ q))
theorem Zcq {o : O2} {x y : Slot} {f : α → Slot} {m : Option α} (h : EvP env wa x) (h2 : EvP env wb y) (ho : OpM o x y f m) : EvM env (wOp o wa wb) f (ofO m) := fun Q q => h _ (h2 _ (by
  obtain ⟨a, e, q⟩ := Zol q
  exact ho _ a e q))
theorem Zfu {o : O2} {x : Slot} {fa : α → Slot} {ma : P α} {f : β → Slot} {mm : α → β} (h : EvP env wa x) (h2 : EvM env wb fa ma) (ho : ∀ a, OpP o x (fa a) (f (mm a))) : EvM env (wOp o wa wb) f (bd ma fun a => .ok (mm a)) := fun Q q => h _ (Zre h2 q fun a q => ho a _ q)
theorem Zsj {o : O2} {y : Slot} {fa : α → Slot} {ma : P α} {f : β → Slot} {mm : α → β} (h : EvM env wa fa ma) (h2 : EvP env wb y) (ho : ∀ a, OpP o (fa a) y (f (mm a))) : EvM env (wOp o wa wb) f (bd ma fun a => .ok (mm a)) := fun Q q => Zre h q fun a q => h2 _ (ho a _ q)
theorem Zxi {o : O2} {fa : α → Slot} {ma : P α} {fb : δ → Slot} {mb : P δ} {f : β → Slot} {mm : α → δ → β} (h : EvM env wa fa ma) (h2 : EvM env wb fb mb) (ho : ∀ a b, OpP o (fa a) (fb b) (f (mm a b))) : EvM env (wOp o wa wb) f (bd ma fun a => bd mb fun b => .ok (mm a b)) := fun Q q => Zre h q fun a q => Zre h2 q fun b q => ho a b _ q
theorem Zaf {i : Nat} {d : D} (h : env[i]? = some (.sh d)) : EvP env (wVar i) (.sh d) := fun Q q => by
  unfold wVar; rw [h]; exact q
theorem Zij {i : Nat} {d : D} (h : env[i]? = some (.bo d)) : EvP env (wVar i) (.bo d) := fun Q q => by
  unfold wVar; rw [h]; exact q
theorem Zbr {i : Nat} {d : D} (h : env[i]? = some (.ow d)) : EvP env (wVar i) (.bt d) := fun Q q => by
  unfold wVar; rw [h]; exact q
theorem Zap {i : Int} : EvP env (wInt i) (.sh (.int i)) := fun Q q => q
theorem Zcz {i : Bool} : EvP env (wBl i) (.sh (.bl i)) := fun Q q => q
theorem Zb1 {i : Str} : EvP env (wStr i) (.sh (.str i)) := fun Q q => q
theorem Zmg : EvP env wNon (.sh .non) := fun Q q => q
theorem Zjf {b : Bool} (h : EvP env wa (.sh (.bl b))) : EvP env (wNot wa) (.sh (.bl !b)) := fun Q q => h _ q
theorem Ze0 {m : P Bool} (h : EvM env wa blE m) : EvM env (wNot wa) blE (bd m fun b => .ok !b) := fun Q q => Zre h q fun a q => q
theorem Zz5 {a b : Bool} (h : EvP env wa (.sh (.bl a))) (h2 : EvP env wb (.sh (.bl b))) : EvP env (wAnd wa wb) (.sh (.bl (a && b))) := fun Q q => h _ (by
  cases a
  · exact q
  · exact h2 _ q)
theorem Zv6 {a b : Bool} (h : EvP env wa (.sh (.bl a))) (h2 : EvP env wb (.sh (.bl b))) : EvP env (wOr wa wb) (.sh (.bl (a || b))) := fun Q q => h _ (by
  cases a
  · exact h2 _ q
  · exact q)
theorem Zq9 {a : Bool} {m : P Bool} (h : EvP env wa (.sh (.bl a))) (h2 : EvM env wb blE m) : EvM env (wAnd wa wb) blE (cond a m (.ok false)) := fun Q q => h _ (by
  cases a
  · exact q
  · exact h2 _ q)
theorem Zzb {a : Bool} {m : P Bool} (h : EvP env wa (.sh (.bl a))) (h2 : EvM env wb blE m) : EvM env (wOr wa wb) blE (cond a (.ok true) m) := fun Q q => h _ (by
  cases a
  · exact h2 _ q
  · exact q)
theorem Zts {n m : P Bool} (h : EvM env wa blE n) (h2 : EvM env wb blE m) : EvM env (wAnd wa wb) blE (bd n fun a => cond a m (.ok false)) := fun Q q => Zre h q fun a q => by
  cases a
  · exact q
  · exact h2 _ q
theorem Zsa {n m : P Bool} (h : EvM env wa blE n) (h2 : EvM env wb blE m) : EvM env (wOr wa wb) blE (bd n fun a => cond a (.ok true) m) := fun Q q => Zre h q fun a q => by
  cases a
  · exact h2 _ q
  · exact q
theorem op_add {a b : Int} : OpP oAdd (.sh (.int a)) (.sh (.int b)) (.sh (.int (a + b))) := fun k q => q
theorem op_mul {a b : Int} (h : CMul a b) : OpP oMul (.sh (.int a)) (.sh (.int b)) (.sh (.int (a * b))) := fun k q => ⟨h, q⟩
theorem op_mod {a b : Int} (h : 0 < b) : OpP oMod (.sh (.int a)) (.sh (.int b)) (.sh (.int (a % b))) := fun k q => ⟨h, q⟩
theorem Z6h {a b : Int} (h : CDivW a b) : OpP oDiv (.sh (.int a)) (.sh (.int b)) (.sh (.int (a / b))) := fun k q => ⟨h, q⟩
theorem op_pow {a b c : Int} (h : CPow a b) (e : a ^ b.toNat = c) : OpP oPow (.sh (.int a)) (.sh (.int b)) (.sh (.int c)) := fun k q => ⟨h, by subst e; exact q⟩
def modO (a b : Int) : Option Int := if 0 < b then some (a % b) else none
def divO (a b : Int) : Option Int := if 0 < b ∧ b ≤ 1000000000000000000000000000000 then some (a / b) else none
theorem Zxs {i j : Int} (h : 0 ≤ j ∧ j < 2 ^ 64) : CMul i j := .inr ⟨by omega, h.2⟩
theorem Zxa {i j : Int} (h : 0 ≤ i ∧ i < 2 ^ 64) : CMul i j := .inl ⟨by omega, h.2⟩
theorem Zy1 {a s : Int} (h : 0 < s ∧ s ≤ 1000000000000000000000000000000) : CDivW a s := by
  refine ⟨h.1, ?_⟩
  have h1 : s.natAbs < 2 ^ 100 := by have := h.2; omega
  have h2 : s.natAbs ≠ 0 := by omega
  exact Nat.lt_trans ((Nat.log2_lt h2).mpr h1) (by decide)
theorem Zro {a b : Int} : OpM oMod (.sh (.int a)) (.sh (.int b)) (shE D.int) (modO a b) := fun k c e q => by
  unfold modO at e
  split at e
  · rename_i h
    cases e
    exact ⟨h, q⟩
  · cases e
theorem Z34 {a b : Int} : OpM oDiv (.sh (.int a)) (.sh (.int b)) (shE D.int) (divO a b) := fun k c e q => by
  unfold divO at e
  split at e
  · rename_i h
    cases e
    exact ⟨Zy1 h, q⟩
  · cases e
theorem un_neg {a : Int} : UnP oNeg (.sh (.int a)) (.sh (.int (-a))) := fun k q => q
theorem op_lt {a b : Int} : OpP oLt (.sh (.int a)) (.sh (.int b)) (.sh (.bl (decide (a < b)))) := fun k q => q
theorem op_le {a b : Int} : OpP oLe (.sh (.int a)) (.sh (.int b)) (.sh (.bl (decide (a ≤ b)))) := fun k q => q
theorem op_gt {a b : Int} : OpP oGt (.sh (.int a)) (.sh (.int b)) (.sh (.bl (decide (b < a)))) := fun k q => q
theorem op_ge {a b : Int} : OpP oGe (.sh (.int a)) (.sh (.int b)) (.sh (.bl (decide (b ≤ a)))) := fun k q => q
theorem Z6z {a b : Int} : OpP oMin (.sh (.int a)) (.sh (.int b)) (.sh (.int (imin a b))) := fun k q => q
theorem Zyf {o1 o2 : O2} {x y z : Slot} {a b : Bool} (h1 : EvP env wa x) (h2 : EvP env wb y) (h3 : EvP env wc z) (p1 : OpP o1 x y (.sh (.bl a))) (p2 : OpP o2 y z (.sh (.bl b))) : EvP env (Zwi o1 o2 wa wb wc) (.sh (.bl (a && b))) := fun Q q => h1 _ (h2 _ (p1 _ (by
  cases a
  · exact q
  · exact h3 _ (p2 _ q))))
def encL (f : α → D) (xs : List α) : D := .lst (xs.map f)
def encO (f : α → D) : Option α → D
  | none => .non
  | some a => f a
end
structure Tx where
  s : Str
  ok : PyData.canLay0 (.str s) = true
def encS (t : Tx) : D := .str t.s
instance : DecidableEq Tx := fun a b => if h : a.s = b.s then isTrue (by cases a; cases b; cases h; rfl) else isFalse fun e => h (by rw [e])
def tx (s : String) (h : PyData.canLay0 (.str (PySem.Str.ofString s)) = true := by decide +kernel) : Tx := ⟨PySem.Str.ofString s, h⟩
structure T2 (a b : Type) where
  (x1 : a) (x2 : b)
  deriving DecidableEq
structure T3 (a b c : Type) where
  (x1 : a) (x2 : b) (x3 : c)
  deriving DecidableEq
structure T4 (a b c d : Type) where
  (x1 : a) (x2 : b) (x3 : c) (x4 : d)
  deriving DecidableEq
structure T5 (a b c d e : Type) where
  (x1 : a) (x2 : b) (x3 : c) (x4 : d) (x5 : e)
  deriving DecidableEq
structure T6 (a b c d e f : Type) where
  (x1 : a) (x2 : b) (x3 : c) (x4 : d) (x5 : e) (x6 : f)
  deriving DecidableEq
section
variable {a b c d e f : Type}
def enc2 (fa : a → D) (fb : b → D) (t : T2 a b) : D := .tup [fa t.x1, fb t.x2]
def enc3 (fa : a → D) (fb : b → D) (fc : c → D) (t : T3 a b c) : D := .tup [fa t.x1, fb t.x2, fc t.x3]
def enc4 (fa : a → D) (fb : b → D) (fc : c → D) (fd : d → D) (t : T4 a b c d) : D := .tup [fa t.x1, fb t.x2, fc t.x3, fd t.x4]
def enc5 (fa : a → D) (fb : b → D) (fc : c → D) (fd : d → D) (fe : e → D) (t : T5 a b c d e) : D := .tup [fa t.x1, fb t.x2, fc t.x3, fd t.x4, fe t.x5]
end
structure Dct (κ α : Type) where
  l : List (κ × α)
def kI (i : Int) : L2.Key := .inl i
def kII (t : T2 Int Int) : List L2.Key := [.inl t.x1, .inl t.x2]
def encK {κ α : Type} (g : κ → L2.Key) (f : α → D) (m : Dct κ α) : D := .dk (m.l.map fun p => (g p.1, f p.2))
def encT {κ α : Type} (g : κ → List L2.Key) (f : α → D) (m : Dct κ α) : D := .dt (m.l.map fun p => (g p.1, f p.2))
section
variable {κ α : Type} [DecidableEq κ]
def Dct.get (m : Dct κ α) (k : κ) : Option α := lk m.l k
def Dct.has (m : Dct κ α) (k : κ) : Bool := (m.get k).isSome
def Dct.put (m : Dct κ α) (k : κ) (a : α) : Dct κ α := ⟨DL.put m.l k a⟩
def Dct.putO (m : Dct κ α) (k : κ) (a : α) : Option (Dct κ α) := if m.l.length < 16777216 then some (m.put k a) else none
end
def Dct.emp {κ α : Type} : Dct κ α := ⟨[]⟩
def Dct.keys {κ α : Type} (m : Dct κ α) : List κ := m.l.map (·.1)
structure EqE {α : Type} [DecidableEq α] (n : Nat) (f : α → D) : Prop where
  lay : ∀ a, PyData.canLay0 (f a).py = true
  eq : ∀ a b, PyData.eqv (f a).py (f b).py = decide (a = b)
  dep : ∀ a, (f a).py.depth ≤ n
section
variable {a b c d e f : Type} [DecidableEq a] [DecidableEq b] [DecidableEq c] [DecidableEq d] [DecidableEq e] [DecidableEq f] {n m : Nat}
variable {fa : a → D} {fb : b → D} {fc : c → D} {fd : d → D} {fe : e → D} {ff : f → D}
theorem EqE.up (h : EqE n fa) (hm : n ≤ m) : EqE m fa := ⟨h.lay, h.eq, fun x => Nat.le_trans (h.dep x) hm⟩
theorem eqe_int : EqE 1 D.int := ⟨fun _ => rfl, fun i j => by
  show PyData.eqv (.int i) (.int j) = _
  unfold PyData.eqv; rfl, fun i => by show PyData.depth (.int i) ≤ _; unfold PyData.depth; omega⟩
theorem eqe_str : EqE 1 encS := ⟨fun t => t.ok, fun i j => by
  show PyData.eqv (.str i.s) (.str j.s) = _
  unfold PyData.eqv
  by_cases h : i = j
  · subst h; simp
  · rw [decide_eq_false h]
    exact beq_eq_false_iff_ne.mpr fun z => h (by cases i; cases j; cases z; rfl), fun i => by show PyData.depth (.str i.s) ≤ _; unfold PyData.depth; omega⟩
theorem Zzc {x : PyData} (h : x ≠ .none) : PyData.eqv .none x = false := by
  cases x <;> first | exact absurd rfl h | (unfold PyData.eqv; rfl)
theorem Zyx {x : PyData} (h : x ≠ .none) : PyData.eqv x .none = false := by
  cases x <;> first | exact absurd rfl h | (unfold PyData.eqv; rfl)
theorem eqe_opt (h : EqE n fa) (hn : ∀ x, (fa x).py ≠ .none) (h1 : 1 ≤ n) : EqE n (encO fa) := ⟨fun x => by
  cases x with
  | none => rfl
  | some x => exact h.lay x, fun x y => by
  cases x with
  | none => cases y with
    | none => show PyData.eqv .none .none = _; unfold PyData.eqv; rfl
    | some y => show PyData.eqv .none (fa y).py = _; rw [Zzc (hn y)]; rfl
  | some x => cases y with
    | none => show PyData.eqv (fa x).py .none = _; rw [Zyx (hn x)]; rfl
    | some y =>
      show PyData.eqv (fa x).py (fa y).py = _
      rw [h.eq]
      exact decide_eq_decide.mpr ⟨fun z => by rw [z], fun z => Option.some.inj z⟩, fun x => by
  cases x with
  | none => show PyData.depth .none ≤ _; unfold PyData.depth; omega
  | some x => exact h.dep x⟩
theorem Zqt (h : ∀ x y : a, PyData.eqv (fa x).py (fa y).py = decide (x = y)) : ∀ xs ys : List a, PyData.eqvAll (D.pys (xs.map fa)) (D.pys (ys.map fa)) = decide (xs = ys)
  | [], [] => by show PyData.eqvAll [] [] = _; unfold PyData.eqvAll; rfl
  | [], y :: ys => by show PyData.eqvAll [] (_ :: _) = _; unfold PyData.eqvAll; rfl
  | x :: xs, [] => by show PyData.eqvAll (_ :: _) [] = _; unfold PyData.eqvAll; rfl
  | x :: xs, y :: ys => by
    show PyData.eqvAll ((fa x).py :: D.pys (xs.map fa)) ((fa y).py :: D.pys (ys.map fa)) = _
    unfold PyData.eqvAll
    rw [h, Zqt h xs ys, ← Bool.decide_and]
    exact decide_eq_decide.mpr ⟨fun z => by rw [z.1, z.2], fun z => by injection z with z1 z2; exact ⟨z1, z2⟩⟩
theorem Zqg (h : ∀ x : a, PyData.canLay0 (fa x).py = true) : ∀ xs : List a, PyData.canLayAll0 (D.pys (xs.map fa)) = true
  | [] => rfl
  | x :: xs => by
    show PyData.canLayAll0 ((fa x).py :: D.pys (xs.map fa)) = true
    unfold PyData.canLayAll0
    rw [h, Zqg h xs]; rfl
theorem Zqj (h : ∀ x : a, (fa x).py.depth ≤ n) : ∀ xs : List a, PyData.depthAll (D.pys (xs.map fa)) ≤ n
  | [] => by show PyData.depthAll [] ≤ _; unfold PyData.depthAll; omega
  | x :: xs => by
    show PyData.depthAll ((fa x).py :: D.pys (xs.map fa)) ≤ n
    unfold PyData.depthAll
    have := h x
    have := Zqj h xs
    omega
theorem Z46 (h : EqE n fa) : EqE (n + 1) (encL fa) := ⟨fun xs => Zqg h.lay xs, fun xs ys => by
  show PyData.eqv (.list (D.pys (xs.map fa))) (.list (D.pys (ys.map fa))) = _
  rw [PyData.eqv, Zqt h.eq], fun xs => by
  show PyData.depth (.list (D.pys (xs.map fa))) ≤ _
  unfold PyData.depth
  have := Zqj h.dep xs
  omega⟩
theorem eqe_2 (h1 : EqE n fa) (h2 : EqE n fb) : EqE (n + 1) (enc2 fa fb) := ⟨fun x => by
  show PyData.canLayAll0 [(fa x.x1).py, (fb x.x2).py] = true
  simp [PyData.canLayAll0, h1.lay, h2.lay], fun x y => by
  show PyData.eqv (.tuple [(fa x.x1).py, (fb x.x2).py]) (.tuple [(fa y.x1).py, (fb y.x2).py]) = _
  cases x; cases y
  simp [PyData.eqv, PyData.eqvAll, h1.eq, h2.eq], fun x => by
  show PyData.depth (.tuple [(fa x.x1).py, (fb x.x2).py]) ≤ _
  have := h1.dep x.x1; have := h2.dep x.x2
  simp only [PyData.depth, PyData.depthAll]; omega⟩
theorem Z4t (h1 : EqE n fa) (h2 : EqE n fb) (h3 : EqE n fc) (h4 : EqE n fd) : EqE (n + 1) (enc4 fa fb fc fd) := ⟨fun x => by
  show PyData.canLayAll0 [(fa x.x1).py, (fb x.x2).py, (fc x.x3).py, (fd x.x4).py] = true
  simp [PyData.canLayAll0, h1.lay, h2.lay, h3.lay, h4.lay], fun x y => by
  show PyData.eqv (.tuple [(fa x.x1).py, (fb x.x2).py, (fc x.x3).py, (fd x.x4).py]) (.tuple [(fa y.x1).py, (fb y.x2).py, (fc y.x3).py, (fd y.x4).py]) = _
  cases x; cases y
  simp [PyData.eqv, PyData.eqvAll, h1.eq, h2.eq, h3.eq, h4.eq], fun x => by
  show PyData.depth (.tuple [(fa x.x1).py, (fb x.x2).py, (fc x.x3).py, (fd x.x4).py]) ≤ _
  have := h1.dep x.x1; have := h2.dep x.x2; have := h3.dep x.x3; have := h4.dep x.x4
  simp only [PyData.depth, PyData.depthAll]; omega⟩
theorem EqE.okq (h : EqE n fa) (hn : n ≤ 60) (x y : a) : EqOk (fa x) (fa y) := .inr ⟨by
  show SeqAt.shaped (fa x).py = true
  unfold SeqAt.shaped
  rw [h.lay, Bool.true_and]
  have := h.dep x
  exact decide_eq_true (by omega), by
  show SeqAt.shaped (fa y).py = true
  unfold SeqAt.shaped
  rw [h.lay, Bool.true_and]
  have := h.dep y
  exact decide_eq_true (by omega)⟩
theorem op_eq {x y : a} {u v : Slot} (h : EqE n fa) (hu : u.dat = some (fa x)) (hv : v.dat = some (fa y)) (hn : n ≤ 60 := by decide) : OpP (oEq false) u v (.sh (.bl (decide (x = y)))) := fun k q => by
  unfold oEq
  rw [hu, hv]
  refine ⟨h.okq hn x y, ?_⟩
  rw [Bool.false_xor]
  unfold eqD
  rw [h.eq]
  exact q
theorem op_ne {x y : a} {u v : Slot} (h : EqE n fa) (hu : u.dat = some (fa x)) (hv : v.dat = some (fa y)) (hn : n ≤ 60 := by decide) : OpP (oEq true) u v (.sh (.bl (!decide (x = y)))) := fun k q => by
  unfold oEq
  rw [hu, hv]
  refine ⟨h.okq hn x y, ?_⟩
  rw [Bool.true_xor]
  unfold eqD
  rw [h.eq]
  exact q
end
end DL
set_option Elab.async false
set_option linter.all false
set_option maxRecDepth 100000
set_option maxHeartbeats 4000000
namespace DL
open PySem PySem.Spec PyProof.Rows L2
section
variable {env : En} {w wa wb wc we : WE} {wA : WA} {wi : WI} {wl wh : WO} {α β δ : Type}
theorem Zao : EvA env aNil [] := fun Q q => q
theorem Zae {x : Slot} {xs : List Slot} (h : EvP env we x) (h2 : EvA env wA xs) : EvA env (Zam we wA) (x :: xs) := fun Q q => h _ (h2 _ q)
def EvK {β : Type} (env : En) (wA : WA) (f : β → Slot) (Φ : List Slot → P β → Prop) (m : P β) : Prop := ∀ (Q : R Slot → Prop) (k : List Slot → Prop), (∀ xs mm, Φ xs mm → Zns mm f Q → k xs) → Zns m f Q → wA env (rk k Q)
theorem Zbv {f : β → Slot} {Φ : List Slot → P β → Prop} {m : P β} (h : Φ [] m) : EvK env aNil f Φ m := fun Q k hk q => hk _ _ h q
theorem Zdq {f : β → Slot} {Φ : List Slot → P β → Prop} {m : P β} {x : Slot} (h : EvP env we x) (h2 : EvK env wA f (fun xs mm => Φ (x :: xs) mm) m) : EvK env (Zam we wA) f Φ m := fun Q k hk q =>
  h _ (h2 Q (fun xs => k (x :: xs)) (fun xs mm hp q => hk _ _ hp q) q)
theorem Zdu {f : β → Slot} {Φ : List Slot → P β → Prop} {fa : α → Slot} {ma : P α} {mm : α → P β} (h : EvM env we fa ma) (h2 : ∀ a, EvK env wA f (fun xs mm => Φ (fa a :: xs) mm) (mm a)) : EvK env (Zam we wA) f Φ (bd ma mm) := fun Q k hk q =>
  Zre h q fun a q => h2 a Q (fun xs => k (fa a :: xs)) (fun xs mm hp q => hk _ _ hp q) q
theorem Zb7 {xs : List Slot} {ds : List D} (h : EvA env wA xs) (hs : stabs xs = some ds) (hl : ds.length ≤ 16777216) : EvP env (wTup wA) (.sh (.tup ds)) := fun Q q => h _ (by
  show (match stabs xs with | some ds => ds.length ≤ 16777216 ∧ Q (.ok (.sh (.tup ds))) | none => False)
  rw [hs]; exact ⟨hl, q⟩)
theorem Zce {xs : List Slot} {ds : List D} (h : EvA env wA xs) (hs : stabs xs = some ds) (hl : ds.length ≤ 16777216) : EvP env (wLst wA) (.ow (.lst ds)) := fun Q q => h _ (by
  show (match stabs xs with | some ds => ds.length ≤ 16777216 ∧ Q (.ok (.ow (.lst ds))) | none => False)
  rw [hs]; exact ⟨hl, q⟩)
theorem Zga {f : β → Slot} {m : P β} (h : EvK env wA f (fun xs mm => ∃ v ds, stabs xs = some ds ∧ ds.length ≤ 16777216 ∧ f v = .sh (.tup ds) ∧ mm = .ok v) m) : EvM env (wTup wA) f m := fun Q q => h Q _ (fun xs mm ⟨v, ds, e1, hl, e2, e3⟩ q => by
  subst e3
  show (match stabs xs with | some ds => ds.length ≤ 16777216 ∧ Q (.ok (.sh (.tup ds))) | none => False)
  rw [e1]
  have q' : Q (.ok (f v)) := q
  rw [e2] at q'
  exact ⟨hl, q'⟩) q
theorem Z4i {f : β → Slot} {m : P β} (h : EvK env wA f (fun xs mm => ∃ v ds, stabs xs = some ds ∧ ds.length ≤ 16777216 ∧ f v = .ow (.lst ds) ∧ mm = .ok v) m) : EvM env (wLst wA) f m := fun Q q => h Q _ (fun xs mm ⟨v, ds, e1, hl, e2, e3⟩ q => by
  subst e3
  show (match stabs xs with | some ds => ds.length ≤ 16777216 ∧ Q (.ok (.ow (.lst ds))) | none => False)
  rw [e1]
  have q' : Q (.ok (f v)) := q
  rw [e2] at q'
  exact ⟨hl, q'⟩) q
def Zj8 (x : Slot) : Prop := (∃ d, x = .sh d) ∨ (∃ d, x = .ow d) ∨ ∃ d, x = .nd d
theorem Zat {d : D} : Zj8 (.sh d) := .inl ⟨d, rfl⟩
theorem Zba {d : D} : Zj8 (.ow d) := .inr (.inl ⟨d, rfl⟩)
theorem Z2r {d : D} : Zj8 (.nd d) := .inr (.inr ⟨d, rfl⟩)
theorem Z3g {x : Slot} {Q : R Slot → Prop} (h : Zj8 x) (q : Q (.ok x)) : outK Q (.ok x) := by
  rcases h with ⟨d, rfl⟩ | ⟨d, rfl⟩ | ⟨d, rfl⟩ <;> exact q
theorem Zv8 {m : P α} {f : α → Slot} {Q : R Slot → Prop} (hf : ∀ a, Zj8 (f a)) (q : Zns m f Q) : Zns m f (outK Q) := by
  cases m with
  | ok a => exact Z3g (hf a) q
  | error e => cases e with
    | stuck => exact q
    | exc c fs => exact q
theorem Za7 {γ : G} {xs : List Slot} {f : α → Slot} {m : P α} (h : EvA env wA xs) (hs : Sim γ (xs.map Slot.arg) f m) (hf : ∀ a, Zj8 (f a)) : EvM env (Zbt γ wA) f m := fun Q q => h _ (hs _ (Zv8 hf q))
theorem Zcg {γ : G} {f : α → Slot} {m : P α} (hf : ∀ a, Zj8 (f a)) (h : EvK env wA f (fun xs mm => Sim γ (xs.map Slot.arg) f mm) m) : EvM env (Zbt γ wA) f m := fun Q q => h Q _ (fun xs mm hs q => hs _ (Zv8 hf q)) q
theorem Z3j (f : α → β) (xs : List α) (i : Int) : atI (xs.map f) i = (atI xs i).map f := by
  unfold atI
  rw [List.length_map]
  cases ixN xs.length i with
  | none => rfl
  | some j => exact List.getElem?_map
theorem Zzo {x : Slot} {f : α → D} {xs : List α} (h : x.dat = some (encL f xs)) : UnP oLen x (.sh (.int (xs.length : Int))) := fun k q => by
  unfold oLen; rw [h]
  show k (.sh (.int ((xs.map f).length : Int)))
  rw [List.length_map]; exact q
theorem Zlr {x : Slot} {ds : List D} {n : Nat} (h : x.dat = some (.tup ds)) (hn : ds.length = n) : UnP oLen x (.sh (.int (n : Int))) := fun k q => by
  unfold oLen; rw [h]
  show k (.sh (.int (ds.length : Int)))
  rw [hn]; exact q
theorem Z6c {x : Slot} {xs : List Int} (h : x.dat = some (encL D.int xs)) : UnP oSum x (.sh (.int xs.sum)) := fun k q => by
  unfold oSum; rw [h]; exact ⟨xs, rfl, q⟩
theorem Zt4 {x : Slot} {f : α → D} {xs : List α} (h : x.dat = some (encL f xs)) : UnP Zps x (.ow (encL f xs)) := fun k q => by
  unfold Zps; rw [h]; exact q
theorem Zuu {κ : Type} {x : Slot} {g : κ → L2.Key} {f : α → D} {m : Dct κ α} (h : x.dat = some (encK g f m)) : UnP Zpt x (.ow (encK g f m)) := fun k q => by
  unfold Zpt; rw [h]; exact q
theorem Zkb {T : String} {x : Slot} {d : D} {b : Bool} (h : x.dat = some d) (hb : isD d T = b) (hn : d.noObj = true := by rfl) : UnP (oIsi T) x (.sh (.bl b)) := fun k q => by
  unfold oIsi; rw [h]; subst hb; exact ⟨hn, q⟩
theorem Z2g {neg : Bool} {x : Slot} {d : D} {b : Bool} (h : x.dat = some d) (hb : d.isNon = b) : UnP (oIsN neg) x (.sh (.bl (neg ^^ b))) := fun k q => by
  unfold oIsN; rw [h]; subst hb; exact q
theorem Zs8 {f : α → D} (hf : ∀ a, (f a).isNon = false) (o : Option α) : (encO f o).isNon = o.isNone := by
  cases o with
  | none => rfl
  | some a => exact hf a
theorem Za0 {n : Nat} {x : Slot} {ds : List D} {d : D} (h : x.dat = some (.tup ds)) (hd : ds[n]? = some d) : UnP (oIxN n) x (.sh d) := fun k q => by
  unfold oIxN; rw [h]; dsimp only; rw [hd]; exact q
theorem Zqs {n : Nat} {x : Slot} {f : α → D} {xs : List α} (h : x.dat = some (encL f xs)) : UnM (oIxN n) x (shE f) (xs[n]?) := fun k a e q => by
  unfold oIxN; rw [h]
  show (match (xs.map f)[n]? with | some d => k (.sh d) | none => False)
  rw [List.getElem?_map, e]; exact q
theorem Zn7 {x : Slot} {f : α → D} {xs : List α} (h : x.dat = some (encL f xs)) : UnM oIxL x (shE f) xs.getLast? := fun k a e q => by
  unfold oIxL; rw [h]
  show (match (xs.map f).getLast? with | some d => k (.sh d) | none => False)
  rw [List.getLast?_map, e]; exact q
theorem Zls {x : Slot} {f : α → D} {xs : List α} {i : Int} (h : x.dat = some (encL f xs)) : OpM oIx x (.sh (.int i)) (shE f) (atI xs i) := fun k a e q => by
  unfold oIx; rw [h]
  show ∃ j z, D.int i = .int j ∧ atI (xs.map f) j = some z ∧ k (.sh z)
  exact ⟨i, f a, rfl, by rw [Z3j, e]; rfl, q⟩
section
variable {κ : Type} [DecidableEq κ]
theorem Zsw {κ' : Type} [DecidableEq κ'] (g : κ → κ') (hg : ∀ a b, g a = g b → a = b) (f : α → β) (l : List (κ × α)) (k : κ) : lk (l.map fun p => (g p.1, f p.2)) (g k) = (lk l k).map f := by
  unfold lk
  induction l with
  | nil => rfl
  | cons p l ih =>
    rw [List.map_cons, List.find?_cons, List.find?_cons]
    by_cases h : p.1 = k
    · simp [h]
    · have h' : ¬ g p.1 = g k := fun z => h (hg _ _ z)
      simp only [h, h', decide_false]
      exact ih
theorem Zx2 {κ' : Type} [DecidableEq κ'] (g : κ → κ') (hg : ∀ a b, g a = g b → a = b) (f : α → β) (l : List (κ × α)) (k : κ) (a : α) : put (l.map fun p => (g p.1, f p.2)) (g k) (f a) = (put l k a).map fun p => (g p.1, f p.2) := by
  unfold put
  have e : ((l.map fun p => (g p.1, f p.2)).any fun kv => decide (kv.1 = g k)) = (l.any fun kv => decide (kv.1 = k)) := by
    rw [List.any_map]
    congr 1
    funext p
    exact decide_eq_decide.mpr ⟨fun z => hg _ _ z, fun z => congrArg g z⟩
  rw [e]
  split
  · rw [List.map_map, List.map_map]
    apply List.map_congr_left
    intro p _
    by_cases h : p.1 = k
    · simp [h]
    · have h' : ¬ g p.1 = g k := fun z => h (hg _ _ z)
      simp [h, h']
  · rw [List.map_append]; rfl
end
theorem Zmk : ∀ a b, kI a = kI b → a = b := fun a b h => Sum.inl.inj h
theorem Zku : ∀ a b, kII a = kII b → a = b := fun a b h => by
  cases a; cases b
  injection h with h1 h2
  injection h2 with h2 h3
  cases h1; cases h2; rfl
theorem Z2n {x : Slot} {f : α → D} {m : Dct Int α} {i : Int} (h : x.dat = some (encK kI f m)) : OpM oIx x (.sh (.int i)) (shE f) (m.get i) := fun k a e q => by
  unfold oIx; rw [h]
  exact ⟨kI i, f a, rfl, by rw [Zsw kI Zmk]; show (m.get i).map f = _; rw [e]; rfl, q⟩
theorem Zk3 {x : Slot} {f : α → D} {m : Dct (T2 Int Int) α} {i : T2 Int Int} (h : x.dat = some (encT kII f m)) : OpM oIx x (.sh (enc2 D.int D.int i)) (shE f) (m.get i) := fun k a e q => by
  unfold oIx; rw [h]
  exact ⟨kII i, f a, rfl, by rw [Zsw kII Zku]; show (m.get i).map f = _; rw [e]; rfl, q⟩
theorem Zwh {κ κ' : Type} [DecidableEq κ] [DecidableEq κ'] (g : κ → κ') (hg : ∀ a b, g a = g b → a = b) (f : α → D) (m : Dct κ α) (k : κ) : hasK (m.l.map fun p => (g p.1, f p.2)) (g k) = m.has k := by
  unfold hasK Dct.has Dct.get
  rw [Zsw g hg]
  cases lk m.l k <;> rfl
theorem Z2a {x : Slot} {f : α → D} {m : Dct Int α} {i : Int} {neg : Bool} (h : x.dat = some (encK kI f m)) : OpP (oIn neg) (.sh (.int i)) x (.sh (.bl (neg ^^ m.has i))) := fun k q => by
  unfold oIn; rw [h]
  exact ⟨kI i, rfl, by rw [Zwh kI Zmk]; exact q⟩
theorem Zzh {x : Slot} {f : α → D} {m : Dct (T2 Int Int) α} {i : T2 Int Int} {neg : Bool} (h : x.dat = some (encT kII f m)) : OpP (oIn neg) (.sh (enc2 D.int D.int i)) x (.sh (.bl (neg ^^ m.has i))) := fun k q => by
  unfold oIn; rw [h]
  exact ⟨kII i, rfl, by rw [Zwh kII Zku]; exact q⟩
theorem Zw4 {f : α → D} (o : Option α) : (o.map f).getD .non = encO f o := by cases o <;> rfl
theorem Z1q {x : Slot} {f : α → D} {m : Dct Int α} {i : Int} (h1 : EvP env wa x) (h2 : EvP env wb (.sh (.int i))) (h : x.dat = some (encK kI f m)) : EvP env (wGet wa wb) (.sh (encO f (m.get i))) := fun Q q => h1 _ (by
  show (match x.dat with | some d => isDict d ∧ wb env (rk (fun y => match y with | .sh e => Zz9 d e fun z => Q (.ok (.sh z)) | _ => False) Q) | none => False)
  rw [h]
  refine ⟨trivial, h2 _ ⟨kI i, rfl, ?_⟩⟩
  rw [Zsw kI Zmk, Zw4]; exact q)
theorem Zx0 {x : Slot} {f : α → D} {m : Dct (T2 Int Int) α} {i : T2 Int Int} (h1 : EvP env wa x) (h2 : EvP env wb (.sh (enc2 D.int D.int i))) (h : x.dat = some (encT kII f m)) : EvP env (wGet wa wb) (.sh (encO f (m.get i))) := fun Q q => h1 _ (by
  show (match x.dat with | some d => isDict d ∧ wb env (rk (fun y => match y with | .sh e => Zz9 d e fun z => Q (.ok (.sh z)) | _ => False) Q) | none => False)
  rw [h]
  refine ⟨trivial, h2 _ ⟨kII i, rfl, ?_⟩⟩
  rw [Zsw kII Zku, Zw4]; exact q)
theorem Zvf {κ : Type} (g : κ → L2.Key) (f : α → D) : EvP env wDnK (.ow (encK g f .emp)) := fun Q q => q
theorem Zzx {κ : Type} (g : κ → List L2.Key) (f : α → D) : EvP env wDnT (.ow (encT g f .emp)) := fun Q q => q
theorem Zye {x y : Slot} {f : α → D} {xs ys : List α} (h : x.dat = some (encL f xs)) (h2 : y.dat = some (encL f ys)) : OpM oCat x y (owE (encL f)) (if xs.length + ys.length ≤ 16777216 then some (xs ++ ys) else none) := fun k a e q => by
  unfold oCat; rw [h, h2]
  split at e
  · rename_i hl
    cases e
    refine ⟨by rw [List.length_map, List.length_map]; exact hl, ?_⟩
    show k (.ow (.lst (xs.map f ++ ys.map f)))
    rw [← List.map_append]; exact q
  · cases e
theorem Zr9 : EvO env wNoP none := fun Q q => q
theorem Zlk {i : Int} (h : EvP env we (.sh (.int i))) : EvO env (Ztx we) (some i) := fun Q q => h _ q
theorem Z1p (f : α → β) (xs : List α) (lo hi : Option Int) : cutD (xs.map f) lo hi = (cutD xs lo hi).map f := by
  unfold cutD
  rw [List.length_map, List.map_take, List.map_drop]
theorem Zlq {x : Slot} {f : α → D} {xs : List α} {lo hi : Option Int} (h : EvP env we x) (hl : EvO env wl lo) (hh : EvO env wh hi) (hx : x.dat = some (encL f xs)) : EvP env (Zpe we wl wh) (.ow (encL f (cutD xs lo hi))) := fun Q q => h _ (hl _ (hh _ (by
  show Zkp x lo hi (fun z => Q (.ok z))
  unfold Zkp; rw [hx]
  show Q (.ok (.ow (.lst (cutD (xs.map f) lo hi))))
  rw [Z1p]; exact q)))
theorem Zq8 {f : α → D} {m : P α} (h : EvM env we (shE f) m) : EvM env we (shE (encO f)) (bd m fun a => .ok (some a)) := fun Q q => h Q (by
  cases m with
  | ok a => exact q
  | error e => cases e with
    | stuck => exact q
    | exc c fs => exact q)
def Zfp (lo : Int) (n : Nat) : List Int := (List.range n).map fun (i : Nat) => lo + (i : Int)
theorem Ztz (lo : Int) (n : Nat) : Zoc lo n = (Zfp lo n).map D.int := by unfold Zoc Zfp; rw [List.map_map]; rfl
def Zxf (xs : List α) : List (T2 Int α) := xs.zipIdx.map fun p => ⟨(p.2 : Int), p.1⟩
theorem Zpa {ds : List D} (h : EvP env we (.sh (.lst ds))) : EvI env (Zhv we) ds := fun Q q => h _ q
theorem Z3e {ds : List D} (h : EvP env we (.sh (.tup ds))) : EvI env (Zhv we) ds := fun Q q => h _ q
theorem Z6v {ds : List D} (h : EvP env we (.bo (.lst ds))) : EvI env (Zhv we) ds := fun Q q => h _ q
theorem Z5r {ds : List D} (h : EvP env we (.ow (.lst ds))) : EvI env (Zhv we) ds := fun Q q => h _ q
theorem Zwz {j : Int} (h : EvA env wA [.sh (.int j)]) (hb : Bd62 j) : EvI env (Zta wA) ((Zfp 0 j.toNat).map D.int) := fun Q q => h _ ⟨hb, by rw [Ztz]; exact q⟩
def Z47 : Slot → Option D
  | .sh d => some d
  | .bo d => some d
  | .ow d => some d
  | .lk _ d => some d
  | _ => none
theorem Z31 {x : Slot} {ds : List D} {k : List D → Prop} (h : Z47 x = some (.lst ds)) (q : k ds) : lst1 k [x] := by
  cases x with
  | sh d => cases h; exact q
  | bo d => cases h; exact q
  | ow d => cases h; exact q
  | un => cases h
  | bt d => cases h
  | lk a d => cases h; exact q
  | lo a _ d => cases h
  | nd d => cases h
  | nb d => cases h
  | ln _ _ => cases h
  | xc _ => cases h
  | xe _ _ _ => cases h
  | na _ _ => cases h
  | rt _ _ => cases h
theorem Z11 {x : Slot} {f : α → D} {xs : List α} (h : EvA env wA [x]) (hx : Z47 x = some (encL f xs)) : EvI env (Z00 wA) ((Zxf xs).map (enc2 D.int f)) := fun Q q => h _ (by
  refine Z31 hx ?_
  have e : Zuy (xs.map f) = (Zxf xs).map (enc2 D.int f) := by
    unfold Zuy Zxf
    rw [List.zipIdx_map, List.map_map, List.map_map]; rfl
  rw [e]; exact q)
end
end DL
set_option Elab.async false
set_option linter.all false
set_option maxRecDepth 100000
set_option maxHeartbeats 4000000
namespace DL
open PySem PySem.Spec PyProof.Rows L2
section
variable {env : En} {w w1 w2 w3 rest body : WS} {wa wb wc we wk : WE} {wA : WA} {wi : WI} {α β δ τ σ ρ : Type} {cv : τ → O} {g : WG}
def sq (rest : WS) (K : O → Prop) : O → Prop := fun o => match o with
  | .nx e => rest e K
  | o => K o
theorem wseq {K : O → Prop} (h : w1 env (sq rest K)) : wSeq w1 rest env K := h
theorem wasg {K : O → Prop} {s : Slot} (h : EvP env we s) (q : g s env fun e => K (.nx e)) : wAsg g we env K := h _ q
theorem Z05 {K : O → Prop} {f : α → Slot} {m : P α} (h : EvM env we f m) (q : (∃ a, m = .ok a ∧ g (f a) env fun e => K (.nx e)) ∨ ∃ c fs, m = .error (.exc c fs) ∧ ∀ e, K (.ex c fs e)) : wAsg g we env K := h _ (by
  rcases q with ⟨a, e, q⟩ | ⟨c, fs, e, q⟩
  · rw [e]; exact q
  · rw [e]; exact q env)
theorem Zx4 {m : P τ} (h : B env (wSeq w1 (wSeq w2 w3)) cv m) : B env (wSeq (wSeq w1 w2) w3) cv m := fun K q => by
  have := h K q
  have e : wSeq (wSeq w1 w2) w3 env K = wSeq w1 (wSeq w2 w3) env K := by
    unfold wSeq
    congr 1
    funext o
    cases o <;> rfl
  rw [e]; exact this
theorem Zca {m : P τ} (h : B env rest cv m) : B env (wSeq Zbk rest) cv m := fun K q => h K q
theorem Zcv {t : τ} (h : cv t = .nx env) : B env Zbk cv (.ok t) := fun K q => by
  have q' : K (cv t) := q
  rw [h] at q'; exact q'
theorem Z7k {i : Nat} {x : Slot} {env' : En} {m : P τ} (hx : env[i]? = some x) (he : env.set i (frzS x) = env') (h : B env' (wSeq w1 rest) cv m) : B env (wSeq (wFrz i w1) rest) cv m := fun K q => by
  have := h K q
  subst he
  show (match env[i]? with | some x => w1 (env.set i (frzS x)) _ | none => False)
  rw [hx]
  exact this
theorem Z2c {i : Nat} {x : Slot} {env' : En} {m : P τ} (hx : env[i]? = some x) (he : env.set i (frzS x) = env') (h : B env' w1 cv m) : B env (wFrz i w1) cv m := fun K q => by
  have := h K q
  subst he
  show (match env[i]? with | some x => w1 (env.set i (frzS x)) _ | none => False)
  rw [hx]
  exact this
theorem Z7e {i : Nat} {env' : En} {m : P τ} (he : env.set i .un = env') (h : B env' (wSeq w1 rest) cv m) : B env (wSeq (wFgt i w1) rest) cv m := fun K q => by
  subst he; exact h K q
theorem Zbc {i : Nat} {env' : En} {m : P τ} (he : env.set i .un = env') (h : B env' w1 cv m) : B env (wFgt i w1) cv m := fun K q => by
  subst he; exact h K q
theorem Zmd {s : Slot} {t : τ} (h : EvP env we s) (ht : cv t = .ret s) : B env (wRet we) cv (.ok t) := fun K q => h _ (by
  have q' : K (cv t) := q
  rw [ht] at q'; exact q')
theorem Ziv {f : α → Slot} {m : P α} {t : α → τ} (h : EvM env we f m) (ht : ∀ a, cv (t a) = .ret (f a)) : B env (wRet we) cv (bd m fun a => .ok (t a)) := fun K q => h _ (by
  rcases specO_bd q with ⟨a, e, q⟩ | ⟨c, fs, e, q⟩
  · rw [e]
    have q' : K (cv (t a)) := q
    rw [ht] at q'; exact q'
  · rw [e]; exact q env)
theorem Zn4 {i : Nat} {s : Slot} {t : τ} (hi : env[i]? = some s) (hs : Zj8 s) (ht : cv t = .ret s) : B env (Zim i) cv (.ok t) := fun K q => by
  have q' : K (cv t) := q
  rw [ht] at q'
  unfold Zim
  rw [hi]
  rcases hs with ⟨d, rfl⟩ | ⟨d, rfl⟩ | ⟨d, rfl⟩ <;> exact q'
theorem Zco {s : Slot} {t : τ} (h : EvP env we s) (ht : cv t = .ret s) : B env (wSeq (wRet we) rest) cv (.ok t) := fun K q => h _ (by
  have q' : K (cv t) := q
  rw [ht] at q'; exact q')
theorem Z4o {f : α → Slot} {m : P α} {t : α → τ} (h : EvM env we f m) (ht : ∀ a, cv (t a) = .ret (f a)) : B env (wSeq (wRet we) rest) cv (bd m fun a => .ok (t a)) := fun K q => h _ (by
  rcases specO_bd q with ⟨a, e, q⟩ | ⟨c, fs, e, q⟩
  · rw [e]
    have q' : K (cv (t a)) := q
    rw [ht] at q'; exact q'
  · rw [e]; exact q env)
theorem Zz6 {i : Nat} {s : Slot} {t : τ} (hi : env[i]? = some s) (hs : Zj8 s) (ht : cv t = .ret s) : B env (wSeq (Zim i) rest) cv (.ok t) := fun K q => by
  have q' : K (cv t) := q
  rw [ht] at q'
  show Zim i env _
  unfold Zim
  rw [hi]
  rcases hs with ⟨d, rfl⟩ | ⟨d, rfl⟩ | ⟨d, rfl⟩ <;> exact q'
theorem Zvs {c : String} : B env (wSeq (Zqw (PySem.Str.ofString c)) rest) cv (raise c : P τ) := fun K q => q env
theorem Z0l {i : Nat} {x : Slot} {k : En → Prop} (hx : Zj8 x) (hi : i < env.length) (q : k (env.set i x)) : gN i x env k := by
  rcases hx with ⟨d, rfl⟩ | ⟨d, rfl⟩ | ⟨d, rfl⟩ <;> exact ⟨hi, q⟩
theorem Zl2 {i : Nat} {v : α} {mm : α → P τ} (sl : α → Slot) (e : α → En) (h : EvP env we (sl v)) (ho : ∀ x, Zj8 (sl x)) (hi : i < env.length) (hs : ∀ x, env.set i (sl x) = e x) (hr : ∀ x, B (e x) rest cv (mm x)) : B env (wSeq (wAsg (gN i) we) rest) cv (Ze1 v mm) := fun K q => wseq (wasg h (Z0l (ho v) hi (by
  rw [hs]; exact hr v K q)))
theorem Zfr {i : Nat} {s : Slot} {env' : En} {m : P τ} (h : EvP env we s) (ho : Zj8 s) (hi : i < env.length) (hs : env.set i s = env') (hr : B env' rest cv m) : B env (wSeq (wAsg (gN i) we) rest) cv m := fun K q => wseq (wasg h (Z0l ho hi (by
  rw [hs]; exact hr K q)))
theorem Zci {i : Nat} {f : α → Slot} {m : P α} {mm : α → P τ} (e : α → En) (h : EvM env we f m) (ho : ∀ x, Zj8 (f x)) (hi : i < env.length) (hs : ∀ x, env.set i (f x) = e x) (hr : ∀ x, B (e x) rest cv (mm x)) : B env (wSeq (wAsg (gN i) we) rest) cv (bd m mm) := fun K q => wseq (Z05 h (by
  rcases specO_bd q with ⟨a, e1, q⟩ | ⟨c, fs, e1, q⟩
  · exact .inl ⟨a, e1, Z0l (ho a) hi (by rw [hs]; exact hr a K q)⟩
  · exact .inr ⟨c, fs, e1, q⟩))
def Zpo : List Nat → List D → En → Option En
  | [], [], env => some env
  | i :: is, d :: ds, env => cond (Nat.blt i env.length) (Zpo is ds (env.set i (.sh d))) none
  | _, _, _ => none
theorem wSets_of {k : En → Prop} : ∀ {is : List Nat} {ds : List D} {env e : En}, Zpo is ds env = some e → k e → Zto is ds env k
  | [], [], env, e, h, q => by cases h; exact q
  | i :: is, d :: ds, env, e, h, q => by
    unfold Zpo at h
    cases hb : Nat.blt i env.length with
    | true =>
      rw [hb] at h
      exact ⟨Nat.lt_of_succ_le (by simpa [Nat.blt] using hb), wSets_of h q⟩
    | false => rw [hb] at h; cases h
  | [], _ :: _, _, _, h, _ => by cases h
  | _ :: _, [], _, _, h, _ => by cases h
theorem Z3t {is : List Nat} {x : Slot} {ds : List D} {e : En} {k : En → Prop} (hx : x.dat = some (.tup ds) ∨ x.dat = some (.lst ds)) (hs : Zpo is ds env = some e) (q : k e) : gT is x env k := by
  unfold gT
  rcases hx with hx | hx <;> (rw [hx]; exact wSets_of hs q)
theorem Zo6 {is : List Nat} {f : α → Slot} {m : P α} {ds : α → List D} {mm : α → P τ} (e : α → En) (h : EvM env we f m) (hx : ∀ a, (f a).dat = some (.tup (ds a))) (hs : ∀ a, Zpo is (ds a) env = some (e a)) (hr : ∀ a, B (e a) rest cv (mm a)) : B env (wSeq (wAsg (gT is) we) rest) cv (bd m mm) := fun K q => wseq (Z05 h (by
  rcases specO_bd q with ⟨a, e1, q⟩ | ⟨c, fs, e1, q⟩
  · exact .inl ⟨a, e1, Z3t (.inl (hx a)) (hs a) (hr a K q)⟩
  · exact .inr ⟨c, fs, e1, q⟩))
def un2 (xs : List α) (k : α → α → P τ) : P τ := match xs with
  | [a, b] => k a b
  | _ => stuck
def un5 (xs : List α) (k : α → α → α → α → α → P τ) : P τ := match xs with
  | [a, b, c, d, e] => k a b c d e
  | _ => stuck
def un6 (xs : List α) (k : α → α → α → α → α → α → P τ) : P τ := match xs with
  | [a, b, c, d, e, f] => k a b c d e f
  | _ => stuck
theorem Z3o {is : List Nat} {f : α → D} {xs : List α} {s : Slot} {m : P τ} (hx : s.dat = some (encL f xs)) (hr : ∀ K, Zeb m cv K → ∃ e, Zpo is (xs.map f) env = some e ∧ rest e K) : BT env (gT is) s rest cv m := fun K q => by
  obtain ⟨e, h1, h2⟩ := hr K q
  exact Z3t (.inr hx) h1 h2
theorem Z64 {is : List Nat} {f : α → D} {xs : List α} {s : Slot} {k : α → α → P τ} (e : α → α → En) (hx : s.dat = some (encL f xs)) (hs : ∀ a b, Zpo is [f a, f b] env = some (e a b)) (hr : ∀ a b, B (e a b) rest cv (k a b)) : BT env (gT is) s rest cv (un2 xs k) := Z3o hx fun K q => by
  unfold un2 at q; split at q
  · exact ⟨_, hs _ _, hr _ _ K q⟩
  · exact q.elim
theorem Z6w {is : List Nat} {f : α → D} {xs : List α} {s : Slot} {k : α → α → α → α → α → P τ} (e : α → α → α → α → α → En) (hx : s.dat = some (encL f xs)) (hs : ∀ a b c d e', Zpo is [f a, f b, f c, f d, f e'] env = some (e a b c d e')) (hr : ∀ a b c d e', B (e a b c d e') rest cv (k a b c d e')) : BT env (gT is) s rest cv (un5 xs k) := Z3o hx fun K q => by
  unfold un5 at q; split at q
  · exact ⟨_, hs _ _ _ _ _, hr _ _ _ _ _ K q⟩
  · exact q.elim
theorem Z5q {is : List Nat} {f : α → D} {xs : List α} {s : Slot} {k : α → α → α → α → α → α → P τ} (e : α → α → α → α → α → α → En) (hx : s.dat = some (encL f xs)) (hs : ∀ a b c d e' f', Zpo is [f a, f b, f c, f d, f e', f f'] env = some (e a b c d e' f')) (hr : ∀ a b c d e' f', B (e a b c d e' f') rest cv (k a b c d e' f')) : BT env (gT is) s rest cv (un6 xs k) := Z3o hx fun K q => by
  unfold un6 at q; split at q
  · exact ⟨_, hs _ _ _ _ _ _, hr _ _ _ _ _ _ K q⟩
  · exact q.elim
theorem Zt9 {f : α → Slot} {m : P α} {mm : α → P τ} (h : EvM env we f m) (hr : ∀ a, BT env g (f a) rest cv (mm a)) : B env (wSeq (wAsg g we) rest) cv (bd m mm) := fun K q => wseq (Z05 h (by
  rcases specO_bd q with ⟨a, e1, q⟩ | ⟨c, fs, e1, q⟩
  · exact .inl ⟨a, e1, hr a K q⟩
  · exact .inr ⟨c, fs, e1, q⟩))
theorem Zdz {i : Nat} {s : Slot} {e : En} {m : P τ} (ho : Zj8 s) (hi : i < env.length) (hs : env.set i s = e) (hr : B e rest cv m) : BT env (gN i) s rest cv m := fun K q => Z0l ho hi (by rw [hs]; exact hr K q)
theorem Z2b {is : List Nat} {s : Slot} {ds : List D} {e : En} {m : P τ} (hx : s.dat = some (.tup ds)) (hs : Zpo is ds env = some e) (hr : B e rest cv m) : BT env (gT is) s rest cv m := fun K q => Z3t (.inl hx) hs (hr K q)
theorem Z6t {i : Nat} {f : Int → Int → Int} {a b : Int} {mm : Int → P τ} (e : Int → En) (ha : env[i]? = some (.sh (.int a))) (h : EvP env we (.sh (.int b))) (hs : ∀ x, env.set i (.sh (.int x)) = e x) (hr : ∀ x, B (e x) rest cv (mm x)) : B env (wSeq (wAug i f we) rest) cv (Ze1 (f a b) mm) := fun K q => by
  show wAug i f we env _
  unfold wAug
  rw [ha]
  refine h _ ?_
  show (wSeq Zbk rest) _ K
  rw [hs]; exact hr _ K q
def appO (xs : List α) (x : α) : Option (List α) := if xs.length < 16777216 then some (xs ++ [x]) else none
theorem Zld {m : Option α} {mm : α → P τ} {K : O → Prop} (q : Zeb (bd (ofO m) mm) cv K) : ∃ a, m = some a ∧ Zeb (mm a) cv K := by
  cases m with
  | some a => exact ⟨a, rfl, q⟩
  | none => exact q.elim
theorem Zt7 {i : Nat} {f : α → D} {xs : List α} {x : α} {s : Slot} {mm : List α → P τ} (e : List α → En) (hx : env[i]? = some (.ow (encL f xs))) (h : EvP env we s) (hs : s.stab = some (f x)) (he : ∀ ys, env.set i (.ow (encL f ys)) = e ys) (hr : ∀ ys, B (e ys) rest cv (mm ys)) : B env (wSeq (wApp i we) rest) cv (bd (ofO (appO xs x)) mm) := fun K q => by
  obtain ⟨ys, e1, q⟩ := Zld q
  unfold appO at e1
  split at e1
  · rename_i hl
    cases e1
    show wApp i we env _
    unfold wApp
    rw [hx]
    refine h _ ?_
    show (match s.stab with | some d => (xs.map f).length < 16777216 ∧ _ | none => False)
    rw [hs]
    refine ⟨by rw [List.length_map]; exact hl, ?_⟩
    have e2 : env.set i (.ow (.lst (xs.map f ++ [f x]))) = e (xs ++ [x]) := by
      rw [← he]; unfold encL; rw [List.map_append]; rfl
    show rest (env.set i (.ow (.lst (xs.map f ++ [f x])))) K
    rw [e2]; exact hr _ K q
  · cases e1
theorem Zs2 {i : Nat} {f : α → D} {xs : List α} {sf : α → Slot} {m : P α} {mm : List α → P τ} (e : List α → En) (hx : env[i]? = some (.ow (encL f xs))) (h : EvM env we sf m) (hs : ∀ x, (sf x).stab = some (f x)) (he : ∀ ys, env.set i (.ow (encL f ys)) = e ys) (hr : ∀ ys, B (e ys) rest cv (mm ys)) : B env (wSeq (wApp i we) rest) cv (bd m fun x => bd (ofO (appO xs x)) mm) := fun K q => by
  show wApp i we env _
  unfold wApp
  rw [hx]
  refine h _ ?_
  rcases specO_bd q with ⟨x, e0, q⟩ | ⟨c, fs, e0, q⟩
  · rw [e0]
    obtain ⟨ys, e1, q⟩ := Zld q
    unfold appO at e1
    split at e1
    · rename_i hl
      cases e1
      show (match (sf x).stab with | some d => (xs.map f).length < 16777216 ∧ _ | none => False)
      rw [hs]
      refine ⟨by rw [List.length_map]; exact hl, ?_⟩
      have e2 : env.set i (.ow (.lst (xs.map f ++ [f x]))) = e (xs ++ [x]) := by
        rw [← he]; unfold encL; rw [List.map_append]; rfl
      show rest (env.set i (.ow (.lst (xs.map f ++ [f x])))) K
      rw [e2]; exact hr _ K q
    · cases e1
  · rw [e0]; exact q env
theorem Ztf {i : Nat} {c : D} {s : Slot} {d zd : D} {m : P τ} (hx : env[i]? = some (.ow c)) (h : EvP env we s) (hs : s.stab = some d) (hk : EvP env wk (.sh zd)) (hr : ∀ K, Zeb m cv K → Ztr c zd d fun c' => rest (env.set i (.ow c')) K) : B env (wSeq (wSet i wk we) rest) cv m := fun K q => by
  show wSet i wk we env _
  unfold wSet
  rw [hx]
  refine h _ ?_
  show (match s.stab with | some d => wk env _ | none => False)
  rw [hs]
  exact hk _ (hr K q)
theorem Zxz {i : Nat} {c : D} {f : α → D} {sf : α → Slot} {m : P α} {zd : D} {mm : α → P τ} (hx : env[i]? = some (.ow c)) (h : EvM env we sf m) (hs : ∀ a, (sf a).stab = some (f a)) (hk : EvP env wk (.sh zd)) (hr : ∀ a K, Zeb (mm a) cv K → Ztr c zd (f a) fun c' => rest (env.set i (.ow c')) K) : B env (wSeq (wSet i wk we) rest) cv (bd m mm) := fun K q => by
  show wSet i wk we env _
  unfold wSet
  rw [hx]
  refine h _ ?_
  rcases specO_bd q with ⟨a, e0, q⟩ | ⟨c, fs, e0, q⟩
  · rw [e0]
    show (match (sf a).stab with | some d => wk env _ | none => False)
    rw [hs]
    exact hk _ (hr a K q)
  · rw [e0]; exact q env
theorem setK {κ : Type} [DecidableEq κ] {i : Nat} {g : κ → L2.Key} {hg : ∀ a b, g a = g b → a = b} {f : α → D} {m : Dct κ α} {k : κ} {a : α} {zd : D} {mm : Dct κ α → P τ} (e : Dct κ α → En) (hz : zd.key = some (g k)) (he : ∀ y, env.set i (.ow (encK g f y)) = e y) (hr : ∀ y, B (e y) rest cv (mm y)) :
    ∀ K, Zeb (bd (ofO (m.putO k a)) mm) cv K → Ztr (encK g f m) zd (f a) fun c' => rest (env.set i (.ow c')) K := fun K q => by
  obtain ⟨y, e1, q⟩ := Zld q
  unfold Dct.putO at e1
  split at e1
  · rename_i hl
    cases e1
    refine ⟨g k, hz, by rw [List.length_map]; exact hl, ?_⟩
    rw [Zx2 g hg]
    show rest (env.set i (.ow (encK g f (m.put k a)))) K
    rw [he]; exact hr _ K q
  · cases e1
theorem setT {κ : Type} [DecidableEq κ] {i : Nat} {g : κ → List L2.Key} {hg : ∀ a b, g a = g b → a = b} {f : α → D} {m : Dct κ α} {k : κ} {a : α} {zd : D} {mm : Dct κ α → P τ} (e : Dct κ α → En) (hz : zd.keyT = some (g k)) (he : ∀ y, env.set i (.ow (encT g f y)) = e y) (hr : ∀ y, B (e y) rest cv (mm y)) :
    ∀ K, Zeb (bd (ofO (m.putO k a)) mm) cv K → Ztr (encT g f m) zd (f a) fun c' => rest (env.set i (.ow c')) K := fun K q => by
  obtain ⟨y, e1, q⟩ := Zld q
  unfold Dct.putO at e1
  split at e1
  · rename_i hl
    cases e1
    refine ⟨g k, hz, by rw [List.length_map]; exact hl, ?_⟩
    rw [Zx2 g hg]
    show rest (env.set i (.ow (encT g f (m.put k a)))) K
    rw [he]; exact hr _ K q
  · cases e1
theorem b_if {b : Bool} {m1 m2 : P τ} (h : EvP env wc (.sh (.bl b))) (h1 : B env (wSeq w1 rest) cv m1) (h2 : B env (wSeq w2 rest) cv m2) : B env (wSeq (wIf wc w1 w2) rest) cv (cond b m1 m2) := fun K q => h _ (by
  cases b
  · exact h2 K q
  · exact h1 K q)
theorem Zl1 {n : P Bool} {m1 m2 : P τ} (h : EvM env wc blE n) (h1 : B env (wSeq w1 rest) cv m1) (h2 : B env (wSeq w2 rest) cv m2) : B env (wSeq (wIf wc w1 w2) rest) cv (bd n fun b => cond b m1 m2) := fun K q => h _ (by
  rcases specO_bd q with ⟨b, e1, q⟩ | ⟨c, fs, e1, q⟩
  · rw [e1]
    cases b
    · exact h2 K q
    · exact h1 K q
  · rw [e1]; exact q env)
theorem Zd8 {m : P σ} {mm : σ → P τ} {e : σ → En} {K : O → Prop} (q : Zeb (bd m mm) cv K) (hr : ∀ s, B (e s) rest cv (mm s)) : Zeb m (fun s => O.nx (e s)) (sq rest K) := by
  rcases specO_bd q with ⟨a, e1, q⟩ | ⟨c, fs, e1, q⟩
  · rw [e1]; exact hr a K q
  · rw [e1]; exact q
theorem Zxe {b : Bool} {m1 m2 : P σ} {mm : σ → P τ} (e : σ → En) (h : EvP env wc (.sh (.bl b))) (h1 : B env w1 (fun s => .nx (e s)) m1) (h2 : B env w2 (fun s => .nx (e s)) m2) (hr : ∀ s, B (e s) rest cv (mm s)) : B env (wSeq (wIf wc w1 w2) rest) cv (bd (cond b m1 m2) mm) := fun K q => h _ (by
  cases b
  · exact h2 _ (Zd8 q hr)
  · exact h1 _ (Zd8 q hr))
theorem Z60 {n : P Bool} {m1 m2 : P σ} {mm : σ → P τ} (e : σ → En) (h : EvM env wc blE n) (h1 : B env w1 (fun s => .nx (e s)) m1) (h2 : B env w2 (fun s => .nx (e s)) m2) (hr : ∀ s, B (e s) rest cv (mm s)) : B env (wSeq (wIf wc w1 w2) rest) cv (bd (bd n fun b => cond b m1 m2) mm) := fun K q => h _ (by
  cases n with
  | error x => cases x with
    | stuck => exact q.elim
    | exc c fs => exact q env
  | ok b =>
    cases b
    · exact h2 _ (Zd8 (m := m2) q hr)
    · exact h1 _ (Zd8 (m := m1) q hr))
theorem Z7j {b : Bool} {x y : α} {mm : α → P τ} (e : α → En) (h : EvP env wc (.sh (.bl b))) (h1 : B env w1 (fun s => .nx (e s)) (.ok x)) (h2 : B env w2 (fun s => .nx (e s)) (.ok y)) (hr : ∀ s, B (e s) rest cv (mm s)) : B env (wSeq (wIf wc w1 w2) rest) cv (Ze1 (cond b x y) mm) := fun K q => h _ (by
  cases b
  · exact h2 _ (Zd8 (m := .ok y) q hr)
  · exact h1 _ (Zd8 (m := .ok x) q hr))
theorem Zuv {f : α → D} {e : σ → En} {step : σ → α → P σ} (hb : ∀ s x, BT (e s) g (.sh (f x)) body (fun s' => .nx (e s')) (step s x)) {K : O → Prop} : ∀ (xs : List α) (s : σ), Zeb (Zdk step xs s) (fun s => O.nx (e s)) K → Zm2 g body (xs.map f) (e s) K
  | [], s, q => q
  | x :: xs, s, q => hb s x _ (by
    have q : Zeb (bd (step s x) fun s' => Zdk step xs s') (fun s => O.nx (e s)) K := q
    rcases specO_bd q with ⟨a, e1, q⟩ | ⟨c, fs, e1, q⟩
    · rw [e1]; exact Zuv hb xs a q
    · rw [e1]; exact q)
theorem Zp7 {f : α → D} {xs : List α} {s0 : σ} {step : σ → α → P σ} {mm : σ → P τ} (e : σ → En) (hi : EvI env wi (xs.map f)) (h0 : env = e s0) (hb : ∀ s x, BT (e s) g (.sh (f x)) body (fun s' => .nx (e s')) (step s x)) (hr : ∀ s, B (e s) rest cv (mm s)) : B env (wSeq (wFor g wi body) rest) cv (bd (Zdk step xs s0) mm) := fun K q => hi _ (by
  show Zm2 g body (xs.map f) env _
  rw [h0]
  exact Zuv hb xs s0 (Zd8 q hr))
def cvX (e : σ → En) (f : ρ → Slot) : Out σ ρ → O
  | .nx s => .nx (e s)
  | .ct s => .ct (e s)
  | .bk s => .bk (e s)
  | .ret r => .ret (f r)
theorem Zu6 {f : α → D} {e : σ → En} {fr : ρ → Slot} {step : σ → α → P (Out σ ρ)} (hb : ∀ s x, BT (e s) g (.sh (f x)) body (cvX e fr) (step s x)) {K : O → Prop} : ∀ (xs : List α) (s : σ), Zeb (Zft step xs s) (cvX e fr) K → Zm2 g body (xs.map f) (e s) K
  | [], s, q => q
  | x :: xs, s, q => hb s x _ (by
    have q : Zeb (bd (step s x) fun o => match o with
      | .nx s' => Zft step xs s'
      | .ct s' => Zft step xs s'
      | .bk s' => .ok (.nx s')
      | .ret r => .ok (.ret r)) (cvX e fr) K := q
    rcases specO_bd q with ⟨a, e1, q⟩ | ⟨c, fs, e1, q⟩
    · rw [e1]
      cases a with
      | nx s' => exact Zu6 hb xs s' q
      | ct s' => exact Zu6 hb xs s' q
      | bk s' => exact q
      | ret r => exact q
    · rw [e1]; exact q)
theorem Zwv {m : P (Out σ ρ)} {ret : ρ → P τ} {nx : σ → P τ} {e : σ → En} {fr : ρ → Slot} {K : O → Prop} (q : Zeb (aft m ret nx) cv K) (hret : ∀ r, ∃ t, ret r = .ok t ∧ cv t = .ret (fr r)) (hr : ∀ s, B (e s) rest cv (nx s)) (hc : ∀ s, m ≠ .ok (.ct s) ∧ m ≠ .ok (.bk s)) : Zeb m (cvX e fr) (sq rest K) := by
  rcases specO_bd q with ⟨a, e1, q⟩ | ⟨c, fs, e1, q⟩
  · rw [e1]
    cases a with
    | nx s => exact hr s K q
    | ct s => exact ((hc s).1 e1).elim
    | bk s => exact ((hc s).2 e1).elim
    | ret r =>
      obtain ⟨t, e2, e3⟩ := hret r
      have q : Zeb (ret r) cv K := q
      rw [e2] at q
      have q' : K (cv t) := q
      rw [e3] at q'; exact q'
  · rw [e1]; exact q
theorem Zo4 {step : σ → α → P (Out σ ρ)} : ∀ (xs : List α) (s s' : σ), Zft step xs s ≠ .ok (.ct s') ∧ Zft step xs s ≠ .ok (.bk s')
  | [], s, s' => ⟨(fun h => nomatch h), (fun h => nomatch h)⟩
  | x :: xs, s, s' => by
    rw [Zft]
    cases hs : step s x with
    | error e => exact ⟨(fun h => nomatch h), (fun h => nomatch h)⟩
    | ok o => cases o with
      | nx t => exact Zo4 xs t s'
      | ct t => exact Zo4 xs t s'
      | bk t => exact ⟨(fun h => nomatch h), (fun h => nomatch h)⟩
      | ret r => exact ⟨(fun h => nomatch h), (fun h => nomatch h)⟩
theorem Zqb {f : α → D} {xs : List α} {s0 : σ} {step : σ → α → P (Out σ ρ)} {ret : ρ → P τ} {nx : σ → P τ} (e : σ → En) (fr : ρ → Slot) (hi : EvI env wi (xs.map f)) (h0 : env = e s0) (hb : ∀ s x, BT (e s) g (.sh (f x)) body (cvX e fr) (step s x)) (hret : ∀ r, ∃ t, ret r = .ok t ∧ cv t = .ret (fr r)) (hr : ∀ s, B (e s) rest cv (nx s)) : B env (wSeq (wFor g wi body) rest) cv (aft (Zft step xs s0) ret nx) := fun K q => hi _ (by
  show Zm2 g body (xs.map f) env _
  rw [h0]
  exact Zu6 hb xs s0 (Zwv q hret hr fun s' => Zo4 xs s0 s'))
theorem Z27 {c : σ → P Bool} {e : σ → En} {step : σ → P σ} (hc : ∀ s, EvM (e s) wc blE (c s)) (hb : ∀ s, B (e s) body (fun s' => .nx (e s')) (step s)) {K : O → Prop} : ∀ (n : Nat) (s : σ), Zeb (wnN c step n s) (fun s => O.nx (e s)) K → wWh wc body n (e s) K
  | 0, s, q => q.elim
  | n + 1, s, q => hc s _ (by
    have q : Zeb (bd (c s) fun b => cond b (bd (step s) fun s' => wnN c step n s') (.ok s)) (fun s => O.nx (e s)) K := q
    rcases specO_bd q with ⟨b, e1, q⟩ | ⟨x, fs, e1, q⟩
    · rw [e1]
      cases b with
      | false => exact q
      | true =>
        refine hb s _ ?_
        have q : Zeb (bd (step s) fun s' => wnN c step n s') (fun s => O.nx (e s)) K := q
        rcases specO_bd q with ⟨a, e2, q⟩ | ⟨x, fs, e2, q⟩
        · rw [e2]; exact Z27 hc hb n a q
        · rw [e2]; exact q
    · rw [e1]; exact q _)
theorem Z07 {c : σ → P Bool} {s0 : σ} {step : σ → P σ} {mm : σ → P τ} (e : σ → En) (h0 : env = e s0) (hc : ∀ s, EvM (e s) wc blE (c s)) (hb : ∀ s, B (e s) body (fun s' => .nx (e s')) (step s)) (hr : ∀ s, B (e s) rest cv (mm s)) : B env (wSeq (Zlp wc body) rest) cv (bd (whN' c step s0) mm) := fun K q => by
  subst h0
  have ne : whN' c step s0 ≠ stuck := fun z => by rw [z] at q; exact q.elim
  have ex : ∃ n, wnN c step n s0 ≠ stuck := by
    refine Classical.byContradiction fun h => ne ?_
    unfold whN'
    rw [dif_neg h]
  obtain ⟨n, hn⟩ := ex
  have e1 := Zuo (rfl : wnN c step n s0 = wnN c step n s0) hn
  rw [e1] at q
  exact ⟨n, Z27 hc hb n s0 (Zd8 q hr)⟩
theorem Zb9 {γ : G} {n : Nat} {w : WS} {xs : List Slot} {f : α → Slot} {m : P α} {env : En} (hg : γ = gOf n w) (he : xs ++ List.replicate (n - xs.length) .un = env) (hf : ∀ a, Zj8 (f a)) (h : B env w (fun a => .ret (f a)) m) (hna : msOf xs = [] := by rfl) : Sim γ xs f m := fun Q q => by
  subst hg he
  refine h (fin xs Q) ?_
  cases m with
  | ok a =>
    have q' : Q (.ok (f a)) := q
    show fin xs Q (.ret (f a))
    rcases hf a with ⟨d, e⟩ | ⟨d, e⟩ | ⟨d, e⟩ <;> (rw [e] at q' ⊢; exact q')
  | error e => cases e with
    | stuck => exact q
    | exc c fs => exact fun e => ⟨Z0j hna, q⟩
end
end DL
set_option Elab.async false
set_option linter.all false
set_option maxRecDepth 100000
set_option maxHeartbeats 4000000
namespace DL
open PySem PySem.Spec PyProof.Rows L2
instance (i : Int) : Decidable (Bd62 i) := by unfold Bd62; exact inferInstance
section
variable {env : En} {w w1 w2 w3 rest body : WS} {wa wb wc we wk wt : WE} {wA : WA} {wi : WI} {α β δ τ σ ρ : Type} {cv : τ → O} {g : WG}
theorem Z75 {p : Prop} [Decidable p] {m : P τ} (h : p → B env w cv m) : B env w cv (grd p m) := fun K q => by
  by_cases hp : p
  · rw [Zzg hp] at q; exact h hp K q
  · unfold grd at q; rw [if_neg hp] at q; exact q.elim
def EvIM {α : Type} (env : En) (wi : WI) (f : α → D) (m : P (List α)) : Prop := ∀ (Q : R (List D) → Prop), (match m with
  | .ok xs => Q (.ok (xs.map f))
  | .error (.exc c fs) => Q (.ex c fs)
  | .error .stuck => False) → wi env Q
theorem Zrl {f : α → D} {m : P (List α)} (h : EvM env we (owE (encL f)) m) : EvIM env (Zhv we) f m := fun Q q => h _ (by
  cases m with
  | ok xs => exact q
  | error e => cases e with
    | stuck => exact q.elim
    | exc c fs => exact q)
theorem bd_I {f : α → D} {m : P (List α)} {mm : List α → P τ} {K : O → Prop} {k : List D → Prop} (h : EvIM env wi f m) (q : Zeb (bd m mm) cv K) (hk : ∀ xs, Zeb (mm xs) cv K → k (xs.map f)) : wi env (rks k (sq rest K) env) := h _ (by
  rcases specO_bd q with ⟨a, e1, q⟩ | ⟨c, fs, e1, q⟩
  · rw [e1]; exact hk a q
  · rw [e1]; exact q env)
theorem Zoa {f : α → D} {m : P (List α)} {s0 : σ} {step : σ → α → P σ} {mm : σ → P τ} (e : σ → En) (hi : EvIM env wi f m) (h0 : env = e s0) (hb : ∀ s x, BT (e s) g (.sh (f x)) body (fun s' => .nx (e s')) (step s x)) (hr : ∀ s, B (e s) rest cv (mm s)) : B env (wSeq (wFor g wi body) rest) cv (bd m fun xs => bd (Zdk step xs s0) mm) := fun K q => wseq (bd_I hi q fun xs q => by
  show Zm2 g body (xs.map f) env _
  rw [h0]
  exact Zuv hb xs s0 (Zd8 q hr))
def EvKI {β : Type} (env : En) (wA : WA) (f : β → D) (Φ : List Slot → P (List β) → Prop) (m : P (List β)) : Prop := ∀ (Q : R (List D) → Prop) (k : List Slot → Prop), (∀ xs mm, Φ xs mm → (match mm with
  | .ok xs => Q (.ok (xs.map f))
  | .error (.exc c fs) => Q (.ex c fs)
  | .error .stuck => False) → k xs) → (match m with
  | .ok xs => Q (.ok (xs.map f))
  | .error (.exc c fs) => Q (.ex c fs)
  | .error .stuck => False) → wA env (rk k Q)
theorem Zvu {f : β → D} {Φ : List Slot → P (List β) → Prop} {m : P (List β)} (h : Φ [] m) : EvKI env aNil f Φ m := fun Q k hk q => hk _ _ h q
theorem Z2j {f : β → D} {Φ : List Slot → P (List β) → Prop} {fa : α → Slot} {ma : P α} {mm : α → P (List β)} (h : EvM env we fa ma) (h2 : ∀ a, EvKI env wA f (fun xs mm => Φ (fa a :: xs) mm) (mm a)) : EvKI env (Zam we wA) f Φ (bd ma mm) := fun Q k hk q => h _ (by
  cases ma with
  | ok a => exact h2 a Q (fun xs => k (fa a :: xs)) (fun xs mm hp q => hk _ _ hp q) q
  | error e => cases e with
    | stuck => exact q.elim
    | exc c fs => exact q)
def Zs1 (kf : α → List L2.Key) (xs : List α) : List α := xs.mergeSort fun a b => !ltK (kf b) (kf a)
theorem Zk0 (kf : α → List L2.Key) (xs : List α) : (Zs1 kf xs).Perm xs := List.mergeSort_perm xs _
theorem Zie (kf : α → List L2.Key) (xs : List α) : (Zs1 kf xs).Pairwise fun a b => ltK (kf b) (kf a) = false := by
  have h := List.pairwise_mergeSort (le := fun a b => !ltK (kf b) (kf a)) (fun a b c h1 h2 => by
    have h1 : ltK (kf b) (kf a) = false := by simpa using h1
    have h2 : ltK (kf c) (kf b) = false := by simpa using h2
    simpa using Zyy.swo.tr _ _ _ h1 h2) (fun a b => by
    cases e : ltK (kf b) (kf a) with
    | false => rfl
    | true => rw [Zyy.swo.asym _ _ e]; rfl) xs
  exact h.imp fun h => by simpa using h
theorem Zsg {kf : α → List L2.Key} {xs ys : List α} (inj : ∀ a ∈ xs, ∀ b ∈ xs, kf a = kf b → a = b) (hp : ys.Perm xs) (hs : ys.Pairwise fun a b => ltK (kf b) (kf a) = false) : ys = Zs1 kf xs := by
  refine List.Perm.eq_of_pairwise (le := fun a b => ltK (kf b) (kf a) = false) (fun a b ha hb h1 h2 => ?_) hs (Zie kf xs) (hp.trans (Zk0 kf xs).symm)
  have ha' := hp.mem_iff.mp ha
  have hb' := (Zk0 kf xs).mem_iff.mp hb
  exact inj a ha' b hb' (Zyy.tri _ _ h2 h1)
theorem Zuw {f : α → β} {ys : List β} {xs : List α} (h : ys.Perm (xs.map f)) : ∃ zs : List α, zs.Perm xs ∧ ys = zs.map f := by
  have pr : Paired (fun (b : β) a => b = f a) (xs.map f) xs := Zoe (by simp) fun i b a hb ha => by
    rw [List.getElem?_map, ha] at hb
    cases hb; rfl
  obtain ⟨zs, hz, r⟩ := Zoy h.symm pr
  refine ⟨zs, hz, ?_⟩
  clear h hz pr
  induction r with
  | nil => rfl
  | cons a _ ih => rw [List.map_cons, ← a, ← ih]
def Zwf (kf : α → List L2.Key) (xs : List α) : Option (List α) := if (xs.map kf).Nodup then some (Zs1 kf xs) else none
theorem Zww {γ : G} {x : Slot} {f : α → D} {kf : α → List L2.Key} {kD : D → List L2.Key} {sh : List Bool} {xs : List α} (h : x.dat = some (encL f xs)) (hkD : ∀ a, kD (f a) = kf a) (hγ : ∀ a, Sim γ [.sh (f a)] (fun t : List L2.Key => .sh (.tup (t.map keyD))) (.ok (kf a))) (hs : ∀ a, shK (kf a) = sh) (h0 : sh.head? = some true) : UnM (Zmp γ) x (owE (encL f)) (Zwf kf xs) := fun k r e q => by
  unfold Zmp; rw [h]
  unfold Zwf at e
  split at e
  · rename_i hn
    cases e
    refine ⟨kD, sh, h0, fun d hd => ?_, fun es hp hpw => ?_⟩
    · obtain ⟨a, _, rfl⟩ := List.mem_map.mp hd
      rw [hkD]
      exact ⟨hs a, hγ a _ rfl⟩
    · obtain ⟨zs, hz, rfl⟩ := Zuw hp
      have hpw' : zs.Pairwise fun a b => ltK (kf b) (kf a) = false := (List.pairwise_map.mp hpw).imp fun {a b} h => by
        rw [hkD, hkD] at h; exact h
      have inj : ∀ a ∈ xs, ∀ b ∈ xs, kf a = kf b → a = b := fun a ha b hb e => by
        refine Classical.byContradiction fun ne => ?_
        have pw := List.pairwise_map.mp hn
        obtain ⟨i, hi, ei⟩ := List.getElem_of_mem ha
        obtain ⟨j, hj, ej⟩ := List.getElem_of_mem hb
        have hij : i ≠ j := fun z => by subst z; exact ne (ei.symm.trans ej)
        rcases Nat.lt_or_gt_of_ne hij with z | z
        · have := List.pairwise_iff_getElem.mp pw i j hi hj z
          rw [ei, ej] at this; exact this e
        · have := List.pairwise_iff_getElem.mp pw j i hj hi z
          rw [ei, ej] at this; exact this e.symm
      rw [Zsg inj hz hpw']; exact q
  · cases e
def lcP (t : α → P Bool) (e : α → P β) : List α → List β → P (List β)
  | [], acc => .ok acc
  | x :: xs, acc => match t x with
    | .ok true => (match e x with
      | .ok y => if acc.length < 16777216 then lcP t e xs (acc ++ [y]) else stuck
      | .error _ => stuck)
    | .ok false => lcP t e xs acc
    | .error _ => stuck
theorem Zya {i : Nat} {f : α → D} {fb : β → D} {sb : β → Slot} {t : α → P Bool} {e : α → P β} (ht : ∀ x, EvM (env.set i (.sh (f x))) wt blE (t x)) (he : ∀ x, EvM (env.set i (.sh (f x))) we sb (e x)) (hsb : ∀ y, (sb y).stab = some (fb y)) {k : List D → Prop} : ∀ (xs : List α) (acc : List β), (match lcP t e xs acc with | .ok ys => k (ys.map fb) | .error _ => False) → lcL i wt we (xs.map f) env (acc.map fb) k
  | [], acc, q => q
  | x :: xs, acc, q => by
    rw [lcP] at q
    refine ht x _ ?_
    cases h1 : t x with
    | error z => rw [h1] at q; exact q.elim
    | ok b =>
      rw [h1] at q
      cases b with
      | false => exact Zya ht he hsb xs acc q
      | true =>
        refine he x _ ?_
        cases h2 : e x with
        | error z => rw [h2] at q; exact q.elim
        | ok y =>
          rw [h2] at q
          dsimp only at q
          by_cases hl : acc.length < 16777216
          · rw [if_pos hl] at q
            show (match (sb y).stab with | some z => (acc.map fb).length < 16777216 ∧ lcL i wt we (xs.map f) env (acc.map fb ++ [z]) k | none => False)
            rw [hsb]
            refine ⟨by rw [List.length_map]; exact hl, ?_⟩
            have := Zya ht he hsb xs (acc ++ [y]) q
            rw [List.map_append] at this
            exact this
          · rw [if_neg hl] at q
            exact q.elim
theorem Z2x {i : Nat} {f : α → D} {fb : β → D} (sb : β → Slot) {xs : List α} {t : α → P Bool} {e : α → P β} (hu : env[i]? = some .un) (hi : EvI env wi (xs.map f)) (ht : ∀ x, EvM (env.set i (.sh (f x))) wt blE (t x)) (he : ∀ x, EvM (env.set i (.sh (f x))) we sb (e x)) (hsb : ∀ y, (sb y).stab = some (fb y)) : EvM env (wLc i wi wt we) (owE (encL fb)) (lcP t e xs []) := fun Q q => by
  refine ⟨by unfold unAt; rw [hu]; trivial, hi _ ?_⟩
  refine Zya ht he hsb xs [] ?_
  cases h : lcP t e xs [] with
  | ok ys => rw [h] at q; exact q
  | error z =>
    rw [h] at q
    have : ∀ (xs : List α) (acc : List β) c fs, lcP t e xs acc ≠ .error (.exc c fs) := by
      intro xs
      induction xs with
      | nil => intro acc c fs h; cases h
      | cons x xs ih =>
        intro acc c fs h
        rw [lcP] at h
        split at h
        · split at h
          · split at h
            · exact ih _ _ _ h
            · cases h
          · cases h
        · exact ih _ _ _ h
        · cases h
    cases z with
    | stuck => exact q.elim
    | exc c fs => exact (this xs [] c fs h).elim
theorem Zna (t : α → Bool) (e : α → β) : ∀ (xs : List α) (acc : List β), acc.length + xs.length ≤ 16777216 → lcP (fun x => .ok (t x)) (fun x => .ok (e x)) xs acc = .ok (acc ++ (xs.filter t).map e)
  | [], acc, _ => by rw [lcP]; simp
  | x :: xs, acc, h => by
    rw [lcP]
    have h' : acc.length + (xs.length + 1) ≤ 16777216 := by simpa using h
    cases hx : t x with
    | true =>
      dsimp only
      rw [if_pos (by omega), Zna t e xs _ (by simp; omega)]
      simp [hx]
    | false =>
      dsimp only
      rw [Zna t e xs _ (by omega)]
      simp [hx]
end
end DL
set_option Elab.async false
set_option linter.all false
set_option maxRecDepth 100000
set_option maxHeartbeats 4000000
namespace DL
open PySem PySem.Spec PyProof.Rows L2
section
variable {env : En} {wa wb wc we : WE} {α β δ : Type}
theorem Z4g {x : Slot} {f : α → D} {m : Dct Int α} {i : Int} (h : x.dat = some (encK kI f m)) : OpP (oIn false) (.sh (.int i)) x (.sh (.bl (m.has i))) := fun k q => Z2a (neg := false) h k (by rw [Bool.false_xor]; exact q)
theorem Zuq {x : Slot} {f : α → D} {m : Dct Int α} {i : Int} (h : x.dat = some (encK kI f m)) : OpP (oIn true) (.sh (.int i)) x (.sh (.bl (!m.has i))) := fun k q => Z2a (neg := true) h k (by rw [Bool.true_xor]; exact q)
theorem Z0y {x : Slot} {f : α → D} {m : Dct (T2 Int Int) α} {i : T2 Int Int} (h : x.dat = some (encT kII f m)) : OpP (oIn false) (.sh (enc2 D.int D.int i)) x (.sh (.bl (m.has i))) := fun k q => Zzh (neg := false) h k (by rw [Bool.false_xor]; exact q)
theorem Zv2 {x : Slot} {f : α → D} {m : Dct (T2 Int Int) α} {i : T2 Int Int} (h : x.dat = some (encT kII f m)) : OpP (oIn true) (.sh (enc2 D.int D.int i)) x (.sh (.bl (!m.has i))) := fun k q => Zzh (neg := true) h k (by rw [Bool.true_xor]; exact q)
theorem Z3w {x : Slot} {f : α → D} {o : Option α} (h : x.dat = some (encO f o)) (hf : ∀ a, (f a).isNon = false) : UnP (oIsN false) x (.sh (.bl o.isNone)) := fun k q => Z2g (neg := false) h (Zs8 hf o) k (by rw [Bool.false_xor]; exact q)
theorem Zrm {x : Slot} {f : α → D} {o : Option α} (h : x.dat = some (encO f o)) (hf : ∀ a, (f a).isNon = false) : UnP (oIsN true) x (.sh (.bl o.isSome)) := fun k q => Z2g (neg := true) h (Zs8 hf o) k (by
  rw [Bool.true_xor]
  have : (!o.isNone) = o.isSome := by cases o <;> rfl
  rw [this]; exact q)
theorem Zif {n : Nat} {x : Slot} {f : α → D} {fb : β → D} {g : α → β} {ds : α → List D} {o : Option α} (h : x.dat = some (encO f o)) (h1 : ∀ a, f a = .tup (ds a)) (h2 : ∀ a, (ds a)[n]? = some (fb (g a))) : UnM (oIxN n) x (shE fb) (o.map g) := fun k b e q => by
  cases o with
  | none => cases e
  | some a =>
    cases e
    have h' : x.dat = some (.tup (ds a)) := by rw [h]; show some (f a) = _; rw [h1]
    exact Za0 h' (h2 a) k q
theorem Zt3 {m : P (List Int)} {wA : WA} (hh : EvKI env wA D.int (fun xs mm => ∃ j : Int, xs = [.sh (.int j)] ∧ mm = grd (Bd62 j) (.ok (Zfp 0 j.toNat))) m) : EvIM env (Zta wA) D.int m := fun Q q => hh Q _ (fun xs mm ⟨j, e, em⟩ q => by
  subst e em
  by_cases hb : Bd62 j
  · rw [Zzg hb] at q
    exact ⟨hb, by rw [Ztz]; exact q⟩
  · unfold grd at q; rw [if_neg hb] at q; exact q.elim) q
theorem Zy7 {κ τ : Type} {cv : τ → O} {rest : WS} {wk : WE} {i : Nat} {c : D} {f : α → D} {sf : α → Slot} {ma : P α} {fk : κ → D} {mk : P κ} {mm : α → κ → P τ} (hx : env[i]? = some (.ow c)) (h : EvM env we sf ma) (hs : ∀ a, (sf a).stab = some (f a)) (hk : EvM env wk (shE fk) mk)
    (hr : ∀ a k K, Zeb (mm a k) cv K → Ztr c (fk k) (f a) fun c' => rest (env.set i (.ow c')) K) : B env (wSeq (wSet i wk we) rest) cv (bd ma fun a => bd mk fun k => mm a k) := fun K q => by
  show wSet i wk we env _
  unfold wSet
  rw [hx]
  refine h _ ?_
  rcases specO_bd q with ⟨a, e0, q⟩ | ⟨c, fs, e0, q⟩
  · rw [e0]
    show (match (sf a).stab with | some d => wk env _ | none => False)
    rw [hs]
    refine hk _ ?_
    rcases specO_bd q with ⟨k, e1, q⟩ | ⟨c, fs, e1, q⟩
    · rw [e1]; exact hr a k K q
    · rw [e1]; exact q env
  · rw [e0]; exact q env
def Dct.same [DecidableEq α] (a b : Dct Int α) : Bool := decide (a.l.length = b.l.length) && a.l.all fun p => decide (b.get p.1 = some p.2)
def key3 (t : T5 Int Int Int Tx Int) : List L2.Key := [.inl t.x1, .inl t.x2, .inl t.x3]
def Z57 : D → List L2.Key
  | .tup (.int a :: .int b :: .int c :: _) => [.inl a, .inl b, .inl c]
  | _ => []
end
end DL
set_option Elab.async false
set_option linter.all false
set_option maxRecDepth 100000
set_option maxHeartbeats 4000000
namespace DL
open PySem PySem.Spec PyProof.Rows L2
section
variable {env : En} {w w1 w2 w3 rest body : WS} {τ : Type} {cv : τ → O}
theorem Zer {α : Type} {we : WE} {f : α → D} {o : Option α} (h : EvP env we (.sh (encO f o))) : EvM env we (shE f) (ofO o) := fun Q q => by
  cases o with
  | none => exact q.elim
  | some a => exact h Q q
theorem Z37 {α β : Type} {i : Nat} {wi : WI} {wt we : WE} {f : α → D} {fb : β → D} (sb : β → Slot) {m : P (List α)} {t : α → P Bool} {e : α → P β} (hu : env[i]? = some .un) (hi : EvIM env wi f m) (ht : ∀ x, EvM (env.set i (.sh (f x))) wt blE (t x)) (he : ∀ x, EvM (env.set i (.sh (f x))) we sb (e x)) (hsb : ∀ y, (sb y).stab = some (fb y)) : EvM env (wLc i wi wt we) (owE (encL fb)) (bd m fun xs => lcP t e xs []) := fun Q q => by
  cases hm : m with
  | ok xs =>
    rw [hm] at q
    have hi' : EvI env wi (xs.map f) := fun Q' q' => hi Q' (by rw [hm]; exact q')
    exact Z2x sb hu hi' ht he hsb Q q
  | error z =>
    rw [hm] at q
    cases z with
    | stuck => exact q.elim
    | exc c fs =>
      refine ⟨by unfold unAt; rw [hu]; trivial, hi _ ?_⟩
      rw [hm]
      exact q
theorem Z2y {i : Nat} {a : Addr} {d : D} (h : env[i]? = some (Slot.lk a d)) : EvP env (wVar i) (.lk a d) := fun Q q => by
  unfold wVar; rw [h]; exact q
end
end DL
set_option Elab.async false
set_option linter.all false
set_option maxRecDepth 100000
set_option maxHeartbeats 4000000
namespace DL
open PySem PySem.Spec PyProof.Rows L2
section
variable {env : En} {we : WE} {wl wh : WO}
end
end DL
set_option Elab.async false
set_option linter.all false
set_option maxRecDepth 100000
set_option maxHeartbeats 4000000
namespace DL
open PySem PySem.Spec PyProof.Rows L2
section
variable {env : En} {we : WE} {w1 rest body : WS} {g : WG} {wA : WA} {σ τ ρ α : Type} {cv : τ → O}
theorem Zzy {i : Nat} {is : List Nat} {acc : List Addr} {d : D} {m : P τ} (env' : Addr → En) (hx : env[i]? = some (.ow d)) (he : ∀ a, env.set i (.lk a d) = env' a) (h : ∀ a, B (env' a) (Znl is (acc ++ [a]) wA) cv m) : B env (Znl (i :: is) acc wA) cv m := fun K q => by
  unfold Znl
  rw [hx]
  intro a _
  rw [he a]
  exact h a K q
theorem Z51 {acc : List Addr} {xs : List Slot} {ds : List D} {t : τ} (h : EvA env wA xs) (hp : ∀ k : List D → Prop, k ds → Zks acc xs k) (hl : xs.length ≤ 16777216) (ht : cv t = .ret (.nd (.tup ds))) (ho : Zsf ds = true := by rfl) : B env (Znl [] acc wA) cv (.ok t) := fun K q => h _ ⟨hl, hp _ ⟨ho, (by
  have q' : K (cv t) := q
  rw [ht] at q'; exact q')⟩⟩
def Z0v : List Nat → List Slot → En → Option En
  | [], [], env => some env
  | i :: is, x :: xs, env => cond (Nat.blt i env.length) (Z0v is xs (env.set i x)) none
  | _, _, _ => none
theorem Zs9 {k : En → Prop} : ∀ {is : List Nat} {xs : List Slot} {env e : En}, Z0v is xs env = some e → k e → Zoj is xs env k
  | [], [], env, e, h, q => by cases h; exact q
  | i :: is, d :: ds, env, e, h, q => by
    unfold Z0v at h
    cases hb : Nat.blt i env.length with
    | true =>
      rw [hb] at h
      exact ⟨Nat.lt_of_succ_le (by simpa [Nat.blt] using hb), Zs9 h q⟩
    | false => rw [hb] at h; cases h
  | [], _ :: _, _, _, h, _ => by cases h
  | _ :: _, [], _, _, h, _ => by cases h
theorem Z3a {is : List Nat} {f : α → Slot} {m : P α} {ds : α → List D} {mm : α → P τ} (e : α → En) (h : EvM env we f m) (hx : ∀ a, f a = .nd (.tup (ds a))) (hs : ∀ a, Z0v is ((ds a).map D.slot) env = some (e a)) (hr : ∀ a, B (e a) rest cv (mm a)) : B env (wSeq (wAsg (gTn is) we) rest) cv (bd m mm) := fun K q => wseq (Z05 h (by
  rcases specO_bd q with ⟨a, e1, q⟩ | ⟨c, fs, e1, q⟩
  · refine .inl ⟨a, e1, ?_⟩
    rw [hx a]
    exact Zs9 (hs a) (hr a K q)
  · exact .inr ⟨c, fs, e1, q⟩))
end
end DL
set_option Elab.async false
set_option linter.all false
set_option maxRecDepth 100000
set_option maxHeartbeats 1000000
namespace DL
open PySem PySem.Spec PyProof.Rows L2
section
variable {env : En} {wc : WE} {rest body : WS} {σ τ ρ : Type} {cv : τ → O}
theorem Zu1 {c : σ → P Bool} {e : σ → En} {fr : ρ → Slot} {step : σ → P (Out σ ρ)} (hc : ∀ s, EvM (e s) wc blE (c s)) (hb : ∀ s, B (e s) body (cvX e fr) (step s)) {K : O → Prop} : ∀ (n : Nat) (s : σ), Zeb (whN c step n s) (cvX e fr) K → wWh wc body n (e s) K
  | 0, s, q => q.elim
  | n + 1, s, q => hc s _ (by
    have q : Zeb (bd (c s) fun b => cond b (bd (step s) fun o => match o with
      | .nx s' => whN c step n s'
      | .ct s' => whN c step n s'
      | .bk s' => .ok (.nx s')
      | .ret r => .ok (.ret r)) (.ok (.nx s))) (cvX e fr) K := q
    rcases specO_bd q with ⟨b, e1, q⟩ | ⟨x, fs, e1, q⟩
    · rw [e1]
      cases b with
      | false => exact q
      | true =>
        refine hb s _ ?_
        have q : Zeb (bd (step s) fun o => match o with
          | .nx s' => whN c step n s'
          | .ct s' => whN c step n s'
          | .bk s' => .ok (.nx s')
          | .ret r => .ok (.ret r)) (cvX e fr) K := q
        rcases specO_bd q with ⟨a, e2, q⟩ | ⟨x, fs, e2, q⟩
        · rw [e2]
          cases a with
          | nx s' => exact Zu1 hc hb n s' q
          | ct s' => exact Zu1 hc hb n s' q
          | bk s' => exact q
          | ret r => exact q
        · rw [e2]; exact q
    · rw [e1]; exact q _)
theorem Zve {c : σ → P Bool} {step : σ → P (Out σ ρ)} : ∀ (n : Nat) (s s' : σ), whN c step n s ≠ .ok (.ct s') ∧ whN c step n s ≠ .ok (.bk s')
  | 0, s, s' => ⟨(fun h => nomatch h), (fun h => nomatch h)⟩
  | n + 1, s, s' => by
    rw [whN]
    cases hc : c s with
    | error e => exact ⟨(fun h => nomatch h), (fun h => nomatch h)⟩
    | ok b => cases b with
      | false => exact ⟨(fun h => nomatch h), (fun h => nomatch h)⟩
      | true =>
        cases hs : step s with
        | error e => exact ⟨(fun h => nomatch h), (fun h => nomatch h)⟩
        | ok o => cases o with
          | nx t => exact Zve n t s'
          | ct t => exact Zve n t s'
          | bk t => exact ⟨(fun h => nomatch h), (fun h => nomatch h)⟩
          | ret r => exact ⟨(fun h => nomatch h), (fun h => nomatch h)⟩
theorem Z7a {c : σ → P Bool} {s0 : σ} {step : σ → P (Out σ ρ)} {ret : ρ → P τ} {nx : σ → P τ} (e : σ → En) (fr : ρ → Slot) (h0 : env = e s0) (hc : ∀ s, EvM (e s) wc blE (c s)) (hb : ∀ s, B (e s) body (cvX e fr) (step s)) (hret : ∀ r, ∃ t, ret r = .ok t ∧ cv t = .ret (fr r)) (hr : ∀ s, B (e s) rest cv (nx s)) : B env (wSeq (Zlp wc body) rest) cv (aft (whX c step s0) ret nx) := fun K q => by
  subst h0
  have ne : whX c step s0 ≠ stuck := fun z => by rw [z] at q; exact q.elim
  have ex : ∃ n, whN c step n s0 ≠ stuck := by
    refine Classical.byContradiction fun h => ne ?_
    unfold whX
    rw [dif_neg h]
  obtain ⟨n, hn⟩ := ex
  have e1 := Z2t (rfl : whN c step n s0 = whN c step n s0) hn
  rw [e1] at q
  exact ⟨n, Zu1 hc hb n s0 (Zwv q hret hr fun s' => Zve n s0 s')⟩
end
end DL
set_option Elab.async false
set_option linter.all false
set_option maxRecDepth 100000
set_option maxHeartbeats 1000000
namespace DL
open PySem PySem.Spec PyProof.Rows L2
section
variable {env : En} {wi : WI} {rest body : WS} {g : WG} {σ τ ρ α : Type} {cv : τ → O}
end
end DL
set_option Elab.async false
set_option linter.all false
set_option maxRecDepth 100000
set_option maxHeartbeats 1000000
namespace DL
open PySem PySem.Spec PyProof.Rows L2
section
variable {α σ τ : Type}
variable {env : En} {we : WE} {rest : WS} {cv : τ → O} {tab : List (Str × Bool)}
end
section
variable {σ τ ρ : Type} {env : En} {wc : WE} {w1 w2 rest : WS} {cv : τ → O}
end
end DL
set_option Elab.async false
set_option linter.all false
set_option maxRecDepth 100000
set_option maxHeartbeats 1000000
namespace DL
open PySem PySem.Spec PyProof.Rows L2
section
variable {α β γ : Type} {f : α → D} {g : β → D} {x : Slot} {o : α ⊕ β}
end
end DL
namespace DL
open PySem PySem.Spec PyProof.Rows L2
section
variable {α β : Type} {f : α → D} {g : β → D} {env : En} {we : WE}
end
section
variable {a b c d e f' g' : Type} {fa : a → D} {fb : b → D} {fc : c → D} {fd : d → D} {ga : e → D} {gb : f' → D} {gc : g' → D}
end
end DL
set_option Elab.async false
set_option linter.all false
set_option maxRecDepth 100000
set_option maxHeartbeats 1000000
namespace DL
open PySem PySem.Spec PyProof.Rows L2
section
variable {α β τ : Type} {env : En} {we : WE} {w1 rest : WS} {cv : τ → O}
end
end DL
set_option Elab.async false
set_option linter.all false
set_option maxRecDepth 100000
set_option maxHeartbeats 1000000
namespace DL
open PySem PySem.Spec PyProof.Rows L2
section
variable {α : Type} {env : En} {w we : WE} {ws : List WE} {wl wh : WO} {f : α → Slot}
end
end DL
namespace DL
open PySem PySem.Spec PyProof.Rows L2
end DL
set_option Elab.async false
set_option linter.all false
set_option maxRecDepth 100000
namespace DL
open PySem PySem.Spec PyProof.Rows L2
end DL
set_option Elab.async false
set_option linter.all false
set_option maxRecDepth 100000
set_option maxHeartbeats 4000000
namespace DL
open PySem PySem.Spec PyProof.Rows L2
section
variable {α β γ : Type} {f : α → D} {env : En} {we wb : WE} {wA : WA}
def cutV (xs : List α) (lo hi : Option Int) : Option (List α) := if ¬ (HT.sIx xs.length 0 lo = 0 ∧ HT.sIx xs.length xs.length hi = xs.length) then some (cutD xs lo hi) else none
end
section
variable {α τ : Type} {env : En} {rest : WS} {cv : τ → O}
end
section
variable {α : Type} {f : α → D} {env : En} {we : WE}
end
end DL
set_option Elab.async false
set_option linter.all false
set_option maxRecDepth 100000
set_option maxHeartbeats 4000000
namespace DL
open PySem PySem.Spec PyProof.Rows L2
section
variable {α β : Type} {g : β → D} {env : En} {we wk : WE} {wA : WA} {sep : Str}
end
section
variable {α : Type} {f : α → D} {env : En} {we : WE}
end
end DL
set_option Elab.async false
set_option linter.all false
set_option maxRecDepth 100000
set_option maxHeartbeats 4000000
namespace DL
open PySem PySem.Spec PyProof.Rows L2
def Zuj {τ : Type} (I : En → Prop) (m : P τ) (cv : τ → O → Prop) (K : O → Prop) : Prop := match m with
  | .ok a => ∀ o, cv a o → K o
  | .error (.exc c fs) => ∀ e, I e → K (.ex c fs e)
  | .error .stuck => False
def BI {τ : Type} (I : En → Prop) (env : En) (w : WS) (cv : τ → O → Prop) (m : P τ) : Prop := ∀ K : O → Prop, Zuj I m cv K → w env K
@[reducible] def rel {τ : Type} (cv : τ → O) : τ → O → Prop := fun a o => o = cv a
@[reducible] def anyE : En → Prop := fun _ => True
def noX {α : Type} (m : P α) : P α := match m with
  | .ok a => .ok a
  | .error _ => stuck
theorem Z6y {α : Type} {a : α} : noX (.ok a) = .ok a := rfl
def Z4r {α : Type} (m : P α) (f : α → Slot) (e : α → En) (env : En) (Q : M1 → Prop) : Prop := match m with
  | .ok a => Q (.ok (f a) (e a))
  | .error (.exc c fs) => Q (.ex c fs env)
  | .error .stuck => False
def EvC {α : Type} (env : En) (wm : WM) (f : α → Slot) (e : α → En) (m : P α) : Prop := ∀ Q : M1 → Prop, Z4r m f e env Q → wm env Q
section
variable {env : En} {w w1 w2 w3 rest body : WS} {wa wb wc we wk : WE} {wm wm2 : WM} {wA : WA} {wi : WI} {α β δ τ σ ρ : Type} {cv : τ → O → Prop} {cf : τ → O} {g : WG} {I : En → Prop}
theorem i_of {m : P τ} (h : B env w cf m) : BI anyE env w (rel cf) m := fun K q => h K (by
  cases m with
  | ok a => exact q _ rfl
  | error e => cases e with
    | stuck => exact q
    | exc c fs => exact fun e => q e trivial)
theorem b_of {m : P τ} (h : BI anyE env w (rel cf) m) : B env w cf m := fun K q => h K (by
  cases m with
  | ok a => exact fun o e => by rw [e]; exact q
  | error e => cases e with
    | stuck => exact q
    | exc c fs => exact fun e _ => q e)
theorem specI_bd {m : P α} {mm : α → P β} {cv : β → O → Prop} {K : O → Prop} (h : Zuj I (bd m mm) cv K) : (∃ a, m = .ok a ∧ Zuj I (mm a) cv K) ∨ ∃ c fs, m = .error (.exc c fs) ∧ ∀ e, I e → K (.ex c fs e) := by
  cases m with
  | ok a => exact .inl ⟨a, rfl, h⟩
  | error e => cases e with
    | stuck => exact h.elim
    | exc c fs => exact .inr ⟨c, fs, rfl, h⟩
theorem Z0e {m : P α} {mm : α → P τ} {f : α → Slot} {e : α → En} {K : O → Prop} {Q : M1 → Prop} (q : Zuj I (bd m mm) cv K) (h1 : ∀ a, Zuj I (mm a) cv K → Q (.ok (f a) (e a))) (h2 : ∀ c fs, (∀ e, I e → K (.ex c fs e)) → Q (.ex c fs env)) : Z4r m f e env Q := by
  rcases specI_bd q with ⟨a, e, q⟩ | ⟨c, fs, e, q⟩
  · rw [e]; exact h1 a q
  · rw [e]; exact h2 c fs q
theorem set_set {i : Nat} {x y : Slot} : (env.set i x).set i y = env.set i y := List.set_set ..
theorem Z1g {f : α → Slot} {m : P α} (h : EvM env we f m) : EvC env (Zpv we) f (fun _ => env) m := fun Q q => by
  unfold Zpv
  have := h (fun r => match r with
    | .ok x => Q (.ok x env)
    | .ex c fs => Q (.ex c fs env)) (by
    cases m with
    | ok a => exact q
    | error z => cases z with
      | stuck => exact q
      | exc c fs => exact q)
  exact this
end
end DL
set_option Elab.async false
set_option linter.all false
set_option maxRecDepth 100000
set_option maxHeartbeats 4000000
namespace DL
open PySem PySem.Spec PyProof.Rows L2
section
variable {env : En} {w w1 w2 w3 rest body : WS} {wa wb wc we wk wo : WE} {wm wm2 : WM} {wA : WA} {wi : WI} {α β δ τ σ ρ κ : Type} {cv : τ → O → Prop} {cf : τ → O} {g : WG} {I : En → Prop}
theorem Zx3 {f : α → Slot} {e1 : α → En} {m : P α} {mm : α → P τ} (h : EvC env wm f e1 m) (hr : ∀ x, BI I (e1 x) rest cv (mm x)) (hI : I env := by first | exact rfl | exact True.intro) : BI I env (wSeq (Zso wm) rest) cv (bd m mm) := fun K q => h _ (Z0e q (fun a q => hr a K q) fun c fs q => q env hI)
end
end DL
set_option Elab.async false
set_option linter.all false
set_option maxRecDepth 100000
set_option maxHeartbeats 4000000
namespace DL
open PySem PySem.Spec PyProof.Rows L2
section
variable {env : En} {w w1 w2 w3 rest body wb : WS} {wc we wk wo : WE} {wm wa wm2 : WM} {wA : WA} {wi : WI} {α β δ τ σ ρ κ : Type} {cv : τ → O → Prop} {cf : τ → O} {g : WG} {I : En → Prop}
def tq (kt kf : En → (O → Prop) → Prop) (K : O → Prop) : M1 → Prop := fun r => match r with
  | .ok x e => asB (fun b => match b with | true => kt e K | false => kf e K) x
  | .ex c fs e => K (.ex c fs e)
def TBI {τ : Type} (I : En → Prop) (env : En) (wm : WM) (kt kf : En → (O → Prop) → Prop) (cv : τ → O → Prop) (m : P τ) : Prop := ∀ K : O → Prop, Zuj I m cv K → wm env (tq kt kf K)
@[reducible] def BQ {τ : Type} (I : En → Prop) (k : (O → Prop) → Prop) (cv : τ → O → Prop) (m : P τ) : Prop := ∀ K : O → Prop, Zuj I m cv K → k K
theorem Z7f {m : P τ} (h : TBI I env wm (fun e K => w1 e (sq rest K)) (fun e K => w2 e (sq rest K)) cv m) : BI I env (wSeq (wIfM wm w1 w2) rest) cv m := fun K q => by
  have := h K q
  have e : (tq (fun e K => w1 e (sq rest K)) (fun e K => w2 e (sq rest K)) K) = fun r => match r with
    | .ok x e1 => asB (fun b => match b with | true => w1 e1 (sq rest K) | false => w2 e1 (sq rest K)) x
    | .ex c fs e1 => sq rest K (.ex c fs e1) := by
    funext r
    cases r with
    | ok x e1 => rfl
    | ex c fs e1 => rfl
  rw [e] at this
  exact this
theorem Z77 {kt kf : En → (O → Prop) → Prop} {m : P τ} (h : TBI I env wa kt (fun e K => wm e (tq kt kf K)) cv m) : TBI I env (mOr wa wm) kt kf cv m := fun K q => by
  have := h K q
  unfold mOr
  refine cast (congrArg (wa env) (funext fun r => ?_)) this
  cases r with
  | ok x e1 =>
    cases x with
    | sh d => cases d with
      | bl b => cases b <;> rfl
      | _ => rfl
    | _ => rfl
  | ex c fs e1 => rfl
theorem Z2w {kt kf : En → (O → Prop) → Prop} {f : α → Slot} {e : α → En} {v : α → Bool} {m : P α} {pt pf : α → P τ} (h : EvC env wm f e m) (hf : ∀ a, f a = .sh (.bl (v a))) (ht : ∀ a, BQ I (kt (e a)) cv (pt a)) (hf2 : ∀ a, BQ I (kf (e a)) cv (pf a)) (hI : I env := by first | exact rfl | exact True.intro) : TBI I env wm kt kf cv (bd m fun a => cond (v a) (pt a) (pf a)) := fun K q => h _ (Z0e q (fun a q => by
  show asB _ (f a)
  rw [hf]
  cases hv : v a with
  | true => rw [hv] at q; exact ht a K q
  | false => rw [hv] at q; exact hf2 a K q) fun c fs q => q env hI)
theorem Z3l {kt kf : En → (O → Prop) → Prop} {m : P Bool} {pt pf : P τ} (h : EvM env we blE m) (ht : BQ I (kt env) cv pt) (hf : BQ I (kf env) cv pf) (hI : I env := by first | exact rfl | exact True.intro) : TBI I env (Zpv we) kt kf cv (bd m fun c => cond c pt pf) := Z2w (v := fun b => b) (pt := fun _ => pt) (pf := fun _ => pf) (Z1g h) (fun _ => rfl) (fun _ => ht) (fun _ => hf) hI
theorem Zx5 {e : En} {w : WS} {m : P τ} (h : BI I e (wSeq w rest) cv m) : BQ I (fun K => w e (sq rest K)) cv m := fun K q => h K q
def Dct.items {κ α : Type} (m : Dct κ α) : List (T2 κ α) := m.l.map fun p => ⟨p.1, p.2⟩
end
end DL
set_option Elab.async false
set_option linter.all false
set_option maxRecDepth 100000
set_option maxHeartbeats 4000000
namespace DL
open PySem PySem.Spec PyProof.Rows L2
section
variable {env : En} {w w1 w2 w3 rest body : WS} {wa wb wc we wk wo : WE} {wm wm2 : WM} {wA : WA} {wi : WI} {α β δ τ σ ρ κ : Type} {cv : τ → O → Prop} {cf : τ → O} {g : WG} {I : En → Prop}
end
def IT : List (Option Int) → List D → Prop
  | [], [] => True
  | none :: l, _ :: ds => IT l ds
  | some n :: l, d :: ds => d = .int n ∧ IT l ds
  | _, _ => False
theorem IT.get : ∀ {l : List (Option Int)} {ds : List D}, IT l ds → l.length = ds.length ∧ ∀ (j : Nat) (n : Int), l[j]? = some (some n) → ds[j]? = some (.int n)
  | [], [], _ => ⟨rfl, fun _ _ h => by simp at h⟩
  | none :: l, d :: ds, h => by
    obtain ⟨h1, h2⟩ := IT.get (l := l) (ds := ds) h
    refine ⟨congrArg (· + 1) h1, fun j n e => ?_⟩
    cases j with
    | zero => simp at e
    | succ j => exact h2 j n e
  | some m :: l, d :: ds, h => by
    obtain ⟨h1, h2⟩ := IT.get (l := l) (ds := ds) h.2
    refine ⟨congrArg (· + 1) h1, fun j n e => ?_⟩
    cases j with
    | zero =>
      have e : some (some m) = some (some n) := e
      cases e
      show some d = _
      rw [h.1]
    | succ j => exact h2 j n e
  | [], _ :: _, h => h.elim
  | none :: _, [], h => h.elim
  | some _ :: _, [], h => h.elim
abbrev Ft : Type := T6 Int Tx Tx Int Int Int
structure Bk where
  (years : List (T2 Int Int)) (feasts : Dct Int Ft) (closes : Dct Int Int) (seals : Dct Int Bool) (kept : List (T4 Int Int Tx Int))
abbrev Z6e : T4 Int Int Tx Int → D := enc4 D.int D.int encS D.int
@[reducible] def dK (b : Bk) : D := encL Z6e b.kept
def Bk.emp : Bk := ⟨[], Dct.emp, Dct.emp, Dct.emp, []⟩
structure Lg where
  (books undone : List Bk)
end DL
set_option Elab.async false
set_option linter.all false
set_option maxRecDepth 100000
set_option maxHeartbeats 4000000
namespace DL
open PySem PySem.Spec PyProof.Rows L2
end DL
set_option Elab.async false
set_option linter.all false
set_option maxRecDepth 100000
set_option maxHeartbeats 4000000
namespace DL
open PySem PySem.Spec PyProof.Rows L2
section
variable {τ : Type} {I : En → Prop} {env : En} {w rest : WS} {cv : τ → O → Prop}
end
end DL
set_option Elab.async false
set_option linter.all false
set_option maxRecDepth 100000
set_option maxHeartbeats 4000000
namespace DL
open PySem PySem.Spec PyProof.Rows L2
section
variable {α β : Type} {env : En} {we wlo : WE} {wh : WO}
end
section
variable {α : Type} {env : En} {w we : WE} {ws : List WE} {f : α → Slot}
end
end DL
set_option Elab.async false
set_option linter.all false
set_option maxRecDepth 100000
set_option maxHeartbeats 4000000
namespace DL
open PySem PySem.Spec PyProof.Rows L2
section
variable {τ α : Type} {I : En → Prop} {env : En} {we : WE} {cv : τ → O → Prop}
end
end DL
set_option Elab.async false
set_option linter.all false
set_option maxRecDepth 100000
set_option maxHeartbeats 4000000
namespace DL
open PySem PySem.Spec PyProof.Rows L2
section
variable {a b c d e f : Type} [DecidableEq a] [DecidableEq b] [DecidableEq c] [DecidableEq d] [DecidableEq e] [DecidableEq f] {n : Nat}
variable {fa : a → D} {fb : b → D} {fc : c → D} {fd : d → D} {fe : e → D} {ff : f → D}
end
end DL
set_option Elab.async false
set_option linter.all false
set_option maxRecDepth 100000
set_option maxHeartbeats 4000000
namespace DL
open PySem PySem.Spec PyProof.Rows L2
section
variable {env : En} {we : WE} {wm : WM} {α β δ : Type}
theorem Zr3 {i : Nat} {f : α → D} {xs : List α} (e : List α → En) (hx : env[i]? = some (.ow (encL f xs))) (he : ∀ ys, env.set i (.ow (encL f ys)) = e ys) : EvC env (Zri i) (fun r : α × List α => .sh (f r.1)) (fun r => e r.2) (ofO (xs.getLast?.map fun x => (x, xs.dropLast))) := fun Q q => by
  unfold Zri
  rw [hx]
  cases hl : xs.getLast? with
  | none => rw [hl] at q; exact q.elim
  | some x =>
    rw [hl] at q
    refine ⟨f x, by rw [List.getLast?_map, hl]; rfl, ?_⟩
    have q : Q (.ok (.sh (f x)) (e xs.dropLast)) := q
    rw [← he] at q
    rw [← List.map_dropLast]
    exact q
theorem Zzw {γ : G} {f : α → Slot} {e : α → En} {m : P α} {fo : β → Slot} {mb : α → P β} (h : EvC env wm f e m) (hs : ∀ a, Sim γ [(f a).arg] fo (mb a)) (ho : ∀ b, Zj8 (fo b)) : EvC env (Zsi γ wm) (fun r : β × α => fo r.1) (fun r => e r.2) (bd m fun a => bd (noX (mb a)) fun b => .ok (b, a)) := fun Q q => by
  unfold Zsi
  refine h _ ?_
  cases m with
  | ok a =>
    have q : Z4r (bd (noX (mb a)) fun b => .ok (b, a)) (fun r : β × α => fo r.1) (fun r => e r.2) env Q := q
    refine hs a _ ?_
    cases hm : mb a with
    | ok b =>
      rw [hm] at q
      have q : Q (.ok (fo b) (e a)) := q
      rcases ho b with ⟨d, z⟩ | ⟨d, z⟩ | ⟨d, z⟩
      · show outM (e a) Q (.ok (fo b)); rw [z] at q ⊢; exact q
      · show outM (e a) Q (.ok (fo b)); rw [z] at q ⊢; exact q
      · show outM (e a) Q (.ok (fo b)); rw [z] at q ⊢; exact q
    | error z => rw [hm] at q; exact q.elim
  | error z => cases z with
    | stuck => exact q
    | exc c fs => exact q
theorem Z3r {o : O2} {x : Slot} {f : α → Slot} {e : α → En} {m : P α} {fo : δ → Slot} {v : α → δ} (hx : EvP env we x) (he : x.env) (h : EvC env wm f e m) (ho : ∀ a, OpP o x (f a) (fo (v a))) : EvC env (mOp o (Zpv we) wm) (fun r : δ × α => fo r.1) (fun r => e r.2) (bd m fun a => .ok (v a, a)) := fun Q q => by
  unfold mOp Zpv
  refine hx _ ?_
  refine ⟨he, h _ ?_⟩
  cases m with
  | ok a => exact ho a _ q
  | error z => cases z with
    | stuck => exact q
    | exc c fs => exact q
theorem Z5k {x : Slot} {f : α → D} {xs : List α} (h : x.dat = some (encL f xs)) : UnP oRev x (.ow (encL f xs.reverse)) := fun k q => by
  unfold oRev
  rw [h]
  show k (.ow (.lst (xs.map f).reverse))
  rw [← List.map_reverse]
  exact q
end
end DL
set_option Elab.async false
set_option linter.all false
set_option maxRecDepth 100000
set_option maxHeartbeats 1000000
set_option synthInstance.maxSize 2000
set_option synthInstance.maxHeartbeats 400000
namespace DL
open PySem PySem.Spec PyProof.Rows L2
end DL
namespace DL
abbrev TNq := T4 Int Int (Option (T2 Tx Int)) (Option (T2 Tx Int))
abbrev ENq := T5 Int Int Int Tx Int
abbrev RWq := T4 Int Int Tx Int
abbrev eTq := enc4 D.int D.int (encO (enc2 encS D.int)) (encO (enc2 encS D.int))
abbrev eEq := enc5 D.int D.int D.int encS D.int
abbrev eRq := enc4 D.int D.int encS D.int
end DL
set_option Elab.async false
set_option linter.all false
set_option maxRecDepth 100000
set_option maxHeartbeats 1000000
set_option synthInstance.maxSize 2000
set_option synthInstance.maxHeartbeats 400000
namespace DL
open PySem PySem.Spec PyProof.Rows L2
def Zjq : WS :=
 (wSeq (wIf (wOp oLt (wVar 1) (wUn oLen (wVar 0)))
 (wRet (wOp oIx (wVar 0) (wVar 1)))
 Zbk)
 (wRet (wInt 0)))
theorem Zno : Zbl Zjq := (Zag (m_if (Zak (Zab 1) (Zai (Zab 0) Zfd) Zaz) (Zb3 (Zak (Zab 0) (Zab 1) Zbp)) Za5) (Zb3 Zav))
@[irreducible] def Zey : G := gOf 2 Zjq
theorem Zky : Zey = gOf 2 Zjq := by with_unfolding_all rfl
theorem Zez : Zc1 Zey := Zky ▸ Zbg Zno
noncomputable def Zex (law_script : (List Int)) (law_place : Int) : P Int :=
  (cond (decide (law_place < (law_script.length : Int)))
  (bd (ofO (atI law_script law_place)) fun r1 => .ok r1)
  (.ok (0 : Int)))
theorem Zgf (law_script : (List Int)) (law_place : Int) : Sim Zey [.sh ((encL D.int) law_script), .sh (D.int law_place)] (shE D.int) (Zex law_script law_place) :=
 Zb9 Zky (env := ([.sh ((encL D.int) law_script), .sh (D.int law_place)] : En)) rfl (fun _ => Zat) (by
  unfold Zex Zjq
  exact (b_if (Za4 (Zaf (i := 1) rfl) (Zau (Zaf (i := 0) rfl) (Zzo (xs := law_script) rfl)) op_lt)
 (Z4o (f := (shE D.int)) (t := fun r1 => r1) (Zcq (Zaf (i := 0) rfl) (Zaf (i := 1) rfl) (Zls (xs := law_script) rfl)) fun _ => rfl)
 (Zca (Zmd Zap rfl))))
def Zjw : WS :=
 (wSeq (wIf (wOp oGe (wVar 0) (wOp oPow (wInt 10) (wInt 18)))
 (Zim 0)
 Zbk)
 (wSeq (wAsg (gN 1) (wOp oMod (wOp oMul (wOp oMod (wOp oAdd (wOp oMul (wVar 0) (wInt 48271)) (wInt 7919)) (wInt 2147483647)) (wInt 16807)) (wInt 2147483629)))
 (wSeq (wAsg (gN 2) (wOp oMod (wOp oMul (wOp oMod (wOp oAdd (wOp oMul (wVar 0) (wInt 69621)) (wInt 104729)) (wInt 2147483587)) (wInt 40692)) (wInt 2147483399)))
 (wRet (wOp oAdd (wOp oMul (wVar 1) (wInt 2147483399)) (wVar 2))))))
theorem Zo1 : Zbl Zjw := (Zag (m_if (Zak (Zab 0) (Zak Zav Zav Zbe) Zaz) Zmo Za5) (Zag (Zaq Za1 (Zak (Zak (Zak (Zak (Zak (Zab 0) Zav Zbe) Zav Zaz) Zav Zbe) Zav Zbe) Zav Zbe)) (Zag (Zaq Za1 (Zak (Zak (Zak (Zak (Zak (Zab 0) Zav Zbe) Zav Zaz) Zav Zbe) Zav Zbe) Zav Zbe)) (Zb3 (Zak (Zak (Zab 1) Zav Zbe) (Zab 2) Zaz)))))
@[irreducible] def Zf0 : G := gOf 3 Zjw
theorem Zkn : Zf0 = gOf 3 Zjw := by with_unfolding_all rfl
theorem Zo8 : Zc1 Zf0 := Zkn ▸ Zbg Zo1
noncomputable def Zf4 (law_cell_here : Int) : P Int :=
  (cond (decide ((1000000000000000000 : Int) ≤ law_cell_here))
  (.ok law_cell_here)
  (Ze1 (((((law_cell_here * (48271 : Int)) + (7919 : Int)) % (2147483647 : Int)) * (16807 : Int)) % (2147483629 : Int)) fun (law_one : Int) =>
  (Ze1 (((((law_cell_here * (69621 : Int)) + (104729 : Int)) % (2147483587 : Int)) * (40692 : Int)) % (2147483399 : Int)) fun (law_two : Int) =>
  (.ok ((law_one * (2147483399 : Int)) + law_two)))))
theorem Zkl (law_cell_here : Int) : Sim Zf0 [.sh (D.int law_cell_here)] (shE D.int) (Zf4 law_cell_here) :=
 Zb9 Zkn (env := ([.sh (D.int law_cell_here), .un, .un] : En)) rfl (fun _ => Zat) (by
  unfold Zf4 Zjw
  exact (b_if (Za4 (Zaf (i := 0) rfl) (Za4 Zap Zap (op_pow (c := 1000000000000000000) ⟨by decide, by decide, by decide⟩ (by decide +kernel))) op_ge)
 (Zz6 (i := 0) (s := .sh (D.int law_cell_here)) rfl Zat rfl)
 (Zca (Zl2 (shE D.int) (fun law_one => ([.sh (D.int law_cell_here), .sh (D.int law_one), .un] : En)) (Za4 (Za4 (Za4 (Za4 (Za4 (Zaf (i := 0) rfl) Zap (op_mul (Zxs (by decide)))) Zap op_add) Zap (op_mod (by decide))) Zap (op_mul (Zxs (by decide)))) Zap (op_mod (by decide))) (fun _ => Zat) (Nat.le_of_ble_eq_true rfl) (fun _ => rfl) fun law_one =>
 (Zl2 (shE D.int) (fun law_two => ([.sh (D.int law_cell_here), .sh (D.int law_one), .sh (D.int law_two)] : En)) (Za4 (Za4 (Za4 (Za4 (Za4 (Zaf (i := 0) rfl) Zap (op_mul (Zxs (by decide)))) Zap op_add) Zap (op_mod (by decide))) Zap (op_mul (Zxs (by decide)))) Zap (op_mod (by decide))) (fun _ => Zat) (Nat.le_of_ble_eq_true rfl) (fun _ => rfl) fun law_two =>
 (Zmd (Za4 (Za4 (Zaf (i := 1) rfl) Zap (op_mul (Zxs (by decide)))) (Zaf (i := 2) rfl) op_add) rfl))))))
def Zgv : WS :=
 (wSeq (wAsg (gN 2) (Zbt Zf0 (Zam (wVar 0) aNil)))
 (wSeq (wAsg (gN 3) (wLst aNil))
 (wSeq (wFor (gT [4, 5]) (Z00 (Zam (wVar 1) aNil))
 (wSeq (wIf (wOp oLt (wVar 2) (wVar 5))
 (wSeq (wAsg (gN 2) (Zbt Zf0 (Zam (wOp oAdd (wOp oAdd (wVar 2) (wOp oMul (wInt 131) (wVar 4))) (wOp oMod (wVar 0) (wInt 1009))) aNil)))
 Zbk)
 Zbk)
 (wSeq (wApp 3 (wOp oMod (wVar 2) (wVar 5)))
 (wSeq (wAsg (gN 2) (wOp oDiv (wVar 2) (wVar 5)))
 (wFgt 4 (wFgt 5 Zbk))))))
 (Zim 3))))
theorem Zlf : Zbl Zgv := (Zag (Zaq Za1 (Zbb Zo8 (Zaa (Zab 0) Zan))) (Zag (Zaq Za1 (Zde Zan)) (Zag (Zj9 Zq7 (Z5o (Zaa (Zab 1) Zan)) (Zag (m_if (Zak (Zab 2) (Zab 5) Zaz) (Zag (Zaq Za1 (Zbb Zo8 (Zaa (Zak (Zak (Zab 2) (Zak Zav (Zab 4) Zbe) Zaz) (Zak (Zab 0) Zav Zbe) Zaz) Zan))) Za5) Za5) (Zag (Zov (Zak (Zab 2) (Zab 5) Zbe)) (Zag (Zaq Za1 (Zak (Zab 2) (Zab 5) Zbe)) (Zbu (Zbu Za5)))))) Zmo)))
@[irreducible] def Zch : G := gOf 6 Zgv
theorem Zh8 : Zch = gOf 6 Zgv := by with_unfolding_all rfl
theorem Zef : Zc1 Zch := Zh8 ▸ Zbg Zlf
noncomputable def Zjj (law_cell_here : Int) (s1 : Int × (List Int)) (x2 : (T2 Int Int)) : P (Int) :=
  (cond (decide (s1.1 < x2.x2)) (bd (Zf4 ((s1.1 + ((131 : Int) * x2.x1)) + (law_cell_here % (1009 : Int)))) fun (law_rest' : Int) =>
  (.ok law_rest')) (.ok s1.1))
noncomputable def Zea (law_cell_here : Int) (s1 : Int × (List Int)) (x2 : (T2 Int Int)) : P (Int × (List Int)) :=
  (bd (Zjj law_cell_here s1 x2) fun (law_rest'' : Int) =>
  (bd (ofO (modO law_rest'' x2.x2)) fun t3 => (bd (ofO (appO s1.2 t3)) fun (law_found' : (List Int)) =>
  (bd (ofO (divO law_rest'' x2.x2)) fun (law_rest''' : Int) =>
  (.ok (law_rest''', law_found'))))))
noncomputable def Zbq (law_cell_here : Int) (law_sizes : (List Int)) : P (List Int) :=
  (bd (Zf4 law_cell_here) fun (law_rest : Int) =>
  (bd (Zdk (Zea law_cell_here) (Zxf law_sizes) (law_rest, ([] : List Int))) fun (s4 : Int × (List Int)) =>
  (.ok s4.2)))
theorem Zcp (law_cell_here : Int) (law_sizes : (List Int)) : Sim Zch [.sh (D.int law_cell_here), .sh ((encL D.int) law_sizes)] (owE (encL D.int)) (Zbq law_cell_here law_sizes) :=
 Zb9 Zh8 (env := ([.sh (D.int law_cell_here), .sh ((encL D.int) law_sizes), .un, .un, .un, .un] : En)) rfl (fun _ => Zba) (by
  unfold Zbq Zgv
  exact (Zci (f := (shE D.int)) (fun law_rest => ([.sh (D.int law_cell_here), .sh ((encL D.int) law_sizes), .sh (D.int law_rest), .un, .un, .un] : En)) (Za7 (Zae (Zaf (i := 0) rfl) Zao) (Zkl law_cell_here) (fun _ => Zat)) (fun _ => Zat) (Nat.le_of_ble_eq_true rfl) (fun _ => rfl) fun law_rest =>
 (Zfr (s := .ow ((encL D.int) ([] : List Int))) (env' := ([.sh (D.int law_cell_here), .sh ((encL D.int) law_sizes), .sh (D.int law_rest), .ow ((encL D.int) ([] : List Int)), .un, .un] : En)) (Zce Zao rfl (Nat.le_of_ble_eq_true rfl)) Zba (Nat.le_of_ble_eq_true rfl) rfl (Zp7 (f := (enc2 D.int D.int)) (xs := (Zxf law_sizes)) (s0 := (law_rest, ([] : List Int))) (fun (s1 : Int × (List Int)) => ([.sh (D.int law_cell_here), .sh ((encL D.int) law_sizes), .sh (D.int s1.1), .ow ((encL D.int) s1.2), .un, .un] : En)) (Z11 (xs := law_sizes) (Zae (Zaf (i := 1) rfl) Zao) rfl) rfl
 (fun s1 x2 => (Z2b (e := ([.sh (D.int law_cell_here), .sh ((encL D.int) law_sizes), .sh (D.int s1.1), .ow ((encL D.int) s1.2), .sh (D.int x2.x1), .sh (D.int x2.x2)] : En)) rfl rfl (Zxe (fun (law_rest'' : Int) => ([.sh (D.int law_cell_here), .sh ((encL D.int) law_sizes), .sh (D.int law_rest''), .ow ((encL D.int) s1.2), .sh (D.int x2.x1), .sh (D.int x2.x2)] : En)) (Za4 (Zaf (i := 2) rfl) (Zaf (i := 5) rfl) op_lt)
 (Zci (f := (shE D.int)) (fun law_rest' => ([.sh (D.int law_cell_here), .sh ((encL D.int) law_sizes), .sh (D.int law_rest'), .ow ((encL D.int) s1.2), .sh (D.int x2.x1), .sh (D.int x2.x2)] : En)) (Za7 (Zae (Za4 (Za4 (Zaf (i := 2) rfl) (Za4 Zap (Zaf (i := 4) rfl) (op_mul (Zxa (by decide)))) op_add) (Za4 (Zaf (i := 0) rfl) Zap (op_mod (by decide))) op_add) Zao) (Zkl ((s1.1 + ((131 : Int) * x2.x1)) + (law_cell_here % (1009 : Int)))) (fun _ => Zat)) (fun _ => Zat) (Nat.le_of_ble_eq_true rfl) (fun _ => rfl) fun law_rest' =>
 (Zcv rfl))
 (Zcv rfl)
 fun law_rest'' => (Zs2 (f := D.int) (xs := s1.2) (fun law_found' => ([.sh (D.int law_cell_here), .sh ((encL D.int) law_sizes), .sh (D.int law_rest''), .ow ((encL D.int) law_found'), .sh (D.int x2.x1), .sh (D.int x2.x2)] : En)) rfl (Zcq (Zaf (i := 2) rfl) (Zaf (i := 5) rfl) Zro) (fun _ => rfl) (fun _ => rfl) fun law_found' =>
 (Zci (f := (shE D.int)) (fun law_rest''' => ([.sh (D.int law_cell_here), .sh ((encL D.int) law_sizes), .sh (D.int law_rest'''), .ow ((encL D.int) law_found'), .sh (D.int x2.x1), .sh (D.int x2.x2)] : En)) (Zcq (Zaf (i := 2) rfl) (Zaf (i := 5) rfl) Z34) (fun _ => Zat) (Nat.le_of_ble_eq_true rfl) (fun _ => rfl) fun law_rest''' =>
 (Zbc (env' := ([.sh (D.int law_cell_here), .sh ((encL D.int) law_sizes), .sh (D.int law_rest'''), .ow ((encL D.int) law_found'), .un, .sh (D.int x2.x2)] : En)) rfl (Zbc (env' := ([.sh (D.int law_cell_here), .sh ((encL D.int) law_sizes), .sh (D.int law_rest'''), .ow ((encL D.int) law_found'), .un, .un] : En)) rfl (Zcv rfl))))))))
 fun s4 => (Zn4 (i := 3) (s := .ow ((encL D.int) s4.2)) rfl Zba rfl)))))
def Zh0 : WS :=
 (wRet (wAnd (wUn (oIsi "int") (wVar 0)) (wNot (wUn (oIsi "bool") (wVar 0)))))
theorem Zmq : Zbl Zh0 := (Zb3 (Ze8 (Zai (Zab 0) Zdl) (Zbs (Zai (Zab 0) Zdl))))
@[irreducible] def Zck : G := gOf 1 Zh0
theorem Ziy : Zck = gOf 1 Zh0 := by with_unfolding_all rfl
theorem Zd4 : Zc1 Zck := Ziy ▸ Zbg Zmq
noncomputable def Zcm (law_thing : Int) : P Bool :=
  (.ok (true && (!false)))
theorem Zcn (law_thing : Int) : Sim Zck [.sh (D.int law_thing)] blE (Zcm law_thing) :=
 Zb9 Ziy (env := ([.sh (D.int law_thing)] : En)) rfl (fun _ => Zat) (by
  unfold Zcm Zh0
  exact (Zmd (Zz5 (Zau (Zaf (i := 0) rfl) (Zkb (b := true) rfl rfl)) (Zjf (Zau (Zaf (i := 0) rfl) (Zkb (b := false) rfl rfl)))) rfl))
theorem Zay {α : Type} {a : α} : ofO (some a) = .ok a := rfl
theorem Zqi {σ ρ τ : Type} {s : σ} {ret : ρ → P τ} {nx : σ → P τ} : aft (.ok (.nx s)) ret nx = nx s := rfl
theorem atI_nat {α : Type} {xs : List α} {i : Nat} : atI xs (i : Int) = xs[i]? := by
  unfold atI ixN
  by_cases h : i < xs.length
  · simp [h]
  · simp [h]
theorem Z6x {α : Type} {xs : List α} {i : Int} {n : Nat} (hi : i = n) (h : n < xs.length) : atI xs i = some xs[n] := by
  subst hi
  rw [atI_nat, List.getElem?_eq_getElem h]
theorem Zqq {α : Type} {xs : List α} {i : Int} (h0 : 0 ≤ i) (h : i < xs.length) : ∃ x, atI xs i = some x ∧ x ∈ xs := by
  obtain ⟨n, rfl⟩ := Int.eq_ofNat_of_zero_le h0
  have h' : n < xs.length := by omega
  exact ⟨xs[n], Z6x rfl h', List.getElem_mem h'⟩
theorem Zeo {α : Type} {xs : List α} {x : α} (h : xs.length < 16777216) : appO xs x = some (xs ++ [x]) := if_pos h
theorem Znz {a b : Int} (h : 0 < b) : modO a b = some (a % b) := if_pos h
theorem Zx7 {a b : Int} (h : 0 < b ∧ b ≤ 1000000000000000000000000000000) : divO a b = some (a / b) := if_pos h
theorem Zh5 {κ α : Type} [DecidableEq κ] {m : Dct κ α} {k : κ} {a : α} (h : m.l.length < 16777216) : m.putO k a = some (m.put k a) := if_pos h
theorem Zt6 (ns : List Int) {i : Int} (h : 0 ≤ i) : ∃ c, Zex ns i = .ok c := by
  unfold Zex
  by_cases hi : i < (ns.length : Int)
  · obtain ⟨x, e, _⟩ := Zqq h hi
    exact ⟨x, by simp only [hi, e, decide_true, cond_true, Zay, Zas]⟩
  · exact ⟨0, by simp only [hi, decide_false, cond_false]⟩
theorem Zz2 (c : Int) : ∃ r, Zf4 c = .ok r := by
  unfold Zf4
  by_cases h : (1000000000000000000 : Int) ≤ c
  · exact ⟨_, by simp only [h, decide_true, cond_true]; rfl⟩
  · exact ⟨_, by simp only [h, decide_false, cond_false, Ze1]; rfl⟩
def Dig : List Int → List Int → Prop
  | [], [] => True
  | s :: ss, d :: ds => (0 ≤ d ∧ d < s) ∧ Dig ss ds
  | _, _ => False
def Szs (ss : List Int) : Prop := ∀ s ∈ ss, 0 < s ∧ s ≤ 1000000000000000000000000000000
theorem Szs.nil : Szs [] := fun _ h => by cases h
theorem Szs.cons {s : Int} {ss : List Int} (h1 : 0 < s) (h2 : s ≤ 1000000000000000000000000000000) (h : Szs ss) : Szs (s :: ss) := fun x hx => by
  rcases List.mem_cons.mp hx with rfl | hx
  · exact ⟨h1, h2⟩
  · exact h x hx
theorem Dig.len : ∀ {ss ds : List Int}, Dig ss ds → ds.length = ss.length
  | [], [], _ => rfl
  | _ :: _, _ :: _, h => congrArg (· + 1) (Dig.len h.2)
theorem Zn3 {α σ : Type} {step : σ → α → P σ} {s : σ} : Zdk step [] s = .ok s := rfl
theorem Zcx {α σ : Type} {step : σ → α → P σ} {x : α} {xs : List α} {s : σ} : Zdk step (x :: xs) s = bd (step s x) fun s' => Zdk step xs s' := rfl
theorem Zty {α σ : Type} {step : σ → α → P σ} (I : List α → σ → Prop) : ∀ {xs pre : List α} {s : σ}, (∀ x p s, p.length < pre.length + xs.length → x ∈ xs → I p s → ∃ s', step s x = .ok s' ∧ I (p ++ [x]) s') → I pre s → ∃ s', Zdk step xs s = .ok s' ∧ I (pre ++ xs) s'
  | [], pre, s, _, h0 => ⟨s, rfl, by rw [List.append_nil]; exact h0⟩
  | x :: xs, pre, s, h, h0 => by
    obtain ⟨s1, e1, h1⟩ := h x pre s (by simp) List.mem_cons_self h0
    obtain ⟨s2, e2, h2⟩ := Zty I (xs := xs) (pre := pre ++ [x]) (s := s1) (fun y p t hl hy hI => h y p t (by simp at hl ⊢; omega) (List.mem_cons_of_mem _ hy) hI) h1
    exact ⟨s2, by rw [Zcx, e1, Zas, e2], by rw [List.append_assoc] at h2; exact h2⟩
theorem Zsc {α σ ρ : Type} {step : σ → α → P (Out σ ρ)} {x : α} {xs : List α} {s s' : σ} (h : step s x = .ok (.nx s')) : Zft step (x :: xs) s = Zft step xs s' := by
  rw [Zft, h]; rfl
theorem Zot {α σ ρ : Type} {step : σ → α → P (Out σ ρ)} (I : σ → Prop) {xs : List α} (h : ∀ x ∈ xs, ∀ s, I s → ∃ s', step s x = .ok (.nx s') ∧ I s') {s : σ} (h0 : I s) : ∃ s', Zft step xs s = .ok (.nx s') ∧ I s' := by
  induction xs generalizing s with
  | nil => exact ⟨s, rfl, h0⟩
  | cons x xs ih =>
    obtain ⟨s1, e1, h1⟩ := h x List.mem_cons_self s h0
    obtain ⟨s2, e2, h2⟩ := ih (fun y hy => h y (List.mem_cons_of_mem _ hy)) h1
    exact ⟨s2, by rw [Zsc e1, e2], h2⟩
theorem Zvq (c : Int) : ∀ (ss : List Int) (k : Nat) (r : Int) (acc : List Int), Szs ss → acc.length + ss.length ≤ 16777216 → ∃ r' ds, Dig ss ds ∧ Zdk (Zea c) ((ss.zipIdx k).map fun p => (⟨(p.2 : Int), p.1⟩ : T2 Int Int)) (r, acc) = .ok (r', acc ++ ds)
  | [], k, r, acc, _, _ => ⟨r, [], trivial, by rw [List.append_nil]; rfl⟩
  | s :: ss, k, r, acc, hs, hl => by
    have h1 := hs s List.mem_cons_self
    have hl' : acc.length + (ss.length + 1) ≤ 16777216 := by simpa using hl
    have main : ∃ q, Zea c (r, acc) ⟨(k : Int), s⟩ = .ok (q / s, acc ++ [q % s]) := by
      unfold Zea Zjj
      dsimp only
      by_cases hr : r < s
      · obtain ⟨q, hq⟩ := Zz2 ((r + ((131 : Int) * (k : Int))) + (c % (1009 : Int)))
        exact ⟨q, by simp only [hr, decide_true, cond_true, hq, Zas, Znz h1.1, Zeo (show acc.length < 16777216 by omega), Zx7 h1, Zay]⟩
      · exact ⟨r, by simp only [hr, decide_false, cond_false, Zas, Znz h1.1, Zeo (show acc.length < 16777216 by omega), Zx7 h1, Zay]⟩
    obtain ⟨q, hq⟩ := main
    obtain ⟨r', ds, hd, e⟩ := Zvq c ss (k + 1) (q / s) (acc ++ [q % s]) (fun z hz => hs z (List.mem_cons_of_mem _ hz)) (by simp; omega)
    refine ⟨r', q % s :: ds, ⟨⟨Int.emod_nonneg _ (by omega), Int.emod_lt_of_pos _ h1.1⟩, hd⟩, ?_⟩
    rw [List.zipIdx_cons, List.map_cons, Zcx, hq, Zas, e, List.append_assoc]
    rfl
theorem Zjm (c : Int) (ss : List Int) (hs : Szs ss) (hl : ss.length ≤ 16777216) : ∃ ds, Zbq c ss = .ok ds ∧ Dig ss ds := by
  obtain ⟨r, hr⟩ := Zz2 c
  obtain ⟨r', ds, hd, e⟩ := Zvq c ss 0 r [] hs (by simpa using hl)
  refine ⟨ds, ?_, hd⟩
  unfold Zbq
  simp only [hr, Zas]
  unfold Zxf
  rw [e]
  rfl
theorem Dig.d1 {a : Int} {ds : List Int} (h : Dig [a] ds) : ∃ x, ds = [x] ∧ (0 ≤ x ∧ x < a) := by
  match ds, h with
  | [x], h => exact ⟨x, rfl, h.1⟩
theorem Dig.d2 {a b : Int} {ds : List Int} (h : Dig [a, b] ds) : ∃ x y, ds = [x, y] ∧ (0 ≤ x ∧ x < a) ∧ (0 ≤ y ∧ y < b) := by
  match ds, h with
  | [x, y], h => exact ⟨x, y, rfl, h.1, h.2.1⟩
theorem Dig.d3 {a b c : Int} {ds : List Int} (h : Dig [a, b, c] ds) : ∃ x y z, ds = [x, y, z] ∧ (0 ≤ x ∧ x < a) ∧ (0 ≤ y ∧ y < b) ∧ (0 ≤ z ∧ z < c) := by
  match ds, h with
  | [x, y, z], h => exact ⟨x, y, z, rfl, h.1, h.2.1, h.2.2.1⟩
theorem Dig.d5 {a b c d e : Int} {ds : List Int} (h : Dig [a, b, c, d, e] ds) : ∃ x y z u v, ds = [x, y, z, u, v] ∧ (0 ≤ x ∧ x < a) ∧ (0 ≤ y ∧ y < b) ∧ (0 ≤ z ∧ z < c) ∧ (0 ≤ u ∧ u < d) ∧ (0 ≤ v ∧ v < e) := by
  match ds, h with
  | [x, y, z, u, v], h => exact ⟨x, y, z, u, v, rfl, h.1, h.2.1, h.2.2.1, h.2.2.2.1, h.2.2.2.2.1⟩
theorem Dig.d6 {a b c d e f : Int} {ds : List Int} (h : Dig [a, b, c, d, e, f] ds) : ∃ x y z u v w, ds = [x, y, z, u, v, w] ∧ (0 ≤ x ∧ x < a) ∧ (0 ≤ y ∧ y < b) ∧ (0 ≤ z ∧ z < c) ∧ (0 ≤ u ∧ u < d) ∧ (0 ≤ v ∧ v < e) ∧ (0 ≤ w ∧ w < f) := by
  match ds, h with
  | [x, y, z, u, v, w], h => exact ⟨x, y, z, u, v, w, rfl, h.1, h.2.1, h.2.2.1, h.2.2.2.1, h.2.2.2.2.1, h.2.2.2.2.2.1⟩
theorem Z67 (c : Int) {a : Int} (hs : Szs [a]) : ∃ x, Zbq c [a] = .ok [x] ∧ (0 ≤ x ∧ x < a) := by
  obtain ⟨ds, e, h⟩ := Zjm c [a] hs (by simp)
  obtain ⟨x, rfl, h'⟩ := h.d1
  exact ⟨x, e, h'⟩
theorem Z66 (c : Int) {a b : Int} (hs : Szs [a, b]) : ∃ x y, Zbq c [a, b] = .ok [x, y] ∧ (0 ≤ x ∧ x < a) ∧ (0 ≤ y ∧ y < b) := by
  obtain ⟨ds, e, h⟩ := Zjm c [a, b] hs (by simp)
  obtain ⟨x, y, rfl, h'⟩ := h.d2
  exact ⟨x, y, e, h'⟩
theorem Z7i (c : Int) {a b d f g : Int} (hs : Szs [a, b, d, f, g]) : ∃ x y z u v, Zbq c [a, b, d, f, g] = .ok [x, y, z, u, v] ∧ (0 ≤ x ∧ x < a) ∧ (0 ≤ y ∧ y < b) ∧ (0 ≤ z ∧ z < d) ∧ (0 ≤ u ∧ u < f) ∧ (0 ≤ v ∧ v < g) := by
  obtain ⟨ds, e, h⟩ := Zjm c [a, b, d, f, g] hs (by simp)
  obtain ⟨x, y, z, u, v, rfl, h'⟩ := h.d5
  exact ⟨x, y, z, u, v, e, h'⟩
theorem Z7s (c : Int) {a b d f g i : Int} (hs : Szs [a, b, d, f, g, i]) : ∃ x y z u v w, Zbq c [a, b, d, f, g, i] = .ok [x, y, z, u, v, w] ∧ (0 ≤ x ∧ x < a) ∧ (0 ≤ y ∧ y < b) ∧ (0 ≤ z ∧ z < d) ∧ (0 ≤ u ∧ u < f) ∧ (0 ≤ v ∧ v < g) ∧ (0 ≤ w ∧ w < i) := by
  obtain ⟨ds, e, h⟩ := Zjm c [a, b, d, f, g, i] hs (by simp)
  obtain ⟨x, y, z, u, v, w, rfl, h'⟩ := h.d6
  exact ⟨x, y, z, u, v, w, e, h'⟩
theorem Zm8 (i : Int) : Zcm i = .ok true := by
  unfold Zcm
  rfl
theorem Z1d {α : Type} (xs : List α) (n : Nat) : cutD xs none (some (n : Int)) = xs.take n := by
  unfold cutD
  rw [HT.sIx_nat, HT.sIx_none, List.drop_zero, Nat.sub_zero]
  by_cases h : n ≤ xs.length
  · rw [Nat.min_eq_left h]
  · rw [Nat.min_eq_right (by omega), List.take_length, List.take_of_length_le (by omega)]
theorem Z4v {α : Type} (xs : List α) (a b : Nat) : (cutD xs (some (a : Int)) (some (b : Int))).length ≤ b - a := by
  unfold cutD
  rw [HT.sIx_nat, HT.sIx_nat]
  simp
  omega
end DL
set_option Elab.async false
set_option linter.all false
set_option maxRecDepth 100000
set_option maxHeartbeats 1000000
set_option synthInstance.maxSize 2000
set_option synthInstance.maxHeartbeats 400000
namespace DL
open PySem PySem.Spec PyProof.Rows L2
def Zly : WS :=
 (wRet (wTup (Zam (wUn (oIxN 0) (wVar 0)) (Zam (wUn (oIxN 1) (wVar 0)) (Zam (wUn (oIxN 2) (wVar 0)) aNil)))))
theorem Zw9 : Zbl Zly := (Zb3 (Zcr (Zaa (Zai (Zab 0) Zah) (Zaa (Zai (Zab 0) Zah) (Zaa (Zai (Zab 0) Zah) Zan)))))
@[irreducible] def Ziu : G := gOf 1 Zly
theorem Zp1 : Ziu = gOf 1 Zly := by with_unfolding_all rfl
noncomputable def Zti (entry : ENq) : P (T3 Int Int Int) :=
  (.ok (T3.mk entry.x1 entry.x2 entry.x3))
theorem Zrv (entry : ENq) : Sim Ziu [.sh (eEq entry)] (shE (enc3 D.int D.int D.int)) (Zti entry) :=
 Zb9 Zp1 (env := ([.sh (eEq entry)] : En)) rfl (fun _ => Zat) (by
  unfold Zti Zly
  exact (Zmd (Zb7 (Zae (Zau (Zaf (i := 0) rfl) (Za0 rfl rfl)) (Zae (Zau (Zaf (i := 0) rfl) (Za0 rfl rfl)) (Zae (Zau (Zaf (i := 0) rfl) (Za0 rfl rfl)) Zao))) rfl (Nat.le_of_ble_eq_true rfl)) rfl))
theorem Zmj (a : T5 Int Int Int Tx Int) : Sim Ziu [.sh (enc5 D.int D.int D.int encS D.int a)] (fun t : List L2.Key => .sh (.tup (t.map keyD))) (.ok (key3 a)) := fun Q q => Zrv a Q q
def Zjd : WS :=
 (wRet (wUn (Zmp Ziu) (wVar 0)))
theorem Zql : Zbl Zjd := (Zb3 (Zai (Zab 0) Zof))
@[irreducible] def Zfc : G := gOf 1 Zjd
theorem Zjv : Zfc = gOf 1 Zjd := by with_unfolding_all rfl
theorem Zmh : Zc1 Zfc := Zjv ▸ Zbg Zql
noncomputable def Zd5 (entries : (List ENq)) : P (List ENq) :=
  (bd (ofO (Zwf key3 entries)) fun r1 => .ok r1)
theorem Zig (entries : (List ENq)) : Sim Zfc [.sh ((encL eEq) entries)] (owE (encL eEq)) (Zd5 entries) :=
 Zb9 Zjv (env := ([.sh ((encL eEq) entries)] : En)) rfl (fun _ => Zba) (by
  unfold Zd5 Zjd
  exact (Ziv (f := (owE (encL eEq))) (t := fun r1 => r1) (Zei (Zaf (i := 0) rfl) (Zww (sh := [true, true, true]) (xs := entries) (kD := Z57) rfl (fun _ => rfl) (fun a => Zmj a) (fun _ => rfl) rfl)) fun _ => rfl))
theorem Zrr (entries : (List ENq)) : Sim Zfc [.bo ((encL eEq) entries)] (owE (encL eEq)) (Zd5 entries) :=
 Zb9 Zjv (env := ([.bo ((encL eEq) entries)] : En)) rfl (fun _ => Zba) (by
  unfold Zd5 Zjd
  exact (Ziv (f := (owE (encL eEq))) (t := fun r1 => r1) (Zei (Zij (i := 0) rfl) (Zww (sh := [true, true, true]) (xs := entries) (kD := Z57) rfl (fun _ => rfl) (fun a => Zmj a) (fun _ => rfl) rfl)) fun _ => rfl))
def Zlh : WS :=
 (wRet (wOr (wOp (oIn true) (wVar 1) (wVar 2)) (wOp oLe (wVar 0) (wOp oIx (wVar 2) (wVar 1)))))
theorem Zpz : Zbl Zlh := (Zb3 (Zfo (Zak (Zab 1) (Zab 2) Ze6) (Zak (Zab 0) (Zak (Zab 2) (Zab 1) Zbp) Zaz)))
@[irreducible] def Zfh : G := gOf 3 Zlh
theorem Zmb : Zfh = gOf 3 Zlh := by with_unfolding_all rfl
theorem Zj3 : Zc1 Zfh := Zmb ▸ Zbg Zpz
noncomputable def Zfe (rank_ : Int) (day : Int) (shut : (Dct Int Int)) : P Bool :=
  (bd (cond (!shut.has day) (.ok true) (bd (ofO (shut.get day)) fun t1 => .ok (decide (rank_ ≤ t1)))) fun r2 => .ok r2)
theorem Zel (rank_ : Int) (day : Int) (shut : (Dct Int Int)) : Sim Zfh [.sh (D.int rank_), .sh (D.int day), .sh ((encK kI D.int) shut)] blE (Zfe rank_ day shut) :=
 Zb9 Zmb (env := ([.sh (D.int rank_), .sh (D.int day), .sh ((encK kI D.int) shut)] : En)) rfl (fun _ => Zat) (by
  unfold Zfe Zlh
  exact (Ziv (f := blE) (t := fun r2 => r2) (Zzb (Za4 (Zaf (i := 1) rfl) (Zaf (i := 2) rfl) (Zuq (m := shut) (i := day) rfl)) (Zfu (f := blE) (mm := fun t1 => (decide (rank_ ≤ t1))) (Zaf (i := 0) rfl) (Zcq (Zaf (i := 2) rfl) (Zaf (i := 1) rfl) (Z2n (m := shut) (i := day) rfl)) fun t1 => op_le)) fun _ => rfl))
def Zk9 : WS :=
 (wSeq (wIf (wOp (oEq false) (wUn (oIxN 3) (wVar 0)) (wStr (PySem.Str.ofString "stays")))
 (wRet (wTup (Zam (wStr (PySem.Str.ofString "noted")) (Zam (wUn (oIxN 4) (wVar 0)) aNil))))
 Zbk)
 (wRet (wTup (Zam (wStr (PySem.Str.ofString "out")) (Zam (wUn (oIxN 4) (wVar 0)) aNil)))))
theorem Zqc : Zbl Zk9 := (Zag (m_if (Zak (Zai (Zab 0) Zah) Zfn Zbm) (Zb3 (Zcr (Zaa Zfn (Zaa (Zai (Zab 0) Zah) Zan)))) Za5) (Zb3 (Zcr (Zaa Zfn (Zaa (Zai (Zab 0) Zah) Zan)))))
@[irreducible] def Zhq : G := gOf 1 Zk9
theorem Zl5 : Zhq = gOf 1 Zk9 := by with_unfolding_all rfl
theorem Zqf : Zc1 Zhq := Zl5 ▸ Zbg Zqc
noncomputable def Zhi (entry : ENq) : P (T2 Tx Int) :=
  (cond (decide (entry.x4 = (tx "stays")))
  (.ok (T2.mk (tx "noted") entry.x5))
  (.ok (T2.mk (tx "out") entry.x5)))
theorem Zlo (entry : ENq) : Sim Zhq [.sh (eEq entry)] (shE (enc2 encS D.int)) (Zhi entry) :=
 Zb9 Zl5 (env := ([.sh (eEq entry)] : En)) rfl (fun _ => Zat) (by
  unfold Zhi Zk9
  exact (b_if (Za4 (Zau (Zaf (i := 0) rfl) (Za0 rfl rfl)) Zb1 (op_eq (x := entry.x4) (y := (tx "stays")) eqe_str rfl rfl))
 (Zco (Zb7 (Zae Zb1 (Zae (Zau (Zaf (i := 0) rfl) (Za0 rfl rfl)) Zao)) rfl (Nat.le_of_ble_eq_true rfl)) rfl)
 (Zca (Zmd (Zb7 (Zae Zb1 (Zae (Zau (Zaf (i := 0) rfl) (Za0 rfl rfl)) Zao)) rfl (Nat.le_of_ble_eq_true rfl)) rfl))))
def Zib : WS :=
 (wSeq (wAsg (gN 3) (wUn (oIxN 4) (wVar 0)))
 (wSeq (wIf (wOp (oEq false) (wUn (oIxN 3) (wVar 0)) (wStr (PySem.Str.ofString "moves")))
 (wSeq (Zlp (wOr (wNot (Zbt Zfh (Zam (wUn (oIxN 0) (wVar 0)) (Zam (wVar 3) (Zam (wVar 1) aNil))))) (wOp (oIn false) (wVar 3) (wVar 2)))
 (wSeq (wAug 3 (fun n m => n + m) (wInt 1))
 Zbk))
 (wRet (wTup (Zam (wStr (PySem.Str.ofString "stands")) (Zam (wVar 3) aNil)))))
 Zbk)
 (wSeq (wIf (wAnd (Zbt Zfh (Zam (wUn (oIxN 0) (wVar 0)) (Zam (wVar 3) (Zam (wVar 1) aNil)))) (wOp (oIn true) (wVar 3) (wVar 2)))
 (wRet (wTup (Zam (wStr (PySem.Str.ofString "stands")) (Zam (wVar 3) aNil))))
 Zbk)
 (wRet (Zbt Zhq (Zam (wVar 0) aNil))))))
theorem Zmw : Zbl Zib := (Zag (Zaq Za1 (Zai (Zab 0) Zah)) (Zag (m_if (Zak (Zai (Zab 0) Zah) Zfn Zbm) (Zag (Zoo (Zfo (Zbs (Zbb Zj3 (Zaa (Zai (Zab 0) Zah) (Zaa (Zab 3) (Zaa (Zab 1) Zan))))) (Zak (Zab 3) (Zab 2) Ze6)) (Zag (Z5b Zav) Za5)) (Zb3 (Zcr (Zaa Zfn (Zaa (Zab 3) Zan))))) Za5) (Zag (m_if (Ze8 (Zbb Zj3 (Zaa (Zai (Zab 0) Zah) (Zaa (Zab 3) (Zaa (Zab 1) Zan)))) (Zak (Zab 3) (Zab 2) Ze6)) (Zb3 (Zcr (Zaa Zfn (Zaa (Zab 3) Zan)))) Za5) (Zb3 (Zbb Zqf (Zaa (Zab 0) Zan))))))
@[irreducible] def Zgq : G := gOf 4 Zib
theorem Zja : Zgq = gOf 4 Zib := by with_unfolding_all rfl
theorem Zsu : Zc1 Zgq := Zja ▸ Zbg Zmw
noncomputable def Zkh (entry : ENq) (shut : (Dct Int Int)) (holders : (Dct Int Bool)) (s1 : Int) : P Bool :=
  (bd (bd (Zfe entry.x1 s1 shut) fun b => .ok (!b)) fun c => cond c (.ok true) (.ok (holders.has s1)))
noncomputable def Zki (s1 : Int) : P (Int) :=
  (Ze1 (s1 + (1 : Int)) fun (day' : Int) =>
  (.ok day'))
noncomputable def Zg3 (entry : ENq) (shut : (Dct Int Int)) (holders : (Dct Int Bool)) : P Bool :=
  (bd (Zfe entry.x1 entry.x5 shut) fun c => cond c (.ok (!holders.has entry.x5)) (.ok false))
noncomputable def Zf9 (entry : ENq) (shut : (Dct Int Int)) (holders : (Dct Int Bool)) : P (T2 Tx Int) :=
  (cond (decide (entry.x4 = (tx "moves")))
  (bd (whN' (Zkh entry shut holders) Zki entry.x5) fun (s2 : Int) =>
  (.ok (T2.mk (tx "stands") s2)))
  (bd (Zg3 entry shut holders) fun c => cond c
  (.ok (T2.mk (tx "stands") entry.x5))
  (bd (Zhi entry) fun r3 => .ok r3)))
theorem Zme (entry : ENq) (shut : (Dct Int Int)) (holders : (Dct Int Bool)) : Sim Zgq [.sh (eEq entry), .sh ((encK kI D.int) shut), .bo ((encK kI D.bl) holders)] (shE (enc2 encS D.int)) (Zf9 entry shut holders) :=
 Zb9 Zja (env := ([.sh (eEq entry), .sh ((encK kI D.int) shut), .bo ((encK kI D.bl) holders), .un] : En)) rfl (fun _ => Zat) (by
  unfold Zf9 Zib
  exact (Zfr (s := .sh (D.int entry.x5)) (env' := ([.sh (eEq entry), .sh ((encK kI D.int) shut), .bo ((encK kI D.bl) holders), .sh (D.int entry.x5)] : En)) (Zau (Zaf (i := 0) rfl) (Za0 rfl rfl)) Zat (Nat.le_of_ble_eq_true rfl) rfl (b_if (Za4 (Zau (Zaf (i := 0) rfl) (Za0 rfl rfl)) Zb1 (op_eq (x := entry.x4) (y := (tx "moves")) eqe_str rfl rfl))
 (Zx4 (Z07 (s0 := entry.x5) (fun (s1 : Int) => ([.sh (eEq entry), .sh ((encK kI D.int) shut), .bo ((encK kI D.bl) holders), .sh (D.int s1)] : En)) rfl (fun s1 => (Zsa (Ze0 (Za7 (Zae (Zau (Zaf (i := 0) rfl) (Za0 rfl rfl)) (Zae (Zaf (i := 3) rfl) (Zae (Zaf (i := 1) rfl) Zao))) (Zel entry.x1 s1 shut) (fun _ => Zat))) (EvP.m (f := blE) (Za4 (Zaf (i := 3) rfl) (Zij (i := 2) rfl) (Z4g (m := holders) (i := s1) rfl))))) (fun s1 => (Z6t (fun day' => ([.sh (eEq entry), .sh ((encK kI D.int) shut), .bo ((encK kI D.bl) holders), .sh (D.int day')] : En)) rfl Zap (fun _ => rfl) fun day' =>
 (Zcv rfl))) fun s2 => (Zco (Zb7 (Zae Zb1 (Zae (Zaf (i := 3) rfl) Zao)) rfl (Nat.le_of_ble_eq_true rfl)) rfl)))
 (Zca (Zl1 (Zts (Za7 (Zae (Zau (Zaf (i := 0) rfl) (Za0 rfl rfl)) (Zae (Zaf (i := 3) rfl) (Zae (Zaf (i := 1) rfl) Zao))) (Zel entry.x1 entry.x5 shut) (fun _ => Zat)) (EvP.m (f := blE) (Za4 (Zaf (i := 3) rfl) (Zij (i := 2) rfl) (Zuq (m := holders) (i := entry.x5) rfl))))
 (Zco (Zb7 (Zae Zb1 (Zae (Zaf (i := 3) rfl) Zao)) rfl (Nat.le_of_ble_eq_true rfl)) rfl)
 (Zca (Ziv (f := (shE (enc2 encS D.int))) (t := fun r3 => r3) (Za7 (Zae (Zaf (i := 0) rfl) Zao) (Zlo entry) (fun _ => Zat)) fun _ => rfl)))))))
def Z1x : WS :=
 (wSeq (wAsg (gN 2) wDnK)
 (wSeq (wAsg (gN 3) (wLst aNil))
 (wSeq (wFor (gN 4) (Zhv (Zbt Zfc (Zam (wVar 0) aNil)))
 (wSeq (wAsg (gT [5, 6]) (Zbt Zgq (Zam (wVar 4) (Zam (wVar 1) (Zam (wVar 2) aNil)))))
 (wSeq (wIf (wOp (oEq false) (wVar 5) (wStr (PySem.Str.ofString "stands")))
 (wSeq (wSet 2 (wVar 6) (wBl true))
 Zbk)
 Zbk)
 (wSeq (wApp 3 (wTup (Zam (wUn (oIxN 1) (wVar 4)) (Zam (wUn (oIxN 2) (wVar 4)) (Zam (wVar 5) (Zam (wVar 6) aNil))))))
 (wFgt 4 (wFgt 5 (wFgt 6 Zbk)))))))
 (Zim 3))))
theorem Z2l : Zbl Z1x := (Zag (Zaq Za1 Z1f) (Zag (Zaq Za1 (Zde Zan)) (Zag (Zj9 Za1 (Zhk (Zbb Zmh (Zaa (Zab 0) Zan))) (Zag (Zaq Zq7 (Zbb Zsu (Zaa (Zab 4) (Zaa (Zab 1) (Zaa (Zab 2) Zan))))) (Zag (m_if (Zak (Zab 5) Zfn Zbm) (Zag (Zr0 (Zab 6) m_bl) Za5) Za5) (Zag (Zov (Zcr (Zaa (Zai (Zab 4) Zah) (Zaa (Zai (Zab 4) Zah) (Zaa (Zab 5) (Zaa (Zab 6) Zan)))))) (Zbu (Zbu (Zbu Za5))))))) Zmo)))
@[irreducible] def Zxj : G := gOf 7 Z1x
theorem Zzm : Zxj = gOf 7 Z1x := by with_unfolding_all rfl
theorem Zv4 : Zc1 Zxj := Zzm ▸ Zbg Z2l
noncomputable def Zv0 (s1 : (Dct Int Bool) × (List RWq)) (t2 : (T2 Tx Int)) : P ((Dct Int Bool)) :=
  (cond (decide (t2.x1 = (tx "stands"))) (bd (ofO (Dct.putO s1.1 t2.x2 true)) fun (holders' : (Dct Int Bool)) =>
  (.ok holders')) (.ok s1.1))
noncomputable def Znf (shut : (Dct Int Int)) (s1 : (Dct Int Bool) × (List RWq)) (entry : ENq) : P ((Dct Int Bool) × (List RWq)) :=
  (bd (Zf9 entry shut s1.1) fun (t2 : (T2 Tx Int)) =>
  (bd (Zv0 s1 t2) fun (holders'' : (Dct Int Bool)) =>
  (bd (ofO (appO s1.2 (T4.mk entry.x2 entry.x3 t2.x1 t2.x2))) fun (rows' : (List RWq)) =>
  (.ok (holders'', rows')))))
noncomputable def Zxb (entries : (List ENq)) (shut : (Dct Int Int)) : P (List RWq) :=
  (Ze1 (Dct.emp : (Dct Int Bool)) fun (holders : (Dct Int Bool)) =>
  (bd (Zd5 entries) fun l4 => bd (Zdk (Znf shut) l4 (holders, ([] : List RWq))) fun (s3 : (Dct Int Bool) × (List RWq)) =>
  (.ok s3.2)))
theorem Zpy (entries : (List ENq)) (shut : (Dct Int Int)) : Sim Zxj [.sh ((encL eEq) entries), .sh ((encK kI D.int) shut)] (owE (encL eRq)) (Zxb entries shut) :=
 Zb9 Zzm (env := ([.sh ((encL eEq) entries), .sh ((encK kI D.int) shut), .un, .un, .un, .un, .un] : En)) rfl (fun _ => Zba) (by
  unfold Zxb Z1x
  exact (Zl2 (owE (encK kI D.bl)) (fun holders => ([.sh ((encL eEq) entries), .sh ((encK kI D.int) shut), .ow ((encK kI D.bl) holders), .un, .un, .un, .un] : En)) (Zvf kI D.bl) (fun _ => Zba) (Nat.le_of_ble_eq_true rfl) (fun _ => rfl) fun holders =>
 (Zfr (s := .ow ((encL eRq) ([] : List RWq))) (env' := ([.sh ((encL eEq) entries), .sh ((encK kI D.int) shut), .ow ((encK kI D.bl) holders), .ow ((encL eRq) ([] : List RWq)), .un, .un, .un] : En)) (Zce Zao rfl (Nat.le_of_ble_eq_true rfl)) Zba (Nat.le_of_ble_eq_true rfl) rfl (Zoa (f := eEq) (s0 := (holders, ([] : List RWq))) (fun (s1 : (Dct Int Bool) × (List RWq)) => ([.sh ((encL eEq) entries), .sh ((encK kI D.int) shut), .ow ((encK kI D.bl) s1.1), .ow ((encL eRq) s1.2), .un, .un, .un] : En)) (Zrl (Za7 (Zae (Zaf (i := 0) rfl) Zao) (Zig entries) (fun _ => Zba))) rfl
 (fun s1 entry => (Zdz (e := ([.sh ((encL eEq) entries), .sh ((encK kI D.int) shut), .ow ((encK kI D.bl) s1.1), .ow ((encL eRq) s1.2), .sh (eEq entry), .un, .un] : En)) Zat (Nat.le_of_ble_eq_true rfl) rfl (Zo6 (fun t2 => ([.sh ((encL eEq) entries), .sh ((encK kI D.int) shut), .ow ((encK kI D.bl) s1.1), .ow ((encL eRq) s1.2), .sh (eEq entry), .sh (encS t2.x1), .sh (D.int t2.x2)] : En)) (Za7 (Zae (Zaf (i := 4) rfl) (Zae (Zaf (i := 1) rfl) (Zae (Zbr (i := 2) rfl) Zao))) (Zme entry shut s1.1) (fun _ => Zat)) (fun _ => rfl) (fun _ => rfl) fun t2 =>
 (Zxe (fun (holders'' : (Dct Int Bool)) => ([.sh ((encL eEq) entries), .sh ((encK kI D.int) shut), .ow ((encK kI D.bl) holders''), .ow ((encL eRq) s1.2), .sh (eEq entry), .sh (encS t2.x1), .sh (D.int t2.x2)] : En)) (Za4 (Zaf (i := 5) rfl) Zb1 (op_eq (x := t2.x1) (y := (tx "stands")) eqe_str rfl rfl))
 (Ztf (c := (encK kI D.bl) s1.1) rfl Zcz rfl (Zaf (i := 6) rfl) (setK (g := kI) (hg := Zmk) (fun holders' => ([.sh ((encL eEq) entries), .sh ((encK kI D.int) shut), .ow ((encK kI D.bl) holders'), .ow ((encL eRq) s1.2), .sh (eEq entry), .sh (encS t2.x1), .sh (D.int t2.x2)] : En)) rfl (fun _ => rfl) fun holders' =>
 (Zcv rfl)))
 (Zcv rfl)
 fun holders'' => (Zt7 (f := eRq) (xs := s1.2) (x := (T4.mk entry.x2 entry.x3 t2.x1 t2.x2)) (fun rows' => ([.sh ((encL eEq) entries), .sh ((encK kI D.int) shut), .ow ((encK kI D.bl) holders''), .ow ((encL eRq) rows'), .sh (eEq entry), .sh (encS t2.x1), .sh (D.int t2.x2)] : En)) rfl (Zb7 (Zae (Zau (Zaf (i := 4) rfl) (Za0 rfl rfl)) (Zae (Zau (Zaf (i := 4) rfl) (Za0 rfl rfl)) (Zae (Zaf (i := 5) rfl) (Zae (Zaf (i := 6) rfl) Zao)))) rfl (Nat.le_of_ble_eq_true rfl)) rfl (fun _ => rfl) fun rows' =>
 (Zbc (env' := ([.sh ((encL eEq) entries), .sh ((encK kI D.int) shut), .ow ((encK kI D.bl) holders''), .ow ((encL eRq) rows'), .un, .sh (encS t2.x1), .sh (D.int t2.x2)] : En)) rfl (Zbc (env' := ([.sh ((encL eEq) entries), .sh ((encK kI D.int) shut), .ow ((encK kI D.bl) holders''), .ow ((encL eRq) rows'), .un, .un, .sh (D.int t2.x2)] : En)) rfl (Zbc (env' := ([.sh ((encL eEq) entries), .sh ((encK kI D.int) shut), .ow ((encK kI D.bl) holders''), .ow ((encL eRq) rows'), .un, .un, .un] : En)) rfl (Zcv rfl)))))))))
 fun s3 => (Zn4 (i := 3) (s := .ow ((encL eRq) s3.2)) rfl Zba rfl)))))
def Ze9 : WS :=
 (wSeq (wIf (wNot (wUn (oIsi "list") (wVar 0)))
 (wRet (wBl false))
 Zbk)
 (wSeq (wFor (gN 1) (Zhv (wVar 0))
 (wSeq (wIf (wOr (wNot (wUn (oIsi "tuple") (wVar 1))) (wOp (oEq true) (wUn oLen (wVar 1)) (wInt 4)))
 (wRet (wBl false))
 Zbk)
 (wSeq (wIf (wOr (wNot (Zbt Zck (Zam (wUn (oIxN 0) (wVar 1)) aNil))) (wNot (Zbt Zck (Zam (wUn (oIxN 1) (wVar 1)) aNil))))
 (wRet (wBl false))
 Zbk)
 (wSeq (wIf (wOr (wNot (wUn (oIsi "str") (wUn (oIxN 2) (wVar 1)))) (wNot (Zbt Zck (Zam (wUn (oIxN 3) (wVar 1)) aNil))))
 (wRet (wBl false))
 Zbk)
 (wFgt 1 Zbk)))))
 (wRet (wBl true))))
theorem Ziw : Zbl Ze9 := (Zag (m_if (Zbs (Zai (Zab 0) Zdl)) (Zb3 m_bl) Za5) (Zag (Zj9 Za1 (Zhk (Zab 0)) (Zag (m_if (Zfo (Zbs (Zai (Zab 1) Zdl)) (Zak (Zai (Zab 1) Zfd) Zav Zbm)) (Zb3 m_bl) Za5) (Zag (m_if (Zfo (Zbs (Zbb Zd4 (Zaa (Zai (Zab 1) Zah) Zan))) (Zbs (Zbb Zd4 (Zaa (Zai (Zab 1) Zah) Zan)))) (Zb3 m_bl) Za5) (Zag (m_if (Zfo (Zbs (Zai (Zai (Zab 1) Zah) Zdl)) (Zbs (Zbb Zd4 (Zaa (Zai (Zab 1) Zah) Zan)))) (Zb3 m_bl) Za5) (Zbu Za5))))) (Zb3 m_bl)))
@[irreducible] def Zdr : G := gOf 2 Ze9
theorem Zf6 : Zdr = gOf 2 Ze9 := by with_unfolding_all rfl
theorem Zo5 : Zc1 Zdr := Zf6 ▸ Zbg Ziw
noncomputable def Zhb (law_row : RWq) : P Bool :=
  (cond (!true) (.ok true) (bd (Zcm law_row.x4) fun b => .ok (!b)))
noncomputable def Zg6 (law_row : RWq) : P Bool :=
  (bd (bd (Zcm law_row.x1) fun b => .ok (!b)) fun c => cond c (.ok true) (bd (Zcm law_row.x2) fun b => .ok (!b)))
noncomputable def Zev (s1 : Unit) (law_row : RWq) : P (Out (Unit) Bool) :=
  (cond ((!true) || (!decide ((4 : Int) = (4 : Int))))
  (.ok (Out.ret false))
  (bd (Zg6 law_row) fun c => cond c
  (.ok (Out.ret false))
  (bd (Zhb law_row) fun c => cond c
  (.ok (Out.ret false))
  (.ok (.nx ())))))
noncomputable def Zdi (law_found : (List RWq)) : P Bool :=
  (cond (!true)
  (.ok false)
  (aft (Zft (ρ := Bool) Zev law_found ()) (fun (r3 : Bool) => .ok r3) fun (s2 : Unit) =>
  (.ok true)))
def Zj6 : WS :=
 (wSeq (wAsg (gT [1, 2, 3, 4, 5]) (Zbt Zch (Zam (Zbt Zey (Zam (wVar 0) (Zam (wInt 0) aNil))) (Zam (wLst (Zam (wInt 4) (Zam (wInt 3) (Zam (wInt 4) (Zam (wInt 3) (Zam (wOp oPow (wInt 10) (wInt 11)) aNil)))))) aNil))))
 (wSeq (wAsg (gN 6) (wOp oIx (wLst (Zam (wInt 1) (Zam (wInt 4) (Zam (wInt 12) (Zam (wInt 40) aNil))))) (wVar 1)))
 (wSeq (wAsg (gN 7) (wOp oIx (wLst (Zam (wInt 1) (Zam (wInt 3) (Zam (wInt 9) aNil)))) (wVar 2)))
 (wSeq (wAsg (gN 8) (wOp oIx (wLst (Zam (wInt 0) (Zam (wInt 0) (Zam (wInt 3) (Zam (wVar 5) aNil))))) (wVar 3)))
 (wRet (wTup (Zam (wVar 6) (Zam (wVar 7) (Zam (wVar 8) (Zam (wVar 4) aNil))))))))))
theorem Zn9 : Zbl Zj6 := (Zag (Zaq Zq7 (Zbb Zef (Zaa (Zbb Zez (Zaa (Zab 0) (Zaa Zav Zan))) (Zaa (Zde (Zaa Zav (Zaa Zav (Zaa Zav (Zaa Zav (Zaa (Zak Zav Zav Zbe) Zan)))))) Zan)))) (Zag (Zaq Za1 (Zak (Zde (Zaa Zav (Zaa Zav (Zaa Zav (Zaa Zav Zan))))) (Zab 1) Zbp)) (Zag (Zaq Za1 (Zak (Zde (Zaa Zav (Zaa Zav (Zaa Zav Zan)))) (Zab 2) Zbp)) (Zag (Zaq Za1 (Zak (Zde (Zaa Zav (Zaa Zav (Zaa Zav (Zaa (Zab 5) Zan))))) (Zab 3) Zbp)) (Zb3 (Zcr (Zaa (Zab 6) (Zaa (Zab 7) (Zaa (Zab 8) (Zaa (Zab 4) Zan))))))))))
@[irreducible] def Zhu : G := gOf 9 Zj6
theorem Zk2 : Zhu = gOf 9 Zj6 := by with_unfolding_all rfl
theorem Zu0 : Zc1 Zhu := Zk2 ▸ Zbg Zn9
noncomputable def Zhp (law_script : (List Int)) : P (T4 Int Int Int Int) :=
  (bd (bd (Zex law_script (0 : Int)) fun t1 => Zbq t1 ([(4 : Int), (3 : Int), (4 : Int), (3 : Int), (100000000000 : Int)])) fun (t2 : (List Int)) => un5 t2 fun law_a law_b law_c law_d law_far =>
  (bd (ofO (atI ([(1 : Int), (4 : Int), (12 : Int), (40 : Int)]) law_a)) fun (law_span : Int) =>
  (bd (ofO (atI ([(1 : Int), (3 : Int), (9 : Int)]) law_b)) fun (law_few : Int) =>
  (bd (ofO (atI ([(0 : Int), (0 : Int), (3 : Int), law_far]) law_c)) fun (law_base : Int) =>
  (.ok (T4.mk law_span law_few law_base law_d))))))
theorem Zpp (law_script : (List Int)) : Sim Zhu [.sh ((encL D.int) law_script)] (shE (enc4 D.int D.int D.int D.int)) (Zhp law_script) :=
 Zb9 Zk2 (env := ([.sh ((encL D.int) law_script), .un, .un, .un, .un, .un, .un, .un, .un] : En)) rfl (fun _ => Zat) (by
  unfold Zhp Zj6
  exact (Zt9 (Zcg (fun _ => Zba) (Zdu (Za7 (Zae (Zaf (i := 0) rfl) (Zae Zap Zao)) (Zgf law_script (0 : Int)) (fun _ => Zat)) fun t1 => (Zdq (Zce (Zae Zap (Zae Zap (Zae Zap (Zae Zap (Zae (Za4 Zap Zap (op_pow (c := 100000000000) ⟨by decide, by decide, by decide⟩ (by decide +kernel))) Zao))))) rfl (Nat.le_of_ble_eq_true rfl)) (Zbv (Zcp t1 ([(4 : Int), (3 : Int), (4 : Int), (3 : Int), (100000000000 : Int)])))))) fun t2 => Z6w (xs := t2) (fun law_a law_b law_c law_d law_far => ([.sh ((encL D.int) law_script), .sh (D.int law_a), .sh (D.int law_b), .sh (D.int law_c), .sh (D.int law_d), .sh (D.int law_far), .un, .un, .un] : En)) rfl (fun _ _ _ _ _ => rfl) fun law_a law_b law_c law_d law_far =>
 (Zci (f := (shE D.int)) (fun law_span => ([.sh ((encL D.int) law_script), .sh (D.int law_a), .sh (D.int law_b), .sh (D.int law_c), .sh (D.int law_d), .sh (D.int law_far), .sh (D.int law_span), .un, .un] : En)) (Zcq (Zce (Zae Zap (Zae Zap (Zae Zap (Zae Zap Zao)))) rfl (Nat.le_of_ble_eq_true rfl)) (Zaf (i := 1) rfl) (Zls (xs := [(1 : Int), (4 : Int), (12 : Int), (40 : Int)]) rfl)) (fun _ => Zat) (Nat.le_of_ble_eq_true rfl) (fun _ => rfl) fun law_span =>
 (Zci (f := (shE D.int)) (fun law_few => ([.sh ((encL D.int) law_script), .sh (D.int law_a), .sh (D.int law_b), .sh (D.int law_c), .sh (D.int law_d), .sh (D.int law_far), .sh (D.int law_span), .sh (D.int law_few), .un] : En)) (Zcq (Zce (Zae Zap (Zae Zap (Zae Zap Zao))) rfl (Nat.le_of_ble_eq_true rfl)) (Zaf (i := 2) rfl) (Zls (xs := [(1 : Int), (3 : Int), (9 : Int)]) rfl)) (fun _ => Zat) (Nat.le_of_ble_eq_true rfl) (fun _ => rfl) fun law_few =>
 (Zci (f := (shE D.int)) (fun law_base => ([.sh ((encL D.int) law_script), .sh (D.int law_a), .sh (D.int law_b), .sh (D.int law_c), .sh (D.int law_d), .sh (D.int law_far), .sh (D.int law_span), .sh (D.int law_few), .sh (D.int law_base)] : En)) (Zcq (Zce (Zae Zap (Zae Zap (Zae Zap (Zae (Zaf (i := 5) rfl) Zao)))) rfl (Nat.le_of_ble_eq_true rfl)) (Zaf (i := 3) rfl) (Zls (xs := [(0 : Int), (0 : Int), (3 : Int), law_far]) rfl)) (fun _ => Zat) (Nat.le_of_ble_eq_true rfl) (fun _ => rfl) fun law_base =>
 (Zmd (Zb7 (Zae (Zaf (i := 6) rfl) (Zae (Zaf (i := 7) rfl) (Zae (Zaf (i := 8) rfl) (Zae (Zaf (i := 4) rfl) Zao)))) rfl (Nat.le_of_ble_eq_true rfl)) rfl))))))
def Zfw : WS :=
 (wSeq (wAsg (gN 5) (wLst aNil))
 (wSeq (wAsg (gN 6) wDnT)
 (wSeq (wFor (gN 7) (Zhv (wVar 0))
 (wSeq (wAsg (gT [8, 9, 10, 11, 12, 13]) (Zbt Zch (Zam (wVar 7) (Zam (wLst (Zam (wInt 9) (Zam (wInt 60) (Zam (wInt 5) (Zam (wInt 9) (Zam (wInt 4) (Zam (wVar 1) aNil))))))) aNil))))
 (wSeq (wIf (wOp (oEq false) (wVar 10) (wInt 0))
 (wSeq (wAsg (gN 9) (wOp oMul (wVar 9) (wOp oPow (wInt 10) (wInt 10))))
 Zbk)
 Zbk)
 (wSeq (wAsg (gN 11) (wOp oIx (wLst (Zam (wInt 0) (Zam (wInt 1) (Zam (wInt 2) (Zam (wInt 7) (Zam (wInt 9) (Zam (wInt 10) (Zam (wInt 11) (Zam (wInt 100) (Zam (wOp oPow (wInt 10) (wInt 11)) aNil)))))))))) (wVar 11)))
 (wSeq (wIf (wOp (oIn true) (wTup (Zam (wVar 9) (Zam (wVar 11) aNil))) (wVar 6))
 (wSeq (wSet 6 (wTup (Zam (wVar 9) (Zam (wVar 11) aNil))) (wBl true))
 (wSeq (wAsg (gN 14) (wOp oIx (wLst (Zam (wStr (PySem.Str.ofString "moves")) (Zam (wStr (PySem.Str.ofString "moves")) (Zam (wStr (PySem.Str.ofString "stays")) (Zam (wStr (PySem.Str.ofString "lapses")) aNil))))) (wVar 12)))
 (wSeq (wApp 5 (wTup (Zam (wOp oAdd (wInt 1) (wOp oMod (wVar 8) (wVar 2))) (Zam (wVar 9) (Zam (wVar 11) (Zam (wVar 14) (Zam (wOp oAdd (wVar 3) (wVar 13)) aNil)))))))
 (wFgt 14 Zbk))))
 (wFgt 14 Zbk))
 (wFgt 7 (wFgt 8 (wFgt 9 (wFgt 10 (wFgt 11 (wFgt 12 (wFgt 13 (wFgt 14 Zbk)))))))))))))
 (wSeq (wFor (gN 15) (Zta (Zam (wVar 4) aNil))
 (wSeq (wAsg (gT [8, 12]) (Zbt Zch (Zam (wOp oAdd (wUn oSum (wVar 0)) (wOp oMul (wInt 977) (wVar 15))) (Zam (wLst (Zam (wInt 9) (Zam (wInt 4) aNil))) aNil))))
 (wSeq (wAsg (gN 14) (wOp oIx (wLst (Zam (wStr (PySem.Str.ofString "moves")) (Zam (wStr (PySem.Str.ofString "moves")) (Zam (wStr (PySem.Str.ofString "stays")) (Zam (wStr (PySem.Str.ofString "lapses")) aNil))))) (wVar 12)))
 (wSeq (wApp 5 (wTup (Zam (wOp oAdd (wInt 1) (wOp oMod (wVar 8) (wVar 2))) (Zam (wOp oAdd (wInt 100) (wOp oMul (wInt 7) (wVar 15))) (Zam (wInt 7) (Zam (wVar 14) (Zam (wOp oAdd (wVar 3) (wOp oMod (wVar 15) (wOp oAdd (wInt 1) (wOp oDiv (wVar 1) (wInt 4))))) aNil)))))))
 (wFgt 8 (wFgt 12 (wFgt 14 (wFgt 15 Zbk))))))))
 (Zim 5)))))
theorem Zkg : Zbl Zfw := (Zag (Zaq Za1 (Zde Zan)) (Zag (Zaq Za1 Z32) (Zag (Zj9 Za1 (Zhk (Zab 0)) (Zag (Zaq Zq7 (Zbb Zef (Zaa (Zab 7) (Zaa (Zde (Zaa Zav (Zaa Zav (Zaa Zav (Zaa Zav (Zaa Zav (Zaa (Zab 1) Zan))))))) Zan)))) (Zag (m_if (Zak (Zab 10) Zav Zbm) (Zag (Zaq Za1 (Zak (Zab 9) (Zak Zav Zav Zbe) Zbe)) Za5) Za5) (Zag (Zaq Za1 (Zak (Zde (Zaa Zav (Zaa Zav (Zaa Zav (Zaa Zav (Zaa Zav (Zaa Zav (Zaa Zav (Zaa Zav (Zaa (Zak Zav Zav Zbe) Zan)))))))))) (Zab 11) Zbp)) (Zag (m_if (Zak (Zcr (Zaa (Zab 9) (Zaa (Zab 11) Zan))) (Zab 6) Ze6) (Zag (Zr0 (Zcr (Zaa (Zab 9) (Zaa (Zab 11) Zan))) m_bl) (Zag (Zaq Za1 (Zak (Zde (Zaa Zfn (Zaa Zfn (Zaa Zfn (Zaa Zfn Zan))))) (Zab 12) Zbp)) (Zag (Zov (Zcr (Zaa (Zak Zav (Zak (Zab 8) (Zab 2) Zbe) Zaz) (Zaa (Zab 9) (Zaa (Zab 11) (Zaa (Zab 14) (Zaa (Zak (Zab 3) (Zab 13) Zaz) Zan))))))) (Zbu Za5)))) (Zbu Za5)) (Zbu (Zbu (Zbu (Zbu (Zbu (Zbu (Zbu (Zbu Za5))))))))))))) (Zag (Zj9 Za1 (Zv5 (Zaa (Zab 4) Zan)) (Zag (Zaq Zq7 (Zbb Zef (Zaa (Zak (Zai (Zab 0) Zs0) (Zak Zav (Zab 15) Zbe) Zaz) (Zaa (Zde (Zaa Zav (Zaa Zav Zan))) Zan)))) (Zag (Zaq Za1 (Zak (Zde (Zaa Zfn (Zaa Zfn (Zaa Zfn (Zaa Zfn Zan))))) (Zab 12) Zbp)) (Zag (Zov (Zcr (Zaa (Zak Zav (Zak (Zab 8) (Zab 2) Zbe) Zaz) (Zaa (Zak Zav (Zak Zav (Zab 15) Zbe) Zaz) (Zaa Zav (Zaa (Zab 14) (Zaa (Zak (Zab 3) (Zak (Zab 15) (Zak Zav (Zak (Zab 1) Zav Zbe) Zaz) Zbe) Zaz) Zan))))))) (Zbu (Zbu (Zbu (Zbu Za5)))))))) Zmo))))
@[irreducible] def Zd9 : G := gOf 16 Zfw
theorem Zg2 : Zd9 = gOf 16 Zfw := by with_unfolding_all rfl
theorem Zpm : Zc1 Zd9 := Zg2 ▸ Zbg Zkg
noncomputable def Zik (law_few : Int) (law_base : Int) (s1 : (List ENq) × (Dct (T2 Int Int) Bool)) (law_rank : Int) (law_way : Int) (law_own : Int) (law_number'' : Int) (law_year' : Int) : P ((List ENq) × (Dct (T2 Int Int) Bool)) :=
  (cond (!s1.2.has (T2.mk law_number'' law_year')) (bd (ofO (Dct.putO s1.2 (T2.mk law_number'' law_year') true)) fun (law_names' : (Dct (T2 Int Int) Bool)) =>
  (bd (ofO (atI ([(tx "moves"), (tx "moves"), (tx "stays"), (tx "lapses")]) law_way)) fun (law_sort : Tx) =>
  (bd (bd (bd (ofO (modO law_rank law_few)) fun t2 => .ok ((1 : Int) + t2)) fun t3 => .ok (T5.mk t3 law_number'' law_year' law_sort (law_base + law_own))) fun t4 => (bd (ofO (appO s1.1 t4)) fun (law_found' : (List ENq)) =>
  (.ok (law_found', law_names')))))) (.ok (s1.1, s1.2)))
noncomputable def Zdw (law_span : Int) (law_few : Int) (law_base : Int) (s1 : (List ENq) × (Dct (T2 Int Int) Bool)) (law_cell_here : Int) : P ((List ENq) × (Dct (T2 Int Int) Bool)) :=
  (bd (Zbq law_cell_here ([(9 : Int), (60 : Int), (5 : Int), (9 : Int), (4 : Int), law_span])) fun (t6 : (List Int)) => un6 t6 fun law_rank law_number law_big law_year law_way law_own =>
  (Ze1 (cond (decide (law_big = (0 : Int))) (law_number * (10000000000 : Int)) law_number) fun (law_number'' : Int) =>
  (bd (ofO (atI ([(0 : Int), (1 : Int), (2 : Int), (7 : Int), (9 : Int), (10 : Int), (11 : Int), (100 : Int), (100000000000 : Int)]) law_year)) fun (law_year' : Int) =>
  (bd (Zik law_few law_base s1 law_rank law_way law_own law_number'' law_year') fun (s5 : (List ENq) × (Dct (T2 Int Int) Bool)) =>
  (.ok (s5.1, s5.2))))))
noncomputable def Zdx (law_cells : (List Int)) (law_span : Int) (law_few : Int) (law_base : Int) (s8 : (List ENq)) (law_k : Int) : P ((List ENq)) :=
  (bd (Zbq ((law_cells.sum) + ((977 : Int) * law_k)) ([(9 : Int), (4 : Int)])) fun (t14 : (List Int)) => un2 t14 fun law_rank' law_way' =>
  (bd (ofO (atI ([(tx "moves"), (tx "moves"), (tx "stays"), (tx "lapses")]) law_way')) fun (law_sort' : Tx) =>
  (bd (bd (bd (ofO (modO law_rank' law_few)) fun t9 => .ok ((1 : Int) + t9)) fun t11 => bd (bd (ofO (modO law_k ((1 : Int) + (law_span / (4 : Int))))) fun t10 => .ok (law_base + t10)) fun t12 => .ok (T5.mk t11 ((100 : Int) + ((7 : Int) * law_k)) (7 : Int) law_sort' t12)) fun t13 => (bd (ofO (appO s8 t13)) fun (law_found'' : (List ENq)) =>
  (.ok law_found'')))))
noncomputable def Zej (law_cells : (List Int)) (law_span : Int) (law_few : Int) (law_base : Int) (law_crowd : Int) : P (List ENq) :=
  (Ze1 (Dct.emp : (Dct (T2 Int Int) Bool)) fun (law_names : (Dct (T2 Int Int) Bool)) =>
  (bd (Zdk (Zdw law_span law_few law_base) law_cells (([] : List ENq), law_names)) fun (s7 : (List ENq) × (Dct (T2 Int Int) Bool)) =>
  (grd (Bd62 law_crowd) (bd (Zdk (Zdx law_cells law_span law_few law_base) (Zfp 0 law_crowd.toNat) s7.1) fun (s15 : (List ENq)) =>
  (.ok s15)))))
theorem Zi5 (law_cells : (List Int)) (law_span : Int) (law_few : Int) (law_base : Int) (law_crowd : Int) : Sim Zd9 [.sh ((encL D.int) law_cells), .sh (D.int law_span), .sh (D.int law_few), .sh (D.int law_base), .sh (D.int law_crowd)] (owE (encL eEq)) (Zej law_cells law_span law_few law_base law_crowd) :=
 Zb9 Zg2 (env := ([.sh ((encL D.int) law_cells), .sh (D.int law_span), .sh (D.int law_few), .sh (D.int law_base), .sh (D.int law_crowd), .un, .un, .un, .un, .un, .un, .un, .un, .un, .un, .un] : En)) rfl (fun _ => Zba) (by
  unfold Zej Zfw
  exact (Zfr (s := .ow ((encL eEq) ([] : List ENq))) (env' := ([.sh ((encL D.int) law_cells), .sh (D.int law_span), .sh (D.int law_few), .sh (D.int law_base), .sh (D.int law_crowd), .ow ((encL eEq) ([] : List ENq)), .un, .un, .un, .un, .un, .un, .un, .un, .un, .un] : En)) (Zce Zao rfl (Nat.le_of_ble_eq_true rfl)) Zba (Nat.le_of_ble_eq_true rfl) rfl (Zl2 (owE (encT kII D.bl)) (fun law_names => ([.sh ((encL D.int) law_cells), .sh (D.int law_span), .sh (D.int law_few), .sh (D.int law_base), .sh (D.int law_crowd), .ow ((encL eEq) ([] : List ENq)), .ow ((encT kII D.bl) law_names), .un, .un, .un, .un, .un, .un, .un, .un, .un] : En)) (Zzx kII D.bl) (fun _ => Zba) (Nat.le_of_ble_eq_true rfl) (fun _ => rfl) fun law_names =>
 (Zp7 (f := D.int) (xs := law_cells) (s0 := (([] : List ENq), law_names)) (fun (s1 : (List ENq) × (Dct (T2 Int Int) Bool)) => ([.sh ((encL D.int) law_cells), .sh (D.int law_span), .sh (D.int law_few), .sh (D.int law_base), .sh (D.int law_crowd), .ow ((encL eEq) s1.1), .ow ((encT kII D.bl) s1.2), .un, .un, .un, .un, .un, .un, .un, .un, .un] : En)) (Zpa (Zaf (i := 0) rfl)) rfl
 (fun s1 law_cell_here => (Zdz (e := ([.sh ((encL D.int) law_cells), .sh (D.int law_span), .sh (D.int law_few), .sh (D.int law_base), .sh (D.int law_crowd), .ow ((encL eEq) s1.1), .ow ((encT kII D.bl) s1.2), .sh (D.int law_cell_here), .un, .un, .un, .un, .un, .un, .un, .un] : En)) Zat (Nat.le_of_ble_eq_true rfl) rfl (Zt9 (Za7 (Zae (Zaf (i := 7) rfl) (Zae (Zce (Zae Zap (Zae Zap (Zae Zap (Zae Zap (Zae Zap (Zae (Zaf (i := 1) rfl) Zao)))))) rfl (Nat.le_of_ble_eq_true rfl)) Zao)) (Zcp law_cell_here ([(9 : Int), (60 : Int), (5 : Int), (9 : Int), (4 : Int), law_span])) (fun _ => Zba)) fun t6 => Z5q (xs := t6) (fun law_rank law_number law_big law_year law_way law_own => ([.sh ((encL D.int) law_cells), .sh (D.int law_span), .sh (D.int law_few), .sh (D.int law_base), .sh (D.int law_crowd), .ow ((encL eEq) s1.1), .ow ((encT kII D.bl) s1.2), .sh (D.int law_cell_here), .sh (D.int law_rank), .sh (D.int law_number), .sh (D.int law_big), .sh (D.int law_year), .sh (D.int law_way), .sh (D.int law_own), .un, .un] : En)) rfl (fun _ _ _ _ _ _ => rfl) fun law_rank law_number law_big law_year law_way law_own =>
 (Z7j (fun (law_number'' : Int) => ([.sh ((encL D.int) law_cells), .sh (D.int law_span), .sh (D.int law_few), .sh (D.int law_base), .sh (D.int law_crowd), .ow ((encL eEq) s1.1), .ow ((encT kII D.bl) s1.2), .sh (D.int law_cell_here), .sh (D.int law_rank), .sh (D.int law_number''), .sh (D.int law_big), .sh (D.int law_year), .sh (D.int law_way), .sh (D.int law_own), .un, .un] : En)) (Za4 (Zaf (i := 10) rfl) Zap (op_eq (x := law_big) (y := (0 : Int)) eqe_int rfl rfl))
 (Zfr (s := .sh (D.int (law_number * (10000000000 : Int)))) (env' := ([.sh ((encL D.int) law_cells), .sh (D.int law_span), .sh (D.int law_few), .sh (D.int law_base), .sh (D.int law_crowd), .ow ((encL eEq) s1.1), .ow ((encT kII D.bl) s1.2), .sh (D.int law_cell_here), .sh (D.int law_rank), .sh (D.int (law_number * (10000000000 : Int))), .sh (D.int law_big), .sh (D.int law_year), .sh (D.int law_way), .sh (D.int law_own), .un, .un] : En)) (Za4 (Zaf (i := 9) rfl) (Za4 Zap Zap (op_pow (c := 10000000000) ⟨by decide, by decide, by decide⟩ (by decide +kernel))) (op_mul (Zxs (by decide)))) Zat (Nat.le_of_ble_eq_true rfl) rfl (Zcv rfl))
 (Zcv rfl)
 fun law_number'' => (Zci (f := (shE D.int)) (fun law_year' => ([.sh ((encL D.int) law_cells), .sh (D.int law_span), .sh (D.int law_few), .sh (D.int law_base), .sh (D.int law_crowd), .ow ((encL eEq) s1.1), .ow ((encT kII D.bl) s1.2), .sh (D.int law_cell_here), .sh (D.int law_rank), .sh (D.int law_number''), .sh (D.int law_big), .sh (D.int law_year'), .sh (D.int law_way), .sh (D.int law_own), .un, .un] : En)) (Zcq (Zce (Zae Zap (Zae Zap (Zae Zap (Zae Zap (Zae Zap (Zae Zap (Zae Zap (Zae Zap (Zae (Za4 Zap Zap (op_pow (c := 100000000000) ⟨by decide, by decide, by decide⟩ (by decide +kernel))) Zao))))))))) rfl (Nat.le_of_ble_eq_true rfl)) (Zaf (i := 11) rfl) (Zls (xs := [(0 : Int), (1 : Int), (2 : Int), (7 : Int), (9 : Int), (10 : Int), (11 : Int), (100 : Int), (100000000000 : Int)]) rfl)) (fun _ => Zat) (Nat.le_of_ble_eq_true rfl) (fun _ => rfl) fun law_year' =>
 (Zxe (fun (s5 : (List ENq) × (Dct (T2 Int Int) Bool)) => ([.sh ((encL D.int) law_cells), .sh (D.int law_span), .sh (D.int law_few), .sh (D.int law_base), .sh (D.int law_crowd), .ow ((encL eEq) s5.1), .ow ((encT kII D.bl) s5.2), .sh (D.int law_cell_here), .sh (D.int law_rank), .sh (D.int law_number''), .sh (D.int law_big), .sh (D.int law_year'), .sh (D.int law_way), .sh (D.int law_own), .un, .un] : En)) (Za4 (Zb7 (Zae (Zaf (i := 9) rfl) (Zae (Zaf (i := 11) rfl) Zao)) rfl (Nat.le_of_ble_eq_true rfl)) (Zbr (i := 6) rfl) (Zv2 (m := s1.2) (i := (T2.mk law_number'' law_year')) rfl))
 (Ztf (c := (encT kII D.bl) s1.2) rfl Zcz rfl (Zb7 (Zae (Zaf (i := 9) rfl) (Zae (Zaf (i := 11) rfl) Zao)) rfl (Nat.le_of_ble_eq_true rfl)) (setT (g := kII) (hg := Zku) (fun law_names' => ([.sh ((encL D.int) law_cells), .sh (D.int law_span), .sh (D.int law_few), .sh (D.int law_base), .sh (D.int law_crowd), .ow ((encL eEq) s1.1), .ow ((encT kII D.bl) law_names'), .sh (D.int law_cell_here), .sh (D.int law_rank), .sh (D.int law_number''), .sh (D.int law_big), .sh (D.int law_year'), .sh (D.int law_way), .sh (D.int law_own), .un, .un] : En)) rfl (fun _ => rfl) fun law_names' =>
 (Zci (f := (shE encS)) (fun law_sort => ([.sh ((encL D.int) law_cells), .sh (D.int law_span), .sh (D.int law_few), .sh (D.int law_base), .sh (D.int law_crowd), .ow ((encL eEq) s1.1), .ow ((encT kII D.bl) law_names'), .sh (D.int law_cell_here), .sh (D.int law_rank), .sh (D.int law_number''), .sh (D.int law_big), .sh (D.int law_year'), .sh (D.int law_way), .sh (D.int law_own), .sh (encS law_sort), .un] : En)) (Zcq (Zce (Zae Zb1 (Zae Zb1 (Zae Zb1 (Zae Zb1 Zao)))) rfl (Nat.le_of_ble_eq_true rfl)) (Zaf (i := 12) rfl) (Zls (xs := [(tx "moves"), (tx "moves"), (tx "stays"), (tx "lapses")]) rfl)) (fun _ => Zat) (Nat.le_of_ble_eq_true rfl) (fun _ => rfl) fun law_sort =>
 (Zs2 (f := eEq) (xs := s1.1) (fun law_found' => ([.sh ((encL D.int) law_cells), .sh (D.int law_span), .sh (D.int law_few), .sh (D.int law_base), .sh (D.int law_crowd), .ow ((encL eEq) law_found'), .ow ((encT kII D.bl) law_names'), .sh (D.int law_cell_here), .sh (D.int law_rank), .sh (D.int law_number''), .sh (D.int law_big), .sh (D.int law_year'), .sh (D.int law_way), .sh (D.int law_own), .sh (encS law_sort), .un] : En)) rfl (Zga (f := shE eEq) (Zdu (Zfu (f := (shE D.int)) (mm := fun t2 => ((1 : Int) + t2)) Zap (Zcq (Zaf (i := 8) rfl) (Zaf (i := 2) rfl) Zro) fun t2 => op_add) fun t3 => (Zdq (Zaf (i := 9) rfl) (Zdq (Zaf (i := 11) rfl) (Zdq (Zaf (i := 14) rfl) (Zdq (Za4 (Zaf (i := 3) rfl) (Zaf (i := 13) rfl) op_add) (Zbv ⟨(T5.mk t3 law_number'' law_year' law_sort (law_base + law_own)), _, rfl, Nat.le_of_ble_eq_true rfl, rfl, rfl⟩))))))) (fun _ => rfl) (fun _ => rfl) fun law_found' =>
 (Zbc (env' := ([.sh ((encL D.int) law_cells), .sh (D.int law_span), .sh (D.int law_few), .sh (D.int law_base), .sh (D.int law_crowd), .ow ((encL eEq) law_found'), .ow ((encT kII D.bl) law_names'), .sh (D.int law_cell_here), .sh (D.int law_rank), .sh (D.int law_number''), .sh (D.int law_big), .sh (D.int law_year'), .sh (D.int law_way), .sh (D.int law_own), .un, .un] : En)) rfl (Zcv rfl))))))
 (Zbc (env' := ([.sh ((encL D.int) law_cells), .sh (D.int law_span), .sh (D.int law_few), .sh (D.int law_base), .sh (D.int law_crowd), .ow ((encL eEq) s1.1), .ow ((encT kII D.bl) s1.2), .sh (D.int law_cell_here), .sh (D.int law_rank), .sh (D.int law_number''), .sh (D.int law_big), .sh (D.int law_year'), .sh (D.int law_way), .sh (D.int law_own), .un, .un] : En)) rfl (Zcv rfl))
 fun s5 => (Zbc (env' := ([.sh ((encL D.int) law_cells), .sh (D.int law_span), .sh (D.int law_few), .sh (D.int law_base), .sh (D.int law_crowd), .ow ((encL eEq) s5.1), .ow ((encT kII D.bl) s5.2), .un, .sh (D.int law_rank), .sh (D.int law_number''), .sh (D.int law_big), .sh (D.int law_year'), .sh (D.int law_way), .sh (D.int law_own), .un, .un] : En)) rfl (Zbc (env' := ([.sh ((encL D.int) law_cells), .sh (D.int law_span), .sh (D.int law_few), .sh (D.int law_base), .sh (D.int law_crowd), .ow ((encL eEq) s5.1), .ow ((encT kII D.bl) s5.2), .un, .un, .sh (D.int law_number''), .sh (D.int law_big), .sh (D.int law_year'), .sh (D.int law_way), .sh (D.int law_own), .un, .un] : En)) rfl (Zbc (env' := ([.sh ((encL D.int) law_cells), .sh (D.int law_span), .sh (D.int law_few), .sh (D.int law_base), .sh (D.int law_crowd), .ow ((encL eEq) s5.1), .ow ((encT kII D.bl) s5.2), .un, .un, .un, .sh (D.int law_big), .sh (D.int law_year'), .sh (D.int law_way), .sh (D.int law_own), .un, .un] : En)) rfl (Zbc (env' := ([.sh ((encL D.int) law_cells), .sh (D.int law_span), .sh (D.int law_few), .sh (D.int law_base), .sh (D.int law_crowd), .ow ((encL eEq) s5.1), .ow ((encT kII D.bl) s5.2), .un, .un, .un, .un, .sh (D.int law_year'), .sh (D.int law_way), .sh (D.int law_own), .un, .un] : En)) rfl (Zbc (env' := ([.sh ((encL D.int) law_cells), .sh (D.int law_span), .sh (D.int law_few), .sh (D.int law_base), .sh (D.int law_crowd), .ow ((encL eEq) s5.1), .ow ((encT kII D.bl) s5.2), .un, .un, .un, .un, .un, .sh (D.int law_way), .sh (D.int law_own), .un, .un] : En)) rfl (Zbc (env' := ([.sh ((encL D.int) law_cells), .sh (D.int law_span), .sh (D.int law_few), .sh (D.int law_base), .sh (D.int law_crowd), .ow ((encL eEq) s5.1), .ow ((encT kII D.bl) s5.2), .un, .un, .un, .un, .un, .un, .sh (D.int law_own), .un, .un] : En)) rfl (Zbc (env' := ([.sh ((encL D.int) law_cells), .sh (D.int law_span), .sh (D.int law_few), .sh (D.int law_base), .sh (D.int law_crowd), .ow ((encL eEq) s5.1), .ow ((encT kII D.bl) s5.2), .un, .un, .un, .un, .un, .un, .un, .un, .un] : En)) rfl (Zbc (env' := ([.sh ((encL D.int) law_cells), .sh (D.int law_span), .sh (D.int law_few), .sh (D.int law_base), .sh (D.int law_crowd), .ow ((encL eEq) s5.1), .ow ((encT kII D.bl) s5.2), .un, .un, .un, .un, .un, .un, .un, .un, .un] : En)) rfl (Zcv rfl)))))))))))))))
 fun s7 => (Z75 fun hg1 => (Zp7 (f := D.int) (xs := (Zfp 0 law_crowd.toNat)) (s0 := s7.1) (fun (s8 : (List ENq)) => ([.sh ((encL D.int) law_cells), .sh (D.int law_span), .sh (D.int law_few), .sh (D.int law_base), .sh (D.int law_crowd), .ow ((encL eEq) s8), .ow ((encT kII D.bl) s7.2), .un, .un, .un, .un, .un, .un, .un, .un, .un] : En)) (Zwz (Zae (Zaf (i := 4) rfl) Zao) hg1) rfl
 (fun s8 law_k => (Zdz (e := ([.sh ((encL D.int) law_cells), .sh (D.int law_span), .sh (D.int law_few), .sh (D.int law_base), .sh (D.int law_crowd), .ow ((encL eEq) s8), .ow ((encT kII D.bl) s7.2), .un, .un, .un, .un, .un, .un, .un, .un, .sh (D.int law_k)] : En)) Zat (Nat.le_of_ble_eq_true rfl) rfl (Zt9 (Za7 (Zae (Za4 (Zau (Zaf (i := 0) rfl) (Z6c (xs := law_cells) rfl)) (Za4 Zap (Zaf (i := 15) rfl) (op_mul (Zxa (by decide)))) op_add) (Zae (Zce (Zae Zap (Zae Zap Zao)) rfl (Nat.le_of_ble_eq_true rfl)) Zao)) (Zcp ((law_cells.sum) + ((977 : Int) * law_k)) ([(9 : Int), (4 : Int)])) (fun _ => Zba)) fun t14 => Z64 (xs := t14) (fun law_rank' law_way' => ([.sh ((encL D.int) law_cells), .sh (D.int law_span), .sh (D.int law_few), .sh (D.int law_base), .sh (D.int law_crowd), .ow ((encL eEq) s8), .ow ((encT kII D.bl) s7.2), .un, .sh (D.int law_rank'), .un, .un, .un, .sh (D.int law_way'), .un, .un, .sh (D.int law_k)] : En)) rfl (fun _ _ => rfl) fun law_rank' law_way' =>
 (Zci (f := (shE encS)) (fun law_sort' => ([.sh ((encL D.int) law_cells), .sh (D.int law_span), .sh (D.int law_few), .sh (D.int law_base), .sh (D.int law_crowd), .ow ((encL eEq) s8), .ow ((encT kII D.bl) s7.2), .un, .sh (D.int law_rank'), .un, .un, .un, .sh (D.int law_way'), .un, .sh (encS law_sort'), .sh (D.int law_k)] : En)) (Zcq (Zce (Zae Zb1 (Zae Zb1 (Zae Zb1 (Zae Zb1 Zao)))) rfl (Nat.le_of_ble_eq_true rfl)) (Zaf (i := 12) rfl) (Zls (xs := [(tx "moves"), (tx "moves"), (tx "stays"), (tx "lapses")]) rfl)) (fun _ => Zat) (Nat.le_of_ble_eq_true rfl) (fun _ => rfl) fun law_sort' =>
 (Zs2 (f := eEq) (xs := s8) (fun law_found'' => ([.sh ((encL D.int) law_cells), .sh (D.int law_span), .sh (D.int law_few), .sh (D.int law_base), .sh (D.int law_crowd), .ow ((encL eEq) law_found''), .ow ((encT kII D.bl) s7.2), .un, .sh (D.int law_rank'), .un, .un, .un, .sh (D.int law_way'), .un, .sh (encS law_sort'), .sh (D.int law_k)] : En)) rfl (Zga (f := shE eEq) (Zdu (Zfu (f := (shE D.int)) (mm := fun t9 => ((1 : Int) + t9)) Zap (Zcq (Zaf (i := 8) rfl) (Zaf (i := 2) rfl) Zro) fun t9 => op_add) fun t11 => (Zdq (Za4 Zap (Za4 Zap (Zaf (i := 15) rfl) (op_mul (Zxa (by decide)))) op_add) (Zdq Zap (Zdq (Zaf (i := 14) rfl) (Zdu (Zfu (f := (shE D.int)) (mm := fun t10 => (law_base + t10)) (Zaf (i := 3) rfl) (Zcq (Zaf (i := 15) rfl) (Za4 Zap (Za4 (Zaf (i := 1) rfl) Zap (Z6h (Zy1 (by decide)))) op_add) Zro) fun t10 => op_add) fun t12 => (Zbv ⟨(T5.mk t11 ((100 : Int) + ((7 : Int) * law_k)) (7 : Int) law_sort' t12), _, rfl, Nat.le_of_ble_eq_true rfl, rfl, rfl⟩))))))) (fun _ => rfl) (fun _ => rfl) fun law_found'' =>
 (Zbc (env' := ([.sh ((encL D.int) law_cells), .sh (D.int law_span), .sh (D.int law_few), .sh (D.int law_base), .sh (D.int law_crowd), .ow ((encL eEq) law_found''), .ow ((encT kII D.bl) s7.2), .un, .un, .un, .un, .un, .sh (D.int law_way'), .un, .sh (encS law_sort'), .sh (D.int law_k)] : En)) rfl (Zbc (env' := ([.sh ((encL D.int) law_cells), .sh (D.int law_span), .sh (D.int law_few), .sh (D.int law_base), .sh (D.int law_crowd), .ow ((encL eEq) law_found''), .ow ((encT kII D.bl) s7.2), .un, .un, .un, .un, .un, .un, .un, .sh (encS law_sort'), .sh (D.int law_k)] : En)) rfl (Zbc (env' := ([.sh ((encL D.int) law_cells), .sh (D.int law_span), .sh (D.int law_few), .sh (D.int law_base), .sh (D.int law_crowd), .ow ((encL eEq) law_found''), .ow ((encT kII D.bl) s7.2), .un, .un, .un, .un, .un, .un, .un, .un, .sh (D.int law_k)] : En)) rfl (Zbc (env' := ([.sh ((encL D.int) law_cells), .sh (D.int law_span), .sh (D.int law_few), .sh (D.int law_base), .sh (D.int law_crowd), .ow ((encL eEq) law_found''), .ow ((encT kII D.bl) s7.2), .un, .un, .un, .un, .un, .un, .un, .un, .un] : En)) rfl (Zcv rfl))))))))))
 fun s15 => (Zn4 (i := 5) (s := .ow ((encL eEq) s15)) rfl Zba rfl)))))))
def Zj4 : WS :=
 (wSeq (wAsg (gN 3) (wLst (Zam (wInt 7) aNil)))
 (wSeq (wFor (gN 4) (Zta (Zam (wInt 5) aNil))
 (wSeq (wAsg (gN 3) (wOp oCat (wVar 3) (wLst (Zam (wOp oAdd (wVar 1) (wInt 6)) (Zam (wInt 9) aNil)))))
 (wFgt 4 Zbk)))
 (wSeq (wAsg (gN 5) (Zbt Zch (Zam (wVar 0) (Zam (wOp oCat (wVar 3) (wLst (Zam (wOp oAdd (wVar 1) (wInt 6)) (Zam (wInt 9) (Zam (wInt 31) aNil))))) aNil))))
 (wSeq (wAsg (gN 6) wDnK)
 (wSeq (wFor (gN 4) (Zta (Zam (wOp oMin (wInt 5) (wUn (oIxN 0) (wVar 5))) aNil))
 (wSeq (wSet 6 (wOp oAdd (wVar 2) (wOp oIx (wVar 5) (wOp oAdd (wInt 1) (wOp oMul (wInt 2) (wVar 4))))) (wOp oIx (wVar 5) (wOp oAdd (wInt 2) (wOp oMul (wInt 2) (wVar 4)))))
 (wFgt 4 Zbk)))
 (wSeq (wIf (wOp (oEq false) (wUn (oIxN 0) (wVar 5)) (wInt 6))
 (wSeq (wFor (gN 4) (Zta (Zam (wUn (oIxN 13) (wVar 5)) aNil))
 (wSeq (wSet 6 (wOp oAdd (wOp oAdd (wVar 2) (wUn (oIxN 11) (wVar 5))) (wVar 4)) (wUn (oIxN 12) (wVar 5)))
 (wFgt 4 Zbk)))
 (wFgt 4 Zbk))
 (wFgt 4 Zbk))
 (Zim 6)))))))
theorem Zo2 : Zbl Zj4 := (Zag (Zaq Za1 (Zde (Zaa Zav Zan))) (Zag (Zj9 Za1 (Zv5 (Zaa Zav Zan)) (Zag (Zaq Za1 (Zak (Zab 3) (Zde (Zaa (Zak (Zab 1) Zav Zaz) (Zaa Zav Zan))) Zgc)) (Zbu Za5))) (Zag (Zaq Za1 (Zbb Zef (Zaa (Zab 0) (Zaa (Zak (Zab 3) (Zde (Zaa (Zak (Zab 1) Zav Zaz) (Zaa Zav (Zaa Zav Zan)))) Zgc) Zan)))) (Zag (Zaq Za1 Z1f) (Zag (Zj9 Za1 (Zv5 (Zaa (Zak Zav (Zai (Zab 5) Zah) Zaz) Zan)) (Zag (Zr0 (Zak (Zab 2) (Zak (Zab 5) (Zak Zav (Zak Zav (Zab 4) Zbe) Zaz) Zbp) Zaz) (Zak (Zab 5) (Zak Zav (Zak Zav (Zab 4) Zbe) Zaz) Zbp)) (Zbu Za5))) (Zag (m_if (Zak (Zai (Zab 5) Zah) Zav Zbm) (Zag (Zj9 Za1 (Zv5 (Zaa (Zai (Zab 5) Zah) Zan)) (Zag (Zr0 (Zak (Zak (Zab 2) (Zai (Zab 5) Zah) Zaz) (Zab 4) Zaz) (Zai (Zab 5) Zah)) (Zbu Za5))) (Zbu Za5)) (Zbu Za5)) Zmo))))))
@[irreducible] def Zhl : G := gOf 7 Zj4
theorem Zkv : Zhl = gOf 7 Zj4 := by with_unfolding_all rfl
theorem Zuc : Zc1 Zhl := Zkv ▸ Zbg Zo2
noncomputable def Zlu (law_span : Int) (s1 : (List Int)) (law_k : Int) : P ((List Int)) :=
  (bd (ofO (if s1.length + ([(law_span + (6 : Int)), (9 : Int)]).length ≤ 16777216 then some (s1 ++ ([(law_span + (6 : Int)), (9 : Int)])) else none)) fun (law_sizes' : (List Int)) =>
  (.ok law_sizes'))
noncomputable def Zih (law_base : Int) (law_drawn : (List Int)) (s6 : (Dct Int Int)) (law_k' : Int) : P ((Dct Int Int)) :=
  (bd (ofO (atI law_drawn ((2 : Int) + ((2 : Int) * law_k')))) fun t9 => bd (bd (ofO (atI law_drawn ((1 : Int) + ((2 : Int) * law_k')))) fun t7 => .ok (law_base + t7)) fun t8 => (bd (ofO (Dct.putO s6 t8 t9)) fun (law_shut_here' : (Dct Int Int)) =>
  (.ok law_shut_here')))
noncomputable def Zh6 (law_base : Int) (law_drawn : (List Int)) (s13 : (Dct Int Int)) (law_k'' : Int) : P ((Dct Int Int)) :=
  (bd (ofO (law_drawn[12]?)) fun t17 => bd (bd (bd (ofO (law_drawn[11]?)) fun t14 => .ok (law_base + t14)) fun t15 => .ok (t15 + law_k'')) fun t16 => (bd (ofO (Dct.putO s13 t16 t17)) fun (law_shut_here'' : (Dct Int Int)) =>
  (.ok law_shut_here'')))
noncomputable def Zid (law_base : Int) (law_drawn : (List Int)) (s10 : (Dct Int Int)) : P ((Dct Int Int)) :=
  (bd (bd (ofO (law_drawn[0]?)) fun t11 => .ok (decide (t11 = (6 : Int)))) fun c => cond c (bd (bd (ofO (law_drawn[13]?)) fun t12 => grd (Bd62 t12) (.ok (Zfp 0 t12.toNat))) fun l19 => bd (Zdk (Zh6 law_base law_drawn) l19 s10) fun (s18 : (Dct Int Int)) =>
  (.ok s18)) (.ok s10))
noncomputable def Zhg (law_cell_here : Int) (law_span : Int) (law_base : Int) : P (Dct Int Int) :=
  (bd (Zdk (Zlu law_span) (Zfp 0 (5 : Int).toNat) ([(7 : Int)])) fun (s2 : (List Int)) =>
  (bd (bd (ofO (if s2.length + ([(law_span + (6 : Int)), (9 : Int), (31 : Int)]).length ≤ 16777216 then some (s2 ++ ([(law_span + (6 : Int)), (9 : Int), (31 : Int)])) else none)) fun t3 => Zbq law_cell_here t3) fun (law_drawn : (List Int)) =>
  (Ze1 (Dct.emp : (Dct Int Int)) fun (law_shut_here : (Dct Int Int)) =>
  (bd (bd (bd (ofO (law_drawn[0]?)) fun t4 => .ok (imin (5 : Int) t4)) fun t5 => grd (Bd62 t5) (.ok (Zfp 0 t5.toNat))) fun l20 => bd (Zdk (Zih law_base law_drawn) l20 law_shut_here) fun (s10 : (Dct Int Int)) =>
  (bd (Zid law_base law_drawn s10) fun (law_shut_here''' : (Dct Int Int)) =>
  (.ok law_shut_here'''))))))
theorem Zm1 (law_cell_here : Int) (law_span : Int) (law_base : Int) : Sim Zhl [.sh (D.int law_cell_here), .sh (D.int law_span), .sh (D.int law_base)] (owE (encK kI D.int)) (Zhg law_cell_here law_span law_base) :=
 Zb9 Zkv (env := ([.sh (D.int law_cell_here), .sh (D.int law_span), .sh (D.int law_base), .un, .un, .un, .un] : En)) rfl (fun _ => Zba) (by
  unfold Zhg Zj4
  exact (Zfr (s := .ow ((encL D.int) ([(7 : Int)]))) (env' := ([.sh (D.int law_cell_here), .sh (D.int law_span), .sh (D.int law_base), .ow ((encL D.int) ([(7 : Int)])), .un, .un, .un] : En)) (Zce (Zae Zap Zao) rfl (Nat.le_of_ble_eq_true rfl)) Zba (Nat.le_of_ble_eq_true rfl) rfl (Zp7 (f := D.int) (xs := (Zfp 0 (5 : Int).toNat)) (s0 := ([(7 : Int)])) (fun (s1 : (List Int)) => ([.sh (D.int law_cell_here), .sh (D.int law_span), .sh (D.int law_base), .ow ((encL D.int) s1), .un, .un, .un] : En)) (Zwz (Zae Zap Zao) (by decide)) rfl
 (fun s1 law_k => (Zdz (e := ([.sh (D.int law_cell_here), .sh (D.int law_span), .sh (D.int law_base), .ow ((encL D.int) s1), .sh (D.int law_k), .un, .un] : En)) Zat (Nat.le_of_ble_eq_true rfl) rfl (Zci (f := (owE (encL D.int))) (fun law_sizes' => ([.sh (D.int law_cell_here), .sh (D.int law_span), .sh (D.int law_base), .ow ((encL D.int) law_sizes'), .sh (D.int law_k), .un, .un] : En)) (Zcq (Zbr (i := 3) rfl) (Zce (Zae (Za4 (Zaf (i := 1) rfl) Zap op_add) (Zae Zap Zao)) rfl (Nat.le_of_ble_eq_true rfl)) (Zye (xs := s1) (ys := ([(law_span + (6 : Int)), (9 : Int)])) rfl rfl)) (fun _ => Zba) (Nat.le_of_ble_eq_true rfl) (fun _ => rfl) fun law_sizes' =>
 (Zbc (env' := ([.sh (D.int law_cell_here), .sh (D.int law_span), .sh (D.int law_base), .ow ((encL D.int) law_sizes'), .un, .un, .un] : En)) rfl (Zcv rfl)))))
 fun s2 => (Zci (f := (owE (encL D.int))) (fun law_drawn => ([.sh (D.int law_cell_here), .sh (D.int law_span), .sh (D.int law_base), .ow ((encL D.int) s2), .un, .ow ((encL D.int) law_drawn), .un] : En)) (Zcg (fun _ => Zba) (Zdq (Zaf (i := 0) rfl) (Zdu (Zcq (Zbr (i := 3) rfl) (Zce (Zae (Za4 (Zaf (i := 1) rfl) Zap op_add) (Zae Zap (Zae Zap Zao))) rfl (Nat.le_of_ble_eq_true rfl)) (Zye (xs := s2) (ys := ([(law_span + (6 : Int)), (9 : Int), (31 : Int)])) rfl rfl)) fun t3 => (Zbv (Zcp law_cell_here t3))))) (fun _ => Zba) (Nat.le_of_ble_eq_true rfl) (fun _ => rfl) fun law_drawn =>
 (Zl2 (owE (encK kI D.int)) (fun law_shut_here => ([.sh (D.int law_cell_here), .sh (D.int law_span), .sh (D.int law_base), .ow ((encL D.int) s2), .un, .ow ((encL D.int) law_drawn), .ow ((encK kI D.int) law_shut_here)] : En)) (Zvf kI D.int) (fun _ => Zba) (Nat.le_of_ble_eq_true rfl) (fun _ => rfl) fun law_shut_here =>
 (Zoa (f := D.int) (s0 := law_shut_here) (fun (s6 : (Dct Int Int)) => ([.sh (D.int law_cell_here), .sh (D.int law_span), .sh (D.int law_base), .ow ((encL D.int) s2), .un, .ow ((encL D.int) law_drawn), .ow ((encK kI D.int) s6)] : En)) (Zt3 (Z2j (Zfu (f := (shE D.int)) (mm := fun t4 => (imin (5 : Int) t4)) Zap (Zei (Zbr (i := 5) rfl) (Zqs (xs := law_drawn) rfl)) fun t4 => Z6z) fun t5 => (Zvu ⟨t5, rfl, rfl⟩))) rfl
 (fun s6 law_k' => (Zdz (e := ([.sh (D.int law_cell_here), .sh (D.int law_span), .sh (D.int law_base), .ow ((encL D.int) s2), .sh (D.int law_k'), .ow ((encL D.int) law_drawn), .ow ((encK kI D.int) s6)] : En)) Zat (Nat.le_of_ble_eq_true rfl) rfl (Zy7 (c := (encK kI D.int) s6) (f := D.int) (fk := D.int) rfl (Zcq (Zbr (i := 5) rfl) (Za4 Zap (Za4 Zap (Zaf (i := 4) rfl) (op_mul (Zxa (by decide)))) op_add) (Zls (xs := law_drawn) rfl)) (fun _ => rfl) (Zfu (f := (shE D.int)) (mm := fun t7 => (law_base + t7)) (Zaf (i := 2) rfl) (Zcq (Zbr (i := 5) rfl) (Za4 Zap (Za4 Zap (Zaf (i := 4) rfl) (op_mul (Zxa (by decide)))) op_add) (Zls (xs := law_drawn) rfl)) fun t7 => op_add) fun t9 t8 => (setK (g := kI) (hg := Zmk) (fun law_shut_here' => ([.sh (D.int law_cell_here), .sh (D.int law_span), .sh (D.int law_base), .ow ((encL D.int) s2), .sh (D.int law_k'), .ow ((encL D.int) law_drawn), .ow ((encK kI D.int) law_shut_here')] : En)) rfl (fun _ => rfl) fun law_shut_here' =>
 (Zbc (env' := ([.sh (D.int law_cell_here), .sh (D.int law_span), .sh (D.int law_base), .ow ((encL D.int) s2), .un, .ow ((encL D.int) law_drawn), .ow ((encK kI D.int) law_shut_here')] : En)) rfl (Zcv rfl))))))
 fun s10 => (Z60 (fun (law_shut_here''' : (Dct Int Int)) => ([.sh (D.int law_cell_here), .sh (D.int law_span), .sh (D.int law_base), .ow ((encL D.int) s2), .un, .ow ((encL D.int) law_drawn), .ow ((encK kI D.int) law_shut_here''')] : En)) (Zsj (f := blE) (mm := fun t11 => (decide (t11 = (6 : Int)))) (Zei (Zbr (i := 5) rfl) (Zqs (xs := law_drawn) rfl)) Zap fun t11 => (op_eq (x := t11) (y := (6 : Int)) eqe_int rfl rfl))
 (Zoa (f := D.int) (s0 := s10) (fun (s13 : (Dct Int Int)) => ([.sh (D.int law_cell_here), .sh (D.int law_span), .sh (D.int law_base), .ow ((encL D.int) s2), .un, .ow ((encL D.int) law_drawn), .ow ((encK kI D.int) s13)] : En)) (Zt3 (Z2j (Zei (Zbr (i := 5) rfl) (Zqs (xs := law_drawn) rfl)) fun t12 => (Zvu ⟨t12, rfl, rfl⟩))) rfl
 (fun s13 law_k'' => (Zdz (e := ([.sh (D.int law_cell_here), .sh (D.int law_span), .sh (D.int law_base), .ow ((encL D.int) s2), .sh (D.int law_k''), .ow ((encL D.int) law_drawn), .ow ((encK kI D.int) s13)] : En)) Zat (Nat.le_of_ble_eq_true rfl) rfl (Zy7 (c := (encK kI D.int) s13) (f := D.int) (fk := D.int) rfl (Zei (Zbr (i := 5) rfl) (Zqs (xs := law_drawn) rfl)) (fun _ => rfl) (Zsj (f := (shE D.int)) (mm := fun t15 => (t15 + law_k'')) (Zfu (f := (shE D.int)) (mm := fun t14 => (law_base + t14)) (Zaf (i := 2) rfl) (Zei (Zbr (i := 5) rfl) (Zqs (xs := law_drawn) rfl)) fun t14 => op_add) (Zaf (i := 4) rfl) fun t15 => op_add) fun t17 t16 => (setK (g := kI) (hg := Zmk) (fun law_shut_here'' => ([.sh (D.int law_cell_here), .sh (D.int law_span), .sh (D.int law_base), .ow ((encL D.int) s2), .sh (D.int law_k''), .ow ((encL D.int) law_drawn), .ow ((encK kI D.int) law_shut_here'')] : En)) rfl (fun _ => rfl) fun law_shut_here'' =>
 (Zbc (env' := ([.sh (D.int law_cell_here), .sh (D.int law_span), .sh (D.int law_base), .ow ((encL D.int) s2), .un, .ow ((encL D.int) law_drawn), .ow ((encK kI D.int) law_shut_here'')] : En)) rfl (Zcv rfl))))))
 fun s18 => (Zbc (env' := ([.sh (D.int law_cell_here), .sh (D.int law_span), .sh (D.int law_base), .ow ((encL D.int) s2), .un, .ow ((encL D.int) law_drawn), .ow ((encK kI D.int) s18)] : En)) rfl (Zcv rfl)))
 (Zbc (env' := ([.sh (D.int law_cell_here), .sh (D.int law_span), .sh (D.int law_base), .ow ((encL D.int) s2), .un, .ow ((encL D.int) law_drawn), .ow ((encK kI D.int) s10)] : En)) rfl (Zcv rfl))
 fun law_shut_here''' => (Zn4 (i := 6) (s := .ow ((encK kI D.int) law_shut_here''')) rfl Zba rfl))))))))
def Zjz : WS :=
 (wSeq (wAsg (gT [2, 3, 4, 5]) (Zbt Zhu (Zam (wVar 0) aNil)))
 (wSeq (wAsg (gN 6) (Zbt Zd9 (Zam (Zpe (wVar 0) (Ztx (wInt 2)) (Ztx (wOp oAdd (wInt 2) (wVar 1)))) (Zam (wVar 2) (Zam (wVar 3) (Zam (wVar 4) (Zam (wOp oMul (wInt 6) (wVar 5)) aNil)))))))
 (wSeq (wAsg (gN 7) (Zbt Zhl (Zam (Zbt Zey (Zam (wVar 0) (Zam (wInt 1) aNil))) (Zam (wVar 2) (Zam (wVar 4) aNil)))))
 (Znl [6, 7] [] (Zam (wVar 6) (Zam (wVar 7) aNil))))))
theorem Znr : Zbl Zjz := (Zag (Zaq Zq7 (Zbb Zu0 (Zaa (Zab 0) Zan))) (Zag (Zaq Za1 (Zbb Zpm (Zaa (Zoh (Zab 0) (Zpj Zav) (Zpj (Zak Zav (Zab 1) Zaz))) (Zaa (Zab 2) (Zaa (Zab 3) (Zaa (Zab 4) (Zaa (Zak Zav (Zab 5) Zbe) Zan))))))) (Zag (Zaq Za1 (Zbb Zuc (Zaa (Zbb Zez (Zaa (Zab 0) (Zaa Zav Zan))) (Zaa (Zab 2) (Zaa (Zab 4) Zan))))) (Zz8 (Zaa (Zab 6) (Zaa (Zab 7) Zan))))))
@[irreducible] def Zg8 : G := gOf 8 Zjz
theorem Zkz : Zg8 = gOf 8 Zjz := by with_unfolding_all rfl
theorem Zt8 : Zc1 Zg8 := Zkz ▸ Zbg Znr
noncomputable def Zht (law_script : (List Int)) (law_most : Int) : P (T2 (List ENq) (Dct Int Int)) :=
  (bd (Zhp law_script) fun (t1 : (T4 Int Int Int Int)) =>
  (bd (Zej (cutD law_script (some (2 : Int)) (some ((2 : Int) + law_most))) t1.x1 t1.x2 t1.x3 ((6 : Int) * t1.x4)) fun (law_entries_here : (List ENq)) =>
  (bd (bd (Zex law_script (1 : Int)) fun t2 => Zhg t2 t1.x1 t1.x3) fun (law_shut_here : (Dct Int Int)) =>
  (.ok (T2.mk law_entries_here law_shut_here)))))
theorem Zoq (law_script : (List Int)) (law_most : Int) : Sim Zg8 [.sh ((encL D.int) law_script), .sh (D.int law_most)] (fun t : (T2 (List ENq) (Dct Int Int)) => Slot.nd (.tup [.own ((encL eEq) t.x1), .own ((encK kI D.int) t.x2)])) (Zht law_script law_most) :=
 Zb9 Zkz (env := ([.sh ((encL D.int) law_script), .sh (D.int law_most), .un, .un, .un, .un, .un, .un] : En)) rfl (fun _ => Z2r) (by
  unfold Zht Zjz
  exact (Zo6 (fun t1 => ([.sh ((encL D.int) law_script), .sh (D.int law_most), .sh (D.int t1.x1), .sh (D.int t1.x2), .sh (D.int t1.x3), .sh (D.int t1.x4), .un, .un] : En)) (Za7 (Zae (Zaf (i := 0) rfl) Zao) (Zpp law_script) (fun _ => Zat)) (fun _ => rfl) (fun _ => rfl) fun t1 =>
 (Zci (f := (owE (encL eEq))) (fun law_entries_here => ([.sh ((encL D.int) law_script), .sh (D.int law_most), .sh (D.int t1.x1), .sh (D.int t1.x2), .sh (D.int t1.x3), .sh (D.int t1.x4), .ow ((encL eEq) law_entries_here), .un] : En)) (Za7 (Zae (Zlq (xs := law_script) (Zaf (i := 0) rfl) (Zlk Zap) (Zlk (Za4 Zap (Zaf (i := 1) rfl) op_add)) rfl) (Zae (Zaf (i := 2) rfl) (Zae (Zaf (i := 3) rfl) (Zae (Zaf (i := 4) rfl) (Zae (Za4 Zap (Zaf (i := 5) rfl) (op_mul (Zxa (by decide)))) Zao))))) (Zi5 (cutD law_script (some (2 : Int)) (some ((2 : Int) + law_most))) t1.x1 t1.x2 t1.x3 ((6 : Int) * t1.x4)) (fun _ => Zba)) (fun _ => Zba) (Nat.le_of_ble_eq_true rfl) (fun _ => rfl) fun law_entries_here =>
 (Zci (f := (owE (encK kI D.int))) (fun law_shut_here => ([.sh ((encL D.int) law_script), .sh (D.int law_most), .sh (D.int t1.x1), .sh (D.int t1.x2), .sh (D.int t1.x3), .sh (D.int t1.x4), .ow ((encL eEq) law_entries_here), .ow ((encK kI D.int) law_shut_here)] : En)) (Zcg (fun _ => Zba) (Zdu (Za7 (Zae (Zaf (i := 0) rfl) (Zae Zap Zao)) (Zgf law_script (1 : Int)) (fun _ => Zat)) fun t2 => (Zdq (Zaf (i := 2) rfl) (Zdq (Zaf (i := 4) rfl) (Zbv (Zm1 t2 t1.x1 t1.x3)))))) (fun _ => Zba) (Nat.le_of_ble_eq_true rfl) (fun _ => rfl) fun law_shut_here =>
 (Zzy (fun a3 => ([.sh ((encL D.int) law_script), .sh (D.int law_most), .sh (D.int t1.x1), .sh (D.int t1.x2), .sh (D.int t1.x3), .sh (D.int t1.x4), .lk a3 ((encL eEq) law_entries_here), .ow ((encK kI D.int) law_shut_here)] : En)) rfl (fun _ => rfl) fun a3 =>
 (Zzy (fun a4 => ([.sh ((encL D.int) law_script), .sh (D.int law_most), .sh (D.int t1.x1), .sh (D.int t1.x2), .sh (D.int t1.x3), .sh (D.int t1.x4), .lk a3 ((encL eEq) law_entries_here), .lk a4 ((encK kI D.int) law_shut_here)] : En)) rfl (fun _ => rfl) fun a4 =>
 (Z51 (Zae (Z2y (i := 6) rfl) (Zae (Z2y (i := 7) rfl) Zao)) (fun _ q => ⟨rfl, ⟨rfl, q⟩⟩) (Nat.le_of_ble_eq_true rfl) rfl)))))))
abbrev Ent := T5 Int Int Int Tx Int
abbrev Row := T4 Int Int Tx Int
abbrev Shut := Dct Int Int
abbrev Nm := T2 Int Int
def nm (e : Ent) : Nm := ⟨e.x2, e.x3⟩
def rn (r : Row) : Nm := ⟨r.x1, r.x2⟩
theorem Z7d : tx "stands" ≠ tx "noted" := by decide +kernel
theorem Z74 : tx "stands" ≠ tx "out" := by decide +kernel
section
variable {κ α : Type} [DecidableEq κ]
theorem Z5j (l : List (κ × α)) (k k' : κ) (a : α) : lk (put l k a) k' = if k' = k then some a else lk l k' := by
  unfold put
  split
  · rename_i h
    unfold lk
    induction l with
    | nil => simp at h
    | cons p l ih =>
      rw [List.map_cons, List.find?_cons, List.find?_cons]
      by_cases hp : p.1 = k
      · rw [if_pos hp]
        by_cases hk : k' = k
        · subst hk; simp [hp]
        · have h1 : ¬ p.1 = k' := fun z => hk (z.symm.trans hp)
          simp only [h1, decide_false, if_neg hk]
          have e : (List.map (fun kv => if kv.1 = k then (kv.1, a) else kv) l).find? (fun kv => decide (kv.1 = k')) = (l.find? fun kv => decide (kv.1 = k')) := by
            clear ih h
            induction l with
            | nil => rfl
            | cons q l ih =>
              rw [List.map_cons, List.find?_cons, List.find?_cons]
              by_cases hq : q.1 = k
              · rw [if_pos hq]
                have h2 : ¬ q.1 = k' := fun z => hk (z.symm.trans hq)
                simp only [h2, decide_false]
                exact ih
              · rw [if_neg hq]
                by_cases h2 : q.1 = k'
                · simp [h2]
                · simp only [h2, decide_false]; exact ih
          rw [e]
      · rw [if_neg hp]
        by_cases h1 : p.1 = k'
        · have hk : ¬ k' = k := fun z => hp (h1.trans z)
          simp [h1, hk]
        · simp only [h1, decide_false]
          refine ih ?_
          simpa [hp] using h
  · rename_i h
    unfold lk
    rw [List.find?_append]
    by_cases hk : k' = k
    · subst hk
      have : (l.find? fun kv => decide (kv.1 = k')) = none := by
        rw [List.find?_eq_none]
        intro x hx hd
        exact h (List.any_eq_true.mpr ⟨x, hx, hd⟩)
      rw [this]; simp
    · cases hl : (l.find? fun kv => decide (kv.1 = k')) with
      | some x => simp [hk]
      | none =>
        have hk2 : ¬ k = k' := fun z => hk z.symm
        simp [hk, hk2]
theorem Zge (m : Dct κ α) (k k' : κ) (a : α) : (m.put k a).get k' = if k' = k then some a else m.get k' := Z5j m.l k k' a
theorem Zzi (m : Dct κ α) (k k' : κ) (a : α) : (m.put k a).has k' = (decide (k' = k) || m.has k') := by
  unfold Dct.has
  rw [Zge]
  by_cases h : k' = k
  · simp [h]
  · simp [h]
theorem Zjk (m : Dct κ α) (k : κ) (a : α) : (m.put k a).l.length ≤ m.l.length + 1 := by
  show (put m.l k a).length ≤ _
  unfold put
  split
  · rw [List.length_map]; omega
  · simp
theorem Z3s {m : Dct κ α} {k : κ} {a : α} (h : m.get k = some a) : (k, a) ∈ m.l := by
  unfold Dct.get lk at h
  obtain ⟨p, hp, e⟩ := Option.map_eq_some_iff.mp h
  have h1 := List.find?_some hp
  have h2 := List.mem_of_find?_eq_some hp
  have h3 : p.1 = k := by simpa using h1
  obtain ⟨p1, p2⟩ := p
  dsimp only at h3 e
  subst h3 e
  exact h2
end
def KN {κ α : Type} (m : Dct κ α) : Prop := (m.l.map Prod.fst).Nodup
theorem Z6f {κ α : Type} : KN (Dct.emp : Dct κ α) := List.nodup_nil
theorem Z5w {κ α : Type} [DecidableEq κ] {m : Dct κ α} (h : KN m) (k : κ) (a : α) : KN (m.put k a) := by
  show ((put m.l k a).map Prod.fst).Nodup
  unfold put
  split
  · have : (m.l.map fun kv => if kv.1 = k then (kv.1, a) else kv).map Prod.fst = m.l.map Prod.fst := by
      rw [List.map_map]
      refine List.map_congr_left fun p _ => ?_
      show (if p.1 = k then (p.1, a) else p).1 = p.1
      split <;> rfl
    rw [this]; exact h
  · rename_i hc
    rw [List.map_append, List.map_singleton]
    refine List.nodup_append.mpr ⟨h, by simp, fun x hx y hy z => ?_⟩
    rw [List.mem_singleton.mp hy] at z
    obtain ⟨p, hp, e⟩ := List.mem_map.mp hx
    exact hc (List.any_eq_true.mpr ⟨p, hp, decide_eq_true (e.trans z)⟩)
def IsFF (p : Int → Bool) (d x : Int) : Prop := d ≤ x ∧ p x = false ∧ ∀ y, d ≤ y → y < x → p y = true
theorem IsFF.uniq {p : Int → Bool} {d x y : Int} (h : IsFF p d x) (h' : IsFF p d y) : x = y := by
  rcases Int.lt_trichotomy x y with z | z | z
  · have := h'.2.2 x h.1 z; rw [h.2.1] at this; cases this
  · exact z
  · have := h.2.2 y h'.1 z; rw [h'.2.1] at this; cases this
noncomputable def fday (p : Int → Bool) (d : Int) : Int := open Classical in if h : ∃ x, IsFF p d x then h.choose else d
theorem Zuf {p : Int → Bool} {d x : Int} (h : IsFF p d x) : fday p d = x := by
  have ex : ∃ x, IsFF p d x := ⟨x, h⟩
  unfold fday
  rw [dif_pos ex]
  exact ex.choose_spec.uniq h
theorem Znt {α : Type} [DecidableEq α] : ∀ {l m : List α}, l.Nodup → (∀ x ∈ l, x ∈ m) → l.length ≤ m.length
  | [], _, _, _ => Nat.zero_le _
  | x :: l, m, hn, hs => by
    have h1 := List.nodup_cons.mp hn
    have hx := hs x List.mem_cons_self
    have ih := Znt (m := m.erase x) h1.2 fun y hy => (List.mem_erase_of_ne (fun z => h1.1 (by rw [← z]; exact hy))).mpr (hs y (List.mem_cons_of_mem _ hy))
    rw [List.length_erase_of_mem hx] at ih
    have := List.length_pos_of_mem hx
    rw [List.length_cons]; omega
theorem Z7r {p : Int → Bool} (L : List Int) (hL : ∀ d, p d = true → d ∈ L) (d : Int) : ∃ x, IsFF p d x ∧ x ≤ d + L.length := by
  have main : ∀ n : Nat, (∃ x, IsFF p d x ∧ x < d + n) ∨ ∀ y, d ≤ y → y < d + n → p y = true := by
    intro n
    induction n with
    | zero => exact .inr fun y h1 h2 => by omega
    | succ n ih =>
      rcases ih with ⟨x, hx, hl⟩ | h
      · exact .inl ⟨x, hx, by omega⟩
      · cases hp : p (d + n) with
        | false => exact .inl ⟨d + n, ⟨by omega, hp, h⟩, by omega⟩
        | true =>
          refine .inr fun y h1 h2 => ?_
          by_cases e : y = d + n
          · subst e; exact hp
          · exact h y h1 (by omega)
  rcases main (L.length + 1) with ⟨x, hx, hl⟩ | h
  · exact ⟨x, hx, by omega⟩
  · exfalso
    have hn : ((List.range (L.length + 1)).map fun (i : Nat) => d + (i : Int)).Nodup := by
      have hr : List.Pairwise (fun a b : Nat => a ≠ b) (List.range (L.length + 1)) := List.nodup_range
      exact List.pairwise_map.mpr (hr.imp fun {a b} h z => h (by omega))
    have := Znt (m := L) hn fun x hx => by
      obtain ⟨i, hi, rfl⟩ := List.mem_map.mp hx
      rw [List.mem_range] at hi
      exact hL _ (h _ (by omega) (by omega))
    simp at this
    omega
theorem Zmf {p : Int → Bool} (L : List Int) (hL : ∀ d, p d = true → d ∈ L) (d : Int) : IsFF p d (fday p d) ∧ fday p d ≤ d + L.length := by
  obtain ⟨x, hx, hl⟩ := Z7r L hL d
  rw [Zuf hx]
  exact ⟨hx, hl⟩
def opn (r day : Int) (sh : Shut) : Bool := match sh.get day with
  | none => true
  | some b => decide (r ≤ b)
theorem Zrz (r d : Int) (sh : Shut) : Zfe r d sh = .ok (opn r d sh) := by
  unfold Zfe opn Dct.has
  cases e : sh.get d with
  | none => rfl
  | some b => rfl
def blk (r : Int) (sh : Shut) (H : List Int) (d : Int) : Bool := !opn r d sh || decide (d ∈ H)
theorem Zl9 {r : Int} {sh : Shut} {H : List Int} {d : Int} (h : blk r sh H d = true) : d ∈ sh.keys ++ H := by
  unfold blk at h
  rcases Bool.or_eq_true_iff.mp h with h | h
  · unfold opn at h
    cases e : sh.get d with
    | none => rw [e] at h; cases h
    | some b => exact List.mem_append_left _ (List.mem_map.mpr ⟨_, Z3s e, rfl⟩)
  · exact List.mem_append_right _ (of_decide_eq_true h)
noncomputable def plc (sh : Shut) (H : List Int) (e : Ent) : T2 Tx Int :=
  if e.x4 = tx "moves" then ⟨tx "stands", fday (blk e.x1 sh H) e.x5⟩
  else if blk e.x1 sh H e.x5 = false then ⟨tx "stands", e.x5⟩
  else if e.x4 = tx "stays" then ⟨tx "noted", e.x5⟩ else ⟨tx "out", e.x5⟩
def Zin (e : Ent) (p : T2 Tx Int) : Row := ⟨e.x2, e.x3, p.x1, p.x2⟩
def heldBy (p : T2 Tx Int) (H : List Int) : List Int := if p.x1 = tx "stands" then p.x2 :: H else H
noncomputable def layG (sh : Shut) : List Ent → List Int → List Row
  | [], _ => []
  | e :: es, H => Zin e (plc sh H e) :: layG sh es (heldBy (plc sh H e) H)
def HD {α : Type} (m : Dct Int α) (H : List Int) : Prop := ∀ d, m.has d = decide (d ∈ H)
theorem Z56 {α : Type} : HD (Dct.emp : Dct Int α) [] := fun d => rfl
theorem Z6m {α : Type} {m : Dct Int α} {H : List Int} {d : Int} {a : α} (h : HD m H) : HD (m.put d a) (d :: H) := fun x => by
  rw [Zzi, h x, ← Bool.decide_or]
  exact decide_eq_decide.mpr List.mem_cons.symm
theorem Zvz {p : Int → Bool} {c : Int → P Bool} {step : Int → P Int} (hc : ∀ d, c d = .ok (p d)) (hs : ∀ d, step d = .ok (d + 1)) {d x : Int} (h : IsFF p d x) : whN' c step d = .ok x := by
  obtain ⟨h1, h2, h3⟩ := h
  obtain ⟨n, hn⟩ := Int.eq_ofNat_of_zero_le (show 0 ≤ x - d by omega)
  have go : ∀ (n : Nat) (d : Int), x - d = n → (∀ y, d ≤ y → y < x → p y = true) → wnN c step (n + 1) d = .ok x := by
    intro n
    induction n with
    | zero =>
      intro d e _
      have e : d = x := by omega
      subst e
      rw [wnN, hc, Zas, h2]; rfl
    | succ n ih =>
      intro d e h
      rw [wnN, hc, Zas, h d (by omega) (by omega), cond_true, hs, Zas]
      exact ih (d + 1) (by omega) fun y a b => h y (by omega) b
  exact Zuo (go n d hn h3) (by simp)
theorem Z1v (e : Ent) (sh : Shut) {m : Dct Int Bool} {H : List Int} (h : HD m H) : Zf9 e sh m = .ok (plc sh H e) := by
  unfold Zf9 plc
  by_cases hm : e.x4 = tx "moves"
  · simp only [hm, decide_true, cond_true, if_pos]
    obtain ⟨hf, _⟩ := Zmf (sh.keys ++ H) (fun d => Zl9) e.x5
    rw [Zvz (p := blk e.x1 sh H) (step := Zki) (fun d => ?_) (fun d => rfl) hf, Zas]
    unfold Zkh blk
    rw [Zrz, Zas, Zas, h d]
    cases opn e.x1 d sh <;> rfl
  · have e1 : Zg3 e sh m = .ok (!blk e.x1 sh H e.x5) := by
      unfold Zg3 blk
      rw [Zrz, Zas, h e.x5]
      cases opn e.x1 e.x5 sh <;> simp
    simp only [hm, decide_false, cond_false, if_neg, not_false_eq_true, e1, Zas]
    cases hb : blk e.x1 sh H e.x5 with
    | false => simp
    | true =>
      simp only [Bool.not_true, cond_false, Bool.true_eq_false, if_neg, not_false_eq_true]
      unfold Zhi
      by_cases hs : e.x4 = tx "stays"
      · simp only [hs, decide_true, cond_true, Zas, if_pos]
      · simp only [hs, decide_false, cond_false, Zas, if_neg, not_false_eq_true]
theorem Zvo (sh : Shut) : ∀ (es : List Ent) (m : Dct Int Bool) (H : List Int) (rows : List Row), HD m H → m.l.length + es.length < 16777216 → rows.length + es.length < 16777216 → ∃ m', Zdk (Znf sh) es (m, rows) = .ok (m', rows ++ layG sh es H)
  | [], m, H, rows, _, _, _ => ⟨m, by rw [Zn3, layG, List.append_nil]⟩
  | e :: es, m, H, rows, h, h1, h2 => by
    rw [List.length_cons] at h1 h2
    have hp := Z1v e sh h
    have step : ∃ m', Znf sh (m, rows) e = .ok (m', rows ++ [Zin e (plc sh H e)]) ∧ HD m' (heldBy (plc sh H e) H) ∧ m'.l.length ≤ m.l.length + 1 := by
      unfold Znf Zv0
      rw [hp, Zas]
      by_cases hs : (plc sh H e).x1 = tx "stands"
      · refine ⟨m.put (plc sh H e).x2 true, ?_, ?_, Zjk _ _ _⟩
        · simp only [hs, decide_true, cond_true, Zh5 (show m.l.length < 16777216 by omega), Zay, Zas, Zeo (show rows.length < 16777216 by omega), Zin]
        · unfold heldBy
          rw [if_pos hs]
          exact Z6m h
      · refine ⟨m, ?_, ?_, Nat.le_succ _⟩
        · simp only [hs, decide_false, cond_false, Zay, Zas, Zeo (show rows.length < 16777216 by omega), Zin]
        · unfold heldBy
          rw [if_neg hs]
          exact h
    obtain ⟨m1, e1, h3, h4⟩ := step
    obtain ⟨m2, e2⟩ := Zvo sh es m1 _ (rows ++ [Zin e (plc sh H e)]) h3 (by omega) (by simp; omega)
    refine ⟨m2, ?_⟩
    rw [Zcx, e1, Zas, e2, layG, List.append_assoc]
    rfl
theorem Zzj {a b : Ent} (h : key3 a = key3 b) : a.x1 = b.x1 ∧ nm a = nm b := by
  unfold key3 at h
  simp only [List.cons.injEq, Sum.inl.injEq, and_true] at h
  exact ⟨h.1, by unfold nm; rw [h.2.1, h.2.2]⟩
theorem Zt5 (n : Nat) : Zfp 0 (n + 1) = Zfp 0 n ++ [(n : Int)] := by
  unfold Zfp
  rw [List.range_succ, List.map_append, List.map_singleton, Int.zero_add]
theorem Zzz {α σ : Type} {step : σ → α → P σ} {xs ys : List α} {s s' : σ} (h : Zdk step xs s = .ok s') : Zdk step (xs ++ ys) s = Zdk step ys s' := by
  induction xs generalizing s with
  | nil => rw [Zn3] at h; cases h; rfl
  | cons x xs ih =>
    rw [List.cons_append, Zcx]
    rw [Zcx] at h
    cases e : step s x with
    | error z => rw [e] at h; cases h
    | ok t => rw [e, Zas] at h; rw [Zas]; exact ih h
theorem Zn6 {σ : Type} {step : σ → Int → P σ} (I : Nat → σ → Prop) {n : Nat} (h : ∀ k : Nat, k < n → ∀ s, I k s → ∃ s', step s (k : Int) = .ok s' ∧ I (k + 1) s') {s : σ} (h0 : I 0 s) : ∃ s', Zdk step (Zfp 0 n) s = .ok s' ∧ I n s' := by
  induction n with
  | zero => exact ⟨s, rfl, h0⟩
  | succ n ih =>
    obtain ⟨s1, e1, h1⟩ := ih (fun k hk s hs => h k (by omega) s hs)
    obtain ⟨s2, e2, h2⟩ := h n (by omega) s1 h1
    exact ⟨s2, by rw [Zt5, Zzz e1, Zcx, e2, Zas, Zn3], h2⟩
theorem Zxk {es : List Ent} (h : (es.map nm).Nodup) : (es.map key3).Nodup := by
  have h1 := List.pairwise_map.mp h
  exact List.pairwise_map.mpr (h1.imp fun hne hk => hne (Zzj hk).2)
theorem Zi2 {es fs : List Ent} (hp : es.Perm fs) (h : (fs.map nm).Nodup) : (es.map nm).Nodup := (hp.map nm).nodup_iff.mpr h
theorem Zma {es : List Ent} (h : (es.map nm).Nodup) : ∀ a ∈ es, ∀ b ∈ es, nm a = nm b → a = b := by
  induction es with
  | nil => intro a ha; cases ha
  | cons x es ih =>
    rw [List.map_cons, List.nodup_cons] at h
    intro a ha b hb e
    rcases List.mem_cons.mp ha with ha1 | ha1
    · rcases List.mem_cons.mp hb with hb1 | hb1
      · rw [ha1, hb1]
      · exact absurd (List.mem_map.mpr ⟨b, hb1, by rw [← e, ha1]⟩) h.1
    · rcases List.mem_cons.mp hb with hb1 | hb1
      · exact absurd (List.mem_map.mpr ⟨a, ha1, by rw [e, hb1]⟩) h.1
      · exact ih h.2 a ha1 b hb1 e
noncomputable abbrev ord (es : List Ent) : List Ent := Zs1 key3 es
theorem Zbn (es : List Ent) : (ord es).Perm es := Zk0 key3 es
theorem Z2d {es fs : List Ent} (h : (es.map nm).Nodup) (hp : fs.Perm es) (hs : fs.Pairwise fun a b => ltK (key3 b) (key3 a) = false) : fs = ord es :=
  Zsg (fun a ha b hb e => Zma h a ha b hb (Zzj e).2) hp hs
theorem Zit {es fs : List Ent} (h : (es.map nm).Nodup) (hp : fs.Perm es) : ord fs = ord es := Z2d h ((Zbn fs).trans hp) (Zie key3 fs)
noncomputable def LAY (es : List Ent) (sh : Shut) : List Row := layG sh (ord es) []
theorem Zl3 {es : List Ent} (h : (es.map nm).Nodup) : Zd5 es = .ok (ord es) := by
  unfold Zd5 Zwf
  rw [if_pos (Zxk h)]
  rfl
theorem Z25 {es : List Ent} (sh : Shut) (h : (es.map nm).Nodup) (hl : es.length < 16777000) : Zxb es sh = .ok (LAY es sh) := by
  unfold Zxb
  have hlen := (Zbn es).length_eq
  obtain ⟨m', e⟩ := Zvo sh (ord es) Dct.emp [] [] Z56 (by show 0 + _ < _; omega) (by show 0 + _ < _; omega)
  simp only [Ze1, Zl3 h, Zas, e, List.nil_append, LAY]
theorem Z42 (rs : List Row) : Zdi rs = .ok true := by
  unfold Zdi
  simp only [Bool.not_true, cond_false]
  obtain ⟨s, e, _⟩ := Zot (step := Zev) (fun _ => True) (xs := rs) (fun x _ s _ => ⟨(), by
    unfold Zev Zhb Zg6
    simp only [Bool.not_true, decide_true, Bool.or_false, cond_false, Zm8, Zas], trivial⟩) (s := ()) trivial
  rw [e, Zqi]
abbrev Way (t : Tx) : Prop := t = tx "moves" ∨ t = tx "stays" ∨ t = tx "lapses"
structure GoodE (e : Ent) : Prop where
  rank : 1 ≤ e.x1 ∧ e.x1 ≤ 9
  num : 0 ≤ e.x2 ∧ e.x2 ≤ 1000000000000
  year : 0 ≤ e.x3 ∧ e.x3 ≤ 100000000000
  way : Way e.x4
  own : 0 ≤ e.x5 ∧ e.x5 ≤ 200000000000
  y5 : e.x3 ≠ 5
structure GoodL (es : List Ent) : Prop where
  all : ∀ e ∈ es, GoodE e
  uni : (es.map nm).Nodup
  len : es.length ≤ 80
structure GoodS (sh : Shut) : Prop where
  all : ∀ d b, sh.get d = some b → 0 ≤ b ∧ b ≤ 8 ∧ 0 ≤ d ∧ d ≤ 200000000000
  len : sh.l.length ≤ 40
  kn : KN sh
theorem Zzp {i : Int} (h0 : 0 ≤ i) (h : i < 4) : ∃ t, atI [tx "moves", tx "moves", tx "stays", tx "lapses"] i = some t ∧ Way t := by
  obtain ⟨t, e, h⟩ := Zqq (xs := [tx "moves", tx "moves", tx "stays", tx "lapses"]) h0 (by simpa using h)
  refine ⟨t, e, ?_⟩
  simp only [List.mem_cons, List.not_mem_nil, or_false] at h
  unfold Way
  rcases h with h | h | h | h <;> simp [h]
theorem Z3c (ns : List Int) : ∃ sp few ba cr, Zhp ns = .ok ⟨sp, few, ba, cr⟩ ∧ (1 ≤ sp ∧ sp ≤ 40) ∧ (1 ≤ few ∧ few ≤ 9) ∧ (0 ≤ ba ∧ ba ≤ 100000000000) ∧ (0 ≤ cr ∧ cr ≤ 2) := by
  obtain ⟨c, e0⟩ := Zt6 ns (i := 0) (by decide)
  obtain ⟨x, y, z, u, v, e1, hx, hy, hz, hu, hv⟩ := Z7i c (a := 4) (b := 3) (d := 4) (f := 3) (g := 100000000000) (.cons (by decide) (by decide) (.cons (by decide) (by decide) (.cons (by decide) (by decide) (.cons (by decide) (by decide) (.cons (by decide) (by decide) .nil)))))
  obtain ⟨sp, e2, h2⟩ := Zqq (xs := [(1 : Int), 4, 12, 40]) hx.1 (by simpa using hx.2)
  obtain ⟨few, e3, h3⟩ := Zqq (xs := [(1 : Int), 3, 9]) hy.1 (by simpa using hy.2)
  obtain ⟨ba, e4, h4⟩ := Zqq (xs := [(0 : Int), 0, 3, v]) hz.1 (by simpa using hz.2)
  refine ⟨sp, few, ba, u, ?_, ?_, ?_, ?_, by omega⟩
  · unfold Zhp
    simp only [e0, Zas, e1, un5, e2, e3, e4, Zay]
  · simp only [List.mem_cons, List.not_mem_nil, or_false] at h2; omega
  · simp only [List.mem_cons, List.not_mem_nil, or_false] at h3; omega
  · simp only [List.mem_cons, List.not_mem_nil, or_false] at h4; omega
theorem Z0m (sp few ba : Int) (hs : 1 ≤ sp ∧ sp ≤ 40) (hf : 1 ≤ few ∧ few ≤ 9) (hb : 0 ≤ ba ∧ ba ≤ 100000000000) (cs : List Int) (hl : cs.length ≤ 100) : ∃ es m, Zdk (Zdw sp few ba) cs ([], Dct.emp) = .ok (es, m) ∧ (∀ e ∈ es, GoodE e ∧ (e.x2 ≤ 59 ∨ 10000000000 ≤ e.x2)) ∧ (es.map nm).Nodup ∧ es.length ≤ cs.length := by
  obtain ⟨⟨es, m⟩, e, h1, h2, h3, h4, h5⟩ := Zty (step := Zdw sp few ba) (fun p s => (∀ e ∈ s.1, GoodE e ∧ (e.x2 ≤ 59 ∨ 10000000000 ≤ e.x2)) ∧ (s.1.map nm).Nodup ∧ s.1.length ≤ p.length ∧ s.2.l.length ≤ p.length ∧ ∀ k, s.2.has k = decide (k ∈ s.1.map nm)) (xs := cs) (pre := []) (s := ([], Dct.emp)) (fun c p s hp _ ⟨h1, h2, h3, h4, h5⟩ => by
    obtain ⟨es, m⟩ := s
    dsimp only at h1 h2 h3 h4 h5
    have hp' : p.length < cs.length := by simpa using hp
    obtain ⟨r, n, b, y, w, o, e, hr, hn, hbg, hy, hw, ho⟩ := Z7s c (a := 9) (b := 60) (d := 5) (f := 9) (g := 4) (i := sp) (.cons (by decide) (by decide) (.cons (by decide) (by decide) (.cons (by decide) (by decide) (.cons (by decide) (by decide) (.cons (by decide) (by decide) (.cons (by omega) (by omega) .nil))))))
    obtain ⟨yr, ey, hyr⟩ := Zqq (xs := [(0 : Int), 1, 2, 7, 9, 10, 11, 100, 100000000000]) hy.1 (by simpa using hy.2)
    have hyr' : 0 ≤ yr ∧ yr ≤ 100000000000 := by
      simp only [List.mem_cons, List.not_mem_nil, or_false] at hyr; omega
    have hy5 : yr ≠ 5 := by
      simp only [List.mem_cons, List.not_mem_nil, or_false] at hyr; omega
    obtain ⟨t, et, ht⟩ := Zzp hw.1 hw.2
    have hnum : ∃ n', (cond (decide (b = (0 : Int))) (n * (10000000000 : Int)) n) = n' ∧ 0 ≤ n' ∧ n' ≤ 1000000000000 ∧ (n' ≤ 59 ∨ 10000000000 ≤ n') := by
      refine ⟨_, rfl, ?_⟩
      by_cases hb0 : b = 0
      · simp only [hb0, decide_true, cond_true]; omega
      · simp only [hb0, decide_false, cond_false]; omega
    obtain ⟨n', en, hn1, hn2, hn3⟩ := hnum
    have hmod : 0 ≤ r % few ∧ r % few < few := ⟨Int.emod_nonneg _ (by omega), Int.emod_lt_of_pos _ (by omega)⟩
    unfold Zdw
    rw [e, Zas]
    unfold un6 Ze1
    dsimp only
    rw [en, ey, Zay, Zas]
    unfold Zik
    dsimp only
    rw [h5]
    by_cases hin : (⟨n', yr⟩ : T2 Int Int) ∈ es.map nm
    · refine ⟨(es, m), ?_, h1, h2, by simp; omega, by simp; omega, h5⟩
      simp only [hin, decide_true, Bool.not_true, cond_false, Zas]
    · refine ⟨(es ++ [⟨1 + r % few, n', yr, t, ba + o⟩], m.put ⟨n', yr⟩ true), ?_, ?_, ?_, ?_, ?_, ?_⟩
      · simp only [hin, decide_false, Bool.not_false, cond_true, Zh5 (show m.l.length < 16777216 by omega), et, Zay, Zas, Znz (show 0 < few by omega), Zeo (show es.length < 16777216 by omega)]
      · intro x hx
        rcases List.mem_append.mp hx with hx | hx
        · exact h1 x hx
        · rw [List.mem_singleton.mp hx]
          exact ⟨⟨by dsimp only; omega, ⟨hn1, hn2⟩, hyr', ht, by dsimp only; omega, hy5⟩, hn3⟩
      · rw [List.map_append, List.map_singleton]
        refine List.nodup_append.mpr ⟨h2, by simp, fun a ha b hb z => ?_⟩
        rw [List.mem_singleton.mp hb] at z
        exact hin (by rw [z] at ha; exact ha)
      · simp; omega
      · have := Zjk m (⟨n', yr⟩ : T2 Int Int) true
        simp only [List.length_append, List.length_singleton]; omega
      · intro k
        rw [Zzi, h5, List.map_append, List.map_singleton, ← Bool.decide_or]
        refine decide_eq_decide.mpr ?_
        rw [List.mem_append, List.mem_singleton, or_comm]
        rfl) ⟨fun e he => (by cases he), List.nodup_nil, Nat.le_refl _, Nat.le_refl _, fun k => rfl⟩
  exact ⟨es, m, e, h1, h2, by simpa using h3⟩
theorem Z1z (cs : List Int) (sp few ba : Int) (hs : 1 ≤ sp ∧ sp ≤ 40) (hf : 1 ≤ few ∧ few ≤ 9) (hb : 0 ≤ ba ∧ ba ≤ 100000000000) {es : List Ent} (h1 : ∀ e ∈ es, GoodE e ∧ (e.x2 ≤ 59 ∨ 10000000000 ≤ e.x2)) (h2 : (es.map nm).Nodup) (h3 : es.length ≤ 68) {n : Nat} (hn : n ≤ 12) : ∃ fs, Zdk (Zdx cs sp few ba) (Zfp 0 n) es = .ok fs ∧ (∀ e ∈ fs, GoodE e) ∧ (fs.map nm).Nodup ∧ fs.length ≤ es.length + n := by
  obtain ⟨fs, e, g1, g2, g3⟩ := Zn6 (step := Zdx cs sp few ba) (fun k fs => (∀ e ∈ fs, GoodE e ∧ (e.x2 < 100 + 7 * (k : Int) ∨ 10000000000 ≤ e.x2)) ∧ (fs.map nm).Nodup ∧ fs.length ≤ es.length + k) (n := n) (s := es) (fun k hk fs ⟨g1, g2, g3⟩ => by
    obtain ⟨r, w, e, hr, hw⟩ := Z66 (cs.sum + 977 * (k : Int)) (a := 9) (b := 4) (.cons (by decide) (by decide) (.cons (by decide) (by decide) .nil))
    obtain ⟨t, et, ht⟩ := Zzp hw.1 hw.2
    have hmod : 0 ≤ r % few ∧ r % few < few := ⟨Int.emod_nonneg _ (by omega), Int.emod_lt_of_pos _ (by omega)⟩
    have hmod2 : 0 ≤ (k : Int) % (1 + sp / 4) ∧ (k : Int) % (1 + sp / 4) < 1 + sp / 4 := ⟨Int.emod_nonneg _ (by omega), Int.emod_lt_of_pos _ (by omega)⟩
    refine ⟨fs ++ [⟨1 + r % few, 100 + 7 * (k : Int), 7, t, ba + (k : Int) % (1 + sp / 4)⟩], ?_, ?_, ?_, ?_⟩
    · unfold Zdx
      simp only [e, Zas, un2, et, Zay, Znz (show 0 < few by omega), Znz (show 0 < 1 + sp / 4 by omega), Zeo (show fs.length < 16777216 by omega)]
    · intro x hx
      rcases List.mem_append.mp hx with hx | hx
      · have := g1 x hx
        exact ⟨this.1, by have := this.2; omega⟩
      · rw [List.mem_singleton.mp hx]
        exact ⟨⟨by dsimp only; omega, by dsimp only; omega, by dsimp only; omega, ht, by dsimp only; omega, by dsimp only; omega⟩, by dsimp only; omega⟩
    · rw [List.map_append, List.map_singleton]
      refine List.nodup_append.mpr ⟨g2, by simp, fun a ha b hb z => ?_⟩
      rw [List.mem_singleton.mp hb] at z
      obtain ⟨x, hx, ex⟩ := List.mem_map.mp ha
      have h := (g1 x hx).2
      rw [← ex] at z
      have hx2 : x.x2 = 100 + 7 * (k : Int) := congrArg T2.x1 z
      omega
    · simp; omega) ⟨fun e he => ⟨(h1 e he).1, by have := (h1 e he).2; omega⟩, h2, by omega⟩
  exact ⟨fs, e, fun e he => (g1 e he).1, g2, g3⟩
theorem Z4n (cs : List Int) (sp few ba cr : Int) (hs : 1 ≤ sp ∧ sp ≤ 40) (hf : 1 ≤ few ∧ few ≤ 9) (hb : 0 ≤ ba ∧ ba ≤ 100000000000) (hc : 0 ≤ cr ∧ cr ≤ 12) (hl : cs.length ≤ 68) : ∃ es, Zej cs sp few ba cr = .ok es ∧ GoodL es := by
  obtain ⟨es, m, e, h1, h2, h3⟩ := Z0m sp few ba hs hf hb cs (by omega)
  obtain ⟨fs, e2, g1, g2, g3⟩ := Z1z cs sp few ba hs hf hb h1 h2 (by omega) (n := cr.toNat) (by omega)
  refine ⟨fs, ?_, g1, g2, by omega⟩
  have hB : Bd62 cr := by unfold Bd62; omega
  unfold Zej Ze1
  dsimp only
  rw [e, Zas, grd, if_pos hB, e2, Zas]
theorem Dig.get : ∀ {ss ds : List Int}, Dig ss ds → ∀ (i : Nat) (s : Int), ss[i]? = some s → ∃ d, ds[i]? = some d ∧ 0 ≤ d ∧ d < s
  | s :: ss, d :: ds, h, 0, s', hs => by
    have : s = s' := by simpa using hs
    subst this
    exact ⟨d, rfl, h.1⟩
  | s :: ss, d :: ds, h, i + 1, s', hs => Dig.get h.2 i s' (by simpa using hs)
  | [], ds, h, i, s', hs => by simp at hs
  | _ :: _, [], h, i, s', hs => h.elim
theorem Z3h (c sp ba : Int) (hs : 1 ≤ sp ∧ sp ≤ 40) (hb : 0 ≤ ba ∧ ba ≤ 100000000000) : ∃ sh, Zhg c sp ba = .ok sh ∧ GoodS sh := by
  have eL : Zdk (Zlu sp) (Zfp 0 (5 : Int).toNat) ([(7 : Int)]) = .ok [7, sp + 6, 9, sp + 6, 9, sp + 6, 9, sp + 6, 9, sp + 6, 9] := rfl
  have hz : Szs [7, sp + 6, 9, sp + 6, 9, sp + 6, 9, sp + 6, 9, sp + 6, 9, sp + 6, 9, 31] := fun s hs => by
    simp only [List.mem_cons, List.not_mem_nil, or_false] at hs
    omega
  obtain ⟨ds, ed, hd⟩ := Zjm c _ hz (by simp)
  have hlen := hd.len
  obtain ⟨d0, e0, h0⟩ := hd.get 0 _ rfl
  obtain ⟨d11, e11, h11⟩ := hd.get 11 _ rfl
  obtain ⟨d12, e12, h12⟩ := hd.get 12 _ rfl
  obtain ⟨d13, e13, h13⟩ := hd.get 13 _ rfl
  have hodd : ∀ k : Nat, k < 5 → ∃ d, ds[1 + 2 * k]? = some d ∧ 0 ≤ d ∧ d < sp + 6 := fun k hk => by
    rcases (show k = 0 ∨ k = 1 ∨ k = 2 ∨ k = 3 ∨ k = 4 by omega) with h | h | h | h | h <;> subst h <;> exact hd.get _ _ rfl
  have heven : ∀ k : Nat, k < 5 → ∃ d, ds[2 + 2 * k]? = some d ∧ 0 ≤ d ∧ d < 9 := fun k hk => by
    rcases (show k = 0 ∨ k = 1 ∨ k = 2 ∨ k = 3 ∨ k = 4 by omega) with h | h | h | h | h <;> subst h <;> exact hd.get _ _ rfl
  have put : ∀ (m : Shut) (d b : Int) (n : Nat), ((∀ d b, m.get d = some b → 0 ≤ b ∧ b ≤ 8 ∧ 0 ≤ d ∧ d ≤ 200000000000) ∧ KN m) ∧ m.l.length ≤ n → (0 ≤ b ∧ b ≤ 8 ∧ 0 ≤ d ∧ d ≤ 200000000000) → ((∀ d' b', (m.put d b).get d' = some b' → 0 ≤ b' ∧ b' ≤ 8 ∧ 0 ≤ d' ∧ d' ≤ 200000000000) ∧ KN (m.put d b)) ∧ (m.put d b).l.length ≤ n + 1 := fun m d b n ⟨⟨h1, hk⟩, h2⟩ h => by
    refine ⟨⟨fun d' b' e => ?_, Z5w hk _ _⟩, by have := Zjk m d b; omega⟩
    rw [Zge] at e
    by_cases hd : d' = d
    · rw [if_pos hd] at e
      cases e; rw [hd]; exact h
    · rw [if_neg hd] at e
      exact h1 _ _ e
  obtain ⟨m1, em, hm1⟩ := Zn6 (step := Zih ba ds) (fun k (m : Shut) => ((∀ d b, m.get d = some b → 0 ≤ b ∧ b ≤ 8 ∧ 0 ≤ d ∧ d ≤ 200000000000) ∧ KN m) ∧ m.l.length ≤ k) (n := (imin 5 d0).toNat) (s := Dct.emp) (fun k hk m hm => by
    have hk5 : k < 5 := by unfold imin at hk; split at hk <;> omega
    obtain ⟨x, ex, hx⟩ := hodd k hk5
    obtain ⟨y, ey, hy⟩ := heven k hk5
    refine ⟨m.put (ba + x) y, ?_, put m _ _ k hm (by omega)⟩
    unfold Zih
    have i1 : (2 : Int) + 2 * (k : Int) = ((2 + 2 * k : Nat) : Int) := by omega
    have i2 : (1 : Int) + 2 * (k : Int) = ((1 + 2 * k : Nat) : Int) := by omega
    rw [i1, i2, atI_nat, atI_nat, ex, ey]
    simp only [Zay, Zas, Zh5 (show m.l.length < 16777216 by omega)]) ⟨⟨fun d b e => (by cases e), Z6f⟩, Nat.le_refl _⟩
  have hmin : (imin 5 d0).toNat ≤ 5 := by unfold imin; split <;> omega
  have hj : ∃ m2, Zid ba ds m1 = .ok m2 ∧ GoodS m2 := by
    unfold Zid
    rw [e0, Zay, Zas]
    by_cases h6 : d0 = 6
    · obtain ⟨m2, em2, hm2⟩ := Zn6 (step := Zh6 ba ds) (fun k (m : Shut) => ((∀ d b, m.get d = some b → 0 ≤ b ∧ b ≤ 8 ∧ 0 ≤ d ∧ d ≤ 200000000000) ∧ KN m) ∧ m.l.length ≤ 5 + k) (n := d13.toNat) (s := m1) (fun k hk m hm => by
        refine ⟨m.put (ba + d11 + (k : Int)) d12, ?_, put m _ _ (5 + k) hm (by omega)⟩
        unfold Zh6
        rw [e12, e11]
        simp only [Zay, Zas, Zh5 (show m.l.length < 16777216 by omega)]) ⟨hm1.1, by have := hm1.2; omega⟩
      have hB : Bd62 d13 := by unfold Bd62; omega
      refine ⟨m2, ?_, hm2.1.1, by have := hm2.2; omega, hm2.1.2⟩
      simp only [h6, decide_true, Zas, cond_true, e13, Zay, grd, if_pos hB, em2]
    · refine ⟨m1, ?_, hm1.1.1, by have := hm1.2; omega, hm1.1.2⟩
      simp only [h6, decide_false, Zas, cond_false]
  obtain ⟨m2, e2, g2⟩ := hj
  refine ⟨m2, ?_, g2⟩
  unfold Zhg
  rw [eL, Zas, if_pos (by simp), Zay, Zas]
  have hB : Bd62 (imin 5 d0) := by unfold Bd62 imin; split <;> omega
  simp only [List.cons_append, List.nil_append]
  rw [ed, Zas]
  simp only [Ze1, e0, Zay, Zas, grd, if_pos hB, em, e2]
theorem Z16 (ns : List Int) (k : Nat) (hk : k ≤ 61) : ∃ es sh, Zht ns (k : Int) = .ok ⟨es, sh⟩ ∧ GoodL es ∧ GoodS sh := by
  obtain ⟨sp, few, ba, cr, e0, hs, hf, hb, hc⟩ := Z3c ns
  obtain ⟨c, ec⟩ := Zt6 ns (i := 1) (by decide)
  have hcut : (cutD ns (some (2 : Int)) (some ((2 : Int) + (k : Int)))).length ≤ 61 := by
    have h1 := Z4v ns 2 (2 + k)
    have h2 : ((2 + k : Nat) : Int) = (2 : Int) + (k : Int) := by omega
    rw [h2] at h1
    have h1' : (cutD ns (some (2 : Int)) (some ((2 : Int) + (k : Int)))).length ≤ 2 + k - 2 := h1
    omega
  obtain ⟨es, e1, h1⟩ := Z4n (cutD ns (some (2 : Int)) (some ((2 : Int) + (k : Int)))) sp few ba (6 * cr) hs hf hb (by omega) (by omega)
  obtain ⟨sh, e2, h2⟩ := Z3h c sp ba hs hb
  refine ⟨es, sh, ?_, h1, h2⟩
  unfold Zht
  simp only [e0, Zas, e1, ec, e2]
theorem Z2p (sh : Shut) (H : List Int) (e : Ent) : e.x5 ≤ (plc sh H e).x2 := by
  unfold plc
  split
  · exact (Zmf (p := blk e.x1 sh H) _ (fun d => Zl9) e.x5).1.1
  · split
    · exact Int.le_refl _
    · split <;> exact Int.le_refl _
theorem Zrb {sh : Shut} {H : List Int} {e : Ent} (h : e.x4 ≠ tx "moves") : (plc sh H e).x2 = e.x5 := by
  unfold plc
  rw [if_neg h]
  split
  · rfl
  · split <;> rfl
theorem Zvx {sh : Shut} {H : List Int} {e : Ent} (h : (plc sh H e).x1 = tx "stands") : blk e.x1 sh H (plc sh H e).x2 = false := by
  unfold plc at h ⊢
  split
  · exact (Zmf (p := blk e.x1 sh H) _ (fun d => Zl9) e.x5).1.2.1
  · rename_i hm
    rw [if_neg hm] at h
    split
    · assumption
    · rename_i hb
      rw [if_neg hb] at h
      split at h
      · exact absurd h.symm Z7d
      · exact absurd h.symm Z74
theorem Zr5 {sh : Shut} {H : List Int} {e : Ent} (h : (plc sh H e).x1 = tx "stands") : ∀ d, e.x5 ≤ d → d < (plc sh H e).x2 → blk e.x1 sh H d = true := by
  intro d h1 h2
  unfold plc at h2
  split at h2
  · exact (Zmf (p := blk e.x1 sh H) _ (fun d => Zl9) e.x5).1.2.2 d h1 h2
  · split at h2
    · dsimp only at h2; omega
    · split at h2 <;> (dsimp only at h2; omega)
structure HDN {α : Type} (m : Dct Int α) (H : List Int) : Prop where
  mem : HD m H
  len : m.l.length = H.length
theorem Zwq (sh : Shut) : ∀ (es : List Ent) (H : List Int), (layG sh es H).length = es.length
  | [], _ => rfl
  | e :: es, H => by rw [layG, List.length_cons, Zwq sh es, List.length_cons]
theorem Zy2 (es : List Ent) (sh : Shut) : (LAY es sh).length = es.length := (Zwq sh _ _).trans (Zbn es).length_eq
theorem Zp3 (es : List Ent) : (ord es).Pairwise fun a b => ltK (key3 b) (key3 a) = false := Zie key3 es
theorem Z4h {es fs : List Ent} (h : (es.map nm).Nodup) (hs : fs.Sublist (ord es)) : ord fs = fs := by
  have hu : (fs.map nm).Nodup := (List.Sublist.map nm hs).nodup (Zi2 (Zbn es) h)
  exact (Z2d hu (List.Perm.refl _) ((Zp3 es).sublist hs)).symm
theorem Zlv {r : Int} {sh : Shut} {H : List Int} {d : Int} : blk r sh H d = false ↔ opn r d sh = true ∧ d ∉ H := by
  unfold blk
  rw [Bool.or_eq_false_iff, Bool.not_eq_false', decide_eq_false_iff_not]
theorem blk_true {r : Int} {sh : Shut} {H : List Int} {d : Int} : blk r sh H d = true ↔ opn r d sh = false ∨ d ∈ H := by
  unfold blk
  rw [Bool.or_eq_true_iff, Bool.not_eq_true', decide_eq_true_iff]
def Dom (r : Int) (sh : Shut) (H : List Int) (sh' : Shut) (H' : List Int) : Prop := ∀ r', r ≤ r' → ∀ d, blk r' sh H d = true → blk r' sh' H' d = true
theorem Dom.up {r r' : Int} {sh sh' : Shut} {H H' : List Int} (h : Dom r sh H sh' H') (hr : r ≤ r') : Dom r' sh H sh' H' := fun q hq => h q (by omega)
theorem Zji {sh : Shut} {H : List Int} {e : Ent} (h : (plc sh H e).x1 = tx "stands") : IsFF (blk e.x1 sh H) e.x5 (plc sh H e).x2 := ⟨Z2p sh H e, Zvx h, Zr5 h⟩
theorem Zfm {sh : Shut} {H : List Int} {e : Ent} (h : e.x4 = tx "moves") : (plc sh H e).x1 = tx "stands" := by unfold plc; rw [if_pos h]
theorem Zir {sh : Shut} {H : List Int} {e : Ent} (h : blk e.x1 sh H e.x5 = false) : (plc sh H e).x1 = tx "stands" := by
  unfold plc
  split
  · rfl
  · rfl
theorem Zu8 {sh : Shut} {H : List Int} {e : Ent} (h : (plc sh H e).x1 ≠ tx "stands") : e.x4 ≠ tx "moves" ∧ blk e.x1 sh H e.x5 = true := by
  refine ⟨fun z => h (Zfm z), ?_⟩
  cases hb : blk e.x1 sh H e.x5 with
  | true => rfl
  | false => exact absurd (Zir hb) h
theorem Zua (sh : Shut) : ∀ (es : List Ent) (H : List Int), (layG sh es H).map rn = es.map nm
  | [], _ => rfl
  | e :: es, H => by rw [layG, List.map_cons, Zua sh es, List.map_cons]; rfl
theorem Zwc {es : List Ent} (sh : Shut) : (LAY es sh).map rn = (ord es).map nm := Zua sh _ _
theorem Zz7 {es : List Ent} (sh : Shut) (h : (es.map nm).Nodup) : ((LAY es sh).map rn).Nodup := by rw [Zwc]; exact Zi2 (Zbn es) h
theorem Zvl {κ α β : Type} [DecidableEq κ] {step : Dct κ α → β → P (Dct κ α)} (f : β → κ) (g : β → α) (hst : ∀ m x, m.l.length < 16777216 → step m x = .ok (m.put (f x) (g x))) : ∀ (xs : List β) (m0 : Dct κ α), (xs.map f).Nodup → m0.l.length + xs.length < 16777216 → ∃ m, Zdk step xs m0 = .ok m ∧ (∀ x ∈ xs, m.get (f x) = some (g x)) ∧ (∀ k, k ∉ xs.map f → m.get k = m0.get k) ∧ m.l.length ≤ m0.l.length + xs.length
  | [], m0, _, _ => ⟨m0, rfl, (fun x hx => by cases hx), (fun _ _ => rfl), Nat.le_refl _⟩
  | x :: xs, m0, hn, hl => by
    rw [List.map_cons, List.nodup_cons] at hn
    rw [List.length_cons] at hl
    have h1 := Zjk m0 (f x) (g x)
    obtain ⟨m, e, h2, h3, h4⟩ := Zvl f g hst xs (m0.put (f x) (g x)) hn.2 (by omega)
    refine ⟨m, by rw [Zcx, hst m0 x (by omega), Zas, e], fun y hy => ?_, fun k hk => ?_, by rw [List.length_cons]; omega⟩
    · rcases List.mem_cons.mp hy with rfl | hy
      · rw [h3 _ hn.1, Zge, if_pos rfl]
      · exact h2 y hy
    · rw [List.map_cons, List.mem_cons, not_or] at hk
      rw [h3 k hk.2, Zge, if_neg hk.1]
theorem Z14 {α : Type} (xs : List α) (n : Nat) : cutD xs (some (n : Int)) none = xs.drop n := by
  unfold cutD
  rw [HT.sIx_nat, HT.sIx_none]
  by_cases h : n ≤ xs.length
  · rw [Nat.min_eq_left h, List.take_of_length_le (by rw [List.length_drop]; omega)]
  · rw [Nat.min_eq_right (by omega), List.drop_of_length_le (Nat.le_refl _), List.take_nil, List.drop_of_length_le (by omega)]
end DL
set_option Elab.async false
set_option linter.all false
set_option maxRecDepth 100000
set_option maxHeartbeats 1000000
set_option synthInstance.maxSize 2000
set_option synthInstance.maxHeartbeats 400000
namespace DL
open PySem PySem.Spec PyProof.Rows L2
end DL
set_option Elab.async false
set_option linter.all false
set_option maxRecDepth 100000
set_option maxHeartbeats 1000000
set_option synthInstance.maxSize 2000
set_option synthInstance.maxHeartbeats 400000
namespace DL
open PySem PySem.Spec PyProof.Rows L2
theorem Zyl {sh sh' : Shut} (r : Int) {d d' : Int} (h : sh'.get d' = sh.get d) : opn r d' sh' = opn r d sh := by unfold opn; rw [h]
theorem Zsr {sh sh' : Shut} {H H' : List Int} (r : Int) {d d' : Int} (h : sh'.get d' = sh.get d) (hm : d' ∈ H' ↔ d ∈ H) : blk r sh' H' d' = blk r sh H d := by
  unfold blk
  rw [Zyl r h, decide_eq_decide.mpr hm]
end DL
set_option Elab.async false
set_option linter.all false
set_option maxRecDepth 100000
set_option maxHeartbeats 1000000
set_option synthInstance.maxSize 2000
set_option synthInstance.maxHeartbeats 400000
namespace DL
open PySem PySem.Spec PyProof.Rows L2
theorem Zgz {α : Type} {a b : α} {c : Bool} (h : c = true) : cond c a b = a := by rw [h]; rfl
theorem Zc6 {α : Type} {a b : α} {c : Bool} (h : c = false) : cond c a b = b := by rw [h]; rfl
end DL
set_option Elab.async false
set_option linter.all false
set_option maxRecDepth 100000
set_option maxHeartbeats 1000000
set_option synthInstance.maxSize 2000
set_option synthInstance.maxHeartbeats 400000
namespace DL
open PySem PySem.Spec PyProof.Rows L2
def Zrs : WS :=
 (wSeq (wIf (wOp (oEq true) (wUn (oIxN 0) (wVar 0)) (wUn (oIxN 0) (wVar 1)))
 (wRet (wOp oLt (wUn (oIxN 0) (wVar 0)) (wUn (oIxN 0) (wVar 1))))
 Zbk)
 (wSeq (wIf (wOp (oEq true) (wUn (oIxN 1) (wVar 0)) (wUn (oIxN 1) (wVar 1)))
 (wRet (wOp oLt (wUn (oIxN 1) (wVar 0)) (wUn (oIxN 1) (wVar 1))))
 Zbk)
 (wRet (wOp oLt (wUn (oIxN 2) (wVar 0)) (wUn (oIxN 2) (wVar 1))))))
theorem Zwa : Zbl Zrs := (Zag (m_if (Zak (Zai (Zab 0) Zah) (Zai (Zab 1) Zah) Zbm) (Zb3 (Zak (Zai (Zab 0) Zah) (Zai (Zab 1) Zah) Zaz)) Za5) (Zag (m_if (Zak (Zai (Zab 0) Zah) (Zai (Zab 1) Zah) Zbm) (Zb3 (Zak (Zai (Zab 0) Zah) (Zai (Zab 1) Zah) Zaz)) Za5) (Zb3 (Zak (Zai (Zab 0) Zah) (Zai (Zab 1) Zah) Zaz))))
@[irreducible] def Zo7 : G := gOf 2 Zrs
theorem Zrt : Zo7 = gOf 2 Zrs := by with_unfolding_all rfl
theorem Z04 : Zc1 Zo7 := Zrt ▸ Zbg Zwa
noncomputable def Zl6 (one : ENq) (other : ENq) : P Bool :=
  (cond (!decide (one.x1 = other.x1))
  (.ok (decide (one.x1 < other.x1)))
  (cond (!decide (one.x2 = other.x2))
  (.ok (decide (one.x2 < other.x2)))
  (.ok (decide (one.x3 < other.x3)))))
theorem Zs3 (one : ENq) (other : ENq) : Sim Zo7 [.sh (eEq one), .sh (eEq other)] blE (Zl6 one other) :=
 Zb9 Zrt (env := ([.sh (eEq one), .sh (eEq other)] : En)) rfl (fun _ => Zat) (by
  unfold Zl6 Zrs
  exact (b_if (Za4 (Zau (Zaf (i := 0) rfl) (Za0 rfl rfl)) (Zau (Zaf (i := 1) rfl) (Za0 rfl rfl)) (op_ne (x := one.x1) (y := other.x1) eqe_int rfl rfl))
 (Zco (Za4 (Zau (Zaf (i := 0) rfl) (Za0 rfl rfl)) (Zau (Zaf (i := 1) rfl) (Za0 rfl rfl)) op_lt) rfl)
 (Zca (b_if (Za4 (Zau (Zaf (i := 0) rfl) (Za0 rfl rfl)) (Zau (Zaf (i := 1) rfl) (Za0 rfl rfl)) (op_ne (x := one.x2) (y := other.x2) eqe_int rfl rfl))
 (Zco (Za4 (Zau (Zaf (i := 0) rfl) (Za0 rfl rfl)) (Zau (Zaf (i := 1) rfl) (Za0 rfl rfl)) op_lt) rfl)
 (Zca (Zmd (Za4 (Zau (Zaf (i := 0) rfl) (Za0 rfl rfl)) (Zau (Zaf (i := 1) rfl) (Za0 rfl rfl)) op_lt) rfl))))))
def Zh7 : WS :=
 (wSeq (wAsg (gN 1) wDnT)
 (wSeq (wFor (gT [2, 3, 4, 5]) (Zhv (wVar 0))
 (wSeq (wSet 1 (wTup (Zam (wVar 2) (Zam (wVar 3) aNil))) (wTup (Zam (wVar 4) (Zam (wVar 5) aNil))))
 (wFgt 2 (wFgt 3 (wFgt 4 (wFgt 5 Zbk))))))
 (Zim 1)))
theorem Zmv : Zbl Zh7 := (Zag (Zaq Za1 Z32) (Zag (Zj9 Zq7 (Zhk (Zab 0)) (Zag (Zr0 (Zcr (Zaa (Zab 2) (Zaa (Zab 3) Zan))) (Zcr (Zaa (Zab 4) (Zaa (Zab 5) Zan)))) (Zbu (Zbu (Zbu (Zbu Za5)))))) Zmo))
@[irreducible] def Zep : G := gOf 6 Zh7
theorem Zi3 : Zep = gOf 6 Zh7 := by with_unfolding_all rfl
theorem Zmm : Zc1 Zep := Zi3 ▸ Zbg Zmv
noncomputable def Zg4 (s1 : (Dct (T2 Int Int) (T2 Tx Int))) (x2 : RWq) : P ((Dct (T2 Int Int) (T2 Tx Int))) :=
  (bd (ofO (Dct.putO s1 (T2.mk x2.x1 x2.x2) (T2.mk x2.x3 x2.x4))) fun (places' : (Dct (T2 Int Int) (T2 Tx Int))) =>
  (.ok places'))
noncomputable def Zew (rows : (List RWq)) : P (Dct (T2 Int Int) (T2 Tx Int)) :=
  (Ze1 (Dct.emp : (Dct (T2 Int Int) (T2 Tx Int))) fun (places : (Dct (T2 Int Int) (T2 Tx Int))) =>
  (bd (Zdk Zg4 rows places) fun (s3 : (Dct (T2 Int Int) (T2 Tx Int))) =>
  (.ok s3)))
theorem Zjn (rows : (List RWq)) : Sim Zep [.sh ((encL eRq) rows)] (owE (encT kII (enc2 encS D.int))) (Zew rows) :=
 Zb9 Zi3 (env := ([.sh ((encL eRq) rows), .un, .un, .un, .un, .un] : En)) rfl (fun _ => Zba) (by
  unfold Zew Zh7
  exact (Zl2 (owE (encT kII (enc2 encS D.int))) (fun places => ([.sh ((encL eRq) rows), .ow ((encT kII (enc2 encS D.int)) places), .un, .un, .un, .un] : En)) (Zzx kII (enc2 encS D.int)) (fun _ => Zba) (Nat.le_of_ble_eq_true rfl) (fun _ => rfl) fun places =>
 (Zp7 (f := eRq) (xs := rows) (s0 := places) (fun (s1 : (Dct (T2 Int Int) (T2 Tx Int))) => ([.sh ((encL eRq) rows), .ow ((encT kII (enc2 encS D.int)) s1), .un, .un, .un, .un] : En)) (Zpa (Zaf (i := 0) rfl)) rfl
 (fun s1 x2 => (Z2b (e := ([.sh ((encL eRq) rows), .ow ((encT kII (enc2 encS D.int)) s1), .sh (D.int x2.x1), .sh (D.int x2.x2), .sh (encS x2.x3), .sh (D.int x2.x4)] : En)) rfl rfl (Ztf (c := (encT kII (enc2 encS D.int)) s1) rfl (Zb7 (Zae (Zaf (i := 4) rfl) (Zae (Zaf (i := 5) rfl) Zao)) rfl (Nat.le_of_ble_eq_true rfl)) rfl (Zb7 (Zae (Zaf (i := 2) rfl) (Zae (Zaf (i := 3) rfl) Zao)) rfl (Nat.le_of_ble_eq_true rfl)) (setT (g := kII) (hg := Zku) (fun places' => ([.sh ((encL eRq) rows), .ow ((encT kII (enc2 encS D.int)) places'), .sh (D.int x2.x1), .sh (D.int x2.x2), .sh (encS x2.x3), .sh (D.int x2.x4)] : En)) rfl (fun _ => rfl) fun places' =>
 (Zbc (env' := ([.sh ((encL eRq) rows), .ow ((encT kII (enc2 encS D.int)) places'), .un, .sh (D.int x2.x2), .sh (encS x2.x3), .sh (D.int x2.x4)] : En)) rfl (Zbc (env' := ([.sh ((encL eRq) rows), .ow ((encT kII (enc2 encS D.int)) places'), .un, .un, .sh (encS x2.x3), .sh (D.int x2.x4)] : En)) rfl (Zbc (env' := ([.sh ((encL eRq) rows), .ow ((encT kII (enc2 encS D.int)) places'), .un, .un, .un, .sh (D.int x2.x4)] : En)) rfl (Zbc (env' := ([.sh ((encL eRq) rows), .ow ((encT kII (enc2 encS D.int)) places'), .un, .un, .un, .un] : En)) rfl (Zcv rfl)))))))))
 fun s3 => (Zn4 (i := 1) (s := .ow ((encT kII (enc2 encS D.int)) s3)) rfl Zba rfl))))
def Zi6 : WS :=
 (wSeq (wAsg (gN 2) (wLst aNil))
 (wSeq (wFor (gN 3) (Zhv (Zbt Zfc (Zam (wVar 0) aNil)))
 (wSeq (wAsg (gT [4, 5]) (wOp oIx (wVar 1) (wTup (Zam (wUn (oIxN 1) (wVar 3)) (Zam (wUn (oIxN 2) (wVar 3)) aNil)))))
 (wSeq (wApp 2 (wTup (Zam (wUn (oIxN 1) (wVar 3)) (Zam (wUn (oIxN 2) (wVar 3)) (Zam (wVar 4) (Zam (wVar 5) aNil))))))
 (wFgt 3 (wFgt 4 (wFgt 5 Zbk))))))
 (Zim 2)))
theorem Zqm : Zbl Zi6 := (Zag (Zaq Za1 (Zde Zan)) (Zag (Zj9 Za1 (Zhk (Zbb Zmh (Zaa (Zab 0) Zan))) (Zag (Zaq Zq7 (Zak (Zab 1) (Zcr (Zaa (Zai (Zab 3) Zah) (Zaa (Zai (Zab 3) Zah) Zan))) Zbp)) (Zag (Zov (Zcr (Zaa (Zai (Zab 3) Zah) (Zaa (Zai (Zab 3) Zah) (Zaa (Zab 4) (Zaa (Zab 5) Zan)))))) (Zbu (Zbu (Zbu Za5)))))) Zmo))
@[irreducible] def Zf7 : G := gOf 6 Zi6
theorem Zju : Zf7 = gOf 6 Zi6 := by with_unfolding_all rfl
theorem Zqh : Zc1 Zf7 := Zju ▸ Zbg Zqm
noncomputable def Zgx (places : (Dct (T2 Int Int) (T2 Tx Int))) (s1 : (List RWq)) (entry : ENq) : P ((List RWq)) :=
  (bd (ofO (places.get (T2.mk entry.x2 entry.x3))) fun (t2 : (T2 Tx Int)) =>
  (bd (ofO (appO s1 (T4.mk entry.x2 entry.x3 t2.x1 t2.x2))) fun (rows' : (List RWq)) =>
  (.ok rows')))
noncomputable def Zff (entries : (List ENq)) (places : (Dct (T2 Int Int) (T2 Tx Int))) : P (List RWq) :=
  (bd (Zd5 entries) fun l4 => bd (Zdk (Zgx places) l4 ([] : List RWq)) fun (s3 : (List RWq)) =>
  (.ok s3))
theorem Zpn (entries : (List ENq)) (places : (Dct (T2 Int Int) (T2 Tx Int))) : Sim Zf7 [.sh ((encL eEq) entries), .bo ((encT kII (enc2 encS D.int)) places)] (owE (encL eRq)) (Zff entries places) :=
 Zb9 Zju (env := ([.sh ((encL eEq) entries), .bo ((encT kII (enc2 encS D.int)) places), .un, .un, .un, .un] : En)) rfl (fun _ => Zba) (by
  unfold Zff Zi6
  exact (Zfr (s := .ow ((encL eRq) ([] : List RWq))) (env' := ([.sh ((encL eEq) entries), .bo ((encT kII (enc2 encS D.int)) places), .ow ((encL eRq) ([] : List RWq)), .un, .un, .un] : En)) (Zce Zao rfl (Nat.le_of_ble_eq_true rfl)) Zba (Nat.le_of_ble_eq_true rfl) rfl (Zoa (f := eEq) (s0 := ([] : List RWq)) (fun (s1 : (List RWq)) => ([.sh ((encL eEq) entries), .bo ((encT kII (enc2 encS D.int)) places), .ow ((encL eRq) s1), .un, .un, .un] : En)) (Zrl (Za7 (Zae (Zaf (i := 0) rfl) Zao) (Zig entries) (fun _ => Zba))) rfl
 (fun s1 entry => (Zdz (e := ([.sh ((encL eEq) entries), .bo ((encT kII (enc2 encS D.int)) places), .ow ((encL eRq) s1), .sh (eEq entry), .un, .un] : En)) Zat (Nat.le_of_ble_eq_true rfl) rfl (Zo6 (fun t2 => ([.sh ((encL eEq) entries), .bo ((encT kII (enc2 encS D.int)) places), .ow ((encL eRq) s1), .sh (eEq entry), .sh (encS t2.x1), .sh (D.int t2.x2)] : En)) (Zcq (Zij (i := 1) rfl) (Zb7 (Zae (Zau (Zaf (i := 3) rfl) (Za0 rfl rfl)) (Zae (Zau (Zaf (i := 3) rfl) (Za0 rfl rfl)) Zao)) rfl (Nat.le_of_ble_eq_true rfl)) (Zk3 (m := places) (i := (T2.mk entry.x2 entry.x3)) rfl)) (fun _ => rfl) (fun _ => rfl) fun t2 =>
 (Zt7 (f := eRq) (xs := s1) (x := (T4.mk entry.x2 entry.x3 t2.x1 t2.x2)) (fun rows' => ([.sh ((encL eEq) entries), .bo ((encT kII (enc2 encS D.int)) places), .ow ((encL eRq) rows'), .sh (eEq entry), .sh (encS t2.x1), .sh (D.int t2.x2)] : En)) rfl (Zb7 (Zae (Zau (Zaf (i := 3) rfl) (Za0 rfl rfl)) (Zae (Zau (Zaf (i := 3) rfl) (Za0 rfl rfl)) (Zae (Zaf (i := 4) rfl) (Zae (Zaf (i := 5) rfl) Zao)))) rfl (Nat.le_of_ble_eq_true rfl)) rfl (fun _ => rfl) fun rows' =>
 (Zbc (env' := ([.sh ((encL eEq) entries), .bo ((encT kII (enc2 encS D.int)) places), .ow ((encL eRq) rows'), .un, .sh (encS t2.x1), .sh (D.int t2.x2)] : En)) rfl (Zbc (env' := ([.sh ((encL eEq) entries), .bo ((encT kII (enc2 encS D.int)) places), .ow ((encL eRq) rows'), .un, .un, .sh (D.int t2.x2)] : En)) rfl (Zbc (env' := ([.sh ((encL eEq) entries), .bo ((encT kII (enc2 encS D.int)) places), .ow ((encL eRq) rows'), .un, .un, .un] : En)) rfl (Zcv rfl))))))))
 fun s3 => (Zn4 (i := 2) (s := .ow ((encL eRq) s3)) rfl Zba rfl))))
def Zjp : WS :=
 (wSeq (wIf (wNot (Zbt Zfh (Zam (wUn (oIxN 0) (wVar 0)) (Zam (wVar 1) (Zam (wVar 2) aNil)))))
 (wRet (wBl false))
 Zbk)
 (wRet (wOr (wOp (oIn true) (wVar 1) (wVar 3)) (Zbt Zo7 (Zam (wVar 0) (Zam (wOp oIx (wVar 3) (wVar 1)) aNil))))))
theorem Zny : Zbl Zjp := (Zag (m_if (Zbs (Zbb Zj3 (Zaa (Zai (Zab 0) Zah) (Zaa (Zab 1) (Zaa (Zab 2) Zan))))) (Zb3 m_bl) Za5) (Zb3 (Zfo (Zak (Zab 1) (Zab 3) Ze6) (Zbb Z04 (Zaa (Zab 0) (Zaa (Zak (Zab 3) (Zab 1) Zbp) Zan))))))
@[irreducible] def Zf3 : G := gOf 4 Zjp
theorem Zko : Zf3 = gOf 4 Zjp := by with_unfolding_all rfl
theorem Zom : Zc1 Zf3 := Zko ▸ Zbg Zny
noncomputable def Zfy (entry : ENq) (day : Int) (shut : (Dct Int Int)) (holders : (Dct Int ENq)) : P Bool :=
  (bd (bd (Zfe entry.x1 day shut) fun b => .ok (!b)) fun c => cond c
  (.ok false)
  (bd (cond (!holders.has day) (.ok true) (bd (ofO (holders.get day)) fun t1 => Zl6 entry t1)) fun r2 => .ok r2))
theorem Zhe (entry : ENq) (day : Int) (shut : (Dct Int Int)) (holders : (Dct Int ENq)) : Sim Zf3 [.sh (eEq entry), .sh (D.int day), .sh ((encK kI D.int) shut), .bo ((encK kI eEq) holders)] blE (Zfy entry day shut holders) :=
 Zb9 Zko (env := ([.sh (eEq entry), .sh (D.int day), .sh ((encK kI D.int) shut), .bo ((encK kI eEq) holders)] : En)) rfl (fun _ => Zat) (by
  unfold Zfy Zjp
  exact (Zl1 (Ze0 (Za7 (Zae (Zau (Zaf (i := 0) rfl) (Za0 rfl rfl)) (Zae (Zaf (i := 1) rfl) (Zae (Zaf (i := 2) rfl) Zao))) (Zel entry.x1 day shut) (fun _ => Zat)))
 (Zco Zcz rfl)
 (Zca (Ziv (f := blE) (t := fun r2 => r2) (Zzb (Za4 (Zaf (i := 1) rfl) (Zij (i := 3) rfl) (Zuq (m := holders) (i := day) rfl)) (Zcg (fun _ => Zat) (Zdq (Zaf (i := 0) rfl) (Zdu (Zcq (Zij (i := 3) rfl) (Zaf (i := 1) rfl) (Z2n (m := holders) (i := day) rfl)) fun t1 => (Zbv (Zs3 entry t1)))))) fun _ => rfl))))
def Ze5 : WS :=
 (wSeq (wAsg (gN 3) (wUn (oIxN 4) (wVar 0)))
 (wSeq (wIf (wOp (oEq false) (wUn (oIxN 3) (wVar 0)) (wStr (PySem.Str.ofString "moves")))
 (wSeq (Zlp (wNot (Zbt Zf3 (Zam (wVar 0) (Zam (wVar 3) (Zam (wVar 1) (Zam (wVar 2) aNil))))))
 (wSeq (wAug 3 (fun n m => n + m) (wInt 1))
 Zbk))
 (wRet (wTup (Zam (wStr (PySem.Str.ofString "stands")) (Zam (wVar 3) aNil)))))
 Zbk)
 (wSeq (wIf (Zbt Zf3 (Zam (wVar 0) (Zam (wVar 3) (Zam (wVar 1) (Zam (wVar 2) aNil)))))
 (wRet (wTup (Zam (wStr (PySem.Str.ofString "stands")) (Zam (wVar 3) aNil))))
 Zbk)
 (wRet (Zbt Zhq (Zam (wVar 0) aNil))))))
theorem Zis : Zbl Ze5 := (Zag (Zaq Za1 (Zai (Zab 0) Zah)) (Zag (m_if (Zak (Zai (Zab 0) Zah) Zfn Zbm) (Zag (Zoo (Zbs (Zbb Zom (Zaa (Zab 0) (Zaa (Zab 3) (Zaa (Zab 1) (Zaa (Zab 2) Zan)))))) (Zag (Z5b Zav) Za5)) (Zb3 (Zcr (Zaa Zfn (Zaa (Zab 3) Zan))))) Za5) (Zag (m_if (Zbb Zom (Zaa (Zab 0) (Zaa (Zab 3) (Zaa (Zab 1) (Zaa (Zab 2) Zan))))) (Zb3 (Zcr (Zaa Zfn (Zaa (Zab 3) Zan)))) Za5) (Zb3 (Zbb Zqf (Zaa (Zab 0) Zan))))))
@[irreducible] def Zdv : G := gOf 4 Ze5
theorem Zgj : Zdv = gOf 4 Ze5 := by with_unfolding_all rfl
theorem Znp : Zc1 Zdv := Zgj ▸ Zbg Zis
noncomputable def Zes (entry : ENq) (shut : (Dct Int Int)) (holders : (Dct Int ENq)) (s1 : Int) : P Bool :=
  (bd (Zfy entry s1 shut holders) fun b => .ok (!b))
noncomputable def Zhx (s1 : Int) : P (Int) :=
  (Ze1 (s1 + (1 : Int)) fun (day' : Int) =>
  (.ok day'))
noncomputable def Zdm (entry : ENq) (shut : (Dct Int Int)) (holders : (Dct Int ENq)) : P (T2 Tx Int) :=
  (cond (decide (entry.x4 = (tx "moves")))
  (bd (whN' (Zes entry shut holders) Zhx entry.x5) fun (s2 : Int) =>
  (.ok (T2.mk (tx "stands") s2)))
  (bd (Zfy entry entry.x5 shut holders) fun c => cond c
  (.ok (T2.mk (tx "stands") entry.x5))
  (bd (Zhi entry) fun r3 => .ok r3)))
theorem Zj7 (entry : ENq) (shut : (Dct Int Int)) (holders : (Dct Int ENq)) : Sim Zdv [.sh (eEq entry), .sh ((encK kI D.int) shut), .bo ((encK kI eEq) holders)] (shE (enc2 encS D.int)) (Zdm entry shut holders) :=
 Zb9 Zgj (env := ([.sh (eEq entry), .sh ((encK kI D.int) shut), .bo ((encK kI eEq) holders), .un] : En)) rfl (fun _ => Zat) (by
  unfold Zdm Ze5
  exact (Zfr (s := .sh (D.int entry.x5)) (env' := ([.sh (eEq entry), .sh ((encK kI D.int) shut), .bo ((encK kI eEq) holders), .sh (D.int entry.x5)] : En)) (Zau (Zaf (i := 0) rfl) (Za0 rfl rfl)) Zat (Nat.le_of_ble_eq_true rfl) rfl (b_if (Za4 (Zau (Zaf (i := 0) rfl) (Za0 rfl rfl)) Zb1 (op_eq (x := entry.x4) (y := (tx "moves")) eqe_str rfl rfl))
 (Zx4 (Z07 (s0 := entry.x5) (fun (s1 : Int) => ([.sh (eEq entry), .sh ((encK kI D.int) shut), .bo ((encK kI eEq) holders), .sh (D.int s1)] : En)) rfl (fun s1 => (Ze0 (Za7 (Zae (Zaf (i := 0) rfl) (Zae (Zaf (i := 3) rfl) (Zae (Zaf (i := 1) rfl) (Zae (Zij (i := 2) rfl) Zao)))) (Zhe entry s1 shut holders) (fun _ => Zat)))) (fun s1 => (Z6t (fun day' => ([.sh (eEq entry), .sh ((encK kI D.int) shut), .bo ((encK kI eEq) holders), .sh (D.int day')] : En)) rfl Zap (fun _ => rfl) fun day' =>
 (Zcv rfl))) fun s2 => (Zco (Zb7 (Zae Zb1 (Zae (Zaf (i := 3) rfl) Zao)) rfl (Nat.le_of_ble_eq_true rfl)) rfl)))
 (Zca (Zl1 (Za7 (Zae (Zaf (i := 0) rfl) (Zae (Zaf (i := 3) rfl) (Zae (Zaf (i := 1) rfl) (Zae (Zij (i := 2) rfl) Zao)))) (Zhe entry entry.x5 shut holders) (fun _ => Zat))
 (Zco (Zb7 (Zae Zb1 (Zae (Zaf (i := 3) rfl) Zao)) rfl (Nat.le_of_ble_eq_true rfl)) rfl)
 (Zca (Ziv (f := (shE (enc2 encS D.int))) (t := fun r3 => r3) (Za7 (Zae (Zaf (i := 0) rfl) Zao) (Zlo entry) (fun _ => Zat)) fun _ => rfl)))))))
def Znb : WS :=
 (wSeq (wAsg (gN 3) (Zbt Zep (Zam (Zbt Zxj (Zam (wVar 0) (Zam (wVar 1) aNil))) aNil)))
 (wSeq (wIf (wOp (oIn false) (wTup (Zam (wUn (oIxN 1) (wVar 2)) (Zam (wUn (oIxN 2) (wVar 2)) aNil))) (wVar 3))
 (Zqw (PySem.Str.ofString "Taken"))
 Zbk)
 (wSeq (wAsg (gN 4) wDnK)
 (wSeq (wFor (gN 5) (Zhv (wVar 0))
 (wSeq (wAsg (gT [6, 7]) (wOp oIx (wVar 3) (wTup (Zam (wUn (oIxN 1) (wVar 5)) (Zam (wUn (oIxN 2) (wVar 5)) aNil)))))
 (wSeq (wIf (wOp (oEq false) (wVar 6) (wStr (PySem.Str.ofString "stands")))
 (wSeq (wSet 4 (wVar 7) (wVar 5))
 Zbk)
 Zbk)
 (wFgt 5 (wFgt 6 (wFgt 7 Zbk))))))
 (wSeq (wAsg (gN 8) (wLst aNil))
 (wSeq (wAsg (gN 9) (wVar 2))
 (wSeq (Zlp (wUn (oIsN true) (wVar 9))
 (wSeq (wAsg (gN 10) (wTup (Zam (wUn (oIxN 1) (wVar 9)) (Zam (wUn (oIxN 2) (wVar 9)) aNil))))
 (wSeq (wAsg (gN 11) (Zbt Zdv (Zam (wVar 9) (Zam (wVar 1) (Zam (wVar 4) aNil)))))
 (wSeq (wApp 8 (wTup (Zam (wUn (oIxN 1) (wVar 9)) (Zam (wUn (oIxN 2) (wVar 9)) (Zam (wGet (wVar 3) (wVar 10)) (Zam (wVar 11) aNil))))))
 (wSeq (wSet 3 (wVar 10) (wVar 11))
 (wSeq (wIf (wOp (oEq false) (wUn (oIxN 0) (wVar 11)) (wStr (PySem.Str.ofString "stands")))
 (wSeq (wAsg (gN 12) (wGet (wVar 4) (wUn (oIxN 1) (wVar 11))))
 (wSeq (wSet 4 (wUn (oIxN 1) (wVar 11)) (wVar 9))
 (wSeq (wAsg (gN 9) (wVar 12))
 (wFgt 12 Zbk))))
 (wSeq (wAsg (gN 9) wNon)
 (wFgt 12 Zbk)))
 (wFgt 10 (wFgt 11 (wFgt 12 Zbk)))))))))
 (wFrz 8 (wRet (wTup (Zam (Zbt Zf7 (Zam (wOp oCat (wVar 0) (wLst (Zam (wVar 2) aNil))) (Zam (wVar 3) aNil))) (Zam (wVar 8) aNil))))))))))))
theorem Ztu : Zbl Znb := (Zag (Zaq Za1 (Zbb Zmm (Zaa (Zbb Zv4 (Zaa (Zab 0) (Zaa (Zab 1) Zan))) Zan))) (Zag (m_if (Zak (Zcr (Zaa (Zai (Zab 2) Zah) (Zaa (Zai (Zab 2) Zah) Zan))) (Zab 3) Ze6) Zyi Za5) (Zag (Zaq Za1 Z1f) (Zag (Zj9 Za1 (Zhk (Zab 0)) (Zag (Zaq Zq7 (Zak (Zab 3) (Zcr (Zaa (Zai (Zab 5) Zah) (Zaa (Zai (Zab 5) Zah) Zan))) Zbp)) (Zag (m_if (Zak (Zab 6) Zfn Zbm) (Zag (Zr0 (Zab 7) (Zab 5)) Za5) Za5) (Zbu (Zbu (Zbu Za5)))))) (Zag (Zaq Za1 (Zde Zan)) (Zag (Zaq Za1 (Zab 2)) (Zag (Zoo (Zai (Zab 9) Zeg) (Zag (Zaq Za1 (Zcr (Zaa (Zai (Zab 9) Zah) (Zaa (Zai (Zab 9) Zah) Zan)))) (Zag (Zaq Za1 (Zbb Znp (Zaa (Zab 9) (Zaa (Zab 1) (Zaa (Zab 4) Zan))))) (Zag (Zov (Zcr (Zaa (Zai (Zab 9) Zah) (Zaa (Zai (Zab 9) Zah) (Zaa (Z3i (Zab 3) (Zab 10)) (Zaa (Zab 11) Zan)))))) (Zag (Zr0 (Zab 10) (Zab 11)) (Zag (m_if (Zak (Zai (Zab 11) Zah) Zfn Zbm) (Zag (Zaq Za1 (Z3i (Zab 4) (Zai (Zab 11) Zah))) (Zag (Zr0 (Zai (Zab 11) Zah) (Zab 9)) (Zag (Zaq Za1 (Zab 12)) (Zbu Za5)))) (Zag (Zaq Za1 Zw7) (Zbu Za5))) (Zbu (Zbu (Zbu Za5))))))))) (Z41 (Zb3 (Zcr (Zaa (Zbb Zqh (Zaa (Zak (Zab 0) (Zde (Zaa (Zab 2) Zan)) Zgc) (Zaa (Zab 3) Zan))) (Zaa (Zab 8) Zan))))))))))))
@[irreducible] def Zjx : G := gOf 13 Znb
theorem Zpb : Zjx = gOf 13 Znb := by with_unfolding_all rfl
theorem Zt1 : Zc1 Zjx := Zpb ▸ Zbg Ztu
noncomputable def Zeq (s2 : (Dct Int ENq)) (one : ENq) (t3 : (T2 Tx Int)) : P ((Dct Int ENq)) :=
  (cond (decide (t3.x1 = (tx "stands"))) (bd (ofO (Dct.putO s2 t3.x2 one)) fun (holders' : (Dct Int ENq)) =>
  (.ok holders')) (.ok s2))
noncomputable def Zgd (places : (Dct (T2 Int Int) (T2 Tx Int))) (s2 : (Dct Int ENq)) (one : ENq) : P ((Dct Int ENq)) :=
  (bd (ofO (places.get (T2.mk one.x2 one.x3))) fun (t3 : (T2 Tx Int)) =>
  (bd (Zeq s2 one t3) fun (holders'' : (Dct Int ENq)) =>
  (.ok holders'')))
noncomputable def Zet (s5 : (Dct (T2 Int Int) (T2 Tx Int)) × (Dct Int ENq) × (List TNq) × (Option ENq)) (place : (T2 Tx Int)) : P ((Dct Int ENq) × (Option ENq)) :=
  (cond (decide (place.x1 = (tx "stands"))) (bd (ofO s5.2.2.2) fun t11 => (bd (ofO (Dct.putO s5.2.1 place.x2 t11)) fun (holders''' : (Dct Int ENq)) =>
  (.ok (holders''', (s5.2.1.get place.x2))))) (.ok (s5.2.1, none)))
noncomputable def Zpl (s5 : (Dct (T2 Int Int) (T2 Tx Int)) × (Dct Int ENq) × (List TNq) × (Option ENq)) : P Bool :=
  (.ok s5.2.2.2.isSome)
noncomputable def Zgp (shut : (Dct Int Int)) (s5 : (Dct (T2 Int Int) (T2 Tx Int)) × (Dct Int ENq) × (List TNq) × (Option ENq)) : P ((Dct (T2 Int Int) (T2 Tx Int)) × (Dct Int ENq) × (List TNq) × (Option ENq)) :=
  (bd (bd (ofO (s5.2.2.2.map fun a => a.x2)) fun t6 => bd (ofO (s5.2.2.2.map fun a => a.x3)) fun t7 => .ok (T2.mk t6 t7)) fun (name : (T2 Int Int)) =>
  (bd (bd (ofO s5.2.2.2) fun t8 => Zdm t8 shut s5.2.1) fun (place : (T2 Tx Int)) =>
  (bd (bd (ofO (s5.2.2.2.map fun a => a.x2)) fun t9 => bd (ofO (s5.2.2.2.map fun a => a.x3)) fun t10 => .ok (T4.mk t9 t10 (s5.1.get name) (some place))) fun t13 => (bd (ofO (appO s5.2.2.1 t13)) fun (turns' : (List TNq)) =>
  (bd (ofO (Dct.putO s5.1 name place)) fun (places' : (Dct (T2 Int Int) (T2 Tx Int))) =>
  (bd (Zet s5 place) fun (s12 : (Dct Int ENq) × (Option ENq)) =>
  (.ok (places', s12.1, turns', s12.2))))))))
noncomputable def Zh1 (entries : (List ENq)) (shut : (Dct Int Int)) (entry : ENq) : P (T2 (List RWq) (List TNq)) :=
  (bd (bd (Zxb entries shut) fun t1 => Zew t1) fun (places : (Dct (T2 Int Int) (T2 Tx Int))) =>
  (cond (places.has (T2.mk entry.x2 entry.x3))
  (raise "Taken")
  (Ze1 (Dct.emp : (Dct Int ENq)) fun (holders : (Dct Int ENq)) =>
  (bd (Zdk (Zgd places) entries holders) fun (s4 : (Dct Int ENq)) =>
  (Ze1 ([] : List TNq) fun (turns : (List TNq)) =>
  (bd (whN' Zpl (Zgp shut) (places, s4, turns, (some entry))) fun (s14 : (Dct (T2 Int Int) (T2 Tx Int)) × (Dct Int ENq) × (List TNq) × (Option ENq)) =>
  (bd (bd (bd (ofO (if entries.length + ([entry]).length ≤ 16777216 then some (entries ++ ([entry])) else none)) fun t15 => Zff t15 s14.1) fun t16 => .ok (T2.mk t16 s14.2.2.1)) fun r17 => .ok r17)))))))
theorem Zke (entries : (List ENq)) (shut : (Dct Int Int)) (entry : ENq) : Sim Zjx [.sh ((encL eEq) entries), .sh ((encK kI D.int) shut), .sh (eEq entry)] (shE (enc2 (encL eRq) (encL eTq))) (Zh1 entries shut entry) :=
 Zb9 Zpb (env := ([.sh ((encL eEq) entries), .sh ((encK kI D.int) shut), .sh (eEq entry), .un, .un, .un, .un, .un, .un, .un, .un, .un, .un] : En)) rfl (fun _ => Zat) (by
  unfold Zh1 Znb
  exact (Zci (f := (owE (encT kII (enc2 encS D.int)))) (fun places => ([.sh ((encL eEq) entries), .sh ((encK kI D.int) shut), .sh (eEq entry), .ow ((encT kII (enc2 encS D.int)) places), .un, .un, .un, .un, .un, .un, .un, .un, .un] : En)) (Zcg (fun _ => Zba) (Zdu (Za7 (Zae (Zaf (i := 0) rfl) (Zae (Zaf (i := 1) rfl) Zao)) (Zpy entries shut) (fun _ => Zba)) fun t1 => (Zbv (Zjn t1)))) (fun _ => Zba) (Nat.le_of_ble_eq_true rfl) (fun _ => rfl) fun places =>
 (b_if (Za4 (Zb7 (Zae (Zau (Zaf (i := 2) rfl) (Za0 rfl rfl)) (Zae (Zau (Zaf (i := 2) rfl) (Za0 rfl rfl)) Zao)) rfl (Nat.le_of_ble_eq_true rfl)) (Zbr (i := 3) rfl) (Z0y (m := places) (i := (T2.mk entry.x2 entry.x3)) rfl))
 Zvs
 (Zca (Zl2 (owE (encK kI eEq)) (fun holders => ([.sh ((encL eEq) entries), .sh ((encK kI D.int) shut), .sh (eEq entry), .ow ((encT kII (enc2 encS D.int)) places), .ow ((encK kI eEq) holders), .un, .un, .un, .un, .un, .un, .un, .un] : En)) (Zvf kI eEq) (fun _ => Zba) (Nat.le_of_ble_eq_true rfl) (fun _ => rfl) fun holders =>
 (Zp7 (f := eEq) (xs := entries) (s0 := holders) (fun (s2 : (Dct Int ENq)) => ([.sh ((encL eEq) entries), .sh ((encK kI D.int) shut), .sh (eEq entry), .ow ((encT kII (enc2 encS D.int)) places), .ow ((encK kI eEq) s2), .un, .un, .un, .un, .un, .un, .un, .un] : En)) (Zpa (Zaf (i := 0) rfl)) rfl
 (fun s2 one => (Zdz (e := ([.sh ((encL eEq) entries), .sh ((encK kI D.int) shut), .sh (eEq entry), .ow ((encT kII (enc2 encS D.int)) places), .ow ((encK kI eEq) s2), .sh (eEq one), .un, .un, .un, .un, .un, .un, .un] : En)) Zat (Nat.le_of_ble_eq_true rfl) rfl (Zo6 (fun t3 => ([.sh ((encL eEq) entries), .sh ((encK kI D.int) shut), .sh (eEq entry), .ow ((encT kII (enc2 encS D.int)) places), .ow ((encK kI eEq) s2), .sh (eEq one), .sh (encS t3.x1), .sh (D.int t3.x2), .un, .un, .un, .un, .un] : En)) (Zcq (Zbr (i := 3) rfl) (Zb7 (Zae (Zau (Zaf (i := 5) rfl) (Za0 rfl rfl)) (Zae (Zau (Zaf (i := 5) rfl) (Za0 rfl rfl)) Zao)) rfl (Nat.le_of_ble_eq_true rfl)) (Zk3 (m := places) (i := (T2.mk one.x2 one.x3)) rfl)) (fun _ => rfl) (fun _ => rfl) fun t3 =>
 (Zxe (fun (holders'' : (Dct Int ENq)) => ([.sh ((encL eEq) entries), .sh ((encK kI D.int) shut), .sh (eEq entry), .ow ((encT kII (enc2 encS D.int)) places), .ow ((encK kI eEq) holders''), .sh (eEq one), .sh (encS t3.x1), .sh (D.int t3.x2), .un, .un, .un, .un, .un] : En)) (Za4 (Zaf (i := 6) rfl) Zb1 (op_eq (x := t3.x1) (y := (tx "stands")) eqe_str rfl rfl))
 (Ztf (c := (encK kI eEq) s2) rfl (Zaf (i := 5) rfl) rfl (Zaf (i := 7) rfl) (setK (g := kI) (hg := Zmk) (fun holders' => ([.sh ((encL eEq) entries), .sh ((encK kI D.int) shut), .sh (eEq entry), .ow ((encT kII (enc2 encS D.int)) places), .ow ((encK kI eEq) holders'), .sh (eEq one), .sh (encS t3.x1), .sh (D.int t3.x2), .un, .un, .un, .un, .un] : En)) rfl (fun _ => rfl) fun holders' =>
 (Zcv rfl)))
 (Zcv rfl)
 fun holders'' => (Zbc (env' := ([.sh ((encL eEq) entries), .sh ((encK kI D.int) shut), .sh (eEq entry), .ow ((encT kII (enc2 encS D.int)) places), .ow ((encK kI eEq) holders''), .un, .sh (encS t3.x1), .sh (D.int t3.x2), .un, .un, .un, .un, .un] : En)) rfl (Zbc (env' := ([.sh ((encL eEq) entries), .sh ((encK kI D.int) shut), .sh (eEq entry), .ow ((encT kII (enc2 encS D.int)) places), .ow ((encK kI eEq) holders''), .un, .un, .sh (D.int t3.x2), .un, .un, .un, .un, .un] : En)) rfl (Zbc (env' := ([.sh ((encL eEq) entries), .sh ((encK kI D.int) shut), .sh (eEq entry), .ow ((encT kII (enc2 encS D.int)) places), .ow ((encK kI eEq) holders''), .un, .un, .un, .un, .un, .un, .un, .un] : En)) rfl (Zcv rfl))))))))
 fun s4 => (Zl2 (owE (encL eTq)) (fun turns => ([.sh ((encL eEq) entries), .sh ((encK kI D.int) shut), .sh (eEq entry), .ow ((encT kII (enc2 encS D.int)) places), .ow ((encK kI eEq) s4), .un, .un, .un, .ow ((encL eTq) turns), .un, .un, .un, .un] : En)) (Zce Zao rfl (Nat.le_of_ble_eq_true rfl)) (fun _ => Zba) (Nat.le_of_ble_eq_true rfl) (fun _ => rfl) fun turns =>
 (Zfr (s := .sh ((encO eEq) (some entry))) (env' := ([.sh ((encL eEq) entries), .sh ((encK kI D.int) shut), .sh (eEq entry), .ow ((encT kII (enc2 encS D.int)) places), .ow ((encK kI eEq) s4), .un, .un, .un, .ow ((encL eTq) turns), .sh ((encO eEq) (some entry)), .un, .un, .un] : En)) (Zaf (i := 2) rfl) Zat (Nat.le_of_ble_eq_true rfl) rfl (Z07 (s0 := (places, s4, turns, (some entry))) (fun (s5 : (Dct (T2 Int Int) (T2 Tx Int)) × (Dct Int ENq) × (List TNq) × (Option ENq)) => ([.sh ((encL eEq) entries), .sh ((encK kI D.int) shut), .sh (eEq entry), .ow ((encT kII (enc2 encS D.int)) s5.1), .ow ((encK kI eEq) s5.2.1), .un, .un, .un, .ow ((encL eTq) s5.2.2.1), .sh ((encO eEq) s5.2.2.2), .un, .un, .un] : En)) rfl (fun s5 => (EvP.m (f := blE) (Zau (Zaf (i := 9) rfl) (Zrm (o := s5.2.2.2) rfl (fun _ => rfl))))) (fun s5 => (Zci (f := (shE (enc2 D.int D.int))) (fun name => ([.sh ((encL eEq) entries), .sh ((encK kI D.int) shut), .sh (eEq entry), .ow ((encT kII (enc2 encS D.int)) s5.1), .ow ((encK kI eEq) s5.2.1), .un, .un, .un, .ow ((encL eTq) s5.2.2.1), .sh ((encO eEq) s5.2.2.2), .sh ((enc2 D.int D.int) name), .un, .un] : En)) (Zga (f := shE (enc2 D.int D.int)) (Zdu (Zei (Zaf (i := 9) rfl) (Zif (o := s5.2.2.2) rfl (fun _ => rfl) (fun _ => rfl))) fun t6 => (Zdu (Zei (Zaf (i := 9) rfl) (Zif (o := s5.2.2.2) rfl (fun _ => rfl) (fun _ => rfl))) fun t7 => (Zbv ⟨(T2.mk t6 t7), _, rfl, Nat.le_of_ble_eq_true rfl, rfl, rfl⟩)))) (fun _ => Zat) (Nat.le_of_ble_eq_true rfl) (fun _ => rfl) fun name =>
 (Zci (f := (shE (enc2 encS D.int))) (fun place => ([.sh ((encL eEq) entries), .sh ((encK kI D.int) shut), .sh (eEq entry), .ow ((encT kII (enc2 encS D.int)) s5.1), .ow ((encK kI eEq) s5.2.1), .un, .un, .un, .ow ((encL eTq) s5.2.2.1), .sh ((encO eEq) s5.2.2.2), .sh ((enc2 D.int D.int) name), .sh ((enc2 encS D.int) place), .un] : En)) (Zcg (fun _ => Zat) (Zdu (Zer (Zaf (i := 9) rfl)) fun t8 => (Zdq (Zaf (i := 1) rfl) (Zdq (Zbr (i := 4) rfl) (Zbv (Zj7 t8 shut s5.2.1)))))) (fun _ => Zat) (Nat.le_of_ble_eq_true rfl) (fun _ => rfl) fun place =>
 (Zs2 (f := eTq) (xs := s5.2.2.1) (fun turns' => ([.sh ((encL eEq) entries), .sh ((encK kI D.int) shut), .sh (eEq entry), .ow ((encT kII (enc2 encS D.int)) s5.1), .ow ((encK kI eEq) s5.2.1), .un, .un, .un, .ow ((encL eTq) turns'), .sh ((encO eEq) s5.2.2.2), .sh ((enc2 D.int D.int) name), .sh ((enc2 encS D.int) place), .un] : En)) rfl (Zga (f := shE eTq) (Zdu (Zei (Zaf (i := 9) rfl) (Zif (o := s5.2.2.2) rfl (fun _ => rfl) (fun _ => rfl))) fun t9 => (Zdu (Zei (Zaf (i := 9) rfl) (Zif (o := s5.2.2.2) rfl (fun _ => rfl) (fun _ => rfl))) fun t10 => (Zdq (Zx0 (m := s5.1) (i := name) (Zbr (i := 3) rfl) (Zaf (i := 10) rfl) rfl) (Zdq (Zaf (i := 11) rfl) (Zbv ⟨(T4.mk t9 t10 (s5.1.get name) (some place)), _, rfl, Nat.le_of_ble_eq_true rfl, rfl, rfl⟩)))))) (fun _ => rfl) (fun _ => rfl) fun turns' =>
 (Ztf (c := (encT kII (enc2 encS D.int)) s5.1) rfl (Zaf (i := 11) rfl) rfl (Zaf (i := 10) rfl) (setT (g := kII) (hg := Zku) (fun places' => ([.sh ((encL eEq) entries), .sh ((encK kI D.int) shut), .sh (eEq entry), .ow ((encT kII (enc2 encS D.int)) places'), .ow ((encK kI eEq) s5.2.1), .un, .un, .un, .ow ((encL eTq) turns'), .sh ((encO eEq) s5.2.2.2), .sh ((enc2 D.int D.int) name), .sh ((enc2 encS D.int) place), .un] : En)) rfl (fun _ => rfl) fun places' =>
 (Zxe (fun (s12 : (Dct Int ENq) × (Option ENq)) => ([.sh ((encL eEq) entries), .sh ((encK kI D.int) shut), .sh (eEq entry), .ow ((encT kII (enc2 encS D.int)) places'), .ow ((encK kI eEq) s12.1), .un, .un, .un, .ow ((encL eTq) turns'), .sh ((encO eEq) s12.2), .sh ((enc2 D.int D.int) name), .sh ((enc2 encS D.int) place), .un] : En)) (Za4 (Zau (Zaf (i := 11) rfl) (Za0 rfl rfl)) Zb1 (op_eq (x := place.x1) (y := (tx "stands")) eqe_str rfl rfl))
 (Zfr (s := .sh ((encO eEq) (s5.2.1.get place.x2))) (env' := ([.sh ((encL eEq) entries), .sh ((encK kI D.int) shut), .sh (eEq entry), .ow ((encT kII (enc2 encS D.int)) places'), .ow ((encK kI eEq) s5.2.1), .un, .un, .un, .ow ((encL eTq) turns'), .sh ((encO eEq) s5.2.2.2), .sh ((enc2 D.int D.int) name), .sh ((enc2 encS D.int) place), .sh ((encO eEq) (s5.2.1.get place.x2))] : En)) (Z1q (m := s5.2.1) (i := place.x2) (Zbr (i := 4) rfl) (Zau (Zaf (i := 11) rfl) (Za0 rfl rfl)) rfl) Zat (Nat.le_of_ble_eq_true rfl) rfl (Zxz (c := (encK kI eEq) s5.2.1) (f := eEq) rfl (Zer (Zaf (i := 9) rfl)) (fun _ => rfl) (Zau (Zaf (i := 11) rfl) (Za0 rfl rfl)) fun t11 => (setK (g := kI) (hg := Zmk) (fun holders''' => ([.sh ((encL eEq) entries), .sh ((encK kI D.int) shut), .sh (eEq entry), .ow ((encT kII (enc2 encS D.int)) places'), .ow ((encK kI eEq) holders'''), .un, .un, .un, .ow ((encL eTq) turns'), .sh ((encO eEq) s5.2.2.2), .sh ((enc2 D.int D.int) name), .sh ((enc2 encS D.int) place), .sh ((encO eEq) (s5.2.1.get place.x2))] : En)) rfl (fun _ => rfl) fun holders''' =>
 (Zfr (s := .sh ((encO eEq) (s5.2.1.get place.x2))) (env' := ([.sh ((encL eEq) entries), .sh ((encK kI D.int) shut), .sh (eEq entry), .ow ((encT kII (enc2 encS D.int)) places'), .ow ((encK kI eEq) holders'''), .un, .un, .un, .ow ((encL eTq) turns'), .sh ((encO eEq) (s5.2.1.get place.x2)), .sh ((enc2 D.int D.int) name), .sh ((enc2 encS D.int) place), .sh ((encO eEq) (s5.2.1.get place.x2))] : En)) (Zaf (i := 12) rfl) Zat (Nat.le_of_ble_eq_true rfl) rfl (Zbc (env' := ([.sh ((encL eEq) entries), .sh ((encK kI D.int) shut), .sh (eEq entry), .ow ((encT kII (enc2 encS D.int)) places'), .ow ((encK kI eEq) holders'''), .un, .un, .un, .ow ((encL eTq) turns'), .sh ((encO eEq) (s5.2.1.get place.x2)), .sh ((enc2 D.int D.int) name), .sh ((enc2 encS D.int) place), .un] : En)) rfl (Zcv rfl))))))
 (Zfr (s := .sh ((encO eEq) none)) (env' := ([.sh ((encL eEq) entries), .sh ((encK kI D.int) shut), .sh (eEq entry), .ow ((encT kII (enc2 encS D.int)) places'), .ow ((encK kI eEq) s5.2.1), .un, .un, .un, .ow ((encL eTq) turns'), .sh ((encO eEq) none), .sh ((enc2 D.int D.int) name), .sh ((enc2 encS D.int) place), .un] : En)) Zmg Zat (Nat.le_of_ble_eq_true rfl) rfl (Zbc (env' := ([.sh ((encL eEq) entries), .sh ((encK kI D.int) shut), .sh (eEq entry), .ow ((encT kII (enc2 encS D.int)) places'), .ow ((encK kI eEq) s5.2.1), .un, .un, .un, .ow ((encL eTq) turns'), .sh ((encO eEq) none), .sh ((enc2 D.int D.int) name), .sh ((enc2 encS D.int) place), .un] : En)) rfl (Zcv rfl)))
 fun s12 => (Zbc (env' := ([.sh ((encL eEq) entries), .sh ((encK kI D.int) shut), .sh (eEq entry), .ow ((encT kII (enc2 encS D.int)) places'), .ow ((encK kI eEq) s12.1), .un, .un, .un, .ow ((encL eTq) turns'), .sh ((encO eEq) s12.2), .un, .sh ((enc2 encS D.int) place), .un] : En)) rfl (Zbc (env' := ([.sh ((encL eEq) entries), .sh ((encK kI D.int) shut), .sh (eEq entry), .ow ((encT kII (enc2 encS D.int)) places'), .ow ((encK kI eEq) s12.1), .un, .un, .un, .ow ((encL eTq) turns'), .sh ((encO eEq) s12.2), .un, .un, .un] : En)) rfl (Zbc (env' := ([.sh ((encL eEq) entries), .sh ((encK kI D.int) shut), .sh (eEq entry), .ow ((encT kII (enc2 encS D.int)) places'), .ow ((encK kI eEq) s12.1), .un, .un, .un, .ow ((encL eTq) turns'), .sh ((encO eEq) s12.2), .un, .un, .un] : En)) rfl (Zcv rfl))))))))))) fun s14 => (Z2c (env' := ([.sh ((encL eEq) entries), .sh ((encK kI D.int) shut), .sh (eEq entry), .ow ((encT kII (enc2 encS D.int)) s14.1), .ow ((encK kI eEq) s14.2.1), .un, .un, .un, .sh ((encL eTq) s14.2.2.1), .sh ((encO eEq) s14.2.2.2), .un, .un, .un] : En)) rfl rfl (Ziv (f := (shE (enc2 (encL eRq) (encL eTq)))) (t := fun r17 => r17) (Zga (f := shE (enc2 (encL eRq) (encL eTq))) (Zdu (Zcg (fun _ => Zba) (Zdu (Zcq (Zaf (i := 0) rfl) (Zce (Zae (Zaf (i := 2) rfl) Zao) rfl (Nat.le_of_ble_eq_true rfl)) (Zye (xs := entries) (ys := ([entry])) rfl rfl)) fun t15 => (Zdq (Zbr (i := 3) rfl) (Zbv (Zpn t15 s14.1))))) fun t16 => (Zdq (Zaf (i := 8) rfl) (Zbv ⟨(T2.mk t16 s14.2.2.1), _, rfl, Nat.le_of_ble_eq_true rfl, rfl, rfl⟩)))) fun _ => rfl)))))))))))
theorem Zll (law_found : (List RWq)) : Sim Zdr [.sh ((encL eRq) law_found)] blE (Zdi law_found) :=
 Zb9 Zf6 (env := ([.sh ((encL eRq) law_found), .un] : En)) rfl (fun _ => Zat) (by
  unfold Zdi Ze9
  exact (b_if (Zjf (Zau (Zaf (i := 0) rfl) (Zkb (b := true) rfl rfl)))
 (Zco Zcz rfl)
 (Zca (Zqb (f := eRq) (xs := law_found) (s0 := ()) (fun (s1 : Unit) => ([.sh ((encL eRq) law_found), .un] : En)) blE (Zpa (Zaf (i := 0) rfl)) rfl
 (fun s1 law_row => (Zdz (e := ([.sh ((encL eRq) law_found), .sh (eRq law_row)] : En)) Zat (Nat.le_of_ble_eq_true rfl) rfl (b_if (Zv6 (Zjf (Zau (Zaf (i := 1) rfl) (Zkb (b := true) rfl rfl))) (Za4 (Zau (Zaf (i := 1) rfl) (Zlr (n := 4) rfl rfl)) Zap (op_ne (x := (4 : Int)) (y := (4 : Int)) eqe_int rfl rfl)))
 (Zco Zcz rfl)
 (Zca (Zl1 (Zsa (Ze0 (Za7 (Zae (Zau (Zaf (i := 1) rfl) (Za0 rfl rfl)) Zao) (Zcn law_row.x1) (fun _ => Zat))) (Ze0 (Za7 (Zae (Zau (Zaf (i := 1) rfl) (Za0 rfl rfl)) Zao) (Zcn law_row.x2) (fun _ => Zat))))
 (Zco Zcz rfl)
 (Zca (Zl1 (Zzb (Zjf (Zau (Zau (Zaf (i := 1) rfl) (Za0 rfl rfl)) (Zkb (b := true) rfl rfl))) (Ze0 (Za7 (Zae (Zau (Zaf (i := 1) rfl) (Za0 rfl rfl)) Zao) (Zcn law_row.x4) (fun _ => Zat))))
 (Zco Zcz rfl)
 (Zca (Zbc (env' := ([.sh ((encL eRq) law_found), .un] : En)) rfl (Zcv rfl))))))))))
 (fun _ => ⟨_, rfl, rfl⟩)
 fun s2 => (Zmd Zcz rfl)))))
def Ze7 : WS :=
 (wSeq (wIf (wOr (wNot (wUn (oIsi "tuple") (wVar 0))) (wOp (oEq true) (wUn oLen (wVar 0)) (wInt 2)))
 (wRet (wBl false))
 Zbk)
 (wRet (wAnd (wUn (oIsi "str") (wUn (oIxN 0) (wVar 0))) (Zbt Zck (Zam (wUn (oIxN 1) (wVar 0)) aNil)))))
theorem Zi4 : Zbl Ze7 := (Zag (m_if (Zfo (Zbs (Zai (Zab 0) Zdl)) (Zak (Zai (Zab 0) Zfd) Zav Zbm)) (Zb3 m_bl) Za5) (Zb3 (Ze8 (Zai (Zai (Zab 0) Zah) Zdl) (Zbb Zd4 (Zaa (Zai (Zab 0) Zah) Zan)))))
@[irreducible] def Zds : G := gOf 1 Ze7
theorem Zgo : Zds = gOf 1 Ze7 := by with_unfolding_all rfl
theorem Zo3 : Zc1 Zds := Zgo ▸ Zbg Zi4
noncomputable def Zdp (law_place : (T2 Tx Int)) : P Bool :=
  (cond ((!true) || (!decide ((2 : Int) = (2 : Int))))
  (.ok false)
  (bd (cond true (Zcm law_place.x2) (.ok false)) fun r1 => .ok r1))
theorem Zlg (law_place : (T2 Tx Int)) : Sim Zds [.sh ((enc2 encS D.int) law_place)] blE (Zdp law_place) :=
 Zb9 Zgo (env := ([.sh ((enc2 encS D.int) law_place)] : En)) rfl (fun _ => Zat) (by
  unfold Zdp Ze7
  exact (b_if (Zv6 (Zjf (Zau (Zaf (i := 0) rfl) (Zkb (b := true) rfl rfl))) (Za4 (Zau (Zaf (i := 0) rfl) (Zlr (n := 2) rfl rfl)) Zap (op_ne (x := (2 : Int)) (y := (2 : Int)) eqe_int rfl rfl)))
 (Zco Zcz rfl)
 (Zca (Ziv (f := blE) (t := fun r1 => r1) (Zq9 (Zau (Zau (Zaf (i := 0) rfl) (Za0 rfl rfl)) (Zkb (b := true) rfl rfl)) (Za7 (Zae (Zau (Zaf (i := 0) rfl) (Za0 rfl rfl)) Zao) (Zcn law_place.x2) (fun _ => Zat))) fun _ => rfl))))
def Zen : WS :=
 (wSeq (wIf (wNot (wUn (oIsi "list") (wVar 0)))
 (wRet (wBl false))
 Zbk)
 (wSeq (wFor (gN 1) (Zhv (wVar 0))
 (wSeq (wIf (wOr (wNot (wUn (oIsi "tuple") (wVar 1))) (wOp (oEq true) (wUn oLen (wVar 1)) (wInt 4)))
 (wRet (wBl false))
 Zbk)
 (wSeq (wIf (wOr (wNot (Zbt Zck (Zam (wUn (oIxN 0) (wVar 1)) aNil))) (wNot (Zbt Zck (Zam (wUn (oIxN 1) (wVar 1)) aNil))))
 (wRet (wBl false))
 Zbk)
 (wSeq (wFor (gN 2) (Zhv (wTup (Zam (wUn (oIxN 2) (wVar 1)) (Zam (wUn (oIxN 3) (wVar 1)) aNil))))
 (wSeq (wIf (wAnd (wUn (oIsN true) (wVar 2)) (wNot (Zbt Zds (Zam (wVar 2) aNil))))
 (wRet (wBl false))
 Zbk)
 (wFgt 2 Zbk)))
 (wFgt 1 (wFgt 2 Zbk))))))
 (wRet (wBl true))))
theorem Zil : Zbl Zen := (Zag (m_if (Zbs (Zai (Zab 0) Zdl)) (Zb3 m_bl) Za5) (Zag (Zj9 Za1 (Zhk (Zab 0)) (Zag (m_if (Zfo (Zbs (Zai (Zab 1) Zdl)) (Zak (Zai (Zab 1) Zfd) Zav Zbm)) (Zb3 m_bl) Za5) (Zag (m_if (Zfo (Zbs (Zbb Zd4 (Zaa (Zai (Zab 1) Zah) Zan))) (Zbs (Zbb Zd4 (Zaa (Zai (Zab 1) Zah) Zan)))) (Zb3 m_bl) Za5) (Zag (Zj9 Za1 (Zhk (Zcr (Zaa (Zai (Zab 1) Zah) (Zaa (Zai (Zab 1) Zah) Zan)))) (Zag (m_if (Ze8 (Zai (Zab 2) Zeg) (Zbs (Zbb Zo3 (Zaa (Zab 2) Zan)))) (Zb3 m_bl) Za5) (Zbu Za5))) (Zbu (Zbu Za5)))))) (Zb3 m_bl)))
@[irreducible] def Zc7 : G := gOf 3 Zen
theorem Zfi : Zc7 = gOf 3 Zen := by with_unfolding_all rfl
theorem Zm0 : Zc1 Zc7 := Zfi ▸ Zbg Zil
noncomputable def Zgw (law_place : (Option (T2 Tx Int))) : P Bool :=
  (cond law_place.isSome (bd (bd (ofO law_place) fun t3 => Zdp t3) fun b => .ok (!b)) (.ok false))
noncomputable def Zd6 (s2 : Unit) (law_place : (Option (T2 Tx Int))) : P (Out (Unit) Bool) :=
  (bd (Zgw law_place) fun c => cond c
  (.ok (Out.ret false))
  (.ok (.nx ())))
noncomputable def Zgu (law_turn : TNq) : P Bool :=
  (bd (bd (Zcm law_turn.x1) fun b => .ok (!b)) fun c => cond c (.ok true) (bd (Zcm law_turn.x2) fun b => .ok (!b)))
noncomputable def Zd7 (s1 : Unit) (law_turn : TNq) : P (Out (Unit) Bool) :=
  (cond ((!true) || (!decide ((4 : Int) = (4 : Int))))
  (.ok (Out.ret false))
  (bd (Zgu law_turn) fun c => cond c
  (.ok (Out.ret false))
  (aft (Zft (ρ := Bool) Zd6 ([law_turn.x3, law_turn.x4]) ()) (fun (r5 : Bool) => .ok (Out.ret r5)) fun (s4 : Unit) =>
  (.ok (.nx ())))))
noncomputable def Zc2 (law_found : (List TNq)) : P Bool :=
  (cond (!true)
  (.ok false)
  (aft (Zft (ρ := Bool) Zd7 law_found ()) (fun (r7 : Bool) => .ok r7) fun (s6 : Unit) =>
  (.ok true)))
theorem Zkx (law_found : (List TNq)) : Sim Zc7 [.sh ((encL eTq) law_found)] blE (Zc2 law_found) :=
 Zb9 Zfi (env := ([.sh ((encL eTq) law_found), .un, .un] : En)) rfl (fun _ => Zat) (by
  unfold Zc2 Zen
  exact (b_if (Zjf (Zau (Zaf (i := 0) rfl) (Zkb (b := true) rfl rfl)))
 (Zco Zcz rfl)
 (Zca (Zqb (f := eTq) (xs := law_found) (s0 := ()) (fun (s1 : Unit) => ([.sh ((encL eTq) law_found), .un, .un] : En)) blE (Zpa (Zaf (i := 0) rfl)) rfl
 (fun s1 law_turn => (Zdz (e := ([.sh ((encL eTq) law_found), .sh (eTq law_turn), .un] : En)) Zat (Nat.le_of_ble_eq_true rfl) rfl (b_if (Zv6 (Zjf (Zau (Zaf (i := 1) rfl) (Zkb (b := true) rfl rfl))) (Za4 (Zau (Zaf (i := 1) rfl) (Zlr (n := 4) rfl rfl)) Zap (op_ne (x := (4 : Int)) (y := (4 : Int)) eqe_int rfl rfl)))
 (Zco Zcz rfl)
 (Zca (Zl1 (Zsa (Ze0 (Za7 (Zae (Zau (Zaf (i := 1) rfl) (Za0 rfl rfl)) Zao) (Zcn law_turn.x1) (fun _ => Zat))) (Ze0 (Za7 (Zae (Zau (Zaf (i := 1) rfl) (Za0 rfl rfl)) Zao) (Zcn law_turn.x2) (fun _ => Zat))))
 (Zco Zcz rfl)
 (Zca (Zqb (f := (encO (enc2 encS D.int))) (xs := [law_turn.x3, law_turn.x4]) (s0 := ()) (fun (s2 : Unit) => ([.sh ((encL eTq) law_found), .sh (eTq law_turn), .un] : En)) blE (Z3e (Zb7 (Zae (Zau (Zaf (i := 1) rfl) (Za0 rfl rfl)) (Zae (Zau (Zaf (i := 1) rfl) (Za0 rfl rfl)) Zao)) rfl (Nat.le_of_ble_eq_true rfl))) rfl
 (fun s2 law_place => (Zdz (e := ([.sh ((encL eTq) law_found), .sh (eTq law_turn), .sh ((encO (enc2 encS D.int)) law_place)] : En)) Zat (Nat.le_of_ble_eq_true rfl) rfl (Zl1 (Zq9 (Zau (Zaf (i := 2) rfl) (Zrm (o := law_place) rfl (fun _ => rfl))) (Ze0 (Zcg (fun _ => Zat) (Zdu (Zer (Zaf (i := 2) rfl)) fun t3 => (Zbv (Zlg t3))))))
 (Zco Zcz rfl)
 (Zca (Zbc (env' := ([.sh ((encL eTq) law_found), .sh (eTq law_turn), .un] : En)) rfl (Zcv rfl))))))
 (fun _ => ⟨_, rfl, rfl⟩)
 fun s4 => (Zbc (env' := ([.sh ((encL eTq) law_found), .un, .un] : En)) rfl (Zbc (env' := ([.sh ((encL eTq) law_found), .un, .un] : En)) rfl (Zcv rfl))))))))))
 (fun _ => ⟨_, rfl, rfl⟩)
 fun s6 => (Zmd Zcz rfl)))))
def Zfa : WS :=
 (wSeq (wIf (wOr (wNot (wUn (oIsi "tuple") (wVar 0))) (wOp (oEq true) (wUn oLen (wVar 0)) (wInt 2)))
 (wRet (wBl false))
 Zbk)
 (wRet (wAnd (Zbt Zdr (Zam (wUn (oIxN 0) (wVar 0)) aNil)) (Zbt Zc7 (Zam (wUn (oIxN 1) (wVar 0)) aNil)))))
theorem Zjl : Zbl Zfa := (Zag (m_if (Zfo (Zbs (Zai (Zab 0) Zdl)) (Zak (Zai (Zab 0) Zfd) Zav Zbm)) (Zb3 m_bl) Za5) (Zb3 (Ze8 (Zbb Zo5 (Zaa (Zai (Zab 0) Zah) Zan)) (Zbb Zm0 (Zaa (Zai (Zab 0) Zah) Zan)))))
@[irreducible] def Zcl : G := gOf 1 Zfa
theorem Zgr : Zcl = gOf 1 Zfa := by with_unfolding_all rfl
theorem Zgb : Zc1 Zcl := Zgr ▸ Zbg Zjl
noncomputable def Zb8 (law_found : (T2 (List RWq) (List TNq))) : P Bool :=
  (cond ((!true) || (!decide ((2 : Int) = (2 : Int))))
  (.ok false)
  (bd (bd (Zdi law_found.x1) fun c => cond c (Zc2 law_found.x2) (.ok false)) fun r1 => .ok r1))
theorem Zek (law_found : (T2 (List RWq) (List TNq))) : Sim Zcl [.sh ((enc2 (encL eRq) (encL eTq)) law_found)] blE (Zb8 law_found) :=
 Zb9 Zgr (env := ([.sh ((enc2 (encL eRq) (encL eTq)) law_found)] : En)) rfl (fun _ => Zat) (by
  unfold Zb8 Zfa
  exact (b_if (Zv6 (Zjf (Zau (Zaf (i := 0) rfl) (Zkb (b := true) rfl rfl))) (Za4 (Zau (Zaf (i := 0) rfl) (Zlr (n := 2) rfl rfl)) Zap (op_ne (x := (2 : Int)) (y := (2 : Int)) eqe_int rfl rfl)))
 (Zco Zcz rfl)
 (Zca (Ziv (f := blE) (t := fun r1 => r1) (Zts (Za7 (Zae (Zau (Zaf (i := 0) rfl) (Za0 rfl rfl)) Zao) (Zll law_found.x1) (fun _ => Zat)) (Za7 (Zae (Zau (Zaf (i := 0) rfl) (Za0 rfl rfl)) Zao) (Zkx law_found.x2) (fun _ => Zat))) fun _ => rfl))))
def hi (a b : Ent) : Prop := a.x1 < b.x1 ∨ (a.x1 = b.x1 ∧ (a.x2 < b.x2 ∨ (a.x2 = b.x2 ∧ a.x3 < b.x3)))
instance (a b : Ent) : Decidable (hi a b) := by unfold hi; infer_instance
theorem Zg0 (a : Ent) : ¬ hi a a := by unfold hi; omega
theorem Z0k {a b c : Ent} (h : hi a b) (h' : hi b c) : hi a c := by unfold hi at *; omega
theorem Ztw {a b : Ent} (h : hi a b) : ¬ hi b a := by unfold hi at *; omega
theorem hi_tot {a b : Ent} (h : nm a ≠ nm b) : hi a b ∨ hi b a := by
  have : ¬ (a.x2 = b.x2 ∧ a.x3 = b.x3) := fun z => h (by unfold nm; rw [z.1, z.2])
  unfold hi
  omega
theorem Z5g (a b : Ent) : ltK (key3 a) (key3 b) = decide (hi a b) := by
  unfold key3 hi
  simp only [ltK, ltK1, Sum.inl.injEq]
  by_cases h1 : a.x1 = b.x1
  · rw [if_pos h1]
    by_cases h2 : a.x2 = b.x2
    · rw [if_pos h2]
      by_cases h3 : a.x3 = b.x3
      · rw [if_pos h3]; exact (decide_eq_false (by omega)).symm
      · rw [if_neg h3]; exact decide_eq_decide.mpr (by omega)
    · rw [if_neg h2]; exact decide_eq_decide.mpr (by omega)
  · rw [if_neg h1]; exact decide_eq_decide.mpr (by omega)
theorem Zvm {A : List Ent} (h : (A.map nm).Nodup) : (ord A).Pairwise hi := by
  have h1 := Zp3 A
  have h2 : ((ord A).map nm).Nodup := Zi2 (Zbn A) h
  have h3 : (ord A).Pairwise fun a b => nm a ≠ nm b := List.pairwise_map.mp h2
  refine (h1.and h3).imp fun {a b} z => ?_
  rcases hi_tot z.2 with q | q
  · exact q
  · rw [Z5g, decide_eq_true q] at z
    cases z.1
abbrev Pl := Nm → T2 Tx Int
theorem Z1n {sh sh' : Shut} {H H' : List Int} {e : Ent} (h : ∀ d, e.x5 ≤ d → d ≤ (plc sh H e).x2 → blk e.x1 sh' H' d = blk e.x1 sh H d) : plc sh' H' e = plc sh H e := by
  by_cases hm : e.x4 = tx "moves"
  · have e1 : plc sh H e = ⟨tx "stands", fday (blk e.x1 sh H) e.x5⟩ := by unfold plc; rw [if_pos hm]
    have e2 : plc sh' H' e = ⟨tx "stands", fday (blk e.x1 sh' H') e.x5⟩ := by unfold plc; rw [if_pos hm]
    rw [e1] at h
    have h1 := (Zmf (p := blk e.x1 sh H) (sh.keys ++ H) (fun d => Zl9) e.x5).1
    have h2 : IsFF (blk e.x1 sh' H') e.x5 (fday (blk e.x1 sh H) e.x5) := ⟨h1.1, by rw [h _ h1.1 (Int.le_refl _)]; exact h1.2.1, fun y y1 y2 => by rw [h y y1 (by dsimp only; omega)]; exact h1.2.2 y y1 y2⟩
    rw [e2, Zuf h2, e1]
  · have := h e.x5 (Int.le_refl _) (Z2p sh H e)
    unfold plc
    rw [if_neg hm, if_neg hm, this]
theorem Zjb {sh : Shut} {H H' : List Int} (e : Ent) (h : ∀ d, d ∈ H' ↔ d ∈ H) : plc sh H' e = plc sh H e := Z1n fun d _ _ => Zsr e.x1 rfl (h d)
theorem Z5t {sh : Shut} {H : List Int} {e : Ent} {d : Int} (hm : e.x4 = tx "moves" ∨ d = e.x5) (h : IsFF (blk e.x1 sh H) e.x5 d) : plc sh H e = ⟨tx "stands", d⟩ := by
  unfold plc
  by_cases hm' : e.x4 = tx "moves"
  · rw [if_pos hm', Zuf h]
  · rw [if_neg hm']
    rcases hm with z | z
    · exact (hm' z).elim
    · subst z
      rw [if_pos h.2.1]
theorem Zy8 {sh : Shut} {H : List Int} {e : Ent} {d : Int} (h : plc sh H e ≠ ⟨tx "stands", d⟩) : plc sh (d :: H) e = plc sh H e := by
  have keep : ∀ y, y ≠ d → blk e.x1 sh (d :: H) y = blk e.x1 sh H y := fun y hy => Zsr e.x1 rfl (by simp [hy])
  have more : ∀ y, blk e.x1 sh H y = true → blk e.x1 sh (d :: H) y = true := fun y hy => by
    rcases blk_true.mp hy with z | z
    · exact blk_true.mpr (.inl z)
    · exact blk_true.mpr (.inr (List.mem_cons_of_mem _ z))
  by_cases hs : (plc sh H e).x1 = tx "stands"
  · have hf := Zji hs
    have ne : (plc sh H e).x2 ≠ d := fun z => h (by
      cases q : plc sh H e
      rw [q] at hs z
      dsimp only at hs z
      rw [hs, z])
    have : plc sh (d :: H) e = ⟨tx "stands", (plc sh H e).x2⟩ := by
      refine Z5t ?_ ⟨hf.1, by rw [keep _ ne]; exact hf.2.1, fun y y1 y2 => more y (hf.2.2 y y1 y2)⟩
      by_cases hm : e.x4 = tx "moves"
      · exact .inl hm
      · exact .inr (Zrb hm)
    rw [this]
    cases q : plc sh H e
    rw [q] at hs
    dsimp only at hs ⊢
    rw [hs]
  · obtain ⟨h1, h2⟩ := Zu8 hs
    have h3 := more _ h2
    unfold plc
    rw [if_neg h1, if_neg h1, if_neg (show ¬ blk e.x1 sh (d :: H) e.x5 = false by rw [h3]; simp), if_neg (show ¬ blk e.x1 sh H e.x5 = false by rw [h2]; simp)]
noncomputable def hd (L : List Ent) (P : Pl) (e : Ent) : List Int := (L.filter fun g => decide (hi g e ∧ (P (nm g)).x1 = tx "stands")).map fun g => (P (nm g)).x2
theorem Zcs {L : List Ent} {P : Pl} {e : Ent} {d : Int} : d ∈ hd L P e ↔ ∃ g ∈ L, hi g e ∧ P (nm g) = ⟨tx "stands", d⟩ := by
  unfold hd
  constructor
  · intro h
    obtain ⟨g, hg, e1⟩ := List.mem_map.mp h
    obtain ⟨g1, g2⟩ := List.mem_filter.mp hg
    obtain ⟨g3, g4⟩ := of_decide_eq_true g2
    refine ⟨g, g1, g3, ?_⟩
    cases q : P (nm g)
    rw [q] at g4 e1
    dsimp only at g4 e1
    rw [g4, e1]
  · rintro ⟨g, g1, g2, g3⟩
    exact List.mem_map.mpr ⟨g, List.mem_filter.mpr ⟨g1, decide_eq_true ⟨g2, by rw [g3]⟩⟩, by rw [g3]⟩
def Good (sh : Shut) (L : List Ent) (P : Pl) : Prop := ∀ e ∈ L, P (nm e) = plc sh (hd L P e) e
theorem Good.apart {sh : Shut} {L : List Ent} {P : Pl} (h : Good sh L P) {a b : Ent} (ha : a ∈ L) (hb : b ∈ L) (n : nm a ≠ nm b) {d : Int} (h1 : P (nm a) = ⟨tx "stands", d⟩) (h2 : P (nm b) = ⟨tx "stands", d⟩) : False := by
  have key : ∀ {a b : Ent}, a ∈ L → b ∈ L → hi a b → P (nm a) = ⟨tx "stands", d⟩ → P (nm b) = ⟨tx "stands", d⟩ → False := fun {a b} ha hb hh h1 h2 => by
    have hp := h b hb
    rw [h2] at hp
    have hs : (plc sh (hd L P b) b).x1 = tx "stands" := by rw [← hp]
    have hf := (Zji hs).2.1
    have hx : (plc sh (hd L P b) b).x2 = d := by rw [← hp]
    rw [hx] at hf
    exact (Zlv.mp hf).2 (Zcs.mpr ⟨a, ha, hh, h1⟩)
  rcases hi_tot n with z | z
  · exact key ha hb z h1 h2
  · exact key hb ha z h2 h1
theorem Good.congr {sh : Shut} {L L' : List Ent} {P P' : Pl} (h : Good sh L P) (hm : ∀ e, e ∈ L' ↔ e ∈ L) (hp : ∀ e ∈ L, P' (nm e) = P (nm e)) : Good sh L' P' := fun e he => by
  have he' := (hm e).mp he
  rw [hp e he', h e he']
  refine (Zjb e fun d => ?_).symm
  rw [Zcs, Zcs]
  constructor
  · rintro ⟨g, g1, g2, g3⟩
    exact ⟨g, (hm g).mp g1, g2, by rw [← hp g ((hm g).mp g1)]; exact g3⟩
  · rintro ⟨g, g1, g2, g3⟩
    exact ⟨g, (hm g).mpr g1, g2, by rw [hp g g1]; exact g3⟩
theorem Zsm {sh : Shut} {L : List Ent} {P : Pl} (hs : L.Pairwise hi) (h : Good sh L P) : ∀ (rest pre : List Ent) (H : List Int), L = pre ++ rest → (∀ d, d ∈ H ↔ ∃ g ∈ pre, P (nm g) = ⟨tx "stands", d⟩) → layG sh rest H = rest.map fun e => Zin e (P (nm e))
  | [], _, _, _, _ => rfl
  | e :: rest, pre, H, hL, hH => by
    have he : e ∈ L := by rw [hL]; simp
    have hpre : ∀ g, (g ∈ L ∧ hi g e) ↔ g ∈ pre := fun g => by
      rw [hL] at hs ⊢
      obtain ⟨s1, s2, s3⟩ := List.pairwise_append.mp hs
      constructor
      · rintro ⟨g1, g2⟩
        rcases List.mem_append.mp g1 with z | z
        · exact z
        · rcases List.mem_cons.mp z with rfl | z
          · exact (Zg0 _ g2).elim
          · exact (Ztw ((List.pairwise_cons.mp s2).1 g z) g2).elim
      · exact fun z => ⟨List.mem_append_left _ z, s3 g z e List.mem_cons_self⟩
    have hp : plc sh H e = P (nm e) := by
      rw [h e he]
      refine Zjb e fun d => ?_
      rw [hH, Zcs]
      constructor
      · rintro ⟨g, g1, g2⟩
        exact ⟨g, ((hpre g).mpr g1).1, ((hpre g).mpr g1).2, g2⟩
      · rintro ⟨g, g1, g2, g3⟩
        exact ⟨g, (hpre g).mp ⟨g1, g2⟩, g3⟩
    rw [layG, List.map_cons, hp]
    congr 1
    refine Zsm hs h rest (pre ++ [e]) _ (by rw [hL, List.append_assoc]; rfl) fun d => ?_
    unfold heldBy
    split
    · rename_i hst
      rw [List.mem_cons, hH]
      constructor
      · rintro (z | ⟨g, g1, g2⟩)
        · refine ⟨e, by simp, ?_⟩
          cases q : P (nm e)
          rw [q] at hst z
          dsimp only at hst z
          rw [hst, z]
        · exact ⟨g, List.mem_append_left _ g1, g2⟩
      · rintro ⟨g, g1, g2⟩
        rcases List.mem_append.mp g1 with z | z
        · exact .inr ⟨g, z, g2⟩
        · rw [List.mem_singleton.mp z] at g2
          exact .inl (by rw [g2])
    · rename_i hst
      rw [hH]
      constructor
      · rintro ⟨g, g1, g2⟩
        exact ⟨g, List.mem_append_left _ g1, g2⟩
      · rintro ⟨g, g1, g2⟩
        rcases List.mem_append.mp g1 with z | z
        · exact ⟨g, z, g2⟩
        · rw [List.mem_singleton.mp z] at g2
          exact (hst (by rw [g2])).elim
theorem Zrn {sh : Shut} {A : List Ent} {P : Pl} (hu : (A.map nm).Nodup) (h : Good sh A P) : LAY A sh = (ord A).map fun e => Zin e (P (nm e)) :=
  Zsm (Zvm hu) (h.congr (fun e => (Zbn A).mem_iff) fun e _ => rfl) (ord A) [] [] rfl fun d => by simp
theorem Zsv {sh : Shut} {L : List Ent} {P : Pl} (hs : L.Pairwise hi) : ∀ (rest pre : List Ent) (H : List Int), L = pre ++ rest → (∀ d, d ∈ H ↔ ∃ g ∈ pre, P (nm g) = ⟨tx "stands", d⟩) → (∀ e ∈ rest, Zin e (P (nm e)) ∈ layG sh rest H) → (rest.map nm).Nodup → ∀ e ∈ rest, P (nm e) = plc sh (hd L P e) e
  | [], _, _, _, _, _, _, e, he => by cases he
  | x :: rest, pre, H, hL, hH, hr, hn, e, he => by
    rw [List.map_cons, List.nodup_cons] at hn
    have hrn : ∀ q ∈ layG sh rest (heldBy (plc sh H x) H), rn q ∈ rest.map nm := fun q hq => by
      rw [← Zua sh rest (heldBy (plc sh H x) H)]
      exact List.mem_map.mpr ⟨q, hq, rfl⟩
    have hx : P (nm x) = plc sh H x := by
      have h1 := hr x List.mem_cons_self
      rw [layG] at h1
      rcases List.mem_cons.mp h1 with z | z
      · have z1 : (P (nm x)).x1 = (plc sh H x).x1 := congrArg T4.x3 z
        have z2 : (P (nm x)).x2 = (plc sh H x).x2 := congrArg T4.x4 z
        cases q : P (nm x)
        cases q2 : plc sh H x
        rw [q, q2] at z1 z2
        dsimp only at z1 z2
        rw [z1, z2]
      · exact (hn.1 (hrn _ z)).elim
    have hpre : ∀ g, (g ∈ L ∧ hi g x) ↔ g ∈ pre := fun g => by
      rw [hL] at hs ⊢
      obtain ⟨s1, s2, s3⟩ := List.pairwise_append.mp hs
      constructor
      · rintro ⟨g1, g2⟩
        rcases List.mem_append.mp g1 with z | z
        · exact z
        · rcases List.mem_cons.mp z with rfl | z
          · exact (Zg0 _ g2).elim
          · exact (Ztw ((List.pairwise_cons.mp s2).1 g z) g2).elim
      · exact fun z => ⟨List.mem_append_left _ z, s3 g z x List.mem_cons_self⟩
    rcases List.mem_cons.mp he with rfl | he
    · rw [hx]
      refine Zjb e fun d => ?_
      rw [hH, Zcs]
      constructor
      · rintro ⟨g, g1, g2⟩
        exact ⟨g, ((hpre g).mpr g1).1, ((hpre g).mpr g1).2, g2⟩
      · rintro ⟨g, g1, g2, g3⟩
        exact ⟨g, (hpre g).mp ⟨g1, g2⟩, g3⟩
    · refine Zsv hs rest (pre ++ [x]) (heldBy (plc sh H x) H) (by rw [hL, List.append_assoc]; rfl) (fun d => ?_) (fun f hf => ?_) hn.2 e he
      · unfold heldBy
        split
        · rename_i hst
          rw [List.mem_cons, hH]
          constructor
          · rintro (z | ⟨g, g1, g2⟩)
            · refine ⟨x, by simp, ?_⟩
              rw [hx]
              cases q : plc sh H x
              rw [q] at hst z
              dsimp only at hst z
              rw [hst, z]
            · exact ⟨g, List.mem_append_left _ g1, g2⟩
          · rintro ⟨g, g1, g2⟩
            rcases List.mem_append.mp g1 with z | z
            · exact .inr ⟨g, z, g2⟩
            · rw [List.mem_singleton.mp z, hx] at g2
              exact .inl (by rw [g2])
        · rename_i hst
          rw [hH]
          constructor
          · rintro ⟨g, g1, g2⟩
            exact ⟨g, List.mem_append_left _ g1, g2⟩
          · rintro ⟨g, g1, g2⟩
            rcases List.mem_append.mp g1 with z | z
            · exact ⟨g, z, g2⟩
            · rw [List.mem_singleton.mp z, hx] at g2
              exact (hst (by rw [g2])).elim
      · have h1 := hr f (List.mem_cons_of_mem _ hf)
        rw [layG] at h1
        rcases List.mem_cons.mp h1 with z | z
        · have : nm f = nm x := by
            have z1 : f.x2 = x.x2 := congrArg T4.x1 z
            have z2 : f.x3 = x.x3 := congrArg T4.x2 z
            unfold nm
            rw [z1, z2]
          exact (hn.1 (this ▸ List.mem_map.mpr ⟨f, hf, rfl⟩)).elim
        · exact z
noncomputable def plO (A : List Ent) (sh : Shut) (n : Nm) : Option (T2 Tx Int) := ((LAY A sh).find? fun r => decide (rn r = n)).map fun r => ⟨r.x3, r.x4⟩
noncomputable def plP (A : List Ent) (sh : Shut) : Pl := fun n => (plO A sh n).getD ⟨tx "out", 0⟩
theorem Z4m {rows : List Row} (h : (rows.map rn).Nodup) {r : Row} (hr : r ∈ rows) : rows.find? (fun q => decide (rn q = rn r)) = some r := by
  induction rows with
  | nil => cases hr
  | cons q rows ih =>
    rw [List.map_cons, List.nodup_cons] at h
    rcases List.mem_cons.mp hr with rfl | hr
    · rw [List.find?_cons_of_pos (by simp)]
    · rw [List.find?_cons_of_neg ?_, ih h.2 hr]
      intro z
      have := of_decide_eq_true z
      exact h.1 (this ▸ List.mem_map.mpr ⟨r, hr, rfl⟩)
theorem Zvc {A : List Ent} {sh : Shut} (hu : (A.map nm).Nodup) {r : Row} (hr : r ∈ LAY A sh) : plO A sh (rn r) = some ⟨r.x3, r.x4⟩ := by
  unfold plO
  rw [Z4m (Zz7 sh hu) hr]; rfl
theorem Znd {A : List Ent} {sh : Shut} {n : Nm} (h : n ∉ A.map nm) : plO A sh n = none := by
  unfold plO
  rw [List.find?_eq_none.mpr]
  · rfl
  · intro r hr z
    have := of_decide_eq_true z
    refine h ?_
    rw [← this]
    have h1 : rn r ∈ (LAY A sh).map rn := List.mem_map.mpr ⟨r, hr, rfl⟩
    rw [Zwc] at h1
    exact ((Zbn A).map nm).mem_iff.mp h1
theorem Ze2 {A : List Ent} {sh : Shut} (hu : (A.map nm).Nodup) {e : Ent} (he : e ∈ A) : plO A sh (nm e) = some (plP A sh (nm e)) ∧ Zin e (plP A sh (nm e)) ∈ LAY A sh := by
  have h1 : nm e ∈ (LAY A sh).map rn := by rw [Zwc]; exact ((Zbn A).map nm).mem_iff.mpr (List.mem_map.mpr ⟨e, he, rfl⟩)
  obtain ⟨r, hr, er⟩ := List.mem_map.mp h1
  have h2 := Zvc hu hr
  rw [er] at h2
  unfold plP
  rw [h2]
  refine ⟨rfl, ?_⟩
  have : Zin e ⟨r.x3, r.x4⟩ = r := by
    have e1 : r.x1 = e.x2 := congrArg T2.x1 er
    have e2 : r.x2 = e.x3 := congrArg T2.x2 er
    cases r
    dsimp only at e1 e2
    unfold Zin
    rw [e1, e2]
  show Zin e ⟨r.x3, r.x4⟩ ∈ _
  rw [this]
  exact hr
theorem Zm4 {A : List Ent} {sh : Shut} (hu : (A.map nm).Nodup) : Good sh A (plP A sh) := by
  have h := Zsv (sh := sh) (P := plP A sh) (Zvm hu) (ord A) [] [] rfl (fun d => by simp) (fun e he => (Ze2 hu ((Zbn A).mem_iff.mp he)).2) (Zi2 (Zbn A) hu)
  have hg : Good sh (ord A) (plP A sh) := h
  exact hg.congr (fun e => (Zbn A).mem_iff.symm) fun _ _ => rfl
theorem Z29 {A : List Ent} {sh : Shut} (hu : (A.map nm).Nodup) : LAY A sh = (ord A).map fun e => Zin e (plP A sh (nm e)) := Zrn hu (Zm4 hu)
theorem Zse {A : List Ent} {sh : Shut} {P : Pl} (hu : (A.map nm).Nodup) (h : Good sh A P) {e : Ent} (he : e ∈ A) : plO A sh (nm e) = some (P (nm e)) := by
  have h1 : Zin e (P (nm e)) ∈ LAY A sh := by rw [Zrn hu h]; exact List.mem_map.mpr ⟨e, (Zbn A).mem_iff.mpr he, rfl⟩
  have h2 := Zvc hu h1
  have h3 : rn (Zin e (P (nm e))) = nm e := rfl
  rw [h3] at h2
  rw [h2]
  rfl
abbrev Turn := T4 Int Int (Option (T2 Tx Int)) (Option (T2 Tx Int))
theorem Z1k (a b : Ent) : Zl6 a b = .ok (decide (hi a b)) := by
  unfold Zl6
  by_cases h1 : a.x1 = b.x1
  · rw [Zc6 (show (!decide (a.x1 = b.x1)) = false by rw [decide_eq_true h1]; rfl)]
    by_cases h2 : a.x2 = b.x2
    · rw [Zc6 (show (!decide (a.x2 = b.x2)) = false by rw [decide_eq_true h2]; rfl)]
      exact congrArg _ (decide_eq_decide.mpr (by unfold hi; omega))
    · rw [Zgz (show (!decide (a.x2 = b.x2)) = true by rw [decide_eq_false h2]; rfl)]
      exact congrArg _ (decide_eq_decide.mpr (by unfold hi; omega))
  · rw [Zgz (show (!decide (a.x1 = b.x1)) = true by rw [decide_eq_false h1]; rfl)]
    exact congrArg _ (decide_eq_decide.mpr (by unfold hi; omega))
theorem Z0d (e : Ent) (d : Int) (sh : Shut) (h : Dct Int Ent) {H : List Int} (hH : d ∈ H ↔ ∃ q, h.get d = some q ∧ ¬ hi e q) : Zfy e d sh h = .ok (!blk e.x1 sh H d) := by
  unfold Zfy blk
  rw [Zrz, Zas, Zas]
  cases opn e.x1 d sh with
  | false => rfl
  | true =>
    rw [Bool.not_true, cond_false]
    unfold Dct.has
    cases q : h.get d with
    | none =>
      have : d ∉ H := fun z => by
        obtain ⟨p, hp, _⟩ := hH.mp z
        rw [q] at hp; cases hp
      rw [decide_eq_false this]; rfl
    | some p =>
      show bd (bd (ofO (some p)) fun t1 => Zl6 e t1) _ = _
      rw [Zay, Zas, Z1k, Zas]
      by_cases hh : hi e p
      · have : d ∉ H := fun z => by
          obtain ⟨p', hp, hn⟩ := hH.mp z
          rw [q] at hp; cases hp
          exact hn hh
        rw [decide_eq_true hh, decide_eq_false this]; rfl
      · have : d ∈ H := hH.mpr ⟨p, q, hh⟩
        rw [decide_eq_false hh, decide_eq_true this]; rfl
theorem Z0a (e : Ent) (sh : Shut) (h : Dct Int Ent) {H : List Int} (hH : ∀ d, d ∈ H ↔ ∃ q, h.get d = some q ∧ ¬ hi e q) : Zdm e sh h = .ok (plc sh H e) := by
  unfold Zdm plc
  by_cases hm : e.x4 = tx "moves"
  · rw [Zgz (decide_eq_true hm), if_pos hm]
    obtain ⟨hf, _⟩ := Zmf (p := blk e.x1 sh H) (sh.keys ++ H) (fun d => Zl9) e.x5
    rw [Zvz (p := blk e.x1 sh H) (c := Zes e sh h) (step := Zhx) (fun d => ?_) (fun d => rfl) hf, Zas]
    unfold Zes
    rw [Z0d e d sh h (hH d), Zas, Bool.not_not]
  · rw [Zc6 (decide_eq_false hm), if_neg hm, Z0d e e.x5 sh h (hH e.x5), Zas]
    cases hb : blk e.x1 sh H e.x5 with
    | false => simp
    | true =>
      simp only [Bool.not_true, cond_false, Bool.true_eq_false, if_neg, not_false_eq_true]
      unfold Zhi
      by_cases hs : e.x4 = tx "stays"
      · simp only [hs, decide_true, cond_true, Zas, if_pos]
      · simp only [hs, decide_false, cond_false, Zas, if_neg, not_false_eq_true]
theorem Ztc {A : List Ent} (sh : Shut) (hu : (A.map nm).Nodup) (hl : A.length ≤ 100000) : ∃ m, Zew (LAY A sh) = .ok m ∧ (∀ n, m.get n = plO A sh n) ∧ m.l.length ≤ A.length := by
  unfold Zew Ze1
  dsimp only
  obtain ⟨m, e, h1, h2, h3⟩ := Zvl (step := Zg4) rn (fun r => (⟨r.x3, r.x4⟩ : T2 Tx Int)) (fun m x hm => by
    unfold Zg4
    rw [show (T2.mk x.x1 x.x2 : Nm) = rn x from rfl, Zh5 hm, Zay, Zas]) (LAY A sh) Dct.emp (Zz7 sh hu) (by rw [Zy2]; show 0 + _ < _; omega)
  rw [Zy2] at h3
  refine ⟨m, by rw [e, Zas], fun n => ?_, by have h3' : m.l.length ≤ 0 + A.length := h3; omega⟩
  by_cases hn : n ∈ (LAY A sh).map rn
  · obtain ⟨r, hr, rfl⟩ := List.mem_map.mp hn
    rw [h1 r hr, Zvc hu hr]
  · rw [h2 n hn, Znd]
    · rfl
    · intro z
      rw [Zwc] at hn
      exact hn (((Zbn A).map nm).mem_iff.mpr z)
theorem Zp9 {A : List Ent} (m : Dct Nm (T2 Tx Int)) {P : Pl} (hu : (A.map nm).Nodup) (hl : A.length ≤ 100000) (h : ∀ e ∈ A, m.get (nm e) = some (P (nm e))) : Zff A m = .ok ((ord A).map fun e => Zin e (P (nm e))) := by
  unfold Zff
  rw [Zl3 hu, Zas]
  have go : ∀ (xs : List Ent) (acc : List Row), (∀ x ∈ xs, x ∈ A) → acc.length + xs.length ≤ 16777000 → Zdk (Zgx m) xs acc = .ok (acc ++ xs.map fun e => Zin e (P (nm e))) := by
    intro xs
    induction xs with
    | nil => intro acc _ _; rw [List.map_nil, List.append_nil]; rfl
    | cons x xs ih =>
      intro acc hx hl
      rw [List.length_cons] at hl
      rw [Zcx]
      have hm := h x (hx x List.mem_cons_self)
      have hm' : m.get (T2.mk x.x2 x.x3) = some (P (nm x)) := hm
      have : Zgx m acc x = .ok (acc ++ [Zin x (P (nm x))]) := by
        unfold Zgx
        rw [hm', Zay, Zas, Zeo (by omega), Zay, Zas]
        rfl
      rw [this, Zas, ih _ (fun y hy => hx y (List.mem_cons_of_mem _ hy)) (by simp; omega), List.map_cons, List.append_assoc]
      rfl
  rw [go (ord A) [] (fun x hx => (Zbn A).mem_iff.mp hx) (by simp; have := (Zbn A).length_eq; omega), Zas, List.nil_append]
theorem Zq0 {σ : Type} {c : σ → P Bool} {step : σ → P σ} (I : Nat → σ → Prop) (J : σ → Prop) (h : ∀ n s, I n s → (c s = .ok false ∧ J s) ∨ (c s = .ok true ∧ ∃ s', step s = .ok s' ∧ ((∃ n', n' < n ∧ I n' s') ∨ (c s' = .ok false ∧ J s')))) {n : Nat} {s : σ} (h0 : I n s) : ∃ s', whN' c step s = .ok s' ∧ J s' := by
  have go : ∀ (n : Nat) (s : σ), I n s → ∃ k s', wnN c step k s = .ok s' ∧ J s' := by
    intro n
    induction n using Nat.strongRecOn with
    | ind n ih =>
      intro s hs
      rcases h n s hs with ⟨c1, j⟩ | ⟨c1, s', e, q⟩
      · exact ⟨1, s, by rw [wnN, c1, Zas]; rfl, j⟩
      · rcases q with ⟨n', hn, hi⟩ | ⟨c2, j⟩
        · obtain ⟨k, s2, e2, j⟩ := ih n' hn s' hi
          exact ⟨k + 1, s2, by rw [wnN, c1, Zas, cond_true, e, Zas, e2], j⟩
        · exact ⟨2, s', by rw [wnN, c1, Zas, cond_true, e, Zas, wnN, c2, Zas]; rfl, j⟩
  obtain ⟨k, s', e, j⟩ := go n s h0
  exact ⟨s', Zuo e (by simp), j⟩
structure Tn where
  (e : Ent) (b : Option (T2 Tx Int)) (a : T2 Tx Int)
def Tn.turn (t : Tn) : Turn := ⟨t.e.x2, t.e.x3, t.b, some t.a⟩
def Lk (p q : Tn) : Prop := ∃ d, p.a = ⟨tx "stands", d⟩ ∧ q.b = some ⟨tx "stands", d⟩ ∧ (q.a.x1 = tx "stands" → d < q.a.x2)
inductive CH (x : Ent) : List Tn → Tn → Prop
  | one {t : Tn} : t.e = x → CH x [] t
  | more {l : List Tn} {p q : Tn} : CH x l p → Lk p q → CH x (l ++ [p]) q
noncomputable def PF (m : Dct Nm (T2 Tx Int)) : Pl := fun n => (m.get n).getD ⟨tx "out", 0⟩
theorem Z6u {m : Dct Nm (T2 Tx Int)} {k n : Nm} {p : T2 Tx Int} : PF (m.put k p) n = if n = k then p else PF m n := by
  unfold PF
  rw [Zge]
  split <;> rfl
theorem Zkj {m : Dct Nm (T2 Tx Int)} {n : Nm} {p : T2 Tx Int} (h : m.get n = some p) : PF m n = p := by
  unfold PF
  rw [h]; rfl
abbrev wo (A : List Ent) (c : Ent) : List Ent := A.filter fun e => decide (nm e ≠ nm c)
theorem Zbw {A : List Ent} {c e : Ent} : e ∈ wo A c ↔ e ∈ A ∧ nm e ≠ nm c := by
  rw [List.mem_filter, decide_eq_true_eq]
structure PI (sh : Shut) (A : List Ent) (b0 : Nm → Option (T2 Tx Int)) (x c : Ent) (m : Dct Nm (T2 Tx Int)) (h : Dct Int Ent) (ch : List Tn) : Prop where
  cm : c ∈ A
  good : Good sh (wo A c) (PF m)
  get : ∀ e ∈ A, nm e ≠ nm c → m.get (nm e) = some (PF m (nm e))
  low : ∀ e ∈ A, ¬ hi e c → m.get (nm e) = b0 (nm e)
  h1 : ∀ d q, h.get d = some q → q ∈ A ∧ nm q ≠ nm c ∧ PF m (nm q) = ⟨tx "stands", d⟩
  h2 : ∀ q ∈ A, nm q ≠ nm c → ∀ d, PF m (nm q) = ⟨tx "stands", d⟩ → h.get d = some q
  mem : ∀ t ∈ ch, t.e ∈ A ∧ hi t.e c ∧ t.b = b0 (nm t.e) ∧ m.get (nm t.e) = some t.a ∧ t.b ≠ some t.a
  srt : (ch.map Tn.e).Pairwise hi
  oth : ∀ e ∈ A, hi e c → e ∉ ch.map Tn.e → m.get (nm e) = b0 (nm e)
  prv : ∀ t ∈ ch, t.b = none ∨ ∃ p ∈ ch, t.b = some p.a
  chn : (ch = [] ∧ c = x) ∨ ∃ l p d, ch = l ++ [p] ∧ CH x l p ∧ p.a = ⟨tx "stands", d⟩ ∧ b0 (nm c) = some ⟨tx "stands", d⟩ ∧ ∀ y, c.x5 ≤ y → y ≤ d → blk c.x1 sh (hd (wo A c) (PF m) c) y = true
  ml : m.l.length ≤ A.length + ch.length
  hl : h.l.length ≤ A.length + ch.length
structure FI (sh : Shut) (A : List Ent) (b0 : Nm → Option (T2 Tx Int)) (x : Ent) (m : Dct Nm (T2 Tx Int)) (ch : List Tn) : Prop where
  good : Good sh A (PF m)
  get : ∀ e ∈ A, m.get (nm e) = some (PF m (nm e))
  mem : ∀ t ∈ ch, t.e ∈ A ∧ t.b = b0 (nm t.e) ∧ m.get (nm t.e) = some t.a ∧ t.b ≠ some t.a
  srt : (ch.map Tn.e).Pairwise hi
  oth : ∀ e ∈ A, e ∉ ch.map Tn.e → m.get (nm e) = b0 (nm e)
  chn : ∃ l p, ch = l ++ [p] ∧ CH x l p ∧ (p.a.x1 = tx "stands" → ∀ e ∈ A, b0 (nm e) ≠ some ⟨tx "stands", p.a.x2⟩)
theorem PI.lench {sh : Shut} {A : List Ent} {b0 : Nm → Option (T2 Tx Int)} {x c : Ent} {m : Dct Nm (T2 Tx Int)} {h : Dct Int Ent} {ch : List Tn} (hu : (A.map nm).Nodup) (I : PI sh A b0 x c m h ch) : ch.length ≤ A.length := by
  have hn : ((ch.map Tn.e).map nm).Nodup := by
    rw [List.Nodup, List.pairwise_map]
    have h1 : (ch.map Tn.e).Pairwise fun a b => hi a b ∧ a ∈ A ∧ b ∈ A := by
      have := I.srt
      rw [List.pairwise_map] at this ⊢
      exact (List.Pairwise.and_mem.mp this).imp fun {a b} z => ⟨z.2.2, (I.mem a z.1).1, (I.mem b z.2.1).1⟩
    exact h1.imp fun {a b} z e => by
      have := Zma hu a z.2.1 b z.2.2 e
      subst this
      exact Zg0 _ z.1
  have := Znt (m := A.map nm) hn fun n hn => by
    obtain ⟨e, he, rfl⟩ := List.mem_map.mp hn
    obtain ⟨t, ht, rfl⟩ := List.mem_map.mp he
    exact List.mem_map.mpr ⟨_, (I.mem t ht).1, rfl⟩
  simpa using this
theorem Z5c {A : List Ent} {p q : Ent → Bool} (h : ∀ e ∈ A, q e = true → p e = true) {x : Ent} (hx : x ∈ A) (h1 : p x = true) (h2 : ¬ q x = true) : (A.filter q).length < (A.filter p).length := by
  induction A with
  | nil => cases hx
  | cons a A ih =>
    have le : ∀ {l : List Ent}, (∀ e ∈ l, q e = true → p e = true) → (l.filter q).length ≤ (l.filter p).length := fun {l} h => by
      induction l with
      | nil => exact Nat.le_refl _
      | cons b l ih =>
        have := ih fun e he => h e (List.mem_cons_of_mem _ he)
        by_cases hb : q b = true
        · rw [List.filter_cons_of_pos hb, List.filter_cons_of_pos (h b List.mem_cons_self hb), List.length_cons, List.length_cons]; omega
        · rw [List.filter_cons_of_neg hb]
          by_cases hp : p b = true
          · rw [List.filter_cons_of_pos hp, List.length_cons]; omega
          · rw [List.filter_cons_of_neg hp]; exact this
    have hA := le fun e he => h e (List.mem_cons_of_mem _ he)
    rcases List.mem_cons.mp hx with rfl | hx
    · rw [List.filter_cons_of_neg h2, List.filter_cons_of_pos h1, List.length_cons]; omega
    · have := ih (fun e he => h e (List.mem_cons_of_mem _ he)) hx
      by_cases hb : q a = true
      · rw [List.filter_cons_of_pos hb, List.filter_cons_of_pos (h a List.mem_cons_self hb), List.length_cons, List.length_cons]; omega
      · rw [List.filter_cons_of_neg hb]
        by_cases hp : p a = true
        · rw [List.filter_cons_of_pos hp, List.length_cons]; omega
        · rw [List.filter_cons_of_neg hp]; exact this
abbrev PS := Dct Nm (T2 Tx Int) × Dct Int Ent × List Turn × Option Ent
theorem Z36 {sh : Shut} {A : List Ent} {b0 : Nm → Option (T2 Tx Int)} {x c : Ent} {m : Dct Nm (T2 Tx Int)} {h : Dct Int Ent} {ch : List Tn} (hu : (A.map nm).Nodup) (hl : A.length ≤ 1000) (hx0 : b0 (nm x) = none) (I : PI sh A b0 x c m h ch) :
    ∃ m' h' ch' o, Zgp sh (m, h, ch.map Tn.turn, some c) = .ok (m', h', ch'.map Tn.turn, o) ∧ ((∃ q, o = some q ∧ hi c q ∧ PI sh A b0 x q m' h' ch') ∨ (o = none ∧ FI sh A b0 x m' ch')) := by
  have inj : ∀ a ∈ A, ∀ b ∈ A, nm a = nm b → a = b := Zma hu
  have hcl := I.lench hu
  have hml := I.ml
  have hhl := I.hl
  -- the days kept by higher ones
  have hH : ∀ d, d ∈ hd (wo A c) (PF m) c ↔ ∃ q, h.get d = some q ∧ ¬ hi c q := fun d => by
    rw [Zcs]
    constructor
    · rintro ⟨g, g1, g2, g3⟩
      obtain ⟨g4, g5⟩ := Zbw.mp g1
      exact ⟨g, I.h2 g g4 g5 d g3, Ztw g2⟩
    · rintro ⟨q, q1, q2⟩
      obtain ⟨q3, q4, q5⟩ := I.h1 d q q1
      exact ⟨q, Zbw.mpr ⟨q3, q4⟩, (hi_tot q4).resolve_right q2, q5⟩
  have hb := Z0a c sh h hH
  generalize hp : plc sh (hd (wo A c) (PF m) c) c = p at hb
  -- the new places
  have hP : ∀ n, PF (m.put (nm c) p) n = if n = nm c then p else PF m n := fun n => Z6u
  have hPc : PF (m.put (nm c) p) (nm c) = p := by rw [hP, if_pos rfl]
  have hPn : ∀ {e : Ent}, nm e ≠ nm c → PF (m.put (nm c) p) (nm e) = PF m (nm e) := fun {e} he => by rw [hP, if_neg he]
  have hget : ∀ n, (m.put (nm c) p).get n = if n = nm c then some p else m.get n := fun n => Zge m (nm c) n p
  have hctr : c ∉ ch.map Tn.e := fun z => by
    obtain ⟨t, ht, e⟩ := List.mem_map.mp z
    have := (I.mem t ht).2.1
    rw [e] at this
    exact Zg0 _ this
  have tne : ∀ t ∈ ch, nm t.e ≠ nm c := fun t ht e => by
    have := inj _ (I.mem t ht).1 _ I.cm e
    exact hctr (this ▸ List.mem_map.mpr ⟨t, ht, rfl⟩)
  have hgc : m.get (nm c) = b0 (nm c) := I.low c I.cm (Zg0 c)
  let t : Tn := ⟨c, b0 (nm c), p⟩
  -- behind its old day
  have hge : p = plc sh (hd (wo A c) (PF m) c) c := hp.symm
  have old : (ch = [] ∧ c = x) ∨ ∃ l q d, ch = l ++ [q] ∧ CH x l q ∧ q.a = ⟨tx "stands", d⟩ ∧ b0 (nm c) = some ⟨tx "stands", d⟩ ∧ p ≠ ⟨tx "stands", d⟩ ∧ (p.x1 = tx "stands" → d < p.x2) := by
    rcases I.chn with z | ⟨l, q, d, e1, e2, e3, e4, e5⟩
    · exact .inl z
    · refine .inr ⟨l, q, d, e1, e2, e3, e4, ?_, ?_⟩
      · have key : p.x1 = tx "stands" → d < p.x2 := fun hs => by
          rw [hge] at hs ⊢
          have hf := Zji hs
          rcases Int.lt_or_le d (plc sh (hd (wo A c) (PF m) c) c).x2 with z | z
          · exact z
          · have := e5 _ hf.1 z
            rw [hf.2.1] at this
            cases this
        intro z
        have := key (by rw [z])
        rw [z] at this
        exact Int.lt_irrefl _ this
      · intro hs
        rw [hge] at hs ⊢
        have hf := Zji hs
        rcases Int.lt_or_le d (plc sh (hd (wo A c) (PF m) c) c).x2 with z | z
        · exact z
        · have := e5 _ hf.1 z
          rw [hf.2.1] at this
          cases this
  have hbt : t.b ≠ some t.a := by
    rcases old with ⟨_, z⟩ | ⟨_, _, d, _, _, _, e4, e5, _⟩
    · show b0 (nm c) ≠ some p
      rw [z, hx0]
      exact fun z => by cases z
    · show b0 (nm c) ≠ some p
      rw [e4]
      exact fun z => e5 (Option.some.inj z).symm
  have hch' : CH x ch t := by
    rcases old with ⟨z1, z2⟩ | ⟨l, q, d, e1, e2, e3, e4, e5, e6⟩
    · rw [z1]; exact .one z2
    · rw [e1]; exact .more e2 ⟨d, e3, e4, e6⟩
  have hprv : ∀ s ∈ ch ++ [t], s.b = none ∨ ∃ p ∈ ch ++ [t], s.b = some p.a := fun s hs => by
    rcases List.mem_append.mp hs with z | z
    · rcases I.prv s z with y | ⟨p, hp, y⟩
      · exact .inl y
      · exact .inr ⟨p, List.mem_append_left _ hp, y⟩
    · rw [List.mem_singleton.mp z]
      rcases old with ⟨_, y⟩ | ⟨l, q, d, e1, e2, e3, e4, _, _⟩
      · left
        show b0 (nm c) = none
        rw [y, hx0]
      · right
        refine ⟨q, List.mem_append_left _ (by rw [e1]; simp), ?_⟩
        show b0 (nm c) = some q.a
        rw [e4, e3]
  have hsrt : ((ch ++ [t]).map Tn.e).Pairwise hi := by
    rw [List.map_append]
    refine List.pairwise_append.mpr ⟨I.srt, List.pairwise_singleton _ _, fun a ha b hb => ?_⟩
    obtain ⟨s, hs, rfl⟩ := List.mem_map.mp ha
    obtain rfl : b = c := by simpa using hb
    exact (I.mem s hs).2.1
  have hturn : ch.map Tn.turn ++ [⟨c.x2, c.x3, m.get (nm c), some p⟩] = (ch ++ [t]).map Tn.turn := by
    rw [List.map_append, hgc]; rfl
  have hm1 := Zjk m (nm c) p
  have w0 : Zgp sh (m, h, ch.map Tn.turn, some c) = bd (Zet (m, h, ch.map Tn.turn, some c) p) fun s12 => .ok (m.put (nm c) p, s12.1, (ch ++ [t]).map Tn.turn, s12.2) := by
    unfold Zgp
    dsimp only
    simp only [Option.map_some, Zay, Zas]
    rw [hb, Zas]
    rw [show (T2.mk c.x2 c.x3 : Nm) = nm c from rfl, Zeo (by rw [List.length_map]; omega), Zay, Zas, Zh5 (by omega), Zay, Zas, hturn]
  rw [w0]
  have memT : ∀ (q : Ent), hi c q → ∀ s ∈ ch ++ [t], s.e ∈ A ∧ hi s.e q ∧ s.b = b0 (nm s.e) ∧ (m.put (nm c) p).get (nm s.e) = some s.a ∧ s.b ≠ some s.a := fun q hq s hs => by
    rcases List.mem_append.mp hs with z | z
    · obtain ⟨a1, a2, a3, a4, a5⟩ := I.mem s z
      exact ⟨a1, Z0k a2 hq, a3, by rw [hget, if_neg (tne s z)]; exact a4, a5⟩
    · rw [List.mem_singleton.mp z]
      exact ⟨I.cm, hq, rfl, by rw [hget, if_pos rfl], hbt⟩
  have memF : ∀ s ∈ ch ++ [t], s.e ∈ A ∧ s.b = b0 (nm s.e) ∧ (m.put (nm c) p).get (nm s.e) = some s.a ∧ s.b ≠ some s.a := fun s hs => by
    rcases List.mem_append.mp hs with z | z
    · obtain ⟨a1, a2, a3, a4, a5⟩ := I.mem s z
      exact ⟨a1, a3, by rw [hget, if_neg (tne s z)]; exact a4, a5⟩
    · rw [List.mem_singleton.mp z]
      exact ⟨I.cm, rfl, by rw [hget, if_pos rfl], hbt⟩
  have othF : ∀ e ∈ A, e ∉ (ch ++ [t]).map Tn.e → (m.put (nm c) p).get (nm e) = b0 (nm e) := fun e he hn => by
    have ne : nm e ≠ nm c := fun z => hn (by rw [inj e he c I.cm z, List.map_append]; exact List.mem_append_right _ (by simp [t]))
    rw [hget, if_neg ne]
    by_cases hh : hi e c
    · exact I.oth e he hh fun z => hn (by rw [List.map_append]; exact List.mem_append_left _ z)
    · exact I.low e he hh
  have getF : ∀ e ∈ A, (m.put (nm c) p).get (nm e) = some (PF (m.put (nm c) p) (nm e)) := fun e he => by
    rw [hget, hP]
    split
    · rfl
    · rename_i ne
      exact I.get e he ne
  by_cases hs : p.x1 = tx "stands"
  · obtain ⟨d, hd'⟩ : ∃ d, p = ⟨tx "stands", d⟩ := ⟨p.x2, by cases p; dsimp only at hs; rw [hs]⟩
    have j2 : Zet (m, h, ch.map Tn.turn, some c) p = .ok (h.put d c, h.get d) := by
      unfold Zet
      rw [Zgz (decide_eq_true hs)]
      dsimp only
      rw [Zay, Zas, Zh5 (by omega), Zay, Zas, hd']
    rw [j2, Zas]
    have hh1 := Zjk h d c
    have free : ¬ ∃ q, h.get d = some q ∧ ¬ hi c q := fun z => by
      have h2 := (hH d).mpr z
      have hf := Zvx (sh := sh) (H := hd (wo A c) (PF m) c) (e := c) (by rw [hp]; exact hs)
      rw [hp, hd'] at hf
      exact (Zlv.mp hf).2 h2
    have hnp : ∀ e ∈ A, nm e ≠ nm c → h.get d = none → PF m (nm e) ≠ ⟨tx "stands", d⟩ := fun e he ne hq z => by
      have := I.h2 e he ne d z
      rw [hq] at this; cases this
    cases hq : h.get d with
    | none =>
      refine ⟨_, _, ch ++ [t], _, rfl, .inr ⟨rfl, ?_, getF, memF, hsrt, othF, ch, t, rfl, hch', ?_⟩⟩
      · intro e he
        by_cases hc : nm e = nm c
        · have := inj e he c I.cm hc
          subst this
          rw [hPc]
          refine hge.trans ?_
          refine (Zjb e fun y => ?_).symm
          rw [Zcs, Zcs]
          constructor
          · rintro ⟨g, g1, g2, g3⟩
            have ne : nm g ≠ nm e := fun z => by
              rw [inj g g1 e he z] at g2; exact Zg0 _ g2
            rw [hPn ne] at g3
            exact ⟨g, Zbw.mpr ⟨g1, ne⟩, g2, g3⟩
          · rintro ⟨g, g1, g2, g3⟩
            obtain ⟨g4, ne⟩ := Zbw.mp g1
            exact ⟨g, g4, g2, by rw [hPn ne]; exact g3⟩
        · rw [hPn hc, I.good e (Zbw.mpr ⟨he, hc⟩)]
          have npd := hnp e he hc hq
          rw [I.good e (Zbw.mpr ⟨he, hc⟩)] at npd
          by_cases hce : hi c e
          · rw [← Zy8 npd]
            refine (Zjb e fun y => ?_).symm
            rw [Zcs, List.mem_cons, Zcs]
            constructor
            · rintro ⟨g, g1, g2, g3⟩
              by_cases gc : nm g = nm c
              · rw [gc, hPc, hd'] at g3
                left
                exact (congrArg T2.x2 g3).symm
              · rw [hPn gc] at g3
                exact .inr ⟨g, Zbw.mpr ⟨g1, gc⟩, g2, g3⟩
            · rintro (rfl | ⟨g, g1, g2, g3⟩)
              · exact ⟨c, I.cm, hce, by rw [hPc, hd']⟩
              · obtain ⟨g4, ne⟩ := Zbw.mp g1
                exact ⟨g, g4, g2, by rw [hPn ne]; exact g3⟩
          · refine (Zjb e fun y => ?_).symm
            rw [Zcs, Zcs]
            constructor
            · rintro ⟨g, g1, g2, g3⟩
              have gc : nm g ≠ nm c := fun z => by
                rw [inj g g1 c I.cm z] at g2; exact hce g2
              rw [hPn gc] at g3
              exact ⟨g, Zbw.mpr ⟨g1, gc⟩, g2, g3⟩
            · rintro ⟨g, g1, g2, g3⟩
              obtain ⟨g4, ne⟩ := Zbw.mp g1
              exact ⟨g, g4, g2, by rw [hPn ne]; exact g3⟩
      · intro _ e he z
        have pd : t.a.x2 = d := by show p.x2 = d; rw [hd']
        rw [pd] at z
        by_cases hc : nm e = nm c
        · have := inj e he c I.cm hc
          subst this
          rcases old with ⟨_, y⟩ | ⟨l, q, d0, e1, e2, e3, e4, _, _⟩
          · rw [y, hx0] at z; cases z
          · rw [e4] at z
            have hd0 : d0 = d := congrArg T2.x2 (Option.some.inj z)
            subst hd0
            have hqm : q ∈ ch := by rw [e1]; simp
            have h5 := (I.mem q hqm).2.2.2.1
            have h6 := Zkj h5
            rw [e3] at h6
            exact hnp q.e (I.mem q hqm).1 (tne q hqm) hq h6
        · by_cases hm : e ∈ ch.map Tn.e
          · obtain ⟨s, hs', rfl⟩ := List.mem_map.mp hm
            have hb3 := (I.mem s hs').2.2.1
            rw [← hb3] at z
            rcases I.prv s hs' with y | ⟨q, hqm, y⟩
            · rw [y] at z; cases z
            · rw [y] at z
              have h5 := Zkj (I.mem q hqm).2.2.2.1
              rw [Option.some.inj z] at h5
              exact hnp q.e (I.mem q hqm).1 (tne q hqm) hq h5
          · have h5 : m.get (nm e) = b0 (nm e) := by
              by_cases hh : hi e c
              · exact I.oth e he hh hm
              · exact I.low e he hh
            rw [z] at h5
            exact hnp e he hc hq (Zkj h5)
    | some q =>
      obtain ⟨q1, q2, q3⟩ := I.h1 d q hq
      have hcq : hi c q := Classical.byContradiction fun z => free ⟨q, hq, z⟩
      have qc : nm q ≠ nm c := q2
      have uq : ∀ e ∈ A, nm e ≠ nm c → PF m (nm e) = ⟨tx "stands", d⟩ → e = q := fun e he ne z => by
        have := I.h2 e he ne d z
        rw [hq] at this
        exact (Option.some.inj this).symm
      have nearq : ∀ y, q.x5 ≤ y → y < d → blk q.x1 sh (hd (wo A c) (PF m) q) y = true := fun y y1 y2 => by
        have h5 := I.good q (Zbw.mpr ⟨q1, q2⟩)
        rw [q3] at h5
        have h6 : (plc sh (hd (wo A c) (PF m) q) q).x1 = tx "stands" := by rw [← h5]
        have h7 : (plc sh (hd (wo A c) (PF m) q) q).x2 = d := by rw [← h5]
        exact Zr5 h6 y y1 (by rw [h7]; exact y2)
      refine ⟨_, _, ch ++ [t], _, rfl, .inl ⟨q, rfl, hcq, ⟨q1, ?_, fun e he _ => getF e he, fun e he hn => ?_, ?_, ?_, memT q hcq, hsrt, fun e he _ hn => othF e he hn, hprv, .inr ⟨ch, t, d, rfl, hch', hd', ?_, ?_⟩, by simp; omega, by simp; omega⟩⟩⟩
      · intro e he
        obtain ⟨he, heq⟩ := Zbw.mp he
        by_cases hc : nm e = nm c
        · have := inj e he c I.cm hc
          subst this
          rw [hPc]
          refine hge.trans ?_
          refine (Zjb e fun y => ?_).symm
          rw [Zcs, Zcs]
          constructor
          · rintro ⟨g, g1, g2, g3⟩
            have ne : nm g ≠ nm e := fun z => by
              rw [inj g (Zbw.mp g1).1 e he z] at g2; exact Zg0 _ g2
            rw [hPn ne] at g3
            exact ⟨g, Zbw.mpr ⟨(Zbw.mp g1).1, ne⟩, g2, g3⟩
          · rintro ⟨g, g1, g2, g3⟩
            obtain ⟨g4, ne⟩ := Zbw.mp g1
            have gq : nm g ≠ nm q := fun z => by
              rw [inj g g4 q q1 z] at g2; exact Ztw g2 hcq
            exact ⟨g, Zbw.mpr ⟨g4, gq⟩, g2, by rw [hPn ne]; exact g3⟩
        · rw [hPn hc, I.good e (Zbw.mpr ⟨he, hc⟩)]
          have npd : plc sh (hd (wo A c) (PF m) e) e ≠ ⟨tx "stands", d⟩ := fun z => by
            rw [← I.good e (Zbw.mpr ⟨he, hc⟩)] at z
            exact heq (by rw [uq e he hc z])
          have rest : ∀ y, y ≠ d → (y ∈ hd (wo A q) (PF (m.put (nm c) p)) e ↔ y ∈ hd (wo A c) (PF m) e) := fun y yd => by
            rw [Zcs, Zcs]
            constructor
            · rintro ⟨g, g1, g2, g3⟩
              by_cases gc : nm g = nm c
              · rw [gc, hPc, hd'] at g3
                exact (yd (congrArg T2.x2 g3).symm).elim
              · rw [hPn gc] at g3
                exact ⟨g, Zbw.mpr ⟨(Zbw.mp g1).1, gc⟩, g2, g3⟩
            · rintro ⟨g, g1, g2, g3⟩
              obtain ⟨g4, ne⟩ := Zbw.mp g1
              have gq : nm g ≠ nm q := fun z => by
                rw [inj g g4 q q1 z, q3] at g3
                exact yd (congrArg T2.x2 g3).symm
              exact ⟨g, Zbw.mpr ⟨g4, gq⟩, g2, by rw [hPn ne]; exact g3⟩
          by_cases hce : hi c e
          · have din : d ∈ hd (wo A q) (PF (m.put (nm c) p)) e := Zcs.mpr ⟨c, Zbw.mpr ⟨I.cm, fun z => qc z.symm⟩, hce, by rw [hPc, hd']⟩
            rw [← Zy8 npd]
            refine (Zjb e fun y => ?_).symm
            by_cases yd : y = d
            · subst yd; simp [din]
            · rw [rest y yd]; simp [yd]
          · refine (Zjb e fun y => ?_).symm
            by_cases yd : y = d
            · subst yd
              rw [Zcs, Zcs]
              constructor
              · rintro ⟨g, g1, g2, g3⟩
                have gc : nm g ≠ nm c := fun z => by
                  rw [inj g (Zbw.mp g1).1 c I.cm z] at g2; exact hce g2
                rw [hPn gc] at g3
                exact ⟨g, Zbw.mpr ⟨(Zbw.mp g1).1, gc⟩, g2, g3⟩
              · rintro ⟨g, g1, g2, g3⟩
                obtain ⟨g4, ne⟩ := Zbw.mp g1
                have := uq g g4 ne g3
                subst this
                exact (hce (Z0k hcq g2)).elim
            · exact rest y yd
      · have ne : nm e ≠ nm c := fun z => by
          rw [inj e he c I.cm z] at hn; exact hn hcq
        rw [hget, if_neg ne]
        by_cases hh : hi e c
        · exact (hn (Z0k hh hcq)).elim
        · exact I.low e he hh
      · intro y g hg
        rw [Zge] at hg
        split at hg
        · rename_i yd
          cases hg
          exact ⟨I.cm, fun z => qc z.symm, by rw [hPc, hd', yd]⟩
        · rename_i yd
          obtain ⟨g1, g2, g3⟩ := I.h1 y g hg
          refine ⟨g1, fun z => ?_, by rw [hPn g2]; exact g3⟩
          rw [z, q3] at g3
          exact yd (congrArg T2.x2 g3).symm
      · intro g g1 g2 y g3
        rw [Zge]
        by_cases gc : nm g = nm c
        · rw [gc, hPc, hd'] at g3
          rw [if_pos (congrArg T2.x2 g3).symm, inj g g1 c I.cm gc]
        · rw [hPn gc] at g3
          have yd : y ≠ d := fun z => by
            subst z
            exact g2 (by rw [uq g g1 gc g3])
          rw [if_neg yd]
          exact I.h2 g g1 gc y g3
      · rw [← I.low q q1 (Ztw hcq), I.get q q1 q2, q3]
      · intro y y1 y2
        by_cases yd : y = d
        · subst yd
          exact blk_true.mpr (.inr (Zcs.mpr ⟨c, Zbw.mpr ⟨I.cm, fun z => qc z.symm⟩, hcq, by rw [hPc, hd']⟩))
        · rcases blk_true.mp (nearq y y1 (by omega)) with z | z
          · exact blk_true.mpr (.inl z)
          · refine blk_true.mpr (.inr ?_)
            obtain ⟨g, g1, g2, g3⟩ := Zcs.mp z
            obtain ⟨g4, ne⟩ := Zbw.mp g1
            have gq : nm g ≠ nm q := fun z => by
              rw [inj g g4 q q1 z] at g2; exact Zg0 _ g2
            exact Zcs.mpr ⟨g, Zbw.mpr ⟨g4, gq⟩, g2, by rw [hPn ne]; exact g3⟩
  · have j2 : Zet (m, h, ch.map Tn.turn, some c) p = .ok (h, none) := by
      unfold Zet
      rw [Zc6 (decide_eq_false hs)]
    rw [j2, Zas]
    refine ⟨_, _, ch ++ [t], _, rfl, .inr ⟨rfl, ?_, getF, memF, hsrt, othF, ch, t, rfl, hch', fun z => (hs z).elim⟩⟩
    intro e he
    have same : ∀ y, (y ∈ hd A (PF (m.put (nm c) p)) e ↔ y ∈ hd (wo A c) (PF m) e) := fun y => by
      rw [Zcs, Zcs]
      constructor
      · rintro ⟨g, g1, g2, g3⟩
        have gc : nm g ≠ nm c := fun z => by
          rw [z, hPc] at g3
          exact hs (by rw [g3])
        rw [hPn gc] at g3
        exact ⟨g, Zbw.mpr ⟨g1, gc⟩, g2, g3⟩
      · rintro ⟨g, g1, g2, g3⟩
        obtain ⟨g4, ne⟩ := Zbw.mp g1
        exact ⟨g, g4, g2, by rw [hPn ne]; exact g3⟩
    by_cases hc : nm e = nm c
    · have := inj e he c I.cm hc
      subst this
      rw [hPc]
      refine hge.trans ?_
      exact (Zjb e same).symm
    · rw [hPn hc, I.good e (Zbw.mpr ⟨he, hc⟩)]
      exact (Zjb e same).symm
theorem Zss {E : List Ent} (sh : Shut) (x : Ent) (hu : ((E ++ [x]).map nm).Nodup) (hl : E.length ≤ 900) :
    ∃ m ch, Zh1 E sh x = .ok ⟨LAY (E ++ [x]) sh, ch.map Tn.turn⟩ ∧ FI sh (E ++ [x]) (plO E sh) x m ch := by
  have hu1 : (E.map nm).Nodup := by
    rw [List.map_append] at hu
    exact (List.nodup_append.mp hu).1
  have hxE : nm x ∉ E.map nm := fun z => by
    rw [List.map_append] at hu
    exact (List.nodup_append.mp hu).2.2 _ z _ (by simp) rfl
  have hx0 : plO E sh (nm x) = none := Znd hxE
  have hAl : (E ++ [x]).length = E.length + 1 := by simp
  unfold Zh1
  rw [Z25 sh hu1 (by omega), Zas]
  obtain ⟨m0, em, hm, hml⟩ := Ztc (A := E) sh hu1 (by omega)
  have hhas : m0.has (T2.mk x.x2 x.x3) = false := by
    unfold Dct.has
    rw [show (T2.mk x.x2 x.x3 : Nm) = nm x from rfl, hm, hx0]; rfl
  rw [em, Zas, Zc6 hhas]
  unfold Ze1
  dsimp only
  -- who holds which day
  have hold : ∃ h : Dct Int Ent, Zdk (Zgd m0) E Dct.emp = .ok h ∧ (∀ d q, h.get d = some q → q ∈ E ∧ plP E sh (nm q) = ⟨tx "stands", d⟩) ∧ (∀ q ∈ E, ∀ d, plP E sh (nm q) = ⟨tx "stands", d⟩ → h.get d = some q) ∧ h.l.length ≤ E.length := by
    have go : ∀ (xs pre : List Ent) (h : Dct Int Ent), E = pre ++ xs → (∀ d q, h.get d = some q → q ∈ pre ∧ plP E sh (nm q) = ⟨tx "stands", d⟩) → (∀ q ∈ pre, ∀ d, plP E sh (nm q) = ⟨tx "stands", d⟩ → h.get d = some q) → h.l.length ≤ pre.length →
        ∃ h', Zdk (Zgd m0) xs h = .ok h' ∧ (∀ d q, h'.get d = some q → q ∈ E ∧ plP E sh (nm q) = ⟨tx "stands", d⟩) ∧ (∀ q ∈ E, ∀ d, plP E sh (nm q) = ⟨tx "stands", d⟩ → h'.get d = some q) ∧ h'.l.length ≤ E.length := by
      intro xs
      induction xs with
      | nil =>
        intro pre h hE g1 g2 g3
        rw [List.append_nil] at hE
        subst hE
        exact ⟨h, rfl, g1, g2, g3⟩
      | cons y xs ih =>
        intro pre h hE g1 g2 g3
        have hy : y ∈ E := by rw [hE]; simp
        have hpl : pre.length < E.length := by rw [hE]; simp
        have hg := (Ze2 (sh := sh) hu1 hy).1
        have hg' : m0.get (T2.mk y.x2 y.x3) = some (plP E sh (nm y)) := by rw [show (T2.mk y.x2 y.x3 : Nm) = nm y from rfl, hm, hg]
        have e0 : ∀ h', Zeq h y (plP E sh (nm y)) = .ok h' → Zgd m0 h y = .ok h' := fun h' e => by
          unfold Zgd
          rw [hg', Zay, Zas, e, Zas]
        by_cases hs : (plP E sh (nm y)).x1 = tx "stands"
        · have hj : Zeq h y (plP E sh (nm y)) = .ok (h.put (plP E sh (nm y)).x2 y) := by
            unfold Zeq
            rw [Zgz (decide_eq_true hs), Zh5 (by omega), Zay, Zas]
          have hpy : plP E sh (nm y) = ⟨tx "stands", (plP E sh (nm y)).x2⟩ := by
            cases q : plP E sh (nm y)
            rw [q] at hs
            dsimp only at hs ⊢
            rw [hs]
          obtain ⟨h', e1, e2⟩ := ih (pre ++ [y]) (h.put (plP E sh (nm y)).x2 y) (by rw [hE, List.append_assoc]; rfl) (fun d q hq => by
            rw [Zge] at hq
            split at hq
            · rename_i hd
              cases hq
              exact ⟨by simp, by rw [hd]; exact hpy⟩
            · obtain ⟨a, b⟩ := g1 d q hq
              exact ⟨List.mem_append_left _ a, b⟩) (fun q hq d hd => by
            rw [Zge]
            rcases List.mem_append.mp hq with z | z
            · have ne : d ≠ (plP E sh (nm y)).x2 := fun w => by
                subst w
                have hqE : q ∈ E := by rw [hE]; exact List.mem_append_left _ z
                have nq : nm q ≠ nm y := fun w => by
                  rw [hE, List.map_append, List.map_cons] at hu1
                  exact (List.nodup_append.mp hu1).2.2 _ (List.mem_map.mpr ⟨q, z, rfl⟩) _ List.mem_cons_self w
                exact (Zm4 (sh := sh) hu1).apart hqE hy nq hd hpy
              rw [if_neg ne]
              exact g2 q z d hd
            · rw [List.mem_singleton.mp z] at hd ⊢
              rw [if_pos (by rw [hd])]) (by have := Zjk h (plP E sh (nm y)).x2 y; simp; omega)
          exact ⟨h', by rw [Zcx, e0 _ hj, Zas, e1], e2⟩
        · have hj : Zeq h y (plP E sh (nm y)) = .ok h := by
            unfold Zeq
            rw [Zc6 (decide_eq_false hs)]
          obtain ⟨h', e1, e2⟩ := ih (pre ++ [y]) h (by rw [hE, List.append_assoc]; rfl) (fun d q hq => by
            obtain ⟨a, b⟩ := g1 d q hq
            exact ⟨List.mem_append_left _ a, b⟩) (fun q hq d hd => by
            rcases List.mem_append.mp hq with z | z
            · exact g2 q z d hd
            · rw [List.mem_singleton.mp z] at hd
              exact (hs (by rw [hd])).elim) (by simp; omega)
          exact ⟨h', by rw [Zcx, e0 _ hj, Zas, e1], e2⟩
    exact go E [] Dct.emp rfl (fun d q hq => by cases hq) (fun q hq => by cases hq) (Nat.le_refl _)
  obtain ⟨h0, eh, hh1, hh2, hhl⟩ := hold
  rw [eh, Zas]
  have inE : ∀ e ∈ E ++ [x], nm e ≠ nm x → e ∈ E := fun e he ne => by
    rcases List.mem_append.mp he with z | z
    · exact z
    · rw [List.mem_singleton.mp z] at ne; exact (ne rfl).elim
  have neE : ∀ e ∈ E, nm e ≠ nm x := fun e he z => hxE (z ▸ List.mem_map.mpr ⟨e, he, rfl⟩)
  have hPF : ∀ e ∈ E, PF m0 (nm e) = plP E sh (nm e) := fun e he => Zkj (by rw [hm]; exact (Ze2 hu1 he).1)
  have I0 : PI sh (E ++ [x]) (plO E sh) x x m0 h0 [] := by
    refine ⟨by simp, ?_, fun e he ne => ?_, fun e he _ => hm _, fun d q hq => ?_, fun q hq ne d hd => ?_, (fun t ht => by cases ht), .nil, fun e he _ _ => hm _, (fun t ht => by cases ht), .inl ⟨rfl, rfl⟩, by rw [hAl]; simp; omega, by rw [hAl]; simp; omega⟩
    · refine (Zm4 (sh := sh) hu1).congr (fun e => ?_) hPF
      rw [Zbw]
      exact ⟨fun z => inE e z.1 z.2, fun z => ⟨List.mem_append_left _ z, neE e z⟩⟩
    · have := inE e he ne
      rw [hPF e this, hm]
      exact (Ze2 hu1 this).1
    · obtain ⟨a, b⟩ := hh1 d q hq
      exact ⟨List.mem_append_left _ a, neE q a, by rw [hPF q a]; exact b⟩
    · have := inE q hq ne
      rw [hPF q this] at hd
      exact hh2 q this d hd
  obtain ⟨s, es, m, h, ch, hs, hF⟩ := Zq0 (c := Zpl) (step := Zgp sh) (fun n (s : PS) => ∃ m h ch c, s = (m, h, ch.map Tn.turn, some c) ∧ PI sh (E ++ [x]) (plO E sh) x c m h ch ∧ n = ((E ++ [x]).filter fun e => decide (hi c e)).length) (fun s => ∃ m h ch, s = (m, h, ch.map Tn.turn, none) ∧ FI sh (E ++ [x]) (plO E sh) x m ch) (fun n s hs => by
    obtain ⟨m, h, ch, c, rfl, I, rfl⟩ := hs
    right
    refine ⟨rfl, ?_⟩
    obtain ⟨m', h', ch', o, e, q⟩ := Z36 hu (by rw [hAl]; omega) hx0 I
    refine ⟨_, e, ?_⟩
    rcases q with ⟨q, rfl, hq, I'⟩ | ⟨rfl, hF⟩
    · left
      refine ⟨_, ?_, m', h', ch', q, rfl, I', rfl⟩
      exact Z5c (fun e _ he => decide_eq_true (Z0k hq (of_decide_eq_true he))) I'.cm (decide_eq_true hq) (by rw [decide_eq_true_eq]; exact Zg0 q)
    · exact .inr ⟨rfl, m', h', ch', rfl, hF⟩) (n := ((E ++ [x]).filter fun e => decide (hi x e)).length) (s := (m0, h0, [], some x)) ⟨m0, h0, [], x, rfl, I0, rfl⟩
  subst hs
  rw [es, Zas, if_pos (by simp; omega), Zay, Zas, Zp9 m hu (by rw [hAl]; omega) hF.get, Zas]
  try rw [Zas]
  rw [← Zrn hu hF.good]
  exact ⟨m, ch, rfl, hF⟩
noncomputable def dueT (A : List Ent) (b a : Nm → Option (T2 Tx Int)) : List Turn := ((ord A).filter fun e => decide (b (nm e) ≠ a (nm e))).map fun e => ⟨e.x2, e.x3, b (nm e), a (nm e)⟩
theorem FI.due {sh : Shut} {A : List Ent} {b0 : Nm → Option (T2 Tx Int)} {x : Ent} {m : Dct Nm (T2 Tx Int)} {ch : List Tn} (hu : (A.map nm).Nodup) (F : FI sh A b0 x m ch) : ch.map Tn.turn = dueT A b0 (plO A sh) := by
  have hpl : ∀ e ∈ A, plO A sh (nm e) = m.get (nm e) := fun e he => by rw [Zse hu F.good he, F.get e he]
  have key : ch.map Tn.e = (ord A).filter fun e => decide (b0 (nm e) ≠ plO A sh (nm e)) := by
    have s1 := F.srt
    have s2 : ((ord A).filter fun e => decide (b0 (nm e) ≠ plO A sh (nm e))).Pairwise hi := (Zvm hu).sublist List.filter_sublist
    have n1 : (ch.map Tn.e).Nodup := s1.imp fun {a b} h z => by subst z; exact Zg0 _ h
    have n2 : ((ord A).filter fun e => decide (b0 (nm e) ≠ plO A sh (nm e))).Nodup := s2.imp fun {a b} h z => by subst z; exact Zg0 _ h
    refine List.Perm.eq_of_pairwise (fun a b _ _ h1 h2 => (Ztw h1 h2).elim) s1 s2 ((List.perm_ext_iff_of_nodup n1 n2).mpr fun e => ?_)
    rw [List.mem_filter, decide_eq_true_eq]
    constructor
    · intro h
      obtain ⟨t, ht, rfl⟩ := List.mem_map.mp h
      obtain ⟨a1, a2, a3, a4⟩ := F.mem t ht
      refine ⟨(Zbn A).mem_iff.mpr a1, ?_⟩
      rw [hpl _ a1, a3, ← a2]
      exact a4
    · rintro ⟨h1, h2⟩
      have h1 := (Zbn A).mem_iff.mp h1
      refine Classical.byContradiction fun z => h2 ?_
      rw [hpl e h1]
      exact (F.oth e h1 z).symm
  unfold dueT
  rw [← key, List.map_map]
  refine List.map_congr_left fun t ht => ?_
  obtain ⟨a1, a2, a3, a4⟩ := F.mem t ht
  show t.turn = ⟨t.e.x2, t.e.x3, b0 (nm t.e), plO A sh (nm t.e)⟩
  rw [hpl _ a1, a3, ← a2]
  rfl
end DL
set_option Elab.async false
set_option linter.all false
set_option maxRecDepth 100000
set_option maxHeartbeats 1000000
set_option synthInstance.maxSize 2000
set_option synthInstance.maxHeartbeats 400000
namespace DL
open PySem PySem.Spec PyProof.Rows L2
theorem Zpr (entries : (List ENq)) (places : (Dct (T2 Int Int) (T2 Tx Int))) : Sim Zf7 [.bo ((encL eEq) entries), .bo ((encT kII (enc2 encS D.int)) places)] (owE (encL eRq)) (Zff entries places) :=
 Zb9 Zju (env := ([.bo ((encL eEq) entries), .bo ((encT kII (enc2 encS D.int)) places), .un, .un, .un, .un] : En)) rfl (fun _ => Zba) (by
  unfold Zff Zi6
  exact (Zfr (s := .ow ((encL eRq) ([] : List RWq))) (env' := ([.bo ((encL eEq) entries), .bo ((encT kII (enc2 encS D.int)) places), .ow ((encL eRq) ([] : List RWq)), .un, .un, .un] : En)) (Zce Zao rfl (Nat.le_of_ble_eq_true rfl)) Zba (Nat.le_of_ble_eq_true rfl) rfl (Zoa (f := eEq) (s0 := ([] : List RWq)) (fun (s1 : (List RWq)) => ([.bo ((encL eEq) entries), .bo ((encT kII (enc2 encS D.int)) places), .ow ((encL eRq) s1), .un, .un, .un] : En)) (Zrl (Za7 (Zae (Zij (i := 0) rfl) Zao) (Zrr entries) (fun _ => Zba))) rfl
 (fun s1 entry => (Zdz (e := ([.bo ((encL eEq) entries), .bo ((encT kII (enc2 encS D.int)) places), .ow ((encL eRq) s1), .sh (eEq entry), .un, .un] : En)) Zat (Nat.le_of_ble_eq_true rfl) rfl (Zo6 (fun t2 => ([.bo ((encL eEq) entries), .bo ((encT kII (enc2 encS D.int)) places), .ow ((encL eRq) s1), .sh (eEq entry), .sh (encS t2.x1), .sh (D.int t2.x2)] : En)) (Zcq (Zij (i := 1) rfl) (Zb7 (Zae (Zau (Zaf (i := 3) rfl) (Za0 rfl rfl)) (Zae (Zau (Zaf (i := 3) rfl) (Za0 rfl rfl)) Zao)) rfl (Nat.le_of_ble_eq_true rfl)) (Zk3 (m := places) (i := (T2.mk entry.x2 entry.x3)) rfl)) (fun _ => rfl) (fun _ => rfl) fun t2 =>
 (Zt7 (f := eRq) (xs := s1) (x := (T4.mk entry.x2 entry.x3 t2.x1 t2.x2)) (fun rows' => ([.bo ((encL eEq) entries), .bo ((encT kII (enc2 encS D.int)) places), .ow ((encL eRq) rows'), .sh (eEq entry), .sh (encS t2.x1), .sh (D.int t2.x2)] : En)) rfl (Zb7 (Zae (Zau (Zaf (i := 3) rfl) (Za0 rfl rfl)) (Zae (Zau (Zaf (i := 3) rfl) (Za0 rfl rfl)) (Zae (Zaf (i := 4) rfl) (Zae (Zaf (i := 5) rfl) Zao)))) rfl (Nat.le_of_ble_eq_true rfl)) rfl (fun _ => rfl) fun rows' =>
 (Zbc (env' := ([.bo ((encL eEq) entries), .bo ((encT kII (enc2 encS D.int)) places), .ow ((encL eRq) rows'), .un, .sh (encS t2.x1), .sh (D.int t2.x2)] : En)) rfl (Zbc (env' := ([.bo ((encL eEq) entries), .bo ((encT kII (enc2 encS D.int)) places), .ow ((encL eRq) rows'), .un, .un, .sh (D.int t2.x2)] : En)) rfl (Zbc (env' := ([.bo ((encL eEq) entries), .bo ((encT kII (enc2 encS D.int)) places), .ow ((encL eRq) rows'), .un, .un, .un] : En)) rfl (Zcv rfl))))))))
 fun s3 => (Zn4 (i := 2) (s := .ow ((encL eRq) s3)) rfl Zba rfl))))
def Zq4 : WS :=
 (wSeq (wIf (wNot (Zbt Zfh (Zam (wUn (oIxN 0) (wVar 0)) (Zam (wVar 1) (Zam (wVar 2) aNil)))))
 (wRet (wBl false))
 Zbk)
 (wSeq (wIf (wOp (oEq false) (wUn (oIxN 3) (wVar 0)) (wStr (PySem.Str.ofString "moves")))
 (wRet (Zwi oLe oLt (wUn (oIxN 4) (wVar 0)) (wVar 1) (wUn (oIxN 1) (wVar 3))))
 Zbk)
 (wRet (wAnd (wOp (oEq false) (wUn (oIxN 4) (wVar 0)) (wVar 1)) (wOp (oEq true) (wUn (oIxN 0) (wVar 3)) (wStr (PySem.Str.ofString "stands")))))))
theorem Zvw : Zbl Zq4 := (Zag (m_if (Zbs (Zbb Zj3 (Zaa (Zai (Zab 0) Zah) (Zaa (Zab 1) (Zaa (Zab 2) Zan))))) (Zb3 m_bl) Za5) (Zag (m_if (Zak (Zai (Zab 0) Zah) Zfn Zbm) (Zb3 (Zyk Zaz Zaz (Zai (Zab 0) Zah) (Zab 1) (Zai (Zab 3) Zah))) Za5) (Zb3 (Ze8 (Zak (Zai (Zab 0) Zah) (Zab 1) Zbm) (Zak (Zai (Zab 3) Zah) Zfn Zbm)))))
@[irreducible] def Zn2 : G := gOf 4 Zq4
theorem Zra : Zn2 = gOf 4 Zq4 := by with_unfolding_all rfl
theorem Z0g : Zc1 Zn2 := Zra ▸ Zbg Zvw
noncomputable def Zpg (entry : ENq) (day : Int) (shut : (Dct Int Int)) (place : (T2 Tx Int)) : P Bool :=
  (bd (bd (Zfe entry.x1 day shut) fun b => .ok (!b)) fun c => cond c
  (.ok false)
  (cond (decide (entry.x4 = (tx "moves")))
  (.ok (decide (entry.x5 ≤ day) && decide (day < place.x2)))
  (.ok ((decide (entry.x5 = day)) && (!decide (place.x1 = (tx "stands")))))))
theorem Zpw (entry : ENq) (day : Int) (shut : (Dct Int Int)) (place : (T2 Tx Int)) : Sim Zn2 [.sh (eEq entry), .sh (D.int day), .sh ((encK kI D.int) shut), .sh ((enc2 encS D.int) place)] blE (Zpg entry day shut place) :=
 Zb9 Zra (env := ([.sh (eEq entry), .sh (D.int day), .sh ((encK kI D.int) shut), .sh ((enc2 encS D.int) place)] : En)) rfl (fun _ => Zat) (by
  unfold Zpg Zq4
  exact (Zl1 (Ze0 (Za7 (Zae (Zau (Zaf (i := 0) rfl) (Za0 rfl rfl)) (Zae (Zaf (i := 1) rfl) (Zae (Zaf (i := 2) rfl) Zao))) (Zel entry.x1 day shut) (fun _ => Zat)))
 (Zco Zcz rfl)
 (Zca (b_if (Za4 (Zau (Zaf (i := 0) rfl) (Za0 rfl rfl)) Zb1 (op_eq (x := entry.x4) (y := (tx "moves")) eqe_str rfl rfl))
 (Zco (Zyf (Zau (Zaf (i := 0) rfl) (Za0 rfl rfl)) (Zaf (i := 1) rfl) (Zau (Zaf (i := 3) rfl) (Za0 rfl rfl)) op_le op_lt) rfl)
 (Zca (Zmd (Zz5 (Za4 (Zau (Zaf (i := 0) rfl) (Za0 rfl rfl)) (Zaf (i := 1) rfl) (op_eq (x := entry.x5) (y := day) eqe_int rfl rfl)) (Za4 (Zau (Zaf (i := 3) rfl) (Za0 rfl rfl)) Zb1 (op_ne (x := place.x1) (y := (tx "stands")) eqe_str rfl rfl))) rfl))))))
def Zj1 : WS :=
 (wSeq (wFor (gN 4) (Zhv (wVar 1))
 (wSeq (wIf (Zbt Zn2 (Zam (wVar 4) (Zam (wVar 0) (Zam (wVar 2) (Zam (wOp oIx (wVar 3) (wTup (Zam (wUn (oIxN 1) (wVar 4)) (Zam (wUn (oIxN 2) (wVar 4)) aNil)))) aNil)))))
 (Zim 4)
 Zbk)
 (wFgt 4 Zbk)))
 (wRet wNon))
theorem Zoi : Zbl Zj1 := (Zag (Zj9 Za1 (Zhk (Zab 1)) (Zag (m_if (Zbb Z0g (Zaa (Zab 4) (Zaa (Zab 0) (Zaa (Zab 2) (Zaa (Zak (Zab 3) (Zcr (Zaa (Zai (Zab 4) Zah) (Zaa (Zai (Zab 4) Zah) Zan))) Zbp) Zan))))) Zmo Za5) (Zbu Za5))) (Zb3 Zw7))
@[irreducible] def Zhd : G := gOf 5 Zj1
theorem Zkq : Zhd = gOf 5 Zj1 := by with_unfolding_all rfl
theorem Zut : Zc1 Zhd := Zkq ▸ Zbg Zoi
noncomputable def Zlx (day : Int) (shut : (Dct Int Int)) (places : (Dct (T2 Int Int) (T2 Tx Int))) (entry : ENq) : P Bool :=
  (bd (ofO (places.get (T2.mk entry.x2 entry.x3))) fun t2 => Zpg entry day shut t2)
noncomputable def Zfs (day : Int) (shut : (Dct Int Int)) (places : (Dct (T2 Int Int) (T2 Tx Int))) (s1 : Unit) (entry : ENq) : P (Out (Unit) (Option ENq)) :=
  (bd (Zlx day shut places entry) fun c => cond c
  (.ok (Out.ret (some entry)))
  (.ok (.nx ())))
noncomputable def Zhn (day : Int) (rest : (List ENq)) (shut : (Dct Int Int)) (places : (Dct (T2 Int Int) (T2 Tx Int))) : P (Option ENq) :=
  (aft (Zft (ρ := (Option ENq)) (Zfs day shut places) rest ()) (fun (r4 : (Option ENq)) => .ok r4) fun (s3 : Unit) =>
  (.ok none))
theorem Zmc (day : Int) (rest : (List ENq)) (shut : (Dct Int Int)) (places : (Dct (T2 Int Int) (T2 Tx Int))) : Sim Zhd [.sh (D.int day), .bo ((encL eEq) rest), .sh ((encK kI D.int) shut), .bo ((encT kII (enc2 encS D.int)) places)] (shE (encO eEq)) (Zhn day rest shut places) :=
 Zb9 Zkq (env := ([.sh (D.int day), .bo ((encL eEq) rest), .sh ((encK kI D.int) shut), .bo ((encT kII (enc2 encS D.int)) places), .un] : En)) rfl (fun _ => Zat) (by
  unfold Zhn Zj1
  exact (Zqb (f := eEq) (xs := rest) (s0 := ()) (fun (s1 : Unit) => ([.sh (D.int day), .bo ((encL eEq) rest), .sh ((encK kI D.int) shut), .bo ((encT kII (enc2 encS D.int)) places), .un] : En)) (shE (encO eEq)) (Z6v (Zij (i := 1) rfl)) rfl
 (fun s1 entry => (Zdz (e := ([.sh (D.int day), .bo ((encL eEq) rest), .sh ((encK kI D.int) shut), .bo ((encT kII (enc2 encS D.int)) places), .sh (eEq entry)] : En)) Zat (Nat.le_of_ble_eq_true rfl) rfl (Zl1 (Zcg (fun _ => Zat) (Zdq (Zaf (i := 4) rfl) (Zdq (Zaf (i := 0) rfl) (Zdq (Zaf (i := 2) rfl) (Zdu (Zcq (Zij (i := 3) rfl) (Zb7 (Zae (Zau (Zaf (i := 4) rfl) (Za0 rfl rfl)) (Zae (Zau (Zaf (i := 4) rfl) (Za0 rfl rfl)) Zao)) rfl (Nat.le_of_ble_eq_true rfl)) (Zk3 (m := places) (i := (T2.mk entry.x2 entry.x3)) rfl)) fun t2 => (Zbv (Zpw entry day shut t2)))))))
 (Zz6 (i := 4) (s := .sh (eEq entry)) rfl Zat rfl)
 (Zca (Zbc (env' := ([.sh (D.int day), .bo ((encL eEq) rest), .sh ((encK kI D.int) shut), .bo ((encT kII (enc2 encS D.int)) places), .un] : En)) rfl (Zcv rfl))))))
 (fun _ => ⟨_, rfl, rfl⟩)
 fun s3 => (Zmd Zmg rfl)))
def Zjs : WS :=
 (wSeq (wIf (wOp (oEq false) (wUn (oIxN 0) (wVar 0)) (wStr (PySem.Str.ofString "stands")))
 (wRet (wUn (oIxN 1) (wVar 0)))
 Zbk)
 (wRet wNon))
theorem Znm : Zbl Zjs := (Zag (m_if (Zak (Zai (Zab 0) Zah) Zfn Zbm) (Zb3 (Zai (Zab 0) Zah)) Za5) (Zb3 Zw7))
@[irreducible] def Zf5 : G := gOf 1 Zjs
theorem Zkt : Zf5 = gOf 1 Zjs := by with_unfolding_all rfl
theorem Zon : Zc1 Zf5 := Zkt ▸ Zbg Znm
noncomputable def Zfz (place : (T2 Tx Int)) : P (Option Int) :=
  (cond (decide (place.x1 = (tx "stands")))
  (.ok (some place.x2))
  (.ok none))
theorem Zkk (place : (T2 Tx Int)) : Sim Zf5 [.sh ((enc2 encS D.int) place)] (shE (encO D.int)) (Zfz place) :=
 Zb9 Zkt (env := ([.sh ((enc2 encS D.int) place)] : En)) rfl (fun _ => Zat) (by
  unfold Zfz Zjs
  exact (b_if (Za4 (Zau (Zaf (i := 0) rfl) (Za0 rfl rfl)) Zb1 (op_eq (x := place.x1) (y := (tx "stands")) eqe_str rfl rfl))
 (Zco (Zau (Zaf (i := 0) rfl) (Za0 rfl rfl)) rfl)
 (Zca (Zmd Zmg rfl))))
def Zj0 : WS :=
 (wSeq (wAsg (gN 4) (Zbt Zep (Zam (Zbt Zxj (Zam (wVar 0) (Zam (wVar 1) aNil))) aNil)))
 (wSeq (wAsg (gN 5) (wTup (Zam (wVar 2) (Zam (wVar 3) aNil))))
 (wSeq (wIf (wOp (oIn true) (wVar 5) (wVar 4))
 (Zqw (PySem.Str.ofString "NoFeast"))
 Zbk)
 (wSeq (wFgt 7 (wAsg (gN 6) (wLc 7 (Zhv (Zbt Zfc (Zam (wVar 0) aNil))) (wOp (oEq true) (wTup (Zam (wUn (oIxN 1) (wVar 7)) (Zam (wUn (oIxN 2) (wVar 7)) aNil))) (wVar 5)) (wVar 7))))
 (wSeq (wAsg (gN 8) (wLst (Zam (wTup (Zam (wVar 2) (Zam (wVar 3) (Zam (wOp oIx (wVar 4) (wVar 5)) (Zam wNon aNil))))) aNil)))
 (wSeq (wAsg (gN 9) (Zbt Zf5 (Zam (wOp oIx (wVar 4) (wVar 5)) aNil)))
 (wSeq (Zlp (wUn (oIsN true) (wVar 9))
 (wSeq (wAsg (gN 10) (Zbt Zhd (Zam (wVar 9) (Zam (wVar 6) (Zam (wVar 1) (Zam (wVar 4) aNil))))))
 (wSeq (wIf (wUn (oIsN false) (wVar 10))
 (wSeq (wAsg (gN 9) wNon)
 (wFgt 11 Zbk))
 (wSeq (wAsg (gN 5) (wTup (Zam (wUn (oIxN 1) (wVar 10)) (Zam (wUn (oIxN 2) (wVar 10)) aNil))))
 (wSeq (wAsg (gN 11) (wOp oIx (wVar 4) (wVar 5)))
 (wSeq (wSet 4 (wVar 5) (wTup (Zam (wStr (PySem.Str.ofString "stands")) (Zam (wVar 9) aNil))))
 (wSeq (wApp 8 (wTup (Zam (wUn (oIxN 1) (wVar 10)) (Zam (wUn (oIxN 2) (wVar 10)) (Zam (wVar 11) (Zam (wTup (Zam (wStr (PySem.Str.ofString "stands")) (Zam (wVar 9) aNil))) aNil))))))
 (wSeq (wAsg (gN 9) (Zbt Zf5 (Zam (wVar 11) aNil)))
 (wFgt 11 Zbk)))))))
 (wFgt 10 (wFgt 11 Zbk)))))
 (wFrz 8 (wRet (wTup (Zam (Zbt Zf7 (Zam (wVar 6) (Zam (wVar 4) aNil))) (Zam (wVar 8) aNil))))))))))))
theorem Zn1 : Zbl Zj0 := (Zag (Zaq Za1 (Zbb Zmm (Zaa (Zbb Zv4 (Zaa (Zab 0) (Zaa (Zab 1) Zan))) Zan))) (Zag (Zaq Za1 (Zcr (Zaa (Zab 2) (Zaa (Zab 3) Zan)))) (Zag (m_if (Zak (Zab 5) (Zab 4) Ze6) Zyi Za5) (Zag (Zbu (Zaq Za1 (Zr8 (Zhk (Zbb Zmh (Zaa (Zab 0) Zan))) (Zak (Zcr (Zaa (Zai (Zab 7) Zah) (Zaa (Zai (Zab 7) Zah) Zan))) (Zab 5) Zbm) (Zab 7)))) (Zag (Zaq Za1 (Zde (Zaa (Zcr (Zaa (Zab 2) (Zaa (Zab 3) (Zaa (Zak (Zab 4) (Zab 5) Zbp) (Zaa Zw7 Zan))))) Zan))) (Zag (Zaq Za1 (Zbb Zon (Zaa (Zak (Zab 4) (Zab 5) Zbp) Zan))) (Zag (Zoo (Zai (Zab 9) Zeg) (Zag (Zaq Za1 (Zbb Zut (Zaa (Zab 9) (Zaa (Zab 6) (Zaa (Zab 1) (Zaa (Zab 4) Zan)))))) (Zag (m_if (Zai (Zab 10) Zeg) (Zag (Zaq Za1 Zw7) (Zbu Za5)) (Zag (Zaq Za1 (Zcr (Zaa (Zai (Zab 10) Zah) (Zaa (Zai (Zab 10) Zah) Zan)))) (Zag (Zaq Za1 (Zak (Zab 4) (Zab 5) Zbp)) (Zag (Zr0 (Zab 5) (Zcr (Zaa Zfn (Zaa (Zab 9) Zan)))) (Zag (Zov (Zcr (Zaa (Zai (Zab 10) Zah) (Zaa (Zai (Zab 10) Zah) (Zaa (Zab 11) (Zaa (Zcr (Zaa Zfn (Zaa (Zab 9) Zan))) Zan)))))) (Zag (Zaq Za1 (Zbb Zon (Zaa (Zab 11) Zan))) (Zbu Za5))))))) (Zbu (Zbu Za5))))) (Z41 (Zb3 (Zcr (Zaa (Zbb Zqh (Zaa (Zab 6) (Zaa (Zab 4) Zan))) (Zaa (Zab 8) Zan))))))))))))
@[irreducible] def Zg7 : G := gOf 12 Zj0
theorem Zkw : Zg7 = gOf 12 Zj0 := by with_unfolding_all rfl
theorem Zus : Zc1 Zg7 := Zkw ▸ Zbg Zn1
noncomputable def Zfv (s6 : (Dct (T2 Int Int) (T2 Tx Int)) × (T2 Int Int) × (List TNq) × (Option Int)) (taker : (Option ENq)) : P ((Dct (T2 Int Int) (T2 Tx Int)) × (T2 Int Int) × (List TNq) × (Option Int)) :=
  (cond taker.isNone (.ok (s6.1, s6.2.1, s6.2.2.1, none)) (bd (bd (ofO (taker.map fun a => a.x2)) fun t8 => bd (ofO (taker.map fun a => a.x3)) fun t9 => .ok (T2.mk t8 t9)) fun (name' : (T2 Int Int)) =>
  (bd (ofO (s6.1.get name')) fun (before : (T2 Tx Int)) =>
  (bd (bd (ofO s6.2.2.2) fun t10 => .ok (T2.mk (tx "stands") t10)) fun t16 => (bd (ofO (Dct.putO s6.1 name' t16)) fun (places' : (Dct (T2 Int Int) (T2 Tx Int))) =>
  (bd (bd (ofO (taker.map fun a => a.x2)) fun t12 => bd (ofO (taker.map fun a => a.x3)) fun t13 => bd (bd (bd (ofO s6.2.2.2) fun t11 => .ok (T2.mk (tx "stands") t11)) fun a => .ok (some a)) fun t14 => .ok (T4.mk t12 t13 (some before) t14)) fun t15 => (bd (ofO (appO s6.2.2.1 t15)) fun (turns' : (List TNq)) =>
  (bd (Zfz before) fun (hole'' : (Option Int)) =>
  (.ok (places', name', turns', hole''))))))))))
noncomputable def Zda (s6 : (Dct (T2 Int Int) (T2 Tx Int)) × (T2 Int Int) × (List TNq) × (Option Int)) : P Bool :=
  (.ok s6.2.2.2.isSome)
noncomputable def Zdb (shut : (Dct Int Int)) (rest : (List ENq)) (s6 : (Dct (T2 Int Int) (T2 Tx Int)) × (T2 Int Int) × (List TNq) × (Option Int)) : P ((Dct (T2 Int Int) (T2 Tx Int)) × (T2 Int Int) × (List TNq) × (Option Int)) :=
  (bd (bd (ofO s6.2.2.2) fun t7 => Zhn t7 rest shut s6.1) fun (taker : (Option ENq)) =>
  (bd (Zfv s6 taker) fun (s17 : (Dct (T2 Int Int) (T2 Tx Int)) × (T2 Int Int) × (List TNq) × (Option Int)) =>
  (.ok (s17.1, s17.2.1, s17.2.2.1, s17.2.2.2))))
noncomputable def Zhc (entries : (List ENq)) (shut : (Dct Int Int)) (number : Int) (year : Int) : P (T2 (List RWq) (List TNq)) :=
  (bd (bd (Zxb entries shut) fun t1 => Zew t1) fun (places : (Dct (T2 Int Int) (T2 Tx Int))) =>
  (cond (!places.has (T2.mk number year))
  (raise "NoFeast")
  (bd (bd (Zd5 entries) fun l2 => lcP (fun (one : ENq) => (.ok (!decide ((T2.mk one.x2 one.x3) = (T2.mk number year))))) (fun (one : ENq) => (.ok one)) l2 []) fun (rest : (List ENq)) =>
  (bd (bd (bd (bd (ofO (places.get (T2.mk number year))) fun a => .ok (some a)) fun t3 => .ok (T4.mk number year t3 none)) fun t4 => .ok [t4]) fun (turns : (List TNq)) =>
  (bd (bd (ofO (places.get (T2.mk number year))) fun t5 => Zfz t5) fun (hole : (Option Int)) =>
  (bd (whN' Zda (Zdb shut rest) (places, (T2.mk number year), turns, hole)) fun (s18 : (Dct (T2 Int Int) (T2 Tx Int)) × (T2 Int Int) × (List TNq) × (Option Int)) =>
  (bd (bd (Zff rest s18.1) fun t19 => .ok (T2.mk t19 s18.2.2.1)) fun r20 => .ok r20)))))))
theorem Zl7 (entries : (List ENq)) (shut : (Dct Int Int)) (number : Int) (year : Int) : Sim Zg7 [.sh ((encL eEq) entries), .sh ((encK kI D.int) shut), .sh (D.int number), .sh (D.int year)] (shE (enc2 (encL eRq) (encL eTq))) (Zhc entries shut number year) :=
 Zb9 Zkw (env := ([.sh ((encL eEq) entries), .sh ((encK kI D.int) shut), .sh (D.int number), .sh (D.int year), .un, .un, .un, .un, .un, .un, .un, .un] : En)) rfl (fun _ => Zat) (by
  unfold Zhc Zj0
  exact (Zci (f := (owE (encT kII (enc2 encS D.int)))) (fun places => ([.sh ((encL eEq) entries), .sh ((encK kI D.int) shut), .sh (D.int number), .sh (D.int year), .ow ((encT kII (enc2 encS D.int)) places), .un, .un, .un, .un, .un, .un, .un] : En)) (Zcg (fun _ => Zba) (Zdu (Za7 (Zae (Zaf (i := 0) rfl) (Zae (Zaf (i := 1) rfl) Zao)) (Zpy entries shut) (fun _ => Zba)) fun t1 => (Zbv (Zjn t1)))) (fun _ => Zba) (Nat.le_of_ble_eq_true rfl) (fun _ => rfl) fun places =>
 (Zfr (s := .sh ((enc2 D.int D.int) (T2.mk number year))) (env' := ([.sh ((encL eEq) entries), .sh ((encK kI D.int) shut), .sh (D.int number), .sh (D.int year), .ow ((encT kII (enc2 encS D.int)) places), .sh ((enc2 D.int D.int) (T2.mk number year)), .un, .un, .un, .un, .un, .un] : En)) (Zb7 (Zae (Zaf (i := 2) rfl) (Zae (Zaf (i := 3) rfl) Zao)) rfl (Nat.le_of_ble_eq_true rfl)) Zat (Nat.le_of_ble_eq_true rfl) rfl (b_if (Za4 (Zaf (i := 5) rfl) (Zbr (i := 4) rfl) (Zv2 (m := places) (i := (T2.mk number year)) rfl))
 Zvs
 (Zca (Z7e (env' := ([.sh ((encL eEq) entries), .sh ((encK kI D.int) shut), .sh (D.int number), .sh (D.int year), .ow ((encT kII (enc2 encS D.int)) places), .sh ((enc2 D.int D.int) (T2.mk number year)), .un, .un, .un, .un, .un, .un] : En)) rfl (Zci (f := (owE (encL eEq))) (fun rest => ([.sh ((encL eEq) entries), .sh ((encK kI D.int) shut), .sh (D.int number), .sh (D.int year), .ow ((encT kII (enc2 encS D.int)) places), .sh ((enc2 D.int D.int) (T2.mk number year)), .ow ((encL eEq) rest), .un, .un, .un, .un, .un] : En)) (Z37 (i := 7) (shE eEq) (fb := eEq) rfl (Zrl (Za7 (Zae (Zaf (i := 0) rfl) Zao) (Zig entries) (fun _ => Zba))) (fun one => (EvP.m (f := blE) (Za4 (Zb7 (Zae (Zau (Zaf (i := 7) rfl) (Za0 rfl rfl)) (Zae (Zau (Zaf (i := 7) rfl) (Za0 rfl rfl)) Zao)) rfl (Nat.le_of_ble_eq_true rfl)) (Zaf (i := 5) rfl) (op_ne (x := (T2.mk one.x2 one.x3)) (y := (T2.mk number year)) (eqe_2 eqe_int eqe_int) rfl rfl)))) (fun one => (EvP.m (f := (shE eEq)) (Zaf (i := 7) rfl))) (fun _ => rfl)) (fun _ => Zba) (Nat.le_of_ble_eq_true rfl) (fun _ => rfl) fun rest =>
 (Zci (f := (owE (encL eTq))) (fun turns => ([.sh ((encL eEq) entries), .sh ((encK kI D.int) shut), .sh (D.int number), .sh (D.int year), .ow ((encT kII (enc2 encS D.int)) places), .sh ((enc2 D.int D.int) (T2.mk number year)), .ow ((encL eEq) rest), .un, .ow ((encL eTq) turns), .un, .un, .un] : En)) (Z4i (f := owE (encL eTq)) (Zdu (Zga (f := shE eTq) (Zdq (Zaf (i := 2) rfl) (Zdq (Zaf (i := 3) rfl) (Zdu (Zq8 (Zcq (Zbr (i := 4) rfl) (Zaf (i := 5) rfl) (Zk3 (m := places) (i := (T2.mk number year)) rfl))) fun t3 => (Zdq Zmg (Zbv ⟨(T4.mk number year t3 none), _, rfl, Nat.le_of_ble_eq_true rfl, rfl, rfl⟩)))))) fun t4 => (Zbv ⟨[t4], _, rfl, Nat.le_of_ble_eq_true rfl, rfl, rfl⟩))) (fun _ => Zba) (Nat.le_of_ble_eq_true rfl) (fun _ => rfl) fun turns =>
 (Zci (f := (shE (encO D.int))) (fun hole => ([.sh ((encL eEq) entries), .sh ((encK kI D.int) shut), .sh (D.int number), .sh (D.int year), .ow ((encT kII (enc2 encS D.int)) places), .sh ((enc2 D.int D.int) (T2.mk number year)), .ow ((encL eEq) rest), .un, .ow ((encL eTq) turns), .sh ((encO D.int) hole), .un, .un] : En)) (Zcg (fun _ => Zat) (Zdu (Zcq (Zbr (i := 4) rfl) (Zaf (i := 5) rfl) (Zk3 (m := places) (i := (T2.mk number year)) rfl)) fun t5 => (Zbv (Zkk t5)))) (fun _ => Zat) (Nat.le_of_ble_eq_true rfl) (fun _ => rfl) fun hole =>
 (Z07 (s0 := (places, (T2.mk number year), turns, hole)) (fun (s6 : (Dct (T2 Int Int) (T2 Tx Int)) × (T2 Int Int) × (List TNq) × (Option Int)) => ([.sh ((encL eEq) entries), .sh ((encK kI D.int) shut), .sh (D.int number), .sh (D.int year), .ow ((encT kII (enc2 encS D.int)) s6.1), .sh ((enc2 D.int D.int) s6.2.1), .ow ((encL eEq) rest), .un, .ow ((encL eTq) s6.2.2.1), .sh ((encO D.int) s6.2.2.2), .un, .un] : En)) rfl (fun s6 => (EvP.m (f := blE) (Zau (Zaf (i := 9) rfl) (Zrm (o := s6.2.2.2) rfl (fun _ => rfl))))) (fun s6 => (Zci (f := (shE (encO eEq))) (fun taker => ([.sh ((encL eEq) entries), .sh ((encK kI D.int) shut), .sh (D.int number), .sh (D.int year), .ow ((encT kII (enc2 encS D.int)) s6.1), .sh ((enc2 D.int D.int) s6.2.1), .ow ((encL eEq) rest), .un, .ow ((encL eTq) s6.2.2.1), .sh ((encO D.int) s6.2.2.2), .sh ((encO eEq) taker), .un] : En)) (Zcg (fun _ => Zat) (Zdu (Zer (Zaf (i := 9) rfl)) fun t7 => (Zdq (Zbr (i := 6) rfl) (Zdq (Zaf (i := 1) rfl) (Zdq (Zbr (i := 4) rfl) (Zbv (Zmc t7 rest shut s6.1))))))) (fun _ => Zat) (Nat.le_of_ble_eq_true rfl) (fun _ => rfl) fun taker =>
 (Zxe (fun (s17 : (Dct (T2 Int Int) (T2 Tx Int)) × (T2 Int Int) × (List TNq) × (Option Int)) => ([.sh ((encL eEq) entries), .sh ((encK kI D.int) shut), .sh (D.int number), .sh (D.int year), .ow ((encT kII (enc2 encS D.int)) s17.1), .sh ((enc2 D.int D.int) s17.2.1), .ow ((encL eEq) rest), .un, .ow ((encL eTq) s17.2.2.1), .sh ((encO D.int) s17.2.2.2), .sh ((encO eEq) taker), .un] : En)) (Zau (Zaf (i := 10) rfl) (Z3w (o := taker) rfl (fun _ => rfl)))
 (Zfr (s := .sh ((encO D.int) none)) (env' := ([.sh ((encL eEq) entries), .sh ((encK kI D.int) shut), .sh (D.int number), .sh (D.int year), .ow ((encT kII (enc2 encS D.int)) s6.1), .sh ((enc2 D.int D.int) s6.2.1), .ow ((encL eEq) rest), .un, .ow ((encL eTq) s6.2.2.1), .sh ((encO D.int) none), .sh ((encO eEq) taker), .un] : En)) Zmg Zat (Nat.le_of_ble_eq_true rfl) rfl (Zbc (env' := ([.sh ((encL eEq) entries), .sh ((encK kI D.int) shut), .sh (D.int number), .sh (D.int year), .ow ((encT kII (enc2 encS D.int)) s6.1), .sh ((enc2 D.int D.int) s6.2.1), .ow ((encL eEq) rest), .un, .ow ((encL eTq) s6.2.2.1), .sh ((encO D.int) none), .sh ((encO eEq) taker), .un] : En)) rfl (Zcv rfl)))
 (Zci (f := (shE (enc2 D.int D.int))) (fun name' => ([.sh ((encL eEq) entries), .sh ((encK kI D.int) shut), .sh (D.int number), .sh (D.int year), .ow ((encT kII (enc2 encS D.int)) s6.1), .sh ((enc2 D.int D.int) name'), .ow ((encL eEq) rest), .un, .ow ((encL eTq) s6.2.2.1), .sh ((encO D.int) s6.2.2.2), .sh ((encO eEq) taker), .un] : En)) (Zga (f := shE (enc2 D.int D.int)) (Zdu (Zei (Zaf (i := 10) rfl) (Zif (o := taker) rfl (fun _ => rfl) (fun _ => rfl))) fun t8 => (Zdu (Zei (Zaf (i := 10) rfl) (Zif (o := taker) rfl (fun _ => rfl) (fun _ => rfl))) fun t9 => (Zbv ⟨(T2.mk t8 t9), _, rfl, Nat.le_of_ble_eq_true rfl, rfl, rfl⟩)))) (fun _ => Zat) (Nat.le_of_ble_eq_true rfl) (fun _ => rfl) fun name' =>
 (Zci (f := (shE (enc2 encS D.int))) (fun before => ([.sh ((encL eEq) entries), .sh ((encK kI D.int) shut), .sh (D.int number), .sh (D.int year), .ow ((encT kII (enc2 encS D.int)) s6.1), .sh ((enc2 D.int D.int) name'), .ow ((encL eEq) rest), .un, .ow ((encL eTq) s6.2.2.1), .sh ((encO D.int) s6.2.2.2), .sh ((encO eEq) taker), .sh ((enc2 encS D.int) before)] : En)) (Zcq (Zbr (i := 4) rfl) (Zaf (i := 5) rfl) (Zk3 (m := s6.1) (i := name') rfl)) (fun _ => Zat) (Nat.le_of_ble_eq_true rfl) (fun _ => rfl) fun before =>
 (Zxz (c := (encT kII (enc2 encS D.int)) s6.1) (f := (enc2 encS D.int)) rfl (Zga (f := shE (enc2 encS D.int)) (Zdq Zb1 (Zdu (Zer (Zaf (i := 9) rfl)) fun t10 => (Zbv ⟨(T2.mk (tx "stands") t10), _, rfl, Nat.le_of_ble_eq_true rfl, rfl, rfl⟩)))) (fun _ => rfl) (Zaf (i := 5) rfl) fun t16 => (setT (g := kII) (hg := Zku) (fun places' => ([.sh ((encL eEq) entries), .sh ((encK kI D.int) shut), .sh (D.int number), .sh (D.int year), .ow ((encT kII (enc2 encS D.int)) places'), .sh ((enc2 D.int D.int) name'), .ow ((encL eEq) rest), .un, .ow ((encL eTq) s6.2.2.1), .sh ((encO D.int) s6.2.2.2), .sh ((encO eEq) taker), .sh ((enc2 encS D.int) before)] : En)) rfl (fun _ => rfl) fun places' =>
 (Zs2 (f := eTq) (xs := s6.2.2.1) (fun turns' => ([.sh ((encL eEq) entries), .sh ((encK kI D.int) shut), .sh (D.int number), .sh (D.int year), .ow ((encT kII (enc2 encS D.int)) places'), .sh ((enc2 D.int D.int) name'), .ow ((encL eEq) rest), .un, .ow ((encL eTq) turns'), .sh ((encO D.int) s6.2.2.2), .sh ((encO eEq) taker), .sh ((enc2 encS D.int) before)] : En)) rfl (Zga (f := shE eTq) (Zdu (Zei (Zaf (i := 10) rfl) (Zif (o := taker) rfl (fun _ => rfl) (fun _ => rfl))) fun t12 => (Zdu (Zei (Zaf (i := 10) rfl) (Zif (o := taker) rfl (fun _ => rfl) (fun _ => rfl))) fun t13 => (Zdq (Zaf (i := 11) rfl) (Zdu (Zq8 (Zga (f := shE (enc2 encS D.int)) (Zdq Zb1 (Zdu (Zer (Zaf (i := 9) rfl)) fun t11 => (Zbv ⟨(T2.mk (tx "stands") t11), _, rfl, Nat.le_of_ble_eq_true rfl, rfl, rfl⟩))))) fun t14 => (Zbv ⟨(T4.mk t12 t13 (some before) t14), _, rfl, Nat.le_of_ble_eq_true rfl, rfl, rfl⟩)))))) (fun _ => rfl) (fun _ => rfl) fun turns' =>
 (Zci (f := (shE (encO D.int))) (fun hole'' => ([.sh ((encL eEq) entries), .sh ((encK kI D.int) shut), .sh (D.int number), .sh (D.int year), .ow ((encT kII (enc2 encS D.int)) places'), .sh ((enc2 D.int D.int) name'), .ow ((encL eEq) rest), .un, .ow ((encL eTq) turns'), .sh ((encO D.int) hole''), .sh ((encO eEq) taker), .sh ((enc2 encS D.int) before)] : En)) (Za7 (Zae (Zaf (i := 11) rfl) Zao) (Zkk before) (fun _ => Zat)) (fun _ => Zat) (Nat.le_of_ble_eq_true rfl) (fun _ => rfl) fun hole'' =>
 (Zbc (env' := ([.sh ((encL eEq) entries), .sh ((encK kI D.int) shut), .sh (D.int number), .sh (D.int year), .ow ((encT kII (enc2 encS D.int)) places'), .sh ((enc2 D.int D.int) name'), .ow ((encL eEq) rest), .un, .ow ((encL eTq) turns'), .sh ((encO D.int) hole''), .sh ((encO eEq) taker), .un] : En)) rfl (Zcv rfl))))))))
 fun s17 => (Zbc (env' := ([.sh ((encL eEq) entries), .sh ((encK kI D.int) shut), .sh (D.int number), .sh (D.int year), .ow ((encT kII (enc2 encS D.int)) s17.1), .sh ((enc2 D.int D.int) s17.2.1), .ow ((encL eEq) rest), .un, .ow ((encL eTq) s17.2.2.1), .sh ((encO D.int) s17.2.2.2), .un, .un] : En)) rfl (Zbc (env' := ([.sh ((encL eEq) entries), .sh ((encK kI D.int) shut), .sh (D.int number), .sh (D.int year), .ow ((encT kII (enc2 encS D.int)) s17.1), .sh ((enc2 D.int D.int) s17.2.1), .ow ((encL eEq) rest), .un, .ow ((encL eTq) s17.2.2.1), .sh ((encO D.int) s17.2.2.2), .un, .un] : En)) rfl (Zcv rfl)))))) fun s18 => (Z2c (env' := ([.sh ((encL eEq) entries), .sh ((encK kI D.int) shut), .sh (D.int number), .sh (D.int year), .ow ((encT kII (enc2 encS D.int)) s18.1), .sh ((enc2 D.int D.int) s18.2.1), .ow ((encL eEq) rest), .un, .sh ((encL eTq) s18.2.2.1), .sh ((encO D.int) s18.2.2.2), .un, .un] : En)) rfl rfl (Ziv (f := (shE (enc2 (encL eRq) (encL eTq)))) (t := fun r20 => r20) (Zga (f := shE (enc2 (encL eRq) (encL eTq))) (Zdu (Za7 (Zae (Zbr (i := 6) rfl) (Zae (Zbr (i := 4) rfl) Zao)) (Zpr rest s18.1) (fun _ => Zba)) fun t19 => (Zdq (Zaf (i := 8) rfl) (Zbv ⟨(T2.mk t19 s18.2.2.1), _, rfl, Nat.le_of_ble_eq_true rfl, rfl, rfl⟩)))) fun _ => rfl))))))))))))
structure Split (E : List Ent) (sh : Shut) (x : Ent) : Prop where
  uni : ((E ++ [x]).map nm).Nodup
  all : ∀ e ∈ E ++ [x], GoodE e
  len : E.length ≤ 79
  shut : GoodS sh
theorem Zxp (p : T2 Tx Int) : Zdp p = .ok true := by
  unfold Zdp
  rw [Zm8]
  rfl
theorem Z17 (ts : List Turn) : Zc2 ts = .ok true := by
  unfold Zc2
  rw [Zc6 (show (!true) = false from rfl)]
  obtain ⟨s, e, _⟩ := Zot (step := Zd7) (fun _ => True) (xs := ts) (fun t _ s _ => ⟨(), by
    unfold Zd7 Zgu
    rw [Zc6 (by rfl), Zm8, Zas, Zas, Zc6 (show (!true) = false from rfl), Zm8, Zas, Zas, Zc6 (show (!true) = false from rfl)]
    obtain ⟨s, e, _⟩ := Zot (step := Zd6) (fun _ => True) (xs := [t.x3, t.x4]) (fun o _ s _ => ⟨(), by
      unfold Zd6 Zgw
      cases o with
      | none => rfl
      | some p =>
        rw [Zgz (by rfl), Zay, Zas, Zxp]
        rfl, trivial⟩) (s := ()) trivial
    rw [e, Zqi], trivial⟩) (s := ()) trivial
  rw [e, Zqi]
theorem Zux (f : T2 (List Row) (List Turn)) : Zb8 f = .ok true := by
  unfold Zb8
  rw [Zc6 (by rfl), Z42, Zas, Zgz rfl, Z17, Zas]
def Ckd : List Tn → Prop
  | [] => True
  | [_] => True
  | p :: q :: l => Lk p q ∧ Ckd (q :: l)
theorem Ckd.snoc : ∀ {l : List Tn} {p q : Tn}, Ckd (l ++ [p]) → Lk p q → Ckd (l ++ [p] ++ [q])
  | [], _, _, _, h => ⟨h, trivial⟩
  | [a], _, _, h, h' => ⟨h.1, h', trivial⟩
  | a :: b :: l, p, q, h, h' => ⟨h.1, Ckd.snoc (l := b :: l) h.2 h'⟩
theorem CH.ckd {x : Ent} {l : List Tn} {p : Tn} (h : CH x l p) : Ckd (l ++ [p]) ∧ ∃ t ts, l ++ [p] = t :: ts ∧ t.e = x := by
  induction h with
  | one h => exact ⟨trivial, _, [], rfl, h⟩
  | more h k ih =>
    obtain ⟨i1, t, ts, i2, i3⟩ := ih
    exact ⟨i1.snoc k, t, ts ++ [_], by rw [i2]; rfl, i3⟩
theorem Ckd.tail : ∀ {l : List Tn} {p : Tn} {r : List Tn}, Ckd (l ++ p :: r) → Ckd (p :: r)
  | [], _, _, h => h
  | [_], _, _, h => h.2
  | _ :: b :: l, _, _, h => Ckd.tail (l := b :: l) h.2
noncomputable def Tn.back (t : Tn) : Turn := ⟨t.e.x2, t.e.x3, some t.a, t.b⟩
theorem FI.back {E : List Ent} {sh : Shut} {x : Ent} {m1 : Dct Nm (T2 Tx Int)} {ch : List Tn} (hu : ((E ++ [x]).map nm).Nodup) (F : FI sh (E ++ [x]) (plO E sh) x m1 ch) : ch.map Tn.back = dueT (E ++ [x]) (plO (E ++ [x]) sh) (plO E sh) := by
    have h := F.due hu
    have sw : dueT (E ++ [x]) (plO (E ++ [x]) sh) (plO E sh) = (dueT (E ++ [x]) (plO E sh) (plO (E ++ [x]) sh)).map fun t => ⟨t.x1, t.x2, t.x4, t.x3⟩ := by
      unfold dueT
      rw [List.map_map]
      have : (fun e : Ent => decide (plO (E ++ [x]) sh (nm e) ≠ plO E sh (nm e))) = fun e => decide (plO E sh (nm e) ≠ plO (E ++ [x]) sh (nm e)) := funext fun e => decide_eq_decide.mpr ne_comm
      rw [this]; rfl
    rw [sw, ← h, List.map_map]; rfl
def Wnt (e : Ent) (d : Int) (sh : Shut) (p : T2 Tx Int) : Prop := opn e.x1 d sh = true ∧ ((e.x4 = tx "moves" ∧ e.x5 ≤ d ∧ d < p.x2) ∨ (e.x4 ≠ tx "moves" ∧ e.x5 = d ∧ p.x1 ≠ tx "stands"))
instance (e : Ent) (d : Int) (sh : Shut) (p : T2 Tx Int) : Decidable (Wnt e d sh p) := by unfold Wnt; infer_instance
theorem Z0q (e : Ent) (d : Int) (sh : Shut) (p : T2 Tx Int) : Zpg e d sh p = .ok (decide (Wnt e d sh p)) := by
  unfold Zpg Wnt
  rw [Zrz, Zas, Zas]
  by_cases ho : opn e.x1 d sh = true
  · rw [Zc6 (by rw [ho]; rfl)]
    by_cases hm : e.x4 = tx "moves"
    · rw [Zgz (decide_eq_true hm)]
      refine congrArg Except.ok ?_
      rw [← Bool.decide_and]
      exact decide_eq_decide.mpr ⟨fun z => ⟨ho, .inl ⟨hm, z.1, z.2⟩⟩, fun z => by
        rcases z.2 with w | w
        · exact w.2
        · exact (w.1 hm).elim⟩
    · rw [Zc6 (decide_eq_false hm)]
      refine congrArg Except.ok ?_
      rw [← decide_not, ← Bool.decide_and]
      exact decide_eq_decide.mpr ⟨fun z => ⟨ho, .inr ⟨hm, z.1, z.2⟩⟩, fun z => by
        rcases z.2 with w | w
        · exact (hm w.1).elim
        · exact w.2⟩
  · rw [Zgz (by rw [Bool.eq_false_iff.mpr ho]; rfl)]
    exact congrArg Except.ok (decide_eq_false fun z => ho z.1).symm
theorem Z1h (d : Int) (sh : Shut) (m : Dct Nm (T2 Tx Int)) {P : Pl} : ∀ (R : List Ent), (∀ e ∈ R, m.get (nm e) = some (P (nm e))) → Zhn d R sh m = .ok (R.find? fun e => decide (Wnt e d sh (P (nm e)))) := by
  intro R h
  unfold Zhn
  have go : ∀ R : List Ent, (∀ e ∈ R, m.get (nm e) = some (P (nm e))) → Zft (ρ := Option Ent) (Zfs d sh m) R () = .ok (match R.find? fun e => decide (Wnt e d sh (P (nm e))) with | some e => .ret (some e) | none => .nx ()) := by
    intro R
    induction R with
    | nil => intro _; rfl
    | cons e R ih =>
      intro h
      have hg : m.get (T2.mk e.x2 e.x3) = some (P (nm e)) := h e List.mem_cons_self
      have hs : Zfs d sh m () e = .ok (cond (decide (Wnt e d sh (P (nm e)))) (.ret (some e)) (.nx ())) := by
        unfold Zfs Zlx
        rw [hg, Zay, Zas, Z0q, Zas]
        cases decide (Wnt e d sh (P (nm e))) <;> rfl
      by_cases hw : Wnt e d sh (P (nm e))
      · rw [List.find?_cons_of_pos (p := fun e => decide (Wnt e d sh (P (nm e)))) (decide_eq_true hw)]
        rw [Zgz (decide_eq_true hw)] at hs
        rw [Zft, hs]; rfl
      · rw [List.find?_cons_of_neg (p := fun e => decide (Wnt e d sh (P (nm e)))) (by rw [decide_eq_true_eq]; exact hw)]
        rw [Zc6 (decide_eq_false hw)] at hs
        rw [Zft, hs, ← ih fun e he => h e (List.mem_cons_of_mem _ he)]
        rfl
  rw [go R h]
  cases R.find? fun e => decide (Wnt e d sh (P (nm e))) <;> rfl
noncomputable def dl (p : T2 Tx Int) : Option Int := if p.x1 = tx "stands" then some p.x2 else none
theorem Zym (p : T2 Tx Int) : Zfz p = .ok (dl p) := by
  unfold Zfz dl
  by_cases h : p.x1 = tx "stands"
  · rw [Zgz (decide_eq_true h), if_pos h]
  · rw [Zc6 (decide_eq_false h), if_neg h]
theorem Z53 {p : T2 Tx Int} (h : p.x1 = tx "stands") : p = ⟨tx "stands", p.x2⟩ := by
  cases p
  dsimp only at h ⊢
  rw [h]
theorem Z3q {sh : Shut} {H : List Int} {e : Ent} {d : Int} (hd : d ∉ H) : ¬ Wnt e d sh (plc sh H e) := by
  rintro ⟨ho, h⟩
  have hb : blk e.x1 sh H d = false := Zlv.mpr ⟨ho, hd⟩
  rcases h with ⟨hm, h1, h2⟩ | ⟨hm, h1, h2⟩
  · have := Zr5 (Zfm (sh := sh) (H := H) hm) d h1 h2
    rw [hb] at this; cases this
  · subst h1
    exact h2 (Zir hb)
abbrev TS := Dct Nm (T2 Tx Int) × Nm × List Turn × Option Int
theorem Z4x {L : List Ent} (hs : L.Pairwise hi) {p : Ent → Bool} {e : Ent} (he : e ∈ L) (h1 : p e = true) (h2 : ∀ g ∈ L, hi g e → p g = false) : L.find? p = some e := by
  induction L with
  | nil => cases he
  | cons a L ih =>
    rcases List.mem_cons.mp he with rfl | he
    · exact List.find?_cons_of_pos h1
    · rw [List.find?_cons_of_neg (by rw [h2 a List.mem_cons_self ((List.pairwise_cons.mp hs).1 e he)]; simp)]
      exact ih (List.pairwise_cons.mp hs).2 he fun g hg => h2 g (List.mem_cons_of_mem _ hg)
theorem Zud {L E : List Ent} (sh : Shut) (x : Ent) (hp : L.Perm (E ++ [x])) (hu : ((E ++ [x]).map nm).Nodup) (hl : E.length ≤ 900) : Zhc L sh x.x2 x.x3 = .ok ⟨LAY E sh, dueT (E ++ [x]) (plO (E ++ [x]) sh) (plO E sh)⟩ := by
  obtain ⟨m1, ch, _, F⟩ := Zss sh x hu hl
  have hdue : ch.map Tn.back = dueT (E ++ [x]) (plO (E ++ [x]) sh) (plO E sh) := by
    have h := F.due hu
    have sw : dueT (E ++ [x]) (plO (E ++ [x]) sh) (plO E sh) = (dueT (E ++ [x]) (plO E sh) (plO (E ++ [x]) sh)).map fun t => ⟨t.x1, t.x2, t.x4, t.x3⟩ := by
      unfold dueT
      rw [List.map_map]
      have : (fun e : Ent => decide (plO (E ++ [x]) sh (nm e) ≠ plO E sh (nm e))) = fun e => decide (plO E sh (nm e) ≠ plO (E ++ [x]) sh (nm e)) := funext fun e => decide_eq_decide.mpr ne_comm
      rw [this]; rfl
    rw [sw, ← h, List.map_map]; rfl
  have hA := F.mem
  obtain ⟨l, p, hch, hCH, hend⟩ := F.chn
  obtain ⟨hck, t0, ts, ht0, hx0⟩ := hCH.ckd
  rw [← hch] at hck ht0
  have hu1 : (E.map nm).Nodup := by
    rw [List.map_append] at hu
    exact (List.nodup_append.mp hu).1
  have hxE : nm x ∉ E.map nm := fun z => by
    rw [List.map_append] at hu
    exact (List.nodup_append.mp hu).2.2 _ z _ (by simp) rfl
  have hAl : (E ++ [x]).length = E.length + 1 := by simp
  have huL : (L.map nm).Nodup := Zi2 hp hu
  have hLl : L.length = E.length + 1 := by rw [hp.length_eq, hAl]
  have hLAY : LAY L sh = LAY (E ++ [x]) sh := by rw [LAY, LAY, Zit hu hp]
  have inE : ∀ e ∈ E ++ [x], nm e ≠ nm x → e ∈ E := fun e he ne => by
    rcases List.mem_append.mp he with z | z
    · exact z
    · rw [List.mem_singleton.mp z] at ne; exact (ne rfl).elim
  have neE : ∀ e ∈ E, nm e ≠ nm x := fun e he z => hxE (z ▸ List.mem_map.mpr ⟨e, he, rfl⟩)
  have hg := Zm4 (sh := sh) hu1
  have xA : x ∈ E ++ [x] := by simp
  -- what stands in the chain
  have pA : ∀ t ∈ ch, plO (E ++ [x]) sh (nm t.e) = some t.a := fun t ht => by
    obtain ⟨a1, a2, a3, a4⟩ := hA t ht
    rw [Zse hu F.good a1, ← F.get _ a1, a3]
  have pE : ∀ t ∈ ch, plO E sh (nm t.e) = t.b := fun t ht => (hA t ht).2.1.symm
  have pO : ∀ e ∈ E ++ [x], e ∉ ch.map Tn.e → plO (E ++ [x]) sh (nm e) = plO E sh (nm e) := fun e he hn => by
    rw [Zse hu F.good he, ← F.get e he, F.oth e he hn]
  unfold Zhc
  rw [Z25 sh huL (by omega), Zas, hLAY]
  obtain ⟨m0, em, hm, hml⟩ := Ztc (A := E ++ [x]) sh hu (by omega)
  have hxg : m0.get (T2.mk x.x2 x.x3) = some t0.a := by
    have h1 := pA t0 (by rw [ht0]; simp)
    rw [hx0] at h1
    rw [show (T2.mk x.x2 x.x3 : Nm) = nm x from rfl, hm]
    exact h1
  rw [em, Zas, Zc6 (by unfold Dct.has; rw [hxg]; rfl), Zl3 huL, Zas]
  rw [Zna (fun one : Ent => !decide ((T2.mk one.x2 one.x3 : Nm) = (T2.mk x.x2 x.x3))) (fun one => one) (ord L) [] (by have := (Zbn L).length_eq; simp; omega), Zas, List.nil_append, List.map_id']
  have hR : (ord L).filter (fun one : Ent => !decide ((T2.mk one.x2 one.x3 : Nm) = (T2.mk x.x2 x.x3))) = ord E := by
    rw [Zit hu hp, ← Z4h hu List.filter_sublist]
    have hpm : ((ord (E ++ [x])).filter (fun one : Ent => !decide ((T2.mk one.x2 one.x3 : Nm) = (T2.mk x.x2 x.x3)))).Perm E := by
      refine ((Zbn (E ++ [x])).filter _).trans ?_
      rw [List.filter_append]
      have e1 : E.filter (fun one : Ent => !decide ((T2.mk one.x2 one.x3 : Nm) = (T2.mk x.x2 x.x3))) = E := List.filter_eq_self.mpr fun e he => by
        rw [decide_eq_false (show ¬ (T2.mk e.x2 e.x3 : Nm) = T2.mk x.x2 x.x3 from neE e he)]; rfl
      rw [e1, List.filter_cons_of_neg (by simp), List.filter_nil, List.append_nil]
    exact Zit hu1 hpm
  rw [hR, hxg, Zay, Zas, Zas, Zas, Zas, Zas, Zym, Zas]
  have hot : ∀ e, e ∈ ord E ↔ e ∈ E := fun e => (Zbn E).mem_iff
  have hcl : ch.length ≤ 1000 := by
    have h1 := congrArg List.length hdue
    rw [List.length_map] at h1
    have h2 : (dueT (E ++ [x]) (plO (E ++ [x]) sh) (plO E sh)).length ≤ (E ++ [x]).length := by
      unfold dueT
      rw [List.length_map]
      refine Nat.le_trans (List.length_filter_le _ _) ?_
      rw [(Zbn _).length_eq]
      exact Nat.le_refl _
    omega
  have main : ∀ d0, t0.a = ⟨tx "stands", d0⟩ → ∃ s', whN' Zda (Zdb sh (ord E)) (m0, nm x, [t0].map Tn.back, some d0) = .ok s' ∧ ∃ m k, s' = (m, k, ch.map Tn.back, none) ∧ ∀ e ∈ E, m.get (nm e) = plO E sh (nm e) := fun d0 hd0 => Zq0 (c := Zda) (step := Zdb sh (ord E)) (fun n (s : TS) => ∃ pre t ts m k d, ch = pre ++ t :: ts ∧ n = ts.length ∧ s = (m, k, (pre ++ [t]).map Tn.back, some d) ∧ t.a = ⟨tx "stands", d⟩ ∧ (∀ e ∈ E, e ∉ (pre ++ [t]).map Tn.e → m.get (nm e) = plO (E ++ [x]) sh (nm e)) ∧ (∀ u ∈ pre ++ [t], u.e ∈ E → m.get (nm u.e) = u.b ∧ ∃ d', u.b = some ⟨tx "stands", d'⟩ ∧ d' < d) ∧ m.l.length ≤ E.length + 1 + (pre ++ [t]).length)
    (fun (s : TS) => ∃ m k, s = (m, k, ch.map Tn.back, none) ∧ ∀ e ∈ E, m.get (nm e) = plO E sh (nm e)) (fun n s hs => by
    obtain ⟨pre, t, ts, m, k, d, hc, rfl, rfl, hta, g1, g2, gl⟩ := hs
    right
    refine ⟨rfl, ?_⟩
    -- where all are
    have hP : ∃ P : Pl, (∀ e ∈ E, m.get (nm e) = some (P (nm e))) ∧ (∀ e ∈ E, e ∉ ch.map Tn.e → P (nm e) = plP E sh (nm e)) ∧ (∀ u ∈ pre ++ [t], u.e ∈ E → ∃ d', P (nm u.e) = ⟨tx "stands", d'⟩ ∧ d' < d) ∧ (∀ u ∈ ts, P (nm u.e) = u.a) := by
      refine ⟨PF m, fun e he => ?_, fun e he hn => ?_, fun u hu' hE => ?_, fun u hu' => ?_⟩
      · by_cases z : e ∈ (pre ++ [t]).map Tn.e
        · obtain ⟨u, hu', rfl⟩ := List.mem_map.mp z
          obtain ⟨q1, d', q2, q3⟩ := g2 u hu' he
          rw [Zkj (q1.trans q2), q1, q2]
        · have h1 := g1 e he z
          obtain ⟨h2, _⟩ := Ze2 (sh := sh) hu (List.mem_append_left [x] he)
          rw [Zkj (h1.trans h2), h1, h2]
      · have z : e ∉ (pre ++ [t]).map Tn.e := fun z => hn (by
          rw [hc]
          obtain ⟨u, hu', rfl⟩ := List.mem_map.mp z
          refine List.mem_map.mpr ⟨u, ?_, rfl⟩
          rcases List.mem_append.mp hu' with w | w
          · exact List.mem_append_left _ w
          · rw [List.mem_singleton.mp w]; simp)
        have h1 := g1 e he z
        rw [pO e (List.mem_append_left _ he) hn, (Ze2 (sh := sh) hu1 he).1] at h1
        exact Zkj h1
      · obtain ⟨q1, d', q2, q3⟩ := g2 u hu' hE
        exact ⟨d', Zkj (q1.trans q2), q3⟩
      · have uc : u ∈ ch := by rw [hc]; simp [hu']
        have z : u.e ∉ (pre ++ [t]).map Tn.e := fun z => by
          have hs := F.srt
          rw [hc, show pre ++ t :: ts = (pre ++ [t]) ++ ts by simp, List.map_append] at hs
          exact Zg0 _ ((List.pairwise_append.mp hs).2.2 _ z _ (List.mem_map.mpr ⟨u, hu', rfl⟩))
        have uE : u.e ∈ E := inE _ (hA u uc).1 fun w => by
          have : u.e = x := Zma hu _ (hA u uc).1 _ xA w
          refine z ?_
          rw [this, ← hx0]
          have : t0 ∈ pre ++ [t] := by
            rw [hc] at ht0
            cases pre with
            | nil => rw [List.nil_append] at ht0; injection ht0 with a b; rw [← a]; simp
            | cons c pre => injection ht0 with a b; rw [← a]; simp
          exact List.mem_map.mpr ⟨t0, this, rfl⟩
        exact Zkj ((g1 _ uE z).trans (pA u uc))
    obtain ⟨P, P1, P2, P3, P4⟩ := hP
    have hck' : Ckd (t :: ts) := by rw [hc] at hck; exact hck.tail
    have tk := Z1h d sh m (P := P) (ord E) fun e he => P1 e ((hot e).mp he)
    -- one of the chain behind does not want it ahead of the next
    have hn : ∀ e ∈ E, (∀ u ∈ ts, u.e ≠ e) → (∀ g ∈ E, hi g e → plP E sh (nm g) ≠ ⟨tx "stands", d⟩) → ¬ Wnt e d sh (P (nm e)) := fun e he hne hno w => by
      by_cases z : e ∈ ch.map Tn.e
      · obtain ⟨u, hu', rfl⟩ := List.mem_map.mp z
        rw [hc, show pre ++ t :: ts = (pre ++ [t]) ++ ts by simp] at hu'
        rcases List.mem_append.mp hu' with w' | w'
        · obtain ⟨d', q1, q2⟩ := P3 u w' he
          rw [q1] at w
          rcases w.2 with ⟨_, _, q⟩ | ⟨_, _, q⟩
          · have q : d < d' := q
            omega
          · exact q rfl
        · exact hne u w' rfl
      · rw [P2 e he z, hg e he] at w
        refine Z3q (fun q => ?_) w
        obtain ⟨g, q1, q2, q3⟩ := Zcs.mp q
        exact hno g q1 q2 q3
    unfold Zdb
    rw [Zay, Zas, tk, Zas]
    cases ts with
    | nil =>
      have hlast : t = p := by
        rw [hch] at hc
        exact ((List.append_inj' hc rfl).2 ▸ rfl : [p] = [t]) |> fun h => by injection h with h; exact h.symm
      have hnone : (ord E).find? (fun e => decide (Wnt e d sh (P (nm e)))) = none := List.find?_eq_none.mpr fun e he w => by
        refine hn e ((hot e).mp he) (fun u hu' => by cases hu') (fun g hgE _ q => ?_) (of_decide_eq_true w)
        rw [← hlast, hta] at hend
        have h1 := hend rfl g (List.mem_append_left _ hgE)
        exact h1 (by rw [(Ze2 hu1 hgE).1, q])
      have hj : Zfv (m, k, (pre ++ [t]).map Tn.back, some d) none = .ok (m, k, (pre ++ [t]).map Tn.back, none) := rfl
      rw [hnone, hj, Zas]
      refine ⟨_, rfl, .inr ⟨rfl, m, k, by rw [hc], fun e he => ?_⟩⟩
      by_cases z : e ∈ ch.map Tn.e
      · obtain ⟨u, hu', rfl⟩ := List.mem_map.mp z
        rw [pE u hu']
        rw [hc] at hu'
        exact (g2 u hu' he).1
      · rw [P1 e he, P2 e he z, (Ze2 hu1 he).1]
    | cons q ts =>
      have qc : q ∈ ch := by rw [hc]; simp
      obtain ⟨d1, k1, k2, k3⟩ := hck'.1
      have hd1 : d1 = d := by rw [hta] at k1; exact (congrArg T2.x2 k1).symm
      subst hd1
      have hqA := hA q qc
      have qE : q.e ∈ E := inE _ hqA.1 fun w => by
        have h1 := hqA.2.1
        rw [k2, w, Znd hxE] at h1
        cases h1
      have hqE : plP E sh (nm q.e) = ⟨tx "stands", d1⟩ := by
        have h1 := hqA.2.1
        rw [k2, (Ze2 hu1 qE).1] at h1
        injection h1 with h1
        exact h1.symm
      have hpq := hg q.e qE
      rw [hqE] at hpq
      have hst : (plc sh (hd E (plP E sh) q.e) q.e).x1 = tx "stands" := by rw [← hpq]
      have hfr := Zji hst
      rw [← hpq] at hfr
      have hPq : P (nm q.e) = q.a := P4 q List.mem_cons_self
      have hqa : q.a = plc sh (hd (E ++ [x]) (PF m1) q.e) q.e := by
        have h1 := F.good q.e hqA.1
        rw [← h1, Zkj hqA.2.2.1]
      have hw : Wnt q.e d1 sh (P (nm q.e)) := by
        refine ⟨(Zlv.mp hfr.2.1).1, ?_⟩
        rw [hPq]
        by_cases hm : q.e.x4 = tx "moves"
        · exact .inl ⟨hm, hfr.1, k3 (by rw [hqa]; exact Zfm hm)⟩
        · refine .inr ⟨hm, ?_, fun z => ?_⟩
          · have h1 := Zrb (sh := sh) (H := hd E (plP E sh) q.e) hm
            rw [← hpq] at h1
            exact h1.symm
          · have h1 := Zrb (sh := sh) (H := hd E (plP E sh) q.e) hm
            rw [← hpq] at h1
            have h2 := Zrb (sh := sh) (H := hd (E ++ [x]) (PF m1) q.e) hm
            rw [← hqa] at h2
            have h3 := k3 z
            have h1 : d1 = q.e.x5 := h1
            omega
      have hsome : (ord E).find? (fun e => decide (Wnt e d1 sh (P (nm e)))) = some q.e := by
        refine Z4x (Zvm hu1) ((hot _).mpr qE) (decide_eq_true hw) fun g hgo hgq => decide_eq_false (hn g ((hot g).mp hgo) (fun u hu' z => ?_) fun f hf hfg z => ?_)
        · subst z
          have hs := F.srt
          rw [hc, show pre ++ t :: q :: ts = (pre ++ [t]) ++ q :: ts by simp, List.map_append, List.map_cons] at hs
          have hs2 := List.pairwise_cons.mp (List.pairwise_append.mp hs).2.1
          rcases List.mem_cons.mp hu' with rfl | w
          · exact Zg0 _ hgq
          · exact Ztw hgq (hs2.1 _ (List.mem_map.mpr ⟨u, w, rfl⟩))
        · have ne : nm f ≠ nm q.e := fun w => by
            have := Zma hu1 _ hf _ qE w
            subst this
            exact Ztw hgq hfg
          exact hg.apart hf qE ne z hqE
      rw [hsome]
      have hgq : m.get (T2.mk q.e.x2 q.e.x3) = some q.a := by
        have h1 := P1 q.e qE
        rw [hPq] at h1
        exact h1
      have hpl : (pre ++ [t]).length ≤ 1000 := by
        rw [hc] at hcl
        rw [List.length_append, List.length_cons, List.length_cons] at hcl
        rw [List.length_append, List.length_singleton]; omega
      have hj : Zfv (m, k, (pre ++ [t]).map Tn.back, some d1) (some q.e) = .ok (m.put (nm q.e) ⟨tx "stands", d1⟩, nm q.e, (pre ++ [t] ++ [q]).map Tn.back, dl q.a) := by
        unfold Zfv
        rw [Zc6 (show (some q.e).isNone = false from rfl)]
        dsimp only [Option.map_some]
        rw [Zay, Zas, Zay, Zas, Zas, hgq, Zay, Zas, Zay, Zas, Zas, Zh5 (by omega), Zay, Zas, Zas, Zas, Zas, Zas, Zas, Zeo (by rw [List.length_map]; omega), Zay, Zas, Zym, Zas, List.map_append (l₁ := pre ++ [t]), List.map_singleton]
        unfold Tn.back
        rw [k2]
        rfl
      rw [hj, Zas]
      refine ⟨_, rfl, ?_⟩
      have hget : ∀ n, (m.put (nm q.e) ⟨tx "stands", d1⟩).get n = if n = nm q.e then some ⟨tx "stands", d1⟩ else m.get n := fun n => Zge _ _ _ _
      have ord1 : ∀ u ∈ pre ++ [t], hi u.e q.e := fun u hu' => by
        have hs := F.srt
        rw [hc, show pre ++ t :: q :: ts = (pre ++ [t]) ++ q :: ts by simp, List.map_append, List.map_cons] at hs
        exact (List.pairwise_append.mp hs).2.2 _ (List.mem_map.mpr ⟨u, hu', rfl⟩) _ List.mem_cons_self
      have ne1 : ∀ e ∈ E, e ≠ q.e → nm e ≠ nm q.e := fun e he h z => h (Zma hu1 _ he _ qE z)
      have G1 : ∀ e ∈ E, e ∉ (pre ++ [t] ++ [q]).map Tn.e → (m.put (nm q.e) ⟨tx "stands", d1⟩).get (nm e) = plO (E ++ [x]) sh (nm e) := fun e he hn => by
        rw [List.map_append, List.mem_append, not_or] at hn
        rw [hget, if_neg (ne1 e he fun z => hn.2 (by rw [z]; simp))]
        exact g1 e he hn.1
      have G2 : ∀ u ∈ pre ++ [t] ++ [q], u.e ∈ E → (m.put (nm q.e) ⟨tx "stands", d1⟩).get (nm u.e) = u.b := fun u hu' hE => by
        rcases List.mem_append.mp hu' with w | w
        · rw [hget, if_neg (ne1 _ hE fun z => by have := ord1 u w; rw [z] at this; exact Zg0 _ this)]
          exact (g2 u w hE).1
        · rw [List.mem_singleton.mp w, hget, if_pos rfl, k2]
      have hc2 : ch = (pre ++ [t]) ++ q :: ts := by rw [hc]; simp
      by_cases hs : q.a.x1 = tx "stands"
      · refine .inl ⟨ts.length, by simp, pre ++ [t], q, ts, _, _, q.a.x2, hc2, rfl, by unfold dl; rw [if_pos hs], Z53 hs, G1, fun u hu' hE => ⟨G2 u hu' hE, ?_⟩, ?_⟩
        · have h3 := k3 hs
          rcases List.mem_append.mp hu' with w | w
          · obtain ⟨_, d', q2, q3⟩ := g2 u w hE
            exact ⟨d', q2, by omega⟩
          · rw [List.mem_singleton.mp w]
            exact ⟨d1, k2, h3⟩
        · have := Zjk m (nm q.e) ⟨tx "stands", d1⟩
          rw [List.length_append (as := pre ++ [t]), List.length_singleton]; omega
      · have hts : ts = [] := by
          cases ts with
          | nil => rfl
          | cons r ts =>
            obtain ⟨d2, r1, _⟩ := hck'.2.1
            exact (hs (by rw [r1])).elim
        subst hts
        refine .inr ⟨by unfold Zda dl; rw [if_neg hs]; rfl, _, _, by unfold dl; rw [if_neg hs, hc2], fun e he => ?_⟩
        by_cases z : e ∈ ch.map Tn.e
        · obtain ⟨u, hu', rfl⟩ := List.mem_map.mp z
          rw [pE u hu']
          rw [hc2] at hu'
          exact G2 u hu' he
        · have zn : e ∉ (pre ++ [t] ++ [q]).map Tn.e := by rw [hc2] at z; exact z
          rw [G1 e he zn, pO e (List.mem_append_left _ he) z]) (n := ts.length) ⟨[], t0, ts, m0, nm x, d0, by rw [ht0]; rfl, rfl, rfl, hd0, fun e he _ => hm _, fun u hu' hE => by
      rw [List.mem_singleton.mp hu', hx0] at hE
      exact (hxE (List.mem_map.mpr ⟨x, hE, rfl⟩)).elim, by rw [hAl] at hml; simp; omega⟩
  have W : ∃ s', whN' Zda (Zdb sh (ord E)) (m0, nm x, [t0].map Tn.back, dl t0.a) = .ok s' ∧ ∃ m k, s' = (m, k, ch.map Tn.back, none) ∧ ∀ e ∈ E, m.get (nm e) = plO E sh (nm e) := by
    by_cases hs0 : t0.a.x1 = tx "stands"
    · unfold dl
      rw [if_pos hs0]
      exact main _ (Z53 hs0)
    · have hts : ts = [] := by
        cases ts with
        | nil => rfl
        | cons r ts =>
          rw [ht0] at hck
          obtain ⟨d2, r1, _⟩ := hck.1
          exact (hs0 (by rw [r1])).elim
      subst hts
      unfold dl
      rw [if_neg hs0]
      refine Zq0 (c := Zda) (step := Zdb sh (ord E)) (fun _ (s : TS) => s = (m0, nm x, [t0].map Tn.back, none)) _ (fun n s h => .inl ⟨by rw [h]; rfl, m0, nm x, by rw [h, ht0], fun e he => ?_⟩) (n := 0) rfl
      rw [hm]
      refine pO e (List.mem_append_left _ he) fun z => ?_
      rw [ht0] at z
      have : e = x := by rw [← hx0]; simpa using z
      exact hxE (this ▸ List.mem_map.mpr ⟨e, he, rfl⟩)
  obtain ⟨s, es, m, k, hs, hmg⟩ := W
  have hb0 : t0.b = none := by
    rw [← pE t0 (by rw [ht0]; simp), hx0, Znd hxE]
  have e0 : ([t0].map Tn.back) = [⟨x.x2, x.x3, some t0.a, none⟩] := by
    rw [List.map_singleton]
    unfold Tn.back
    rw [hx0, hb0]
  rw [e0] at es
  rw [show (T2.mk x.x2 x.x3 : Nm) = nm x from rfl, es, Zas, hs]
  dsimp only
  rw [Zp9 m (P := plP E sh) (Zi2 (Zbn E) hu1) (by rw [(Zbn E).length_eq]; omega) (fun e he => by
    rw [hmg e ((hot e).mp he), (Ze2 hu1 ((hot e).mp he)).1]), Zas, Zas, Zit hu1 (Zbn E), ← Z29 hu1, hdue]
end DL
set_option Elab.async false
set_option linter.all false
set_option maxRecDepth 100000
set_option maxHeartbeats 1000000
set_option synthInstance.maxSize 2000
set_option synthInstance.maxHeartbeats 400000
namespace DL
open PySem PySem.Spec PyProof.Rows L2
def Zcy : WS :=
 (wFgt 1 (wRet (wLc 1 (Zhv (wVar 0)) (wBl true) (wTup (Zam (wUn (oIxN 0) (wVar 1)) (Zam (wUn (oIxN 1) (wVar 1)) (Zam (wUn (oIxN 3) (wVar 1)) (Zam (wUn (oIxN 2) (wVar 1)) aNil))))))))
theorem Zgm : Zbl Zcy := (Zbu (Zb3 (Zr8 (Zhk (Zab 0)) m_bl (Zcr (Zaa (Zai (Zab 1) Zah) (Zaa (Zai (Zab 1) Zah) (Zaa (Zai (Zab 1) Zah) (Zaa (Zai (Zab 1) Zah) Zan))))))))
@[irreducible] def Zcj : G := gOf 2 Zcy
theorem Zdy : Zcj = gOf 2 Zcy := by with_unfolding_all rfl
theorem Zk1 : Zc1 Zcj := Zdy ▸ Zbg Zgm
noncomputable def Zbj (law_turns : (List TNq)) : P (List TNq) :=
  (bd (lcP (fun (law_turn : TNq) => (.ok true)) (fun (law_turn : TNq) => (.ok (T4.mk law_turn.x1 law_turn.x2 law_turn.x4 law_turn.x3))) law_turns []) fun r1 => .ok r1)
theorem Zio (law_turns : (List TNq)) : Sim Zcj [.sh ((encL eTq) law_turns)] (owE (encL eTq)) (Zbj law_turns) :=
 Zb9 Zdy (env := ([.sh ((encL eTq) law_turns), .un] : En)) rfl (fun _ => Zba) (by
  unfold Zbj Zcy
  exact (Zbc (env' := ([.sh ((encL eTq) law_turns), .un] : En)) rfl (Ziv (f := (owE (encL eTq))) (t := fun r1 => r1) (Z2x (i := 1) (shE eTq) (fb := eTq) rfl (Zpa (Zaf (i := 0) rfl)) (fun (law_turn : TNq) => (EvP.m (f := blE) Zcz)) (fun (law_turn : TNq) => (EvP.m (f := (shE eTq)) (Zb7 (Zae (Zau (Zaf (i := 1) rfl) (Za0 rfl rfl)) (Zae (Zau (Zaf (i := 1) rfl) (Za0 rfl rfl)) (Zae (Zau (Zaf (i := 1) rfl) (Za0 rfl rfl)) (Zae (Zau (Zaf (i := 1) rfl) (Za0 rfl rfl)) Zao)))) rfl (Nat.le_of_ble_eq_true rfl)))) (fun _ => rfl)) fun _ => rfl)))
def Z15 : WS :=
 (wSeq (wAsg (gTn [1, 2]) (Zbt Zg8 (Zam (wVar 0) (Zam (wInt 30) aNil))))
 (wSeq (wAsg (gN 3) (wOp oAdd (wInt 1) (wUn (oIxN 0) (Zbt Zch (Zam (Zbt Zey (Zam (wVar 0) (Zam (wInt 2) aNil))) (Zam (wLst (Zam (wInt 4) aNil)) aNil))))))
 (wSeq (wAsg (gN 4) (Zpe (wVar 1) (Ztx (wVar 3)) wNoP))
 (wSeq (wAsg (gN 5) (Zpe (wVar 1) wNoP (Ztx (wVar 3))))
 (wSeq (wAsg (gN 6) (wLst aNil))
 (wSeq (wAsg (gN 7) (wLst aNil))
 (wSeq (wFrz 5 (wFor (gN 8) (Zhv (wVar 5))
 (wSeq (wAsg (gN 9) (Zbt Zjx (Zam (wUn Zps (wVar 4)) (Zam (wUn Zpt (wVar 2)) (Zam (wVar 8) aNil)))))
 (wSeq (wIf (wNot (Zbt Zcl (Zam (wVar 9) aNil)))
 (wRet (wBl false))
 Zbk)
 (wSeq (wApp 6 (wUn (oIxN 0) (wVar 9)))
 (wSeq (wApp 7 (wUn (oIxN 1) (wVar 9)))
 (wSeq (wApp 4 (wVar 8))
 (wFgt 8 (wFgt 9 Zbk)))))))))
 (wSeq (wAsg (gN 10) (Zpe (wVar 1) (Ztx (wVar 3)) wNoP))
 (wSeq (wAsg (gN 11) wNon)
 (wSeq (wFor (gN 8) (Zhv (wUn oRev (wVar 5)))
 (wSeq (wAsg (gN 11) (Zbt Zjx (Zam (wUn Zps (wVar 10)) (Zam (wUn Zpt (wVar 2)) (Zam (wVar 8) aNil)))))
 (wSeq (wIf (wNot (Zbt Zcl (Zam (wVar 11) aNil)))
 (wRet (wBl false))
 Zbk)
 (wSeq (wApp 10 (wVar 8))
 (wFgt 8 Zbk)))))
 (wSeq (wIf (wAnd (wUn (oIsN true) (wVar 11)) (wOp (oEq true) (wUn (oIxN 0) (wVar 11)) (wUn oIxL (wVar 6))))
 (wRet (wBl false))
 Zbk)
 (wSeq (Zlp (wOp oGt (wUn oLen (wVar 7)) (wInt 0))
 (wSeq (wAsg (gN 8) (wUn oIxL (wVar 4)))
 (wSeq (wAsg (gN 12) (Zbt Zg7 (Zam (wUn Zps (wVar 4)) (Zam (wUn Zpt (wVar 2)) (Zam (wUn (oIxN 1) (wVar 8)) (Zam (wUn (oIxN 2) (wVar 8)) aNil))))))
 (wSeq (wIfM (mOr (Zpv (wNot (Zbt Zcl (Zam (wVar 12) aNil)))) (mOp (oEq true) (Zpv (wUn (oIxN 1) (wVar 12))) (Zsi Zcj (Zri 7))))
 (wRet (wBl false))
 Zbk)
 (wSeq (Zso (Zri 4))
 (wSeq (Zso (Zri 6))
 (wSeq (wIf (wAnd (wOp oGt (wUn oLen (wVar 6)) (wInt 0)) (wOp (oEq true) (wUn (oIxN 0) (wVar 12)) (wUn oIxL (wVar 6))))
 (wRet (wBl false))
 Zbk)
 (wFgt 8 (wFgt 12 Zbk)))))))))
 (wRet (wBl true))))))))))))))
theorem Z63 : Zbl Z15 := (Zag (Zaq Z2m (Zbb Zt8 (Zaa (Zab 0) (Zaa Zav Zan)))) (Zag (Zaq Za1 (Zak Zav (Zai (Zbb Zef (Zaa (Zbb Zez (Zaa (Zab 0) (Zaa Zav Zan))) (Zaa (Zde (Zaa Zav Zan)) Zan))) Zah) Zaz)) (Zag (Zaq Za1 (Zoh (Zab 1) (Zpj (Zab 3)) Z4d)) (Zag (Zaq Za1 (Zoh (Zab 1) Z4d (Zpj (Zab 3)))) (Zag (Zaq Za1 (Zde Zan)) (Zag (Zaq Za1 (Zde Zan)) (Zag (Z41 (Zj9 Za1 (Zhk (Zab 5)) (Zag (Zaq Za1 (Zbb Zt1 (Zaa (Zai (Zab 4) Zeu) (Zaa (Zai (Zab 2) Zc9) (Zaa (Zab 8) Zan))))) (Zag (m_if (Zbs (Zbb Zgb (Zaa (Zab 9) Zan))) (Zb3 m_bl) Za5) (Zag (Zov (Zai (Zab 9) Zah)) (Zag (Zov (Zai (Zab 9) Zah)) (Zag (Zov (Zab 8)) (Zbu (Zbu Za5))))))))) (Zag (Zaq Za1 (Zoh (Zab 1) (Zpj (Zab 3)) Z4d)) (Zag (Zaq Za1 Zw7) (Zag (Zj9 Za1 (Zhk (Zai (Zab 5) Zs5)) (Zag (Zaq Za1 (Zbb Zt1 (Zaa (Zai (Zab 10) Zeu) (Zaa (Zai (Zab 2) Zc9) (Zaa (Zab 8) Zan))))) (Zag (m_if (Zbs (Zbb Zgb (Zaa (Zab 11) Zan))) (Zb3 m_bl) Za5) (Zag (Zov (Zab 8)) (Zbu Za5))))) (Zag (m_if (Ze8 (Zai (Zab 11) Zeg) (Zak (Zai (Zab 11) Zah) (Zai (Zab 6) Zlj) Zbm)) (Zb3 m_bl) Za5) (Zag (Zoo (Zak (Zai (Zab 7) Zfd) Zav Zaz) (Zag (Zaq Za1 (Zai (Zab 4) Zlj)) (Zag (Zaq Za1 (Zbb Zus (Zaa (Zai (Zab 4) Zeu) (Zaa (Zai (Zab 2) Zc9) (Zaa (Zai (Zab 8) Zah) (Zaa (Zai (Zab 8) Zah) Zan)))))) (Zag (Z62 (Z5i (Zr1 (Zbs (Zbb Zgb (Zaa (Zab 12) Zan)))) (Z44 Zbm (Zr1 (Zai (Zab 12) Zah)) (Zv3 Zk1 Zr4))) (Zb3 m_bl) Za5) (Zag (Zvj Zr4) (Zag (Zvj Zr4) (Zag (m_if (Ze8 (Zak (Zai (Zab 6) Zfd) Zav Zaz) (Zak (Zai (Zab 12) Zah) (Zai (Zab 6) Zlj) Zbm)) (Zb3 m_bl) Za5) (Zbu (Zbu Za5))))))))) (Zb3 m_bl)))))))))))))
@[irreducible] def Z4u : G := gOf 13 Z15
theorem Z21 : Z4u = gOf 13 Z15 := by with_unfolding_all rfl
noncomputable def Zm3 (t1 : (T2 (List ENq) (Dct Int Int))) (s5 : (List ENq) × (List (List RWq)) × (List (List TNq))) (law_entry : ENq) : P (Out ((List ENq) × (List (List RWq)) × (List (List TNq))) Bool) :=
  (bd (Zh1 s5.1 t1.x2 law_entry) fun (law_found : (T2 (List RWq) (List TNq))) =>
  (bd (bd (Zb8 law_found) fun b => .ok (!b)) fun c => cond c
  (.ok (Out.ret false))
  (bd (ofO (appO s5.2.1 law_found.x1)) fun (law_layings' : (List (List RWq))) =>
  (bd (ofO (appO s5.2.2 law_found.x2)) fun (law_ways' : (List (List TNq))) =>
  (bd (ofO (appO s5.1 law_entry)) fun (law_rest' : (List ENq)) =>
  (.ok (.nx (law_rest', law_layings', law_ways'))))))))
noncomputable def Zw0 (law_last' : (Option (T2 (List RWq) (List TNq)))) : P Bool :=
  (bd (bd (ofO law_last') fun t8 => Zb8 t8) fun b => .ok (!b))
noncomputable def Zng (t1 : (T2 (List ENq) (Dct Int Int))) (s7 : (List ENq) × (Option (T2 (List RWq) (List TNq)))) (law_entry' : ENq) : P (Out ((List ENq) × (Option (T2 (List RWq) (List TNq)))) Bool) :=
  (bd (bd (Zh1 s7.1 t1.x2 law_entry') fun a => .ok (some a)) fun (law_last' : (Option (T2 (List RWq) (List TNq)))) =>
  (bd (Zw0 law_last') fun c => cond c
  (.ok (Out.ret false))
  (bd (ofO (appO s7.1 law_entry')) fun (law_about' : (List ENq)) =>
  (.ok (.nx (law_about', law_last'))))))
noncomputable def Zlb (law_out : (T2 (List RWq) (List TNq))) (r15 : ((List RWq) × List (List RWq))) : P Bool :=
  (cond (decide ((0 : Int) < (r15.2.length : Int))) (bd (ofO (r15.2.getLast?)) fun t16 => .ok (!decide (law_out.x1 = t16))) (.ok false))
noncomputable def Zr2 (s12 : (List ENq) × (List (List RWq)) × (List (List TNq))) : P Bool :=
  (.ok (decide ((0 : Int) < (s12.2.2.length : Int))))
noncomputable def Znh (t1 : (T2 (List ENq) (Dct Int Int))) (s12 : (List ENq) × (List (List RWq)) × (List (List TNq))) : P (Out ((List ENq) × (List (List RWq)) × (List (List TNq))) Bool) :=
  (bd (ofO (s12.1.getLast?)) fun (law_entry'' : ENq) =>
  (bd (Zhc s12.1 t1.x2 law_entry''.x2 law_entry''.x3) fun (law_out : (T2 (List RWq) (List TNq))) =>
  (bd (bd (Zb8 law_out) fun b => .ok (!b)) fun c => cond c
  (.ok (Out.ret false))
  (bd (bd (bd (ofO (s12.2.2.getLast?.map fun x => (x, s12.2.2.dropLast))) fun a => bd (noX (Zbj a.1)) fun b => .ok (b, a)) fun a => .ok ((!decide (law_out.x2 = a.1)), a)) fun (r13 : (Bool × ((List TNq) × ((List TNq) × List (List TNq))))) => cond r13.1
  (.ok (Out.ret false))
  (bd (ofO (s12.1.getLast?.map fun x => (x, s12.1.dropLast))) fun (r14 : (ENq × List ENq)) =>
  (bd (ofO (s12.2.1.getLast?.map fun x => (x, s12.2.1.dropLast))) fun (r15 : ((List RWq) × List (List RWq))) =>
  (bd (Zlb law_out r15) fun c => cond c
  (.ok (Out.ret false))
  (.ok (.nx (r14.2, r15.2, r13.2.2.2))))))))))
noncomputable def Zrh (s6 : (List ENq) × (List (List RWq)) × (List (List TNq))) (s9 : (List ENq) × (Option (T2 (List RWq) (List TNq)))) : P Bool :=
  (cond s9.2.isSome (bd (ofO (s9.2.map fun a => a.x1)) fun t10 => bd (ofO (s6.2.1.getLast?)) fun t11 => .ok (!decide (t10 = t11))) (.ok false))
noncomputable def Z09 (law_script : (List Int)) : P Bool :=
  (bd (Zht law_script (30 : Int)) fun (t1 : (T2 (List ENq) (Dct Int Int))) =>
  (bd (bd (bd (bd (Zex law_script (2 : Int)) fun t2 => Zbq t2 ([(4 : Int)])) fun t3 => ofO (t3[0]?)) fun t4 => .ok ((1 : Int) + t4)) fun (law_many : Int) =>
  (Ze1 (cutD t1.x1 (some law_many) none) fun (law_rest : (List ENq)) =>
  (Ze1 (cutD t1.x1 none (some law_many)) fun (law_new : (List ENq)) =>
  (Ze1 ([] : List (List RWq)) fun (law_layings : (List (List RWq))) =>
  (Ze1 ([] : List (List TNq)) fun (law_ways : (List (List TNq))) =>
  (aft (Zft (ρ := Bool) (Zm3 t1) law_new (law_rest, law_layings, law_ways)) (fun (r20 : Bool) => .ok r20) fun (s6 : (List ENq) × (List (List RWq)) × (List (List TNq))) =>
  (Ze1 (cutD t1.x1 (some law_many) none) fun (law_about : (List ENq)) =>
  (aft (Zft (ρ := Bool) (Zng t1) law_new.reverse (law_about, none)) (fun (r19 : Bool) => .ok r19) fun (s9 : (List ENq) × (Option (T2 (List RWq) (List TNq)))) =>
  (bd (Zrh s6 s9) fun c => cond c
  (.ok false)
  (aft (whX (ρ := Bool) Zr2 (Znh t1) (s6.1, s6.2.1, s6.2.2)) (fun (r18 : Bool) => .ok r18) fun (s17 : (List ENq) × (List (List RWq)) × (List (List TNq))) =>
  (.ok true))))))))))))
theorem Zxy (law_script : (List Int)) : Sim Z4u [.sh ((encL D.int) law_script)] blE (Z09 law_script) :=
 Zb9 Z21 (env := ([.sh ((encL D.int) law_script), .un, .un, .un, .un, .un, .un, .un, .un, .un, .un, .un, .un] : En)) rfl (fun _ => Zat) (by
  unfold Z09 Z15
  exact (Z3a (f := (fun t : (T2 (List ENq) (Dct Int Int)) => Slot.nd (.tup [.own ((encL eEq) t.x1), .own ((encK kI D.int) t.x2)]))) (fun t1 => ([.sh ((encL D.int) law_script), .ow ((encL eEq) t1.x1), .ow ((encK kI D.int) t1.x2), .un, .un, .un, .un, .un, .un, .un, .un, .un, .un] : En)) (Za7 (Zae (Zaf (i := 0) rfl) (Zae Zap Zao)) (Zoq law_script (30 : Int)) (fun _ => Z2r)) (fun _ => rfl) (fun _ => rfl) fun t1 =>
 (Zci (f := (shE D.int)) (fun law_many => ([.sh ((encL D.int) law_script), .ow ((encL eEq) t1.x1), .ow ((encK kI D.int) t1.x2), .sh (D.int law_many), .un, .un, .un, .un, .un, .un, .un, .un, .un] : En)) (Zfu (f := (shE D.int)) (mm := fun t4 => ((1 : Int) + t4)) Zap (Z0s (Zcg (fun _ => Zba) (Zdu (Za7 (Zae (Zaf (i := 0) rfl) (Zae Zap Zao)) (Zgf law_script (2 : Int)) (fun _ => Zat)) fun t2 => (Zdq (Zce (Zae Zap Zao) rfl (Nat.le_of_ble_eq_true rfl)) (Zbv (Zcp t2 ([(4 : Int)])))))) fun t3 => (Zqs (xs := t3) rfl)) fun t4 => op_add) (fun _ => Zat) (Nat.le_of_ble_eq_true rfl) (fun _ => rfl) fun law_many =>
 (Zl2 (owE (encL eEq)) (fun law_rest => ([.sh ((encL D.int) law_script), .ow ((encL eEq) t1.x1), .ow ((encK kI D.int) t1.x2), .sh (D.int law_many), .ow ((encL eEq) law_rest), .un, .un, .un, .un, .un, .un, .un, .un] : En)) (Zlq (xs := t1.x1) (Zbr (i := 1) rfl) (Zlk (Zaf (i := 3) rfl)) Zr9 rfl) (fun _ => Zba) (Nat.le_of_ble_eq_true rfl) (fun _ => rfl) fun law_rest =>
 (Zl2 (owE (encL eEq)) (fun law_new => ([.sh ((encL D.int) law_script), .ow ((encL eEq) t1.x1), .ow ((encK kI D.int) t1.x2), .sh (D.int law_many), .ow ((encL eEq) law_rest), .ow ((encL eEq) law_new), .un, .un, .un, .un, .un, .un, .un] : En)) (Zlq (xs := t1.x1) (Zbr (i := 1) rfl) Zr9 (Zlk (Zaf (i := 3) rfl)) rfl) (fun _ => Zba) (Nat.le_of_ble_eq_true rfl) (fun _ => rfl) fun law_new =>
 (Zl2 (owE (encL (encL eRq))) (fun law_layings => ([.sh ((encL D.int) law_script), .ow ((encL eEq) t1.x1), .ow ((encK kI D.int) t1.x2), .sh (D.int law_many), .ow ((encL eEq) law_rest), .ow ((encL eEq) law_new), .ow ((encL (encL eRq)) law_layings), .un, .un, .un, .un, .un, .un] : En)) (Zce Zao rfl (Nat.le_of_ble_eq_true rfl)) (fun _ => Zba) (Nat.le_of_ble_eq_true rfl) (fun _ => rfl) fun law_layings =>
 (Zl2 (owE (encL (encL eTq))) (fun law_ways => ([.sh ((encL D.int) law_script), .ow ((encL eEq) t1.x1), .ow ((encK kI D.int) t1.x2), .sh (D.int law_many), .ow ((encL eEq) law_rest), .ow ((encL eEq) law_new), .ow ((encL (encL eRq)) law_layings), .ow ((encL (encL eTq)) law_ways), .un, .un, .un, .un, .un] : En)) (Zce Zao rfl (Nat.le_of_ble_eq_true rfl)) (fun _ => Zba) (Nat.le_of_ble_eq_true rfl) (fun _ => rfl) fun law_ways =>
 (Z7k (env' := ([.sh ((encL D.int) law_script), .ow ((encL eEq) t1.x1), .ow ((encK kI D.int) t1.x2), .sh (D.int law_many), .ow ((encL eEq) law_rest), .sh ((encL eEq) law_new), .ow ((encL (encL eRq)) law_layings), .ow ((encL (encL eTq)) law_ways), .un, .un, .un, .un, .un] : En)) rfl rfl (Zqb (f := eEq) (xs := law_new) (s0 := (law_rest, law_layings, law_ways)) (fun (s5 : (List ENq) × (List (List RWq)) × (List (List TNq))) => ([.sh ((encL D.int) law_script), .ow ((encL eEq) t1.x1), .ow ((encK kI D.int) t1.x2), .sh (D.int law_many), .ow ((encL eEq) s5.1), .sh ((encL eEq) law_new), .ow ((encL (encL eRq)) s5.2.1), .ow ((encL (encL eTq)) s5.2.2), .un, .un, .un, .un, .un] : En)) blE (Zpa (Zaf (i := 5) rfl)) rfl
 (fun s5 law_entry => (Zdz (e := ([.sh ((encL D.int) law_script), .ow ((encL eEq) t1.x1), .ow ((encK kI D.int) t1.x2), .sh (D.int law_many), .ow ((encL eEq) s5.1), .sh ((encL eEq) law_new), .ow ((encL (encL eRq)) s5.2.1), .ow ((encL (encL eTq)) s5.2.2), .sh (eEq law_entry), .un, .un, .un, .un] : En)) Zat (Nat.le_of_ble_eq_true rfl) rfl (Zci (f := (shE (enc2 (encL eRq) (encL eTq)))) (fun law_found => ([.sh ((encL D.int) law_script), .ow ((encL eEq) t1.x1), .ow ((encK kI D.int) t1.x2), .sh (D.int law_many), .ow ((encL eEq) s5.1), .sh ((encL eEq) law_new), .ow ((encL (encL eRq)) s5.2.1), .ow ((encL (encL eTq)) s5.2.2), .sh (eEq law_entry), .sh ((enc2 (encL eRq) (encL eTq)) law_found), .un, .un, .un] : En)) (Za7 (Zae (Zau (Zbr (i := 4) rfl) (Zt4 (xs := s5.1) rfl)) (Zae (Zau (Zbr (i := 2) rfl) (Zuu (m := t1.x2) rfl)) (Zae (Zaf (i := 8) rfl) Zao))) (Zke s5.1 t1.x2 law_entry) (fun _ => Zat)) (fun _ => Zat) (Nat.le_of_ble_eq_true rfl) (fun _ => rfl) fun law_found =>
 (Zl1 (Ze0 (Za7 (Zae (Zaf (i := 9) rfl) Zao) (Zek law_found) (fun _ => Zat)))
 (Zco Zcz rfl)
 (Zca (Zt7 (f := (encL eRq)) (xs := s5.2.1) (x := law_found.x1) (fun law_layings' => ([.sh ((encL D.int) law_script), .ow ((encL eEq) t1.x1), .ow ((encK kI D.int) t1.x2), .sh (D.int law_many), .ow ((encL eEq) s5.1), .sh ((encL eEq) law_new), .ow ((encL (encL eRq)) law_layings'), .ow ((encL (encL eTq)) s5.2.2), .sh (eEq law_entry), .sh ((enc2 (encL eRq) (encL eTq)) law_found), .un, .un, .un] : En)) rfl (Zau (Zaf (i := 9) rfl) (Za0 rfl rfl)) rfl (fun _ => rfl) fun law_layings' =>
 (Zt7 (f := (encL eTq)) (xs := s5.2.2) (x := law_found.x2) (fun law_ways' => ([.sh ((encL D.int) law_script), .ow ((encL eEq) t1.x1), .ow ((encK kI D.int) t1.x2), .sh (D.int law_many), .ow ((encL eEq) s5.1), .sh ((encL eEq) law_new), .ow ((encL (encL eRq)) law_layings'), .ow ((encL (encL eTq)) law_ways'), .sh (eEq law_entry), .sh ((enc2 (encL eRq) (encL eTq)) law_found), .un, .un, .un] : En)) rfl (Zau (Zaf (i := 9) rfl) (Za0 rfl rfl)) rfl (fun _ => rfl) fun law_ways' =>
 (Zt7 (f := eEq) (xs := s5.1) (x := law_entry) (fun law_rest' => ([.sh ((encL D.int) law_script), .ow ((encL eEq) t1.x1), .ow ((encK kI D.int) t1.x2), .sh (D.int law_many), .ow ((encL eEq) law_rest'), .sh ((encL eEq) law_new), .ow ((encL (encL eRq)) law_layings'), .ow ((encL (encL eTq)) law_ways'), .sh (eEq law_entry), .sh ((enc2 (encL eRq) (encL eTq)) law_found), .un, .un, .un] : En)) rfl (Zaf (i := 8) rfl) rfl (fun _ => rfl) fun law_rest' =>
 (Zbc (env' := ([.sh ((encL D.int) law_script), .ow ((encL eEq) t1.x1), .ow ((encK kI D.int) t1.x2), .sh (D.int law_many), .ow ((encL eEq) law_rest'), .sh ((encL eEq) law_new), .ow ((encL (encL eRq)) law_layings'), .ow ((encL (encL eTq)) law_ways'), .un, .sh ((enc2 (encL eRq) (encL eTq)) law_found), .un, .un, .un] : En)) rfl (Zbc (env' := ([.sh ((encL D.int) law_script), .ow ((encL eEq) t1.x1), .ow ((encK kI D.int) t1.x2), .sh (D.int law_many), .ow ((encL eEq) law_rest'), .sh ((encL eEq) law_new), .ow ((encL (encL eRq)) law_layings'), .ow ((encL (encL eTq)) law_ways'), .un, .un, .un, .un, .un] : En)) rfl (Zcv rfl)))))))))))
 (fun _ => ⟨_, rfl, rfl⟩)
 fun s6 => (Zl2 (owE (encL eEq)) (fun law_about => ([.sh ((encL D.int) law_script), .ow ((encL eEq) t1.x1), .ow ((encK kI D.int) t1.x2), .sh (D.int law_many), .ow ((encL eEq) s6.1), .sh ((encL eEq) law_new), .ow ((encL (encL eRq)) s6.2.1), .ow ((encL (encL eTq)) s6.2.2), .un, .un, .ow ((encL eEq) law_about), .un, .un] : En)) (Zlq (xs := t1.x1) (Zbr (i := 1) rfl) (Zlk (Zaf (i := 3) rfl)) Zr9 rfl) (fun _ => Zba) (Nat.le_of_ble_eq_true rfl) (fun _ => rfl) fun law_about =>
 (Zfr (s := .sh ((encO (enc2 (encL eRq) (encL eTq))) none)) (env' := ([.sh ((encL D.int) law_script), .ow ((encL eEq) t1.x1), .ow ((encK kI D.int) t1.x2), .sh (D.int law_many), .ow ((encL eEq) s6.1), .sh ((encL eEq) law_new), .ow ((encL (encL eRq)) s6.2.1), .ow ((encL (encL eTq)) s6.2.2), .un, .un, .ow ((encL eEq) law_about), .sh ((encO (enc2 (encL eRq) (encL eTq))) none), .un] : En)) Zmg Zat (Nat.le_of_ble_eq_true rfl) rfl (Zqb (f := eEq) (xs := law_new.reverse) (s0 := (law_about, none)) (fun (s7 : (List ENq) × (Option (T2 (List RWq) (List TNq)))) => ([.sh ((encL D.int) law_script), .ow ((encL eEq) t1.x1), .ow ((encK kI D.int) t1.x2), .sh (D.int law_many), .ow ((encL eEq) s6.1), .sh ((encL eEq) law_new), .ow ((encL (encL eRq)) s6.2.1), .ow ((encL (encL eTq)) s6.2.2), .un, .un, .ow ((encL eEq) s7.1), .sh ((encO (enc2 (encL eRq) (encL eTq))) s7.2), .un] : En)) blE (Z5r (Zau (Zaf (i := 5) rfl) (Z5k (xs := law_new) rfl))) rfl
 (fun s7 law_entry' => (Zdz (e := ([.sh ((encL D.int) law_script), .ow ((encL eEq) t1.x1), .ow ((encK kI D.int) t1.x2), .sh (D.int law_many), .ow ((encL eEq) s6.1), .sh ((encL eEq) law_new), .ow ((encL (encL eRq)) s6.2.1), .ow ((encL (encL eTq)) s6.2.2), .sh (eEq law_entry'), .un, .ow ((encL eEq) s7.1), .sh ((encO (enc2 (encL eRq) (encL eTq))) s7.2), .un] : En)) Zat (Nat.le_of_ble_eq_true rfl) rfl (Zci (f := (shE (encO (enc2 (encL eRq) (encL eTq))))) (fun law_last' => ([.sh ((encL D.int) law_script), .ow ((encL eEq) t1.x1), .ow ((encK kI D.int) t1.x2), .sh (D.int law_many), .ow ((encL eEq) s6.1), .sh ((encL eEq) law_new), .ow ((encL (encL eRq)) s6.2.1), .ow ((encL (encL eTq)) s6.2.2), .sh (eEq law_entry'), .un, .ow ((encL eEq) s7.1), .sh ((encO (enc2 (encL eRq) (encL eTq))) law_last'), .un] : En)) (Zq8 (Za7 (Zae (Zau (Zbr (i := 10) rfl) (Zt4 (xs := s7.1) rfl)) (Zae (Zau (Zbr (i := 2) rfl) (Zuu (m := t1.x2) rfl)) (Zae (Zaf (i := 8) rfl) Zao))) (Zke s7.1 t1.x2 law_entry') (fun _ => Zat))) (fun _ => Zat) (Nat.le_of_ble_eq_true rfl) (fun _ => rfl) fun law_last' =>
 (Zl1 (Ze0 (Zcg (fun _ => Zat) (Zdu (Zer (Zaf (i := 11) rfl)) fun t8 => (Zbv (Zek t8)))))
 (Zco Zcz rfl)
 (Zca (Zt7 (f := eEq) (xs := s7.1) (x := law_entry') (fun law_about' => ([.sh ((encL D.int) law_script), .ow ((encL eEq) t1.x1), .ow ((encK kI D.int) t1.x2), .sh (D.int law_many), .ow ((encL eEq) s6.1), .sh ((encL eEq) law_new), .ow ((encL (encL eRq)) s6.2.1), .ow ((encL (encL eTq)) s6.2.2), .sh (eEq law_entry'), .un, .ow ((encL eEq) law_about'), .sh ((encO (enc2 (encL eRq) (encL eTq))) law_last'), .un] : En)) rfl (Zaf (i := 8) rfl) rfl (fun _ => rfl) fun law_about' =>
 (Zbc (env' := ([.sh ((encL D.int) law_script), .ow ((encL eEq) t1.x1), .ow ((encK kI D.int) t1.x2), .sh (D.int law_many), .ow ((encL eEq) s6.1), .sh ((encL eEq) law_new), .ow ((encL (encL eRq)) s6.2.1), .ow ((encL (encL eTq)) s6.2.2), .un, .un, .ow ((encL eEq) law_about'), .sh ((encO (enc2 (encL eRq) (encL eTq))) law_last'), .un] : En)) rfl (Zcv rfl))))))))
 (fun _ => ⟨_, rfl, rfl⟩)
 fun s9 => (Zl1 (Zq9 (Zau (Zaf (i := 11) rfl) (Zrm (o := s9.2) rfl (fun _ => rfl))) (Zxi (f := blE) (mm := fun t10 t11 => (!decide (t10 = t11))) (Zei (Zaf (i := 11) rfl) (Zif (o := s9.2) rfl (fun _ => rfl) (fun _ => rfl))) (Zei (Zbr (i := 6) rfl) (Zn7 (xs := s6.2.1) rfl)) fun t10 t11 => (op_ne (x := t10) (y := t11) (Z46 (Z4t eqe_int eqe_int eqe_str eqe_int)) rfl rfl)))
 (Zco Zcz rfl)
 (Zca (Z7a (s0 := (s6.1, s6.2.1, s6.2.2)) (fun (s12 : (List ENq) × (List (List RWq)) × (List (List TNq))) => ([.sh ((encL D.int) law_script), .ow ((encL eEq) t1.x1), .ow ((encK kI D.int) t1.x2), .sh (D.int law_many), .ow ((encL eEq) s12.1), .sh ((encL eEq) law_new), .ow ((encL (encL eRq)) s12.2.1), .ow ((encL (encL eTq)) s12.2.2), .un, .un, .ow ((encL eEq) s9.1), .sh ((encO (enc2 (encL eRq) (encL eTq))) s9.2), .un] : En)) blE rfl (fun s12 => (EvP.m (f := blE) (Za4 (Zau (Zbr (i := 7) rfl) (Zzo (xs := s12.2.2) rfl)) Zap op_gt))) (fun s12 => (Zci (f := (shE eEq)) (fun law_entry'' => ([.sh ((encL D.int) law_script), .ow ((encL eEq) t1.x1), .ow ((encK kI D.int) t1.x2), .sh (D.int law_many), .ow ((encL eEq) s12.1), .sh ((encL eEq) law_new), .ow ((encL (encL eRq)) s12.2.1), .ow ((encL (encL eTq)) s12.2.2), .sh (eEq law_entry''), .un, .ow ((encL eEq) s9.1), .sh ((encO (enc2 (encL eRq) (encL eTq))) s9.2), .un] : En)) (Zei (Zbr (i := 4) rfl) (Zn7 (xs := s12.1) rfl)) (fun _ => Zat) (Nat.le_of_ble_eq_true rfl) (fun _ => rfl) fun law_entry'' =>
 (Zci (f := (shE (enc2 (encL eRq) (encL eTq)))) (fun law_out => ([.sh ((encL D.int) law_script), .ow ((encL eEq) t1.x1), .ow ((encK kI D.int) t1.x2), .sh (D.int law_many), .ow ((encL eEq) s12.1), .sh ((encL eEq) law_new), .ow ((encL (encL eRq)) s12.2.1), .ow ((encL (encL eTq)) s12.2.2), .sh (eEq law_entry''), .un, .ow ((encL eEq) s9.1), .sh ((encO (enc2 (encL eRq) (encL eTq))) s9.2), .sh ((enc2 (encL eRq) (encL eTq)) law_out)] : En)) (Za7 (Zae (Zau (Zbr (i := 4) rfl) (Zt4 (xs := s12.1) rfl)) (Zae (Zau (Zbr (i := 2) rfl) (Zuu (m := t1.x2) rfl)) (Zae (Zau (Zaf (i := 8) rfl) (Za0 rfl rfl)) (Zae (Zau (Zaf (i := 8) rfl) (Za0 rfl rfl)) Zao)))) (Zl7 s12.1 t1.x2 law_entry''.x2 law_entry''.x3) (fun _ => Zat)) (fun _ => Zat) (Nat.le_of_ble_eq_true rfl) (fun _ => rfl) fun law_out =>
 (b_of (Z7f (Z77 (Z3l (env := ([.sh ((encL D.int) law_script), .ow ((encL eEq) t1.x1), .ow ((encK kI D.int) t1.x2), .sh (D.int law_many), .ow ((encL eEq) s12.1), .sh ((encL eEq) law_new), .ow ((encL (encL eRq)) s12.2.1), .ow ((encL (encL eTq)) s12.2.2), .sh (eEq law_entry''), .un, .ow ((encL eEq) s9.1), .sh ((encO (enc2 (encL eRq) (encL eTq))) s9.2), .sh ((enc2 (encL eRq) (encL eTq)) law_out)] : En)) (m := (bd (Zb8 law_out) fun b => .ok (!b))) (pt := (.ok (Out.ret false))) (pf := (bd (bd (bd (ofO (s12.2.2.getLast?.map fun x => (x, s12.2.2.dropLast))) fun a => bd (noX (Zbj a.1)) fun b => .ok (b, a)) fun a => .ok ((!decide (law_out.x2 = a.1)), a)) fun (r13 : (Bool × ((List TNq) × ((List TNq) × List (List TNq))))) => cond r13.1
  (.ok (Out.ret false))
  (bd (ofO (s12.1.getLast?.map fun x => (x, s12.1.dropLast))) fun (r14 : (ENq × List ENq)) =>
  (bd (ofO (s12.2.1.getLast?.map fun x => (x, s12.2.1.dropLast))) fun (r15 : ((List RWq) × List (List RWq))) =>
  (bd (Zlb law_out r15) fun c => cond c
  (.ok (Out.ret false))
  (.ok (Out.nx (r14.2, r15.2, r13.2.2.2)))))))) (Ze0 (Za7 (Zae (Zaf (i := 12) rfl) Zao) (Zek law_out) (fun _ => Zat)))
 (Zx5 (i_of (Zco Zcz rfl)))
 (Z2w (v := fun (r13 : (Bool × ((List TNq) × ((List TNq) × List (List TNq))))) => r13.1) (pt := fun (r13 : (Bool × ((List TNq) × ((List TNq) × List (List TNq))))) => (.ok (Out.ret false))) (pf := fun (r13 : (Bool × ((List TNq) × ((List TNq) × List (List TNq))))) => (bd (ofO (s12.1.getLast?.map fun x => (x, s12.1.dropLast))) fun (r14 : (ENq × List ENq)) =>
  (bd (ofO (s12.2.1.getLast?.map fun x => (x, s12.2.1.dropLast))) fun (r15 : ((List RWq) × List (List RWq))) =>
  (bd (Zlb law_out r15) fun c => cond c
  (.ok (Out.ret false))
  (.ok (Out.nx (r14.2, r15.2, r13.2.2.2))))))) (Z3r (fo := blE) (f := (fun (a : ((List TNq) × ((List TNq) × List (List TNq)))) => Slot.ow ((encL eTq) a.1))) (e := (fun (a : ((List TNq) × ((List TNq) × List (List TNq)))) => ([.sh ((encL D.int) law_script), .ow ((encL eEq) t1.x1), .ow ((encK kI D.int) t1.x2), .sh (D.int law_many), .ow ((encL eEq) s12.1), .sh ((encL eEq) law_new), .ow ((encL (encL eRq)) s12.2.1), .ow ((encL (encL eTq)) a.2.2), .sh (eEq law_entry''), .un, .ow ((encL eEq) s9.1), .sh ((encO (enc2 (encL eRq) (encL eTq))) s9.2), .sh ((enc2 (encL eRq) (encL eTq)) law_out)] : En))) (v := fun (a : ((List TNq) × ((List TNq) × List (List TNq)))) => (!decide (law_out.x2 = a.1))) (Zau (Zaf (i := 12) rfl) (Za0 rfl rfl)) trivial (Zzw (f := (fun (a : ((List TNq) × List (List TNq))) => Slot.sh ((encL eTq) a.1))) (e := (fun (a : ((List TNq) × List (List TNq))) => ([.sh ((encL D.int) law_script), .ow ((encL eEq) t1.x1), .ow ((encK kI D.int) t1.x2), .sh (D.int law_many), .ow ((encL eEq) s12.1), .sh ((encL eEq) law_new), .ow ((encL (encL eRq)) s12.2.1), .ow ((encL (encL eTq)) a.2), .sh (eEq law_entry''), .un, .ow ((encL eEq) s9.1), .sh ((encO (enc2 (encL eRq) (encL eTq))) s9.2), .sh ((enc2 (encL eRq) (encL eTq)) law_out)] : En))) (Zr3 (f := (encL eTq)) (xs := s12.2.2) (fun s => ([.sh ((encL D.int) law_script), .ow ((encL eEq) t1.x1), .ow ((encK kI D.int) t1.x2), .sh (D.int law_many), .ow ((encL eEq) s12.1), .sh ((encL eEq) law_new), .ow ((encL (encL eRq)) s12.2.1), .ow ((encL (encL eTq)) s), .sh (eEq law_entry''), .un, .ow ((encL eEq) s9.1), .sh ((encO (enc2 (encL eRq) (encL eTq))) s9.2), .sh ((enc2 (encL eRq) (encL eTq)) law_out)] : En)) rfl (fun _ => rfl)) (fun (a : ((List TNq) × List (List TNq))) => Zio a.1) (fun _ => Zba)) (fun a => (op_ne (x := law_out.x2) (y := a.1) (Z46 (Z4t (eqe_int.up (m := 2) (by decide)) (eqe_int.up (m := 2) (by decide)) (eqe_opt (eqe_2 eqe_str eqe_int) (fun _ => by intro h; cases h) (by decide)) (eqe_opt (eqe_2 eqe_str eqe_int) (fun _ => by intro h; cases h) (by decide)))) rfl rfl : OpP (oEq true) (Slot.sh ((encL eTq) law_out.x2)) (Slot.ow ((encL eTq) a.1)) (Slot.sh (.bl (!decide (law_out.x2 = a.1))))))) (fun _ => rfl)
 (fun r13 => (Zx5 (i_of (Zco Zcz rfl))))
 (fun r13 => (Zx5 (i_of (Zca (b_of (Zx3 (Zr3 (f := eEq) (xs := s12.1) (fun s => ([.sh ((encL D.int) law_script), .ow ((encL eEq) t1.x1), .ow ((encK kI D.int) t1.x2), .sh (D.int law_many), .ow ((encL eEq) s), .sh ((encL eEq) law_new), .ow ((encL (encL eRq)) s12.2.1), .ow ((encL (encL eTq)) r13.2.2.2), .sh (eEq law_entry''), .un, .ow ((encL eEq) s9.1), .sh ((encO (enc2 (encL eRq) (encL eTq))) s9.2), .sh ((enc2 (encL eRq) (encL eTq)) law_out)] : En)) rfl (fun _ => rfl)) (fun r14 =>
 (i_of (b_of (Zx3 (Zr3 (f := (encL eRq)) (xs := s12.2.1) (fun s => ([.sh ((encL D.int) law_script), .ow ((encL eEq) t1.x1), .ow ((encK kI D.int) t1.x2), .sh (D.int law_many), .ow ((encL eEq) r14.2), .sh ((encL eEq) law_new), .ow ((encL (encL eRq)) s), .ow ((encL (encL eTq)) r13.2.2.2), .sh (eEq law_entry''), .un, .ow ((encL eEq) s9.1), .sh ((encO (enc2 (encL eRq) (encL eTq))) s9.2), .sh ((enc2 (encL eRq) (encL eTq)) law_out)] : En)) rfl (fun _ => rfl)) (fun r15 =>
 (i_of (Zl1 (Zq9 (Za4 (Zau (Zbr (i := 6) rfl) (Zzo (xs := r15.2) rfl)) Zap op_gt) (Zfu (f := blE) (mm := fun t16 => (!decide (law_out.x1 = t16))) (Zau (Zaf (i := 12) rfl) (Za0 rfl rfl)) (Zei (Zbr (i := 6) rfl) (Zn7 (xs := r15.2) rfl)) fun t16 => (op_ne (x := law_out.x1) (y := t16) (Z46 (Z4t eqe_int eqe_int eqe_str eqe_int)) rfl rfl)))
 (Zco Zcz rfl)
 (Zca (Zbc (env' := ([.sh ((encL D.int) law_script), .ow ((encL eEq) t1.x1), .ow ((encK kI D.int) t1.x2), .sh (D.int law_many), .ow ((encL eEq) r14.2), .sh ((encL eEq) law_new), .ow ((encL (encL eRq)) r15.2), .ow ((encL (encL eTq)) r13.2.2.2), .un, .un, .ow ((encL eEq) s9.1), .sh ((encO (enc2 (encL eRq) (encL eTq))) s9.2), .sh ((enc2 (encL eRq) (encL eTq)) law_out)] : En)) rfl (Zbc (env' := ([.sh ((encL D.int) law_script), .ow ((encL eEq) t1.x1), .ow ((encK kI D.int) t1.x2), .sh (D.int law_many), .ow ((encL eEq) r14.2), .sh ((encL eEq) law_new), .ow ((encL (encL eRq)) r15.2), .ow ((encL (encL eTq)) r13.2.2.2), .un, .un, .ow ((encL eEq) s9.1), .sh ((encO (enc2 (encL eRq) (encL eTq))) s9.2), .un] : En)) rfl (Zcv rfl)))))))))))))))))))))))))
 (fun _ => ⟨_, rfl, rfl⟩)
 fun s17 => (Zmd Zcz rfl))))))))))))))))
theorem Z4j {α β : Type} (e : α → β) (xs : List α) (h : xs.length ≤ 16777216) : lcP (fun _ => .ok true) (fun x => .ok (e x)) xs [] = .ok (xs.map e) := by
  rw [Zna (fun _ => true) e xs [] (by simpa using h), List.nil_append, List.filter_eq_self.mpr fun _ _ => rfl]
theorem Z19 {ch : List Tn} (h : ch.length ≤ 1000) : Zbj (ch.map Tn.turn) = .ok (ch.map Tn.back) := by
  unfold Zbj
  rw [Z4j (fun t : Turn => (⟨t.x1, t.x2, t.x4, t.x3⟩ : Turn)) _ (by rw [List.length_map]; omega), Zas, List.map_map]
  rfl
inductive Stk (sh : Shut) (R : List Ent) : List Ent → List (List Row) → List (List Turn) → Prop
  | nil : Stk sh R [] [] []
  | snoc {p : List Ent} {L : List (List Row)} {W : List (List Turn)} {x : Ent} {w : List Turn} : Stk sh R p L W → Zbj w = .ok (dueT (R ++ p ++ [x]) (plO (R ++ p ++ [x]) sh) (plO (R ++ p) sh)) → Stk sh R (p ++ [x]) (L ++ [LAY (R ++ p ++ [x]) sh]) (W ++ [w])
theorem Stk.lens {sh : Shut} {R p : List Ent} {L : List (List Row)} {W : List (List Turn)} (h : Stk sh R p L W) : L.length = p.length ∧ W.length = p.length := by
  induction h with
  | nil => exact ⟨rfl, rfl⟩
  | snoc _ _ ih => simp [ih.1, ih.2]
theorem Zn8 {A B : List Ent} (h : ((A ++ B).map nm).Nodup) : (A.map nm).Nodup := by
  rw [List.map_append] at h
  exact (List.nodup_append.mp h).1
theorem put1 {E : List Ent} (sh : Shut) (x : Ent) (hu : ((E ++ [x]).map nm).Nodup) (hl : E.length ≤ 900) : ∃ w, Zh1 E sh x = .ok ⟨LAY (E ++ [x]) sh, w⟩ ∧ Zbj w = .ok (dueT (E ++ [x]) (plO (E ++ [x]) sh) (plO E sh)) := by
  obtain ⟨m, ch, e, F⟩ := Zss sh x hu hl
  have hb := F.back hu
  have hc : ch.length ≤ 1000 := by
    have h1 : (ch.map Tn.back).length = (dueT (E ++ [x]) (plO (E ++ [x]) sh) (plO E sh)).length := by rw [hb]
    rw [List.length_map] at h1
    unfold dueT at h1
    rw [List.length_map] at h1
    have h2 := List.length_filter_le (fun e => decide (plO (E ++ [x]) sh (nm e) ≠ plO E sh (nm e))) (ord (E ++ [x]))
    have h3 := (Zbn (E ++ [x])).length_eq
    rw [List.length_append, List.length_singleton] at h3
    omega
  exact ⟨_, e, by rw [Z19 hc, hb]⟩
theorem Z5e {sh : Shut} {es : List Ent} {R : List Ent} : ∀ (xs p : List Ent) (L : List (List Row)) (W : List (List Turn)), Stk sh R p L W → ((R ++ p ++ xs).map nm).Nodup → (R ++ p ++ xs).length ≤ 800 → ∃ L' W', Zft (ρ := Bool) (Zm3 ⟨es, sh⟩) xs (R ++ p, L, W) = .ok (.nx (R ++ (p ++ xs), L', W')) ∧ Stk sh R (p ++ xs) L' W'
  | [], p, L, W, h, _, _ => ⟨L, W, by rw [List.append_nil]; rfl, by rw [List.append_nil]; exact h⟩
  | x :: xs, p, L, W, h, hu, hl => by
    have e0 : R ++ p ++ x :: xs = R ++ p ++ [x] ++ xs := by simp
    rw [e0] at hu hl
    obtain ⟨w, e1, e2⟩ := put1 sh x (Zn8 hu) (by rw [List.length_append, List.length_append] at hl; omega)
    have hs := h.lens
    have hlp : p.length ≤ 800 := by simp at hl; omega
    have hst : Zm3 ⟨es, sh⟩ (R ++ p, L, W) x = .ok (.nx (R ++ (p ++ [x]), L ++ [LAY (R ++ p ++ [x]) sh], W ++ [w])) := by
      unfold Zm3
      dsimp only
      rw [e1, Zas, Zux, Zas, Zas, Zc6 (show (!true) = false from rfl)]
      dsimp only
      rw [Zeo (by omega), Zay, Zas, Zeo (by omega), Zay, Zas, Zeo (by simp at hl ⊢; omega), Zay, Zas, List.append_assoc]
    have e3 : R ++ p ++ [x] ++ xs = R ++ (p ++ [x]) ++ xs := by simp
    obtain ⟨L', W', e4, h4⟩ := Z5e (es := es) xs (p ++ [x]) _ _ (h.snoc e2) (by rw [← e3]; exact hu) (by rw [← e3]; exact hl)
    exact ⟨L', W', by rw [Zsc hst, e4, List.append_assoc]; rfl, by rw [List.append_assoc] at h4; exact h4⟩
theorem Z55 {sh : Shut} {es : List Ent} : ∀ (xs A : List Ent) (o : Option (T2 (List Row) (List Turn))), ((A ++ xs).map nm).Nodup → (A ++ xs).length ≤ 800 → ∃ o', Zft (ρ := Bool) (Zng ⟨es, sh⟩) xs (A, o) = .ok (.nx (A ++ xs, o')) ∧ (xs = [] → o' = o) ∧ (xs ≠ [] → ∃ w, o' = some ⟨LAY (A ++ xs) sh, w⟩)
  | [], A, o, _, _ => ⟨o, by rw [List.append_nil]; rfl, fun _ => rfl, fun h => (h rfl).elim⟩
  | x :: xs, A, o, hu, hl => by
    have e0 : A ++ x :: xs = A ++ [x] ++ xs := by simp
    rw [e0] at hu hl ⊢
    obtain ⟨w, e1, _⟩ := put1 sh x (Zn8 hu) (by rw [List.length_append, List.length_append] at hl; omega)
    have hst : Zng ⟨es, sh⟩ (A, o) x = .ok (.nx (A ++ [x], some ⟨LAY (A ++ [x]) sh, w⟩)) := by
      unfold Zng Zw0
      dsimp only
      rw [e1, Zas, Zas, Zay, Zas, Zux, Zas, Zas, Zc6 (show (!true) = false from rfl), Zeo (by simp at hl ⊢; omega), Zay, Zas]
    obtain ⟨o', e4, h1, h2⟩ := Z55 (sh := sh) (es := es) xs (A ++ [x]) (some ⟨LAY (A ++ [x]) sh, w⟩) hu hl
    refine ⟨o', by rw [Zsc hst, e4], (fun z => by cases z), fun _ => ?_⟩
    cases xs with
    | nil => exact ⟨w, by rw [h1 rfl, List.append_nil]⟩
    | cons y ys => exact h2 (by simp)
theorem Zlc {α : Type} (xs : List α) (a : α) : (xs ++ [a]).getLast? = some a := by rw [List.getLast?_append, List.getLast?_singleton, Option.some_or]
theorem out1 {sh : Shut} {es R p : List Ent} {L : List (List Row)} {W : List (List Turn)} {x : Ent} {w : List Turn} (h : Stk sh R p L W) (hw : Zbj w = .ok (dueT (R ++ p ++ [x]) (plO (R ++ p ++ [x]) sh) (plO (R ++ p) sh))) (hu : ((R ++ p ++ [x]).map nm).Nodup) (hl : (R ++ p).length ≤ 900) : Znh ⟨es, sh⟩ (R ++ p ++ [x], L ++ [LAY (R ++ p ++ [x]) sh], W ++ [w]) = .ok (.nx (R ++ p, L, W)) := by
  unfold Znh
  dsimp only
  rw [Zlc, Zay, Zas, Zud sh x (List.Perm.refl _) hu hl, Zas, Zux, Zas, Zas, Zc6 (show (!true) = false from rfl), Zlc, List.dropLast_concat]
  rw [show (Option.map (fun y => (y, W)) (some w)) = some (w, W) from rfl, Zay, Zas, hw, Z6y, Zas, Zas, Zas]
  dsimp only
  rw [decide_eq_true rfl, Zc6 (show (!true) = false from rfl), List.dropLast_concat, show (Option.map (fun y => (y, R ++ p)) (some x)) = some (x, R ++ p) from rfl, Zay, Zas, Zlc, List.dropLast_concat, show (Option.map (fun y => (y, L)) (some (LAY (R ++ p ++ [x]) sh))) = some (LAY (R ++ p ++ [x]) sh, L) from rfl, Zay, Zas]
  have c2 : Zlb ⟨LAY (R ++ p) sh, dueT (R ++ p ++ [x]) (plO (R ++ p ++ [x]) sh) (plO (R ++ p) sh)⟩ (LAY (R ++ p ++ [x]) sh, L) = .ok false := by
    unfold Zlb
    dsimp only
    cases h with
    | nil => rfl
    | snoc h1 h2 =>
      rw [Zgz (decide_eq_true (by rw [List.length_append]; show (0 : Int) < ((_ + 1 : Nat) : Int); omega)), Zlc, Zay, Zas, List.append_assoc, decide_eq_true rfl]
      rfl
  rw [c2, Zas, Zc6 rfl]
theorem Z1r {sh : Shut} {es R : List Ent} : ∀ {p : List Ent} {L : List (List Row)} {W : List (List Turn)}, Stk sh R p L W → ((R ++ p).map nm).Nodup → (R ++ p).length ≤ 800 → whN (ρ := Bool) Zr2 (Znh ⟨es, sh⟩) (p.length + 1) (R ++ p, L, W) = .ok (.nx (R, [], [])) := by
  intro p L W h
  induction h with
  | nil =>
    intro _ _
    rw [List.append_nil]
    rfl
  | snoc h1 h2 ih =>
    rename_i p L W x w
    intro hu hl
    rw [← List.append_assoc] at hu hl ⊢
    have hlen := h1.lens
    have hst := out1 (es := es) h1 h2 hu (by rw [List.length_append] at hl; omega)
    rw [List.length_append, List.length_singleton, whN]
    unfold Zr2
    dsimp only
    rw [Zas, Zgz (decide_eq_true (by rw [List.length_append]; show (0 : Int) < ((_ + 1 : Nat) : Int); omega)), hst, Zas]
    exact ih (Zn8 hu) (by rw [List.length_append] at hl; omega)
theorem Z1u (ns : List Int) (hn : ns.length ≤ 63) : Z09 ns = .ok true := by
  unfold Z09
  obtain ⟨es, sh, e, G, S⟩ := Z16 ns 30 (by omega)
  obtain ⟨c, ec⟩ := Zt6 ns (i := 2) (by decide)
  obtain ⟨k, ed, hk0, hk1⟩ := Z67 c (a := 4) (.cons (by omega) (by omega) .nil)
  rw [show (30 : Int) = ((30 : Nat) : Int) from rfl, e, Zas, ec, Zas, ed, Zas, show ([k] : List Int)[0]? = some k from rfl, Zay, Zas, Zas]
  obtain ⟨m, hm⟩ := Int.eq_ofNat_of_zero_le (show 0 ≤ 1 + k by omega)
  unfold Ze1
  dsimp only
  rw [hm, Z1d, Z14]
  have hG := G.len
  have pm : (es.drop m ++ es.take m).Perm es := by
    have := List.perm_append_comm (l₁ := es.drop m) (l₂ := es.take m)
    rw [List.take_append_drop] at this
    exact this
  have hu1 : ((es.drop m ++ es.take m).map nm).Nodup := Zi2 pm G.uni
  have pm2 : (es.drop m ++ (es.take m).reverse).Perm (es.drop m ++ es.take m) := List.Perm.append_left _ (List.reverse_perm _)
  have hu2 : ((es.drop m ++ (es.take m).reverse).map nm).Nodup := Zi2 pm2 hu1
  have hl1 := pm.length_eq
  have hl2 := pm2.length_eq
  obtain ⟨L, W, e1, h1⟩ := Z5e (es := es) (R := es.drop m) (es.take m) [] [] [] (Stk.nil (sh := sh)) (by rw [List.append_nil]; exact hu1) (by rw [List.append_nil]; omega)
  rw [List.append_nil] at e1
  rw [List.nil_append] at e1 h1
  rw [e1, Zqi]
  dsimp only
  obtain ⟨o, e2, h2, h3⟩ := Z55 (sh := sh) (es := es) (es.take m).reverse (es.drop m) none hu2 (by omega)
  rw [e2, Zqi]
  have c4 : Zrh (es.drop m ++ es.take m, L, W) (es.drop m ++ (es.take m).reverse, o) = .ok false := by
    unfold Zrh
    dsimp only
    by_cases z : (es.take m).reverse = []
    · rw [h2 z]; rfl
    · obtain ⟨w, rfl⟩ := h3 z
      have hL : LAY (es.drop m ++ (es.take m).reverse) sh = LAY (es.drop m ++ es.take m) sh := by rw [LAY, LAY, Zit hu1 pm2]
      have hlast : L.getLast? = some (LAY (es.drop m ++ es.take m) sh) := by
        generalize es.take m = p at h1 z
        cases h1 with
        | nil => exact (z rfl).elim
        | snoc q1 q2 => rw [Zlc, List.append_assoc]
      rw [Zgz (show (some (T2.mk (LAY (es.drop m ++ (es.take m).reverse) sh) w)).isSome = true from rfl), hlast]
      show bd (ofO (some (LAY (es.drop m ++ (es.take m).reverse) sh))) _ = _
      rw [Zay, Zas, Zay, Zas, hL, decide_eq_true rfl]
      rfl
  rw [c4, Zas, Zc6 rfl, Z2t (Z1r (es := es) h1 hu1 (by omega)) (by intro z; cases z), Zqi]
theorem Zza : ∀ ns : List Int, ns.length ≤ 63 → Z4u [.sh (.lst (ns.map D.int))] fun r => r = .ok (.sh (.bl true)) := fun ns hn => Zxy ns _ (by rw [Z1u ns hn]; exact rfl)
end DL
set_option Elab.async false
set_option linter.all false
set_option maxRecDepth 100000
set_option maxHeartbeats 1000000
set_option synthInstance.maxSize 2000
set_option synthInstance.maxHeartbeats 400000
namespace DL
open PySem PySem.Spec PyProof.Rows L2
def topS (i : Nat) : Stmt := PySem.Challenge.pw_feastfall_k22_whole_in_and_out_again.main.body.getD i (.Pass ⟨0, 0, 0, 0⟩)
abbrev Zor : Stmt := topS 5
abbrev Zz1 : List Str := ["one", "other"]
theorem Z0r : FnScope Zz1 ["one", "other"] (defScope Zor) := ⟨rfl, rfl, rfl, by decide +kernel, rfl, by decide +kernel, by decide +kernel⟩
abbrev Zje : Stmt := topS 6
abbrev Zt2 : List Str := ["entry"]
theorem Zxn : FnScope Zt2 ["entry"] (defScope Zje) := ⟨rfl, rfl, rfl, by decide +kernel, rfl, by decide +kernel, by decide +kernel⟩
abbrev Ziq : Stmt := topS 7
abbrev Ztl : List Str := ["entries"]
theorem Zw6 : FnScope Ztl ["entries"] (defScope Ziq) := ⟨rfl, rfl, rfl, by decide +kernel, rfl, by decide +kernel, by decide +kernel⟩
abbrev Zjg : Stmt := topS 8
abbrev Zsq : List Str := ["rank", "day", "shut"]
theorem Zxc : FnScope Zsq ["rank", "day", "shut"] (defScope Zjg) := ⟨rfl, rfl, rfl, by decide +kernel, rfl, by decide +kernel, by decide +kernel⟩
abbrev Zi7 : Stmt := topS 10
abbrev Zsh : List Str := ["entry"]
theorem Zxm : FnScope Zsh ["entry"] (defScope Zi7) := ⟨rfl, rfl, rfl, by decide +kernel, rfl, by decide +kernel, by decide +kernel⟩
abbrev Zgs : Stmt := topS 11
abbrev Zo9 : List Str := ["entry", "shut", "holders", "day"]
theorem Zi8 : FnScope Zo9 ["entry", "shut", "holders"] (defScope Zgs) := ⟨rfl, rfl, rfl, by decide +kernel, rfl, by decide +kernel, by decide +kernel⟩
abbrev Zzq : Stmt := topS 12
abbrev Z5m : List Str := ["entries", "shut", "holders", "rows", "entry", "how", "day"]
theorem Ztk : FnScope Z5m ["entries", "shut"] (defScope Zzq) := ⟨rfl, rfl, rfl, by decide +kernel, rfl, by decide +kernel, by decide +kernel⟩
abbrev Zgk : Stmt := topS 14
abbrev Znv : List Str := ["rows", "places", "number", "year", "how", "day"]
theorem Ziz : FnScope Znv ["rows"] (defScope Zgk) := ⟨rfl, rfl, rfl, by decide +kernel, rfl, by decide +kernel, by decide +kernel⟩
abbrev Zix : Stmt := topS 15
abbrev Zsp : List Str := ["entries", "places", "rows", "entry", "how", "day"]
theorem Zjr : FnScope Zsp ["entries", "places"] (defScope Zix) := ⟨rfl, rfl, rfl, by decide +kernel, rfl, by decide +kernel, by decide +kernel⟩
abbrev Zg9 : Stmt := topS 16
abbrev Zqr : List Str := ["entry", "day", "shut", "holders"]
theorem Zu4 : FnScope Zqr ["entry", "day", "shut", "holders"] (defScope Zg9) := ⟨rfl, rfl, rfl, by decide +kernel, rfl, by decide +kernel, by decide +kernel⟩
abbrev Zdn : Stmt := topS 17
abbrev Zkm : List Str := ["entry", "shut", "holders", "day"]
theorem Zgh : FnScope Zkm ["entry", "shut", "holders"] (defScope Zdn) := ⟨rfl, rfl, rfl, by decide +kernel, rfl, by decide +kernel, by decide +kernel⟩
abbrev Zla : Stmt := topS 18
abbrev Zw2 : List Str := ["entries", "shut", "entry", "places", "holders", "one", "how", "day", "turns", "carried", "name", "place", "pushed"]
theorem Zcw : FnScope Zw2 ["entries", "shut", "entry"] (defScope Zla) := ⟨rfl, rfl, rfl, by decide +kernel, rfl, by decide +kernel, by decide +kernel⟩
abbrev Zox : Stmt := topS 19
abbrev Zzr : List Str := ["entry", "day", "shut", "place"]
theorem Z01 : FnScope Zzr ["entry", "day", "shut", "place"] (defScope Zox) := ⟨rfl, rfl, rfl, by decide +kernel, rfl, by decide +kernel, by decide +kernel⟩
abbrev Zhr : Stmt := topS 20
abbrev Zqz : List Str := ["day", "rest", "shut", "places", "entry"]
theorem Znk : FnScope Zqz ["day", "rest", "shut", "places"] (defScope Zhr) := ⟨rfl, rfl, rfl, by decide +kernel, rfl, by decide +kernel, by decide +kernel⟩
abbrev Zho : Stmt := topS 21
abbrev Zp8 : List Str := ["place"]
theorem Zuh : FnScope Zp8 ["place"] (defScope Zho) := ⟨rfl, rfl, rfl, by decide +kernel, rfl, by decide +kernel, by decide +kernel⟩
abbrev Zf1 : Stmt := topS 22
abbrev Zlz : List Str := ["entries", "shut", "number", "year", "places", "name", "rest", "one", "turns", "hole", "taker", "before"]
theorem Zb2 : FnScope Zlz ["entries", "shut", "number", "year"] (defScope Zf1) := ⟨rfl, rfl, rfl, by decide +kernel, rfl, by decide +kernel, by decide +kernel⟩
abbrev Zhy : Stmt := topS 24
abbrev Zqe : List Str := ["_law_script", "_law_place"]
theorem Zuz : FnScope Zqe ["_law_script", "_law_place"] (defScope Zhy) := ⟨rfl, rfl, rfl, by decide +kernel, rfl, by decide +kernel, by decide +kernel⟩
abbrev Zhz : Stmt := topS 25
abbrev Zqx : List Str := ["_law_cell_here", "_law_one", "_law_two"]
theorem Zk4 : FnScope Zqx ["_law_cell_here"] (defScope Zhz) := ⟨rfl, rfl, rfl, by decide +kernel, rfl, by decide +kernel, by decide +kernel⟩
abbrev Zfb : Stmt := topS 26
abbrev Zmu : List Str := ["_law_cell_here", "_law_sizes", "_law_rest", "_law_found", "_law_k", "_law_size"]
theorem Zc8 : FnScope Zmu ["_law_cell_here", "_law_sizes"] (defScope Zfb) := ⟨rfl, rfl, rfl, by decide +kernel, rfl, by decide +kernel, by decide +kernel⟩
abbrev Zgl : Stmt := topS 27
abbrev Znx : List Str := ["_law_thing"]
theorem Zt0 : FnScope Znx ["_law_thing"] (defScope Zgl) := ⟨rfl, rfl, rfl, by decide +kernel, rfl, by decide +kernel, by decide +kernel⟩
abbrev Zdt : Stmt := topS 28
abbrev Zkc : List Str := ["_law_found", "_law_row"]
theorem Zi9 : FnScope Zkc ["_law_found"] (defScope Zdt) := ⟨rfl, rfl, rfl, by decide +kernel, rfl, by decide +kernel, by decide +kernel⟩
abbrev Zdo : Stmt := topS 29
abbrev Zkd : List Str := ["_law_place"]
theorem Zog : FnScope Zkd ["_law_place"] (defScope Zdo) := ⟨rfl, rfl, rfl, by decide +kernel, rfl, by decide +kernel, by decide +kernel⟩
abbrev Zc4 : Stmt := topS 30
abbrev Zjc : List Str := ["_law_found", "_law_turn", "_law_place"]
theorem Zfj : FnScope Zjc ["_law_found"] (defScope Zc4) := ⟨rfl, rfl, rfl, by decide +kernel, rfl, by decide +kernel, by decide +kernel⟩
abbrev Zhf : Stmt := topS 31
abbrev Zp4 : List Str := ["_law_script", "_law_a", "_law_b", "_law_c", "_law_d", "_law_far", "_law_span", "_law_few", "_law_base"]
theorem Zgn : FnScope Zp4 ["_law_script"] (defScope Zhf) := ⟨rfl, rfl, rfl, by decide +kernel, rfl, by decide +kernel, by decide +kernel⟩
abbrev Zee : Stmt := topS 32
abbrev Zln : List Str := ["_law_cells", "_law_span", "_law_few", "_law_base", "_law_crowd", "_law_found", "_law_names", "_law_cell_here", "_law_rank", "_law_number", "_law_big", "_law_year", "_law_way", "_law_own", "_law_sort", "_law_k"]
theorem Zbo : FnScope Zln ["_law_cells", "_law_span", "_law_few", "_law_base", "_law_crowd"] (defScope Zee) := ⟨rfl, rfl, rfl, by decide +kernel, rfl, by decide +kernel, by decide +kernel⟩
abbrev Zhj : Stmt := topS 33
abbrev Zqk : List Str := ["_law_cell_here", "_law_span", "_law_base", "_law_sizes", "_law_k", "_law_drawn", "_law_shut_here"]
theorem Zc3 : FnScope Zqk ["_law_cell_here", "_law_span", "_law_base"] (defScope Zhj) := ⟨rfl, rfl, rfl, by decide +kernel, rfl, by decide +kernel, by decide +kernel⟩
abbrev Zhw : Stmt := topS 34
abbrev Zp2 : List Str := ["_law_script", "_law_most", "_law_span", "_law_few", "_law_base", "_law_crowd", "_law_entries_here", "_law_shut_here"]
theorem Zia : FnScope Zp2 ["_law_script", "_law_most"] (defScope Zhw) := ⟨rfl, rfl, rfl, by decide +kernel, rfl, by decide +kernel, by decide +kernel⟩
abbrev Zdj : Stmt := topS 35
abbrev Zkf : List Str := ["_law_found"]
theorem Zpi : FnScope Zkf ["_law_found"] (defScope Zdj) := ⟨rfl, rfl, rfl, by decide +kernel, rfl, by decide +kernel, by decide +kernel⟩
abbrev Zb0 : Stmt := topS 36
abbrev Zeh : List Str := ["_law_turns", "_law_turn"]
theorem Zd1 : FnScope Zeh ["_law_turns"] (defScope Zb0) := ⟨rfl, rfl, rfl, by decide +kernel, rfl, by decide +kernel, by decide +kernel⟩
abbrev Zx8 : Stmt := topS 37
abbrev Z58 : List Str := ["_law_script", "_law_entries_here", "_law_shut_here", "_law_many", "_law_rest", "_law_new", "_law_layings", "_law_ways", "_law_entry", "_law_found", "_law_about", "_law_last", "_law_out"]
theorem Zf8 : FnScope Z58 ["_law_script"] (defScope Zx8) := ⟨rfl, rfl, rfl, by decide +kernel, rfl, by decide +kernel, by decide +kernel⟩
structure Txt (K : PySem.W.Frag) (mg : Str → Option Value) (w : World) : Prop where
  d_ahead : Zdg K mg "ahead" Zor ["one", "other"]
  d_rank_of : Zdg K mg "rank_of" Zje ["entry"]
  d_ordered : Zdg K mg "ordered" Ziq ["entries"]
  d_open_to : Zdg K mg "open_to" Zjg ["rank", "day", "shut"]
  d_off_day : Zdg K mg "off_day" Zi7 ["entry"]
  d_place_for : Zdg K mg "place_for" Zgs ["entry", "shut", "holders"]
  d_lay : Zdg K mg "lay" Zzq ["entries", "shut"]
  d_places_of : Zdg K mg "places_of" Zgk ["rows"]
  d_rows_of : Zdg K mg "rows_of" Zix ["entries", "places"]
  d_free_for : Zdg K mg "free_for" Zg9 ["entry", "day", "shut", "holders"]
  d_place_beside : Zdg K mg "place_beside" Zdn ["entry", "shut", "holders"]
  d_put_in : Zdg K mg "put_in" Zla ["entries", "shut", "entry"]
  d_wants : Zdg K mg "wants" Zox ["entry", "day", "shut", "place"]
  d_taker_of : Zdg K mg "taker_of" Zhr ["day", "rest", "shut", "places"]
  d_day_left : Zdg K mg "day_left" Zho ["place"]
  d_take_out : Zdg K mg "take_out" Zf1 ["entries", "shut", "number", "year"]
  d_law_cell : Zdg K mg "_law_cell" Zhy ["_law_script", "_law_place"]
  d_law_seed : Zdg K mg "_law_seed" Zhz ["_law_cell_here"]
  d_law_digits : Zdg K mg "_law_digits" Zfb ["_law_cell_here", "_law_sizes"]
  d_law_whole : Zdg K mg "_law_whole" Zgl ["_law_thing"]
  d_law_are_rows : Zdg K mg "_law_are_rows" Zdt ["_law_found"]
  d_law_is_place : Zdg K mg "_law_is_place" Zdo ["_law_place"]
  d_law_are_turns : Zdg K mg "_law_are_turns" Zc4 ["_law_found"]
  d_law_head : Zdg K mg "_law_head" Zhf ["_law_script"]
  d_law_entries : Zdg K mg "_law_entries" Zee ["_law_cells", "_law_span", "_law_few", "_law_base", "_law_crowd"]
  d_law_shut : Zdg K mg "_law_shut" Zhj ["_law_cell_here", "_law_span", "_law_base"]
  d_law_laid : Zdg K mg "_law_laid" Zhw ["_law_script", "_law_most"]
  d_law_are_both : Zdg K mg "_law_are_both" Zdj ["_law_found"]
  d_law_turned_about : Zdg K mg "_law_turned_about" Zb0 ["_law_turns"]
  d_law : Zdg K mg "law" Zx8 ["_law_script"]
  n_bool : mg "bool" = none
  n_dict : mg "dict" = none
  n_enumerate : mg "enumerate" = none
  n_int : mg "int" = none
  n_isinstance : mg "isinstance" = none
  n_len : mg "len" = none
  n_list : mg "list" = none
  n_min : mg "min" = none
  n_range : mg "range" = none
  n_sorted : mg "sorted" = none
  n_str : mg "str" = none
  n_sum : mg "sum" = none
  n_tuple : mg "tuple" = none
  x_NoFeast : Z45 K mg "NoFeast"
  x_Taken : Z45 K mg "Taken"
section
variable {P : Program} {w : World} {K : PySem.W.Frag} {mg : Str → Option Value} {base : Heap}
theorem Z0x (T : Txt K mg w) : FnAt P w K mg base "ahead" 1 2 Zo7 :=
  Zrt ▸ Zem (N := Zz1) T.d_ahead Z0r (by decide) Zwa rfl fun f cdv A outer s H H0 S0 E hr => by
    have hu := Zcd hr
    exact (Zaj (Zcu (Zrf hu (Zax 0 hu (Zad 0)) (Zax 0 hu (Zad 1)))
 (Za8 (Zbi (Z40 (Zax 0 hu (Zad 0)) (Zax 0 hu (Zad 1)))))
 Za6)
 (Zaj (Zcu (Zrf hu (Zax 1 hu (Zad 0)) (Zax 1 hu (Zad 1)))
 (Za8 (Zbi (Z40 (Zax 1 hu (Zad 0)) (Zax 1 hu (Zad 1)))))
 Za6)
 (Za8 (Zbi (Z40 (Zax 2 hu (Zad 0)) (Zax 2 hu (Zad 1)))))))
theorem Zxq (T : Txt K mg w) : FnAt P w K mg base "rank_of" 1 1 Ziu :=
  Zp1 ▸ Zem (N := Zt2) T.d_rank_of Zxn (by decide) Zw9 rfl fun f cdv A outer s H H0 S0 E hr => by
    have hu := Zcd hr
    exact (Za8 (Zbi (Zb4 (Zac (Zax 0 hu (Zad 0)) (Zac (Zax 1 hu (Zad 0)) (Zac (Zax 2 hu (Zad 0)) Zar))))))
theorem Zl4 (T : Txt K mg w) : FnAt P w K mg base "ordered" 4 1 Zfc :=
  Zjv ▸ Zem (N := Ztl) T.d_ordered Zw6 (by decide) Zql rfl fun f cdv A outer s H H0 S0 E hr => by
    have hu := Zcd hr
    exact (Za8 (Zbi (Z02 (Zxq T) hr (by decide) T.n_sorted (Zad 0))))
theorem Zjt (T : Txt K mg w) : FnAt P w K mg base "open_to" 1 3 Zfh :=
  Zmb ▸ Zem (N := Zsq) T.d_open_to Zxc (by decide) Zpz rfl fun f cdv A outer s H H0 S0 E hr => by
    have hu := Zcd hr
    exact (Za8 (Zbi (Z6g (Zwg hu (Zad 1) (Zad 2)) (Zp5 (Z7v (Zad 0) (Zh9 hu (Zad 2) (Zad 1)))))))
theorem Zpx (T : Txt K mg w) : FnAt P w K mg base "off_day" 1 1 Zhq :=
  Zl5 ▸ Zem (N := Zsh) T.d_off_day Zxm (by decide) Zqc rfl fun f cdv A outer s H H0 S0 E hr => by
    have hu := Zcd hr
    exact (Zaj (Zcu (Zpq hu (Zax 3 hu (Zad 0)) Zct)
 (Za8 (Zbi (Zb4 (Zac Zct (Zac (Zax 4 hu (Zad 0)) Zar)))))
 Za6)
 (Za8 (Zbi (Zb4 (Zac Zct (Zac (Zax 4 hu (Zad 0)) Zar))))))
theorem Zs4 (T : Txt K mg w) : FnAt P w K mg base "place_for" 2 3 Zgq :=
  Zja ▸ Zem (N := Zo9) T.d_place_for Zi8 (by decide) Zmw rfl fun f cdv A outer s H H0 S0 E hr => by
    have hu := Zcd hr
    exact (Zaj (Zbd 3 Zi8.nd (Zax 4 hu (Zad 0)))
 (Zaj (Zcu (Zpq hu (Zax 3 hu (Zad 0)) Zct)
 (Zaj (Zlm (passes_of rfl) (Zfk (Zsz (Zd2 (Zc5 (Zbf (Zjt T) hr (by decide) (takes_of rfl rfl rfl rfl) (Zac (Zax 0 hu (Zad 0)) (Zac (Zad 3) (Zac (Zad 1) Zar))) (Zal (Zai (Zab 0) Zah) (Zaa (Zab 3) (Zaa (Zab 1) Zan)) (Zal (Zab 3) (Zaa (Zab 1) Zan) (Zal (Zab 1) Zan Za3))) rfl))) (Zml (Z5x hu (Zad 3) (Zad 2)))))
 (Zaj (Ztt 3 Zi8.nd Zaw)
 Za6))
 (Za8 (Zbi (Zb4 (Zac Zct (Zac (Zad 3) Zar))))))
 Za6)
 (Zaj (Zcu (Zfk (Zw1 (Zc5 (Zbf (Zjt T) hr (by decide) (takes_of rfl rfl rfl rfl) (Zac (Zax 0 hu (Zad 0)) (Zac (Zad 3) (Zac (Zad 1) Zar))) (Zal (Zai (Zab 0) Zah) (Zaa (Zab 3) (Zaa (Zab 1) Zan)) (Zal (Zab 3) (Zaa (Zab 1) Zan) (Zal (Zab 1) Zan Za3))) rfl)) (Zq6 (Zrq hu (Zad 3) (Zad 2)))))
 (Za8 (Zbi (Zb4 (Zac Zct (Zac (Zad 3) Zar)))))
 Za6)
 (Za8 (Zbi (Zbf (Zpx T) hr (by decide) (takes_of rfl rfl rfl rfl) (Zac (Zad 0) Zar) (Zal (Zab 0) Zan Za3) rfl))))))
theorem Z2h (T : Txt K mg w) : FnAt P w K mg base "lay" 5 2 Zxj :=
  Zzm ▸ Zem (N := Z5m) T.d_lay Ztk (by decide) Z2l rfl fun f cdv A outer s H H0 S0 E hr => by
    have hu := Zcd hr
    exact (Zaj (Zbd 2 Ztk.nd Zyo)
 (Zaj (Zbd 3 Ztk.nd (Zdd Zar))
 (Zaj (Zfq (passes_of rfl) rfl (Zha (Zbf (Zl4 T) hr (by decide) (takes_of rfl rfl rfl rfl) (Zac (Zad 0) Zar) (Zal (Zab 0) Zan Za3) rfl)) (Zd0 4 Ztk.nd)
 (Zaj (Zmy (Zli rfl Ztk.nd (nac (nac NamesAt.nil))) (Zbf (Zs4 T) hr (by decide) (takes_of rfl rfl rfl rfl) (Zac (Zad 4) (Zac (Zad 1) (Zac (Zad 2) Zar))) (Zal (Zab 4) (Zaa (Zab 1) (Zaa (Zab 2) Zan)) (Zal (Zab 1) (Zaa (Zab 2) Zan) (Zal (Zab 2) Zan Za3))) rfl))
 (Zaj (Zcu (Zpq hu (Zad 5) Zct)
 (Zaj (Zfx 2 hu (Zad 6) Zgt)
 Za6)
 Za6)
 (Zaj (Zc0 3 (Zb4 (Zac (Zax 1 hu (Zad 4)) (Zac (Zax 2 hu (Zad 4)) (Zac (Zad 5) (Zac (Zad 6) Zar))))) (hpe := fun h => pe_bm PySem.F.plainAttrs_list PySem.F.slot_list_append PySem.F.type_list_append mt_append (pv 3) (pa_cons h pa_nil)))
 (Za2 4 (Za2 5 (Za2 6 Za6)))))))
 (Za8 (Zjh 3)))))
theorem Zmt (T : Txt K mg w) : FnAt P w K mg base "places_of" 1 1 Zep :=
  Zi3 ▸ Zem (N := Znv) T.d_places_of Ziz (by decide) Zmv rfl fun f cdv A outer s H H0 S0 E hr => by
    have hu := Zcd hr
    exact (Zaj (Zbd 1 Ziz.nd Z2k)
 (Zaj (Zfq (passes_of rfl) rfl (Zha (Zad 0)) (Zli rfl Ziz.nd (nac (nac (nac (nac NamesAt.nil)))))
 (Zaj (Zfx 1 hu (Zb4 (Zac (Zad 2) (Zac (Zad 3) Zar))) (Zb4 (Zac (Zad 4) (Zac (Zad 5) Zar))))
 (Za2 2 (Za2 3 (Za2 4 (Za2 5 Za6))))))
 (Za8 (Zjh 1))))
theorem Zqd (T : Txt K mg w) : FnAt P w K mg base "rows_of" 5 2 Zf7 :=
  Zju ▸ Zem (N := Zsp) T.d_rows_of Zjr (by decide) Zqm rfl fun f cdv A outer s H H0 S0 E hr => by
    have hu := Zcd hr
    exact (Zaj (Zbd 2 Zjr.nd (Zdd Zar))
 (Zaj (Zfq (passes_of rfl) rfl (Zha (Zbf (Zl4 T) hr (by decide) (takes_of rfl rfl rfl rfl) (Zac (Zad 0) Zar) (Zal (Zab 0) Zan Za3) rfl)) (Zd0 3 Zjr.nd)
 (Zaj (Zmy (Zli rfl Zjr.nd (nac (nac NamesAt.nil))) (Zh9 hu (Zad 1) (Zb4 (Zac (Zax 1 hu (Zad 3)) (Zac (Zax 2 hu (Zad 3)) Zar)))))
 (Zaj (Zc0 2 (Zb4 (Zac (Zax 1 hu (Zad 3)) (Zac (Zax 2 hu (Zad 3)) (Zac (Zad 4) (Zac (Zad 5) Zar))))) (hpe := fun h => pe_bm PySem.F.plainAttrs_list PySem.F.slot_list_append PySem.F.type_list_append mt_append (pv 2) (pa_cons h pa_nil)))
 (Za2 3 (Za2 4 (Za2 5 Za6))))))
 (Za8 (Zjh 2))))
theorem Zo0 (T : Txt K mg w) : FnAt P w K mg base "free_for" 2 4 Zf3 :=
  Zko ▸ Zem (N := Zqr) T.d_free_for Zu4 (by decide) Zny rfl fun f cdv A outer s H H0 S0 E hr => by
    have hu := Zcd hr
    exact (Zaj (Zcu (Zd2 (Zc5 (Zbf (Zjt T) hr (by decide) (takes_of rfl rfl rfl rfl) (Zac (Zax 0 hu (Zad 0)) (Zac (Zad 1) (Zac (Zad 2) Zar))) (Zal (Zai (Zab 0) Zah) (Zaa (Zab 1) (Zaa (Zab 2) Zan)) (Zal (Zab 1) (Zaa (Zab 2) Zan) (Zal (Zab 2) Zan Za3))) rfl)))
 (Za8 (Zbi Zgt))
 Za6)
 (Za8 (Zbi (Z6g (Zwg hu (Zad 1) (Zad 3)) (Zp5 (Zbf (Z0x T) hr (by decide) (takes_of rfl rfl rfl rfl) (Zac (Zad 0) (Zac (Zh9 hu (Zad 3) (Zad 1)) Zar)) (Zal (Zab 0) (Zaa (Zak (Zab 3) (Zab 1) Zbp) Zan) (Zal (Zak (Zab 3) (Zab 1) Zbp) Zan Za3)) rfl))))))
theorem Zn0 (T : Txt K mg w) : FnAt P w K mg base "place_beside" 3 3 Zdv :=
  Zgj ▸ Zem (N := Zkm) T.d_place_beside Zgh (by decide) Zis rfl fun f cdv A outer s H H0 S0 E hr => by
    have hu := Zcd hr
    exact (Zaj (Zbd 3 Zgh.nd (Zax 4 hu (Zad 0)))
 (Zaj (Zcu (Zpq hu (Zax 3 hu (Zad 0)) Zct)
 (Zaj (Zlm (passes_of rfl) (Zd2 (Zc5 (Zbf (Zo0 T) hr (by decide) (takes_of rfl rfl rfl rfl) (Zac (Zad 0) (Zac (Zad 3) (Zac (Zad 1) (Zac (Zad 2) Zar)))) (Zal (Zab 0) (Zaa (Zab 3) (Zaa (Zab 1) (Zaa (Zab 2) Zan))) (Zal (Zab 3) (Zaa (Zab 1) (Zaa (Zab 2) Zan)) (Zal (Zab 1) (Zaa (Zab 2) Zan) (Zal (Zab 2) Zan Za3)))) rfl)))
 (Zaj (Ztt 3 Zgh.nd Zaw)
 Za6))
 (Za8 (Zbi (Zb4 (Zac Zct (Zac (Zad 3) Zar))))))
 Za6)
 (Zaj (Zcu (Zc5 (Zbf (Zo0 T) hr (by decide) (takes_of rfl rfl rfl rfl) (Zac (Zad 0) (Zac (Zad 3) (Zac (Zad 1) (Zac (Zad 2) Zar)))) (Zal (Zab 0) (Zaa (Zab 3) (Zaa (Zab 1) (Zaa (Zab 2) Zan))) (Zal (Zab 3) (Zaa (Zab 1) (Zaa (Zab 2) Zan)) (Zal (Zab 1) (Zaa (Zab 2) Zan) (Zal (Zab 2) Zan Za3)))) rfl))
 (Za8 (Zbi (Zb4 (Zac Zct (Zac (Zad 3) Zar)))))
 Za6)
 (Za8 (Zbi (Zbf (Zpx T) hr (by decide) (takes_of rfl rfl rfl rfl) (Zac (Zad 0) Zar) (Zal (Zab 0) Zan Za3) rfl))))))
theorem Ztb (T : Txt K mg w) : FnAt P w K mg base "put_in" 6 3 Zjx :=
  Zpb ▸ Zem (N := Zw2) T.d_put_in Zcw (by decide) Ztu rfl fun f cdv A outer s H H0 S0 E hr => by
    have hu := Zcd hr
    exact (Zaj (Zbd 3 Zcw.nd (Zbf (Zmt T) hr (by decide) (takes_of rfl rfl rfl rfl) (Zac (Zbf (Z2h T) hr (by decide) (takes_of rfl rfl rfl rfl) (Zac (Zad 0) (Zac (Zad 1) Zar)) (Zal (Zab 0) (Zaa (Zab 1) Zan) (Zal (Zab 1) Zan Za3)) rfl) Zar) (Zal (Zbb Zv4 (Zaa (Zab 0) (Zaa (Zab 1) Zan))) Zan Za3) rfl))
 (Zaj (Zcu (Z5x hu (Zb4 (Zac (Zax 1 hu (Zad 2)) (Zac (Zax 2 hu (Zad 2)) Zar))) (Zad 3))
 (Za8 (Ztd (T.x_Taken) (takes_of rfl rfl rfl rfl)))
 Za6)
 (Zaj (Zbd 4 Zcw.nd Zyo)
 (Zaj (Zfq (passes_of rfl) rfl (Zha (Zad 0)) (Zd0 5 Zcw.nd)
 (Zaj (Zmy (Zli rfl Zcw.nd (nac (nac NamesAt.nil))) (Zh9 hu (Zad 3) (Zb4 (Zac (Zax 1 hu (Zad 5)) (Zac (Zax 2 hu (Zad 5)) Zar)))))
 (Zaj (Zcu (Zpq hu (Zad 6) Zct)
 (Zaj (Zfx 4 hu (Zad 7) (Zad 5))
 Za6)
 Za6)
 (Za2 5 (Za2 6 (Za2 7 Za6))))))
 (Zaj (Zbd 8 Zcw.nd (Zdd Zar))
 (Zaj (Zbd 9 Zcw.nd (Zad 2))
 (Zaj (Zlm (passes_of rfl) (Zrj (Zad 9))
 (Zaj (Zbd 10 Zcw.nd (Zb4 (Zac (Zax 1 hu (Zad 9)) (Zac (Zax 2 hu (Zad 9)) Zar))))
 (Zaj (Zbd 11 Zcw.nd (Zbf (Zn0 T) hr (by decide) (takes_of rfl rfl rfl rfl) (Zac (Zad 9) (Zac (Zad 1) (Zac (Zad 4) Zar))) (Zal (Zab 9) (Zaa (Zab 1) (Zaa (Zab 4) Zan)) (Zal (Zab 1) (Zaa (Zab 4) Zan) (Zal (Zab 4) Zan Za3))) rfl))
 (Zaj (Zc0 8 (Zb4 (Zac (Zax 1 hu (Zad 9)) (Zac (Zax 2 hu (Zad 9)) (Zac (Z23 hu (Zad 3) (Zad 10)) (Zac (Zad 11) Zar))))) (hpe := fun h => pe_bm PySem.F.plainAttrs_list PySem.F.slot_list_append PySem.F.type_list_append mt_append (pv 8) (pa_cons h pa_nil)))
 (Zaj (Zfx 3 hu (Zad 10) (Zad 11))
 (Zaj (Zcu (Zpq hu (Zax 0 hu (Zad 11)) Zct)
 (Zaj (Zbd 12 Zcw.nd (Z23 hu (Zad 4) (Zax 1 hu (Zad 11))))
 (Zaj (Zfx 4 hu (Zax 1 hu (Zad 11)) (Zad 9))
 (Zaj (Zbd 9 Zcw.nd (Zad 12))
 (Za2 12 Za6))))
 (Zaj (Zbd 9 Zcw.nd Zqu)
 (Za2 12 Za6)))
 (Za2 10 (Za2 11 (Za2 12 Za6)))))))))
 (Za8 (Zz3 8 (Zbi (Zb4 (Zac (Zbf (Zqd T) hr (by decide) (takes_of rfl rfl rfl rfl) (Zac (Zyz (Zad 0) (Zdd (Zac (Zad 2) Zar))) (Zac (Zad 3) Zar)) (Zal (Zak (Zab 0) (Zde (Zaa (Zab 2) Zan)) Zgc) (Zaa (Zab 3) Zan) (Zal (Zab 3) Zan Za3)) rfl) (Zac (Zad 8) Zar)))))))))))))
theorem Z0p (T : Txt K mg w) : FnAt P w K mg base "wants" 2 4 Zn2 :=
  Zra ▸ Zem (N := Zzr) T.d_wants Z01 (by decide) Zvw rfl fun f cdv A outer s H H0 S0 E hr => by
    have hu := Zcd hr
    exact (Zaj (Zcu (Zd2 (Zc5 (Zbf (Zjt T) hr (by decide) (takes_of rfl rfl rfl rfl) (Zac (Zax 0 hu (Zad 0)) (Zac (Zad 1) (Zac (Zad 2) Zar))) (Zal (Zai (Zab 0) Zah) (Zaa (Zab 1) (Zaa (Zab 2) Zan)) (Zal (Zab 1) (Zaa (Zab 2) Zan) (Zal (Zab 2) Zan Za3))) rfl)))
 (Za8 (Zbi Zgt))
 Za6)
 (Zaj (Zcu (Zpq hu (Zax 3 hu (Zad 0)) Zct)
 (Za8 (Zbi (Z13 L2.op_le L2.op_lt Z4p Zqy Zaz Zaz (Zax 4 hu (Zad 0)) (Zad 1) (Zax 1 hu (Zad 3)))))
 Za6)
 (Za8 (Zbi (Zv1 (Z7x hu (Zax 4 hu (Zad 0)) (Zad 1)) (Zp5 (Z69 hu (Zax 0 hu (Zad 3)) Zct)))))))
theorem Zu9 (T : Txt K mg w) : FnAt P w K mg base "taker_of" 3 4 Zhd :=
  Zkq ▸ Zem (N := Zqz) T.d_taker_of Znk (by decide) Zoi rfl fun f cdv A outer s H H0 S0 E hr => by
    have hu := Zcd hr
    exact (Zaj (Zfq (passes_of rfl) rfl (Zha (Zad 1)) (Zd0 4 Znk.nd)
 (Zaj (Zcu (Zc5 (Zbf (Z0p T) hr (by decide) (takes_of rfl rfl rfl rfl) (Zac (Zad 4) (Zac (Zad 0) (Zac (Zad 2) (Zac (Zh9 hu (Zad 3) (Zb4 (Zac (Zax 1 hu (Zad 4)) (Zac (Zax 2 hu (Zad 4)) Zar)))) Zar)))) (Zal (Zab 4) (Zaa (Zab 0) (Zaa (Zab 2) (Zaa (Zak (Zab 3) (Zcr (Zaa (Zai (Zab 4) Zah) (Zaa (Zai (Zab 4) Zah) Zan))) Zbp) Zan))) (Zal (Zab 0) (Zaa (Zab 2) (Zaa (Zak (Zab 3) (Zcr (Zaa (Zai (Zab 4) Zah) (Zaa (Zai (Zab 4) Zah) Zan))) Zbp) Zan)) (Zal (Zab 2) (Zaa (Zak (Zab 3) (Zcr (Zaa (Zai (Zab 4) Zah) (Zaa (Zai (Zab 4) Zah) Zan))) Zbp) Zan) (Zal (Zak (Zab 3) (Zcr (Zaa (Zai (Zab 4) Zah) (Zaa (Zai (Zab 4) Zah) Zan))) Zbp) Zan Za3)))) rfl))
 (Za8 (Zjh 4))
 Za6)
 (Za2 4 Za6)))
 (Za8 (Zbi Zqu)))
theorem Znw (T : Txt K mg w) : FnAt P w K mg base "day_left" 1 1 Zf5 :=
  Zkt ▸ Zem (N := Zp8) T.d_day_left Zuh (by decide) Znm rfl fun f cdv A outer s H H0 S0 E hr => by
    have hu := Zcd hr
    exact (Zaj (Zcu (Zpq hu (Zax 0 hu (Zad 0)) Zct)
 (Za8 (Zbi (Zax 1 hu (Zad 0))))
 Za6)
 (Za8 (Zbi Zqu)))
theorem Zvb (T : Txt K mg w) : FnAt P w K mg base "take_out" 6 4 Zg7 :=
  Zkw ▸ Zem (N := Zlz) T.d_take_out Zb2 (by decide) Zn1 rfl fun f cdv A outer s H H0 S0 E hr => by
    have hu := Zcd hr
    exact (Zaj (Zbd 4 Zb2.nd (Zbf (Zmt T) hr (by decide) (takes_of rfl rfl rfl rfl) (Zac (Zbf (Z2h T) hr (by decide) (takes_of rfl rfl rfl rfl) (Zac (Zad 0) (Zac (Zad 1) Zar)) (Zal (Zab 0) (Zaa (Zab 1) Zan) (Zal (Zab 1) Zan Za3)) rfl) Zar) (Zal (Zbb Zv4 (Zaa (Zab 0) (Zaa (Zab 1) Zan))) Zan Za3) rfl))
 (Zaj (Zbd 5 Zb2.nd (Zb4 (Zac (Zad 2) (Zac (Zad 3) Zar))))
 (Zaj (Zcu (Zrq hu (Zad 5) (Zad 4))
 (Za8 (Ztd (T.x_NoFeast) (takes_of rfl rfl rfl rfl)))
 Za6)
 (Zaj (Z24 7 (Z1t 6 7 rfl Zb2.nd rfl rfl (sw_true rfl rfl rfl (by decide +kernel)) (Zha (Zbf (Zl4 T) hr (by decide) (takes_of rfl rfl rfl rfl) (Zac (Zad 0) Zar) (Zal (Zab 0) Zan Za3) rfl)) (blkOk_by (N := Zlz) (sc := defScope Zf1) (by decide +kernel)) (fun s H C cl fp => pg_name Zb2.nd rfl (Or.inl rfl)) (fun s H C cl fp => pts_one ((Zrf hu (Zb4 (Zac (Zax 1 hu (Zad 7)) (Zac (Zax 2 hu (Zad 7)) Zar))) (Zad 5))).run) (fun _ _ _ z => z) (Zak (Zcr (Zaa (Zai (Zab 7) Zah) (Zaa (Zai (Zab 7) Zah) Zan))) (Zab 5) Zbm) (fun s H C cl fp => (Zad 7)) (Zab 7)))
 (Zaj (Zbd 8 Zb2.nd (Zdd (Zac (Zb4 (Zac (Zad 2) (Zac (Zad 3) (Zac (Zh9 hu (Zad 4) (Zad 5)) (Zac Zqu Zar))))) Zar)))
 (Zaj (Zbd 9 Zb2.nd (Zbf (Znw T) hr (by decide) (takes_of rfl rfl rfl rfl) (Zac (Zh9 hu (Zad 4) (Zad 5)) Zar) (Zal (Zak (Zab 4) (Zab 5) Zbp) Zan Za3) rfl))
 (Zaj (Zlm (passes_of rfl) (Zrj (Zad 9))
 (Zaj (Zbd 10 Zb2.nd (Zbf (Zu9 T) hr (by decide) (takes_of rfl rfl rfl rfl) (Zac (Zad 9) (Zac (Zad 6) (Zac (Zad 1) (Zac (Zad 4) Zar)))) (Zal (Zab 9) (Zaa (Zab 6) (Zaa (Zab 1) (Zaa (Zab 4) Zan))) (Zal (Zab 6) (Zaa (Zab 1) (Zaa (Zab 4) Zan)) (Zal (Zab 1) (Zaa (Zab 4) Zan) (Zal (Zab 4) Zan Za3)))) rfl))
 (Zaj (Zcu (Z6o (Zad 10))
 (Zaj (Zbd 9 Zb2.nd Zqu)
 (Za2 11 Za6))
 (Zaj (Zbd 5 Zb2.nd (Zb4 (Zac (Zax 1 hu (Zad 10)) (Zac (Zax 2 hu (Zad 10)) Zar))))
 (Zaj (Zbd 11 Zb2.nd (Zh9 hu (Zad 4) (Zad 5)))
 (Zaj (Zfx 4 hu (Zad 5) (Zb4 (Zac Zct (Zac (Zad 9) Zar))))
 (Zaj (Zc0 8 (Zb4 (Zac (Zax 1 hu (Zad 10)) (Zac (Zax 2 hu (Zad 10)) (Zac (Zad 11) (Zac (Zb4 (Zac Zct (Zac (Zad 9) Zar))) Zar))))) (hpe := fun h => pe_bm PySem.F.plainAttrs_list PySem.F.slot_list_append PySem.F.type_list_append mt_append (pv 8) (pa_cons h pa_nil)))
 (Zaj (Zbd 9 Zb2.nd (Zbf (Znw T) hr (by decide) (takes_of rfl rfl rfl rfl) (Zac (Zad 11) Zar) (Zal (Zab 11) Zan Za3) rfl))
 (Za2 11 Za6)))))))
 (Za2 10 (Za2 11 Za6)))))
 (Za8 (Zz3 8 (Zbi (Zb4 (Zac (Zbf (Zqd T) hr (by decide) (takes_of rfl rfl rfl rfl) (Zac (Zad 6) (Zac (Zad 4) Zar)) (Zal (Zab 6) (Zaa (Zab 4) Zan) (Zal (Zab 4) Zan Za3)) rfl) (Zac (Zad 8) Zar)))))))))))))
theorem Zkr (T : Txt K mg w) : FnAt P w K mg base "_law_cell" 1 2 Zey :=
  Zky ▸ Zem (N := Zqe) T.d_law_cell Zuz (by decide) Zno rfl fun f cdv A outer s H H0 S0 E hr => by
    have hu := Zcd hr
    exact (Zaj (Zcu (Z59 (Zad 1) (Zos T.n_len (Zad 0)))
 (Za8 (Zbi (Zh9 hu (Zad 0) (Zad 1))))
 Za6)
 (Za8 (Zbi Zaw)))
theorem Zoz (T : Txt K mg w) : FnAt P w K mg base "_law_seed" 1 1 Zf0 :=
  Zkn ▸ Zem (N := Zqx) T.d_law_seed Zk4 (by decide) Zo1 rfl fun f cdv A outer s H H0 S0 E hr => by
    have hu := Zcd hr
    exact (Zaj (Zcu (Z7g (Zad 0) (Zwu Zaw Zaw))
 (Za8 (Zjh 0))
 Za6)
 (Zaj (Zbd 1 Zk4.nd (Zk8 (Zii (Zk8 (Zdh (Zii (Zad 0) Zaw) Zaw) Zaw) Zaw) Zaw))
 (Zaj (Zbd 2 Zk4.nd (Zk8 (Zii (Zk8 (Zdh (Zii (Zad 0) Zaw) Zaw) Zaw) Zaw) Zaw))
 (Za8 (Zbi (Zdh (Zii (Zad 1) Zaw) (Zad 2)))))))
theorem Zec (T : Txt K mg w) : FnAt P w K mg base "_law_digits" 2 2 Zch :=
  Zh8 ▸ Zem (N := Zmu) T.d_law_digits Zc8 (by decide) Zlf rfl fun f cdv A outer s H H0 S0 E hr => by
    have hu := Zcd hr
    exact (Zaj (Zbd 2 Zc8.nd (Zbf (Zoz T) hr (by decide) (takes_of rfl rfl rfl rfl) (Zac (Zad 0) Zar) (Zal (Zab 0) Zan Za3) rfl))
 (Zaj (Zbd 3 Zc8.nd (Zdd Zar))
 (Zaj (Zfq (passes_of rfl) rfl (Z3m T.n_enumerate (Zac (Zad 1) Zar)) (Zli rfl Zc8.nd (nac (nac NamesAt.nil)))
 (Zaj (Zcu (Z59 (Zad 2) (Zad 5))
 (Zaj (Zbd 2 Zc8.nd (Zbf (Zoz T) hr (by decide) (takes_of rfl rfl rfl rfl) (Zac (Zdh (Zdh (Zad 2) (Zii Zaw (Zad 4))) (Zk8 (Zad 0) Zaw)) Zar) (Zal (Zak (Zak (Zab 2) (Zak Zav (Zab 4) Zbe) Zaz) (Zak (Zab 0) Zav Zbe) Zaz) Zan Za3) rfl))
 Za6)
 Za6)
 (Zaj (Zc0 3 (Zk8 (Zad 2) (Zad 5)) (hpe := fun h => pe_bm PySem.F.plainAttrs_list PySem.F.slot_list_append PySem.F.type_list_append mt_append (pv 3) (pa_cons h pa_nil)))
 (Zaj (Zbd 2 Zc8.nd (Z26 (Zad 2) (Zad 5)))
 (Za2 4 (Za2 5 Za6))))))
 (Za8 (Zjh 3)))))
theorem Zd3 (T : Txt K mg w) : FnAt P w K mg base "_law_whole" 1 1 Zck :=
  Ziy ▸ Zem (N := Znx) T.d_law_whole Zt0 (by decide) Zmq rfl fun f cdv A outer s H H0 S0 E hr => by
    have hu := Zcd hr
    exact (Za8 (Zbi (Zv1 (Zka T.n_isinstance T.n_int Zys Z35 (Zad 0) (Z06)) (Zp5 (Z6l (Zka T.n_isinstance T.n_bool Zw8 Z12 (Zad 0) (Zy6)))))))
theorem Zok (T : Txt K mg w) : FnAt P w K mg base "_law_are_rows" 2 1 Zdr :=
  Zf6 ▸ Zem (N := Zkc) T.d_law_are_rows Zi9 (by decide) Ziw rfl fun f cdv A outer s H H0 S0 E hr => by
    have hu := Zcd hr
    exact (Zaj (Zcu (Zd2 (Zc5 (Zka T.n_isinstance T.n_list Zp0 Zw3 (Zad 0) (Zte))))
 (Za8 (Zbi Zgt))
 Za6)
 (Zaj (Zfq (passes_of rfl) rfl (Zha (Zad 0)) (Zd0 1 Zi9.nd)
 (Zaj (Zcu (Zfk (Zsz (Zd2 (Zc5 (Zka T.n_isinstance T.n_tuple Zic Zk7 (Zad 1) (Zj5)))) (Zml (Zrf hu (Zos T.n_len (Zad 1)) Zaw))))
 (Za8 (Zbi Zgt))
 Za6)
 (Zaj (Zcu (Zfk (Zsz (Zd2 (Zc5 (Zbf (Zd3 T) hr (by decide) (takes_of rfl rfl rfl rfl) (Zac (Zax 0 hu (Zad 1)) Zar) (Zal (Zai (Zab 1) Zah) Zan Za3) rfl))) (Zml (Zd2 (Zc5 (Zbf (Zd3 T) hr (by decide) (takes_of rfl rfl rfl rfl) (Zac (Zax 1 hu (Zad 1)) Zar) (Zal (Zai (Zab 1) Zah) Zan Za3) rfl))))))
 (Za8 (Zbi Zgt))
 Za6)
 (Zaj (Zcu (Zfk (Zsz (Zd2 (Zc5 (Zka T.n_isinstance T.n_str Zsn Z0b (Zax 2 hu (Zad 1)) (Zws)))) (Zml (Zd2 (Zc5 (Zbf (Zd3 T) hr (by decide) (takes_of rfl rfl rfl rfl) (Zac (Zax 3 hu (Zad 1)) Zar) (Zal (Zai (Zab 1) Zah) Zan Za3) rfl))))))
 (Za8 (Zbi Zgt))
 Za6)
 (Za2 1 Za6)))))
 (Za8 (Zbi Zgt))))
theorem Zod (T : Txt K mg w) : FnAt P w K mg base "_law_is_place" 2 1 Zds :=
  Zgo ▸ Zem (N := Zkd) T.d_law_is_place Zog (by decide) Zi4 rfl fun f cdv A outer s H H0 S0 E hr => by
    have hu := Zcd hr
    exact (Zaj (Zcu (Zfk (Zsz (Zd2 (Zc5 (Zka T.n_isinstance T.n_tuple Zic Zk7 (Zad 0) (Zj5)))) (Zml (Zrf hu (Zos T.n_len (Zad 0)) Zaw))))
 (Za8 (Zbi Zgt))
 Za6)
 (Za8 (Zbi (Zv1 (Zka T.n_isinstance T.n_str Zsn Z0b (Zax 0 hu (Zad 0)) (Zws)) (Zp5 (Zbf (Zd3 T) hr (by decide) (takes_of rfl rfl rfl rfl) (Zac (Zax 1 hu (Zad 0)) Zar) (Zal (Zai (Zab 0) Zah) Zan Za3) rfl))))))
theorem Zmz (T : Txt K mg w) : FnAt P w K mg base "_law_are_turns" 3 1 Zc7 :=
  Zfi ▸ Zem (N := Zjc) T.d_law_are_turns Zfj (by decide) Zil rfl fun f cdv A outer s H H0 S0 E hr => by
    have hu := Zcd hr
    exact (Zaj (Zcu (Zd2 (Zc5 (Zka T.n_isinstance T.n_list Zp0 Zw3 (Zad 0) (Zte))))
 (Za8 (Zbi Zgt))
 Za6)
 (Zaj (Zfq (passes_of rfl) rfl (Zha (Zad 0)) (Zd0 1 Zfj.nd)
 (Zaj (Zcu (Zfk (Zsz (Zd2 (Zc5 (Zka T.n_isinstance T.n_tuple Zic Zk7 (Zad 1) (Zj5)))) (Zml (Zrf hu (Zos T.n_len (Zad 1)) Zaw))))
 (Za8 (Zbi Zgt))
 Za6)
 (Zaj (Zcu (Zfk (Zsz (Zd2 (Zc5 (Zbf (Zd3 T) hr (by decide) (takes_of rfl rfl rfl rfl) (Zac (Zax 0 hu (Zad 1)) Zar) (Zal (Zai (Zab 1) Zah) Zan Za3) rfl))) (Zml (Zd2 (Zc5 (Zbf (Zd3 T) hr (by decide) (takes_of rfl rfl rfl rfl) (Zac (Zax 1 hu (Zad 1)) Zar) (Zal (Zai (Zab 1) Zah) Zan Za3) rfl))))))
 (Za8 (Zbi Zgt))
 Za6)
 (Zaj (Zfq (passes_of rfl) rfl (Zha (Zb4 (Zac (Zax 2 hu (Zad 1)) (Zac (Zax 3 hu (Zad 1)) Zar)))) (Zd0 2 Zfj.nd)
 (Zaj (Zcu (Zfk (Zw1 (Zrj (Zad 2)) (Zq6 (Zd2 (Zc5 (Zbf (Zod T) hr (by decide) (takes_of rfl rfl rfl rfl) (Zac (Zad 2) Zar) (Zal (Zab 2) Zan Za3) rfl))))))
 (Za8 (Zbi Zgt))
 Za6)
 (Za2 2 Za6)))
 (Za2 1 (Za2 2 Za6))))))
 (Za8 (Zbi Zgt))))
theorem Zva (T : Txt K mg w) : FnAt P w K mg base "_law_head" 3 1 Zhu :=
  Zk2 ▸ Zem (N := Zp4) T.d_law_head Zgn (by decide) Zn9 rfl fun f cdv A outer s H H0 S0 E hr => by
    have hu := Zcd hr
    exact (Zaj (Zmy (Zli rfl Zgn.nd (nac (nac (nac (nac (nac NamesAt.nil)))))) (Zbf (Zec T) hr (by decide) (takes_of rfl rfl rfl rfl) (Zac (Zbf (Zkr T) hr (by decide) (takes_of rfl rfl rfl rfl) (Zac (Zad 0) (Zac Zaw Zar)) (Zal (Zab 0) (Zaa Zav Zan) (Zal Zav Zan Za3)) rfl) (Zac (Zdd (Zac Zaw (Zac Zaw (Zac Zaw (Zac Zaw (Zac (Zwu Zaw Zaw) Zar)))))) Zar)) (Zal (Zbb Zez (Zaa (Zab 0) (Zaa Zav Zan))) (Zaa (Zde (Zaa Zav (Zaa Zav (Zaa Zav (Zaa Zav (Zaa (Zak Zav Zav Zbe) Zan)))))) Zan) (Zal (Zde (Zaa Zav (Zaa Zav (Zaa Zav (Zaa Zav (Zaa (Zak Zav Zav Zbe) Zan)))))) Zan Za3)) rfl))
 (Zaj (Zbd 6 Zgn.nd (Zh9 hu (Zdd (Zac Zaw (Zac Zaw (Zac Zaw (Zac Zaw Zar))))) (Zad 1)))
 (Zaj (Zbd 7 Zgn.nd (Zh9 hu (Zdd (Zac Zaw (Zac Zaw (Zac Zaw Zar)))) (Zad 2)))
 (Zaj (Zbd 8 Zgn.nd (Zh9 hu (Zdd (Zac Zaw (Zac Zaw (Zac Zaw (Zac (Zad 5) Zar))))) (Zad 3)))
 (Za8 (Zbi (Zb4 (Zac (Zad 6) (Zac (Zad 7) (Zac (Zad 8) (Zac (Zad 4) Zar)))))))))))
theorem Zpu (T : Txt K mg w) : FnAt P w K mg base "_law_entries" 3 5 Zd9 :=
  Zg2 ▸ Zem (N := Zln) T.d_law_entries Zbo (by decide) Zkg rfl fun f cdv A outer s H H0 S0 E hr => by
    have hu := Zcd hr
    exact (Zaj (Zbd 5 Zbo.nd (Zdd Zar))
 (Zaj (Zbd 6 Zbo.nd Z2k)
 (Zaj (Zfq (passes_of rfl) rfl (Zha (Zad 0)) (Zd0 7 Zbo.nd)
 (Zaj (Zmy (Zli rfl Zbo.nd (nac (nac (nac (nac (nac (nac NamesAt.nil))))))) (Zbf (Zec T) hr (by decide) (takes_of rfl rfl rfl rfl) (Zac (Zad 7) (Zac (Zdd (Zac Zaw (Zac Zaw (Zac Zaw (Zac Zaw (Zac Zaw (Zac (Zad 1) Zar))))))) Zar)) (Zal (Zab 7) (Zaa (Zde (Zaa Zav (Zaa Zav (Zaa Zav (Zaa Zav (Zaa Zav (Zaa (Zab 1) Zan))))))) Zan) (Zal (Zde (Zaa Zav (Zaa Zav (Zaa Zav (Zaa Zav (Zaa Zav (Zaa (Zab 1) Zan))))))) Zan Za3)) rfl))
 (Zaj (Zcu (Zpq hu (Zad 10) Zaw)
 (Zaj (Zbd 9 Zbo.nd (Zii (Zad 9) (Zwu Zaw Zaw)))
 Za6)
 Za6)
 (Zaj (Zbd 11 Zbo.nd (Zh9 hu (Zdd (Zac Zaw (Zac Zaw (Zac Zaw (Zac Zaw (Zac Zaw (Zac Zaw (Zac Zaw (Zac Zaw (Zac (Zwu Zaw Zaw) Zar)))))))))) (Zad 11)))
 (Zaj (Zcu (Zrq hu (Zb4 (Zac (Zad 9) (Zac (Zad 11) Zar))) (Zad 6))
 (Zaj (Zfx 6 hu (Zb4 (Zac (Zad 9) (Zac (Zad 11) Zar))) Zgt)
 (Zaj (Zbd 14 Zbo.nd (Zh9 hu (Zdd (Zac Zct (Zac Zct (Zac Zct (Zac Zct Zar))))) (Zad 12)))
 (Zaj (Zc0 5 (Zb4 (Zac (Zdh Zaw (Zk8 (Zad 8) (Zad 2))) (Zac (Zad 9) (Zac (Zad 11) (Zac (Zad 14) (Zac (Zdh (Zad 3) (Zad 13)) Zar)))))) (hpe := fun h => pe_bm PySem.F.plainAttrs_list PySem.F.slot_list_append PySem.F.type_list_append mt_append (pv 5) (pa_cons h pa_nil)))
 (Za2 14 Za6))))
 (Za2 14 Za6))
 (Za2 7 (Za2 8 (Za2 9 (Za2 10 (Za2 11 (Za2 12 (Za2 13 (Za2 14 Za6)))))))))))))
 (Zaj (Zfq (passes_of rfl) rfl (Zlw T.n_range (Zac (Zad 4) Zar)) (Zd0 15 Zbo.nd)
 (Zaj (Zmy (Zli rfl Zbo.nd (nac (nac NamesAt.nil))) (Zbf (Zec T) hr (by decide) (takes_of rfl rfl rfl rfl) (Zac (Zdh (Z6r rfl T.n_sum (Zad 0)) (Zii Zaw (Zad 15))) (Zac (Zdd (Zac Zaw (Zac Zaw Zar))) Zar)) (Zal (Zak (Zai (Zab 0) Zs0) (Zak Zav (Zab 15) Zbe) Zaz) (Zaa (Zde (Zaa Zav (Zaa Zav Zan))) Zan) (Zal (Zde (Zaa Zav (Zaa Zav Zan))) Zan Za3)) rfl))
 (Zaj (Zbd 14 Zbo.nd (Zh9 hu (Zdd (Zac Zct (Zac Zct (Zac Zct (Zac Zct Zar))))) (Zad 12)))
 (Zaj (Zc0 5 (Zb4 (Zac (Zdh Zaw (Zk8 (Zad 8) (Zad 2))) (Zac (Zdh Zaw (Zii Zaw (Zad 15))) (Zac Zaw (Zac (Zad 14) (Zac (Zdh (Zad 3) (Zk8 (Zad 15) (Zdh Zaw (Z26 (Zad 1) Zaw)))) Zar)))))) (hpe := fun h => pe_bm PySem.F.plainAttrs_list PySem.F.slot_list_append PySem.F.type_list_append mt_append (pv 5) (pa_cons h pa_nil)))
 (Za2 8 (Za2 12 (Za2 14 (Za2 15 Za6))))))))
 (Za8 (Zjh 5))))))
theorem Zvg (T : Txt K mg w) : FnAt P w K mg base "_law_shut" 3 3 Zhl :=
  Zkv ▸ Zem (N := Zqk) T.d_law_shut Zc3 (by decide) Zo2 rfl fun f cdv A outer s H H0 S0 E hr => by
    have hu := Zcd hr
    exact (Zaj (Zbd 3 Zc3.nd (Zdd (Zac Zaw Zar)))
 (Zaj (Zfq (passes_of rfl) rfl (Zlw T.n_range (Zac Zaw Zar)) (Zd0 4 Zc3.nd)
 (Zaj (Zbd 3 Zc3.nd (Zyz (Zad 3) (Zdd (Zac (Zdh (Zad 1) Zaw) (Zac Zaw Zar)))))
 (Za2 4 Za6)))
 (Zaj (Zbd 5 Zc3.nd (Zbf (Zec T) hr (by decide) (takes_of rfl rfl rfl rfl) (Zac (Zad 0) (Zac (Zyz (Zad 3) (Zdd (Zac (Zdh (Zad 1) Zaw) (Zac Zaw (Zac Zaw Zar))))) Zar)) (Zal (Zab 0) (Zaa (Zak (Zab 3) (Zde (Zaa (Zak (Zab 1) Zav Zaz) (Zaa Zav (Zaa Zav Zan)))) Zgc) Zan) (Zal (Zak (Zab 3) (Zde (Zaa (Zak (Zab 1) Zav Zaz) (Zaa Zav (Zaa Zav Zan)))) Zgc) Zan Za3)) rfl))
 (Zaj (Zbd 6 Zc3.nd Zyo)
 (Zaj (Zfq (passes_of rfl) rfl (Zlw T.n_range (Zac (Z39 rfl T.n_min Zaw (Zax 0 hu (Zad 5))) Zar)) (Zd0 4 Zc3.nd)
 (Zaj (Zfx 6 hu (Zdh (Zad 2) (Zh9 hu (Zad 5) (Zdh Zaw (Zii Zaw (Zad 4))))) (Zh9 hu (Zad 5) (Zdh Zaw (Zii Zaw (Zad 4)))))
 (Za2 4 Za6)))
 (Zaj (Zcu (Zpq hu (Zax 0 hu (Zad 5)) Zaw)
 (Zaj (Zfq (passes_of rfl) rfl (Zlw T.n_range (Zac (Zax 13 hu (Zad 5)) Zar)) (Zd0 4 Zc3.nd)
 (Zaj (Zfx 6 hu (Zdh (Zdh (Zad 2) (Zax 11 hu (Zad 5))) (Zad 4)) (Zax 12 hu (Zad 5)))
 (Za2 4 Za6)))
 (Za2 4 Za6))
 (Za2 4 Za6))
 (Za8 (Zjh 6))))))))
theorem Zul (T : Txt K mg w) : FnAt P w K mg base "_law_laid" 4 2 Zg8 :=
  Zkz ▸ Zem (N := Zp2) T.d_law_laid Zia (by decide) Znr rfl fun f cdv A outer s H H0 S0 E hr => by
    have hu := Zcd hr
    exact (Zaj (Zmy (Zli rfl Zia.nd (nac (nac (nac (nac NamesAt.nil))))) (Zbf (Zva T) hr (by decide) (takes_of rfl rfl rfl rfl) (Zac (Zad 0) Zar) (Zal (Zab 0) Zan Za3) rfl))
 (Zaj (Zbd 6 Zia.nd (Zbf (Zpu T) hr (by decide) (takes_of rfl rfl rfl rfl) (Zac (Zm7 (Zad 0) (Znu Zaw) (Znu (Zdh Zaw (Zad 1)))) (Zac (Zad 2) (Zac (Zad 3) (Zac (Zad 4) (Zac (Zii Zaw (Zad 5)) Zar))))) (Zal (Zoh (Zab 0) (Zpj Zav) (Zpj (Zak Zav (Zab 1) Zaz))) (Zaa (Zab 2) (Zaa (Zab 3) (Zaa (Zab 4) (Zaa (Zak Zav (Zab 5) Zbe) Zan)))) (Zal (Zab 2) (Zaa (Zab 3) (Zaa (Zab 4) (Zaa (Zak Zav (Zab 5) Zbe) Zan))) (Zal (Zab 3) (Zaa (Zab 4) (Zaa (Zak Zav (Zab 5) Zbe) Zan)) (Zal (Zab 4) (Zaa (Zak Zav (Zab 5) Zbe) Zan) (Zal (Zak Zav (Zab 5) Zbe) Zan Za3))))) rfl))
 (Zaj (Zbd 7 Zia.nd (Zbf (Zvg T) hr (by decide) (takes_of rfl rfl rfl rfl) (Zac (Zbf (Zkr T) hr (by decide) (takes_of rfl rfl rfl rfl) (Zac (Zad 0) (Zac Zaw Zar)) (Zal (Zab 0) (Zaa Zav Zan) (Zal Zav Zan Za3)) rfl) (Zac (Zad 2) (Zac (Zad 4) Zar))) (Zal (Zbb Zez (Zaa (Zab 0) (Zaa Zav Zan))) (Zaa (Zab 2) (Zaa (Zab 4) Zan)) (Zal (Zab 2) (Zaa (Zab 4) Zan) (Zal (Zab 4) Zan Za3))) rfl))
 (Za8 (Z3z [6, 7] (Zac (Zad 6) (Zac (Zad 7) Zar)))))))
theorem Zgi (T : Txt K mg w) : FnAt P w K mg base "_law_are_both" 4 1 Zcl :=
  Zgr ▸ Zem (N := Zkf) T.d_law_are_both Zpi (by decide) Zjl rfl fun f cdv A outer s H H0 S0 E hr => by
    have hu := Zcd hr
    exact (Zaj (Zcu (Zfk (Zsz (Zd2 (Zc5 (Zka T.n_isinstance T.n_tuple Zic Zk7 (Zad 0) (Zj5)))) (Zml (Zrf hu (Zos T.n_len (Zad 0)) Zaw))))
 (Za8 (Zbi Zgt))
 Za6)
 (Za8 (Zbi (Zv1 (Zbf (Zok T) hr (by decide) (takes_of rfl rfl rfl rfl) (Zac (Zax 0 hu (Zad 0)) Zar) (Zal (Zai (Zab 0) Zah) Zan Za3) rfl) (Zp5 (Zbf (Zmz T) hr (by decide) (takes_of rfl rfl rfl rfl) (Zac (Zax 1 hu (Zad 0)) Zar) (Zal (Zai (Zab 0) Zah) Zan Za3) rfl))))))
theorem Zk5 (T : Txt K mg w) : FnAt P w K mg base "_law_turned_about" 1 1 Zcj :=
  Zdy ▸ Zem (N := Zeh) T.d_law_turned_about Zd1 (by decide) Zgm rfl fun f cdv A outer s H H0 S0 E hr => by
    have hu := Zcd hr
    exact (Za8 (Z24 1 (Zbi (Z7u 1 rfl Zd1.nd (Zha (Zad 0)) (blkOk_by (N := Zeh) (sc := defScope Zb0) (by decide +kernel)) (fun s H C cl fp => pg_name Zd1.nd rfl (Or.inl rfl)) (fun s H C cl fp => pts_nil) Z49 m_bl (fun s H C cl fp => (Zb4 (Zac (Zax 0 hu (Zad 1)) (Zac (Zax 1 hu (Zad 1)) (Zac (Zax 3 hu (Zad 1)) (Zac (Zax 2 hu (Zad 1)) Zar)))))) (Zcr (Zaa (Zai (Zab 1) Zah) (Zaa (Zai (Zab 1) Zah) (Zaa (Zai (Zab 1) Zah) (Zaa (Zai (Zab 1) Zah) Zan)))))))))
theorem at_law (T : Txt K mg w) {fa : Addr} (hfa : mg "law" = some (.ref fa)) : ∃ fd : FuncData, (∀ (s : Shared) (v : Value), BindsTo s fd ⟨[v], []⟩ [("_law_script", v)]) ∧ ∀ base : Heap, K.In base → base.Ns mainGlobals mg → FnOk P w K mg base (L2.CX P w) 7 fa fd ["_law_script"] (spLaw K) :=
  Z5s (N := Z58) T.d_law Zf8 (by decide) Z63 hfa (fun ns hn => by have := Zza ns hn; rw [Z21] at this; exact this) fun base _ _ f cdv A outer s H H0 S0 E hr => by
    have hu := Zcd hr
    exact (Zaj (Zmy (Z3k rfl Zf8.nd (nac (nac NamesAt.nil))) (Zbf (Zul T) hr (by decide) (takes_of rfl rfl rfl rfl) (Zac (Zad 0) (Zac Zaw Zar)) (Zal (Zab 0) (Zaa Zav Zan) (Zal Zav Zan Za3)) rfl))
 (Zaj (Zbd 3 Zf8.nd (Zdh Zaw (Zax 0 hu (Zbf (Zec T) hr (by decide) (takes_of rfl rfl rfl rfl) (Zac (Zbf (Zkr T) hr (by decide) (takes_of rfl rfl rfl rfl) (Zac (Zad 0) (Zac Zaw Zar)) (Zal (Zab 0) (Zaa Zav Zan) (Zal Zav Zan Za3)) rfl) (Zac (Zdd (Zac Zaw Zar)) Zar)) (Zal (Zbb Zez (Zaa (Zab 0) (Zaa Zav Zan))) (Zaa (Zde (Zaa Zav Zan)) Zan) (Zal (Zde (Zaa Zav Zan)) Zan Za3)) rfl))))
 (Zaj (Zbd 4 Zf8.nd (Zm7 (Zad 1) (Znu (Zad 3)) Zun))
 (Zaj (Zbd 5 Zf8.nd (Zm7 (Zad 1) Zun (Znu (Zad 3))))
 (Zaj (Zbd 6 Zf8.nd (Zdd Zar))
 (Zaj (Zbd 7 Zf8.nd (Zdd Zar))
 (Zaj (Zz3 5 (Zfq (passes_of rfl) rfl (Zha (Zad 5)) (Zd0 8 Zf8.nd)
 (Zaj (Zbd 9 Zf8.nd (Zbf (Ztb T) hr (by decide) (takes_of rfl rfl rfl rfl) (Zac (Zvd rfl T.n_list (Zad 4)) (Zac (Zvi T.n_dict (Zad 2)) (Zac (Zad 8) Zar))) (Zal (Zai (Zab 4) Zeu) (Zaa (Zai (Zab 2) Zc9) (Zaa (Zab 8) Zan)) (Zal (Zai (Zab 2) Zc9) (Zaa (Zab 8) Zan) (Zal (Zab 8) Zan Za3))) rfl))
 (Zaj (Zcu (Zd2 (Zc5 (Zbf (Zgi T) hr (by decide) (takes_of rfl rfl rfl rfl) (Zac (Zad 9) Zar) (Zal (Zab 9) Zan Za3) rfl)))
 (Za8 (Zbi Zgt))
 Za6)
 (Zaj (Zc0 6 (Zax 0 hu (Zad 9)) (hpe := fun h => pe_bm PySem.F.plainAttrs_list PySem.F.slot_list_append PySem.F.type_list_append mt_append (pv 6) (pa_cons h pa_nil)))
 (Zaj (Zc0 7 (Zax 1 hu (Zad 9)) (hpe := fun h => pe_bm PySem.F.plainAttrs_list PySem.F.slot_list_append PySem.F.type_list_append mt_append (pv 7) (pa_cons h pa_nil)))
 (Zaj (Zc0 4 (Zad 8) (hpe := fun h => pe_bm PySem.F.plainAttrs_list PySem.F.slot_list_append PySem.F.type_list_append mt_append (pv 4) (pa_cons h pa_nil)))
 (Za2 8 (Za2 9 Za6)))))))))
 (Zaj (Zbd 10 Zf8.nd (Zm7 (Zad 1) (Znu (Zad 3)) Zun))
 (Zaj (Zbd 11 Zf8.nd Zqu)
 (Zaj (Zfq (passes_of rfl) rfl (Zha (Z5f (Zad 5))) (Zd0 8 Zf8.nd)
 (Zaj (Zbd 11 Zf8.nd (Zbf (Ztb T) hr (by decide) (takes_of rfl rfl rfl rfl) (Zac (Zvd rfl T.n_list (Zad 10)) (Zac (Zvi T.n_dict (Zad 2)) (Zac (Zad 8) Zar))) (Zal (Zai (Zab 10) Zeu) (Zaa (Zai (Zab 2) Zc9) (Zaa (Zab 8) Zan)) (Zal (Zai (Zab 2) Zc9) (Zaa (Zab 8) Zan) (Zal (Zab 8) Zan Za3))) rfl))
 (Zaj (Zcu (Zd2 (Zc5 (Zbf (Zgi T) hr (by decide) (takes_of rfl rfl rfl rfl) (Zac (Zad 11) Zar) (Zal (Zab 11) Zan Za3) rfl)))
 (Za8 (Zbi Zgt))
 Za6)
 (Zaj (Zc0 10 (Zad 8) (hpe := fun h => pe_bm PySem.F.plainAttrs_list PySem.F.slot_list_append PySem.F.type_list_append mt_append (pv 10) (pa_cons h pa_nil)))
 (Za2 8 Za6)))))
 (Zaj (Zcu (Zfk (Zw1 (Zrj (Zad 11)) (Zq6 (Zrf hu (Zax 0 hu (Zad 11)) (Zx9 hu (Zad 6))))))
 (Za8 (Zbi Zgt))
 Za6)
 (Zaj (Zlm (passes_of rfl) (Z5a (Zos T.n_len (Zad 7)) Zaw)
 (Zaj (Zbd 8 Zf8.nd (Zx9 hu (Zad 4)))
 (Zaj (Zbd 12 Zf8.nd (Zbf (Zvb T) hr (by decide) (takes_of rfl rfl rfl rfl) (Zac (Zvd rfl T.n_list (Zad 4)) (Zac (Zvi T.n_dict (Zad 2)) (Zac (Zax 1 hu (Zad 8)) (Zac (Zax 2 hu (Zad 8)) Zar)))) (Zal (Zai (Zab 4) Zeu) (Zaa (Zai (Zab 2) Zc9) (Zaa (Zai (Zab 8) Zah) (Zaa (Zai (Zab 8) Zah) Zan))) (Zal (Zai (Zab 2) Zc9) (Zaa (Zai (Zab 8) Zah) (Zaa (Zai (Zab 8) Zah) Zan)) (Zal (Zai (Zab 8) Zah) (Zaa (Zai (Zab 8) Zah) Zan) (Zal (Zai (Zab 8) Zah) Zan Za3)))) rfl))
 (Zaj (Z6n (Z0n (Z5p (Z0t (Zd2 (Zc5 (Zbf (Zgi T) hr (by decide) (takes_of rfl rfl rfl rfl) (Zac (Zad 12) Zar) (Zal (Zab 12) Zan Za3) rfl)))) (Z4l (Z5d hu (Z33 (Zax 1 hu (Zad 12))) (Z0w (Zk5 T) hr (by decide) (takes_of rfl rfl rfl rfl) (Zvh (pe_bm0 PySem.F.plainAttrs_list PySem.F.slot_list_pop PySem.F.type_list_pop mt_pop (pv 7))))))))
 (Za8 (Zbi Zgt))
 Za6)
 (Zaj (Zw5 (Zvh (pe_bm0 PySem.F.plainAttrs_list PySem.F.slot_list_pop PySem.F.type_list_pop mt_pop (pv 4))))
 (Zaj (Zw5 (Zvh (pe_bm0 PySem.F.plainAttrs_list PySem.F.slot_list_pop PySem.F.type_list_pop mt_pop (pv 6))))
 (Zaj (Zcu (Zfk (Zw1 (Z5a (Zos T.n_len (Zad 6)) Zaw) (Zq6 (Zrf hu (Zax 0 hu (Zad 12)) (Zx9 hu (Zad 6))))))
 (Za8 (Zbi Zgt))
 Za6)
 (Za2 8 (Za2 12 Za6)))))))))
 (Za8 (Zbi Zgt))))))))))))))
end
theorem all_mk {K : PySem.W.Frag} {w : World} {h : Heap} {mg : Str → Option Value} (X : K.In h) (G : h.Ns mainGlobals mg)
    {f0 f1 f2 f3 f4 f5 f6 f7 f8 f9 f10 f11 f12 f13 f14 f15 f16 f17 f18 f19 f20 f21 f22 f23 f24 f25 f26 f27 f28 f29 : Addr} {od0 an0 od1 an1 od2 an2 od3 an3 od4 an4 od5 an5 od6 an6 od7 an7 od8 an8 od9 an9 od10 an10 od11 an11 od12 an12 od13 an13 od14 an14 od15 an15 od16 an16 od17 an17 od18 an18 od19 an19 od20 an20 od21 an21 od22 an22 od23 an23 od24 an24 od25 an25 od26 an26 od27 an27 od28 an28 od29 an29 : Option Addr} {sl0 sl1 sl2 sl3 sl4 sl5 sl6 sl7 sl8 sl9 sl10 sl11 sl12 sl13 sl14 sl15 sl16 sl17 sl18 sl19 sl20 sl21 sl22 sl23 sl24 sl25 sl26 sl27 sl28 sl29 : Array (Option Value)} {oc0 kV0 dc0 pm0 cd0 ct0 oc1 kV1 dc1 pm1 cd1 ct1 oc2 kV2 dc2 pm2 cd2 ct2 oc3 kV3 dc3 pm3 cd3 ct3 oc4 kV4 dc4 pm4 cd4 ct4 oc5 kV5 dc5 pm5 cd5 ct5 oc6 kV6 dc6 pm6 cd6 ct6 oc7 kV7 dc7 pm7 cd7 ct7 oc8 kV8 dc8 pm8 cd8 ct8 oc9 kV9 dc9 pm9 cd9 ct9 oc10 kV10 dc10 pm10 cd10 ct10 oc11 kV11 dc11 pm11 cd11 ct11 oc12 kV12 dc12 pm12 cd12 ct12 oc13 kV13 dc13 pm13 cd13 ct13 oc14 kV14 dc14 pm14 cd14 ct14 oc15 kV15 dc15 pm15 cd15 ct15 oc16 kV16 dc16 pm16 cd16 ct16 oc17 kV17 dc17 pm17 cd17 ct17 oc18 kV18 dc18 pm18 cd18 ct18 oc19 kV19 dc19 pm19 cd19 ct19 oc20 kV20 dc20 pm20 cd20 ct20 oc21 kV21 dc21 pm21 cd21 ct21 oc22 kV22 dc22 pm22 cd22 ct22 oc23 kV23 dc23 pm23 cd23 ct23 oc24 kV24 dc24 pm24 cd24 ct24 oc25 kV25 dc25 pm25 cd25 ct25 oc26 kV26 dc26 pm26 cd26 ct26 oc27 kV27 dc27 pm27 cd27 ct27 oc28 kV28 dc28 pm28 cd28 ct28 oc29 kV29 dc29 pm29 cd29 ct29 : Value} {e_NoFeast : Addr} {e_Taken : Addr}
    (a0 : PySem.W.nsIn K mainGlobals "ahead" = some (some (.ref f0))) (l0 : K.lookup f0 = some ⟨oc0, od0, .func (PySem.W.fnOf "ahead" "ahead" (defArgs Zor) (defBody Zor) (defScope Zor) .none kV0 dc0 pm0 an0 cd0 ct0), sl0⟩) (c0 : PySem.W.codeIn K cd0 "ahead" = true) (k0 : PySem.W.keepIn K (.ref f0) = true)
    (a1 : PySem.W.nsIn K mainGlobals "rank_of" = some (some (.ref f1))) (l1 : K.lookup f1 = some ⟨oc1, od1, .func (PySem.W.fnOf "rank_of" "rank_of" (defArgs Zje) (defBody Zje) (defScope Zje) .none kV1 dc1 pm1 an1 cd1 ct1), sl1⟩) (c1 : PySem.W.codeIn K cd1 "rank_of" = true) (k1 : PySem.W.keepIn K (.ref f1) = true)
    (a2 : PySem.W.nsIn K mainGlobals "ordered" = some (some (.ref f2))) (l2 : K.lookup f2 = some ⟨oc2, od2, .func (PySem.W.fnOf "ordered" "ordered" (defArgs Ziq) (defBody Ziq) (defScope Ziq) .none kV2 dc2 pm2 an2 cd2 ct2), sl2⟩) (c2 : PySem.W.codeIn K cd2 "ordered" = true) (k2 : PySem.W.keepIn K (.ref f2) = true)
    (a3 : PySem.W.nsIn K mainGlobals "open_to" = some (some (.ref f3))) (l3 : K.lookup f3 = some ⟨oc3, od3, .func (PySem.W.fnOf "open_to" "open_to" (defArgs Zjg) (defBody Zjg) (defScope Zjg) .none kV3 dc3 pm3 an3 cd3 ct3), sl3⟩) (c3 : PySem.W.codeIn K cd3 "open_to" = true) (k3 : PySem.W.keepIn K (.ref f3) = true)
    (a4 : PySem.W.nsIn K mainGlobals "off_day" = some (some (.ref f4))) (l4 : K.lookup f4 = some ⟨oc4, od4, .func (PySem.W.fnOf "off_day" "off_day" (defArgs Zi7) (defBody Zi7) (defScope Zi7) .none kV4 dc4 pm4 an4 cd4 ct4), sl4⟩) (c4 : PySem.W.codeIn K cd4 "off_day" = true) (k4 : PySem.W.keepIn K (.ref f4) = true)
    (a5 : PySem.W.nsIn K mainGlobals "place_for" = some (some (.ref f5))) (l5 : K.lookup f5 = some ⟨oc5, od5, .func (PySem.W.fnOf "place_for" "place_for" (defArgs Zgs) (defBody Zgs) (defScope Zgs) .none kV5 dc5 pm5 an5 cd5 ct5), sl5⟩) (c5 : PySem.W.codeIn K cd5 "place_for" = true) (k5 : PySem.W.keepIn K (.ref f5) = true)
    (a6 : PySem.W.nsIn K mainGlobals "lay" = some (some (.ref f6))) (l6 : K.lookup f6 = some ⟨oc6, od6, .func (PySem.W.fnOf "lay" "lay" (defArgs Zzq) (defBody Zzq) (defScope Zzq) .none kV6 dc6 pm6 an6 cd6 ct6), sl6⟩) (c6 : PySem.W.codeIn K cd6 "lay" = true) (k6 : PySem.W.keepIn K (.ref f6) = true)
    (a7 : PySem.W.nsIn K mainGlobals "places_of" = some (some (.ref f7))) (l7 : K.lookup f7 = some ⟨oc7, od7, .func (PySem.W.fnOf "places_of" "places_of" (defArgs Zgk) (defBody Zgk) (defScope Zgk) .none kV7 dc7 pm7 an7 cd7 ct7), sl7⟩) (c7 : PySem.W.codeIn K cd7 "places_of" = true) (k7 : PySem.W.keepIn K (.ref f7) = true)
    (a8 : PySem.W.nsIn K mainGlobals "rows_of" = some (some (.ref f8))) (l8 : K.lookup f8 = some ⟨oc8, od8, .func (PySem.W.fnOf "rows_of" "rows_of" (defArgs Zix) (defBody Zix) (defScope Zix) .none kV8 dc8 pm8 an8 cd8 ct8), sl8⟩) (c8 : PySem.W.codeIn K cd8 "rows_of" = true) (k8 : PySem.W.keepIn K (.ref f8) = true)
    (a9 : PySem.W.nsIn K mainGlobals "free_for" = some (some (.ref f9))) (l9 : K.lookup f9 = some ⟨oc9, od9, .func (PySem.W.fnOf "free_for" "free_for" (defArgs Zg9) (defBody Zg9) (defScope Zg9) .none kV9 dc9 pm9 an9 cd9 ct9), sl9⟩) (c9 : PySem.W.codeIn K cd9 "free_for" = true) (k9 : PySem.W.keepIn K (.ref f9) = true)
    (a10 : PySem.W.nsIn K mainGlobals "place_beside" = some (some (.ref f10))) (l10 : K.lookup f10 = some ⟨oc10, od10, .func (PySem.W.fnOf "place_beside" "place_beside" (defArgs Zdn) (defBody Zdn) (defScope Zdn) .none kV10 dc10 pm10 an10 cd10 ct10), sl10⟩) (c10 : PySem.W.codeIn K cd10 "place_beside" = true) (k10 : PySem.W.keepIn K (.ref f10) = true)
    (a11 : PySem.W.nsIn K mainGlobals "put_in" = some (some (.ref f11))) (l11 : K.lookup f11 = some ⟨oc11, od11, .func (PySem.W.fnOf "put_in" "put_in" (defArgs Zla) (defBody Zla) (defScope Zla) .none kV11 dc11 pm11 an11 cd11 ct11), sl11⟩) (c11 : PySem.W.codeIn K cd11 "put_in" = true) (k11 : PySem.W.keepIn K (.ref f11) = true)
    (a12 : PySem.W.nsIn K mainGlobals "wants" = some (some (.ref f12))) (l12 : K.lookup f12 = some ⟨oc12, od12, .func (PySem.W.fnOf "wants" "wants" (defArgs Zox) (defBody Zox) (defScope Zox) .none kV12 dc12 pm12 an12 cd12 ct12), sl12⟩) (c12 : PySem.W.codeIn K cd12 "wants" = true) (k12 : PySem.W.keepIn K (.ref f12) = true)
    (a13 : PySem.W.nsIn K mainGlobals "taker_of" = some (some (.ref f13))) (l13 : K.lookup f13 = some ⟨oc13, od13, .func (PySem.W.fnOf "taker_of" "taker_of" (defArgs Zhr) (defBody Zhr) (defScope Zhr) .none kV13 dc13 pm13 an13 cd13 ct13), sl13⟩) (c13 : PySem.W.codeIn K cd13 "taker_of" = true) (k13 : PySem.W.keepIn K (.ref f13) = true)
    (a14 : PySem.W.nsIn K mainGlobals "day_left" = some (some (.ref f14))) (l14 : K.lookup f14 = some ⟨oc14, od14, .func (PySem.W.fnOf "day_left" "day_left" (defArgs Zho) (defBody Zho) (defScope Zho) .none kV14 dc14 pm14 an14 cd14 ct14), sl14⟩) (c14 : PySem.W.codeIn K cd14 "day_left" = true) (k14 : PySem.W.keepIn K (.ref f14) = true)
    (a15 : PySem.W.nsIn K mainGlobals "take_out" = some (some (.ref f15))) (l15 : K.lookup f15 = some ⟨oc15, od15, .func (PySem.W.fnOf "take_out" "take_out" (defArgs Zf1) (defBody Zf1) (defScope Zf1) .none kV15 dc15 pm15 an15 cd15 ct15), sl15⟩) (c15 : PySem.W.codeIn K cd15 "take_out" = true) (k15 : PySem.W.keepIn K (.ref f15) = true)
    (a16 : PySem.W.nsIn K mainGlobals "_law_cell" = some (some (.ref f16))) (l16 : K.lookup f16 = some ⟨oc16, od16, .func (PySem.W.fnOf "_law_cell" "_law_cell" (defArgs Zhy) (defBody Zhy) (defScope Zhy) .none kV16 dc16 pm16 an16 cd16 ct16), sl16⟩) (c16 : PySem.W.codeIn K cd16 "_law_cell" = true) (k16 : PySem.W.keepIn K (.ref f16) = true)
    (a17 : PySem.W.nsIn K mainGlobals "_law_seed" = some (some (.ref f17))) (l17 : K.lookup f17 = some ⟨oc17, od17, .func (PySem.W.fnOf "_law_seed" "_law_seed" (defArgs Zhz) (defBody Zhz) (defScope Zhz) .none kV17 dc17 pm17 an17 cd17 ct17), sl17⟩) (c17 : PySem.W.codeIn K cd17 "_law_seed" = true) (k17 : PySem.W.keepIn K (.ref f17) = true)
    (a18 : PySem.W.nsIn K mainGlobals "_law_digits" = some (some (.ref f18))) (l18 : K.lookup f18 = some ⟨oc18, od18, .func (PySem.W.fnOf "_law_digits" "_law_digits" (defArgs Zfb) (defBody Zfb) (defScope Zfb) .none kV18 dc18 pm18 an18 cd18 ct18), sl18⟩) (c18 : PySem.W.codeIn K cd18 "_law_digits" = true) (k18 : PySem.W.keepIn K (.ref f18) = true)
    (a19 : PySem.W.nsIn K mainGlobals "_law_whole" = some (some (.ref f19))) (l19 : K.lookup f19 = some ⟨oc19, od19, .func (PySem.W.fnOf "_law_whole" "_law_whole" (defArgs Zgl) (defBody Zgl) (defScope Zgl) .none kV19 dc19 pm19 an19 cd19 ct19), sl19⟩) (c19 : PySem.W.codeIn K cd19 "_law_whole" = true) (k19 : PySem.W.keepIn K (.ref f19) = true)
    (a20 : PySem.W.nsIn K mainGlobals "_law_are_rows" = some (some (.ref f20))) (l20 : K.lookup f20 = some ⟨oc20, od20, .func (PySem.W.fnOf "_law_are_rows" "_law_are_rows" (defArgs Zdt) (defBody Zdt) (defScope Zdt) .none kV20 dc20 pm20 an20 cd20 ct20), sl20⟩) (c20 : PySem.W.codeIn K cd20 "_law_are_rows" = true) (k20 : PySem.W.keepIn K (.ref f20) = true)
    (a21 : PySem.W.nsIn K mainGlobals "_law_is_place" = some (some (.ref f21))) (l21 : K.lookup f21 = some ⟨oc21, od21, .func (PySem.W.fnOf "_law_is_place" "_law_is_place" (defArgs Zdo) (defBody Zdo) (defScope Zdo) .none kV21 dc21 pm21 an21 cd21 ct21), sl21⟩) (c21 : PySem.W.codeIn K cd21 "_law_is_place" = true) (k21 : PySem.W.keepIn K (.ref f21) = true)
    (a22 : PySem.W.nsIn K mainGlobals "_law_are_turns" = some (some (.ref f22))) (l22 : K.lookup f22 = some ⟨oc22, od22, .func (PySem.W.fnOf "_law_are_turns" "_law_are_turns" (defArgs Zc4) (defBody Zc4) (defScope Zc4) .none kV22 dc22 pm22 an22 cd22 ct22), sl22⟩) (c22 : PySem.W.codeIn K cd22 "_law_are_turns" = true) (k22 : PySem.W.keepIn K (.ref f22) = true)
    (a23 : PySem.W.nsIn K mainGlobals "_law_head" = some (some (.ref f23))) (l23 : K.lookup f23 = some ⟨oc23, od23, .func (PySem.W.fnOf "_law_head" "_law_head" (defArgs Zhf) (defBody Zhf) (defScope Zhf) .none kV23 dc23 pm23 an23 cd23 ct23), sl23⟩) (c23 : PySem.W.codeIn K cd23 "_law_head" = true) (k23 : PySem.W.keepIn K (.ref f23) = true)
    (a24 : PySem.W.nsIn K mainGlobals "_law_entries" = some (some (.ref f24))) (l24 : K.lookup f24 = some ⟨oc24, od24, .func (PySem.W.fnOf "_law_entries" "_law_entries" (defArgs Zee) (defBody Zee) (defScope Zee) .none kV24 dc24 pm24 an24 cd24 ct24), sl24⟩) (c24 : PySem.W.codeIn K cd24 "_law_entries" = true) (k24 : PySem.W.keepIn K (.ref f24) = true)
    (a25 : PySem.W.nsIn K mainGlobals "_law_shut" = some (some (.ref f25))) (l25 : K.lookup f25 = some ⟨oc25, od25, .func (PySem.W.fnOf "_law_shut" "_law_shut" (defArgs Zhj) (defBody Zhj) (defScope Zhj) .none kV25 dc25 pm25 an25 cd25 ct25), sl25⟩) (c25 : PySem.W.codeIn K cd25 "_law_shut" = true) (k25 : PySem.W.keepIn K (.ref f25) = true)
    (a26 : PySem.W.nsIn K mainGlobals "_law_laid" = some (some (.ref f26))) (l26 : K.lookup f26 = some ⟨oc26, od26, .func (PySem.W.fnOf "_law_laid" "_law_laid" (defArgs Zhw) (defBody Zhw) (defScope Zhw) .none kV26 dc26 pm26 an26 cd26 ct26), sl26⟩) (c26 : PySem.W.codeIn K cd26 "_law_laid" = true) (k26 : PySem.W.keepIn K (.ref f26) = true)
    (a27 : PySem.W.nsIn K mainGlobals "_law_are_both" = some (some (.ref f27))) (l27 : K.lookup f27 = some ⟨oc27, od27, .func (PySem.W.fnOf "_law_are_both" "_law_are_both" (defArgs Zdj) (defBody Zdj) (defScope Zdj) .none kV27 dc27 pm27 an27 cd27 ct27), sl27⟩) (c27 : PySem.W.codeIn K cd27 "_law_are_both" = true) (k27 : PySem.W.keepIn K (.ref f27) = true)
    (a28 : PySem.W.nsIn K mainGlobals "_law_turned_about" = some (some (.ref f28))) (l28 : K.lookup f28 = some ⟨oc28, od28, .func (PySem.W.fnOf "_law_turned_about" "_law_turned_about" (defArgs Zb0) (defBody Zb0) (defScope Zb0) .none kV28 dc28 pm28 an28 cd28 ct28), sl28⟩) (c28 : PySem.W.codeIn K cd28 "_law_turned_about" = true) (k28 : PySem.W.keepIn K (.ref f28) = true)
    (a29 : PySem.W.nsIn K mainGlobals "law" = some (some (.ref f29))) (l29 : K.lookup f29 = some ⟨oc29, od29, .func (PySem.W.fnOf "law" "law" (defArgs Zx8) (defBody Zx8) (defScope Zx8) .none kV29 dc29 pm29 an29 cd29 ct29), sl29⟩) (c29 : PySem.W.codeIn K cd29 "law" = true) (k29 : PySem.W.keepIn K (.ref f29) = true)
    (z_bool : PySem.W.nsIn K mainGlobals "bool" = some none)
    (z_dict : PySem.W.nsIn K mainGlobals "dict" = some none)
    (z_enumerate : PySem.W.nsIn K mainGlobals "enumerate" = some none)
    (z_int : PySem.W.nsIn K mainGlobals "int" = some none)
    (z_isinstance : PySem.W.nsIn K mainGlobals "isinstance" = some none)
    (z_len : PySem.W.nsIn K mainGlobals "len" = some none)
    (z_list : PySem.W.nsIn K mainGlobals "list" = some none)
    (z_min : PySem.W.nsIn K mainGlobals "min" = some none)
    (z_range : PySem.W.nsIn K mainGlobals "range" = some none)
    (z_sorted : PySem.W.nsIn K mainGlobals "sorted" = some none)
    (z_str : PySem.W.nsIn K mainGlobals "str" = some none)
    (z_sum : PySem.W.nsIn K mainGlobals "sum" = some none)
    (z_tuple : PySem.W.nsIn K mainGlobals "tuple" = some none)
    (xa_NoFeast : PySem.W.nsIn K mainGlobals "NoFeast" = some (some (.ref e_NoFeast))) (xe_NoFeast : PySem.W.excIn K e_NoFeast [.type "ValueError", .type "Exception", .type "BaseException", .type "object"] "ValueError.__new__" = true) (xk_NoFeast : PySem.W.keepIn K (.ref e_NoFeast) = true) (xb_NoFeast : PySem.W.subIn K (.ref e_NoFeast) (.type "BaseException") = some true) (xt_NoFeast : PySem.W.typeIn K (.ref e_NoFeast) = some (.type "type")) (xi_NoFeast : PySem.W.isClsIn K e_NoFeast = true)
    (xa_Taken : PySem.W.nsIn K mainGlobals "Taken" = some (some (.ref e_Taken))) (xe_Taken : PySem.W.excIn K e_Taken [.type "ValueError", .type "Exception", .type "BaseException", .type "object"] "ValueError.__new__" = true) (xk_Taken : PySem.W.keepIn K (.ref e_Taken) = true) (xb_Taken : PySem.W.subIn K (.ref e_Taken) (.type "BaseException") = some true) (xt_Taken : PySem.W.typeIn K (.ref e_Taken) = some (.type "type")) (xi_Taken : PySem.W.isClsIn K e_Taken = true) : Txt K mg w :=
  { d_ahead := Zcc X G a0 l0 c0 k0 fun us hl => match us, hl with | [_, _], _ => rfl,
    d_rank_of := Zcc X G a1 l1 c1 k1 fun us hl => match us, hl with | [_], _ => rfl,
    d_ordered := Zcc X G a2 l2 c2 k2 fun us hl => match us, hl with | [_], _ => rfl,
    d_open_to := Zcc X G a3 l3 c3 k3 fun us hl => match us, hl with | [_, _, _], _ => rfl,
    d_off_day := Zcc X G a4 l4 c4 k4 fun us hl => match us, hl with | [_], _ => rfl,
    d_place_for := Zcc X G a5 l5 c5 k5 fun us hl => match us, hl with | [_, _, _], _ => rfl,
    d_lay := Zcc X G a6 l6 c6 k6 fun us hl => match us, hl with | [_, _], _ => rfl,
    d_places_of := Zcc X G a7 l7 c7 k7 fun us hl => match us, hl with | [_], _ => rfl,
    d_rows_of := Zcc X G a8 l8 c8 k8 fun us hl => match us, hl with | [_, _], _ => rfl,
    d_free_for := Zcc X G a9 l9 c9 k9 fun us hl => match us, hl with | [_, _, _, _], _ => rfl,
    d_place_beside := Zcc X G a10 l10 c10 k10 fun us hl => match us, hl with | [_, _, _], _ => rfl,
    d_put_in := Zcc X G a11 l11 c11 k11 fun us hl => match us, hl with | [_, _, _], _ => rfl,
    d_wants := Zcc X G a12 l12 c12 k12 fun us hl => match us, hl with | [_, _, _, _], _ => rfl,
    d_taker_of := Zcc X G a13 l13 c13 k13 fun us hl => match us, hl with | [_, _, _, _], _ => rfl,
    d_day_left := Zcc X G a14 l14 c14 k14 fun us hl => match us, hl with | [_], _ => rfl,
    d_take_out := Zcc X G a15 l15 c15 k15 fun us hl => match us, hl with | [_, _, _, _], _ => rfl,
    d_law_cell := Zcc X G a16 l16 c16 k16 fun us hl => match us, hl with | [_, _], _ => rfl,
    d_law_seed := Zcc X G a17 l17 c17 k17 fun us hl => match us, hl with | [_], _ => rfl,
    d_law_digits := Zcc X G a18 l18 c18 k18 fun us hl => match us, hl with | [_, _], _ => rfl,
    d_law_whole := Zcc X G a19 l19 c19 k19 fun us hl => match us, hl with | [_], _ => rfl,
    d_law_are_rows := Zcc X G a20 l20 c20 k20 fun us hl => match us, hl with | [_], _ => rfl,
    d_law_is_place := Zcc X G a21 l21 c21 k21 fun us hl => match us, hl with | [_], _ => rfl,
    d_law_are_turns := Zcc X G a22 l22 c22 k22 fun us hl => match us, hl with | [_], _ => rfl,
    d_law_head := Zcc X G a23 l23 c23 k23 fun us hl => match us, hl with | [_], _ => rfl,
    d_law_entries := Zcc X G a24 l24 c24 k24 fun us hl => match us, hl with | [_, _, _, _, _], _ => rfl,
    d_law_shut := Zcc X G a25 l25 c25 k25 fun us hl => match us, hl with | [_, _, _], _ => rfl,
    d_law_laid := Zcc X G a26 l26 c26 k26 fun us hl => match us, hl with | [_, _], _ => rfl,
    d_law_are_both := Zcc X G a27 l27 c27 k27 fun us hl => match us, hl with | [_], _ => rfl,
    d_law_turned_about := Zcc X G a28 l28 c28 k28 fun us hl => match us, hl with | [_], _ => rfl,
    d_law := Zcc X G a29 l29 c29 k29 fun us hl => match us, hl with | [_], _ => rfl,
    n_bool := PySem.W.mg_none_of X G z_bool,
    n_dict := PySem.W.mg_none_of X G z_dict,
    n_enumerate := PySem.W.mg_none_of X G z_enumerate,
    n_int := PySem.W.mg_none_of X G z_int,
    n_isinstance := PySem.W.mg_none_of X G z_isinstance,
    n_len := PySem.W.mg_none_of X G z_len,
    n_list := PySem.W.mg_none_of X G z_list,
    n_min := PySem.W.mg_none_of X G z_min,
    n_range := PySem.W.mg_none_of X G z_range,
    n_sorted := PySem.W.mg_none_of X G z_sorted,
    n_str := PySem.W.mg_none_of X G z_str,
    n_sum := PySem.W.mg_none_of X G z_sum,
    n_tuple := PySem.W.mg_none_of X G z_tuple,
    x_NoFeast := ⟨e_NoFeast, PySem.W.mg_of X G xa_NoFeast, xe_NoFeast, xk_NoFeast, xb_NoFeast, xt_NoFeast, xi_NoFeast⟩,
    x_Taken := ⟨e_Taken, PySem.W.mg_of X G xa_Taken, xe_Taken, xk_Taken, xb_Taken, xt_Taken, xi_Taken⟩ }
end DL
open PySem PySem.Spec PyProof.Rows L2
set_option maxRecDepth 100000 in
set_option maxHeartbeats 0 in
theorem PySem.Challenge.cw_feastfall_k22_whole_in_and_out_again_holds : PySem.Challenge.rw_feastfall_k22_whole_in_and_out_again.Holds := by
  w_on; o_law; k_head; (case hw => w_witness2)
  k_fill
  refine L2.walk_of (l := PySem.Challenge.rw_feastfall_k22_whole_in_and_out_again) (n := 63) (k := 7) (x := "_law_script") (CX := fun w => L2.CX PySem.Challenge.rw_feastfall_k22_whole_in_and_out_again.prog w) (sp := fun w => DL.spLaw _) rfl (by decide) rfl ⟨rfl, by decide, by decide⟩ (fun w h Y => PySem.W.kIn_of Y) ?F (fun _ _ a ns hl _ hS => ⟨a, ns, rfl, hS, hl, fun _ => rfl⟩) (fun _ _ _ _ _ h => DL.noCX h)
  case F =>
    intro w mg fa h KX G hmg
    refine DL.at_law (?T) hmg
    refine' DL.all_mk KX G ?a0 ?l0 ?c0 ?k0 ?a1 ?l1 ?c1 ?k1 ?a2 ?l2 ?c2 ?k2 ?a3 ?l3 ?c3 ?k3 ?a4 ?l4 ?c4 ?k4 ?a5 ?l5 ?c5 ?k5 ?a6 ?l6 ?c6 ?k6 ?a7 ?l7 ?c7 ?k7 ?a8 ?l8 ?c8 ?k8 ?a9 ?l9 ?c9 ?k9 ?a10 ?l10 ?c10 ?k10 ?a11 ?l11 ?c11 ?k11 ?a12 ?l12 ?c12 ?k12 ?a13 ?l13 ?c13 ?k13 ?a14 ?l14 ?c14 ?k14 ?a15 ?l15 ?c15 ?k15 ?a16 ?l16 ?c16 ?k16 ?a17 ?l17 ?c17 ?k17 ?a18 ?l18 ?c18 ?k18 ?a19 ?l19 ?c19 ?k19 ?a20 ?l20 ?c20 ?k20 ?a21 ?l21 ?c21 ?k21 ?a22 ?l22 ?c22 ?k22 ?a23 ?l23 ?c23 ?k23 ?a24 ?l24 ?c24 ?k24 ?a25 ?l25 ?c25 ?k25 ?a26 ?l26 ?c26 ?k26 ?a27 ?l27 ?c27 ?k27 ?a28 ?l28 ?c28 ?k28 ?a29 ?l29 ?c29 ?k29 ?z_bool ?z_dict ?z_enumerate ?z_int ?z_isinstance ?z_len ?z_list ?z_min ?z_range ?z_sorted ?z_str ?z_sum ?z_tuple ?xa_NoFeast ?xe_NoFeast ?xk_NoFeast ?xb_NoFeast ?xt_NoFeast ?xi_NoFeast ?xa_Taken ?xe_Taken ?xk_Taken ?xb_Taken ?xt_Taken ?xi_Taken
    (case a0 => k_is)
    (case l0 => k_is)
    (case c0 => k_is)
    (case k0 => k_is)
    (case a1 => k_is)
    (case l1 => k_is)
    (case c1 => k_is)
    (case k1 => k_is)
    (case a2 => k_is)
    (case l2 => k_is)
    (case c2 => k_is)
    (case k2 => k_is)
    (case a3 => k_is)
    (case l3 => k_is)
    (case c3 => k_is)
    (case k3 => k_is)
    (case a4 => k_is)
    (case l4 => k_is)
    (case c4 => k_is)
    (case k4 => k_is)
    (case a5 => k_is)
    (case l5 => k_is)
    (case c5 => k_is)
    (case k5 => k_is)
    (case a6 => k_is)
    (case l6 => k_is)
    (case c6 => k_is)
    (case k6 => k_is)
    (case a7 => k_is)
    (case l7 => k_is)
    (case c7 => k_is)
    (case k7 => k_is)
    (case a8 => k_is)
    (case l8 => k_is)
    (case c8 => k_is)
    (case k8 => k_is)
    (case a9 => k_is)
    (case l9 => k_is)
    (case c9 => k_is)
    (case k9 => k_is)
    (case a10 => k_is)
    (case l10 => k_is)
    (case c10 => k_is)
    (case k10 => k_is)
    (case a11 => k_is)
    (case l11 => k_is)
    (case c11 => k_is)
    (case k11 => k_is)
    (case a12 => k_is)
    (case l12 => k_is)
    (case c12 => k_is)
    (case k12 => k_is)
    (case a13 => k_is)
    (case l13 => k_is)
    (case c13 => k_is)
    (case k13 => k_is)
    (case a14 => k_is)
    (case l14 => k_is)
    (case c14 => k_is)
    (case k14 => k_is)
    (case a15 => k_is)
    (case l15 => k_is)
    (case c15 => k_is)
    (case k15 => k_is)
    (case a16 => k_is)
    (case l16 => k_is)
    (case c16 => k_is)
    (case k16 => k_is)
    (case a17 => k_is)
    (case l17 => k_is)
    (case c17 => k_is)
    (case k17 => k_is)
    (case a18 => k_is)
    (case l18 => k_is)
    (case c18 => k_is)
    (case k18 => k_is)
    (case a19 => k_is)
    (case l19 => k_is)
    (case c19 => k_is)
    (case k19 => k_is)
    (case a20 => k_is)
    (case l20 => k_is)
    (case c20 => k_is)
    (case k20 => k_is)
    (case a21 => k_is)
    (case l21 => k_is)
    (case c21 => k_is)
    (case k21 => k_is)
    (case a22 => k_is)
    (case l22 => k_is)
    (case c22 => k_is)
    (case k22 => k_is)
    (case a23 => k_is)
    (case l23 => k_is)
    (case c23 => k_is)
    (case k23 => k_is)
    (case a24 => k_is)
    (case l24 => k_is)
    (case c24 => k_is)
    (case k24 => k_is)
    (case a25 => k_is)
    (case l25 => k_is)
    (case c25 => k_is)
    (case k25 => k_is)
    (case a26 => k_is)
    (case l26 => k_is)
    (case c26 => k_is)
    (case k26 => k_is)
    (case a27 => k_is)
    (case l27 => k_is)
    (case c27 => k_is)
    (case k27 => k_is)
    (case a28 => k_is)
    (case l28 => k_is)
    (case c28 => k_is)
    (case k28 => k_is)
    (case a29 => k_is)
    (case l29 => k_is)
    (case c29 => k_is)
    (case k29 => k_is)
    (case z_bool => k_is)
    (case z_dict => k_is)
    (case z_enumerate => k_is)
    (case z_int => k_is)
    (case z_isinstance => k_is)
    (case z_len => k_is)
    (case z_list => k_is)
    (case z_min => k_is)
    (case z_range => k_is)
    (case z_sorted => k_is)
    (case z_str => k_is)
    (case z_sum => k_is)
    (case z_tuple => k_is)
    (case xa_NoFeast => k_is)
    (case xe_NoFeast => k_exc)
    (case xk_NoFeast => k_is)
    (case xb_NoFeast => k_is)
    (case xt_NoFeast => k_is)
    (case xi_NoFeast => k_is)
    (case xa_Taken => k_is)
    (case xe_Taken => k_exc)
    (case xk_Taken => k_is)
    (case xb_Taken => k_is)
    (case xt_Taken => k_is)
    (case xi_Taken => k_is)