import PyProof.Rows.All
import Wide.All
import OpenK.AllK
import Wide.FinOn
import HandS.ForMost
import HandS.ForExc
import HandS.Style
import HandS.Wide
import HandS.Flow
import HandS.IsInst
import HandS.Deep
import HandS.More
import HandS.TupLen
import HandS.SortKw
import HandS.SortInts
import HandS.DictComp
import PyProof.Rows.SeqMore
import HandS.HeadHook3
import HandS.ExcIs
import HandS.ExcField
import HandS.FStr
import HandS.Text
import HandS.RaiseMore
import HandS.Zip
import PyProof.StrLoop
import HandS.Conv
import HandS.ExcInit
import HandS.TupSets
import KE.KEqNest
import HandS.ExcValue
import HandS.HotCalls
import KE.KIndexOf
import PySem.Challenge.RW_feastfall_k36_texts_that_write_no_order
set_option Elab.async false
set_option linter.all false
set_option maxRecDepth 100000
namespace DL
open PySem PySem.Spec PyProof.Rows L2
inductive D where
  | non | bl (b : Bool) | int (i : Int) | str (s : Str)
  | tup (ds : List D) | lst (ds : List D)
  | dk (kds : List (L2.Key × D)) | dt (kds : List (List L2.Key × D))
  | obj (C : Str) (ns : List Str) (ds : List D)
  | own (d : D)
  | rf (a : Addr) | fn (x : Str) | lso (ds : List D)
mutual
inductive Rep (K : PySem.W.Frag) (S : Hp) : V → D → Prop
  | non : Rep K S .non .non
  | bl {b : Bool} : Rep K S (.bl b) (.bl b)
  | int {i : Int} : Rep K S (.int i) (.int i)
  | str {s : Str} : Rep K S (.str s) (.str s)
  | tup {a : Addr} {vs : List V} {ds : List D} : S a = some (.tup vs) → Reps K S vs ds → Rep K S (.ref a) (.tup ds)
  | lst {a : Addr} {vs : List V} {ds : List D} : SqL K S a vs → Reps K S vs ds → Rep K S (.ref a) (.lst ds)
  | dk {a : Addr} {kvs : List (L2.Key × V)} {kds : List (L2.Key × D)} : Rd S a (.dK kvs) → kvs.map Prod.fst = kds.map Prod.fst →
      Reps K S (kvs.map Prod.snd) (kds.map Prod.snd) → Rep K S (.ref a) (.dk kds)
  | dt {a : Addr} {kvs : List (List L2.Key × V)} {kds : List (List L2.Key × D)} : S a = some (.dT kvs) → kvs.map Prod.fst = kds.map Prod.fst →
      Reps K S (kvs.map Prod.snd) (kds.map Prod.snd) → Rep K S (.ref a) (.dt kds)
  | obj {a Ca dx : Addr} {C : Str} {kvs : List (Str × V)} {ns : List Str} {ds : List D} : S a = some (.ins Ca dx kvs) → PySem.W.nsIn K mainGlobals C = some (some (.ref Ca)) → kvs.map Prod.fst = ns →
      Reps K S (kvs.map Prod.snd) ds → Rep K S (.ref a) (.obj C ns ds)
  | rf {a : Addr} : Rep K S (.ref a) (.rf a)
  | fn {a : Addr} {x : Str} : PySem.W.nsIn K mainGlobals x = some (some (.ref a)) → Rep K S (.ref a) (.fn x)
inductive Reps (K : PySem.W.Frag) (S : Hp) : List V → List D → Prop
  | nil : Reps K S [] []
  | cons {v : V} {d : D} {vs : List V} {ds : List D} : Rep K S v d → Reps K S vs ds → Reps K S (v :: vs) (d :: ds)
end
section
variable {K : PySem.W.Frag} {S S' H : Hp}
theorem Zo3 {a : Addr} {u : HO} (e : Same S S') (h : Rd S a u) : Rd S' a u := by
  rcases h with h | ⟨o, h⟩
  · exact .inl (e _ _ h)
  · exact .inr ⟨o, e _ _ h⟩
theorem Zv0 {a : Addr} {xs : List V} (e : Same S S') (h : SqT K S a xs) : SqT K S' a xs := by
  rcases h with h | h
  · exact .inl (Zo3 e h)
  · exact .inr h
theorem Zgl {a : Addr} {xs : List V} (e : Same S S') (h : SqL K S a xs) : SqL K S' a xs := e.seq h
mutual
theorem Rep.mono (e : Same S S') : ∀ {v : V} {d : D}, Rep K S v d → Rep K S' v d
  | _, _, .non => .non
  | _, _, .bl => .bl
  | _, _, .int => .int
  | _, _, .str => .str
  | _, _, .tup h r => .tup (e _ _ h) (Reps.mono e r)
  | _, _, .lst h r => .lst (Zgl e h) (Reps.mono e r)
  | _, _, .dk h k r => .dk (Zo3 e h) k (Reps.mono e r)
  | _, _, .dt h k r => .dt (e _ _ h) k (Reps.mono e r)
  | _, _, .obj h n k r => .obj (e _ _ h) n k (Reps.mono e r)
  | _, _, .rf => .rf
  | _, _, .fn h => .fn h
theorem Reps.mono (e : Same S S') : ∀ {vs : List V} {ds : List D}, Reps K S vs ds → Reps K S' vs ds
  | _, _, .nil => .nil
  | _, _, .cons h r => .cons (Rep.mono e h) (Reps.mono e r)
end
theorem Reps.len : ∀ {vs : List V} {ds : List D}, Reps K S vs ds → vs.length = ds.length
  | _, _, .nil => rfl
  | _, _, .cons _ r => congrArg (· + 1) (Reps.len r)
theorem Reps.get : ∀ {vs : List V} {ds : List D} {i : Nat} {d : D}, Reps K S vs ds → ds[i]? = some d → ∃ v, vs[i]? = some v ∧ Rep K S v d
  | _, _, i, d, .nil, h => by simp at h
  | _, _, 0, d, .cons r _, h => by
    simp at h; subst h
    exact ⟨_, rfl, r⟩
  | _, _, i + 1, d, .cons _ r, h => by
    obtain ⟨v, h1, h2⟩ := Reps.get (i := i) (d := d) r (by simpa using h)
    exact ⟨v, by simpa using h1, h2⟩
theorem Reps.getV : ∀ {vs : List V} {ds : List D} {i : Nat} {v : V}, Reps K S vs ds → vs[i]? = some v → ∃ d, ds[i]? = some d ∧ Rep K S v d
  | _, _, i, d, .nil, h => by simp at h
  | _, _, 0, d, .cons r _, h => by
    simp at h; subst h
    exact ⟨_, rfl, r⟩
  | _, _, i + 1, d, .cons _ r, h => by
    obtain ⟨v, h1, h2⟩ := Reps.getV (i := i) (v := d) r (by simpa using h)
    exact ⟨v, by simpa using h1, h2⟩
theorem Reps.app : ∀ {vs ws : List V} {ds es : List D}, Reps K S vs ds → Reps K S ws es → Reps K S (vs ++ ws) (ds ++ es)
  | _, _, _, _, .nil, r => r
  | _, _, _, _, .cons h t, r => .cons h (Reps.app t r)
theorem Reps.take : ∀ {vs : List V} {ds : List D} (n : Nat), Reps K S vs ds → Reps K S (vs.take n) (ds.take n)
  | _, _, 0, _ => by simpa using Reps.nil
  | _, _, _ + 1, .nil => by simpa using Reps.nil
  | _, _, n + 1, .cons h r => .cons h (Reps.take n r)
theorem Reps.drop : ∀ {vs : List V} {ds : List D} (n : Nat), Reps K S vs ds → Reps K S (vs.drop n) (ds.drop n)
  | _, _, 0, r => r
  | _, _, _ + 1, .nil => .nil
  | _, _, n + 1, .cons _ r => Reps.drop n r
theorem Reps.set : ∀ {vs : List V} {ds : List D} {v : V} {d : D} (i : Nat), Reps K S vs ds → Rep K S v d → Reps K S (vs.set i v) (ds.set i d)
  | _, _, _, _, _, .nil, _ => .nil
  | _, _, _, _, 0, .cons _ r, q => .cons q r
  | _, _, _, _, i + 1, .cons h r, q => .cons h (Reps.set i r q)
theorem Reps.erase : ∀ {vs : List V} {ds : List D} (i : Nat), Reps K S vs ds → Reps K S (vs.eraseIdx i) (ds.eraseIdx i)
  | _, _, _, .nil => .nil
  | _, _, 0, .cons _ r => r
  | _, _, i + 1, .cons h r => .cons h (Reps.erase i r)
theorem Reps.ofInts : ∀ (ns : List Int), Reps K S (ns.map V.int) (ns.map D.int)
  | [] => .nil
  | _ :: r => .cons .int (Reps.ofInts r)
end
inductive RX where
  | sh (d : D) | ow (d : D) | nd (d : D)
inductive Slot where
  | un | sh (d : D) | ow (d : D) | bo (d : D) | bt (d : D) | lk (a : Addr) (d : D) | lo (a : Addr) (u : HO) (kds : List (L2.Key × D)) | nd (d : D) | nb (d : D) | ln (fp : List Addr) (d : D) | xc (a : Addr) | xe (a dd : Addr) (ns : List (Str × Int)) | na (a : Addr) (d : D) | rt (ms : List (Addr × D)) (x : RX)
noncomputable def Slot.dat : Slot → Option D
  | .un => none
  | .sh d => some d
  | .ow d => some d
  | .bo d => some d
  | .bt d => some d
  | .lk _ d => some d
  | .lo _ _ kds => some (.dk kds)
  | .nd _ => none
  | .nb _ => none
  | .ln _ _ => none
  | .xc _ => none
  | .xe _ _ _ => none
  | .na _ _ => none
  | .rt _ _ => none
noncomputable def Slot.env : Slot → Prop
  | .bt _ => False
  | .rt _ _ => False
  | _ => True
noncomputable def Slot.still : Slot → Prop
  | .sh _ => True
  | .bo _ => True
  | .lk _ _ => True
  | .lo _ _ _ => True
  | .nb _ => True
  | .ln _ _ => True
  | _ => False
structure Fr where
  K : PySem.W.Frag
  mg : Str → Option Value
  H0 : Hp
  S0 : Hp
noncomputable def KT (o : Option HO) : Prop := ∃ ks : List L2.Key, o = some (.tup (ks.map kV))
structure GS (F : Fr) (S H : Hp) : Prop where
  s0 : Same F.S0 S
  sh : Same S H
  h0 : Same F.H0 H
  fr : ∀ a, S a ≠ none → F.S0 a ≠ none ∨ F.H0 a = none ∨ KT (S a)
noncomputable def RC (K : PySem.W.Frag) (S : Hp) (o : Option HO) : D → Prop
  | .lst ds => ∃ vs, o = some (.lst vs) ∧ Reps K S vs ds
  | .dk kds => ∃ kvs, o = some (.dK kvs) ∧ kvs.map Prod.fst = kds.map Prod.fst ∧ Reps K S (kvs.map Prod.snd) (kds.map Prod.snd)
  | .dt kds => ∃ kvs, o = some (.dT kvs) ∧ kvs.map Prod.fst = kds.map Prod.fst ∧ Reps K S (kvs.map Prod.snd) (kds.map Prod.snd)
  | _ => False
mutual
inductive RCn (K : PySem.W.Frag) (S H : Hp) : Option HO → D → Prop
  | flat {o : Option HO} {d : D} : RC K S o d → RCn K S H o d
  | tup {vs : List V} {ds : List D} : (∃ v ∈ vs, ∀ k : L2.Key, kV k ≠ v) → Itns K S H vs ds → RCn K S H (some (.tup vs)) (.tup ds)
  | obj {Ca dx : Addr} {C : Str} {kvs : List (Str × V)} {ns : List Str} {ds : List D} : PySem.W.nsIn K mainGlobals C = some (some (.ref Ca)) → kvs.map Prod.fst = ns →
      Itns K S H (kvs.map Prod.snd) ds → RCn K S H (some (.ins Ca dx kvs)) (.obj C ns ds)
  | lso {vs : List V} {ds : List D} : Itns K S H vs ds → RCn K S H (some (.lst vs)) (.lso ds)
inductive Itn (K : PySem.W.Frag) (S H : Hp) : V → D → Prop
  | sh {v : V} {d : D} : Rep K S v d → Itn K S H v d
  | ow {b : Addr} {d : D} : RCn K S H (H b) d → Itn K S H (.ref b) (.own d)
inductive Itns (K : PySem.W.Frag) (S H : Hp) : List V → List D → Prop
  | nil : Itns K S H [] []
  | cons {v : V} {d : D} {vs : List V} {ds : List D} : Itn K S H v d → Itns K S H vs ds → Itns K S H (v :: vs) (d :: ds)
end
mutual
noncomputable def D.foot (H : Hp) : D → V → List Addr
  | .own d, .ref a => a :: D.inn H d (H a)
  | _, _ => []
noncomputable def D.inn (H : Hp) : D → Option HO → List Addr
  | .tup ds, some (.tup vs) => D.foots H ds vs
  | .obj _ _ ds, some (.ins _ _ kvs) => D.foots H ds (kvs.map Prod.snd)
  | .lso ds, some (.lst vs) => D.foots H ds vs
  | _, _ => []
noncomputable def D.foots (H : Hp) : List D → List V → List Addr
  | d :: ds, v :: vs => D.foot H d v ++ D.foots H ds vs
  | _, _ => []
end
noncomputable abbrev Cell := Slot × Option V
noncomputable def RL (K : PySem.W.Frag) (S : Hp) (o : Option HO) (kds : List (L2.Key × D)) : Prop := ∃ od kvs, o = some (.frz od (.dK kvs)) ∧ kvs.map Prod.fst = kds.map Prod.fst ∧ Reps K S (kvs.map Prod.snd) (kds.map Prod.snd)
noncomputable def SC (F : Fr) (S H : Hp) : Cell → Prop
  | (.un, _) => True
  | (.sh d, v) => ∃ u, v = some u ∧ Rep F.K S u d
  | (.ow d, v) => ∃ a, v = some (.ref a) ∧ F.H0 a = none ∧ S a = none ∧ RC F.K S (H a) d
  | (.bo d, v) => ∃ a, v = some (.ref a) ∧ F.H0 a ≠ none ∧ RC F.K S (H a) d
  | (.bt d, v) => ∃ a, v = some (.ref a) ∧ RC F.K S (H a) d
  | (.lk a d, v) => v = some (.ref a) ∧ F.H0 a = none ∧ S a = none ∧ RC F.K S (H a) d
  | (.lo a u kds, v) => v = some (.ref a) ∧ F.H0 a = none ∧ S a = none ∧ H a = some u ∧ RL F.K S (some u) kds
  | (.nd d, v) => ∃ a, v = some (.ref a) ∧ RCn F.K S H (H a) d ∧ (a :: D.inn H d (H a)).Nodup ∧ ∀ b ∈ a :: D.inn H d (H a), F.H0 b = none ∧ S b = none
  | (.nb d, v) => ∃ a, v = some (.ref a) ∧ RCn F.K S H (H a) d ∧ ∀ b ∈ a :: D.inn H d (H a), F.H0 b ≠ none
  | (.ln fp d, v) => ∃ a, v = some (.ref a) ∧ RCn F.K S H (H a) d ∧ fp = a :: D.inn H d (H a) ∧ fp.Nodup ∧ ∀ b ∈ fp, F.H0 b = none ∧ S b = none
  | (.xc a, v) => v = some (.ref a)
  | (.xe a dd ns, v) => v = some (.ref a) ∧ (S dd = some (.xd (ns.map fun p => (p.1, V.int p.2))) ∨ F.H0 dd = some (.xd (ns.map fun p => (p.1, V.int p.2))))
  | (.na a d, v) => v = some (.ref a) ∧ RCn F.K S H (H a) d ∧ (a :: D.inn H d (H a)).Nodup ∧ ∀ b ∈ a :: D.inn H d (H a), F.H0 b = none ∧ S b = none
  | (.rt _ _, _) => False
noncomputable def Slot.isOw : Slot → Prop
  | .ow _ => True
  | .nd _ => True
  | .na _ _ => True
  | _ => False
noncomputable def Slot.own : Slot → Prop
  | .ow _ => True
  | .lk _ _ => True
  | .lo _ _ _ => True
  | .nd _ => True
  | .na _ _ => True
  | .ln _ _ => True
  | _ => False
noncomputable def fpC (H : Hp) : Cell → List Addr
  | (.ow _, some (.ref a)) => [a]
  | (.lk _ _, some (.ref a)) => [a]
  | (.lo _ _ _, some (.ref a)) => [a]
  | (.nd d, some (.ref a)) => a :: D.inn H d (H a)
  | (.na _ d, some (.ref a)) => a :: D.inn H d (H a)
  | (.ln fp _, _) => fp
  | _ => []
noncomputable def Dj (H : Hp) (p q : Cell) : Prop := ∀ a ∈ fpC H p, a ∉ fpC H q
noncomputable def Zbw (H : Hp) (p q : Cell) : Prop := (p.1.isOw → q.1.own → Dj H p q) ∧ (p.1.own → q.1.isOw → Dj H p q)
noncomputable def C (F : Fr) (l : List Cell) (H : Hp) : Prop := ∃ S, GS F S H ∧ (∀ p ∈ l, SC F S H p) ∧ l.Pairwise (Zbw H)
section
variable {F : Fr} {S S' H H' : Hp} {l l' : List Cell} {p q : Cell}
mutual
theorem Zrx : ∀ (d : D) (v : V), (∀ b ∈ D.foot H d v, H' b = H b) → D.foot H' d v = D.foot H d v
  | .own d, v, h => by
    cases v with
    | ref a =>
      have h1 : H' a = H a := h a (by simp [D.foot])
      have h2 := inn_congr d (H a) fun b hb => h b (by simp [D.foot, hb])
      simp only [D.foot]
      rw [h1, h2]
    | _ => simp [D.foot]
  | .non, v, h => by simp [D.foot]
  | .bl _, v, h => by simp [D.foot]
  | .int _, v, h => by simp [D.foot]
  | .str _, v, h => by simp [D.foot]
  | .tup _, v, h => by simp [D.foot]
  | .lst _, v, h => by simp [D.foot]
  | .dk _, v, h => by simp [D.foot]
  | .dt _, v, h => by simp [D.foot]
  | .obj _ _ _, v, h => by simp [D.foot]
  | .rf _, v, h => by simp [D.foot]
  | .fn _, v, h => by simp [D.foot]
  | .lso _, v, h => by simp [D.foot]
theorem inn_congr : ∀ (d : D) (o : Option HO), (∀ b ∈ D.inn H d o, H' b = H b) → D.inn H' d o = D.inn H d o
  | .tup ds, o, h => by
    cases o with
    | none => simp [D.inn]
    | some u => cases u with
      | tup vs =>
        simp only [D.inn] at h ⊢
        exact foots_congr ds vs h
      | _ => simp [D.inn]
  | .obj _ _ ds, o, h => by
    cases o with
    | none => simp [D.inn]
    | some u => cases u with
      | ins _ _ kvs =>
        simp only [D.inn] at h ⊢
        exact foots_congr ds _ h
      | _ => simp [D.inn]
  | .non, o, h => by simp [D.inn]
  | .bl _, o, h => by simp [D.inn]
  | .int _, o, h => by simp [D.inn]
  | .str _, o, h => by simp [D.inn]
  | .lst _, o, h => by simp [D.inn]
  | .dk _, o, h => by simp [D.inn]
  | .dt _, o, h => by simp [D.inn]
  | .own _, o, h => by simp [D.inn]
  | .rf _, o, h => by simp [D.inn]
  | .fn _, o, h => by simp [D.inn]
  | .lso ds, o, h => by
    cases o with
    | none => simp [D.inn]
    | some u => cases u with
      | lst vs =>
        simp only [D.inn] at h ⊢
        exact foots_congr ds vs h
      | _ => simp [D.inn]
theorem foots_congr : ∀ (ds : List D) (vs : List V), (∀ b ∈ D.foots H ds vs, H' b = H b) → D.foots H' ds vs = D.foots H ds vs
  | [], vs, h => by simp [D.foots]
  | d :: ds, [], h => by simp [D.foots]
  | d :: ds, v :: vs, h => by
    simp only [D.foots] at h ⊢
    rw [Zrx d v fun b hb => h b (List.mem_append_left _ hb), foots_congr ds vs fun b hb => h b (List.mem_append_right _ hb)]
end
theorem RC.mono {K : PySem.W.Frag} {o : Option HO} {d : D} (e : Same S S') (h : RC K S o d) : RC K S' o d := by
  cases d with
  | lst ds => obtain ⟨vs, e1, r⟩ := h; exact ⟨vs, e1, r.mono e⟩
  | dk kds => obtain ⟨vs, e1, k, r⟩ := h; exact ⟨vs, e1, k, r.mono e⟩
  | dt kds => obtain ⟨vs, e1, k, r⟩ := h; exact ⟨vs, e1, k, r.mono e⟩
  | _ => exact h.elim
theorem RC.nn {K : PySem.W.Frag} {o : Option HO} {d : D} (h : RC K S o d) : o ≠ none := by
  cases d with
  | lst ds => obtain ⟨vs, e1, r⟩ := h; rw [e1]; simp
  | dk kds => obtain ⟨vs, e1, k, r⟩ := h; rw [e1]; simp
  | dt kds => obtain ⟨vs, e1, k, r⟩ := h; rw [e1]; simp
  | _ => exact h.elim
theorem RC.inn {K : PySem.W.Frag} {o : Option HO} {d : D} (h : RC K S o d) : D.inn H d o = [] := by
  cases d with
  | lst ds => simp [D.inn]
  | dk kds => simp [D.inn]
  | dt kds => simp [D.inn]
  | _ => exact h.elim
theorem RL.mono {K : PySem.W.Frag} {o : Option HO} {kds : List (L2.Key × D)} (e : Same S S') (h : RL K S o kds) : RL K S' o kds := by
  obtain ⟨od, kvs, e1, k, r⟩ := h
  exact ⟨od, kvs, e1, k, r.mono e⟩
theorem RL.nn {K : PySem.W.Frag} {o : Option HO} {kds : List (L2.Key × D)} (h : RL K S o kds) : o ≠ none := by
  obtain ⟨od, kvs, e1, k, r⟩ := h
  rw [e1]; simp
theorem rep_foot {K : PySem.W.Frag} {v : V} {d : D} (r : Rep K S v d) : D.foot H d v = [] := by cases r <;> simp [D.foot]
mutual
theorem RCn.mono {K : PySem.W.Frag} (e : Same S S') : ∀ {o : Option HO} {d : D}, RCn K S H o d → (∀ b ∈ D.inn H d o, H' b = H b) → RCn K S' H' o d
  | _, _, .flat r, h => .flat (r.mono e)
  | _, _, .tup x r, h => .tup x (Itns.mono e r (by simpa only [D.inn] using h))
  | _, _, .obj n k r, h => .obj n k (Itns.mono e r (by simpa only [D.inn] using h))
  | _, _, .lso r, h => .lso (Itns.mono e r (by simpa only [D.inn] using h))
theorem Itn.mono {K : PySem.W.Frag} (e : Same S S') : ∀ {v : V} {d : D}, Itn K S H v d → (∀ b ∈ D.foot H d v, H' b = H b) → Itn K S' H' v d
  | _, _, .sh r, h => .sh (r.mono e)
  | .ref b, .own d, .ow r, h => by
    have h1 : H' b = H b := h b (by simp [D.foot])
    have r' : RCn K S' H' (H b) d := RCn.mono e r fun c hc => h c (by simp [D.foot, hc])
    exact .ow (by rw [h1]; exact r')
theorem Itns.mono {K : PySem.W.Frag} (e : Same S S') : ∀ {vs : List V} {ds : List D}, Itns K S H vs ds → (∀ b ∈ D.foots H ds vs, H' b = H b) → Itns K S' H' vs ds
  | _, _, .nil, h => .nil
  | _, _, .cons r q, h => .cons (Itn.mono e r fun b hb => h b (by simp only [D.foots]; exact List.mem_append_left _ hb)) (Itns.mono e q fun b hb => h b (by simp only [D.foots]; exact List.mem_append_right _ hb))
end
theorem RCn.nn {K : PySem.W.Frag} {o : Option HO} {d : D} (h : RCn K S H o d) : o ≠ none := by
  cases h with
  | flat r => exact r.nn
  | tup _ _ => simp
  | obj _ _ _ => simp
  | lso _ => simp
mutual
theorem RCn.dom {K : PySem.W.Frag} : ∀ {o : Option HO} {d : D}, RCn K S H o d → ∀ b ∈ D.inn H d o, H b ≠ none
  | _, _, .flat r, b, h => by rw [r.inn] at h; simp at h
  | _, _, .tup _ r, b, h => Itns.dom r b (by simpa only [D.inn] using h)
  | _, _, .obj n k r, b, h => Itns.dom r b (by simpa only [D.inn] using h)
  | _, _, .lso r, b, h => Itns.dom r b (by simpa only [D.inn] using h)
theorem Itn.dom {K : PySem.W.Frag} : ∀ {v : V} {d : D}, Itn K S H v d → ∀ b ∈ D.foot H d v, H b ≠ none
  | _, _, .sh r, b, h => by rw [rep_foot r] at h; simp at h
  | .ref a, .own d, .ow r, b, h => by
    simp only [D.foot, List.mem_cons] at h
    rcases h with rfl | h
    · exact r.nn
    · exact RCn.dom r b h
theorem Itns.dom {K : PySem.W.Frag} : ∀ {vs : List V} {ds : List D}, Itns K S H vs ds → ∀ b ∈ D.foots H ds vs, H b ≠ none
  | _, _, .nil, b, h => by simp [D.foots] at h
  | _, _, .cons r q, b, h => by
    simp only [D.foots, List.mem_append] at h
    rcases h with h | h
    · exact Itn.dom r b h
    · exact Itns.dom q b h
end
theorem Z0y {vs : List V} (h : ∃ v ∈ vs, ∀ k : L2.Key, kV k ≠ v) : ¬ KT (some (.tup vs)) := fun ⟨ks, e⟩ => by
  obtain ⟨b, hb, hn⟩ := h
  cases e
  obtain ⟨k, _, e⟩ := List.mem_map.mp hb
  exact hn k e
theorem RC.nkt {K : PySem.W.Frag} {o : Option HO} {d : D} (h : RC K S o d) : ¬ KT o := fun ⟨ks, e⟩ => by
  cases d with
  | lst ds => obtain ⟨vs, e1, r⟩ := h; rw [e1] at e; cases e
  | dk kds => obtain ⟨vs, e1, k, r⟩ := h; rw [e1] at e; cases e
  | dt kds => obtain ⟨vs, e1, k, r⟩ := h; rw [e1] at e; cases e
  | _ => exact h.elim
theorem RCn.nkt0 {K : PySem.W.Frag} {o : Option HO} {d : D} (h : RCn K S H o d) : ¬ KT o := by
  cases h with
  | flat r => exact r.nkt
  | tup x _ => exact Z0y x
  | obj _ _ _ => rintro ⟨ks, e⟩; cases e
  | lso _ => rintro ⟨ks, e⟩; cases e
mutual
theorem RCn.nkt {K : PySem.W.Frag} : ∀ {o : Option HO} {d : D}, RCn K S H o d → ∀ b ∈ D.inn H d o, ¬ KT (H b)
  | _, _, .flat r, b, h => by rw [r.inn] at h; simp at h
  | _, _, .tup _ r, b, h => Itns.nkt r b (by simpa only [D.inn] using h)
  | _, _, .obj n k r, b, h => Itns.nkt r b (by simpa only [D.inn] using h)
  | _, _, .lso r, b, h => Itns.nkt r b (by simpa only [D.inn] using h)
theorem Itn.nkt {K : PySem.W.Frag} : ∀ {v : V} {d : D}, Itn K S H v d → ∀ b ∈ D.foot H d v, ¬ KT (H b)
  | _, _, .sh r, b, h => by rw [rep_foot r] at h; simp at h
  | .ref a, .own d, .ow r, b, h => by
    simp only [D.foot, List.mem_cons] at h
    rcases h with rfl | h
    · exact r.nkt0
    · exact RCn.nkt r b h
theorem Itns.nkt {K : PySem.W.Frag} : ∀ {vs : List V} {ds : List D}, Itns K S H vs ds → ∀ b ∈ D.foots H ds vs, ¬ KT (H b)
  | _, _, .nil, b, h => by simp [D.foots] at h
  | _, _, .cons r q, b, h => by
    simp only [D.foots, List.mem_append] at h
    rcases h with h | h
    · exact Itn.nkt r b h
    · exact Itns.nkt q b h
end
theorem RCn.nkt1 {K : PySem.W.Frag} {a : Addr} {d : D} (h : RCn K S H (H a) d) : ∀ b ∈ a :: D.inn H d (H a), ¬ KT (H b) := fun b hb => by
  rcases List.mem_cons.mp hb with rfl | hb
  · exact h.nkt0
  · exact h.nkt b hb
theorem RCn.dom1 {K : PySem.W.Frag} {a : Addr} {d : D} (h : RCn K S H (H a) d) : ∀ b ∈ a :: D.inn H d (H a), H b ≠ none := fun b hb => by
  rcases List.mem_cons.mp hb with rfl | hb
  · exact h.nn
  · exact h.dom b hb
theorem RCn.at {K : PySem.W.Frag} {a : Addr} {d : D} (e : Same S S') (h : RCn K S H (H a) d) (q : ∀ b ∈ a :: D.inn H d (H a), H' b = H b) : RCn K S' H' (H' a) d ∧ D.inn H' d (H' a) = D.inn H d (H a) := by
  rw [q a List.mem_cons_self]
  exact ⟨h.mono e fun b hb => q b (List.mem_cons_of_mem _ hb), inn_congr d _ fun b hb => q b (List.mem_cons_of_mem _ hb)⟩
theorem Dj.symm (h : Dj H p q) : Dj H q p := fun a ha hb => h a hb ha
theorem Zbw.symm (h : Zbw H p q) : Zbw H q p := ⟨fun a b => (h.2 b a).symm, fun a b => (h.1 b a).symm⟩
theorem C.perm (h : C F l H) (e : l.Perm l') : C F l' H := by
  obtain ⟨S, g, a, b⟩ := h
  refine ⟨S, g, fun p hp => a p (e.mem_iff.mpr hp), ?_⟩
  exact (e.pairwise_iff (R := Zbw H) (fun h => h.symm)).mp b
theorem C.sub (h : C F l H) (e : l'.Sublist l) : C F l' H := by
  obtain ⟨S, g, a, b⟩ := h
  exact ⟨S, g, fun p hp => a p (e.subset hp), b.sublist e⟩
theorem C.tail (h : C F (p :: l) H) : C F l H := h.sub (List.sublist_cons_self _ _)
theorem C.right {a : List Cell} (h : C F (a ++ l) H) : C F l H := h.sub (List.sublist_append_right _ _)
theorem C.left {a : List Cell} (h : C F (a ++ l) H) : C F a H := h.sub (List.sublist_append_left _ _)
theorem C.swap (h : C F (p :: q :: l) H) : C F (q :: p :: l) H := h.perm (List.Perm.swap _ _ _)
theorem C.front {a : List Cell} (h : C F (a ++ p :: l) H) : C F (p :: (a ++ l)) H := h.perm List.perm_middle
theorem C.back {a : List Cell} (h : C F (p :: (a ++ l)) H) : C F (a ++ p :: l) H := h.perm List.perm_middle.symm
theorem C.same (h : C F l H) : Same F.H0 H := by
  obtain ⟨S, g, _⟩ := h
  exact g.h0
theorem Z0e {x : Slot} (h : x.isOw) : x.own := by cases x <;> first | trivial | exact h.elim
theorem Zbh (hp : ¬ p.1.own) (h : l.Pairwise (Zbw H)) : (p :: l).Pairwise (Zbw H) := List.pairwise_cons.mpr ⟨fun _ _ => ⟨fun a => (hp (Z0e a)).elim, fun a => (hp a).elim⟩, h⟩
theorem C.put (h : C F l H) (hp : ¬ p.1.own) (hs : ∀ S, GS F S H → (∀ q ∈ l, SC F S H q) → SC F S H p) : C F (p :: l) H := by
  obtain ⟨S, g, a, b⟩ := h
  refine ⟨S, g, fun q hq => ?_, Zbh hp b⟩
  rcases List.mem_cons.mp hq with rfl | hq
  · exact hs S g a
  · exact a q hq
theorem C.int (h : C F l H) (i : Int) : C F ((.sh (.int i), some (.int i)) :: l) H := h.put (fun z => z) fun _ _ _ => ⟨_, rfl, .int⟩
theorem C.bl (h : C F l H) (b : Bool) : C F ((.sh (.bl b), some (.bl b)) :: l) H := h.put (fun z => z) fun _ _ _ => ⟨_, rfl, .bl⟩
theorem C.str (h : C F l H) (s : Str) : C F ((.sh (.str s), some (.str s)) :: l) H := h.put (fun z => z) fun _ _ _ => ⟨_, rfl, .str⟩
theorem C.non (h : C F l H) : C F ((.sh .non, some .non) :: l) H := h.put (fun z => z) fun _ _ _ => ⟨_, rfl, .non⟩
theorem C.un (h : C F l H) (v : Option V) : C F ((.un, v) :: l) H := h.put (fun z => z) fun _ _ _ => trivial
theorem C.dup {d : D} {v : Option V} (h : C F l H) (hm : (.sh d, v) ∈ l) : C F ((.sh d, v) :: l) H := h.put (fun z => z) fun _ _ a => a _ hm
theorem C.dupB {d : D} {v : Option V} (h : C F l H) (hm : (.bo d, v) ∈ l) : C F ((.bo d, v) :: l) H := h.put (fun z => z) fun _ _ a => a _ hm
theorem C.dupN {d : D} {v : Option V} (h : C F l H) (hm : (.nb d, v) ∈ l) : C F ((.nb d, v) :: l) H := h.put (fun z => z) fun _ _ a => a _ hm
theorem C.dupO {x : Slot} {v : Option V} (h : C F l H) (hm : (x, v) ∈ l) (hx : ¬ x.isOw) : C F ((x, v) :: l) H := by
  obtain ⟨S, g, c, b⟩ := h
  refine ⟨S, g, fun q hq => ?_, List.pairwise_cons.mpr ⟨fun q hq => ⟨fun z => (hx z).elim, fun ox oq => ?_⟩, b⟩⟩
  · rcases List.mem_cons.mp hq with rfl | hq
    · exact c _ hm
    · exact c q hq
  · obtain ⟨s, t, rfl⟩ := List.append_of_mem hm
    have b' := (List.perm_middle.pairwise_iff (R := Zbw H) (fun h => h.symm)).mp b
    have b1 := (List.pairwise_cons.mp b').1
    have hq' : q ∈ s ++ t := by
      rcases List.mem_append.mp hq with z | z
      · exact List.mem_append_left _ z
      · rcases List.mem_cons.mp z with z | z
        · subst z; exact (hx oq).elim
        · exact List.mem_append_right _ z
    exact (b1 q hq').2 ox oq
theorem C.dupL {a : Addr} {d : D} {v : Option V} (h : C F l H) (hm : (.lk a d, v) ∈ l) : C F ((.lk a d, v) :: l) H := h.dupO hm fun z => z
theorem C.dupK {a : Addr} {u : HO} {d : List (L2.Key × D)} {v : Option V} (h : C F l H) (hm : (.lo a u d, v) ∈ l) : C F ((.lo a u d, v) :: l) H := h.dupO hm fun z => z
theorem C.look {d : D} {v : Option V} (h : C F l H) (hm : (.ow d, v) ∈ l) : C F ((.bt d, v) :: l) H := h.put (fun z => z) fun _ _ a => by
  obtain ⟨a, e, _, _, r⟩ := a _ hm
  exact ⟨a, e, r⟩
noncomputable def Zri : D → Slot
  | .lst ds => .bt (.lst ds)
  | .dk kds => .bt (.dk kds)
  | .dt kds => .bt (.dt kds)
  | _ => .un
theorem Zl2 {K : PySem.W.Frag} {S : Hp} {o : Option HO} {d : D} (r : RCn K S H o d) (h : (∃ ds, d = .lst ds) ∨ (∃ ds, d = .dk ds) ∨ ∃ ds, d = .dt ds) : RC K S o d := by
  cases r with
  | flat r => exact r
  | tup _ _ => rcases h with ⟨_, h⟩ | ⟨_, h⟩ | ⟨_, h⟩ <;> cases h
  | obj _ _ _ => rcases h with ⟨_, h⟩ | ⟨_, h⟩ | ⟨_, h⟩ <;> cases h
  | lso _ => rcases h with ⟨_, h⟩ | ⟨_, h⟩ | ⟨_, h⟩ <;> cases h
theorem Zpy {S : Hp} {v : Option V} {d : D} (h : ∃ a, v = some (.ref a) ∧ RCn F.K S H (H a) d) : SC F S H (Zri d, v) := by
  obtain ⟨a, e, r⟩ := h
  cases d with
  | lst ds => exact ⟨a, e, Zl2 r (.inl ⟨_, rfl⟩)⟩
  | dk ds => exact ⟨a, e, Zl2 r (.inr (.inl ⟨_, rfl⟩))⟩
  | dt ds => exact ⟨a, e, Zl2 r (.inr (.inr ⟨_, rfl⟩))⟩
  | _ => trivial
theorem Zmo (d : D) : ¬ (Zri d).own := by cases d <;> exact fun z => z
theorem C.lookA {a : Addr} {d : D} {v : Option V} (h : C F l H) (hm : (.na a d, v) ∈ l) : C F ((Zri d, v) :: l) H := h.put (Zmo d) fun _ _ c => by
  obtain ⟨e, r, _⟩ := c _ hm
  exact Zpy ⟨a, e, r⟩
theorem C.lookD {d : D} {v : Option V} (h : C F l H) (hm : (.nd d, v) ∈ l) : C F ((Zri d, v) :: l) H := h.put (Zmo d) fun _ _ c => by
  obtain ⟨a, e, r, _⟩ := c _ hm
  exact Zpy ⟨a, e, r⟩
theorem C.val {d : D} {v : Option V} (h : C F ((.sh d, v) :: l) H) : ∃ u, v = some u := by
  obtain ⟨S, g, a, b⟩ := h
  obtain ⟨u, e, _⟩ := a _ List.mem_cons_self
  exact ⟨u, e⟩
theorem GS.new {a : Addr} {o : HO} (g : GS F S H) (ha : H a = none) : GS F (upd S a o) (upd H a o) := by
  have hS : S a = none := g.sh.free ha
  have h0 : F.H0 a = none := g.h0.free ha
  refine ⟨fun b u e => ?_, fun b u e => ?_, fun b u e => ?_, fun b e => ?_⟩
  · rw [upd_ne (ne_of_none (g.s0 b u e) hS)]; exact g.s0 b u e
  · by_cases hb : b = a
    · subst hb; rw [upd_same] at e ⊢; exact e
    · rw [upd_ne hb] at e ⊢; exact g.sh b u e
  · rw [upd_ne (ne_of_none (g.h0 b u e) ha)]; exact g.h0 b u e
  · by_cases hb : b = a
    · subst hb; exact .inr (.inl h0)
    · rw [upd_ne hb] at e ⊢; exact g.fr b e
theorem Za9 {a : Addr} {o : HO} (ha : H a = none) : Same H (upd H a o) := fun b u e => by
  rw [upd_ne (ne_of_none e ha)]; exact e
theorem Zkl {b : Addr} (e : Same H H') (h : H b ≠ none) : H' b = H b := by
  cases q : H b with
  | none => exact (h q).elim
  | some o => exact e b o q
theorem SC.keep (s : SC F S H p) (e : Same S S') (ho : ∀ a, H a ≠ none → (F.H0 a ≠ none → H' a = H a)) (hp : ∀ a ∈ fpC H p, H' a = H a) (n : ∀ a ∈ fpC H p, S' a = none) (ht : p.1.env) : SC F S' H' p := by
  obtain ⟨x, v⟩ := p
  cases x with
  | un => trivial
  | sh d => obtain ⟨u, e1, r⟩ := s; exact ⟨u, e1, r.mono e⟩
  | ow d =>
    obtain ⟨a, rfl, h0, hS, r⟩ := s
    have m : a ∈ fpC H (Slot.ow d, some (V.ref a)) := by simp [fpC]
    exact ⟨a, rfl, h0, n a m, by rw [hp a m]; exact r.mono e⟩
  | bo d => obtain ⟨a, e1, h0, r⟩ := s; exact ⟨a, e1, h0, by rw [ho a r.nn h0]; exact r.mono e⟩
  | bt d => exact ht.elim
  | lk a d =>
    obtain ⟨rfl, h0, hS, r⟩ := s
    have m : a ∈ fpC H (Slot.lk a d, some (V.ref a)) := by simp [fpC]
    exact ⟨rfl, h0, n a m, by rw [hp a m]; exact r.mono e⟩
  | lo a u d =>
    obtain ⟨rfl, h0, hS, eu, r⟩ := s
    have m : a ∈ fpC H (Slot.lo a u d, some (V.ref a)) := by simp [fpC]
    exact ⟨rfl, h0, n a m, by rw [hp a m]; exact eu, r.mono e⟩
  | nd d =>
    obtain ⟨a, rfl, r, nd, q⟩ := s
    have hp : ∀ b ∈ a :: D.inn H d (H a), H' b = H b := hp
    have n : ∀ b ∈ a :: D.inn H d (H a), S' b = none := n
    obtain ⟨r', ei⟩ := r.at e hp
    refine ⟨a, rfl, r', by rw [ei]; exact nd, fun b hb => ?_⟩
    rw [ei] at hb
    exact ⟨(q b hb).1, n b hb⟩
  | nb d =>
    obtain ⟨a, rfl, r, q⟩ := s
    obtain ⟨r', ei⟩ := r.at (H' := H') e fun b hb => ho b (r.dom1 b hb) (q b hb)
    exact ⟨a, rfl, r', fun b hb => by rw [ei] at hb; exact q b hb⟩
  | ln fp d =>
    obtain ⟨a, rfl, r, ef, nd, q⟩ := s
    have hp : ∀ b ∈ fp, H' b = H b := hp
    have n : ∀ b ∈ fp, S' b = none := n
    obtain ⟨r', ei⟩ := r.at e (by rw [← ef]; exact hp)
    exact ⟨a, rfl, r', by rw [ei]; exact ef, nd, fun b hb => ⟨(q b hb).1, n b hb⟩⟩
  | xc a => exact s
  | xe a dd ns => exact ⟨s.1, s.2.elim (fun z => .inl (e _ _ z)) .inr⟩
  | na a d =>
    obtain ⟨rfl, r, nd, q⟩ := s
    have hp : ∀ b ∈ a :: D.inn H d (H a), H' b = H b := hp
    have n : ∀ b ∈ a :: D.inn H d (H a), S' b = none := n
    obtain ⟨r', ei⟩ := r.at e hp
    refine ⟨rfl, r', by rw [ei]; exact nd, fun b hb => ?_⟩
    rw [ei] at hb
    exact ⟨(q b hb).1, n b hb⟩
  | rt _ _ => exact ht.elim
theorem Zeo (s : SC F S H p) : ∀ a ∈ fpC H p, H a ≠ none ∧ F.H0 a = none ∧ S a = none := fun a ha => by
  obtain ⟨x, v⟩ := p
  cases x with
  | ow d =>
    obtain ⟨b, rfl, h0, hS, r⟩ := s
    obtain rfl : a = b := by simpa [fpC] using ha
    exact ⟨r.nn, h0, hS⟩
  | lk b d =>
    obtain ⟨rfl, h0, hS, r⟩ := s
    obtain rfl : a = b := by simpa [fpC] using ha
    exact ⟨r.nn, h0, hS⟩
  | lo b u d =>
    obtain ⟨rfl, h0, hS, eu, r⟩ := s
    obtain rfl : a = b := by simpa [fpC] using ha
    exact ⟨by rw [eu]; simp, h0, hS⟩
  | nd d =>
    obtain ⟨b, rfl, r, nd, q⟩ := s
    exact ⟨r.dom1 a ha, q a ha⟩
  | na _ d =>
    obtain ⟨rfl, r, nd, q⟩ := s
    exact ⟨r.dom1 a ha, q a ha⟩
  | ln fp d =>
    obtain ⟨b, rfl, r, ef, nd, q⟩ := s
    have ha : a ∈ fp := ha
    exact ⟨r.dom1 a (ef ▸ ha), q a ha⟩
  | _ => simp [fpC] at ha
theorem Zy7 (s : SC F S H p) : ∀ a ∈ fpC H p, ¬ KT (H a) := fun a ha => by
  obtain ⟨x, v⟩ := p
  cases x with
  | ow d =>
    obtain ⟨b, rfl, h0, hS, r⟩ := s
    obtain rfl : a = b := by simpa [fpC] using ha
    exact r.nkt
  | lk b d =>
    obtain ⟨rfl, h0, hS, r⟩ := s
    obtain rfl : a = b := by simpa [fpC] using ha
    exact r.nkt
  | lo b u d =>
    obtain ⟨rfl, h0, hS, eu, od, kvs, e1, _⟩ := s
    obtain rfl : a = b := by simpa [fpC] using ha
    rintro ⟨ks, e⟩
    rw [eu, e1] at e
    cases e
  | nd d =>
    obtain ⟨b, rfl, r, nd, q⟩ := s
    exact r.nkt1 a ha
  | na _ d =>
    obtain ⟨rfl, r, nd, q⟩ := s
    exact r.nkt1 a ha
  | ln fp d =>
    obtain ⟨b, rfl, r, ef, nd, q⟩ := s
    have ha : a ∈ fp := ha
    exact r.nkt1 a (ef ▸ ha)
  | _ => simp [fpC] at ha
theorem Zev (h : ∀ a ∈ fpC H p, H' a = H a) : fpC H' p = fpC H p := by
  obtain ⟨x, v⟩ := p
  cases x with
  | nd d =>
    cases v with
    | none => rfl
    | some v =>
      cases v with
      | ref a =>
        have h : ∀ b ∈ a :: D.inn H d (H a), H' b = H b := h
        show a :: D.inn H' d (H' a) = a :: D.inn H d (H a)
        rw [h a List.mem_cons_self, inn_congr d _ fun b hb => h b (List.mem_cons_of_mem _ hb)]
      | _ => rfl
  | na _ d =>
    cases v with
    | none => rfl
    | some v =>
      cases v with
      | ref a =>
        have h : ∀ b ∈ a :: D.inn H d (H a), H' b = H b := h
        show a :: D.inn H' d (H' a) = a :: D.inn H d (H a)
        rw [h a List.mem_cons_self, inn_congr d _ fun b hb => h b (List.mem_cons_of_mem _ hb)]
      | _ => rfl
  | ow d => cases v with
    | none => rfl
    | some v => cases v <;> rfl
  | lk b d => cases v with
    | none => rfl
    | some v => cases v <;> rfl
  | lo b u d => cases v with
    | none => rfl
    | some v => cases v <;> rfl
  | _ => rfl
theorem Zhv (s : SC F S H p) (e : Same H H') : fpC H' p = fpC H p := Zev fun a ha => Zkl e (Zeo s a ha).1
theorem Zbw.grow (h : Zbw H p q) (s : SC F S H p) (t : SC F S H q) (e : Same H H') : Zbw H' p q := by
  unfold Zbw Dj at h ⊢
  rw [Zhv s e, Zhv t e]
  exact h
theorem Zh7 {l : List Cell} (h : l.Pairwise (Zbw H)) (c : ∀ p ∈ l, SC F S H p) (e : Same H H') : l.Pairwise (Zbw H') := by
  induction h with
  | nil => exact .nil
  | cons h1 h2 ih => exact .cons (fun q hq => (h1 q hq).grow (c _ List.mem_cons_self) (c q (List.mem_cons_of_mem _ hq)) e) (ih fun p hp => c p (List.mem_cons_of_mem _ hp))
theorem GS.kt_old {a : Addr} (g : GS F S H) (z : KT (S a)) : F.H0 a = none ∨ KT (F.H0 a) := by
  obtain ⟨ks, e⟩ := z
  cases q : F.H0 a with
  | none => exact .inl rfl
  | some o =>
    have e1 := g.h0 a o q
    rw [g.sh a _ e] at e1
    cases e1
    exact .inr ⟨ks, rfl⟩
theorem SC.grow (s : SC F S H p) (e : Same S S') (e2 : Same H H') (n : ∀ a, S' a ≠ none → S a ≠ none ∨ H a = none ∨ KT (H a)) : SC F S' H' p := by
  by_cases ht : p.1.env
  · refine s.keep e (fun a ha _ => Zkl e2 ha) (fun a ha => Zkl e2 (Zeo s a ha).1) (fun a ha => ?_) ht
    obtain ⟨h1, _, h3⟩ := Zeo s a ha
    cases q : S' a with
    | none => rfl
    | some o =>
      rcases n a (by rw [q]; simp) with z | z | z
      · exact (z h3).elim
      · exact (h1 z).elim
      · exact (Zy7 s a ha z).elim
  · obtain ⟨x, v⟩ := p
    cases x with
    | bt d => obtain ⟨a, e1, r⟩ := s; exact ⟨a, e1, by rw [Zkl e2 r.nn]; exact r.mono e⟩
    | rt _ _ => exact s.elim
    | _ => exact (ht trivial).elim
theorem Zn5 {a : Addr} {d : D} (ha : H a = none) (c : SC F S H q) : Zbw H (.ow d, some (.ref a)) q := by
  have key : Dj H (.ow d, some (.ref a)) q := fun b hb hq => by
    obtain rfl : b = a := by simpa [fpC] using hb
    exact (Zeo c _ hq).1 ha
  exact ⟨fun _ _ => key, fun _ _ => key⟩
theorem C.newSh {a : Addr} {o : HO} {d : D} (h : C F l H) (ha : H a = none) (hr : ∀ S, GS F S H → (∀ q ∈ l, SC F S H q) → Rep F.K (upd S a o) (.ref a) d) : C F ((.sh d, some (.ref a)) :: l) (upd H a o) := by
  obtain ⟨S, g, c, b⟩ := h
  have hS : S a = none := g.sh.free ha
  refine ⟨upd S a o, g.new ha, fun q hq => ?_, Zbh (fun z => z) (Zh7 b c (Za9 ha))⟩
  rcases List.mem_cons.mp hq with rfl | hq
  · exact ⟨_, rfl, hr S g c⟩
  · refine (c q hq).grow (Za9 hS) (Za9 ha) fun b hb => ?_
    by_cases e : b = a
    · subst e; exact .inr (.inl ha)
    · rw [upd_ne e] at hb; exact .inl hb
theorem C.newOw {a : Addr} {o : HO} {d : D} (h : C F l H) (ha : H a = none) (hr : ∀ S, GS F S H → (∀ q ∈ l, SC F S H q) → RC F.K S (some o) d) : C F ((.ow d, some (.ref a)) :: l) (upd H a o) := by
  obtain ⟨S, g, c, b⟩ := h
  have hS : S a = none := g.sh.free ha
  have g' : GS F S (upd H a o) := ⟨g.s0, g.sh.trans (Za9 ha), g.h0.trans (Za9 ha), g.fr⟩
  have b' := Zh7 b c (Za9 (o := o) ha)
  refine ⟨S, g', fun q hq => ?_, List.pairwise_cons.mpr ⟨fun q hq => ?_, b'⟩⟩
  · rcases List.mem_cons.mp hq with rfl | hq
    · exact ⟨a, rfl, g.h0.free ha, hS, by rw [upd_same]; exact hr S g c⟩
    · exact (c q hq).grow (Same.refl S) (Za9 ha) fun b hb => .inl hb
  · have ap := Zn5 (d := d) ha (c q hq)
    unfold Zbw Dj at ap ⊢
    rw [Zhv (c q hq) (Za9 ha)]
    exact ap
theorem RC.rep {K : PySem.W.Frag} {a : Addr} {o : HO} {d : D} (h : RC K S (some o) d) (ha : S a = none) : Rep K (upd S a o) (.ref a) d := by
  have m : Same S (upd S a o) := Za9 ha
  cases d with
  | lst ds => obtain ⟨vs, e1, r⟩ := h; cases e1; exact .lst (SqL.of upd_same) (r.mono m)
  | dk kds => obtain ⟨vs, e1, k, r⟩ := h; cases e1; exact .dk (.inl upd_same) k (r.mono m)
  | dt kds => obtain ⟨vs, e1, k, r⟩ := h; cases e1; exact .dt upd_same k (r.mono m)
  | _ => exact h.elim
theorem GS.frz {a : Addr} {o : HO} (g : GS F S H) (hS : S a = none) (h0 : F.H0 a = none) (q : H a = some o) : GS F (upd S a o) H := by
  refine ⟨g.s0.trans (Za9 hS), fun b u e => ?_, g.h0, fun b e => ?_⟩
  · by_cases hb : b = a
    · subst hb; rw [upd_same] at e; cases e; exact q
    · rw [upd_ne hb] at e; exact g.sh b u e
  · by_cases hb : b = a
    · subst hb; exact .inr (.inl h0)
    · rw [upd_ne hb] at e ⊢; exact g.fr b e
theorem SC.frz {a : Addr} {o : HO} (s : SC F S H p) (hS : S a = none) (ap : a ∉ fpC H p) : SC F (upd S a o) H p := by
  have m : Same S (upd S a o) := Za9 hS
  by_cases ht : p.1.env
  · refine s.keep m (fun _ _ _ => rfl) (fun _ _ => rfl) (fun b hb => ?_) ht
    have ne : b ≠ a := fun z => ap (z ▸ hb)
    rw [upd_ne ne]
    exact (Zeo s b hb).2.2
  · obtain ⟨x, v⟩ := p
    cases x with
    | bt d => obtain ⟨a, e1, r⟩ := s; exact ⟨a, e1, r.mono m⟩
    | rt _ _ => exact s.elim
    | _ => exact (ht trivial).elim
theorem C.frz {d : D} {v : Option V} (h : C F ((.ow d, v) :: l) H) : C F ((.sh d, v) :: l) H := by
  obtain ⟨S, g, c, b⟩ := h
  obtain ⟨a, rfl, h0, hS, r⟩ := c _ List.mem_cons_self
  cases q : H a with
  | none => exact (r.nn q).elim
  | some o =>
    rw [q] at r
    obtain ⟨b1, b2⟩ := List.pairwise_cons.mp b
    refine ⟨upd S a o, g.frz hS h0 q, fun p hp => ?_, Zbh (fun z => z) b2⟩
    rcases List.mem_cons.mp hp with rfl | hp
    · exact ⟨_, rfl, r.rep hS⟩
    · refine (c p (List.mem_cons_of_mem _ hp)).frz hS fun ha => ?_
      have ap := b1 p hp
      by_cases op : p.1.own
      · exact ap.1 trivial op a (by simp [fpC]) ha
      · obtain ⟨x, w⟩ := p
        cases x with
        | ow _ => exact op trivial
        | lk _ _ => exact op trivial
        | lo _ _ _ => exact op trivial
        | nd _ => exact op trivial
        | na _ _ => exact op trivial
        | ln _ _ => exact op trivial
        | _ => simp [fpC] at ha
theorem Zu8 (op : ¬ p.1.own) : fpC H p = [] := by
  obtain ⟨x, w⟩ := p
  cases x with
  | ow _ => exact (op trivial).elim
  | lk _ _ => exact (op trivial).elim
  | lo _ _ _ => exact (op trivial).elim
  | nd _ => exact (op trivial).elim
  | na _ _ => exact (op trivial).elim
  | ln _ _ => exact (op trivial).elim
  | _ => rfl
theorem Zbw.no {a : Addr} (h : Zbw H p q) (hp : p.1.isOw) (ha : a ∈ fpC H p) : a ∉ fpC H q := fun hq => by
  by_cases oq : q.1.own
  · exact h.1 hp oq a ha hq
  · rw [Zu8 oq] at hq; simp at hq
theorem Zbw.upd {a : Addr} {o : HO} (h : Zbw H p q) (hp : a ∉ fpC H p) (hq : a ∉ fpC H q) : Zbw (upd H a o) p q := by
  have e1 : fpC (L2.upd H a o) p = fpC H p := Zev fun b hb => upd_ne fun z => hp (z ▸ hb)
  have e2 : fpC (L2.upd H a o) q = fpC H q := Zev fun b hb => upd_ne fun z => hq (z ▸ hb)
  unfold Zbw Dj at h ⊢
  rw [e1, e2]
  exact h
theorem Zwr {l : List Cell} {a : Addr} {o : HO} (h : l.Pairwise (Zbw H)) (n : ∀ p ∈ l, a ∉ fpC H p) : l.Pairwise (Zbw (upd H a o)) := by
  induction h with
  | nil => exact .nil
  | cons h1 h2 ih => exact .cons (fun q hq => (h1 q hq).upd (n _ List.mem_cons_self) (n q (List.mem_cons_of_mem _ hq))) (ih fun p hp => n p (List.mem_cons_of_mem _ hp))
theorem GS.mut {a : Addr} {o : HO} (g : GS F S H) (hS : S a = none) (h0 : F.H0 a = none) : GS F S (upd H a o) :=
  ⟨g.s0, fun b u e => by rw [upd_ne (ne_of_none e hS)]; exact g.sh b u e, fun b u e => by rw [upd_ne (ne_of_none e h0)]; exact g.h0 b u e, g.fr⟩
theorem SC.mut {a : Addr} {o : HO} (s : SC F S H p) (h0 : F.H0 a = none) (n : a ∉ fpC H p) (ht : p.1.env) : SC F S (upd H a o) p :=
  s.keep (Same.refl S) (fun b _ q => upd_ne fun z => q (z ▸ h0)) (fun b hb => upd_ne fun z => n (z ▸ hb)) (fun b hb => (Zeo s b hb).2.2) ht
theorem C.mut {a : Addr} {d : D} (h : C F ((.ow d, some (.ref a)) :: l) H) (nb : ∀ p ∈ l, p.1.env) :
    ∃ S, GS F S H ∧ RC F.K S (H a) d ∧ (∀ p ∈ l, SC F S H p) ∧ ∀ o' d', RC F.K S (some o') d' → C F ((.ow d', some (.ref a)) :: l) (upd H a o') := by
  obtain ⟨S, g, c, b⟩ := h
  obtain ⟨a', e1, h0, hS, r⟩ := c _ List.mem_cons_self
  cases e1
  obtain ⟨b1, b2⟩ := List.pairwise_cons.mp b
  have na : ∀ p ∈ l, a ∉ fpC H p := fun p hp => (b1 p hp).no trivial (by simp [fpC])
  refine ⟨S, g, r, fun p hp => c p (List.mem_cons_of_mem _ hp), fun o' d' r' => ⟨S, g.mut hS h0, fun p hp => ?_, List.pairwise_cons.mpr ⟨fun p hp => ?_, Zwr b2 na⟩⟩⟩
  · rcases List.mem_cons.mp hp with rfl | hp
    · exact ⟨a, rfl, h0, hS, by rw [upd_same]; exact r'⟩
    · exact (c p (List.mem_cons_of_mem _ hp)).mut h0 (na p hp) (nb p hp)
  · have e2 : fpC (upd H a o') p = fpC H p := Zev fun b hb => upd_ne fun z => na p hp (z ▸ hb)
    have key : Dj (upd H a o') (.ow d', some (.ref a)) p := fun b hb hq => by
      obtain rfl : b = a := by simpa [fpC] using hb
      rw [e2] at hq
      exact na p hp hq
    exact ⟨fun _ _ => key, fun _ _ => key⟩
mutual
noncomputable def D.fz : D → D
  | .own d => d.fz
  | .tup ds => .tup (D.fzs ds)
  | .obj C ns ds => .obj C ns (D.fzs ds)
  | .lso ds => .lst (D.fzs ds)
  | .non => .non
  | .bl b => .bl b
  | .int i => .int i
  | .str s => .str s
  | .lst ds => .lst ds
  | .dk kds => .dk kds
  | .dt kds => .dt kds
  | .rf a => .rf a
  | .fn x => .fn x
noncomputable def D.fzs : List D → List D
  | [] => []
  | d :: ds => d.fz :: D.fzs ds
end
mutual
theorem Zwv {K : PySem.W.Frag} : ∀ {v : V} {d : D}, Rep K S v d → d.fz = d
  | _, _, .non => by simp [D.fz]
  | _, _, .bl => by simp [D.fz]
  | _, _, .int => by simp [D.fz]
  | _, _, .str => by simp [D.fz]
  | _, _, .tup _ r => by simp [D.fz, reps_fz r]
  | _, _, .lst _ _ => by simp [D.fz]
  | _, _, .dk _ _ _ => by simp [D.fz]
  | _, _, .dt _ _ _ => by simp [D.fz]
  | _, _, .obj _ _ _ r => by simp [D.fz, reps_fz r]
  | _, _, .rf => by simp [D.fz]
  | _, _, .fn _ => by simp [D.fz]
theorem reps_fz {K : PySem.W.Frag} : ∀ {vs : List V} {ds : List D}, Reps K S vs ds → D.fzs ds = ds
  | _, _, .nil => rfl
  | _, _, .cons r q => by simp [D.fzs, Zwv r, reps_fz q]
end
theorem Z2b {K : PySem.W.Frag} {o : Option HO} {d : D} (h : RC K S o d) : d.fz = d := by
  cases d with
  | lst ds => simp [D.fz]
  | dk ds => simp [D.fz]
  | dt ds => simp [D.fz]
  | _ => exact h.elim
mutual
theorem RCn.rep {K : PySem.W.Frag} (m : Same S S') : ∀ {o : Option HO} {d : D}, RCn K S H o d → (∀ c ∈ D.inn H d o, S' c = H c) → ∀ a : Addr, S' a = o → Rep K S' (.ref a) d.fz
  | o, d, .flat r, h, a, e => by
    rw [Z2b r]
    cases d with
    | lst ds => obtain ⟨vs, rfl, r⟩ := r; exact .lst (SqL.of e) (r.mono m)
    | dk kds => obtain ⟨vs, rfl, k, r⟩ := r; exact .dk (.inl e) k (r.mono m)
    | dt kds => obtain ⟨vs, rfl, k, r⟩ := r; exact .dt e k (r.mono m)
    | _ => exact r.elim
  | _, _, .tup _ r, h, a, e => by
    rw [D.fz]
    exact .tup e (Itns.rep m r (by simpa only [D.inn] using h))
  | _, _, .obj n k r, h, a, e => by
    rw [D.fz]
    exact .obj e n k (Itns.rep m r (by simpa only [D.inn] using h))
  | _, _, .lso r, h, a, e => by
    rw [D.fz]
    exact .lst (SqL.of e) (Itns.rep m r (by simpa only [D.inn] using h))
theorem Itn.rep {K : PySem.W.Frag} (m : Same S S') : ∀ {v : V} {d : D}, Itn K S H v d → (∀ c ∈ D.foot H d v, S' c = H c) → Rep K S' v d.fz
  | _, _, .sh r, h => by rw [Zwv r]; exact r.mono m
  | .ref b, .own d, .ow r, h => by
    rw [D.fz]
    exact RCn.rep m r (fun c hc => h c (by simp [D.foot, hc])) b (h b (by simp [D.foot]))
theorem Itns.rep {K : PySem.W.Frag} (m : Same S S') : ∀ {vs : List V} {ds : List D}, Itns K S H vs ds → (∀ c ∈ D.foots H ds vs, S' c = H c) → Reps K S' vs (D.fzs ds)
  | _, _, .nil, h => .nil
  | _, _, .cons r q, h => .cons (Itn.rep m r fun b hb => h b (by simp only [D.foots]; exact List.mem_append_left _ hb)) (Itns.rep m q fun b hb => h b (by simp only [D.foots]; exact List.mem_append_right _ hb))
end
theorem SC.frzS {p : Cell} (s : SC F S H p) (m : Same S S') (n : ∀ b ∈ fpC H p, S' b = none) : SC F S' H p := by
  by_cases ht : p.1.env
  · exact s.keep m (fun _ _ _ => rfl) (fun _ _ => rfl) n ht
  · obtain ⟨x, v⟩ := p
    cases x with
    | bt d => obtain ⟨a, e1, r⟩ := s; exact ⟨a, e1, r.mono m⟩
    | rt _ _ => exact s.elim
    | _ => exact (ht trivial).elim
noncomputable def addS (S H : Hp) (fp : List Addr) : Hp := open Classical in fun a => if a ∈ fp then H a else S a
theorem Zme {fp : List Addr} {a : Addr} (h : a ∈ fp) : addS S H fp a = H a := by simp [addS, h]
theorem Zi7 {fp : List Addr} {a : Addr} (h : a ∉ fp) : addS S H fp a = S a := by simp [addS, h]
theorem Zn2 {fp : List Addr} (g : Same S H) : Same S (addS S H fp) := fun a u e => by
  by_cases h : a ∈ fp
  · rw [Zme h]; exact g a u e
  · rw [Zi7 h]; exact e
theorem GS.add {fp : List Addr} (g : GS F S H) (h : ∀ b ∈ fp, F.H0 b = none) : GS F (addS S H fp) H := by
  refine ⟨g.s0.trans (Zn2 g.sh), fun b u e => ?_, g.h0, fun b e => ?_⟩
  · by_cases hb : b ∈ fp
    · rw [Zme hb] at e; exact e
    · rw [Zi7 hb] at e; exact g.sh b u e
  · by_cases hb : b ∈ fp
    · exact .inr (.inl (h b hb))
    · rw [Zi7 hb] at e ⊢; exact g.fr b e
theorem C.fzN {x : Slot} {d : D} {v : Option V} (h : C F ((x, v) :: l) H) (hx : x = .nd d ∨ ∃ a, x = .na a d) : C F ((.sh d.fz, v) :: l) H := by
  obtain ⟨S, g, c, b⟩ := h
  obtain ⟨b1, b2⟩ := List.pairwise_cons.mp b
  have s := c _ List.mem_cons_self
  have key : ∃ a, v = some (.ref a) ∧ RCn F.K S H (H a) d ∧ fpC H (x, v) = a :: D.inn H d (H a) ∧ (∀ b ∈ a :: D.inn H d (H a), F.H0 b = none ∧ S b = none) ∧ x.isOw := by
    rcases hx with rfl | ⟨a, rfl⟩
    · obtain ⟨a, rfl, r, _, q⟩ := s; exact ⟨a, rfl, r, rfl, q, trivial⟩
    · obtain ⟨rfl, r, _, q⟩ := s; exact ⟨a, rfl, r, rfl, q, trivial⟩
  obtain ⟨a, rfl, r, ef, q, ho⟩ := key
  have m : Same S (addS S H (a :: D.inn H d (H a))) := Zn2 g.sh
  refine ⟨addS S H (a :: D.inn H d (H a)), g.add fun b hb => (q b hb).1, fun p hp => ?_, Zbh (fun z => z) b2⟩
  rcases List.mem_cons.mp hp with rfl | hp
  · exact ⟨_, rfl, r.rep m (fun c hc => Zme (List.mem_cons_of_mem _ hc)) a (Zme List.mem_cons_self)⟩
  · have sp := c p (List.mem_cons_of_mem _ hp)
    refine sp.frzS m fun b hb => ?_
    have nb : b ∉ a :: D.inn H d (H a) := fun z => (b1 p hp).no ho (ef ▸ z) hb
    rw [Zi7 nb]
    exact (Zeo sp b hb).2.2
theorem C.seqL {x : Slot} {v : Option V} {ds : List D} (h : C F ((x, v) :: l) H) (hx : x.dat = some (.lst ds)) : ∃ a vs, v = some (.ref a) ∧ SqL F.K H a vs ∧ vs.length = ds.length ∧ ∃ S, GS F S H ∧ Reps F.K S vs ds ∧ (∀ p ∈ (x, v) :: l, SC F S H p) ∧ l.Pairwise (Zbw H) := by
  obtain ⟨S, g, c, b⟩ := h
  have b2 := (List.pairwise_cons.mp b).2
  have s := c _ List.mem_cons_self
  cases x with
  | un => cases hx
  | sh d =>
    cases hx
    obtain ⟨u, e, r⟩ := s
    cases r with
    | lst hq r => exact ⟨_, _, e, Zgl g.sh hq, r.len, S, g, r, c, b2⟩
  | ow d => cases hx; obtain ⟨a, e, _, _, vs, e2, r⟩ := s; exact ⟨a, vs, e, SqL.of e2, r.len, S, g, r, c, b2⟩
  | bo d => cases hx; obtain ⟨a, e, _, vs, e2, r⟩ := s; exact ⟨a, vs, e, SqL.of e2, r.len, S, g, r, c, b2⟩
  | bt d => cases hx; obtain ⟨a, e, vs, e2, r⟩ := s; exact ⟨a, vs, e, SqL.of e2, r.len, S, g, r, c, b2⟩
  | lk a d => cases hx; obtain ⟨e, _, _, vs, e2, r⟩ := s; exact ⟨a, vs, e, SqL.of e2, r.len, S, g, r, c, b2⟩
  | lo a _ d => cases hx
  | nd d => cases hx
  | nb d => cases hx
  | ln fp d => cases hx
  | xc _ => cases hx
  | xe _ _ _ => cases hx
  | na _ _ => cases hx
  | rt _ _ => cases hx
theorem C.seqT {x : Slot} {v : Option V} {ds : List D} (h : C F ((x, v) :: l) H) (hx : x.dat = some (.tup ds)) : ∃ a vs, v = some (.ref a) ∧ SqT F.K H a vs ∧ vs.length = ds.length ∧ ∃ S, GS F S H ∧ Reps F.K S vs ds ∧ (∀ p ∈ (x, v) :: l, SC F S H p) ∧ l.Pairwise (Zbw H) := by
  obtain ⟨S, g, c, b⟩ := h
  have b2 := (List.pairwise_cons.mp b).2
  have s := c _ List.mem_cons_self
  cases x with
  | un => cases hx
  | sh d =>
    cases hx
    obtain ⟨u, e, r⟩ := s
    cases r with
    | tup hq r => exact ⟨_, _, e, SqT.of (g.sh _ _ hq), r.len, S, g, r, c, b2⟩
  | ow d => cases hx; obtain ⟨a, e, _, _, r⟩ := s; exact r.elim
  | bo d => cases hx; obtain ⟨a, e, _, r⟩ := s; exact r.elim
  | bt d => cases hx; obtain ⟨a, e, r⟩ := s; exact r.elim
  | lk a d => cases hx; obtain ⟨e, _, _, r⟩ := s; exact r.elim
  | lo a _ d => cases hx
  | nd d => cases hx
  | nb d => cases hx
  | ln fp d => cases hx
  | xc _ => cases hx
  | xe _ _ _ => cases hx
  | na _ _ => cases hx
  | rt _ _ => cases hx
theorem C.shInt {v : Option V} {i : Int} (h : C F ((.sh (.int i), v) :: l) H) : v = some (.int i) := by
  obtain ⟨S, g, c, b⟩ := h
  obtain ⟨u, e, r⟩ := c _ List.mem_cons_self
  cases r; exact e
theorem C.shBl {v : Option V} {i : Bool} (h : C F ((.sh (.bl i), v) :: l) H) : v = some (.bl i) := by
  obtain ⟨S, g, c, b⟩ := h
  obtain ⟨u, e, r⟩ := c _ List.mem_cons_self
  cases r; exact e
theorem C.shStr {v : Option V} {i : Str} (h : C F ((.sh (.str i), v) :: l) H) : v = some (.str i) := by
  obtain ⟨S, g, c, b⟩ := h
  obtain ⟨u, e, r⟩ := c _ List.mem_cons_self
  cases r; exact e
end
section
variable {α β : Type}
theorem Zb4 : ∀ {xs : List α} {ys : List β} {i : Nat} {x : α}, xs.length = ys.length → xs[i]? = some x → ∃ y, ys[i]? = some y ∧ (xs.zip ys)[i]? = some (x, y)
  | [], _, _, _, _, h => by simp at h
  | a :: xs, [], _, _, h, _ => by simp at h
  | a :: xs, b :: ys, 0, x, _, h => by simp at h; subst h; exact ⟨b, rfl, rfl⟩
  | a :: xs, b :: ys, i + 1, x, hl, h => by
    obtain ⟨y, h1, h2⟩ := Zb4 (xs := xs) (ys := ys) (i := i) (x := x) (by simpa using hl) (by simpa using h)
    exact ⟨y, by simpa using h1, by simpa using h2⟩
theorem Zj8 : ∀ {xs : List α} {ys : List β} (i : Nat) (x : α) (y : β), (xs.set i x).zip (ys.set i y) = (xs.zip ys).set i (x, y)
  | [], _, i, x, y => by simp
  | a :: xs, [], i, x, y => by cases i <;> simp
  | a :: xs, b :: ys, 0, x, y => rfl
  | a :: xs, b :: ys, i + 1, x, y => by
    show (a, b) :: (xs.set i x).zip (ys.set i y) = (a, b) :: (xs.zip ys).set i (x, y)
    rw [Zj8]
theorem Zex : ∀ {l : List α} {i : Nat} {x : α}, l[i]? = some x → l.Perm (x :: l.eraseIdx i)
  | [], _, _, h => by simp at h
  | a :: l, 0, x, h => by simp at h; subst h; exact List.Perm.refl _
  | a :: l, i + 1, x, h => by
    have ih := Zex (l := l) (i := i) (x := x) (by simpa using h)
    exact (ih.cons a).trans (List.Perm.swap _ _ _)
theorem Zi2 : ∀ {l : List α} {i : Nat} {x y : α}, l[i]? = some x → (l.set i y).Perm (y :: l.eraseIdx i)
  | [], _, _, _, h => by simp at h
  | a :: l, 0, x, y, h => List.Perm.refl _
  | a :: l, i + 1, x, y, h => by
    have ih := Zi2 (l := l) (i := i) (x := x) (y := y) (by simpa using h)
    exact (ih.cons a).trans (List.Perm.swap _ _ _)
theorem Zbj {l : List α} {i : Nat} {x : α} (h : l[i]? = some x) : x ∈ l := List.mem_of_getElem? h
theorem Znl {l : List α} {i : Nat} {x : α} (h : x ∈ l.eraseIdx i) : x ∈ l := List.mem_of_mem_eraseIdx h
theorem Znx {xs : List α} {ys : List β} {p : α × β} (h : p ∈ xs.zip ys) : p.1 ∈ xs := (List.of_mem_zip h).1
end
end DL
set_option Elab.async false
set_option linter.all false
set_option maxRecDepth 100000
set_option maxHeartbeats 4000000
namespace DL
open PySem PySem.Spec PyProof.Rows L2
inductive R (α : Type) where
  | ok (x : α) | ex (c : Str) (fs : List (Str × D))
noncomputable abbrev En := List Slot
noncomputable abbrev WE := En → (R Slot → Prop) → Prop
noncomputable abbrev WA := En → (R (List Slot) → Prop) → Prop
noncomputable abbrev WI := En → (R (List D) → Prop) → Prop
noncomputable def rk {α β : Type} (k : α → Prop) (Q : R β → Prop) : R α → Prop
  | .ok x => k x
  | .ex c fs => Q (.ex c fs)
noncomputable def Mono {α : Type} (w : En → (R α → Prop) → Prop) : Prop := ∀ env Q Q', (∀ r, Q r → Q' r) → w env Q → w env Q'
noncomputable def XF (H : Hp) (d : Option Addr) (fs : List (Str × D)) : Prop :=
  (fs = [] ∧ d = none) ∨ ∃ (a : Addr) (ns : List (Str × Int)), fs = ns.map (fun p => (p.1, D.int p.2)) ∧ ns ≠ [] ∧ d = some a ∧ H a = some (.xd (ns.map fun p => (p.1, V.int p.2)))
structure CE (F : Fr) (l : List Cell) (env : En) (σ : L2.St) (H : Hp) : Prop where
  len : env.length = σ.length
  ok : ∀ x ∈ env, x.env
  c : C F (l ++ env.zip σ) H
noncomputable def LEp (F : Fr) (W : WX) (l : List Cell) (env : En) (σ : L2.St) (Q : VK) : R Slot → Prop
  | .ok x => ∀ v H', C F ((x, some v) :: (l ++ env.zip σ)) H' → Q v H'
  | .ex c fs => ∀ A d H', F.mg c = some (.ref A) → XF H' d fs → C F (l ++ env.zip σ) H' → W (.ref A) d σ H'
noncomputable def LTp (F : Fr) (W : WX) (l : List Cell) (env : En) (σ : L2.St) (Q : Bool → Hp → Prop) : R Slot → Prop
  | .ok x => ∃ b, x = .sh (.bl b) ∧ ∀ H', C F (l ++ env.zip σ) H' → Q b H'
  | .ex c fs => ∀ A d H', F.mg c = some (.ref A) → XF H' d fs → C F (l ++ env.zip σ) H' → W (.ref A) d σ H'
noncomputable def LAp (F : Fr) (W : WX) (l : List Cell) (env : En) (σ : L2.St) (Q : List V → Hp → Prop) : R (List Slot) → Prop
  | .ok xs => ∀ vs H', vs.length = xs.length → C F (xs.zip (vs.map some) ++ (l ++ env.zip σ)) H' → Q vs H'
  | .ex c fs => ∀ A d H', F.mg c = some (.ref A) → XF H' d fs → C F (l ++ env.zip σ) H' → W (.ref A) d σ H'
noncomputable def LE (F : Fr) (W : WX) (w : WE) : TE := fun σ H Q => ∃ l env, CE F l env σ H ∧ w env (LEp F W l env σ Q)
noncomputable def LT (F : Fr) (W : WX) (w : WE) : TT := fun σ H Q => ∃ l env, CE F l env σ H ∧ w env (LTp F W l env σ Q)
noncomputable def LA (F : Fr) (W : WX) (w : WA) : TA := fun σ H Q => ∃ l env, CE F l env σ H ∧ w env (LAp F W l env σ Q)
structure DE (X : Cx) (F : Fr) (W : WX) (e : Expr) (w : WE) : Prop where
  run : PE X e (LE F W w)
  mono : Mono w
structure DT (X : Cx) (F : Fr) (W : WX) (e : Expr) (w : WE) : Prop where
  run : PT X e (LT F W w)
  mono : Mono w
structure DW (X : Cx) (F : Fr) (W : WX) (e : Expr) (w : WE) : Prop where
  run : PW X e (LT F W w)
  mono : Mono w
structure DA (X : Cx) (F : Fr) (W : WX) (es : List Expr) (w : WA) : Prop where
  run : PA X es (LA F W w)
  mono : Mono w
theorem Zbr {X : Cx} {e : Expr} {t t' : TE} (h : PE X e t) (q : ∀ σ H Q, t' σ H Q → t σ H Q) : PE X e t' := ⟨fun pins s σ H Q I z => h.run pins s σ H Q I (q _ _ _ z)⟩
theorem Zkt {X : Cx} {e : Expr} {t t' : TT} (h : PT X e t) (q : ∀ σ H Q, t' σ H Q → t σ H Q) : PT X e t' := ⟨fun pins s σ H Q I z => h.run pins s σ H Q I (q _ _ _ z)⟩
theorem Zxi {X : Cx} {e : Expr} {t t' : TT} (h : PW X e t) (q : ∀ σ H Q, t' σ H Q → t σ H Q) : PW X e t' := ⟨fun wh pins s σ H Q I z => h.run wh pins s σ H Q I (q _ _ _ z)⟩
theorem Zw8 {X : Cx} {es : List Expr} {t t' : TA} (h : PA X es t) (q : ∀ σ H Q, t' σ H Q → t σ H Q) : PA X es t' := ⟨fun pos pins s σ H Q I z => h.run pos pins s σ H Q I (q _ _ _ z)⟩
theorem Zf6 {X : Cx} {st : Stmt} {t t' : TS} (h : PS X st t) (q : ∀ D σ H, t' D σ H → t D σ H) : PS X st t' := ⟨fun pins s σ H D I z => h.run pins s σ H D I (q _ _ _ z)⟩
theorem Zoz {X : Cx} {st : List Stmt} {t t' : TS} (h : PSs X st t) (q : ∀ D σ H, t' D σ H → t D σ H) : PSs X st t' := ⟨fun pins s σ H D I z => h.run pins s σ H D I (q _ _ _ z)⟩
section
variable {X : Cx} {F : Fr} {W : WX} {a b c e : Expr} {es : List Expr} {wa wb wc w : WE} {wA : WA} {pos : Pos}
theorem CE.to {l : List Cell} {env : En} {σ : L2.St} {H H' : Hp} {l' : List Cell} (k : CE F l env σ H) (h : C F (l' ++ (l ++ env.zip σ)) H') : CE F (l' ++ l) env σ H' := ⟨k.len, k.ok, by rw [List.append_assoc]; exact h⟩
theorem CE.to1 {l : List Cell} {env : En} {σ : L2.St} {H H' : Hp} {p : Cell} (k : CE F l env σ H) (h : C F (p :: (l ++ env.zip σ)) H') : CE F (p :: l) env σ H' := ⟨k.len, k.ok, h⟩
theorem CE.at {l : List Cell} {env : En} {σ : L2.St} {H H' : Hp} (k : CE F l env σ H) (h : C F (l ++ env.zip σ) H') : CE F l env σ H' := ⟨k.len, k.ok, h⟩
theorem Zbe {β : Type} {w : WE} {l : List Cell} {env : En} {σ : L2.St} {k : Slot → Prop} {Q : R β → Prop} {Q' : VK} (m : Mono w) (h : w env (rk k Q))
    (h1 : ∀ x, k x → ∀ v H', C F ((x, some v) :: (l ++ env.zip σ)) H' → Q' v H') (h2 : ∀ c fs, Q (.ex c fs) → LEp F W l env σ Q' (.ex c fs)) : w env (LEp F W l env σ Q') :=
  m env _ _ (fun r q => match r, q with
    | .ok x, q => h1 x q
    | .ex c fs, q => h2 c fs q) h
theorem Za3 {α β : Type} {w : En → (R α → Prop) → Prop} (m : Mono w) {k k' : α → Prop} {Q Q' : R β → Prop} {env : En} (hk : ∀ x, k x → k' x) (hq : ∀ r, Q r → Q' r) (h : w env (rk k Q)) : w env (rk k' Q') :=
  m env _ _ (fun r q => match r, q with
    | .ok x, q => hk x q
    | .ex c fs, q => hq _ q) h
noncomputable def wVar (i : Nat) : WE := fun env Q => match env[i]? with
  | some (.sh d) => Q (.ok (.sh d))
  | some (.bo d) => Q (.ok (.bo d))
  | some (.ow d) => Q (.ok (.bt d))
  | some (.lk a d) => Q (.ok (.lk a d))
  | some (.lo a u d) => Q (.ok (.lo a u d))
  | some (.nb d) => Q (.ok (.nb d))
  | some (.ln fp d) => Q (.ok (.ln fp d))
  | some (.na _ d) => Q (.ok (Zri d))
  | some (.nd d) => Q (.ok (Zri d))
  | _ => False
theorem Zac (i : Nat) {x : Str} (hN : X.N[i]? = some x := by rfl) (hv : Vis X.env.scope x := by first | exact Or.inl rfl | exact Or.inr (Or.inl rfl) | exact Or.inr (Or.inr rfl)) (hd : (x == ("__debug__" : Str)) = false := by decide)
    (hcd : (x == ("__classdict__" : Str)) = false := by decide) : DE X F W (.Name x pos) (wVar i) := by
  refine ⟨Zbr (pe_var hN hv hd hcd) fun σ H Q h => ?_, fun env Q Q' m h => ?_⟩
  · obtain ⟨l, env, k, h⟩ := h
    unfold wVar at h
    split at h
    · rename_i d e
      obtain ⟨v, e1, e2⟩ := Zb4 k.len e
      have hm : (Slot.sh d, v) ∈ l ++ env.zip σ := List.mem_append_right _ (Zbj e2)
      have c1 := k.c.dup hm
      obtain ⟨u, rfl⟩ := c1.val
      exact ⟨u, e1, h u H c1⟩
    · rename_i d e
      obtain ⟨v, e1, e2⟩ := Zb4 k.len e
      have hm : (Slot.bo d, v) ∈ l ++ env.zip σ := List.mem_append_right _ (Zbj e2)
      have c1 := k.c.dupB hm
      obtain ⟨S, g, cc, _⟩ := id c1
      obtain ⟨u, e3, _⟩ := cc _ List.mem_cons_self
      subst e3
      exact ⟨_, e1, h _ H c1⟩
    · rename_i d e
      obtain ⟨v, e1, e2⟩ := Zb4 k.len e
      have hm : (Slot.ow d, v) ∈ l ++ env.zip σ := List.mem_append_right _ (Zbj e2)
      have c1 := k.c.look hm
      obtain ⟨S, g, cc, _⟩ := id c1
      obtain ⟨u, e3, _⟩ := cc _ List.mem_cons_self
      subst e3
      exact ⟨_, e1, h _ H c1⟩
    · rename_i a d e
      obtain ⟨v, e1, e2⟩ := Zb4 k.len e
      have hm : (Slot.lk a d, v) ∈ l ++ env.zip σ := List.mem_append_right _ (Zbj e2)
      have c1 := k.c.dupL hm
      obtain ⟨S, g, cc, _⟩ := id c1
      obtain ⟨e3, _⟩ := cc _ List.mem_cons_self
      subst e3
      exact ⟨_, e1, h _ H c1⟩
    · rename_i a u d e
      obtain ⟨v, e1, e2⟩ := Zb4 k.len e
      have hm : (Slot.lo a u d, v) ∈ l ++ env.zip σ := List.mem_append_right _ (Zbj e2)
      have c1 := k.c.dupK hm
      obtain ⟨S, g, cc, _⟩ := id c1
      obtain ⟨e3, _⟩ := cc _ List.mem_cons_self
      subst e3
      exact ⟨_, e1, h _ H c1⟩
    · rename_i d e
      obtain ⟨v, e1, e2⟩ := Zb4 k.len e
      have hm : (Slot.nb d, v) ∈ l ++ env.zip σ := List.mem_append_right _ (Zbj e2)
      have c1 := k.c.dupN hm
      obtain ⟨S, g, cc, _⟩ := id c1
      obtain ⟨u, e3, _⟩ := cc _ List.mem_cons_self
      subst e3
      exact ⟨_, e1, h _ H c1⟩
    · rename_i fp d e
      obtain ⟨v, e1, e2⟩ := Zb4 k.len e
      have hm : (Slot.ln fp d, v) ∈ l ++ env.zip σ := List.mem_append_right _ (Zbj e2)
      have c1 := k.c.dupO hm fun z => z
      obtain ⟨S, g, cc, _⟩ := id c1
      obtain ⟨u, e3, _⟩ := cc _ List.mem_cons_self
      subst e3
      exact ⟨_, e1, h _ H c1⟩
    · rename_i a d e
      obtain ⟨v, e1, e2⟩ := Zb4 k.len e
      have hm : (Slot.na a d, v) ∈ l ++ env.zip σ := List.mem_append_right _ (Zbj e2)
      have c1 := k.c.lookA hm
      obtain ⟨S, g, cc, _⟩ := id c1
      obtain ⟨e3, _⟩ := cc _ (List.mem_cons_of_mem _ hm)
      subst e3
      exact ⟨_, e1, h _ H c1⟩
    · rename_i d e
      obtain ⟨v, e1, e2⟩ := Zb4 k.len e
      have hm : (Slot.nd d, v) ∈ l ++ env.zip σ := List.mem_append_right _ (Zbj e2)
      have c1 := k.c.lookD hm
      obtain ⟨S, g, cc, _⟩ := id c1
      obtain ⟨u, e3, _⟩ := cc _ (List.mem_cons_of_mem _ hm)
      subst e3
      exact ⟨_, e1, h _ H c1⟩
    · exact h.elim
  · unfold wVar at h ⊢
    split at h
    · exact m _ h
    · exact m _ h
    · exact m _ h
    · exact m _ h
    · exact m _ h
    · exact m _ h
    · exact m _ h
    · exact m _ h
    · exact m _ h
    · exact h.elim
noncomputable def wInt (i : Int) : WE := fun _ Q => Q (.ok (.sh (.int i)))
noncomputable def wBl (b : Bool) : WE := fun _ Q => Q (.ok (.sh (.bl b)))
noncomputable def wStr (s : Str) : WE := fun _ Q => Q (.ok (.sh (.str s)))
noncomputable def wNon : WE := fun _ Q => Q (.ok (.sh .non))
theorem Zat {i : Int} {j : Nat} : DE X F W (.Constant (.int i) j pos) (wInt i) := ⟨Zbr pe_int fun σ H Q ⟨l, env, k, h⟩ => h _ H (k.c.int i), fun _ _ _ m h => m _ h⟩
theorem Zlz {i : Bool} {j : Nat} : DE X F W (.Constant (.bool i) j pos) (wBl i) := ⟨Zbr pe_bl fun σ H Q ⟨l, env, k, h⟩ => h _ H (k.c.bl i), fun _ _ _ m h => m _ h⟩
theorem Zar {i : Str} {j : Nat} : DE X F W (.Constant (.str i) j pos) (wStr i) := ⟨Zbr pe_str fun σ H Q ⟨l, env, k, h⟩ => h _ H (k.c.str i), fun _ _ _ m h => m _ h⟩
theorem Zhs {j : Nat} : DE X F W (.Constant .none j pos) wNon := ⟨Zbr pe_non fun σ H Q ⟨l, env, k, h⟩ => h _ H k.c.non, fun _ _ _ m h => m _ h⟩
noncomputable abbrev O2 := Slot → Slot → (Slot → Prop) → Prop
noncomputable abbrev O1 := Slot → (Slot → Prop) → Prop
noncomputable def Ziy (o : O2) : Prop := ∀ x y k k', (∀ z, k z → k' z) → o x y k → o x y k'
noncomputable def Ze7 (o : O1) : Prop := ∀ x k k', (∀ z, k z → k' z) → o x k → o x k'
noncomputable def wOp (o : O2) (wa wb : WE) : WE := fun env Q => wa env (rk (fun x => wb env (rk (fun y => o x y fun z => Q (.ok z)) Q)) Q)
noncomputable def wUn (o : O1) (wa : WE) : WE := fun env Q => wa env (rk (fun x => o x fun z => Q (.ok z)) Q)
noncomputable def Ziz (F : Fr) (r : R2) (o : O2) : Prop := ∀ (l : List Cell) (H : Hp) (x y : Slot) (vx vy : V) (ks : Slot → Prop) (Q : VK),
  C F ((y, some vy) :: (x, some vx) :: l) H → o x y ks → (∀ z v H', ks z → C F ((z, some v) :: l) H' → Q v H') → r vx vy H Q
noncomputable def Zsv (F : Fr) (r : V → Hp → VK → Prop) (o : O1) : Prop := ∀ (l : List Cell) (H : Hp) (x : Slot) (vx : V) (ks : Slot → Prop) (Q : VK),
  C F ((x, some vx) :: l) H → o x ks → (∀ z v H', ks z → C F ((z, some v) :: l) H' → Q v H') → r vx H Q
theorem Zah {o : O2} (ha : Mono wa) (hb : Mono wb) (ho : Ziy o) : Mono (wOp o wa wb) := fun env Q Q' m h =>
  Za3 ha (fun x hx => Za3 hb (fun y hy => ho x y _ _ (fun z hz => m _ hz) hy) m hx) m h
theorem Zaq {o : O1} (ha : Mono wa) (ho : Ze7 o) : Mono (wUn o wa) := fun env Q Q' m h => Za3 ha (fun x hx => ho x _ _ (fun z hz => m _ hz) hx) m h
theorem Zv7 {r : R2} {o : O2} (sn : Ziz F r o) (ha : DE X F W a wa) (hb : DE X F W b wb) {σ : L2.St} {H : Hp} {Q : VK} (h : LE F W (wOp o wa wb) σ H Q) : tOp r (LE F W wa) (LE F W wb) σ H Q := by
  obtain ⟨l, env, k, h⟩ := h
  refine ⟨l, env, k, Zbe ha.mono h (fun x hx v H1 c1 => ?_) fun c fs q => q⟩
  refine ⟨(x, some v) :: l, env, k.to1 c1, Zbe hb.mono hx (fun y hy u H2 c2 => ?_) fun c fs q => ?_⟩
  · exact sn _ H2 x y v u _ Q c2 hy fun z vz H' hz cz => hz vz H' cz
  · exact fun A d H' hA hx c3 => q A d H' hA hx c3.tail
theorem Zyg {r : V → Hp → VK → Prop} {o : O1} (sn : Zsv F r o) (ha : DE X F W a wa) {σ : L2.St} {H : Hp} {Q : VK} (h : LE F W (wUn o wa) σ H Q) : tUn r (LE F W wa) σ H Q := by
  obtain ⟨l, env, k, h⟩ := h
  refine ⟨l, env, k, Zbe ha.mono h (fun x hx v H1 c1 => ?_) fun c fs q => q⟩
  exact sn _ H1 x v _ Q c1 hx fun z vz H' hz cz => hz vz H' cz
theorem Zor {op : Operator} {r : R2} {o : O2} (ho : OpR X (binaryOp op) r) (sn : Ziz F r o) (om : Ziy o) (ha : DE X F W a wa) (hb : DE X F W b wb) : DE X F W (.BinOp a op b pos) (wOp o wa wb) :=
  ⟨Zbr (pe_op ho ha.run hb.run) fun _ _ _ h => Zv7 sn ha hb h, Zah ha.mono hb.mono om⟩
theorem Zw4 {op : CmpOp} {r : R2} {o : O2} (ho : OpR X (compareOp op) r) (sn : Ziz F r o) (om : Ziy o) (ha : DE X F W a wa) (hb : DE X F W b wb) (hm : behindInMarks op b = false) : DE X F W (.Compare a [op] [b] pos) (wOp o wa wb) :=
  ⟨Zbr (pe_cmpR ho ha.run hb.run hm) fun _ _ _ h => Zv7 sn ha hb h, Zah ha.mono hb.mono om⟩
theorem Z1s {op : UnaryOp} {r : V → Hp → VK → Prop} {o : O1} (ho : UnR X (unaryOp op) r) (sn : Zsv F r o) (om : Ze7 o) (ha : DE X F W a wa) : DE X F W (.UnaryOp op a pos) (wUn o wa) :=
  ⟨Zbr (pe_un ho ha.run) fun _ _ _ h => Zyg sn ha h, Zaq ha.mono om⟩
noncomputable def oI (c : Int → Int → Prop) (g : Int → Int → D) : O2 := fun x y k => match x, y with
  | .sh (.int i), .sh (.int j) => c i j ∧ k (.sh (g i j))
  | _, _ => False
noncomputable def oI0 (g : Int → Int → D) : O2 := fun x y k => match x, y with
  | .sh (.int i), .sh (.int j) => k (.sh (g i j))
  | _, _ => False
theorem Zbg {c : Int → Int → Prop} {g : Int → Int → D} : Ziy (oI c g) := fun x y k k' m h => by
  unfold oI at h ⊢
  split at h
  · exact ⟨h.1, m _ h.2⟩
  · exact h.elim
theorem Zbb {g : Int → Int → D} : Ziy (oI0 g) := fun x y k k' m h => by
  unfold oI0 at h ⊢
  split at h
  · exact m _ h
  · exact h.elim
theorem Zp0 {c : Int → Int → Prop} {g : Int → Int → Int} : Ziz F (rI c fun i j => .int (g i j)) (oI c fun i j => .int (g i j)) := fun l H x y vx vy ks Q hc ho hq => by
  unfold oI at ho
  split at ho
  · rename_i i j
    have e1 := hc.shInt
    have e2 := hc.tail.shInt
    cases e1; cases e2
    exact ⟨i, j, rfl, rfl, ho.1, hq _ _ H ho.2 (hc.tail.tail.int _)⟩
  · exact ho.elim
theorem Zyn {g : Int → Int → Int} : Ziz F (rI0 fun i j => .int (g i j)) (oI0 fun i j => .int (g i j)) := fun l H x y vx vy ks Q hc ho hq => by
  unfold oI0 at ho
  split at ho
  · rename_i i j
    have e1 := hc.shInt
    have e2 := hc.tail.shInt
    cases e1; cases e2
    exact ⟨i, j, rfl, rfl, hq _ _ H ho (hc.tail.tail.int _)⟩
  · exact ho.elim
theorem Zr4 {g : Int → Int → Bool} : Ziz F (rI0 fun i j => .bl (g i j)) (oI0 fun i j => .bl (g i j)) := fun l H x y vx vy ks Q hc ho hq => by
  unfold oI0 at ho
  split at ho
  · rename_i i j
    have e1 := hc.shInt
    have e2 := hc.tail.shInt
    cases e1; cases e2
    exact ⟨i, j, rfl, rfl, hq _ _ H ho (hc.tail.tail.bl _)⟩
  · exact ho.elim
noncomputable def oAdd : O2 := oI0 fun i j => .int (i + j)
noncomputable def oMul : O2 := oI CMul fun i j => .int (i * j)
noncomputable def oMod : O2 := oI (fun _ j => 0 < j) fun i j => .int (i % j)
noncomputable def oDiv : O2 := oI CDivW fun i j => .int (i / j)
noncomputable def oPow : O2 := oI CPow fun i j => .int (i ^ j.toNat)
theorem Zku (ha : DE X F W a wa) (hb : DE X F W b wb) : DE X F W (.BinOp a .Mult b pos) (wOp oMul wa wb) := Zor op_mul Zp0 Zbg ha hb
theorem Zhm (ha : DE X F W a wa) (hb : DE X F W b wb) : DE X F W (.BinOp a .Mod b pos) (wOp oMod wa wb) := Zor op_mod Zp0 Zbg ha hb
theorem Z0h (ha : DE X F W a wa) (hb : DE X F W b wb) : DE X F W (.BinOp a .FloorDiv b pos) (wOp oDiv wa wb) := Zor op_fdivW Zp0 Zbg ha hb
theorem Zwz (ha : DE X F W a wa) (hb : DE X F W b wb) : DE X F W (.BinOp a .Pow b pos) (wOp oPow wa wb) := Zor op_pow Zp0 Zbg ha hb
theorem Zfx (ha : DE X F W a wa) (hb : DE X F W b wb) : DE X F W (.BinOp a .Add b pos) (wOp oAdd wa wb) := Zor op_add Zyn Zbb ha hb
noncomputable def oLt : O2 := oI0 fun i j => .bl (decide (i < j))
noncomputable def oGt : O2 := oI0 fun i j => .bl (decide (j < i))
noncomputable def oGe : O2 := oI0 fun i j => .bl (decide (j ≤ i))
noncomputable def oNeg : O1 := fun x k => match x with
  | .sh (.int i) => k (.sh (.int (-i)))
  | _ => False
theorem Zzz (ha : DE X F W a wa) : DE X F W (.UnaryOp .USub a pos) (wUn oNeg wa) := Z1s un_neg (fun l H x vx ks Q hc ho hq => by
  unfold oNeg at ho
  split at ho
  · rename_i i
    have e1 := hc.shInt
    cases e1
    exact ⟨i, rfl, hq _ _ H ho (hc.tail.int _)⟩
  · exact ho.elim) (fun x k k' m h => by
  unfold oNeg at h ⊢
  split at h
  · exact m _ h
  · exact h.elim) ha
noncomputable def D.isNon : D → Bool
  | .non => true
  | _ => false
noncomputable def oIsN (neg : Bool) : O1 := fun x k => match x.dat with
  | some d => k (.sh (.bl (neg ^^ d.isNon)))
  | none => False
theorem Zd9 {neg : Bool} : Ze7 (oIsN neg) := fun x k k' m h => by
  unfold oIsN at h ⊢
  split at h
  · exact m _ h
  · exact h.elim
theorem Ztc {K : PySem.W.Frag} {S : Hp} {v : V} {d : D} (r : Rep K S v d) : decide (v = .non) = d.isNon := by cases r <;> rfl
theorem C.isNon {l : List Cell} {H : Hp} {x : Slot} {v : V} {d : D} (h : C F ((x, some v) :: l) H) (hx : x.dat = some d) : decide (v = .non) = d.isNon := by
  obtain ⟨S, g, cc, _⟩ := h
  have s := cc _ List.mem_cons_self
  cases x with
  | un => cases hx
  | sh d' => cases hx; obtain ⟨u, e, r⟩ := s; cases e; exact Ztc r
  | ow d' => cases hx; obtain ⟨a, e, _, _, r⟩ := s; cases e; cases d <;> first | rfl | exact r.elim
  | bo d' => cases hx; obtain ⟨a, e, _, r⟩ := s; cases e; cases d <;> first | rfl | exact r.elim
  | bt d' => cases hx; obtain ⟨a, e, r⟩ := s; cases e; cases d <;> first | rfl | exact r.elim
  | lk a d' => cases hx; obtain ⟨e, _, _, r⟩ := s; cases e; cases d <;> first | rfl | exact r.elim
  | lo a d' => cases hx; obtain ⟨e, _, _, r⟩ := s; cases e; rfl
  | nd d' => cases hx
  | nb d' => cases hx
  | ln _ _ => cases hx
  | xc _ => cases hx
  | xe _ _ _ => cases hx
  | na _ _ => cases hx
  | rt _ _ => cases hx
theorem Zxg {neg : Bool} {r : R2} (hr : ∀ x H Q, Q (.bl (neg ^^ decide (x = .non))) H → r x .non H Q) (ha : DE X F W a wa) {σ : L2.St} {H : Hp} {Q : VK} (h : LE F W (wUn (oIsN neg) wa) σ H Q) : tOp r (LE F W wa) (tC .non) σ H Q := by
  obtain ⟨l, env, k, h⟩ := h
  refine ⟨l, env, k, Zbe ha.mono h (fun x hx v H1 c1 => ?_) fun c fs q => q⟩
  unfold oIsN at hx
  split at hx
  · rename_i d e
    refine hr v H1 Q ?_
    rw [c1.isNon e]
    exact hx _ H1 (c1.tail.bl _)
  · exact hx.elim
theorem Zz9 {j : Nat} {p : Pos} (ha : DE X F W a wa) : DE X F W (.Compare a [.Is] [.Constant .none j p] pos) (wUn (oIsN false) wa) :=
  ⟨Zbr (pe_cmpR op_isN ha.run pe_non (nomark _)) fun _ _ _ h => Zxg (neg := false) (fun x H Q q => ⟨rfl, by rw [Bool.false_xor] at q; exact q⟩) ha h, Zaq ha.mono Zd9⟩
noncomputable def asB (k : Bool → Prop) : Slot → Prop
  | .sh (.bl b) => k b
  | _ => False
noncomputable def wAnd (wa wb : WE) : WE := fun env Q => wa env (rk (asB fun b => match b with | true => wb env Q | false => Q (.ok (.sh (.bl false)))) Q)
noncomputable def wOr (wa wb : WE) : WE := fun env Q => wa env (rk (asB fun b => match b with | true => Q (.ok (.sh (.bl true))) | false => wb env Q) Q)
noncomputable def wNot (wa : WE) : WE := fun env Q => wa env (rk (asB fun b => Q (.ok (.sh (.bl !b)))) Q)
theorem Zhj {k k' : Bool → Prop} (m : ∀ b, k b → k' b) {x : Slot} (h : asB k x) : asB k' x := by
  unfold asB at h ⊢
  split at h
  · exact m _ h
  · exact h.elim
theorem Zda (ha : Mono wa) (hb : Mono wb) : Mono (wAnd wa wb) := fun env Q Q' m h => Za3 ha (fun x hx => Zhj (fun b q => match b, q with
  | true, q => hb env _ _ m q
  | false, q => m _ q) hx) m h
theorem Zfd (ha : Mono wa) (hb : Mono wb) : Mono (wOr wa wb) := fun env Q Q' m h => Za3 ha (fun x hx => Zhj (fun b q => match b, q with
  | true, q => m _ q
  | false, q => hb env _ _ m q) hx) m h
theorem Zfb (ha : Mono wa) : Mono (wNot wa) := fun env Q Q' m h => Za3 ha (fun x hx => Zhj (fun b q => m _ q) hx) m h
theorem Zl6 {β : Type} {w : WE} {l : List Cell} {env : En} {σ : L2.St} {k : Bool → Prop} {Q : R β → Prop} {Q' : Bool → Hp → Prop} (m : Mono w) (h : w env (rk (asB k) Q))
    (h1 : ∀ b, k b → ∀ H', C F (l ++ env.zip σ) H' → Q' b H') (h2 : ∀ c fs, Q (.ex c fs) → LTp F W l env σ Q' (.ex c fs)) : w env (LTp F W l env σ Q') :=
  m env _ _ (fun r q => match r, q with
    | .ok x, q => by
      show ∃ b, x = .sh (.bl b) ∧ _
      have q : asB k x := q
      unfold asB at q
      split at q
      · exact ⟨_, rfl, fun H' c => h1 _ q H' c⟩
      · exact q.elim
    | .ex c fs, q => h2 c fs q) h
theorem Zpz (h : DE X F W e w) (he : ∀ whole, isTrue e X.env whole = (do let v ← whole; standAt e.pos; holding [v] (truthy v)) := by intro _; rfl) : DT X F W e w := by
  refine ⟨Zkt (pt_val h.run he) fun σ H Q ⟨l, env, k, q⟩ => ⟨l, env, k, h.mono env _ _ (fun r z => ?_) q⟩, h.mono⟩
  cases r with
  | ok x =>
    obtain ⟨b, rfl, z⟩ := z
    exact fun v H' c => by
      have e := c.shBl
      cases e
      exact ⟨b, rfl, z H' c.tail⟩
  | ex c fs => exact z
theorem Zqc (h : DT X F W a wa) : DT X F W (.UnaryOp .Not a pos) (wNot wa) := ⟨Zkt (pt_not h.run) fun σ H Q ⟨l, env, k, q⟩ => ⟨l, env, k, Zl6 h.mono q (fun b hb H' c => by
    obtain ⟨b', e, z⟩ := hb
    cases e
    exact z H' c) fun c fs z => z⟩, Zfb h.mono⟩
theorem Zj9 (h : DT X F W a wa) : DW X F W (.BoolOp .And [a] pos) wa := ⟨pw_and1 h.run, h.mono⟩
theorem Znh (h : DT X F W a wa) : DW X F W (.BoolOp .Or [a] pos) wa := ⟨pw_or1 h.run, h.mono⟩
theorem Zm0 (h : DT X F W a wa) (h2 : DW X F W (.BoolOp .And (b :: es) pos) wb) : DW X F W (.BoolOp .And (a :: b :: es) pos) (wAnd wa wb) :=
  ⟨Zxi (pw_and h.run h2.run) fun σ H Q ⟨l, env, k, q⟩ => ⟨l, env, k, Zl6 h.mono q (fun b hb H' c => by
    cases b with
    | true => exact ⟨l, env, k.at c, hb⟩
    | false =>
      obtain ⟨b', e, z⟩ := hb
      cases e
      exact z H' c) fun c fs z => z⟩, Zda h.mono h2.mono⟩
theorem Zq9 (h : DT X F W a wa) (h2 : DW X F W (.BoolOp .Or (b :: es) pos) wb) : DW X F W (.BoolOp .Or (a :: b :: es) pos) (wOr wa wb) :=
  ⟨Zxi (pw_or h.run h2.run) fun σ H Q ⟨l, env, k, q⟩ => ⟨l, env, k, Zl6 h.mono q (fun b hb H' c => by
    cases b with
    | false => exact ⟨l, env, k.at c, hb⟩
    | true =>
      obtain ⟨b', e, z⟩ := hb
      cases e
      exact z H' c) fun c fs z => z⟩, Zfd h.mono h2.mono⟩
theorem Zes (h : DW X F W e w) : DT X F W e w := ⟨h.run.pt, h.mono⟩
theorem Ztf {op : BoolOp} (h : DE X F W a wa) : DE X F W (.BoolOp op [a] pos) wa := ⟨pe_one h.run, h.mono⟩
theorem Zt0 (h : DE X F W a wa) (h2 : DE X F W (.BoolOp .And (b :: es) pos) wb) : DE X F W (.BoolOp .And (a :: b :: es) pos) (wAnd wa wb) :=
  ⟨Zbr (pe_and h.run h2.run) fun σ H Q ⟨l, env, k, q⟩ => ⟨l, env, k, Zbe h.mono q (fun x hx v H' c => by
    unfold asB at hx
    split at hx
    · rename_i b
      have e := c.shBl
      cases e
      refine ⟨b, rfl, ?_⟩
      cases b with
      | true => exact ⟨l, env, k.at c.tail, hx⟩
      | false => exact hx _ H' c
    · exact hx.elim) fun c fs z => z⟩, Zda h.mono h2.mono⟩
theorem Z09 (h : DE X F W a wa) (h2 : DE X F W (.BoolOp .Or (b :: es) pos) wb) : DE X F W (.BoolOp .Or (a :: b :: es) pos) (wOr wa wb) :=
  ⟨Zbr (pe_or h.run h2.run) fun σ H Q ⟨l, env, k, q⟩ => ⟨l, env, k, Zbe h.mono q (fun x hx v H' c => by
    unfold asB at hx
    split at hx
    · rename_i b
      have e := c.shBl
      cases e
      refine ⟨b, rfl, ?_⟩
      cases b with
      | false => exact ⟨l, env, k.at c.tail, hx⟩
      | true => exact hx _ H' c
    · exact hx.elim) fun c fs z => z⟩, Zfd h.mono h2.mono⟩
theorem Z01 (h : DE X F W a wa) : DE X F W (.UnaryOp .Not a pos) (wNot wa) := ⟨Zbr (pe_not h.run) fun σ H Q ⟨l, env, k, q⟩ => ⟨l, env, k, Zbe h.mono q (fun x hx v H' c => by
    unfold asB at hx
    split at hx
    · rename_i b
      have e := c.shBl
      cases e
      exact ⟨b, rfl, hx _ H' (c.tail.bl _)⟩
    · exact hx.elim) fun c fs z => z⟩, Zfb h.mono⟩
noncomputable def aNil : WA := fun _ Q => Q (.ok [])
noncomputable def Zak (wa : WE) (wr : WA) : WA := fun env Q => wa env (rk (fun x => wr env (rk (fun xs => Q (.ok (x :: xs))) Q)) Q)
theorem Za5 : DA X F W [] aNil := ⟨Zw8 pa_nil fun σ H Q ⟨l, env, k, q⟩ => q [] H rfl k.c, fun _ _ _ m h => m _ h⟩
theorem Zad (h : DE X F W e w) (h2 : DA X F W es wA) (hs : starEach (e :: es) X.env = (false, eval e X.env) :: starEach es X.env := by rfl) : DA X F W (e :: es) (Zak w wA) := by
  refine ⟨Zw8 (pa_cons h.run h2.run hs) fun σ H Q ⟨l, env, k, q⟩ => ⟨l, env, k, Zbe h.mono q (fun x hx v H1 c1 => ?_) fun c fs z => z⟩, fun env Q Q' m q => Za3 h.mono (fun x hx => Za3 h2.mono (fun xs hxs => m _ hxs) m hx) m q⟩
  refine ⟨(x, some v) :: l, env, k.to1 c1, h2.mono env _ _ (fun r z => ?_) hx⟩
  cases r with
  | ok xs =>
    intro vs H' hl c2
    exact z (v :: vs) H' (by simp [hl]) (C.front c2)
  | ex c fs => exact fun A d H' hA hx c3 => z A d H' hA hx c3.tail
noncomputable def Slot.stab : Slot → Option D
  | .sh d => some d
  | .ow d => some d
  | .nd d => some d.fz
  | _ => none
noncomputable def stabs : List Slot → Option (List D)
  | [] => some []
  | x :: xs => match x.stab, stabs xs with
    | some d, some ds => some (d :: ds)
    | _, _ => none
theorem Zkf : ∀ {xs : List Slot} {ds : List D}, stabs xs = some ds → ds.length = xs.length
  | [], ds, h => by cases h; rfl
  | x :: xs, ds, h => by
    unfold stabs at h
    split at h
    · rename_i d ds' e1 e2
      cases h
      simp [Zkf e2]
    · cases h
theorem C.stab {x : Slot} {d : D} {v : Option V} {l : List Cell} {H : Hp} (h : C F ((x, v) :: l) H) (hx : x.stab = some d) : C F ((.sh d, v) :: l) H := by
  cases x with
  | sh d' => cases hx; exact h
  | ow d' => cases hx; exact h.frz
  | un => cases hx
  | bo d' => cases hx
  | bt d' => cases hx
  | lk _ d' => cases hx
  | lo _ _ _ => cases hx
  | nd _ => cases hx; exact h.fzN (.inl rfl)
  | nb _ => cases hx
  | ln _ _ => cases hx
  | xc _ => cases hx
  | xe _ _ _ => cases hx
  | na _ _ => cases hx
  | rt _ _ => cases hx
theorem C.stabs : ∀ {xs : List Slot} {ds : List D} {vs : List V} {l : List Cell} {H : Hp}, C F (xs.zip (vs.map some) ++ l) H → DL.stabs xs = some ds → vs.length = xs.length → C F ((ds.map Slot.sh).zip (vs.map some) ++ l) H
  | [], ds, vs, l, H, h, e, hl => by cases e; cases vs with
    | nil => exact h
    | cons _ _ => simp at hl
  | x :: xs, ds, [], l, H, h, e, hl => by simp at hl
  | x :: xs, ds, v :: vs, l, H, h, e, hl => by
    unfold DL.stabs at e
    split at e
    · rename_i d ds' e1 e2
      cases e
      have h1 : C F ((Slot.sh d, some v) :: (xs.zip (vs.map some) ++ l)) H := C.stab (h : C F ((x, some v) :: (xs.zip (vs.map some) ++ l)) H) e1
      have h2 := C.stabs (xs := xs) (l := (Slot.sh d, some v) :: l) (h1.back) e2 (by simpa using hl)
      exact C.front h2
    · cases e
theorem C.reps : ∀ {ds : List D} {vs : List V} {l : List Cell} {S H : Hp}, vs.length = ds.length → (∀ q ∈ (ds.map Slot.sh).zip (vs.map some) ++ l, SC F S H q) → Reps F.K S vs ds
  | [], [], _, _, _, _, _ => .nil
  | [], v :: vs, _, _, _, h, _ => by simp at h
  | d :: ds, [], _, _, _, h, _ => by simp at h
  | d :: ds, v :: vs, l, S, H, hl, h => by
    obtain ⟨u, e, r⟩ := h (Slot.sh d, some v) (by simp)
    cases e
    exact .cons r (C.reps (l := l) (by simpa using hl) fun q hq => h q (List.mem_cons_of_mem _ hq))
noncomputable def wTup (wA : WA) : WE := fun env Q => wA env (rk (fun xs => match stabs xs with
  | some ds => ds.length ≤ 16777216 ∧ Q (.ok (.sh (.tup ds)))
  | none => False) Q)
noncomputable def wLst (wA : WA) : WE := fun env Q => wA env (rk (fun xs => match stabs xs with
  | some ds => ds.length ≤ 16777216 ∧ Q (.ok (.ow (.lst ds)))
  | none => False) Q)
theorem Zi3 {β : Type} {l : List Cell} {env : En} {σ : L2.St} {k : List Slot → Prop} {Q : R β → Prop} {Q' : List V → Hp → Prop} (m : Mono wA) (h : wA env (rk k Q))
    (h1 : ∀ xs, k xs → ∀ vs H', vs.length = xs.length → C F (xs.zip (vs.map some) ++ (l ++ env.zip σ)) H' → Q' vs H') (h2 : ∀ c fs, Q (.ex c fs) → LAp F W l env σ Q' (.ex c fs)) : wA env (LAp F W l env σ Q') :=
  m env _ _ (fun r q => match r, q with
    | .ok x, q => h1 x q
    | .ex c fs, q => h2 c fs q) h
theorem Zjz {k : Nat} (h : DA X F W es wA) : DE X F W (.Tuple es k pos) (wTup wA) := by
  refine ⟨Zbr (pe_tup h.run) fun σ H Q ⟨l, env, k, q⟩ => ⟨l, env, k, Zi3 h.mono q (fun xs hx vs H1 hl c1 => ?_) fun c fs z => z⟩, fun env Q Q' m q => Za3 h.mono (fun xs hx => ?_) m q⟩
  · split at hx
    · rename_i ds e
      have hd := Zkf e
      refine ⟨by rw [sizeLine_eq]; omega, fun p hp => hx.2 _ _ ?_⟩
      have c2 := c1.stabs e hl
      exact (c2.newSh (d := .tup ds) hp fun S g a => .tup upd_same ((C.reps (by omega) a).mono (Za9 (g.sh.free hp)))).perm ((List.Perm.refl _)) |>.sub (List.Sublist.cons_cons _ (List.sublist_append_right _ _))
    · exact hx.elim
  · split at hx
    · exact ⟨hx.1, m _ hx.2⟩
    · exact hx.elim
theorem Zdi (h : DA X F W es wA) : DE X F W (.List es pos) (wLst wA) := by
  refine ⟨Zbr (pe_lst h.run) fun σ H Q ⟨l, env, k, q⟩ => ⟨l, env, k, Zi3 h.mono q (fun xs hx vs H1 hl c1 => ?_) fun c fs z => z⟩, fun env Q Q' m q => Za3 h.mono (fun xs hx => ?_) m q⟩
  · split at hx
    · rename_i ds e
      have hd := Zkf e
      refine ⟨by rw [sizeLine_eq]; omega, fun p hp => hx.2 _ _ ?_⟩
      have c2 := c1.stabs e hl
      exact (c2.newOw (d := .lst ds) hp fun S g a => ⟨vs, rfl, C.reps (by omega) a⟩).sub (List.Sublist.cons_cons _ (List.sublist_append_right _ _))
    · exact hx.elim
  · split at hx
    · exact ⟨hx.1, m _ hx.2⟩
    · exact hx.elim
end
end DL
set_option Elab.async false
set_option linter.all false
set_option maxRecDepth 100000
set_option maxHeartbeats 4000000
namespace DL
open PySem PySem.Spec PyProof.Rows L2
mutual
noncomputable def D.py : D → PyData
  | .non => .none
  | .bl b => .bool b
  | .int i => .int i
  | .str s => .str s
  | .tup ds => .tuple (D.pys ds)
  | .lst ds => .list (D.pys ds)
  | .dk _ => .dict []
  | .dt _ => .dict []
  | .obj _ _ _ => .dict []
  | .own d => d.py
  | .rf _ => .dict []
  | .fn _ => .dict []
  | .lso _ => .dict []
noncomputable def D.pys : List D → List PyData
  | [] => []
  | d :: ds => d.py :: D.pys ds
end
noncomputable def eqD (d e : D) : Bool := PyData.eqv d.py e.py
noncomputable def Shp (d : D) : Prop := SeqAt.shaped d.py = true
theorem Zso : ∀ ds : List D, D.pys ds = ds.map D.py
  | [] => rfl
  | _ :: ds => by rw [List.map_cons, ← Zso ds]; rfl
mutual
theorem Rep.dp {K : PySem.W.Frag} {S : Hp} : ∀ {v : V} {d : D}, Rep K S v d → PyData.canLay0 d.py = true → Dp K S v d.py
  | _, _, .non, _ => .non
  | _, _, .bl, _ => .bl _
  | _, _, .int, _ => .int _
  | _, _, .str, _ => .str _
  | _, _, .tup h r, c => .tup (SqT.of h) (Reps.dp r (by simpa [D.py, PyData.canLay0] using c))
  | _, _, .lst h r, c => .lst h (Reps.dp r (by simpa [D.py, PyData.canLay0] using c))
  | _, _, .dk _ _ _, c => by simp [D.py, PyData.canLay0] at c
  | _, _, .dt _ _ _, c => by simp [D.py, PyData.canLay0] at c
  | _, _, .obj _ _ _ _, c => by simp [D.py, PyData.canLay0] at c
  | _, _, .rf, c => by simp [D.py, PyData.canLay0] at c
  | _, _, .fn _, c => by simp [D.py, PyData.canLay0] at c
theorem Reps.dp {K : PySem.W.Frag} {S : Hp} : ∀ {vs : List V} {ds : List D}, Reps K S vs ds → PyData.canLayAll0 (D.pys ds) = true → DpAll K S vs (D.pys ds)
  | _, _, .nil, _ => .nil
  | _, d :: ds, .cons h r, c => by
    have c' : PyData.canLay0 d.py = true ∧ PyData.canLayAll0 (D.pys ds) = true := by simpa [D.pys, PyData.canLayAll0, Bool.and_eq_true] using c
    exact .cons (Rep.dp h c'.1) (Reps.dp r c'.2)
end
mutual
theorem Zup {K : PySem.W.Frag} {S S' : Hp} (e : Same S S') : ∀ {v : V} {d : PyData}, Dp K S v d → Dp K S' v d
  | _, _, .non => .non
  | _, _, .bl _ => .bl _
  | _, _, .int _ => .int _
  | _, _, .str _ => .str _
  | _, _, .tup h r => .tup (Zv0 e h) (dps_mono e r)
  | _, _, .lst h r => .lst (Zgl e h) (dps_mono e r)
theorem dps_mono {K : PySem.W.Frag} {S S' : Hp} (e : Same S S') : ∀ {vs : List V} {ds : List PyData}, DpAll K S vs ds → DpAll K S' vs ds
  | _, _, .nil => .nil
  | _, _, .cons h r => .cons (Zup e h) (dps_mono e r)
end
section
variable {F : Fr}
theorem C.dp {l : List Cell} {H : Hp} {x : Slot} {v : V} {d : D} (h : C F ((x, some v) :: l) H) (hx : x.dat = some d) (c : PyData.canLay0 d.py = true) : Dp F.K H v d.py := by
  obtain ⟨S, g, cc, _⟩ := h
  have s := cc _ List.mem_cons_self
  have one : ∀ {d : D} {a : Addr}, PyData.canLay0 d.py = true → RC F.K S (H a) d → Dp F.K H (.ref a) d.py := fun {d a} c r => by
    cases d with
    | lst ds => obtain ⟨vs, e2, r⟩ := r; exact .lst (SqL.of e2) (dps_mono g.sh (r.dp (by simpa [D.py, PyData.canLay0] using c)))
    | dk kds => simp [D.py, PyData.canLay0] at c
    | dt kds => simp [D.py, PyData.canLay0] at c
    | _ => exact r.elim
  cases x with
  | un => cases hx
  | sh d' => cases hx; obtain ⟨u, e, r⟩ := s; cases e; exact Zup g.sh (r.dp c)
  | ow d' => cases hx; obtain ⟨a, e, _, _, r⟩ := s; cases e; exact one c r
  | bo d' => cases hx; obtain ⟨a, e, _, r⟩ := s; cases e; exact one c r
  | bt d' => cases hx; obtain ⟨a, e, r⟩ := s; cases e; exact one c r
  | lk a d' => cases hx; obtain ⟨e, _, _, r⟩ := s; cases e; exact one c r
  | lo a d' => cases hx; simp [D.py, PyData.canLay0] at c
  | nd d' => cases hx
  | nb d' => cases hx
  | ln _ _ => cases hx
  | xc _ => cases hx
  | xe _ _ _ => cases hx
  | na _ _ => cases hx
  | rt _ _ => cases hx
end
theorem Zdp {d : D} (h : Shp d) : PyData.canLay0 d.py = true := SeqAt.canLay_of_shaped h
noncomputable def D.scal : D → D → Bool
  | .non, .non => true
  | .non, .int _ => true
  | .int _, .non => true
  | .non, .bl _ => true
  | .bl _, .non => true
  | .non, .str _ => true
  | .str _, .non => true
  | .int _, .int _ => true
  | .bl _, .bl _ => true
  | .str _, .str _ => true
  | _, _ => false
noncomputable def EqOk (d e : D) : Prop := D.scal d e = true ∨ (Shp d ∧ Shp e)
noncomputable def oEq (neg : Bool) : O2 := fun x y k => match x.dat, y.dat with
  | some d, some e => EqOk d e ∧ k (.sh (.bl (neg ^^ eqD d e)))
  | _, _ => False
theorem Zav {neg : Bool} : Ziy (oEq neg) := fun x y k k' m h => by
  unfold oEq at h ⊢
  split at h
  · exact ⟨h.1, m _ h.2⟩
  · exact h.elim
section
variable {X : Cx} {F : Fr} {W : WX} {a b c e o : Expr} {es : List Expr} {wa wb wc w : WE} {wA : WA} {pos : Pos}
theorem Zpv {K : PySem.W.Frag} {S S' : Hp} {v u : V} {d e : D} (r : Rep K S v d) (q : Rep K S' u e) (h : D.scal d e = true) : L2.scal v u = true ∧ decide (v = u) = eqD d e := by
  cases r <;> cases q <;> first
    | (exfalso; simp [D.scal] at h; done)
    | exact ⟨rfl, by first | rfl | (simp [eqD, D.py, PyData.eqv]; done) | (simp only [eqD, D.py, PyData.eqv]; first | exact dec_int | exact dec_bl | exact dec_str)⟩
theorem Zmq {d e : D} (h : D.scal d e = true) : (∀ K S o, ¬ RC K S o d) ∧ ∀ K S o, ¬ RC K S o e := by
  cases d <;> cases e <;> first
    | (exfalso; simp [D.scal] at h; done)
    | exact ⟨fun _ _ _ z => z, fun _ _ _ z => z⟩
noncomputable def rEqA (K : PySem.W.Frag) : R2 := fun x y H Q => rEq x y H Q ∨ rEqD K x y H Q
noncomputable def rNeA (K : PySem.W.Frag) : R2 := fun x y H Q => rNe x y H Q ∨ rNeD K x y H Q
theorem C.repOf {l : List Cell} {H : Hp} {x : Slot} {v : V} {d : D} (h : C F ((x, some v) :: l) H) (hx : x.dat = some d) (n : ∀ K S o, ¬ RC K S o d) : ∃ S, Rep F.K S v d := by
  obtain ⟨S, g, cc, _⟩ := h
  have s := cc _ List.mem_cons_self
  cases x with
  | un => cases hx
  | sh d' => cases hx; obtain ⟨u, e, r⟩ := s; cases e; exact ⟨S, r⟩
  | ow d' => cases hx; obtain ⟨a, e, _, _, r⟩ := s; exact (n _ _ _ r).elim
  | bo d' => cases hx; obtain ⟨a, e, _, r⟩ := s; exact (n _ _ _ r).elim
  | bt d' => cases hx; obtain ⟨a, e, r⟩ := s; exact (n _ _ _ r).elim
  | lk a d' => cases hx; obtain ⟨e, _, _, r⟩ := s; exact (n _ _ _ r).elim
  | lo a d' => cases hx; obtain ⟨e, _, _, eu, od, kvs, e3, k, r⟩ := s; have e2 := eu.trans e3; exact (n F.K S (some (.dK kvs)) ⟨kvs, rfl, k, r⟩).elim
  | nd d' => cases hx
  | nb d' => cases hx
  | ln _ _ => cases hx
  | xc _ => cases hx
  | xe _ _ _ => cases hx
  | na _ _ => cases hx
  | rt _ _ => cases hx
theorem Zwy : Ziz F (rEqA F.K) (oEq false) := fun l H x y vx vy ks Q hc ho hq => by
  unfold oEq at ho
  split at ho
  · rename_i d e ed ee
    obtain ⟨ok, ho⟩ := ho
    rw [Bool.false_xor] at ho
    have fin : Q (.bl (eqD d e)) H := hq _ _ H ho (hc.tail.tail.bl _)
    rcases ok with ok | ⟨s1, s2⟩
    · obtain ⟨n1, n2⟩ := Zmq ok
      obtain ⟨S1, r1⟩ := hc.tail.repOf ed n1
      obtain ⟨S2, r2⟩ := hc.repOf ee n2
      obtain ⟨z1, z2⟩ := Zpv r1 r2 ok
      exact .inl ⟨z1, by rw [z2]; exact fin⟩
    · exact .inr ⟨_, _, hc.tail.dp ed (Zdp s1), hc.dp ee (Zdp s2), s1, s2, fin⟩
  · exact ho.elim
theorem Zws : Ziz F (rNeA F.K) (oEq true) := fun l H x y vx vy ks Q hc ho hq => by
  unfold oEq at ho
  split at ho
  · rename_i d e ed ee
    obtain ⟨ok, ho⟩ := ho
    rw [Bool.true_xor] at ho
    have fin : Q (.bl (!eqD d e)) H := hq _ _ H ho (hc.tail.tail.bl _)
    rcases ok with ok | ⟨s1, s2⟩
    · obtain ⟨n1, n2⟩ := Zmq ok
      obtain ⟨S1, r1⟩ := hc.tail.repOf ed n1
      obtain ⟨S2, r2⟩ := hc.repOf ee n2
      obtain ⟨z1, z2⟩ := Zpv r1 r2 ok
      exact .inl ⟨z1, by rw [z2]; exact fin⟩
    · exact .inr ⟨_, _, hc.tail.dp ed (Zdp s1), hc.dp ee (Zdp s2), s1, s2, fin⟩
  · exact ho.elim
theorem Zxs (hu : X.A.units + 65 < cLine) (ha : DE X F W a wa) (hb : DE X F W b wb) (hK : X.K = F.K := by rfl) : DE X F W (.Compare a [.Eq] [b] pos) (wOp (oEq false) wa wb) :=
  Zw4 (r := rEqA F.K) (by rw [← hK]; exact op_eq.or (op_eqD (by omega))) Zwy Zav ha hb (nomark _)
theorem Z1a (hu : X.A.units + 65 < cLine) (ha : DE X F W a wa) (hb : DE X F W b wb) (hK : X.K = F.K := by rfl) : DE X F W (.Compare a [.NotEq] [b] pos) (wOp (oEq true) wa wb) :=
  Zw4 (r := rNeA F.K) (by rw [← hK]; exact op_ne.or (op_neD (by omega))) Zws Zav ha hb (nomark _)
noncomputable def D.key : D → Option L2.Key
  | .int i => some (.inl i)
  | .str s => some (.inr s)
  | _ => none
noncomputable def D.keys : List D → Option (List L2.Key)
  | [] => some []
  | d :: ds => match d.key, D.keys ds with
    | some k, some ks => some (k :: ks)
    | _, _ => none
noncomputable def D.keyT : D → Option (List L2.Key)
  | .tup ds => D.keys ds
  | _ => none
section
variable {κ α : Type} [DecidableEq κ]
noncomputable def lk (kds : List (κ × α)) (k : κ) : Option α := (kds.find? fun kv => decide (kv.1 = k)).map (·.2)
noncomputable def put (kds : List (κ × α)) (k : κ) (d : α) : List (κ × α) := if (kds.any fun kv => decide (kv.1 = k)) = true then kds.map (fun kv => if kv.1 = k then (kv.1, d) else kv) else kds ++ [(k, d)]
noncomputable def del (kds : List (κ × α)) (k : κ) : List (κ × α) := kds.filter fun kv => decide (kv.1 ≠ k)
end
theorem lk_valV {κ : Type} [DecidableEq κ] {K : PySem.W.Frag} {S : Hp} (k : κ) : ∀ {kvs : List (κ × V)} {kds : List (κ × D)}, kvs.map Prod.fst = kds.map Prod.fst → Reps K S (kvs.map Prod.snd) (kds.map Prod.snd) →
    (lk kds k = none ∧ valV kvs k = none) ∨ ∃ d v, lk kds k = some d ∧ valV kvs k = some v ∧ Rep K S v d
  | [], [], _, _ => .inl ⟨rfl, rfl⟩
  | [], _ :: _, h, _ => by simp at h
  | _ :: _, [], h, _ => by simp at h
  | (k1, v) :: kvs, (k2, d) :: kds, h, r => by
    have h1 : k1 = k2 := by simpa using congrArg List.head? h
    have h2 : kvs.map Prod.fst = kds.map Prod.fst := by simpa using congrArg List.tail h
    subst h1
    have r' : Reps K S (v :: kvs.map Prod.snd) (d :: kds.map Prod.snd) := r
    cases r' with
    | cons r1 r2 =>
      by_cases e : k1 = k
      · refine .inr ⟨d, v, ?_, ?_, r1⟩
        · simp [lk, List.find?_cons, e]
        · simp [valV, List.find?_cons, e]
      · rcases lk_valV k h2 r2 with ⟨a, b⟩ | ⟨d', v', a, b, c⟩
        · refine .inl ⟨?_, ?_⟩
          · simpa [lk, List.find?_cons, e] using a
          · simpa [valV, List.find?_cons, e] using b
        · refine .inr ⟨d', v', ?_, ?_, c⟩
          · simpa [lk, List.find?_cons, e] using a
          · simpa [valV, List.find?_cons, e] using b
theorem Zsp {K : PySem.W.Frag} {S : Hp} {v : V} {d : D} {k : L2.Key} (r : Rep K S v d) (h : d.key = some k) : v = kV k := by
  cases r <;> first | (cases h; rfl) | cases h
theorem Zny {K : PySem.W.Frag} {S : Hp} : ∀ {vs : List V} {ds : List D} {ks : List L2.Key}, Reps K S vs ds → D.keys ds = some ks → vs = ks.map kV
  | _, _, _, .nil, h => by cases h; rfl
  | _, _, ks, .cons r rr, h => by
    unfold D.keys at h
    split at h
    · rename_i k ks' e1 e2
      cases h
      rw [List.map_cons, ← Zsp r e1, ← Zny rr e2]
    · cases h
theorem C.dictK {l : List Cell} {H : Hp} {x : Slot} {v : Option V} {kds : List (L2.Key × D)} (h : C F ((x, v) :: l) H) (hx : x.dat = some (.dk kds)) :
    ∃ a kvs, v = some (.ref a) ∧ Rd H a (.dK kvs) ∧ kvs.map Prod.fst = kds.map Prod.fst ∧ ∃ S, GS F S H ∧ Reps F.K S (kvs.map Prod.snd) (kds.map Prod.snd) ∧ (∀ p ∈ (x, v) :: l, SC F S H p) ∧ ((x, v) :: l).Pairwise (Zbw H) := by
  obtain ⟨S, g, cc, pw⟩ := h
  have s := cc _ List.mem_cons_self
  cases x with
  | un => cases hx
  | sh d' => cases hx; obtain ⟨u, e, r⟩ := s; cases r with
    | dk hr k r => exact ⟨_, _, e, Zo3 g.sh hr, k, S, g, r, cc, pw⟩
  | ow d' => cases hx; obtain ⟨a, e, _, _, kvs, e2, k, r⟩ := s; exact ⟨a, kvs, e, .inl e2, k, S, g, r, cc, pw⟩
  | bo d' => cases hx; obtain ⟨a, e, _, kvs, e2, k, r⟩ := s; exact ⟨a, kvs, e, .inl e2, k, S, g, r, cc, pw⟩
  | bt d' => cases hx; obtain ⟨a, e, kvs, e2, k, r⟩ := s; exact ⟨a, kvs, e, .inl e2, k, S, g, r, cc, pw⟩
  | lk a d' => cases hx; obtain ⟨e, _, _, kvs, e2, k, r⟩ := s; exact ⟨a, kvs, e, .inl e2, k, S, g, r, cc, pw⟩
  | lo a d' => cases hx; obtain ⟨e, _, _, eu, od, kvs, e3, k, r⟩ := s; have e2 := eu.trans e3; exact ⟨a, kvs, e, .inr ⟨od, e2⟩, k, S, g, r, cc, pw⟩
  | nd d' => cases hx
  | nb d' => cases hx
  | ln _ _ => cases hx
  | xc _ => cases hx
  | xe _ _ _ => cases hx
  | na _ _ => cases hx
  | rt _ _ => cases hx
theorem C.dictT {l : List Cell} {H : Hp} {x : Slot} {v : Option V} {kds : List (List L2.Key × D)} (h : C F ((x, v) :: l) H) (hx : x.dat = some (.dt kds)) :
    ∃ a kvs, v = some (.ref a) ∧ H a = some (.dT kvs) ∧ kvs.map Prod.fst = kds.map Prod.fst ∧ ∃ S, GS F S H ∧ Reps F.K S (kvs.map Prod.snd) (kds.map Prod.snd) ∧ (∀ p ∈ (x, v) :: l, SC F S H p) ∧ ((x, v) :: l).Pairwise (Zbw H) := by
  obtain ⟨S, g, cc, pw⟩ := h
  have s := cc _ List.mem_cons_self
  cases x with
  | un => cases hx
  | sh d' => cases hx; obtain ⟨u, e, r⟩ := s; cases r with
    | dt hr k r => exact ⟨_, _, e, g.sh _ _ hr, k, S, g, r, cc, pw⟩
  | ow d' => cases hx; obtain ⟨a, e, _, _, kvs, e2, k, r⟩ := s; exact ⟨a, kvs, e, e2, k, S, g, r, cc, pw⟩
  | bo d' => cases hx; obtain ⟨a, e, _, kvs, e2, k, r⟩ := s; exact ⟨a, kvs, e, e2, k, S, g, r, cc, pw⟩
  | bt d' => cases hx; obtain ⟨a, e, kvs, e2, k, r⟩ := s; exact ⟨a, kvs, e, e2, k, S, g, r, cc, pw⟩
  | lk a d' => cases hx; obtain ⟨e, _, _, kvs, e2, k, r⟩ := s; exact ⟨a, kvs, e, e2, k, S, g, r, cc, pw⟩
  | lo a d' => cases hx
  | nd d' => cases hx
  | nb d' => cases hx
  | ln _ _ => cases hx
  | xc _ => cases hx
  | xe _ _ _ => cases hx
  | na _ _ => cases hx
  | rt _ _ => cases hx
theorem C.sh0 {l : List Cell} {H : Hp} {v : V} {d : D} (h : C F ((.sh d, some v) :: l) H) : ∃ S, GS F S H ∧ Rep F.K S v d := by
  obtain ⟨S, g, cc, _⟩ := h
  obtain ⟨u, e, r⟩ := cc _ List.mem_cons_self
  cases e
  exact ⟨S, g, r⟩
theorem C.key {l : List Cell} {H : Hp} {v : V} {d : D} {k : L2.Key} (h : C F ((.sh d, some v) :: l) H) (hk : d.key = some k) : v = kV k := by
  obtain ⟨S, _, r⟩ := h.sh0
  exact Zsp r hk
theorem Zlf {K : PySem.W.Frag} {S : Hp} {v : V} {ds : List D} {ks : List L2.Key} (r : Rep K S v (.tup ds)) (hk : D.keys ds = some ks) : ∃ a, v = .ref a ∧ S a = some (.tup (ks.map kV)) := by
  cases r with
  | tup hq r =>
    rw [Zny r hk] at hq
    exact ⟨_, rfl, hq⟩
theorem C.beside {l : List Cell} {H : Hp} {v : V} {d : D} {S : Hp} (g : GS F S H) (cc : ∀ p ∈ l, SC F S H p) (pw : l.Pairwise (Zbw H)) (r : Rep F.K S v d) : C F ((.sh d, some v) :: l) H :=
  ⟨S, g, fun p hp => by
    rcases List.mem_cons.mp hp with rfl | hp
    · exact ⟨v, rfl, r⟩
    · exact cc p hp, Zbh (fun z => z) pw⟩
end
end DL
set_option Elab.async false
set_option linter.all false
set_option maxRecDepth 100000
set_option maxHeartbeats 4000000
namespace DL
open PySem PySem.Spec PyProof.Rows L2
section
variable {X : Cx} {F : Fr} {W : WX} {a b c e o : Expr} {es : List Expr} {wa wb wc w : WE} {wA : WA} {pos : Pos}
noncomputable def rIxD : R2 := fun x y H Q => ∃ a v, x = .ref a ∧ DGet H a y (some v) ∧ Q v H
theorem Zxr (hu : X.A.units + 1 < cLine) : IxR X rIxD := by
  intro value slice pins s σ H x y v u Q I rx ry h hs
  obtain ⟨a, z, rfl, g, q⟩ := h
  cases rx
  have hT := dict_typeIs I g
  unfold subscriptTail
  refine wpAny_bind ?_
  rw [getitemInPython_of_ne hT.not_modules]
  refine wpAny_bind (wpAny_specialOf hT PySem.F.slot_dict_getitem.lookup ?_)
  have h₂ : wpAny (model X.prog X.w) X.A (getItem (.ref a) u) (EP X pins σ Q) X.xe s := d_getItem hu I g ry fun w' s3 I3 rw' => ⟨z, H, I3, rw', q⟩
  have fin : wpAny (model X.prog X.w) X.A (subscripted slice false (.ref a) u) (fun r s₃ => wpAny (model X.prog X.w) X.A (letTemporaryGo value (.ref a) r >>= fun _ => pure r) (EP X pins σ Q) X.xe s₃) X.xe s := by
    rw [hs]
    exact wpAny_operating (wpAny_mono h₂ (fun r s₃ h₃ => wpAny_bind (wpAny_letTemporaryGo (wpAny_pure h₃))) fun _ _ x => x)
  first
    | exact wpAny_pure (wpAny_bind fin)
    | exact wpAny_bind (wpAny_pure (wpAny_bind fin))
    | exact wpAny_bind fin
noncomputable def rIxA (K : PySem.W.Frag) : R2 := fun x y H Q => rIx K x y H Q ∨ rIxD x y H Q
noncomputable def Zqh (d e : D) (k : D → Prop) : Prop := match d with
  | .lst ds => ∃ i z, e = .int i ∧ atI ds i = some z ∧ k z
  | .tup ds => ∃ i z, e = .int i ∧ atI ds i = some z ∧ k z
  | .str s => s.length ≤ 16777216 ∧ ∃ i c, e = .int i ∧ atI s.cps.toList i = some c ∧ k (.str ⟨#[c]⟩)
  | .dk kds => ∃ j z, e.key = some j ∧ lk kds j = some z ∧ k z
  | .dt kds => ∃ j z, e.keyT = some j ∧ lk kds j = some z ∧ k z
  | _ => False
noncomputable def oIx : O2 := fun x y k => match x.dat, y with
  | some d, .sh e => Zqh d e fun z => k (.sh z)
  | _, _ => False
theorem Zo7 {d e : D} {k k' : D → Prop} (m : ∀ z, k z → k' z) (h : Zqh d e k) : Zqh d e k' := by
  cases d with
  | lst ds => obtain ⟨i, z, h1, h2, h3⟩ := h; exact ⟨i, z, h1, h2, m _ h3⟩
  | tup ds => obtain ⟨i, z, h1, h2, h3⟩ := h; exact ⟨i, z, h1, h2, m _ h3⟩
  | str s => obtain ⟨h0, i, z, h1, h2, h3⟩ := h; exact ⟨h0, i, z, h1, h2, m _ h3⟩
  | dk s => obtain ⟨i, z, h1, h2, h3⟩ := h; exact ⟨i, z, h1, h2, m _ h3⟩
  | dt s => obtain ⟨i, z, h1, h2, h3⟩ := h; exact ⟨i, z, h1, h2, m _ h3⟩
  | _ => exact h.elim
theorem Zcp : Ziy oIx := fun x y k k' m h => by
  unfold oIx at h ⊢
  split at h
  · exact Zo7 (fun z hz => m _ hz) h
  · exact h.elim
theorem Zq0 {K : PySem.W.Frag} {S : Hp} {vs : List V} {ds : List D} {i : Int} {d : D} (r : Reps K S vs ds) (h : atI ds i = some d) : ∃ (j : Nat) (u : V), ds[j]? = some d ∧ vs[j]? = some u ∧ atI vs i = some u := by
  unfold atI at h ⊢
  rw [r.len]
  cases q : ixN ds.length i with
  | none => rw [q] at h; cases h
  | some j =>
    rw [q] at h
    have h : ds[j]? = some d := h
    obtain ⟨u, hu, _⟩ := r.get h
    exact ⟨j, u, h, hu, hu⟩
theorem Zvf {l : List Cell} {H : Hp} {x : Slot} {d e : D} {vx vy : V} {k : D → Prop} {Q : VK} (hc : C F ((.sh e, some vy) :: (x, some vx) :: l) H) (hx : x.dat = some d) (h : Zqh d e k)
    (hq : ∀ z v, k z → C F ((.sh z, some v) :: l) H → Q v H) : rIxA F.K vx vy H Q := by
  cases d with
  | lst ds =>
    obtain ⟨i, z, rfl, h2, h3⟩ := h
    have ei := hc.shInt
    cases ei
    obtain ⟨a, vs, ea, hl, hlen, S, g, r, cc, pw⟩ := hc.tail.seqL hx
    cases ea
    obtain ⟨j, u, h4, h5, h6⟩ := Zq0 r h2
    obtain ⟨d', e4, ru⟩ := r.getV h5
    rw [h4] at e4; cases e4
    exact .inl (.inl ⟨a, vs, i, u, rfl, rfl, hl, h6, hq z u h3 (C.beside g (fun p hp => cc p (List.mem_cons_of_mem _ hp)) pw ru)⟩)
  | tup ds =>
    obtain ⟨i, z, rfl, h2, h3⟩ := h
    have ei := hc.shInt
    cases ei
    obtain ⟨a, vs, ea, hl, hlen, S, g, r, cc, pw⟩ := hc.tail.seqT hx
    cases ea
    obtain ⟨j, u, h4, h5, h6⟩ := Zq0 r h2
    obtain ⟨d', e4, ru⟩ := r.getV h5
    rw [h4] at e4; cases e4
    exact .inl (.inr (.inl ⟨a, vs, i, u, rfl, rfl, hl, h6, hq z u h3 (C.beside g (fun p hp => cc p (List.mem_cons_of_mem _ hp)) pw ru)⟩))
  | str s =>
    obtain ⟨h0, i, c, rfl, h2, h3⟩ := h
    have ei := hc.shInt
    cases ei
    obtain ⟨S, r⟩ := hc.tail.repOf hx fun _ _ _ z => z
    cases r
    exact .inl (.inr (.inr ⟨s, i, c, rfl, rfl, by rw [sizeLine_eq]; exact h0, h2, hq _ _ h3 (hc.tail.tail.str _)⟩))
  | dk kds =>
    obtain ⟨j, z, h1, h2, h3⟩ := h
    have ek := hc.key h1
    obtain ⟨a, kvs, ea, hr, hk, S, g, r, cc, pw⟩ := hc.tail.dictK hx
    cases ea
    rcases lk_valV j hk r with ⟨n, _⟩ | ⟨d', v', n, m, rr⟩
    · rw [n] at h2; cases h2
    · rw [n] at h2; cases h2
      exact .inr ⟨a, v', rfl, .inl ⟨kvs, j, hr, ek, m.symm⟩, hq _ _ h3 ((C.beside g cc pw rr).swap.tail)⟩
  | dt kds =>
    obtain ⟨j, z, h1, h2, h3⟩ := h
    cases e with
    | tup es =>
      obtain ⟨S0, g0, r0⟩ := hc.sh0
      obtain ⟨ta, et, ht⟩ := Zlf r0 h1
      obtain ⟨a, kvs, ea, hr, hk, S, g, r, cc, pw⟩ := hc.tail.dictT hx
      cases ea
      rcases lk_valV j hk r with ⟨n, _⟩ | ⟨d', v', n, m, rr⟩
      · rw [n] at h2; cases h2
      · rw [n] at h2; cases h2
        exact .inr ⟨a, v', rfl, .inr ⟨kvs, j, ta, .inl hr, et, g0.sh _ _ ht, m.symm⟩, hq _ _ h3 ((C.beside g cc pw rr).swap.tail)⟩
    | _ => cases h1
  | _ => exact h.elim
theorem Zz5 : Ziz F (rIxA F.K) oIx := fun l H x y vx vy ks Q hc ho hq => by
  unfold oIx at ho
  split at ho
  · rename_i d e hd
    exact Zvf hc hd ho fun z v hz cz => hq _ _ H hz cz
  · exact ho.elim
theorem Zi0 (hu : X.A.units + 65 < cLine) (ha : DE X F W a wa) (hb : DE X F W b wb) (hs : PlainIx b := by intro _ _; rfl) (hK : X.K = F.K := by rfl) : DE X F W (.Subscript a b pos) (wOp oIx wa wb) :=
  ⟨Zbr (pe_ix (r := rIxA F.K) (by rw [← hK]; exact ix_seq.or (Zxr (by omega))) ha.run hb.run hs) fun _ _ _ h => Zv7 Zz5 ha hb h, Zah ha.mono hb.mono Zcp⟩
noncomputable def oIxN (n : Nat) : O1 := fun x k => match x.dat with
  | some (.lst ds) => (match ds[n]? with | some d => k (.sh d) | none => False)
  | some (.tup ds) => (match ds[n]? with | some d => k (.sh d) | none => False)
  | some (.str s) => s.length ≤ 16777216 ∧ (match s.cps.toList[n]? with | some c => k (.sh (.str ⟨#[c]⟩)) | none => False)
  | _ => False
theorem Zbz {n : Nat} : Ze7 (oIxN n) := fun x k k' m h => by
  unfold oIxN at h ⊢
  split at h
  · split at h
    · exact m _ h
    · exact h.elim
  · split at h
    · exact m _ h
    · exact h.elim
  · refine ⟨h.1, ?_⟩
    have h := h.2
    split at h
    · exact m _ h
    · exact h.elim
  · exact h.elim
theorem Zxm {n : Nat} {x : Slot} {k : Slot → Prop} (h : oIxN n x k) : oIx x (.sh (.int (n : Int))) k := by
  unfold oIxN at h
  unfold oIx
  split at h
  · rename_i ds e
    rw [e]
    split at h
    · rename_i d e2
      exact ⟨_, d, rfl, atI_nat e2, h⟩
    · exact h.elim
  · rename_i ds e
    rw [e]
    split at h
    · rename_i d e2
      exact ⟨_, d, rfl, atI_nat e2, h⟩
    · exact h.elim
  · rename_i s e
    rw [e]
    obtain ⟨h0, h⟩ := h
    split at h
    · rename_i d e2
      exact ⟨h0, _, d, rfl, atI_nat e2, h⟩
    · exact h.elim
  · exact h.elim
theorem Zgv (n : Nat) {i : Int} {j : Nat} {p : Pos} (hu : X.A.units + 65 < cLine) (ha : DE X F W a wa) (hi : i = (n : Int) := by rfl) (hK : X.K = F.K := by rfl) : DE X F W (.Subscript a (.Constant (.int i) j p) pos) (wUn (oIxN n) wa) := by
  subst hi
  have h := Zi0 (pos := pos) hu ha (Zat (X := X) (F := F) (W := W) (i := (n : Int)) (j := j) (pos := p)) (fun _ _ => rfl) hK
  refine ⟨Zbr h.run fun σ H Q ⟨l, env, k, q⟩ => ⟨l, env, k, ?_⟩, Zaq ha.mono Zbz⟩
  exact Za3 ha.mono (fun x hx => (show oIx x (.sh (.int (n : Int))) (fun z => LEp F W l env σ Q (R.ok z)) from Zxm hx)) (fun _ z => z) q
noncomputable def hasK {κ : Type} [DecidableEq κ] (kds : List (κ × D)) (k : κ) : Bool := (lk kds k).isSome
noncomputable def memD (x : D) (ds : List D) : Bool := ds.any fun z => eqD z x
noncomputable def D.flat : D → Bool
  | .non => true
  | .bl _ => true
  | .int _ => true
  | .str _ => true
  | _ => false
noncomputable def inOf (d e : D) (k : Bool → Prop) : Prop := match d with
  | .lst ds => ((Shp e ∧ Shp (.lst ds)) ∨ (e.flat = true ∧ ds.all D.flat = true)) ∧ k (memD e ds)
  | .tup ds => e.flat = true ∧ ds.all D.flat = true ∧ k (memD e ds)
  | .str s => ∃ c, e = .str ⟨#[c]⟩ ∧ k (decide (c ∈ s.cps.toList))
  | .dk kds => ∃ j, e.key = some j ∧ k (hasK kds j)
  | .dt kds => ∃ j, e.keyT = some j ∧ k (hasK kds j)
  | _ => False
theorem Ztk {d e : D} {k k' : Bool → Prop} (m : ∀ z, k z → k' z) (h : inOf d e k) : inOf d e k' := by
  cases d with
  | lst ds => exact ⟨h.1, m _ h.2⟩
  | tup ds => exact ⟨h.1, h.2.1, m _ h.2.2⟩
  | str s => obtain ⟨c, h1, h2⟩ := h; exact ⟨c, h1, m _ h2⟩
  | dk s => obtain ⟨c, h1, h2⟩ := h; exact ⟨c, h1, m _ h2⟩
  | dt s => obtain ⟨c, h1, h2⟩ := h; exact ⟨c, h1, m _ h2⟩
  | _ => exact h.elim
noncomputable def oIn (neg : Bool) : O2 := fun x y k => match x, y.dat with
  | .sh e, some d => inOf d e fun z => k (.sh (.bl (neg ^^ z)))
  | _, _ => False
theorem Zfn {neg : Bool} : Ziy (oIn neg) := fun x y k k' m h => by
  unfold oIn at h ⊢
  split at h
  · exact Ztk (fun z hz => m _ hz) h
  · exact h.elim
noncomputable def rDIn (neg : Bool) : R2 := fun x y H Q => ∃ a o, y = .ref a ∧ DGet H a x o ∧ Q (.bl (neg ^^ o.isSome)) H
noncomputable def rSgn (neg : Bool) : R2 := fun x y H Q => ∃ (c : Nat) (z : Str), x = .str ⟨#[c]⟩ ∧ y = .str z ∧ Q (.bl (neg ^^ decide (c ∈ z.cps.toList))) H
noncomputable def Z1c (K : PySem.W.Frag) (neg : Bool) : R2 := fun x y H Q => ∃ d ds, Dp K H x d ∧ Dp K H y (.list ds) ∧ SeqAt.shaped d = true ∧ SeqAt.shaped (.list ds) = true ∧ Q (.bl (neg ^^ ds.any fun z => PyData.eqv z d)) H
noncomputable def rInA (K : PySem.W.Frag) (neg : Bool) : R2 := fun x y H Q => (L2.rIn K neg x y H Q ∨ Z1c K neg x y H Q) ∨ (rDIn neg x y H Q ∨ rSgn neg x y H Q)
theorem Zzr (hu : X.A.units + 65 < cLine) : OpR X (compareOp .In) (rInA X.K false) := by
  refine (op_in_seq.or ?_).or (OpR.or ?_ ?_)
  · intro pins s σ H x y v u Q I rx ry ⟨d, ds, h1, h2, h3, h4, q⟩
    exact op_inD hu pins s σ H x y v u Q I rx ry ⟨d, ds, h1, h2, h3, h4, by rw [Bool.false_xor] at q; exact q⟩
  · intro pins s σ H x y v u Q I rx ry ⟨a, o, e, g, q⟩
    subst e
    cases ry
    rw [Bool.false_xor] at q
    exact d_in (by omega) I g rx fun s3 I3 => ⟨.bl o.isSome, H, I3, rfl, q⟩
  · intro pins s σ H x y v u Q I rx ry ⟨c, z, e1, e2, q⟩
    rw [Bool.false_xor] at q
    exact op_in_sign pins s σ H x y v u Q I rx ry ⟨c, z, e1, e2, q⟩
theorem Zss (hu : X.A.units + 65 < cLine) : OpR X (compareOp .NotIn) (rInA X.K true) := by
  refine (op_notIn_seq.or ?_).or (OpR.or ?_ ?_)
  · intro pins s σ H x y v u Q I rx ry ⟨d, ds, h1, h2, h3, h4, q⟩
    exact op_notInD hu pins s σ H x y v u Q I rx ry ⟨d, ds, h1, h2, h3, h4, by rw [Bool.true_xor] at q; exact q⟩
  · intro pins s σ H x y v u Q I rx ry ⟨a, o, e, g, q⟩
    subst e
    cases ry
    rw [Bool.true_xor] at q
    exact d_notIn (by omega) I g rx fun s3 I3 => ⟨.bl !o.isSome, H, I3, rfl, q⟩
  · intro pins s σ H x y v u Q I rx ry ⟨c, z, e1, e2, q⟩
    rw [Bool.true_xor] at q
    exact op_notIn_sign pins s σ H x y v u Q I rx ry ⟨c, z, e1, e2, q⟩
theorem Zll {K : PySem.W.Frag} {S : Hp} {v : V} {d : D} (r : Rep K S v d) (h : d.flat = true) : flatV v = true := by
  cases r <;> first | rfl | (cases h; done)
theorem Zrs {K : PySem.W.Frag} {S S' : Hp} {v u : V} {d e : D} (r : Rep K S v d) (q : Rep K S' u e) (h1 : d.flat = true) (h2 : e.flat = true) : eqV v u = eqD d e := by
  cases r <;> first
    | (cases h1; done)
    | (cases q <;> first
      | (cases h2; done)
      | rfl
      | (simp [eqV, eqD, D.py, PyData.eqv]))
theorem Zj4 {K : PySem.W.Frag} {S : Hp} : ∀ {vs : List V} {ds : List D}, Reps K S vs ds → ds.all D.flat = true → vs.all flatV = true
  | _, _, .nil, _ => rfl
  | _, d :: ds, .cons r rr, h => by
    rw [List.all_cons, Bool.and_eq_true] at h
    rw [List.all_cons, Zll r h.1, Zj4 rr h.2]; rfl
theorem Zmh {K : PySem.W.Frag} {S S' : Hp} {u : V} {e : D} (q : Rep K S' u e) (he : e.flat = true) : ∀ {vs : List V} {ds : List D}, Reps K S vs ds → ds.all D.flat = true → inV u vs = memD e ds
  | _, _, .nil, _ => rfl
  | _, d :: ds, .cons r rr, h => by
    rw [List.all_cons, Bool.and_eq_true] at h
    have ih := Zmh q he rr h.2
    show (eqV _ u || inV u _) = (eqD d e || memD e ds)
    rw [ih, Zrs r q h.1 he]
theorem Zw7 {neg : Bool} : Ziz F (rInA F.K neg) (oIn neg) := fun l H x y vx vy ks Q hc ho hq => by
  unfold oIn at ho
  split at ho
  · rename_i e d hd
    have fin : ∀ b, ks (.sh (.bl (neg ^^ b))) → Q (.bl (neg ^^ b)) H := fun b hb => hq _ _ H hb (hc.tail.tail.bl _)
    have fin' : ∀ b, ks (.sh (.bl (neg ^^ b))) → Q (.bl (if neg = true then !b else b)) H := fun b hb => by
      have := fin b hb
      cases neg with
      | true => rw [Bool.true_xor] at this; exact this
      | false => rw [Bool.false_xor] at this; exact this
    cases d with
    | lst ds =>
      obtain ⟨c, hk⟩ := ho
      rcases c with ⟨s1, s2⟩ | ⟨s1, s2⟩
      · refine .inl (.inr ⟨e.py, D.pys ds, hc.tail.dp (x := .sh e) rfl (Zdp s1), ?_, s1, s2, ?_⟩)
        · exact hc.dp (d := .lst ds) hd (Zdp s2)
        · have z := fin _ hk
          rw [Zso, List.any_map]
          exact z
      · obtain ⟨S1, _, r1⟩ := hc.tail.sh0
        obtain ⟨a, vs, ea, hl, hlen, S, g, r, cc, pw⟩ := hc.seqL hd
        cases ea
        refine .inl (.inl ⟨a, vs, rfl, .inl hl, Zll r1 s1, Zj4 r s2, ?_⟩)
        rw [Zmh r1 s1 r s2]
        exact fin' _ hk
    | tup ds =>
      obtain ⟨s1, s2, hk⟩ := ho
      obtain ⟨S1, _, r1⟩ := hc.tail.sh0
      obtain ⟨a, vs, ea, hl, hlen, S, g, r, cc, pw⟩ := hc.seqT hd
      cases ea
      refine .inl (.inl ⟨a, vs, rfl, .inr hl, Zll r1 s1, Zj4 r s2, ?_⟩)
      rw [Zmh r1 s1 r s2]
      exact fin' _ hk
    | str s =>
      obtain ⟨c, rfl, hk⟩ := ho
      have e1 := hc.tail.shStr
      cases e1
      obtain ⟨S, r⟩ := hc.repOf hd fun _ _ _ z => z
      cases r
      exact .inr (.inr ⟨c, s, rfl, rfl, fin _ hk⟩)
    | dk kds =>
      obtain ⟨j, h1, hk⟩ := ho
      have ek := hc.tail.key h1
      obtain ⟨a, kvs, ea, hr, hkk, S, g, r, cc, pw⟩ := hc.dictK hd
      cases ea
      refine .inr (.inl ⟨a, valV kvs j, rfl, .inl ⟨kvs, j, hr, ek, rfl⟩, ?_⟩)
      have z := fin _ hk
      unfold hasK at z
      rcases lk_valV j hkk r with ⟨n, m⟩ | ⟨d', v', n, m, rr⟩
      · rw [n] at z; rw [m]; exact z
      · rw [n] at z; rw [m]; exact z
    | dt kds =>
      obtain ⟨j, h1, hk⟩ := ho
      cases e with
      | tup es =>
        obtain ⟨S0, g0, r0⟩ := hc.tail.sh0
        obtain ⟨ta, et, ht⟩ := Zlf r0 h1
        obtain ⟨a, kvs, ea, hr, hkk, S, g, r, cc, pw⟩ := hc.dictT hd
        cases ea
        refine .inr (.inl ⟨a, valV kvs j, rfl, .inr ⟨kvs, j, ta, .inl hr, et, g0.sh _ _ ht, rfl⟩, ?_⟩)
        have z := fin _ hk
        unfold hasK at z
        rcases lk_valV j hkk r with ⟨n, m⟩ | ⟨d', v', n, m, rr⟩
        · rw [n] at z; rw [m]; exact z
        · rw [n] at z; rw [m]; exact z
      | _ => cases h1
    | _ => exact ho.elim
  · exact ho.elim
end
end DL
set_option Elab.async false
set_option linter.all false
set_option maxRecDepth 100000
set_option maxHeartbeats 4000000
namespace DL
open PySem PySem.Spec PyProof.Rows L2
noncomputable def frzS : Slot → Slot
  | .ow d => .sh d
  | x => x
noncomputable abbrev G := List Slot → (R Slot → Prop) → Prop
noncomputable def Ze5 (γ : G) : Prop := ∀ xs Q Q', (∀ r, Q r → Q' r) → γ xs Q → γ xs Q'
noncomputable def Slot.arg : Slot → Slot
  | .sh d => .sh d
  | .ow d => .sh d
  | .bo d => .bo d
  | .bt d => .bo d
  | .lk _ d => .bo d
  | .lo _ _ _ => .un
  | .nd _ => .un
  | .nb d => .nb d
  | .ln _ d => .nb d
  | .xc a => .xc a
  | .xe a _ _ => .xc a
  | .na _ _ => .un
  | .rt _ _ => .un
  | .un => .un
noncomputable def outK (Q : R Slot → Prop) : R Slot → Prop
  | .ok (.sh d) => Q (.ok (.sh d))
  | .ok (.ow d) => Q (.ok (.ow d))
  | .ok (.nd d) => Q (.ok (.nd d))
  | .ok _ => False
  | .ex c fs => Q (.ex c fs)
noncomputable def RX.slot : RX → Slot
  | .sh d => .sh d
  | .ow d => .ow d
  | .nd d => .nd d
noncomputable def Zh5 (ms : List (Addr × D)) : List Cell := ms.map fun m => (Slot.na m.1 m.2, some (V.ref m.1))
noncomputable def Zoq : Slot → Option V → List Cell
  | .rt ms x, v => (x.slot, v) :: Zh5 ms
  | x, v => [(x, v)]
theorem C.cells {F : Fr} {x : Slot} {v : Option V} {l : List Cell} {H : Hp} (h : C F ((x, v) :: l) H) : C F (Zoq x v ++ l) H := by
  cases x with
  | rt ms y => obtain ⟨S, g, c, _⟩ := h; exact (c _ List.mem_cons_self).elim
  | _ => exact h
noncomputable def msOf : List Slot → List (Addr × D)
  | [] => []
  | .na a d :: xs => (a, d) :: msOf xs
  | _ :: xs => msOf xs
noncomputable def Z0n (F : Fr) (ms : List (Addr × D)) (Q : VK) (E : XK) : R Slot → Prop
  | .ok (.sh d) => ∀ v H', C F [(.sh d, some v)] H' → Q v H'
  | .ok (.ow d) => ∀ v H', C F [(.ow d, some v)] H' → Q v H'
  | .ok (.nd d) => ∀ v H', C F [(.nd d, some v)] H' → Q v H'
  | .ok (.rt ms' x) => ∀ v H', C F (Zoq (.rt ms' x) (some v)) H' → Q v H'
  | .ok _ => False
  | .ex c fs => ∀ A d H', F.mg c = some (.ref A) → XF H' d fs → C F (Zh5 ms) H' → E (.ref A) d H'
noncomputable def spG (K : PySem.W.Frag) (mg : Str → Option Value) (n : Nat) (γ : G) : Sp := fun vs H Q E => vs.length = n ∧ ∃ (xs : List Slot) (S H0 : Hp), xs.length = vs.length ∧ (∀ x ∈ xs, x.env) ∧
  C ⟨K, mg, H0, S⟩ (xs.zip (vs.map some)) H ∧ γ xs (Z0n ⟨K, mg, H0, S⟩ (msOf xs) Q E)
noncomputable def Zcx (γ : G) (wA : WA) : WE := fun env Q => wA env (rk (fun xs => γ (xs.map Slot.arg) (outK Q)) Q)
theorem Zjc {Q Q' : R Slot → Prop} (m : ∀ r, Q r → Q' r) : ∀ r, outK Q r → outK Q' r
  | .ok (.sh d), h => m _ h
  | .ok (.ow d), h => m _ h
  | .ok (.nd d), h => m _ h
  | .ok .un, h => h
  | .ok (.bo _), h => h
  | .ok (.bt _), h => h
  | .ok (.lk _ _), h => h
  | .ok (.lo _ _ _), h => h
  | .ok (.nb _), h => h
  | .ok (.ln _ _), h => h
  | .ok (.xc _), h => h
  | .ok (.xe _ _ _), h => h
  | .ok (.na _ _), h => h
  | .ok (.rt _ _), h => h
  | .ex c fs, h => m _ h
section
variable {F : Fr}
theorem C.argF : ∀ {xs : List Slot} {vs : List V} {l : List Cell} {H : Hp}, C F (xs.zip (vs.map some) ++ l) H → vs.length = xs.length →
    C F ((xs.map frzS).zip (vs.map some) ++ l) H
  | [], vs, l, H, h, hl => by cases vs with
    | nil => exact h
    | cons _ _ => simp at hl
  | x :: xs, [], l, H, h, hl => by simp at hl
  | x :: xs, v :: vs, l, H, h, hl => by
    have h0 : C F ((x, some v) :: (xs.zip (vs.map some) ++ l)) H := h
    have h1 : C F ((frzS x, some v) :: (xs.zip (vs.map some) ++ l)) H := by
      cases x with
      | ow d => exact h0.frz
      | sh d => exact h0
      | un => exact h0
      | bo d => exact h0
      | bt d => exact h0
      | lk _ d => exact h0
      | lo _ _ d => exact h0
      | nd d => exact h0
      | nb d => exact h0
      | ln _ _ => exact h0
      | xc _ => exact h0
      | xe _ _ _ => exact h0
      | na _ _ => exact h0
      | rt _ _ => exact h0
    exact C.front (C.argF (xs := xs) h1.back (by simpa using hl))
theorem Zyr : ∀ x : Slot, (x.arg).env := fun x => by cases x <;> trivial
theorem Zty : ∀ xs : List Slot, msOf (xs.map Slot.arg) = []
  | [] => rfl
  | x :: xs => by cases x <;> exact Zty xs
theorem C.enter {xs : List Slot} {vs : List V} {l : List Cell} {H : Hp} (h : C F (xs.zip (vs.map some) ++ l) H) (hl : vs.length = xs.length) :
    ∃ S, GS F S H ∧ (∀ p ∈ l, SC F S H p) ∧ l.Pairwise (Zbw H) ∧ C ⟨F.K, F.mg, H, S⟩ ((xs.map Slot.arg).zip (vs.map some)) H := by
  obtain ⟨S, g, cc, pw⟩ := h.argF hl
  refine ⟨S, g, fun p hp => cc p (List.mem_append_right _ hp), pw.sublist (List.sublist_append_right _ _), S, ⟨Same.refl S, g.sh, Same.refl H, fun a z => .inl z⟩, fun p hp => ?_, ?_⟩
  · have conv : ∀ (xs : List Slot) (us : List (Option V)), p ∈ (xs.map Slot.arg).zip us → ∃ q ∈ (xs.map frzS).zip us, p = (q.1.arg, q.2) := by
      intro xs
      induction xs with
      | nil => intro us h; simp at h
      | cons x xs ih =>
        intro us h
        cases us with
        | nil => simp at h
        | cons u us =>
          rcases List.mem_cons.mp h with rfl | h
          · refine ⟨(frzS x, u), List.mem_cons_self, ?_⟩
            cases x <;> rfl
          · obtain ⟨q, hq, e⟩ := ih us h
            exact ⟨q, List.mem_cons_of_mem _ hq, e⟩
    obtain ⟨q, hq, rfl⟩ := conv xs _ hp
    have s := cc q (List.mem_append_left _ hq)
    obtain ⟨x, v⟩ := q
    cases x with
    | un => trivial
    | sh d => exact s
    | ow d =>
      exfalso
      have hm : Slot.ow d ∈ xs.map frzS := (List.of_mem_zip hq).1
      obtain ⟨y, _, e⟩ := List.mem_map.mp hm
      cases y <;> cases e
    | bo d => obtain ⟨a, e, _, r⟩ := s; exact ⟨a, e, r.nn, r⟩
    | bt d => obtain ⟨a, e, r⟩ := s; exact ⟨a, e, r.nn, r⟩
    | lk a d => obtain ⟨e, _, _, r⟩ := s; exact ⟨a, e, r.nn, r⟩
    | lo a _ d => trivial
    | nd d => trivial
    | nb d => obtain ⟨a, e, r, _⟩ := s; exact ⟨a, e, r, r.dom1⟩
    | ln fp d => obtain ⟨a, e, r, _⟩ := s; exact ⟨a, e, r, r.dom1⟩
    | xc a => exact s
    | xe a dd ns => exact s.1
    | na a d => trivial
    | rt _ _ => trivial
  · have : ∀ p ∈ (xs.map Slot.arg).zip (vs.map some), ¬ p.1.own := fun p hp => by
      obtain ⟨y, _, e⟩ := List.mem_map.mp (List.of_mem_zip hp).1
      rw [← e]
      cases y <;> exact fun z => z
    revert this
    generalize (xs.map Slot.arg).zip (vs.map some) = m
    intro this
    induction m with
    | nil => exact .nil
    | cons p m ih => exact Zbh (this p List.mem_cons_self) (ih fun q hq => this q (List.mem_cons_of_mem _ hq))
theorem C.leave {l : List Cell} {S H H' : Hp} (g : GS F S H) (cc : ∀ p ∈ l, SC F S H p) (pw : l.Pairwise (Zbw H)) {m : List Cell} (h : C ⟨F.K, F.mg, H, S⟩ m H') (hm : ∀ p ∈ m, (∃ d v, p = (.sh d, v)) ∨ (∃ d v, p = (.ow d, v)) ∨ ∃ d v, p = (.nd d, v)) : C F (m ++ l) H' := by
  obtain ⟨S', g', cc', pw'⟩ := h
  have gr : ∀ p ∈ l, SC F S' H' p := fun p hp => (cc p hp).grow g'.s0 g'.h0 fun a z => by
    rcases g'.fr a z with y | y | y
    · exact .inl y
    · exact .inr (.inl y)
    · exact .inr (g'.kt_old y)
  refine ⟨S', ⟨g.s0.trans g'.s0, g'.sh, g.h0.trans g'.h0, fun a z => ?_⟩, fun p hp => ?_, List.pairwise_append.mpr ⟨pw', Zh7 pw cc g'.h0, fun p hp q hq => ?_⟩⟩
  · rcases g'.fr a z with z | z | z
    · rcases g.fr a z with y | y | y
      · exact .inl y
      · exact .inr (.inl y)
      · exact .inr (.inr (by rw [Zkl g'.s0 z]; exact y))
    · exact .inr (.inl (g.h0.free z))
    · exact .inr (.inr z)
  · rcases List.mem_append.mp hp with hp | hp
    · have s := cc' p hp
      rcases hm p hp with ⟨d, v, rfl⟩ | ⟨d, v, rfl⟩ | ⟨d, v, rfl⟩
      · exact s
      · obtain ⟨a, e, h0, hS, r⟩ := s
        exact ⟨a, e, g.h0.free h0, hS, r⟩
      · obtain ⟨a, e, r, n, q⟩ := s
        exact ⟨a, e, r, n, fun b hb => ⟨g.h0.free (q b hb).1, (q b hb).2⟩⟩
    · exact gr p hp
  · have key : Dj H' p q := fun a ha hb => by
      rw [Zhv (cc q hq) g'.h0] at hb
      exact (Zeo (cc q hq) a hb).1 (Zeo (cc' p hp) a ha).2.1
    exact ⟨fun _ _ => key, fun _ _ => key⟩
end
section
variable {X : Cx} {F : Fr} {W : WX} {a b c e o : Expr} {es : List Expr} {wa wb wc w : WE} {wA : WA} {pos : Pos}
theorem Zyb {k n : Nat} {f : Addr} {fd : FuncData} {ps : List Str} {γ : G} {x : Str} {p : Pos} (m : Ze5 γ) (Fk : FnOk X.prog X.w X.K X.mg X.base (L2.CX X.prog X.w) k f fd ps (spG F.K F.mg n γ)) (hr : Room k X.A)
    (hm : X.mg x = some (.ref f)) (hk : PySem.W.keepIn X.K (.ref f) = true) (hb : Binds X.K fd ps []) (tk : Takes X W) (hn : (e :: es).length = n) (ha : DA X F W (e :: es) wA) (hnA : ∀ env Q, wA env Q → wA env fun r => Q r ∧ ∀ xs, r = .ok xs → xs.length = n)
    (hg : Gl X x := by rfl) (hdb : (x == ("__debug__" : Str)) = false := by decide) (he : starEach (e :: es) X.env = (false, eval e X.env) :: starEach es X.env := by rfl) (hpl : (backTo pos (starEach es X.env)).any (·.1) = false := by rfl) :
    DE X F W (.Call (.Name x p) (e :: es) [] pos) (Zcx γ wA) := by
  refine ⟨Zbr (pe_callS (E := L2.WE W) Fk hr hg hm hk hb (fun σ => passAt tk σ) ha.run hdb he hpl) fun σ H Q ⟨l, env, k, q⟩ => ⟨l, env, k, ?_⟩, fun env Q Q' mm q => Za3 ha.mono (fun xs hx => m _ _ _ (Zjc mm) hx) mm q⟩
  refine ha.mono env _ _ (fun r z => ?_) (hnA env _ q)
  obtain ⟨z, hlen⟩ := z
  cases r with
  | ex c fs => exact z
  | ok xs =>
    intro vs H1 hl c1
    have hx : γ (xs.map Slot.arg) (outK (LEp F W l env σ Q)) := z
    obtain ⟨S, g, cc, pw, ce⟩ := c1.enter hl
    refine ⟨by rw [hl]; exact hlen xs rfl, xs.map Slot.arg, S, H1, by rw [List.length_map]; exact hl.symm, fun x hx => ?_, ce, m _ _ _ (fun r z => ?_) hx⟩
    · obtain ⟨y, _, rfl⟩ := List.mem_map.mp hx
      exact Zyr y
    · cases r with
      | ok x =>
        cases x with
        | sh d => exact fun v H' c2 => z v H' (C.leave g cc pw c2 fun p hp => by
            have e : p = (.sh d, some v) := by simpa using hp
            exact .inl ⟨d, _, e⟩)
        | ow d => exact fun v H' c2 => z v H' (C.leave g cc pw c2 fun p hp => by
            have e : p = (.ow d, some v) := by simpa using hp
            exact .inr (.inl ⟨d, _, e⟩))
        | nd d => exact fun v H' c2 => z v H' (C.leave g cc pw c2 fun p hp => by
            have e : p = (.nd d, some v) := by simpa using hp
            exact .inr (.inr ⟨d, _, e⟩))
        | un => exact z
        | bo d => exact z
        | bt d => exact z
        | lk _ d => exact z
        | lo _ _ _ => exact z
        | nb _ => exact z
        | ln _ _ => exact z
        | xc _ => exact z
        | xe _ _ _ => exact z
        | na _ _ => exact z
        | rt _ _ => exact (show False from z).elim
      | ex c fs => exact fun A d H' hA hx c2 => z A d H' hA hx (C.leave (m := []) g cc pw (by rw [Zty] at c2; exact c2) fun p hp => by simp at hp)
theorem Zbq : ∀ env (Q : R (List Slot) → Prop), aNil env Q → aNil env fun r => Q r ∧ ∀ xs, r = .ok xs → xs.length = 0 := fun env Q h => ⟨h, fun xs e => by cases e; rfl⟩
theorem Zaw {n : Nat} (m1 : Mono w) (m2 : Mono wA) (h2 : ∀ env Q, wA env Q → wA env fun r => Q r ∧ ∀ xs, r = .ok xs → xs.length = n) : ∀ env Q, Zak w wA env Q → Zak w wA env fun r => Q r ∧ ∀ xs, r = .ok xs → xs.length = n + 1 := fun env Q h =>
  m1 env _ _ (fun r z => match r, z with
    | .ok x, z => m2 env _ _ (fun r' z' => match r', z' with
      | .ok xs, z' => ⟨z'.1, fun ys e => by cases e; simp [z'.2 xs rfl]⟩
      | .ex c fs, z' => ⟨z'.1, fun ys e => nomatch e⟩) (h2 env _ z)
    | .ex c fs, z => ⟨z, fun ys e => nomatch e⟩) h
end
inductive O where
  | nx (env : En) | ret (x : Slot) | bk (env : En) | ct (env : En) | ex (c : Str) (fs : List (Str × D)) (env : En)
noncomputable abbrev WS := En → (O → Prop) → Prop
noncomputable abbrev WG := Slot → En → (En → Prop) → Prop
noncomputable def Zbi (w : WS) : Prop := ∀ env Q Q', (∀ r, Q r → Q' r) → w env Q → w env Q'
noncomputable def Zky (g : WG) : Prop := ∀ x env k k', (∀ e, k e → k' e) → g x env k → g x env k'
noncomputable def rks {α : Type} (k : α → Prop) (Q : O → Prop) (env : En) : R α → Prop
  | .ok x => k x
  | .ex c fs => Q (.ex c fs env)
theorem Zcf {α : Type} {w : En → (R α → Prop) → Prop} (m : Mono w) {k k' : α → Prop} {Q Q' : O → Prop} {env : En} (hk : ∀ x, k x → k' x) (hq : ∀ r, Q r → Q' r) (h : w env (rks k Q env)) : w env (rks k' Q' env) :=
  m env _ _ (fun r q => match r, q with
    | .ok x, q => hk x q
    | .ex c fs, q => hq _ q) h
noncomputable def LSp (F : Fr) (W : WX) (l : List Cell) (D : Ends) : O → Prop
  | .nx env' => ∀ σ' H', CE F l env' σ' H' → D.nx σ' H'
  | .bk env' => ∀ σ' H', CE F l env' σ' H' → D.bk σ' H'
  | .ct env' => ∀ σ' H', CE F l env' σ' H' → D.ct σ' H'
  | .ret x => ∀ v H', C F (Zoq x (some v) ++ l) H' → D.rt v H'
  | .ex c fs env' => ∀ A d σ' H', F.mg c = some (.ref A) → XF H' d fs → CE F l env' σ' H' → W (.ref A) d σ' H'
noncomputable def LS (F : Fr) (W : WX) (w : WS) : TS := fun D σ H => ∃ l env, CE F l env σ H ∧ (∀ p ∈ l, p.1.env) ∧ w env (LSp F W l D)
structure DS (X : Cx) (F : Fr) (W : WX) (st : Stmt) (w : WS) : Prop where
  run : PS X st (LS F W w)
  mono : Zbi w
structure DSs (X : Cx) (F : Fr) (W : WX) (sts : List Stmt) (w : WS) : Prop where
  run : PSs X sts (LS F W w)
  mono : Zbi w
noncomputable def LG (F : Fr) (g : WG) : TG := fun v σ H Q => ∃ l env x, env.length = σ.length ∧ (∀ y ∈ env, y.env) ∧ C F ((x, some v) :: (l ++ env.zip σ)) H ∧ g x env fun env' => ∀ σ' H', CE F l env' σ' H' → Q σ' H'
structure DG (X : Cx) (F : Fr) (tg : Expr) (g : WG) : Prop where
  run : PG X tg (LG F g)
  mono : Zky g
section
variable {X : Cx} {F : Fr} {W : WX} {e tg : Expr} {st : Stmt} {sts : List Stmt} {we wc : WE} {w w1 w2 : WS} {g : WG} {pos : Pos}
theorem Z0d {l : List Cell} {Dn : Ends} {env : En} {σ : L2.St} {Q : VK} {c : Str} {fs : List (Str × D)} (k : LSp F W l Dn (.ex c fs env)) (hl : env.length = σ.length) (ho : ∀ x ∈ env, x.env) : LEp F W l env σ Q (.ex c fs) :=
  fun A d H' hA hx c2 => k A d σ H' hA hx ⟨hl, ho, c2⟩
theorem Ztx {l : List Cell} {env : En} {σ : L2.St} {H : Hp} {D : Ends} {k : Slot → Prop} {Q : VK} (he : DE X F W e we) (ce : CE F l env σ H) (h : we env (rks k (LSp F W l D) env))
    (h1 : ∀ x, k x → ∀ v H', C F ((x, some v) :: (l ++ env.zip σ)) H' → Q v H') : LE F W we σ H Q :=
  ⟨l, env, ce, he.mono env _ _ (fun r z => match r, z with
    | .ok x, z => h1 x z
    | .ex c fs, z => Z0d (Dn := D) z ce.len ce.ok) h⟩
theorem Z2a {l : List Cell} {env : En} {σ : L2.St} {H : Hp} {D : Ends} {k : Bool → Prop} {Q : Bool → Hp → Prop} (he : DT X F W e we) (ce : CE F l env σ H) (h : we env (rks (asB k) (LSp F W l D) env))
    (h1 : ∀ b, k b → ∀ H', C F (l ++ env.zip σ) H' → Q b H') : LT F W we σ H Q :=
  ⟨l, env, ce, he.mono env _ _ (fun r z => match r, z with
    | .ok x, z => by
      have z : asB k x := z
      unfold asB at z
      split at z
      · exact ⟨_, rfl, fun H' c => h1 _ z H' c⟩
      · exact z.elim
    | .ex c fs, z => fun A d H' hA hx c2 => z A d σ H' hA hx ⟨ce.len, ce.ok, c2⟩) h⟩
noncomputable def Zbd : WS := fun env Q => Q (.nx env)
noncomputable def wSeq (w1 w2 : WS) : WS := fun env Q => w1 env fun o => match o with
  | .nx e => w2 e Q
  | o => Q o
theorem Zay : DSs X F W [] Zbd := ⟨Zoz pss_nil fun D σ H ⟨l, env, k, hl, q⟩ => q σ H k, fun _ _ _ m h => m _ h⟩
theorem Zae (h1 : Zbi w1) (h2 : Zbi w2) : Zbi (wSeq w1 w2) := fun env Q Q' m h => h1 env _ _ (fun o z => match o, z with
  | .nx e, z => h2 e _ _ m z
  | .ret _, z => m _ z
  | .bk _, z => m _ z
  | .ct _, z => m _ z
  | .ex _ _ _, z => m _ z) h
theorem Zai (h1 : DS X F W st w1) (h2 : DSs X F W sts w2) : DSs X F W (st :: sts) (wSeq w1 w2) :=
  ⟨Zoz (pss_cons h1.run h2.run) fun D σ H ⟨l, env, k, hl, q⟩ => ⟨l, env, k, hl, h1.mono env _ _ (fun o z => match o, z with
    | .nx e, z => fun σ' H' k' => ⟨l, e, k', hl, z⟩
    | .ret _, z => z
    | .bk _, z => z
    | .ct _, z => z
    | .ex _ _ _, z => z) q⟩, Zae h1.mono h2.mono⟩
theorem Za8 (h1 : DS X F W st w1) : DSs X F W [st] w1 := ⟨pss_one h1.run, h1.mono⟩
noncomputable def wFrz (i : Nat) (w : WS) : WS := fun env Q => match env[i]? with
  | some x => w (env.set i (frzS x)) Q
  | none => False
theorem CE.frz {l : List Cell} {env : En} {σ : L2.St} {H : Hp} {i : Nat} {x : Slot} (k : CE F l env σ H) (hx : env[i]? = some x) : CE F l (env.set i (frzS x)) σ H := by
  obtain ⟨v, h1, h2⟩ := Zb4 k.len hx
  refine ⟨by rw [List.length_set]; exact k.len, fun y hy => ?_, ?_⟩
  · rcases List.mem_or_eq_of_mem_set hy with hy | rfl
    · exact k.ok y hy
    · have := k.ok x (Zbj hx)
      cases x <;> first | exact this | trivial
  · have e : σ = σ.set i v := by
      apply List.ext_getElem?
      intro j
      rw [List.getElem?_set]
      split
      · subst_vars
        split
        · rw [h1]
        · rename_i hlt
          rw [List.getElem?_eq_none (by omega)]
      · rfl
    rw [e, Zj8]
    have p1 := Zex h2
    have p2 := Zi2 (y := (frzS x, v)) h2
    have c1 : C F ((x, v) :: (l ++ (env.zip σ).eraseIdx i)) H := (k.c.perm (List.Perm.append_left l p1)).front
    have c2 : C F ((frzS x, v) :: (l ++ (env.zip σ).eraseIdx i)) H := by
      cases x with
      | ow d => exact c1.frz
      | un => exact c1
      | sh d => exact c1
      | bo d => exact c1
      | bt d => exact c1
      | lk _ d => exact c1
      | lo _ _ _ => exact c1
      | nd _ => exact c1
      | nb _ => exact c1
      | ln _ _ => exact c1
      | xc _ => exact c1
      | xe _ _ _ => exact c1
      | na _ _ => exact c1
      | rt _ _ => exact c1
    exact c2.back.perm (List.Perm.append_left l p2.symm)
theorem Zw6 (i : Nat) (h : DS X F W st w) : DS X F W st (wFrz i w) := by
  refine ⟨Zf6 h.run fun D σ H ⟨l, env, k, hl, q⟩ => ?_, fun env Q Q' m q => ?_⟩
  · unfold wFrz at q
    split at q
    · rename_i x e
      exact ⟨l, _, k.frz e, hl, q⟩
    · exact q.elim
  · unfold wFrz at q ⊢
    split at q
    · exact h.mono _ _ _ m q
    · exact q.elim
theorem C.setName {l : List Cell} {env : En} {σ : L2.St} {H : Hp} {i : Nat} {x : Slot} {v : V} (hl : env.length = σ.length) (ho : ∀ y ∈ env, y.env) (hx : x.env) (hi : i < env.length) (c : C F ((x, some v) :: (l ++ env.zip σ)) H) : CE F l (env.set i x) (σ.set i (some v)) H := by
  refine ⟨by simp [hl], fun y hy => ?_, ?_⟩
  · rcases List.mem_or_eq_of_mem_set hy with hy | rfl
    · exact ho y hy
    · exact hx
  · rw [Zj8]
    obtain ⟨w, hw⟩ : ∃ w, (env.zip σ)[i]? = some w := ⟨_, List.getElem?_eq_getElem (by rw [List.length_zip]; omega)⟩
    have p2 := Zi2 (y := (x, some v)) hw
    have c1 : C F ((x, some v) :: (l ++ (env.zip σ).eraseIdx i)) H := c.sub (List.Sublist.cons_cons _ ((List.eraseIdx_sublist _ _).append_left l))
    exact c1.back.perm (List.Perm.append_left l p2.symm)
noncomputable def gN (i : Nat) : WG := fun x env k => match x with
  | .sh d => i < env.length ∧ k (env.set i (.sh d))
  | .ow d => i < env.length ∧ k (env.set i (.ow d))
  | .nd d => i < env.length ∧ k (env.set i (.nd d))
  | _ => False
theorem Zj0 (i : Nat) {x : Str} (hN : X.N.Nodup) (hi : X.N[i]? = some x := by rfl) (hx : Loc X.env.scope x := by first | exact Or.inl rfl | exact Or.inr rfl) (hf : X.fn x = true ∨ X.env.scope.names.lookup x = some .local := by first | exact .inl rfl | exact .inr rfl) : DG X F (.Name x pos) (gN i) := by
  refine ⟨⟨fun pins s σ H v u Q I r h => ?_⟩, fun x env k k' m h => ?_⟩
  · refine (pg_name hN hi hx hf).run pins s σ H v u Q I r ?_
    obtain ⟨l, env, y, hl, ho, c, h⟩ := h
    unfold gN at h
    split at h
    · exact h.2 _ _ (C.setName hl ho trivial h.1 c)
    · exact h.2 _ _ (C.setName hl ho trivial h.1 c)
    · exact h.2 _ _ (C.setName hl ho trivial h.1 c)
    · exact h.elim
  · unfold gN at h ⊢
    split at h
    · exact ⟨h.1, m _ h.2⟩
    · exact ⟨h.1, m _ h.2⟩
    · exact ⟨h.1, m _ h.2⟩
    · exact h.elim
noncomputable def Zm5 : List Nat → List D → En → (En → Prop) → Prop
  | [], [], env, k => k env
  | i :: is, d :: ds, env, k => i < env.length ∧ Zm5 is ds (env.set i (.sh d)) k
  | _, _, _, _ => False
noncomputable def gT (is : List Nat) : WG := fun x env k => match x.dat with
  | some (.tup ds) => Zm5 is ds env k
  | some (.lst ds) => Zm5 is ds env k
  | _ => False
theorem Zew : ∀ {is : List Nat} {ds : List D} {env : En} {k k' : En → Prop}, (∀ e, k e → k' e) → Zm5 is ds env k → Zm5 is ds env k'
  | [], [], _, _, _, m, h => m _ h
  | _ :: _, _ :: _, _, _, _, m, h => ⟨h.1, Zew m h.2⟩
  | [], _ :: _, _, _, _, _, h => h.elim
  | _ :: _, [], _, _, _, _, h => h.elim
theorem Zj6 : ∀ {is : List Nat} {ds : List D} {env : En} {k : En → Prop}, Zm5 is ds env k → ds.length = is.length
  | [], [], _, _, _ => rfl
  | _ :: is, _ :: ds, _, _, h => by simp [Zj6 h.2]
  | [], _ :: _, _, _, h => h.elim
  | _ :: _, [], _, _, h => h.elim
noncomputable def gNs : List Nat → TGs
  | [] => gNil
  | i :: is => gCons (gName i) (gNs is)
inductive NamesAt (X : Cx) : List Expr → List Nat → Prop
  | nil : NamesAt X [] []
  | cons {x : Str} {p : Pos} {es : List Expr} {i : Nat} {is : List Nat} (hi : X.N[i]? = some x) (hx : Loc X.env.scope x) (hf : X.fn x = true ∨ X.env.scope.names.lookup x = some .local) (r : NamesAt X es is) : NamesAt X (.Name x p :: es) (i :: is)
theorem NamesAt.pgs (hN : X.N.Nodup) : ∀ {es : List Expr} {is : List Nat}, NamesAt X es is → PGs X es (gNs is)
  | _, _, .nil => pgs_nil
  | _, _, .cons hi hx hf r => pgs_cons (pg_name hN hi hx hf) (NamesAt.pgs hN r)
theorem Zpf {l : List Cell} {Q : L2.St → Hp → Prop} {H : Hp} : ∀ {is : List Nat} {ds : List D} {vs : List V} {env : En} {σ : L2.St}, vs.length = ds.length → env.length = σ.length → (∀ y ∈ env, y.env) →
    (C F ((ds.map Slot.sh).zip (vs.map some) ++ (l ++ env.zip σ)) H) → Zm5 is ds env (fun env' => ∀ σ' H', CE F l env' σ' H' → Q σ' H') → gNs is vs σ H Q
  | [], [], [], env, σ, _, hl, ho, c, h => ⟨rfl, h σ H ⟨hl, ho, c⟩⟩
  | i :: is, d :: ds, v :: vs, env, σ, hv, hl, ho, c, h => by
    obtain ⟨hi, h⟩ := h
    refine ⟨v, vs, rfl, ?_⟩
    have c1 : C F ((.sh d, some v) :: (((ds.map Slot.sh).zip (vs.map some) ++ l) ++ env.zip σ)) H := by rw [List.append_assoc]; exact c
    have k := C.setName (x := .sh d) hl ho trivial hi c1
    refine Zpf (is := is) (ds := ds) (vs := vs) (by simpa using hv) k.len k.ok ?_ h
    rw [← List.append_assoc]; exact k.c
  | [], _ :: _, _, _, _, _, _, _, _, h => h.elim
  | _ :: _, [], _, _, _, _, _, _, _, h => h.elim
  | _, [], _ :: _, _, _, hv, _, _, _, _ => by simp at hv
  | _, _ :: _, [], _, _, hv, _, _, _, _ => by simp at hv
theorem C.spread {l : List Cell} {vs : List V} {ds : List D} {S H : Hp} (g : GS F S H) (cc : ∀ p ∈ l, SC F S H p) (pw : l.Pairwise (Zbw H)) (r : Reps F.K S vs ds) : C F ((ds.map Slot.sh).zip (vs.map some) ++ l) H := by
  have : ∀ {vs : List V} {ds : List D}, Reps F.K S vs ds → (∀ p ∈ (ds.map Slot.sh).zip (vs.map some), SC F S H p) ∧ ∀ p ∈ (ds.map Slot.sh).zip (vs.map some), ¬ p.1.own := fun {vs ds} r => by
    induction ds generalizing vs with
    | nil => cases r; exact ⟨fun p hp => by simp at hp, fun p hp => by simp at hp⟩
    | cons d ds ih =>
      cases r with
      | cons r1 r2 =>
        obtain ⟨i1, i2⟩ := ih r2
        refine ⟨fun p hp => ?_, fun p hp => ?_⟩
        · rcases List.mem_cons.mp hp with rfl | hp
          · exact ⟨_, rfl, r1⟩
          · exact i1 p hp
        · rcases List.mem_cons.mp hp with rfl | hp
          · exact fun z => z
          · exact i2 p hp
  obtain ⟨i1, i2⟩ := this r
  refine ⟨S, g, fun p hp => (List.mem_append.mp hp).elim (i1 p) (cc p), ?_⟩
  revert i2
  generalize (ds.map Slot.sh).zip (vs.map some) = m
  intro i2
  induction m with
  | nil => exact pw
  | cons p m ih => exact Zbh (i2 p List.mem_cons_self) (ih fun q hq => i2 q (List.mem_cons_of_mem _ hq))
theorem Z1n {t1 t2 : TG} (h1 : PG X tg t1) (h2 : PG X tg t2) : PG X tg (fun v σ H Q => t1 v σ H Q ∨ t2 v σ H Q) := ⟨fun pins s σ H v u Q I r h => h.elim (h1.run pins s σ H v u Q I r) (h2.run pins s σ H v u Q I r)⟩
theorem Zft : ∀ {es : List Expr} {is : List Nat}, NamesAt X es is → (assignEach es X.env).length = es.length ∧ (assignEach es X.env).findIdx? (·.1) = none
  | _, _, .nil => ⟨rfl, rfl⟩
  | _, _, .cons (es := es) (x := x) (p := p) _ _ _ r => by
    obtain ⟨a, b⟩ := Zft r
    have e : assignEach (.Name x p :: es) X.env = (false, assign (.Name x p) X.env) :: assignEach es X.env := rfl
    rw [e]
    refine ⟨by simp [a], ?_⟩
    rw [List.findIdx?_cons, b]
    rfl
theorem Zna : ∀ {es : List Expr} {is : List Nat}, NamesAt X es is → es.length = is.length
  | _, _, .nil => rfl
  | _, _, .cons _ _ _ r => by simp [Zna r]
theorem Zk3 {es : List Expr} {is : List Nat} {k : Nat} (hc : X.calm = true) (hN : X.N.Nodup) (n : NamesAt X es is) (hK : X.K = F.K := by rfl) : DG X F (.Tuple es k pos) (gT is) := by
  obtain ⟨e1, e2⟩ := Zft n
  have en := Zna n
  refine ⟨⟨fun pins s σ H v u Q I r h => ?_⟩, fun x env k k' m h => ?_⟩
  · refine (Z1n (pg_tup (n := es.length) hc (n.pgs hN) e1 e2) (pg_lst (n := es.length) hc (n.pgs hN) e1 e2)).run pins s σ H v u Q I r ?_
    obtain ⟨l, env, y, hl, ho, c, h⟩ := h
    unfold gT at h
    split at h
    · rename_i ds e
      obtain ⟨a, vs, ea, hq, hlen, S, g, rp, cc, pw⟩ := c.seqT e
      cases ea
      have hn := Zj6 h
      refine .inl ⟨a, vs, rfl, by rw [hK]; exact hq, by omega, ?_⟩
      exact Zpf hlen hl ho (C.spread g (fun p hp => cc p (List.mem_cons_of_mem _ hp)) pw rp) h
    · rename_i ds e
      obtain ⟨a, vs, ea, hq, hlen, S, g, rp, cc, pw⟩ := c.seqL e
      cases ea
      have hn := Zj6 h
      refine .inr ⟨a, vs, rfl, by rw [hK]; exact hq, by omega, ?_⟩
      exact Zpf hlen hl ho (C.spread g (fun p hp => cc p (List.mem_cons_of_mem _ hp)) pw rp) h
    · exact h.elim
  · unfold gT at h ⊢
    split at h
    · exact Zew m h
    · exact Zew m h
    · exact h.elim
noncomputable def wAsg (g : WG) (we : WE) : WS := fun env Q => we env (rks (fun x => g x env fun env' => Q (.nx env')) Q env)
theorem Zao (hg : Zky g) (he : Mono we) : Zbi (wAsg g we) := fun env Q Q' m h => Zcf he (fun x hx => hg x env _ _ (fun e z => m _ z) hx) m h
theorem Zr3 (hg : DG X F tg g) (he : DE X F W e we) (hs : swapsWithSole [tg] e pos.line X.env = pure false := by rfl) (hw : swappedStores [tg] e X.env = pure none := by rfl)
    (h1 : (assignEach [tg] X.env).map (·.2) = [assign tg X.env] := by rfl) : DS X F W (.Assign [tg] e pos) (wAsg g we) :=
  ⟨Zf6 (ps_asg he.run hg.run hs hw h1) fun D σ H ⟨l, env, k, hl, q⟩ => Ztx he k q fun x hx v H1 c1 => ⟨l, env, x, k.len, k.ok, c1, hx⟩, Zao hg.mono he.mono⟩
theorem Za7 (i : Nat) {x : Str} {p : Pos} (hN : X.N.Nodup) (he : DE X F W e we) (hi : X.N[i]? = some x := by rfl) (hx : Loc X.env.scope x := by first | exact Or.inl rfl | exact Or.inr rfl) (hs : swapsWith e (some (.Name x p)) pos.line X.env = pure false := by rfl)
    (hf : X.fn x = true ∨ X.env.scope.names.lookup x = some .local := by first | exact .inl rfl | exact .inr rfl) : DS X F W (.Assign [.Name x p] e pos) (wAsg (gN i) we) := by
  have hg : DG X F (.Name x p) (gN i) := Zj0 i hN hi hx hf
  refine ⟨Zf6 (ps_set hN hi hx he.run hs hf) fun D σ H ⟨l, env, k, hl, q⟩ => Ztx he k q fun x hx v H1 c1 => ?_, Zao hg.mono he.mono⟩
  unfold gN at hx
  split at hx
  · exact hx.2 _ _ (C.setName k.len k.ok trivial hx.1 c1)
  · exact hx.2 _ _ (C.setName k.len k.ok trivial hx.1 c1)
  · exact hx.2 _ _ (C.setName k.len k.ok trivial hx.1 c1)
  · exact hx.elim
noncomputable def wIf (wc : WE) (w1 w2 : WS) : WS := fun env Q => wc env (rks (asB fun b => match b with | true => w1 env Q | false => w2 env Q) Q env)
theorem Zb6 {s1 s2 : List Stmt} (hc : DT X F W e wc) (h1 : DSs X F W s1 w1) (h2 : DSs X F W s2 w2) : DS X F W (.If e s1 s2 pos) (wIf wc w1 w2) :=
  ⟨Zf6 (ps_if hc.run h1.run h2.run) fun D σ H ⟨l, env, k, hl, q⟩ => Z2a hc k q fun b hb H1 c1 => by
    cases b with
    | true => exact ⟨l, env, k.at c1, hl, hb⟩
    | false => exact ⟨l, env, k.at c1, hl, hb⟩, fun env Q Q' m h => Zcf hc.mono (fun x hx => Zhj (fun b z => match b, z with
    | true, z => h1.mono env _ _ m z
    | false, z => h2.mono env _ _ m z) hx) m h⟩
noncomputable def wRet (we : WE) : WS := fun env Q => we env (rks (fun x => Q (.ret x)) Q env)
theorem Zbf (he : DE X F W e we) : DS X F W (.Return (some e) pos) (wRet we) :=
  ⟨Zf6 (ps_ret he.run) fun D σ H ⟨l, env, k, hl, q⟩ => Ztx he k q fun x hx v H1 c1 => hx v H1 (C.cells (c1.sub (List.Sublist.cons_cons _ (List.sublist_append_left _ _)))), fun env Q Q' m h => Zcf he.mono (fun x z => m _ z) m h⟩
noncomputable def Zh4 (i : Nat) : WS := fun env Q => match env[i]? with
  | some (.sh d) => Q (.ret (.sh d))
  | some (.ow d) => Q (.ret (.ow d))
  | some (.nd d) => Q (.ret (.nd d))
  | _ => False
theorem Zo9 (i : Nat) {x : Str} {p : Pos} (hN : X.N[i]? = some x := by rfl) (hv : Vis X.env.scope x := by first | exact Or.inl rfl | exact Or.inr (Or.inl rfl) | exact Or.inr (Or.inr rfl)) (hd : (x == ("__debug__" : Str)) = false := by decide)
    (hcd : (x == ("__classdict__" : Str)) = false := by decide) : DS X F W (.Return (some (.Name x p)) pos) (Zh4 i) := by
  refine ⟨Zf6 (ps_ret (pe_var hN hv hd hcd)) fun D σ H ⟨l, env, k, hl, q⟩ => ?_, fun env Q Q' m h => ?_⟩
  · unfold Zh4 at q
    split at q
    · rename_i d e
      obtain ⟨v, h1, h2⟩ := Zb4 k.len e
      have c1 := k.c.dup (List.mem_append_right l (Zbj h2))
      obtain ⟨u, rfl⟩ := c1.val
      exact ⟨u, h1, q u H (c1.sub (List.Sublist.cons_cons _ (List.sublist_append_left _ _)))⟩
    · rename_i d e
      obtain ⟨v, h1, h2⟩ := Zb4 k.len e
      have c1 : C F ((.ow d, v) :: (l ++ (env.zip σ).eraseIdx i)) H := (k.c.perm (List.Perm.append_left l (Zex h2))).front
      obtain ⟨S, g, cc, _⟩ := id c1
      obtain ⟨a, ea, _⟩ := cc _ List.mem_cons_self
      subst ea
      exact ⟨.ref a, h1, q _ H (c1.sub (List.Sublist.cons_cons _ (List.sublist_append_left _ _)))⟩
    · rename_i d e
      obtain ⟨v, h1, h2⟩ := Zb4 k.len e
      have c1 : C F ((.nd d, v) :: (l ++ (env.zip σ).eraseIdx i)) H := (k.c.perm (List.Perm.append_left l (Zex h2))).front
      obtain ⟨S, g, cc, _⟩ := id c1
      obtain ⟨a, ea, _⟩ := cc _ List.mem_cons_self
      subst ea
      exact ⟨.ref a, h1, q _ H (c1.sub (List.Sublist.cons_cons _ (List.sublist_append_left _ _)))⟩
    · exact q.elim
  · unfold Zh4 at h ⊢
    split at h
    · exact m _ h
    · exact m _ h
    · exact m _ h
    · exact h.elim
end
end DL
set_option Elab.async false
set_option linter.all false
set_option maxRecDepth 100000
set_option maxHeartbeats 4000000
namespace DL
open PySem PySem.Spec PyProof.Rows L2
section
variable {X : Cx} {F : Fr} {W : WX} {e e2 tg : Expr} {es : List Expr} {st : Stmt} {sts : List Stmt} {we we2 wc wk : WE} {wA : WA} {w w1 w2 : WS} {g : WG} {wi : WI} {pos p : Pos}
noncomputable def ItS (F : Fr) (J : It) (ds : List D) (gh : List Cell) : Prop := ∀ (l : List Cell) (H : Hp), C F (gh ++ l) H → ∀ i : Nat,
  (∀ d, ds[i]? = some d → J.go i H ∧ ∀ x H', J.yld i H x H' → C F ((.sh d, some x) :: (gh ++ l)) H') ∧ (ds.length ≤ i → J.stop i H)
noncomputable def LIp (F : Fr) (W : WX) (l : List Cell) (env : En) (σ : L2.St) (Rk : It → Hp → Prop) : R (List D) → Prop
  | .ok ds => ∀ J gh H', (∀ q ∈ gh, q.1.env) → ItS F J ds gh → C F (gh ++ (l ++ env.zip σ)) H' → Rk J H'
  | .ex c fs => ∀ A d H', F.mg c = some (.ref A) → XF H' d fs → C F (l ++ env.zip σ) H' → W (.ref A) d σ H'
noncomputable def LI (F : Fr) (W : WX) (w : WI) : TI := fun σ H Rk => ∃ l env, CE F l env σ H ∧ w env (LIp F W l env σ Rk)
structure DI (X : Cx) (F : Fr) (W : WX) (tg iter : Expr) (w : WI) : Prop where
  run : PI X tg iter (LI F W w)
  mono : Mono w
theorem Zqj {iter : Expr} {t t' : TI} (h : PI X tg iter t) (q : ∀ σ H R, t' σ H R → t σ H R) : PI X tg iter t' := ⟨fun pins s σ H R I z => h.run pins s σ H R I (q _ _ _ z)⟩
noncomputable def iSeq (K : PySem.W.Frag) (tl : TE) : TI := fun σ H Rk => tl σ H fun x H1 => (∃ a, x = .ref a ∧ (∃ xs, SqL K H1 a xs) ∧ Rk (Itl K a) H1) ∨ ∃ a, x = .ref a ∧ (∃ xs, SqT K H1 a xs) ∧ Rk (Itt K a) H1
theorem Zzp {l : Expr} {tl : TE} (hl : PE X l tl) : PI X tg l (iSeq X.K tl) := by
  refine ⟨fun pins s σ H R I h => ?_⟩
  refine thn (hl.run pins s σ H _ I h) fun v s1 ⟨x, H1, I1, r1, q1⟩ => ?_
  rcases q1 with ⟨a, e, ⟨xs, hq⟩, q⟩ | ⟨a, e, ⟨xs, hq⟩, q⟩
  · subst e
    cases r1
    obtain ⟨its, rv, p, hz⟩ := I1.list hq
    refine wpAny_pyIter_list p.isList ?_
    refine ⟨s1.heap.objs.size, [s1.heap.objs.size], _, _, H1, rfl, I1.kept (t' := s1.toks) fun b o e => Heap.get?_push_of_some _ e, turn_list a _, ⟨_, Heap.get?_push_size _ rfl, rfl, rfl⟩, fun b hb => ?_, q⟩
    have e : b = s1.heap.objs.size := by simpa using hb
    subst e
    exact I1.fpOk (Nat.le_refl _) (I1.hok.fresh (Nat.le_refl _))
  · subst e
    cases r1
    obtain ⟨its, rv, p, hz⟩ := I1.tuple hq
    refine wpAny_pyIter_tuple (show s1.heap.IsTuple a its.toArray from p) ?_
    refine ⟨s1.heap.objs.size, [s1.heap.objs.size], _, _, H1, rfl, I1.kept (t' := s1.toks) fun b o e => Heap.get?_push_of_some _ e, turn_tuple a _, ⟨_, Heap.get?_push_size _ rfl, rfl, rfl⟩, fun b hb => ?_, q⟩
    have e : b = s1.heap.objs.size := by simpa using hb
    subst e
    exact I1.fpOk (Nat.le_refl _) (I1.hok.fresh (Nat.le_refl _))
noncomputable def Zhb (k : List D → Prop) : Slot → Prop
  | .sh (.lst ds) => k ds
  | .sh (.tup ds) => k ds
  | .bo (.lst ds) => k ds
  | .ow (.lst ds) => k ds
  | .lk _ (.lst ds) => k ds
  | _ => False
noncomputable def Zrq (we : WE) : WI := fun env Q => we env (rk (Zhb fun ds => Q (.ok ds)) Q)
theorem Zg3 {k k' : List D → Prop} (m : ∀ ds, k ds → k' ds) {x : Slot} (h : Zhb k x) : Zhb k' x := by
  unfold Zhb at h ⊢
  split at h
  · exact m _ h
  · exact m _ h
  · exact m _ h
  · exact m _ h
  · exact m _ h
  · exact h.elim
theorem C.ghost {l : List Cell} {H : Hp} {x : Slot} {v : V} {k : List D → Prop} (c : C F ((x, some v) :: l) H) (h : Zhb k x) : ∃ (ds : List D) (y : D × Slot), k ds ∧ ((x = .ow y.1 ∧ y.2 = Slot.sh y.1) ∨ (x = y.2)) ∧ y.2.still ∧ (y.2.dat = some (.lst ds) ∨ y.2.dat = some (.tup ds)) ∧ C F ((y.2, some v) :: l) H := by
  unfold Zhb at h
  split at h
  · rename_i ds; exact ⟨ds, (.lst ds, .sh (.lst ds)), h, .inr rfl, trivial, .inl rfl, c⟩
  · rename_i ds; exact ⟨ds, (.tup ds, .sh (.tup ds)), h, .inr rfl, trivial, .inr rfl, c⟩
  · rename_i ds; exact ⟨ds, (.lst ds, .bo (.lst ds)), h, .inr rfl, trivial, .inl rfl, c⟩
  · rename_i ds; exact ⟨ds, (.lst ds, .sh (.lst ds)), h, .inl ⟨rfl, rfl⟩, trivial, .inl rfl, c.frz⟩
  · rename_i a ds; exact ⟨ds, (.lst ds, .lk a (.lst ds)), h, .inr rfl, trivial, .inl rfl, c⟩
  · exact h.elim
theorem Zhg {x : Slot} (h : x.still) : x.env := by cases x <;> first | trivial | exact h.elim
theorem Zls {y : Slot} {v : Option V} (h : y.env) : ∀ q ∈ [(y, v)], (q : Cell).1.env := fun q hq => by
  have e : q = (y, v) := by simpa using hq
  subst e
  exact h
theorem Z15 {a : Addr} {ds : List D} {y : Slot} (hd : y.dat = some (.lst ds)) : ItS F (Itl F.K a) ds [(y, some (.ref a))] := by
  intro l H c i
  obtain ⟨a', vs, ea, hq, hl, S, g, r, cc, pw⟩ := C.seqL (l := l) c hd
  cases ea
  obtain ⟨_, _, _, pw'⟩ := id c
  refine ⟨fun d hd' => ?_, fun hi => ⟨vs, hq, by omega⟩⟩
  obtain ⟨u, hu, ru⟩ := r.get hd'
  refine ⟨⟨vs, u, hq, hu⟩, fun x H' ⟨e1, e2⟩ => ?_⟩
  subst e1
  have := e2 vs hq
  rw [hu] at this
  cases this
  exact C.beside g cc pw' ru
theorem Z1x {a : Addr} {ds : List D} {y : Slot} (hd : y.dat = some (.tup ds)) : ItS F (Itt F.K a) ds [(y, some (.ref a))] := by
  intro l H c i
  obtain ⟨a', vs, ea, hq, hl, S, g, r, cc, pw⟩ := C.seqT (l := l) c hd
  cases ea
  obtain ⟨_, _, _, pw'⟩ := id c
  refine ⟨fun d hd' => ?_, fun hi => ⟨vs, hq, by omega⟩⟩
  obtain ⟨u, hu, ru⟩ := r.get hd'
  refine ⟨⟨vs, u, hq, hu⟩, fun x H' ⟨e1, e2⟩ => ?_⟩
  subst e1
  have := e2 vs hq
  rw [hu] at this
  cases this
  exact C.beside g cc pw' ru
theorem Zwu (he : DE X F W e we) (hK : X.K = F.K := by rfl) : DI X F W tg e (Zrq we) := by
  refine ⟨Zqj (Zzp he.run) fun σ H Rk ⟨l, env, k, q⟩ => ⟨l, env, k, Zbe he.mono q (fun x hx v H1 c1 => ?_) fun c fs z => z⟩, fun env Q Q' m h => Za3 he.mono (fun x hx => Zg3 (fun ds z => m _ z) hx) m h⟩
  obtain ⟨ds, y, hk, _, hs, hd, c2⟩ := C.ghost c1 hx
  rw [hK]
  rcases hd with hd | hd
  · obtain ⟨a, vs, ea, hq, hl, _⟩ := c2.seqL hd
    cases ea
    exact .inl ⟨a, rfl, ⟨vs, hq⟩, hk _ [(y.2, some (.ref a))] H1 (Zls (Zhg hs)) (Z15 hd) c2⟩
  · obtain ⟨a, vs, ea, hq, hl, _⟩ := c2.seqT hd
    cases ea
    exact .inr ⟨a, rfl, ⟨vs, hq⟩, hk _ [(y.2, some (.ref a))] H1 (Zls (Zhg hs)) (Z1x hd) c2⟩
noncomputable def Bd62 (i : Int) : Prop := -(2 ^ 62) ≤ i ∧ i < 2 ^ 62
noncomputable def Zpb (ds : List D) : List D := ds.zipIdx.map fun (d, i) => D.tup [.int (i : Int), d]
noncomputable def zipD (ds es : List D) : List D := (ds.zip es).map fun (d, e) => D.tup [d, e]
noncomputable def lst1 (k : List D → Prop) : List Slot → Prop
  | [.sh (.lst ds)] => k ds
  | [.bo (.lst ds)] => k ds
  | [.ow (.lst ds)] => k ds
  | [.lk _ (.lst ds)] => k ds
  | _ => False
theorem Zjs {k k' : List D → Prop} (m : ∀ j, k j → k' j) {xs : List Slot} (h : lst1 k xs) : lst1 k' xs := by
  unfold lst1 at h ⊢
  split at h
  · exact m _ h
  · exact m _ h
  · exact m _ h
  · exact m _ h
  · exact h.elim
noncomputable def Zux (wA : WA) : WI := fun env Q => wA env (rk (lst1 fun ds => Q (.ok (Zpb ds))) Q)
theorem Z1o {a : Addr} {ds : List D} {y : Slot} (hd : y.dat = some (.lst ds)) : ItS F (Ite F.K a) (Zpb ds) [(y, some (.ref a))] := by
  intro l H c i
  obtain ⟨a', vs, ea, hq, hl, S, g, r, cc, pw⟩ := C.seqL (l := l) c hd
  cases ea
  obtain ⟨_, _, _, pw'⟩ := id c
  refine ⟨fun d hd' => ?_, fun hi => ⟨vs, hq, by
    have e : (Zpb ds).length = ds.length := by simp [Zpb]
    omega⟩⟩
  unfold Zpb at hd'
  rw [List.getElem?_map] at hd'
  obtain ⟨⟨d0, j⟩, hj, rfl⟩ := Option.map_eq_some_iff.mp hd'
  rw [List.getElem?_zipIdx] at hj
  obtain ⟨d1, h1, h2⟩ := Option.map_eq_some_iff.mp hj
  cases h2
  obtain ⟨u, hu, ru⟩ := r.get h1
  refine ⟨⟨vs, u, hq, hu⟩, fun x H' ⟨T, z, ex, hT, eH, hz⟩ => ?_⟩
  subst ex eH
  have := hz vs hq
  rw [hu] at this
  cases this
  refine C.newSh (c : C F ([(y, some (V.ref a))] ++ l) H) hT fun S' g' cc' => ?_
  have g2 : Same S' (upd S' T (.tup [.int (i : Int), u])) := Za9 (g'.sh.free hT)
  have ru' : Rep F.K S' u d0 := by
    obtain ⟨S2, g3, c3, _⟩ := c
    have s := cc' _ (List.mem_cons_self : (y, some (V.ref a)) ∈ _)
    have : ∃ vs', Reps F.K S' vs' ds ∧ SqL F.K H a vs' := by
      cases y with
      | un => cases hd
      | sh d => cases hd; obtain ⟨w, ew, rw⟩ := s; cases ew; cases rw with
        | lst hq2 r2 => exact ⟨_, r2, Zgl g'.sh hq2⟩
      | ow d => cases hd; obtain ⟨b, eb, _, _, vs', e2, r2⟩ := s; cases eb; exact ⟨vs', r2, SqL.of e2⟩
      | bo d => cases hd; obtain ⟨b, eb, _, vs', e2, r2⟩ := s; cases eb; exact ⟨vs', r2, SqL.of e2⟩
      | bt d => cases hd; obtain ⟨b, eb, vs', e2, r2⟩ := s; cases eb; exact ⟨vs', r2, SqL.of e2⟩
      | lk b d => cases hd; obtain ⟨eb, _, _, vs', e2, r2⟩ := s; cases eb; exact ⟨vs', r2, SqL.of e2⟩
      | lo b _ d => cases hd
      | nd d => cases hd
      | nb d => cases hd
      | ln _ _ => cases hd
      | xc _ => cases hd
      | xe _ _ _ => cases hd
      | na _ _ => cases hd
      | rt _ _ => cases hd
    obtain ⟨vs', r2, hq2⟩ := this
    obtain ⟨u', hu', ru'⟩ := r2.get h1
    have := hz vs' hq2
    rw [hu'] at this
    cases this
    exact ru'
  rw [Nat.zero_add]
  exact .tup upd_same (.cons .int (.cons (ru'.mono g2) .nil))
theorem Zk9 {xs : List Slot} {k : List D → Prop} {vs : List V} {l : List Cell} {H : Hp} (hx : lst1 k xs) (hl : vs.length = xs.length) (c : C F (xs.zip (vs.map some) ++ l) H) : ∃ a ds y, vs = [.ref a] ∧ k ds ∧ y.still ∧ y.dat = some (.lst ds) ∧ C F ((y, some (.ref a)) :: l) H ∧ ∃ us, SqL F.K H a us := by
  have fin : ∀ {y : Slot} {v : V} {ds : List D}, y.still → y.dat = some (.lst ds) → k ds → C F ((y, some v) :: l) H → vs = [v] → ∃ a ds y, vs = [.ref a] ∧ k ds ∧ y.still ∧ y.dat = some (.lst ds) ∧ C F ((y, some (.ref a)) :: l) H ∧ ∃ us, SqL F.K H a us := by
    intro y v ds hs hd hk c e
    obtain ⟨a, us, ea, hq, _⟩ := c.seqL hd
    cases ea
    exact ⟨a, ds, y, e, hk, hs, hd, c, us, hq⟩
  unfold lst1 at hx
  split at hx
  · match vs, hl with
    | [v], _ => exact fin (y := .sh _) trivial rfl hx c rfl
  · match vs, hl with
    | [v], _ => exact fin (y := .bo _) trivial rfl hx c rfl
  · match vs, hl with
    | [v], _ => exact fin (y := .sh _) trivial rfl hx (C.frz c) rfl
  · match vs, hl with
    | [v], _ => exact fin (y := .lk _ _) trivial rfl hx c rfl
  · exact hx.elim
theorem Zyl {elts : List Expr} {kk : Nat} {tpos : Pos} (hm : X.mg "enumerate" = none) (ha : DA X F W [e] wA) (hg : Gl X "enumerate" := by rfl) (hs : starEach [e] X.env = [(false, eval e X.env)] := by rfl) (hK : X.K = F.K := by rfl) :
    DI X F W (.Tuple elts kk tpos) (.Call (.Name "enumerate" p) [e] [] pos) (Zux wA) := by
  refine ⟨Zqj (pi_enum hg hm ha.run hs) fun σ H Rk ⟨l, env, k, q⟩ => ⟨l, env, k, Zi3 ha.mono q (fun xs hx vs H1 hl c1 => ?_) fun c fs z => z⟩, fun env Q Q' m h => Za3 ha.mono (fun x hx => Zjs (fun j z => m _ z) hx) m h⟩
  obtain ⟨a, ds, y, ev, hk, hst, hd, c2, us, hq⟩ := Zk9 hx hl c1
  rw [hK]
  exact ⟨a, us, ev, hq, hk _ [(y, some (.ref a))] H1 (Zls (Zhg hst)) (Z1o hd) c2⟩
noncomputable def Zib (g : WG) (body : WS) : List D → En → (O → Prop) → Prop
  | [], env, Q => Q (.nx env)
  | d :: ds, env, Q => g (.sh d) env fun e1 => body e1 fun o => match o with
    | .nx e => Zib g body ds e Q
    | .ct e => Zib g body ds e Q
    | .bk e => Q (.nx e)
    | .ret x => Q (.ret x)
    | .ex c fs e => Q (.ex c fs e)
noncomputable def wFor (g : WG) (wi : WI) (body : WS) : WS := fun env Q => wi env (rks (fun ds => Zib g body ds env Q) Q env)
theorem Zhd (hg : Zky g) (hb : Zbi w) : ∀ (ds : List D) (env : En) (Q Q' : O → Prop), (∀ r, Q r → Q' r) → Zib g w ds env Q → Zib g w ds env Q'
  | [], env, Q, Q', m, h => m _ h
  | d :: ds, env, Q, Q', m, h => hg _ _ _ _ (fun e z => hb _ _ _ (fun o z => match o, z with
    | .nx e, z => Zhd hg hb ds e Q Q' m z
    | .ct e, z => Zhd hg hb ds e Q Q' m z
    | .bk e, z => m _ z
    | .ret x, z => m _ z
    | .ex c fs e, z => m _ z) z) h
theorem Z1y {iter : Expr} {l : List Cell} {env : En} {σ : L2.St} {H : Hp} {Dn : Ends} {k : List D → Prop} {Rk : It → Hp → Prop} (hi : DI X F W tg iter wi) (ce : CE F l env σ H) (h : wi env (rks k (LSp F W l Dn) env))
    (h1 : ∀ ds, k ds → ∀ J gh H', (∀ q ∈ gh, q.1.env) → ItS F J ds gh → C F (gh ++ (l ++ env.zip σ)) H' → Rk J H') : LI F W wi σ H Rk :=
  ⟨l, env, ce, hi.mono env _ _ (fun r z => match r, z with
    | .ok x, z => h1 x z
    | .ex c fs, z => fun A d H' hA hx c2 => z A d σ H' hA hx ⟨ce.len, ce.ok, c2⟩) h⟩
theorem Zon {gh l : List Cell} {env : En} {σ : L2.St} {H : Hp} (k : CE F (gh ++ l) env σ H) : CE F l env σ H := ⟨k.len, k.ok, (by have := k.c; rw [List.append_assoc] at this; exact this.right)⟩
theorem Zkm {iter : Expr} {body : List Stmt} (hp : PassesOwn (model X.prog X.w) X.A X.env X.xe) (hc : X.calm = true) (hi : DI X F W tg iter wi) (hg : DG X F tg g) (hb : DSs X F W body w)
    (hs : ∀ x, foldedSetIterable iter X.env x = pure x := by intro _; rfl) : DS X F W (.For tg iter body [] pos) (wFor g wi w) := by
  refine ⟨Zf6 (ps_for hp hc hi.run hg.run hb.run hs) fun Dn σ H ⟨l, env, k, hl, q⟩ => Z1y hi k q fun ds hds J gh H1 hgh its c1 => ?_, fun env Q Q' m h => Zcf hi.mono (fun ds z => Zhd hg.mono hb.mono ds env Q Q' m z) m h⟩
  refine ⟨fun i m σ H => m = ds.length - i ∧ i ≤ ds.length ∧ ∃ env, CE F (gh ++ l) env σ H ∧ Zib g w (ds.drop i) env (LSp F W l Dn), ⟨ds.length, by simp, Nat.zero_le _, env, ⟨k.len, k.ok, by rw [List.append_assoc]; exact c1⟩, by simpa using hds⟩, ?_⟩
  rintro i m σ2 H2 ⟨rfl, hi2, env2, k2, q2⟩
  have c2 : C F (gh ++ (l ++ env2.zip σ2)) H2 := by rw [← List.append_assoc]; exact k2.c
  by_cases hlt : i < ds.length
  · have e1 : ds[i]? = some ds[i] := List.getElem?_eq_getElem hlt
    obtain ⟨go, yl⟩ := (its _ _ c2 i).1 _ e1
    have ed : ds.drop i = ds[i] :: ds.drop (i + 1) := List.drop_eq_getElem_cons hlt
    rw [ed] at q2
    refine .inr ⟨go, fun σ' H' => ∃ env', CE F (gh ++ l) env' σ' H' ∧ Zib g w (ds.drop (i + 1)) env' (LSp F W l Dn), fun σ' H' ⟨env', k', q'⟩ => ⟨ds.length - (i + 1), by omega, rfl, hlt, env', k', q'⟩, fun x H' hy => ?_⟩
    refine ⟨gh ++ l, env2, .sh ds[i], k2.len, k2.ok, ?_, hg.mono _ _ _ _ (fun e1 z σ3 H3 k3 => ?_) q2⟩
    · have := yl x H' hy
      rw [← List.append_assoc] at this
      exact this
    · refine ⟨gh ++ l, e1, k3, fun q hq => (List.mem_append.mp hq).elim (hgh q) (hl q), hb.mono _ _ _ (fun o z => ?_) z⟩
      cases o with
      | nx e => exact fun σ' H' k' => ⟨e, k', z⟩
      | ct e => exact fun σ' H' k' => ⟨e, k', z⟩
      | bk e => exact fun σ' H' k' => z σ' H' (Zon k')
      | ret x => exact fun v H' c3 => z v H' (by
          exact c3.sub (List.Sublist.append (List.Sublist.refl _) (List.sublist_append_right _ _)))
      | ex c fs e => exact fun A d σ' H' hA hx k' => z A d σ' H' hA hx (Zon k')
  · have e : i = ds.length := by omega
    subst e
    rw [List.drop_length] at q2
    exact .inl ⟨(its _ _ c2 _).2 (Nat.le_refl _), q2 σ2 H2 (Zon k2)⟩
theorem CE.own {l : List Cell} {env : En} {σ : L2.St} {H : Hp} {i : Nat} {d : D} (k : CE F l env σ H) (h : env[i]? = some (.ow d)) (hl : ∀ q ∈ l, q.1.env) :
    ∃ a, σ[i]? = some (some (.ref a)) ∧ i < env.length ∧ C F ((.ow d, some (.ref a)) :: (l ++ (env.zip σ).eraseIdx i)) H ∧ (∀ q ∈ l ++ (env.zip σ).eraseIdx i, q.1.env) := by
  obtain ⟨v, h1, h2⟩ := Zb4 k.len h
  have c1 : C F ((.ow d, v) :: (l ++ (env.zip σ).eraseIdx i)) H := (k.c.perm (List.Perm.append_left l (Zex h2))).front
  obtain ⟨S, g, cc, _⟩ := id c1
  obtain ⟨a, ea, _⟩ := cc _ List.mem_cons_self
  subst ea
  exact ⟨a, h1, (List.getElem?_eq_some_iff.mp h).1, c1, fun q hq => (List.mem_append.mp hq).elim (hl q) fun hq => k.ok _ (List.of_mem_zip (Znl hq)).1⟩
theorem CE.ownSet {l : List Cell} {env : En} {σ : L2.St} {H H' : Hp} {i : Nat} {d d' : D} {a : Addr} (k : CE F l env σ H) (h : env[i]? = some (.ow d)) (hs : σ[i]? = some (some (.ref a)))
    (c : C F ((.ow d', some (.ref a)) :: (l ++ (env.zip σ).eraseIdx i)) H') : CE F l (env.set i (.ow d')) σ H' := by
  obtain ⟨v, h1, h2⟩ := Zb4 k.len h
  refine ⟨by simp [k.len], fun y hy => ?_, ?_⟩
  · rcases List.mem_or_eq_of_mem_set hy with hy | rfl
    · exact k.ok y hy
    · trivial
  · have e : σ = σ.set i (some (.ref a)) := by
      apply List.ext_getElem?
      intro j
      rw [List.getElem?_set]
      split
      · subst_vars
        split
        · rw [hs]
        · rename_i hlt
          rw [List.getElem?_eq_none (by omega)]
      · rfl
    rw [e, Zj8]
    rw [e] at h2
    rw [e] at c
    have e3 : (env.zip (σ.set i (some (V.ref a)))).eraseIdx i = (env.zip σ).eraseIdx i := by rw [← e]
    have p2 := Zi2 (y := ((Slot.ow d'), some (V.ref a))) (l := env.zip σ) (i := i) (by rw [← e] at h2; exact h2)
    rw [e3] at c
    exact c.back.perm (List.Perm.append_left l p2.symm)
theorem CE.slot {l : List Cell} {env : En} {σ : L2.St} {H : Hp} {i : Nat} {x : Slot} (k : CE F l env σ H) (h : env[i]? = some x) : ∃ v, σ[i]? = some v ∧ (x, v) ∈ l ++ env.zip σ := by
  obtain ⟨v, h1, h2⟩ := Zb4 k.len h
  exact ⟨v, h1, List.mem_append_right _ (Zbj h2)⟩
noncomputable def wApp (i : Nat) (we : WE) : WS := fun env Q => match env[i]? with
  | some (.ow (.lst ds)) => we env (rks (fun y => match y.stab with
    | some d => ds.length < 16777216 ∧ Q (.nx (env.set i (.ow (.lst (ds ++ [d])))))
    | none => False) Q env)
  | _ => False
theorem Zh0 (i : Nat) {x : Str} {p2 apos cpos : Pos} (he : DE X F W e we) (hN : X.N[i]? = some x := by rfl) (hv : Vis X.env.scope x := by first | exact Or.inl rfl | exact Or.inr (Or.inl rfl) | exact Or.inr (Or.inr rfl)) (hd : (x == ("__debug__" : Str)) = false := by decide)
    (hcd : (x == ("__classdict__" : Str)) = false := by decide) (hs : starEach (e :: []) X.env = (false, eval e X.env) :: starEach [] X.env := by rfl)
    (hpe : ∀ {te : TE}, PE X e te → PE X (.Call (.Attribute (.Name x p2) "append" apos) [e] [] cpos) (tBM X.K "list" rAppend (tVar i) (tCons te tNil)))
    (hsw : swapsWith (.Call (.Attribute (.Name x p2) "append" apos) [e] [] cpos) none pos.line X.env = pure false := by rfl) (hK : X.K = F.K := by rfl) :
    DS X F W (.Expr (.Call (.Attribute (.Name x p2) "append" apos) [e] [] cpos) pos) (wApp i we) := by
  refine ⟨Zf6 (ps_expr (hpe he.run) hsw) fun Dn σ H ⟨l, env, k, hl, q⟩ => ?_, fun env Q Q' m h => ?_⟩
  · unfold wApp at q
    split at q
    · rename_i ds en
      obtain ⟨a, hs1, hi, c1, nb⟩ := k.own en hl
      obtain ⟨S, g, rc, cc, up⟩ := c1.mut nb
      obtain ⟨vs, ev, rr⟩ := rc
      refine ⟨.ref a, hs1, .inl ⟨rfl, vs, by rw [hK]; exact SqL.of ev⟩, Ztx he k q fun y hy v H1 c2 => ?_⟩
      split at hy
      · rename_i d ed
        have c3 := c2.stab ed
        have k3 : CE F [] env σ H1 := ⟨k.len, k.ok, c3.tail.right⟩
        have k1 : CE F l env σ H1 := k.at c3.tail
        obtain ⟨a2, hs2, _, c4, nb4⟩ := (⟨k.len, k.ok, c3⟩ : CE F ((.sh d, some v) :: l) env σ H1).own en (fun q hq => by
          rcases List.mem_cons.mp hq with rfl | hq
          · trivial
          · exact hl q hq)
        rw [hs1] at hs2; cases hs2
        obtain ⟨S2, g2, rc2, cc2, up2⟩ := c4.mut nb4
        obtain ⟨vs2, ev2, rr2⟩ := rc2
        obtain ⟨w, ew, rw⟩ := cc2 (Slot.sh d, some v) (by simp)
        cases ew
        refine ⟨a, vs2, v, rfl, rfl, ev2, by rw [rr2.len, sizeLine_eq]; exact hy.1, hy.2 σ _ ?_⟩
        have c5 := up2 (.lst (vs2 ++ [v])) (.lst (ds ++ [d])) ⟨_, rfl, rr2.app (.cons rw .nil)⟩
        exact k1.ownSet en hs1 (c5.sub (List.Sublist.cons_cons _ (List.sublist_cons_self _ _)))
      · exact hy.elim
    · exact q.elim
  · unfold wApp at h ⊢
    split at h
    · exact Zcf he.mono (fun y hy => by
        split at hy
        · exact ⟨hy.1, m _ hy.2⟩
        · exact hy.elim) m h
    · exact h.elim
noncomputable def Zrl (c z d : D) (k : D → Prop) : Prop := match c with
  | .lst ds => ∃ i j, z = .int i ∧ ixN ds.length i = some j ∧ k (.lst (ds.set j d))
  | .dk kds => ∃ j, z.key = some j ∧ kds.length < 16777216 ∧ k (.dk (put kds j d))
  | .dt kds => ∃ j, z.keyT = some j ∧ kds.length < 16777216 ∧ k (.dt (put kds j d))
  | _ => False
theorem Zk4 {c z d : D} {k k' : D → Prop} (m : ∀ x, k x → k' x) (h : Zrl c z d k) : Zrl c z d k' := by
  cases c with
  | lst ds => obtain ⟨i, j, h1, h2, h3⟩ := h; exact ⟨i, j, h1, h2, m _ h3⟩
  | dk ds => obtain ⟨j, h1, h2, h3⟩ := h; exact ⟨j, h1, h2, m _ h3⟩
  | dt ds => obtain ⟨j, h1, h2, h3⟩ := h; exact ⟨j, h1, h2, m _ h3⟩
  | _ => exact h.elim
noncomputable def wSet (i : Nat) (wk we : WE) : WS := fun env Q => match env[i]? with
  | some (.ow c) => we env (rks (fun y => match y.stab with
    | some d => wk env (rks (fun z => match z with
      | .sh zd => Zrl c zd d fun c' => Q (.nx (env.set i (.ow c')))
      | _ => False) Q env)
    | none => False) Q env)
  | _ => False
noncomputable def Z1u : V → V → V → Hp → (Hp → Prop) → Prop := fun o i v H Q => ∃ a H', o = .ref a ∧ DPut H a i v H' ∧ Q H'
theorem Zvh (hu : X.A.units + 1 < cLine) : PSet X Z1u := by
  intro pins s σ H o i v ov iv u Q I r1 r2 r3 ⟨a, H', e, g, q⟩
  subst e
  cases r1
  exact d_setItem hu I g r2 r3 fun s4 I4 => ⟨H', I4, q⟩
theorem psor {t t' : TSet} (h : PSet X t) (h' : PSet X t') : PSet X (fun o i v H Q => t o i v H Q ∨ t' o i v H Q) := fun pins s σ H o i v ov iv u Q I r1 r2 r3 z => z.elim (h pins s σ H o i v ov iv u Q I r1 r2 r3) (h' pins s σ H o i v ov iv u Q I r1 r2 r3)
theorem Zue {κ α β : Type} [DecidableEq κ] (k : κ) (a : α) (b : β) : ∀ {xs : List (κ × α)} {ys : List (κ × β)}, xs.map Prod.fst = ys.map Prod.fst → (xs.any fun kv => decide (kv.1 = k)) = ys.any fun kv => decide (kv.1 = k)
  | [], [], _ => rfl
  | [], _ :: _, h => by simp at h
  | _ :: _, [], h => by simp at h
  | x :: xs, y :: ys, h => by
    have h1 : x.1 = y.1 := by simpa using congrArg List.head? h
    have h2 : xs.map Prod.fst = ys.map Prod.fst := by simpa using congrArg List.tail h
    rw [List.any_cons, List.any_cons, h1, Zue k a b h2]
theorem Zqb {κ : Type} [DecidableEq κ] {K : PySem.W.Frag} {S : Hp} {k : κ} {v : V} {d : D} (rv : Rep K S v d) : ∀ {kvs : List (κ × V)} {kds : List (κ × D)}, kvs.map Prod.fst = kds.map Prod.fst → Reps K S (kvs.map Prod.snd) (kds.map Prod.snd) →
    (kvs.map fun kv => if kv.1 = k then (kv.1, v) else kv).map Prod.fst = (kds.map fun kv => if kv.1 = k then (kv.1, d) else kv).map Prod.fst ∧
    Reps K S ((kvs.map fun kv => if kv.1 = k then (kv.1, v) else kv).map Prod.snd) ((kds.map fun kv => if kv.1 = k then (kv.1, d) else kv).map Prod.snd)
  | [], [], _, _ => ⟨rfl, .nil⟩
  | [], _ :: _, h, _ => by simp at h
  | _ :: _, [], h, _ => by simp at h
  | (k1, v1) :: kvs, (k2, d1) :: kds, h, r => by
    have h1 : k1 = k2 := by simpa using congrArg List.head? h
    have h2 : kvs.map Prod.fst = kds.map Prod.fst := by simpa using congrArg List.tail h
    subst h1
    have r' : Reps K S (v1 :: kvs.map Prod.snd) (d1 :: kds.map Prod.snd) := r
    cases r' with
    | cons r1 r2 =>
      obtain ⟨i1, i2⟩ := Zqb rv h2 r2
      by_cases e : k1 = k
      · simp only [List.map_cons, e, if_true]
        exact ⟨by rw [i1], .cons rv i2⟩
      · simp only [List.map_cons, if_neg e]
        exact ⟨by rw [i1], .cons r1 i2⟩
theorem Zsf {κ : Type} [DecidableEq κ] {K : PySem.W.Frag} {S : Hp} {k : κ} {v : V} {d : D} (rv : Rep K S v d) {kvs : List (κ × V)} {kds : List (κ × D)} (h : kvs.map Prod.fst = kds.map Prod.fst) (r : Reps K S (kvs.map Prod.snd) (kds.map Prod.snd)) :
    (putK kvs k v).map Prod.fst = (put kds k d).map Prod.fst ∧ Reps K S ((putK kvs k v).map Prod.snd) ((put kds k d).map Prod.snd) := by
  unfold putK put
  rw [Zue k v d h]
  split
  · exact Zqb rv h r
  · rw [List.map_append, List.map_append, List.map_append, List.map_append, h]
    exact ⟨rfl, r.app (.cons rv .nil)⟩
theorem Zlo (i : Nat) {x : Str} {p2 tpos : Pos} (hu : X.A.units + 65 < cLine) (hk : DE X F W e2 wk) (he : DE X F W e we) (hN : X.N[i]? = some x := by rfl) (hv : Vis X.env.scope x := by first | exact Or.inl rfl | exact Or.inr (Or.inl rfl) | exact Or.inr (Or.inr rfl)) (hd : (x == ("__debug__" : Str)) = false := by decide)
    (hcd : (x == ("__classdict__" : Str)) = false := by decide) (hs : swapsWithSole [.Subscript (.Name x p2) e2 tpos] e pos.line X.env = pure false := by rfl) (hw : swappedStores [.Subscript (.Name x p2) e2 tpos] e X.env = pure none := by rfl)
    (h1 : (assignEach [.Subscript (.Name x p2) e2 tpos] X.env).map (·.2) = [assign (.Subscript (.Name x p2) e2 tpos) X.env] := by rfl)
    (ha : ∀ v, assign (.Subscript (.Name x p2) e2 tpos) X.env v = (do
      let ov ← holding [v] (eval (.Name x p2) X.env)
      let iv ← holding [v, ov] (eval e2 X.env)
      standAt tpos
      holding [v, ov, iv] (setItem ov iv v)
      release [v, ov, iv] []) := by intro _; rfl) :
    DS X F W (.Assign [.Subscript (.Name x p2) e2 tpos] e pos) (wSet i wk we) := by
  refine ⟨Zf6 (ps_asg he.run (pg_sub (pe_var hN hv hd hcd) hk.run (psor set_list (Zvh (by omega))) ha) hs hw h1) fun Dn σ H ⟨l, env, k, hl, q⟩ => ?_, fun env Q Q' m h => ?_⟩
  · unfold wSet at q
    split at q
    · rename_i c en
      obtain ⟨a, hs1, hi, _, _⟩ := k.own en hl
      refine Ztx he k q fun y hy v H1 c1 => ?_
      split at hy
      · rename_i d ed
        have c2 := c1.stab ed
        have k2 : CE F ((.sh d, some v) :: l) env σ H1 := ⟨k.len, k.ok, c2⟩
        refine ⟨.ref a, hs1, ?_⟩
        refine ⟨(.sh d, some v) :: l, env, k2, hk.mono env _ _ (fun r z => ?_) hy⟩
        cases r with
        | ex cn fs => exact fun A dd H' hA hx c3 => z A dd σ H' hA hx ⟨k.len, k.ok, c3.tail⟩
        | ok zs =>
          intro u H2 c3
          dsimp only [rks] at z
          split at z
          · rename_i zd
            have k3 : CE F ((.sh zd, some u) :: (.sh d, some v) :: l) env σ H2 := ⟨k.len, k.ok, c3⟩
            have hl3 : ∀ q ∈ (Slot.sh zd, some u) :: (Slot.sh d, some v) :: l, q.1.env := fun q hq => by
              rcases List.mem_cons.mp hq with rfl | hq
              · trivial
              · rcases List.mem_cons.mp hq with rfl | hq
                · trivial
                · exact hl q hq
            obtain ⟨a2, hs2, _, c4, nb4⟩ := k3.own en hl3
            rw [hs1] at hs2; cases hs2
            obtain ⟨S2, g2, rc2, cc2, up2⟩ := c4.mut nb4
            obtain ⟨v', ev', rv⟩ := cc2 (Slot.sh d, some v) (by simp)
            cases ev'
            have kl : CE F l env σ H2 := k.at c3.tail.tail
            have fin : ∀ o' c', RC F.K S2 (some o') c' → LSp F W l Dn (.nx (env.set i (.ow c'))) → Dn.nx σ (upd H2 a o') := fun o' c' r z => by
              have c5 := up2 o' c' r
              exact z σ _ (kl.ownSet en hs1 (c5.sub (List.Sublist.cons_cons _ ((List.sublist_cons_self _ _).trans (List.sublist_cons_self _ _)))))
            cases c with
            | lst ds =>
              obtain ⟨n, j, rfl, hj, z⟩ := z
              have eu := C.shInt c3
              cases eu
              obtain ⟨vs, ev, rr⟩ := rc2
              exact .inl ⟨a, vs, n, j, rfl, rfl, ev, by rw [rr.len]; exact hj, fin (.lst (vs.set j v)) (.lst (ds.set j d)) ⟨_, rfl, rr.set j rv⟩ z⟩
            | dk kds =>
              obtain ⟨j, hj, hz, z⟩ := z
              have eu := c3.key hj
              obtain ⟨kvs, ev, hk2, rr⟩ := rc2
              have hlen : kvs.length = kds.length := by simpa using congrArg List.length hk2
              exact .inr ⟨a, _, rfl, .inl ⟨kvs, j, ev, eu, by rw [hlen, sizeLine_eq]; exact hz, rfl⟩, fin (.dK (putK kvs j v)) (.dk (put kds j d)) ⟨_, rfl, Zsf rv hk2 rr⟩ z⟩
            | dt kds =>
              obtain ⟨j, hj, hz, z⟩ := z
              cases zd with
              | tup es =>
                obtain ⟨S0, g0, r0⟩ := c3.sh0
                obtain ⟨ta, et, ht⟩ := Zlf r0 hj
                obtain ⟨kvs, ev, hk2, rr⟩ := rc2
                have hlen : kvs.length = kds.length := by simpa using congrArg List.length hk2
                exact .inr ⟨a, _, rfl, .inr ⟨kvs, j, ta, ev, et, g0.sh _ _ ht, by rw [hlen, sizeLine_eq]; exact hz, rfl⟩, fin (.dT (putK kvs j v)) (.dt (put kds j d)) ⟨_, rfl, Zsf rv hk2 rr⟩ z⟩
              | _ => cases hj
            | _ => exact z.elim
          · exact z.elim
      · exact hy.elim
    · exact q.elim
  · unfold wSet at h ⊢
    split at h
    · refine Zcf he.mono (fun y hy => ?_) m h
      split at hy
      · refine Zcf hk.mono (fun z hz => ?_) m hy
        split at hz
        · exact Zk4 (fun c z => m _ z) hz
        · exact hz.elim
      · exact hy.elim
    · exact h.elim
end
end DL
set_option Elab.async false
set_option linter.all false
set_option maxRecDepth 100000
set_option maxHeartbeats 4000000
namespace DL
open PySem PySem.Spec PyProof.Rows L2
section
variable {X : Cx} {F : Fr} {W : WX} {e e2 tg : Expr} {es : List Expr} {we we2 wc wt : WE} {wi : WI} {pos p : Pos}
theorem Z2h {x : Str} {id : String} {r : List V → Hp → VK → Prop} {o : O1} (hc : CallR X (.builtin id) r) (sn : Zsv F (fun x H Q => r [x] H Q) o) (om : Ze7 o) (hm : X.mg x = none) (hv : bootBuiltins x = some (.builtin id)) (he : DE X F W e we)
    (hg : Gl X x := by rfl) (hn : x ≠ "__name__" := by decide) (hdb : (x == ("__debug__" : Str)) = false := by decide) (hs : starEach (e :: []) X.env = (false, eval e X.env) :: starEach [] X.env := by rfl)
    (hpl : (backTo pos (starEach [] X.env)).any (·.1) = false := by rfl) : DE X F W (.Call (.Name x p) [e] [] pos) (wUn o we) :=
  ⟨Zbr (pe_callB hc hg hm hv (pa_cons he.run pa_nil hs) hn hdb hs hpl) fun σ H Q h => Zyg sn he h, Zaq he.mono om⟩
theorem Zzs {x : Str} {id : String} {r : List V → Hp → VK → Prop} {o : O1} (hc : CallR X (.type id) r) (sn : Zsv F (fun x H Q => r [x] H Q) o) (om : Ze7 o) (hm : X.mg x = none) (hv : bootBuiltins x = some (.type id)) (he : DE X F W e we)
    (hg : Gl X x := by rfl) (hn : x ≠ "__name__" := by decide) (hdb : (x == ("__debug__" : Str)) = false := by decide) (hs : starEach (e :: []) X.env = (false, eval e X.env) :: starEach [] X.env := by rfl)
    (hpl : (backTo pos (starEach [] X.env)).any (·.1) = false := by rfl) : DE X F W (.Call (.Name x p) [e] [] pos) (wUn o we) :=
  ⟨Zbr (pe_callTy hc hg hm hv (pa_cons he.run pa_nil hs) hn hdb hs hpl) fun σ H Q h => Zyg sn he h, Zaq he.mono om⟩
noncomputable def Z08 : D → Option Int
  | .lst ds => some (ds.length : Int)
  | .tup ds => some (ds.length : Int)
  | .str s => if s.length ≤ 16777216 then some (s.length : Int) else none
  | .dk kds => some (kds.length : Int)
  | .dt kds => some (kds.length : Int)
  | _ => none
noncomputable def oLen : O1 := fun x k => match x.dat with
  | some d => (match Z08 d with | some n => k (.sh (.int n)) | none => False)
  | none => False
theorem Zbv : Ze7 oLen := fun x k k' m h => by
  unfold oLen at h ⊢
  split at h
  · split at h
    · exact m _ h
    · exact h.elim
  · exact h.elim
noncomputable def Zx1 (K : PySem.W.Frag) : List V → Hp → VK → Prop := fun xs H Q => (((∃ p ys, xs = [.ref p] ∧ (SqL K H p ys ∨ SqT K H p ys) ∧ Q (.int ys.length) H) ∨ (∃ z, xs = [.str z] ∧ z.length ≤ sizeLine ∧ Q (.int z.length) H)) ∨ (∃ p kvs, xs = [V.ref p] ∧ Rd H p (.dK kvs) ∧ Q (.int (kvs.length : Int)) H)) ∨ rLenT xs H Q
theorem Zsq : CallR X (.builtin "len") (Zx1 X.K) := by
  refine ((call_len_seq.or call_len_str).or ?_).or call_len_dT
  intro pins s σ H xs us Q I r h
  obtain ⟨a, kvs, rfl, ha, q⟩ := h
  obtain ⟨u, rfl, ru⟩ := vals1 r
  cases ru
  exact d_len I ha fun t s' I' => ⟨.int kvs.length, H, I', ⟨t, rfl⟩, q⟩
theorem Zx5 : Zsv F (fun x H Q => Zx1 F.K [x] H Q) oLen := fun l H x vx ks Q hc ho hq => by
  unfold oLen at ho
  split at ho
  · rename_i d hd
    cases d with
    | lst ds =>
      obtain ⟨a, vs, ea, hl, hlen, _⟩ := hc.seqL hd
      cases ea
      exact .inl (.inl (.inl ⟨a, vs, rfl, .inl hl, by rw [hlen]; exact hq _ _ H ho (hc.tail.int _)⟩))
    | tup ds =>
      obtain ⟨a, vs, ea, hl, hlen, _⟩ := hc.seqT hd
      cases ea
      exact .inl (.inl (.inl ⟨a, vs, rfl, .inr hl, by rw [hlen]; exact hq _ _ H ho (hc.tail.int _)⟩))
    | str s =>
      obtain ⟨S, r⟩ := hc.repOf hd fun _ _ _ z => z
      cases r
      unfold Z08 at ho
      by_cases h : s.length ≤ 16777216
      · simp only [h, if_true] at ho
        exact .inl (.inl (.inr ⟨s, rfl, by rw [sizeLine_eq]; exact h, hq _ _ H ho (hc.tail.int _)⟩))
      · simp only [h, if_false] at ho
    | dk kds =>
      obtain ⟨a, kvs, ea, hr, hk, _⟩ := hc.dictK hd
      cases ea
      have hlen : kvs.length = kds.length := by simpa using congrArg List.length hk
      exact .inl (.inr ⟨a, kvs, rfl, hr, by rw [hlen]; exact hq _ _ H ho (hc.tail.int _)⟩)
    | dt kds =>
      obtain ⟨a, kvs, ea, hr, hk, _⟩ := hc.dictT hd
      cases ea
      have hlen : kvs.length = kds.length := by simpa using congrArg List.length hk
      exact .inr ⟨a, kvs, rfl, hr, by rw [hlen]; exact hq _ _ H ho (hc.tail.int _)⟩
    | _ => exact ho.elim
  · exact ho.elim
theorem Zfs (hm : X.mg "len" = none) (he : DE X F W e we) (hg : Gl X "len" := by rfl) (hs : starEach (e :: []) X.env = (false, eval e X.env) :: starEach [] X.env := by rfl) (hpl : (backTo pos (starEach [] X.env)).any (·.1) = false := by rfl) (hK : X.K = F.K := by rfl) : DE X F W (.Call (.Name "len" p) [e] [] pos) (wUn oLen we) :=
  Z2h (r := Zx1 F.K) (by rw [← hK]; exact Zsq) Zx5 Zbv hm PySem.boot_len he hg (by decide) (by decide) hs hpl
theorem C.newFrom {l : List Cell} {H : Hp} {a : Addr} {vs : List V} {ds : List D} {S : Hp} (g : GS F S H) (cc : ∀ q ∈ l, SC F S H q) (pw : l.Pairwise (Zbw H)) (r : Reps F.K S vs ds) (ha : H a = none) : C F ((.ow (.lst ds), some (.ref a)) :: l) (upd H a (.lst vs)) := by
  have hS : S a = none := g.sh.free ha
  refine ⟨S, ⟨g.s0, g.sh.trans (Za9 ha), g.h0.trans (Za9 ha), g.fr⟩, fun q hq => ?_, List.pairwise_cons.mpr ⟨fun q hq => ?_, Zh7 pw cc (Za9 ha)⟩⟩
  · rcases List.mem_cons.mp hq with rfl | hq
    · exact ⟨a, rfl, g.h0.free ha, hS, by rw [upd_same]; exact ⟨vs, rfl, r⟩⟩
    · exact (cc q hq).grow (Same.refl S) (Za9 ha) fun b hb => .inl hb
  · have ap := Zn5 (d := .lst ds) ha (cc q hq)
    unfold Zbw Dj at ap ⊢
    rw [Zhv (cc q hq) (Za9 ha)]
    exact ap
theorem C.newFromT {l : List Cell} {H : Hp} {a : Addr} {vs : List V} {ds : List D} {S : Hp} (g : GS F S H) (cc : ∀ q ∈ l, SC F S H q) (pw : l.Pairwise (Zbw H)) (r : Reps F.K S vs ds) (ha : H a = none) : C F ((.sh (.tup ds), some (.ref a)) :: l) (upd H a (.tup vs)) := by
  have hS : S a = none := g.sh.free ha
  refine ⟨upd S a (.tup vs), g.new ha, fun q hq => ?_, Zbh (fun z => z) (Zh7 pw cc (Za9 ha))⟩
  rcases List.mem_cons.mp hq with rfl | hq
  · exact ⟨_, rfl, .tup upd_same (r.mono (Za9 hS))⟩
  · refine (cc q hq).grow (Za9 hS) (Za9 ha) fun b hb => ?_
    by_cases e : b = a
    · subst e; exact .inr (.inl ha)
    · rw [upd_ne e] at hb; exact .inl hb
noncomputable def tyD : D → String
  | .non => "NoneType"
  | .bl _ => "bool"
  | .int _ => "int"
  | .str _ => "str"
  | .tup _ => "tuple"
  | .lst _ => "list"
  | .dk _ => "dict"
  | .dt _ => "dict"
  | .obj _ _ _ => "dict"
  | .own _ => "dict"
  | .rf _ => "dict"
  | .fn _ => "dict"
  | .lso _ => "dict"
noncomputable def D.noObj : D → Bool
  | .obj _ _ _ => false
  | .own _ => false
  | .rf _ => false
  | .fn _ => false
  | .lso _ => false
  | _ => true
noncomputable def isD (d : D) (T : String) : Bool := (tyD d == T) || (tyD d == "bool" && T == "int")
noncomputable def oIsi (T : String) : O1 := fun x k => match x.dat with
  | some d => d.noObj = true ∧ k (.sh (.bl (isD d T)))
  | none => False
theorem C.ty {l : List Cell} {H : Hp} {x : Slot} {v : V} {d : D} (h : C F ((x, some v) :: l) H) (hx : x.dat = some d) (hn : d.noObj = true) : TyX F.K H v (.type (tyD d)) := by
  obtain ⟨S, g, cc, _⟩ := h
  have s := cc _ List.mem_cons_self
  have one : ∀ {d : D} {a : Addr}, RC F.K S (H a) d → TyX F.K H (.ref a) (.type (tyD d)) := fun {d a} r => by
    cases d with
    | lst ds => obtain ⟨vs, e2, r⟩ := r; exact .base (.lst e2)
    | dk kds => obtain ⟨kvs, e2, _⟩ := r; exact .base (.dK e2)
    | dt kds => obtain ⟨kvs, e2, _⟩ := r; exact .base (.dT e2)
    | _ => exact r.elim
  cases x with
  | un => cases hx
  | sh d' =>
    cases hx
    obtain ⟨u, e, r⟩ := s
    cases e
    cases r with
    | non => exact .base .non
    | bl => exact .base (.bl _)
    | int => exact .base (.int _)
    | str => exact .base (.str _)
    | tup hq _ => exact .base (.tup (g.sh _ _ hq))
    | lst hq _ =>
      rcases hq with hq | ⟨o, its, n, hk, hc, _⟩
      · rcases hq with hq | ⟨o, hq⟩
        · exact .base (.lst (g.sh _ _ hq))
        · exact .base (.frz (g.sh _ _ hq))
      · exact .kList hk hc
    | dk hq _ _ =>
      rcases hq with hq | ⟨o, hq⟩
      · exact .base (.dK (g.sh _ _ hq))
      · exact .fDict (g.sh _ _ hq)
    | dt hq _ _ => exact .base (.dT (g.sh _ _ hq))
    | obj _ _ _ _ => cases hn
    | rf => cases hn
    | fn _ => cases hn
  | ow d' => cases hx; obtain ⟨a, e, _, _, r⟩ := s; cases e; exact one r
  | bo d' => cases hx; obtain ⟨a, e, _, r⟩ := s; cases e; exact one r
  | bt d' => cases hx; obtain ⟨a, e, r⟩ := s; cases e; exact one r
  | lk a d' => cases hx; obtain ⟨e, _, _, r⟩ := s; cases e; exact one r
  | lo a d' => cases hx; obtain ⟨e, _, _, eu, od, kvs, e3, k, r⟩ := s; have e2 := eu.trans e3; cases e; exact .fDict e2
  | nd d' => cases hx
  | nb d' => cases hx
  | ln _ _ => cases hx
  | xc _ => cases hx
  | xe _ _ _ => cases hx
  | na _ _ => cases hx
  | rt _ _ => cases hx
noncomputable def Zl1 (T : String) : Prop := ∀ t ∈ ["NoneType", "bool", "int", "str", "tuple", "list", "dict"], kitB t T = some ((t == T) || (t == "bool" && T == "int"))
theorem Zxv (d : D) : tyD d ∈ ["NoneType", "bool", "int", "str", "tuple", "list", "dict"] := by cases d <;> simp [tyD]
theorem Zpt {T : Str} {U : String} {tp : Pos} (hm : X.mg "isinstance" = none) (hT : X.mg T = none) (hv : bootBuiltins T = some (.type U)) (kit : Zl1 U) (he : DE X F W e we) (hcl : ClsV (.ty U) (.type U)) (hg : Gl X "isinstance" := by rfl) (hgT : Gl X T := by rfl) (hn : T ≠ "__name__" := by decide) (hdT : (T == ("__debug__" : Str)) = false := by decide)
    (hs : starEach (e :: [.Name T tp]) X.env = (false, eval e X.env) :: starEach [.Name T tp] X.env := by rfl) (hpl : (backTo pos (starEach [.Name T tp] X.env)).any (·.1) = false := by rfl) (hK : X.K = F.K := by rfl) :
    DE X F W (.Call (.Name "isinstance" p) [e, .Name T tp] [] pos) (wUn (oIsi U) we) := by
  refine ⟨Zbr (pe_callB (r := rIsi X.K) call_isi hg hm (by decide +kernel) (pa_cons he.run (pa_cons (pe_bltn (v := .ty U) hgT hT hv rfl hn hdT) pa_nil) hs) (by decide) (by decide) hs hpl) fun σ H Q ⟨l, env, k, q⟩ => ?_, Zaq he.mono fun x k k' m h => ?_⟩
  · refine ⟨l, env, k, Zbe he.mono q (fun x hx v H1 c1 => ?_) fun c fs z => z⟩
    unfold oIsi at hx
    split at hx
    · rename_i d hd
      refine ⟨v, .ty U, .type (tyD d), .type U, isD d U, rfl, hcl, by rw [hK]; exact c1.ty hd hx.1, kit_ty (kit _ (Zxv d)), hx.2 _ H1 (c1.tail.bl _)⟩
    · exact hx.elim
  · unfold oIsi at h ⊢
    split at h
    · exact ⟨h.1, m _ h.2⟩
    · exact h.elim
noncomputable abbrev WO := En → (R (Option Int) → Prop) → Prop
noncomputable def LOp (F : Fr) (W : WX) (l : List Cell) (env : En) (σ : L2.St) (Q : Option Int → Hp → Prop) : R (Option Int) → Prop
  | .ok o => ∀ H', C F (l ++ env.zip σ) H' → Q o H'
  | .ex c fs => ∀ A d H', F.mg c = some (.ref A) → XF H' d fs → C F (l ++ env.zip σ) H' → W (.ref A) d σ H'
noncomputable def LO (F : Fr) (W : WX) (w : WO) : TO := fun σ H Q => ∃ l env, CE F l env σ H ∧ w env (LOp F W l env σ Q)
structure DO (X : Cx) (F : Fr) (W : WX) (e : Option Expr) (w : WO) : Prop where
  run : PO X e (LO F W w)
  mono : Mono w
theorem Zxb {o : Option Expr} {t t' : TO} (h : PO X o t) (q : ∀ σ H Q, t' σ H Q → t σ H Q) : PO X o t' := ⟨fun pins s σ H Q I z => h.run pins s σ H Q I (q _ _ _ z)⟩
noncomputable def wNoP : WO := fun _ Q => Q (.ok none)
noncomputable def Zet (we : WE) : WO := fun env Q => we env (rk (fun x => match x with | .sh (.int i) => Q (.ok (some i)) | _ => False) Q)
theorem Zb3 : DO X F W none wNoP := ⟨Zxb po_none fun σ H Q ⟨l, env, k, q⟩ => q H k.c, fun _ _ _ m h => m _ h⟩
theorem Zb1 (he : DE X F W e we) : DO X F W (some e) (Zet we) := by
  refine ⟨Zxb (po_some he.run) fun σ H Q ⟨l, env, k, q⟩ => ⟨l, env, k, Zbe he.mono q (fun x hx v H1 c1 => ?_) fun c fs z => z⟩, fun env Q Q' m h => Za3 he.mono (fun x hx => ?_) m h⟩
  · split at hx
    · rename_i i
      have e1 := c1.shInt
      cases e1
      exact ⟨i, rfl, hx H1 c1.tail⟩
    · exact hx.elim
  · split at hx
    · exact m _ hx
    · exact hx.elim
noncomputable def cutD {α : Type} (xs : List α) (lo hi : Option Int) : List α := (xs.drop (HT.sIx xs.length 0 lo)).take (HT.sIx xs.length xs.length hi - HT.sIx xs.length 0 lo)
noncomputable def Zfh (x : Slot) (lo hi : Option Int) (k : Slot → Prop) : Prop := match x.dat with
  | some (.lst ds) => k (.ow (.lst (cutD ds lo hi)))
  | some (.tup ds) => ¬ (HT.sIx ds.length 0 lo = 0 ∧ HT.sIx ds.length ds.length hi = ds.length) ∧ k (.sh (.tup (cutD ds lo hi)))
  | some (.str s) => s.length ≤ 16777216 ∧ k (.sh (.str (cutS s lo hi)))
  | _ => False
theorem Zim {x : Slot} {lo hi : Option Int} {k k' : Slot → Prop} (m : ∀ z, k z → k' z) (h : Zfh x lo hi k) : Zfh x lo hi k' := by
  unfold Zfh at h ⊢
  split at h
  · exact m _ h
  · exact ⟨h.1, m _ h.2⟩
  · exact ⟨h.1, m _ h.2⟩
  · exact h.elim
noncomputable def Zb7 (we : WE) (wl wh : WO) : WE := fun env Q => we env (rk (fun x => wl env (rk (fun lo => wh env (rk (fun hi => Zfh x lo hi fun z => Q (.ok z)) Q)) Q)) Q)
noncomputable def rSlA (K : PySem.W.Frag) : V → Option Int → Option Int → Hp → VK → Prop := fun x lo hi H Q => (rSlL K x lo hi H Q ∨ rSlT K x lo hi H Q) ∨ rSlS x lo hi H Q
theorem Zp2 {β : Type} {w : WO} {l : List Cell} {env : En} {σ : L2.St} {k : Option Int → Prop} {Q : R β → Prop} {Q' : Option Int → Hp → Prop} (m : Mono w) (h : w env (rk k Q))
    (h1 : ∀ x, k x → ∀ H', C F (l ++ env.zip σ) H' → Q' x H') (h2 : ∀ c fs, Q (.ex c fs) → LOp F W l env σ Q' (.ex c fs)) : w env (LOp F W l env σ Q') :=
  m env _ _ (fun r q => match r, q with
    | .ok x, q => h1 x q
    | .ex c fs, q => h2 c fs q) h
theorem Zbl {lo hi : Option Expr} {wl wh : WO} {p2 : Pos} (he : DE X F W e we) (hl : DO X F W lo wl) (hh : DO X F W hi wh) (hK : X.K = F.K := by rfl) : DE X F W (.Subscript e (.Slice lo hi none p2) pos) (Zb7 we wl wh) := by
  refine ⟨Zbr (pe_slice (r := rSlA F.K) (by rw [← hK]; exact (sl_list.or sl_tup).or sl_str) he.run hl.run hh.run) fun σ H Q ⟨l, env, k, q⟩ => ⟨l, env, k, Zbe he.mono q (fun x hx v H1 c1 => ?_) fun c fs z => z⟩, fun env Q Q' m h => Za3 he.mono (fun x hx => Za3 hl.mono (fun lo hlo => Za3 hh.mono (fun hi hhi => Zim (fun z hz => m _ hz) hhi) m hlo) m hx) m h⟩
  refine ⟨(x, some v) :: l, env, k.to1 c1, Zp2 hl.mono hx (fun a ha H2 c2 => ?_) fun c fs z => fun A d H' hA hx c3 => z A d H' hA hx c3.tail⟩
  refine ⟨(x, some v) :: l, env, k.to1 c2, Zp2 hh.mono ha (fun b hb H3 c3 => ?_) fun c fs z => fun A d H' hA hx c3 => z A d H' hA hx c3.tail⟩
  have c4 : C F ((x, some v) :: (l ++ env.zip σ)) H3 := c3
  have pwl : (l ++ env.zip σ).Pairwise (Zbw H3) := by obtain ⟨_, _, _, pw⟩ := c4; exact (List.pairwise_cons.mp pw).2
  unfold Zfh at hb
  split at hb
  · rename_i ds hd
    obtain ⟨p, vs, ea, hq, hlen, S, g, r, cc, _⟩ := c4.seqL hd
    cases ea
    refine .inl (.inl ⟨p, vs, rfl, hq, fun n hn => hb _ _ (C.newFrom g (fun q hq => cc q (List.mem_cons_of_mem _ hq)) pwl ?_ hn)⟩)
    unfold cutV cutD
    rw [hlen]
    exact (r.drop _).take _
  · rename_i ds hd
    obtain ⟨p, vs, ea, hq, hlen, S, g, r, cc, _⟩ := c4.seqT hd
    cases ea
    refine .inl (.inr ⟨p, vs, rfl, hq, by rw [hlen]; exact hb.1, fun n hn => hb.2 _ _ (C.newFromT g (fun q hq => cc q (List.mem_cons_of_mem _ hq)) pwl ?_ hn)⟩)
    unfold cutV cutD
    rw [hlen]
    exact (r.drop _).take _
  · rename_i s hd
    obtain ⟨S, r⟩ := c4.repOf hd fun _ _ _ z => z
    cases r
    exact .inr ⟨s, rfl, by rw [sizeLine_eq]; exact hb.1, hb.2 _ H3 (c4.tail.str _)⟩
  · exact hb.elim
end
end DL
set_option Elab.async false
set_option linter.all false
set_option maxRecDepth 100000
set_option maxHeartbeats 4000000
namespace DL
open PySem PySem.Spec PyProof.Rows L2
theorem C.revalue {F : Fr} {H : Hp} : ∀ {l1 l2 : List Cell} {a : List Cell}, l1.length = l2.length → (∀ (i : Nat) p q, l1[i]? = some p → l2[i]? = some q → p = q ∨ q.1 = .un) → C F (a ++ l1) H → C F (a ++ l2) H
  | [], [], a, _, _, h => h
  | [], _ :: _, _, h, _, _ => by simp at h
  | _ :: _, [], _, h, _, _ => by simp at h
  | p :: l1, q :: l2, a, hl, hr, h => by
    have h1 : C F ((a ++ [q]) ++ l1) H := by
      rcases hr 0 p q rfl rfl with rfl | e
      · rw [List.append_assoc]; exact h
      · have h2 : C F (a ++ l1) H := h.front.tail
        have h3 : C F ((.un, q.2) :: (a ++ l1)) H := h2.un _
        rw [List.append_assoc]
        have : q = (.un, q.2) := by rw [← e]
        rw [this]
        exact h3.back
    have h2 := C.revalue (l1 := l1) (l2 := l2) (a := a ++ [q]) (by simpa using hl) (fun i p' q' e1 e2 => hr (i + 1) p' q' (by simpa using e1) (by simpa using e2)) h1
    rw [List.append_assoc] at h2
    exact h2
section
variable {X : Cx} {F : Fr} {W : WX} {e e2 tg : Expr} {es : List Expr} {st : Stmt} {we we2 wc wt : WE} {wi : WI} {w : WS} {pos p : Pos}
theorem CE.un {l : List Cell} {env : En} {σ : L2.St} {H : Hp} (k : CE F l env σ H) (i : Nat) (v : Option V) : CE F l (env.set i .un) (σ.set i v) H := by
  refine ⟨by simp [k.len], fun y hy => ?_, ?_⟩
  · rcases List.mem_or_eq_of_mem_set hy with hy | rfl
    · exact k.ok y hy
    · trivial
  · rw [Zj8]
    refine C.revalue (l1 := env.zip σ) (by simp) (fun j p q h1 h2 => ?_) k.c
    rw [List.getElem?_set] at h2
    split at h2
    · split at h2
      · cases h2; exact .inr rfl
      · cases h2
    · rw [h1] at h2; cases h2; exact .inl rfl
theorem Zvp {α : Type} {l : List α} {i : Nat} {x : α} (h : l[i]? = some x) : l.set i x = l := by
  apply List.ext_getElem?
  intro j
  rw [List.getElem?_set]
  split
  · subst_vars
    split
    · rw [h]
    · rename_i hlt
      rw [List.getElem?_eq_none (by omega)]
  · rfl
noncomputable def wFgt (i : Nat) (w : WS) : WS := fun env Q => w (env.set i .un) Q
noncomputable def W0 : WX := fun _ _ _ _ => False
noncomputable def Zg7 (c : Str) : WS := fun env Q => Q (.ex c [] env)
theorem Zu5 {c : Str} {A : Addr} (gC : F.mg c = some (.ref A)) (h : PS X st (fun _ σ H => W (.ref A) none σ H)) : DS X F W st (Zg7 c) :=
  ⟨Zf6 h fun D σ H ⟨l, env, k, hl, q⟩ => q A none σ H gC (.inl ⟨rfl, rfl⟩) k, fun _ _ _ m h => m _ h⟩
end
noncomputable def Zwm (xs : List Slot) (e : En) : Prop := ∀ (j : Nat) (a : Addr) (d : D), xs[j]? = some (.na a d) → e[j]? = some (.na a d)
noncomputable def fin (xs : List Slot) (Q : R Slot → Prop) : O → Prop
  | .ret (.sh d) => Q (.ok (.sh d))
  | .ret (.ow d) => Q (.ok (.ow d))
  | .ret (.nd d) => Q (.ok (.nd d))
  | .ret (.rt ms x) => Q (.ok (.rt ms x))
  | .nx _ => Q (.ok (.sh .non))
  | .ex c fs e => Zwm xs e ∧ Q (.ex c fs)
  | _ => False
noncomputable def gOf (n : Nat) (w : WS) : G := fun xs Q => w (xs ++ List.replicate (n - xs.length) .un) (fin xs Q)
theorem Zwf {xs : List Slot} {Q Q' : R Slot → Prop} (m : ∀ r, Q r → Q' r) : ∀ o, fin xs Q o → fin xs Q' o
  | .ret (.sh _), h => m _ h
  | .ret (.ow _), h => m _ h
  | .ret (.nd _), h => m _ h
  | .ret .un, h => h
  | .ret (.bo _), h => h
  | .ret (.bt _), h => h
  | .ret (.lk _ _), h => h
  | .ret (.lo _ _ _), h => h
  | .ret (.nb _), h => h
  | .ret (.ln _ _), h => h
  | .ret (.xc _), h => h
  | .ret (.xe _ _ _), h => h
  | .ret (.na _ _), h => h
  | .ret (.rt _ _), h => m _ h
  | .nx _, h => m _ h
  | .bk _, h => h
  | .ct _, h => h
  | .ex _ _ _, h => ⟨h.1, m _ h.2⟩
theorem Zbk {n : Nat} {w : WS} (m : Zbi w) : Ze5 (gOf n w) := fun xs Q Q' mm h => m _ _ _ (Zwf mm) h
theorem Zst {α β : Type} : ∀ {xs : List α} {us : List β} (ys : List α) (vs : List β), xs.length = us.length → (xs ++ ys).zip (us ++ vs) = xs.zip us ++ ys.zip vs
  | [], [], _, _, _ => rfl
  | x :: xs, u :: us, ys, vs, h => by
    show (x, u) :: (xs ++ ys).zip (us ++ vs) = (x, u) :: (xs.zip us ++ ys.zip vs)
    rw [Zst ys vs (by simpa using h)]
  | [], _ :: _, _, _, h => by simp at h
  | _ :: _, [], _, _, h => by simp at h
section
variable {P : Program} {w : World} {K : PySem.W.Frag} {mg : Str → Option Value} {base : Heap}
theorem C.unsR {F : Fr} {H : Hp} (n : Nat) : ∀ {m : Nat} {l : List Cell}, C F l H → C F (l ++ (List.replicate m (Slot.un)).zip (List.replicate m (none : Option V))) H
  | 0, l, h => by simpa using h
  | m + 1, l, h => by
    have : C F (l ++ ((Slot.un, (none : Option V)) :: (List.replicate m (Slot.un)).zip (List.replicate m (none : Option V)))) H := C.back ((C.unsR n (m := m) h).un none)
    rw [List.replicate_succ, List.replicate_succ]
    exact this
theorem Ztz {F : Fr} {H : Hp} : ∀ {xs : List Slot} {env : En} {σ : L2.St}, C F (env.zip σ) H → env.length = σ.length → Zwm xs env → C F (Zh5 (msOf xs)) H ∧ (Zh5 (msOf xs)).Sublist (env.zip σ)
  | [], env, σ, c, _, _ => ⟨c.sub (List.nil_sublist _), List.nil_sublist _⟩
  | x :: xs, [], σ, c, hl, k => by
    have none : ∀ j a d, (x :: xs)[j]? ≠ some (Slot.na a d) := fun j a d e => by have := k j a d e; simp at this
    have key : ∀ ys : List Slot, (∀ (j : Nat) a d, ys[j]? ≠ some (Slot.na a d)) → msOf ys = [] := fun ys => by
      induction ys with
      | nil => intro _; rfl
      | cons y ys ih =>
        intro h
        have h1 := ih fun j a d e => h (j + 1) a d (by simpa using e)
        cases y with
        | na a d => exact (h 0 a d rfl).elim
        | _ => exact h1
    rw [key _ none]
    exact ⟨c.sub (List.nil_sublist _), List.nil_sublist _⟩
  | x :: xs, y :: env, [], c, hl, k => by simp at hl
  | x :: xs, y :: env, v :: σ, c, hl, k => by
    have c1 : C F ((y, v) :: env.zip σ) H := c
    obtain ⟨_, s2⟩ := Ztz (xs := xs) c1.tail (by simpa using hl) fun j a d e => by simpa using k (j + 1) a d (by simpa using e)
    have step : (Zh5 (msOf (x :: xs))).Sublist ((y, v) :: env.zip σ) := by
      cases x with
      | na a d =>
        have e0 := k 0 a d rfl
        simp only [List.getElem?_cons_zero, Option.some.injEq] at e0
        subst e0
        obtain ⟨S, g, cc, _⟩ := c1
        obtain ⟨e, _⟩ := cc _ List.mem_cons_self
        subst e
        exact List.Sublist.cons_cons _ s2
      | _ => exact s2.cons _
    exact ⟨c.sub step, step⟩
theorem Zq7 {F : Fr} {H : Hp} {xs : List Slot} {env : En} {σ : L2.St} (k : CE F [] env σ H) (h : Zwm xs env) (_ : ∀ x ∈ xs, x.env) : C F (Zh5 (msOf xs)) H := (Ztz (show C F (env.zip σ) H from k.c) k.len h).1
theorem Zvz {xs : List Slot} {e : En} (h : msOf xs = []) : Zwm xs e := by
  have key : ∀ (ys : List Slot) (j : Nat) (a : Addr) (d : D), msOf ys = [] → ys[j]? ≠ some (Slot.na a d) := fun ys => by
    induction ys with
    | nil => intro j a d _ z; simp at z
    | cons y ys ih =>
      intro j a d h z
      cases j with
      | zero => simp only [List.getElem?_cons_zero, Option.some.injEq] at z; subst z; cases h
      | succ j =>
        have h' : msOf ys = [] := by cases y <;> first | exact h | cases h
        exact ih j a d h' (by simpa using z)
  exact fun j a d z => (key xs j a d h z).elim
theorem Z0a {x qual : Str} {st : Stmt} {f : Addr} {fd : FuncData} {N ps : List Str} {k : Nat} (Fn : Fun K x qual st f fd) (S : FnScope N ps (defScope st)) (hNP : ps.length ≤ N.length) {ws : WS}
    (hb : ∀ (cdv : Value) (A : Around) (outer : List PySem.Env) (s : Shared) (H H0 S0 : Hp) (E : XK), Room k (A.deeper (envOfC qual (defScope st) s.heap.objs.size f cdv)) →
      DSs (cxOf (L2.CX P w) P w K mg base N qual (defScope st) f cdv A outer s H E) ⟨K, mg, H0, S0⟩ (fun c d _ H' => E c d H') (defBody st) ws) :
    FnOk P w K mg base (L2.CX P w) (k + 1) f fd ps (spG K mg ps.length (gOf N.length ws)) := by
  refine Fn.okX S (fun vs H Q E h => h.1) (fun cdv A outer s H vs Q E hr h => ?_)
  obtain ⟨hl, xs, S0, H0, hx, hst, c, h⟩ := h
  have h : ws (xs ++ List.replicate (N.length - xs.length) .un) (fin xs (Z0n ⟨K, mg, H0, S0⟩ (msOf xs) Q E)) := h
  refine ⟨_, (hb cdv A outer s H H0 S0 E hr).run, [], xs ++ List.replicate (N.length - xs.length) .un, ⟨?_, ?_, ?_⟩, fun p hp => by simp at hp, (hb cdv A outer s H H0 S0 E hr).mono _ _ _ (fun o z => ?_) h⟩
  · unfold L2.start; simp [hx]
  · intro y hy
    rcases List.mem_append.mp hy with hy | hy
    · exact hst y hy
    · rw [(List.mem_replicate.mp hy).2]; trivial
  · unfold L2.start
    rw [Zst _ _ (by simp [hx]), hx]
    exact C.unsR 0 c
  · cases o with
    | ret y =>
      cases y with
      | sh d => exact z
      | ow d => exact z
      | nd d => exact z
      | rt ms x => exact fun v H' c => z v H' (by rw [List.append_nil] at c; exact c)
      | _ => exact z.elim
    | nx e => exact fun σ' H' k' => z .non H' (C.non (k'.c.sub (List.nil_sublist _)))
    | bk e => exact z.elim
    | ct e => exact z.elim
    | ex cn fs e => exact fun A d σ' H' hA hx k' => z.2 A d H' hA hx (Zq7 k' z.1 hst)
theorem Zz4 {γ : G} (hγ : ∀ ns : List Int, ns.length ≤ 63 → γ [.sh (.lst (ns.map D.int))] fun r => r = .ok (.sh (.bl true))) (m : Ze5 γ) {H : Hp} {a : Addr} {ns : List Int} (hn : ns.length ≤ 63) (hS : SqL K H a (ns.map V.int)) :
    spG K mg 1 γ [.ref a] H (fun v _ => v = .bl true) fun _ _ _ => False := by
  refine ⟨rfl, [.sh (.lst (ns.map D.int))], H, H, rfl, fun x hx => ?_, ?_, m _ _ _ (fun r z => ?_) (hγ ns hn)⟩
  · have e : x = .sh (.lst (ns.map D.int)) := by simpa using hx
    subst e; trivial
  · refine ⟨H, ⟨Same.refl H, Same.refl H, Same.refl H, fun a z => .inl z⟩, fun p hp => ?_, by simp [List.zip]⟩
    have e : p = (Slot.sh (.lst (ns.map D.int)), some (V.ref a)) := by simpa using hp
    subst e
    exact ⟨_, rfl, .lst hS (Reps.ofInts ns)⟩
  · subst z
    intro v H' c
    have e := c.shBl
    cases e
    rfl
theorem noCX {H : Hp} {s : Shared} {e : Value} {s' : Shared} (h : L2.CX P w [] H s (fun _ _ _ => False) e s') : False := by
  obtain ⟨_, _, _, _, _, _, _, _, _, _, _, _, z⟩ := h
  exact z.elim
theorem Zdh {k : Nat} {A : Around} (r : Room k A) : A.units + 65 < cLine := by have := r.un; omega
end
end DL
set_option Elab.async false
set_option linter.all false
set_option maxRecDepth 100000
set_option maxHeartbeats 4000000
namespace DL
open PySem PySem.Spec PyProof.Rows L2
section
variable {we we2 wc wt : WE} {wA : WA} {wi : WI} {wl wh : WO} {g : WG} {w w1 w2 : WS}
theorem Zag (i : Nat) : Mono (wVar i) := fun env Q Q' m h => by
  unfold wVar at h ⊢
  split at h
  · exact m _ h
  · exact m _ h
  · exact m _ h
  · exact m _ h
  · exact m _ h
  · exact m _ h
  · exact m _ h
  · exact m _ h
  · exact m _ h
  · exact h.elim
theorem Zap {i : Int} : Mono (wInt i) := fun _ _ _ m h => m _ h
theorem m_bl {i : Bool} : Mono (wBl i) := fun _ _ _ m h => m _ h
theorem Za4 {i : Str} : Mono (wStr i) := fun _ _ _ m h => m _ h
theorem Zlp : Mono wNon := fun _ _ _ m h => m _ h
theorem Zub : Ze7 oNeg := fun x k k' m h => by
  unfold oNeg at h ⊢
  split at h
  · exact m _ h
  · exact h.elim
theorem Zg9 {T : String} : Ze7 (oIsi T) := fun x k k' m h => by
  unfold oIsi at h ⊢
  split at h
  · exact ⟨h.1, m _ h.2⟩
  · exact h.elim
theorem Zau : Mono aNil := fun _ _ _ m h => m _ h
theorem Zaa (h1 : Mono we) (h2 : Mono wA) : Mono (Zak we wA) := fun env Q Q' m q => Za3 h1 (fun x hx => Za3 h2 (fun xs hxs => m _ hxs) m hx) m q
theorem Zm9 (h : Mono wA) : Mono (wTup wA) := fun env Q Q' m q => Za3 h (fun xs hx => by
  split at hx
  · exact ⟨hx.1, m _ hx.2⟩
  · exact hx.elim) m q
theorem Zef (h : Mono wA) : Mono (wLst wA) := fun env Q Q' m q => Za3 h (fun xs hx => by
  split at hx
  · exact ⟨hx.1, m _ hx.2⟩
  · exact hx.elim) m q
theorem Zbp {γ : G} (mg : Ze5 γ) (h : Mono wA) : Mono (Zcx γ wA) := fun env Q Q' mm q => Za3 h (fun xs hx => mg _ _ _ (Zjc mm) hx) mm q
theorem Zfv : Mono wNoP := fun _ _ _ m h => m _ h
theorem Zc3 (h : Mono we) : Mono (Zet we) := fun env Q Q' m q => Za3 h (fun x hx => by
  split at hx
  · exact m _ hx
  · exact hx.elim) m q
theorem Zb5 (h : Mono we) (h1 : Mono wl) (h2 : Mono wh) : Mono (Zb7 we wl wh) := fun env Q Q' m q => Za3 h (fun x hx => Za3 h1 (fun lo hlo => Za3 h2 (fun hi hhi => Zim (fun z hz => m _ hz) hhi) m hlo) m hx) m q
theorem Zww (h : Mono we) : Mono (Zrq we) := fun env Q Q' m q => Za3 h (fun x hx => Zg3 (fun ds z => m _ z) hx) m q
theorem Z07 (h : Mono wA) : Mono (Zux wA) := fun env Q Q' m q => Za3 h (fun x hx => Zjs (fun j z => m _ z) hx) m q
theorem Za2 {i : Nat} : Zky (gN i) := fun x env k k' m h => by
  unfold gN at h ⊢
  split at h
  · exact ⟨h.1, m _ h.2⟩
  · exact ⟨h.1, m _ h.2⟩
  · exact ⟨h.1, m _ h.2⟩
  · exact h.elim
theorem Zrv {is : List Nat} : Zky (gT is) := fun x env k k' m h => by
  unfold gT at h ⊢
  split at h
  · exact Zew m h
  · exact Zew m h
  · exact h.elim
theorem Zax : Zbi Zbd := fun _ _ _ m h => m _ h
theorem m_if (hc : Mono wc) (h1 : Zbi w1) (h2 : Zbi w2) : Zbi (wIf wc w1 w2) := fun env Q Q' m h => Zcf hc (fun x hx => Zhj (fun b z => match b, z with
    | true, z => h1 env _ _ m z
    | false, z => h2 env _ _ m z) hx) m h
theorem Zb2 (h : Mono we) : Zbi (wRet we) := fun env Q Q' m q => Zcf h (fun x z => m _ z) m q
theorem Ztn {i : Nat} : Zbi (Zh4 i) := fun env Q Q' m h => by
  unfold Zh4 at h ⊢
  split at h
  · exact m _ h
  · exact m _ h
  · exact m _ h
  · exact h.elim
theorem Zos (hg : Zky g) (hi : Mono wi) (hb : Zbi w) : Zbi (wFor g wi w) := fun env Q Q' m h => Zcf hi (fun ds z => Zhd hg hb ds env Q Q' m z) m h
theorem Zv6 {i : Nat} (h : Mono we) : Zbi (wApp i we) := fun env Q Q' m q => by
  unfold wApp at q ⊢
  split at q
  · exact Zcf h (fun y hy => by
      split at hy
      · exact ⟨hy.1, m _ hy.2⟩
      · exact hy.elim) m q
  · exact q.elim
theorem Zy5 {i : Nat} (h1 : Mono we) (h2 : Mono we2) : Zbi (wSet i we we2) := fun env Q Q' m h => by
  unfold wSet at h ⊢
  split at h
  · refine Zcf h2 (fun y hy => ?_) m h
    split at hy
    · refine Zcf h1 (fun z hz => ?_) m hy
      split at hz
      · exact Zk4 (fun c z => m _ z) hz
      · exact hz.elim
    · exact hy.elim
  · exact h.elim
theorem Zz8 {i : Nat} (h : Zbi w) : Zbi (wFrz i w) := fun env Q Q' m q => by
  unfold wFrz at q ⊢
  split at q
  · exact h _ _ _ m q
  · exact q.elim
theorem Zko {i : Nat} (h : Zbi w) : Zbi (wFgt i w) := fun env Q Q' m q => h _ _ _ m q
theorem Zma {c : Str} : Zbi (Zg7 c) := fun _ _ _ m h => m _ h
end
noncomputable def Zfe (K : PySem.W.Frag) (mg : Str → Option Value) (x : Str) (st : Stmt) (ps : List Str) : Prop := ∃ f fd, Fun K x x st f fd ∧ mg x = some (.ref f) ∧ ∀ (s : Shared) (us : List Value), us.length = ps.length → BindsTo s fd ⟨us, []⟩ (ps.zip us)
noncomputable def FnAt (P : Program) (w : World) (K : PySem.W.Frag) (mg : Str → Option Value) (base : Heap) (x : Str) (k n : Nat) (γ : G) : Prop :=
  (∃ f fd ps, FnOk P w K mg base (L2.CX P w) k f fd ps (spG K mg n γ) ∧ mg x = some (.ref f) ∧ PySem.W.keepIn K (.ref f) = true ∧ Binds K fd ps []) ∧ Ze5 γ
section
variable {P : Program} {w : World} {K : PySem.W.Frag} {mg : Str → Option Value} {base : Heap}
theorem Zg6 {x : Str} {st : Stmt} {N ps : List Str} {k n : Nat} {ws : WS} (T : Zfe K mg x st ps) (S : FnScope N ps (defScope st)) (hNP : ps.length ≤ N.length) (hm : Zbi ws) (hn : ps.length = n)
    (hb : ∀ (f : Addr) (cdv : Value) (A : Around) (outer : List PySem.Env) (s : Shared) (H H0 S0 : Hp) (E : XK), Room k (A.deeper (envOfC x (defScope st) s.heap.objs.size f cdv)) →
      DSs (cxOf (L2.CX P w) P w K mg base N x (defScope st) f cdv A outer s H E) ⟨K, mg, H0, S0⟩ (fun c d _ H' => E c d H') (defBody st) ws) :
    FnAt P w K mg base x (k + 1) n (gOf N.length ws) := by
  obtain ⟨f, fd, Fn, hx, bd⟩ := T
  subst hn
  exact ⟨⟨f, fd, ps, Z0a Fn S hNP (fun cdv A outer s H H0 S0 E hr => hb f cdv A outer s H H0 S0 E hr), hx, Fn.kp, fun s us _ hl => by rw [List.append_nil] at hl ⊢; exact bd s us hl⟩, Zbk hm⟩
end
section
variable {X : Cx} {F : Fr} {W : WX} {e : Expr} {es : List Expr} {wA : WA} {pos p : Pos}
theorem Zck {k j n : Nat} {γ : G} {x : Str} (A : FnAt X.prog X.w F.K F.mg X.base x k n γ) (hr : Room j X.A) (hj : k ≤ j) (tk : Takes X W) (ha : DA X F W (e :: es) wA) (hnA : ∀ env Q, wA env Q → wA env fun r => Q r ∧ ∀ xs, r = .ok xs → xs.length = n) (hn : (e :: es).length = n)
    (hg : Gl X x := by rfl) (hdb : (x == ("__debug__" : Str)) = false := by decide) (he : starEach (e :: es) X.env = (false, eval e X.env) :: starEach es X.env := by rfl) (hpl : (backTo pos (starEach es X.env)).any (·.1) = false := by rfl) (hK : X.K = F.K := by rfl) (hM : X.mg = F.mg := by rfl) :
    DE X F W (.Call (.Name x p) (e :: es) [] pos) (Zcx γ wA) := by
  obtain ⟨⟨f, fd, ps, Fk, hm, hk, hb⟩, m⟩ := A
  refine Zyb m (by rw [hK, hM]; exact Fk) (hr.mono hj) (by rw [hM]; exact hm) (by rw [hK]; exact hk) (by rw [hK]; exact hb) tk hn ha hnA hg hdb he hpl
end
theorem Zdk {K : PySem.W.Frag} {h : Heap} {mg : Str → Option Value} {x : Str} {st : Stmt} {ps : List Str} {f : Addr} {oc : Value} {od an : Option Addr} {osl : Array (Option Value)} {kV doc pm cdv ct : Value} (X : K.In h) (G : h.Ns mainGlobals mg)
    (a : PySem.W.nsIn K mainGlobals x = some (some (.ref f))) (l : K.lookup f = some ⟨oc, od, .func (PySem.W.fnOf x x (defArgs st) (defBody st) (defScope st) .none kV doc pm an cdv ct), osl⟩) (c : PySem.W.codeIn K cdv x = true) (k : PySem.W.keepIn K (.ref f) = true)
    (hb : ∀ us : List Value, us.length = ps.length → bindArgs (PySem.W.fnOf x x (defArgs st) (defBody st) (defScope st) .none kV doc pm an cdv ct) ⟨us, []⟩ = pure (ps.zip us)) : Zfe K mg x st ps :=
  ⟨f, _, fun_mk l c k, PySem.W.mg_of X G a, fun s us hl => .of_eq (hb us hl)⟩
noncomputable def spLaw (K : PySem.W.Frag) : Sp := fun vs H Q _ => ∃ (a : Addr) (ns : List Int), vs = [.ref a] ∧ SqL K H a (ns.map V.int) ∧ ns.length ≤ 63 ∧ ∀ H', Q (.bl true) H'
theorem law_at {P : Program} {w : World} {K : PySem.W.Frag} {mg : Str → Option Value} {st : Stmt} {N : List Str} {x : Str} {k : Nat} {ws : WS} {fa : Addr} (T : Zfe K mg "law" st [x]) (S : FnScope N [x] (defScope st)) (hNP : 1 ≤ N.length) (hm : Zbi ws) (hfa : mg "law" = some (.ref fa))
    (hγ : ∀ ns : List Int, ns.length ≤ 63 → gOf N.length ws [.sh (.lst (ns.map D.int))] fun r => r = .ok (.sh (.bl true)))
    (hb : ∀ (base : Heap), K.In base → base.Ns mainGlobals mg → ∀ (f : Addr) (cdv : Value) (A : Around) (outer : List PySem.Env) (s : Shared) (H H0 S0 : Hp) (E : XK), Room k (A.deeper (envOfC "law" (defScope st) s.heap.objs.size f cdv)) →
      DSs (cxOf (L2.CX P w) P w K mg base N "law" (defScope st) f cdv A outer s H E) ⟨K, mg, H0, S0⟩ (fun c d _ H' => E c d H') (defBody st) ws) :
    ∃ fd : FuncData, (∀ (s : Shared) (v : Value), BindsTo s fd ⟨[v], []⟩ [(x, v)]) ∧ ∀ base : Heap, K.In base → base.Ns mainGlobals mg → FnOk P w K mg base (L2.CX P w) (k + 1) fa fd [x] (spLaw K) := by
  obtain ⟨f, fd, Fn, hx, bd⟩ := T
  rw [hfa] at hx
  cases hx
  refine ⟨fd, fun s v => bd s [v] rfl, fun base h1 h2 => ?_⟩
  refine (Z0a Fn S hNP (fun cdv A outer s H H0 S0 E hr => hb base h1 h2 fa cdv A outer s H H0 S0 E hr)).imp fun vs H Q E ⟨a, ns, ev, hS, hn, hq⟩ => ?_
  subst ev
  have h := Zz4 (K := K) (mg := mg) (H := H) (a := a) hγ (Zbk hm) hn hS
  obtain ⟨hl, xs, S, H0, h1, h2, h3, h4⟩ := h
  have fin : ∀ (v : V) (H' : Hp), v = .bl true → Q v H' := fun v H' e => (e ▸ hq H')
  refine ⟨hl, xs, S, H0, h1, h2, h3, Zbk hm _ _ _ (fun r z => ?_) h4⟩
  cases r with
  | ex c fs => exact fun A d H' hA hx hc => (z A d H' hA hx hc).elim
  | ok y =>
    cases y with
    | sh d => exact fun v H' c => fin v H' (z v H' c)
    | ow d => exact fun v H' c => fin v H' (z v H' c)
    | nd d => exact fun v H' c => fin v H' (z v H' c)
    | rt ms x => exact fun v H' c => fin v H' (z v H' c)
    | _ => exact z
end DL
set_option Elab.async false
set_option linter.all false
set_option maxRecDepth 100000
set_option maxHeartbeats 4000000
namespace DL
open PySem PySem.Spec PyProof.Rows L2
section
variable {X : Cx} {F : Fr} {W : WX} {a b c e o : Expr} {es : List Expr} {is : List Nat} {st : Stmt} {wa wb wc we : WE} {wA : WA} {w : WS} {wi : WI} {pos p apos cpos : Pos} {x : Str}
theorem nac {i : Nat} (r : NamesAt X es is) (hi : X.N[i]? = some x := by rfl) (hx : Loc X.env.scope x := by first | exact Or.inl rfl | exact Or.inr rfl) (hf : X.fn x = true ∨ X.env.scope.names.lookup x = some .local := by first | exact .inl rfl | exact .inr rfl) : NamesAt X (.Name x p :: es) (i :: is) := .cons hi hx hf r
noncomputable def Zz2 (K : PySem.W.Frag) : R2 := fun x y H Q => ∃ l b xs zs, x = .ref l ∧ y = .ref b ∧ SqL K H l xs ∧ SqL K H b zs ∧ xs.length + zs.length ≤ sizeLine ∧ ∀ p, H p = none → Q (.ref p) (upd H p (.lst (xs ++ zs)))
noncomputable def oCat : O2 := fun x y k => match x.dat, y.dat with
  | some (.lst ds), some (.lst es) => ds.length + es.length ≤ 16777216 ∧ k (.ow (.lst (ds ++ es)))
  | _, _ => False
theorem Zf1 : Ziy oCat := fun x y k k' m h => by
  unfold oCat at h ⊢
  split at h
  · exact ⟨h.1, m _ h.2⟩
  · exact h.elim
noncomputable def Z0c (K : PySem.W.Frag) (mg : Str → Option Value) (x : Str) : Prop := ∃ C, mg x = some (.ref C) ∧ PySem.W.excIn K C [.type "ValueError", .type "Exception", .type "BaseException", .type "object"] "ValueError.__new__" = true ∧ PySem.W.keepIn K (.ref C) = true ∧
  PySem.W.subIn K (.ref C) (.type "BaseException") = some true ∧ PySem.W.typeIn K (.ref C) = some (.type "type") ∧ PySem.W.isClsIn K C = true
theorem Zhf {c m : Str} {j : Nat} {p2 pos2 : Pos} (E : Z0c F.K F.mg c) (tk : Takes X W) (hc : X.calm = true := by rfl) (hg : Gl X c := by rfl) (hdb : (c == ("__debug__" : Str)) = false := by decide) (hK : X.K = F.K := by rfl) (hM : X.mg = F.mg := by rfl) :
    DS X F W (.Raise (some (.Call (.Name c p) [.Constant (.str m) j p2] [] pos)) none pos2) (Zg7 c) := by
  obtain ⟨C, gC, q, kC, b, t, i⟩ := E
  exact Zu5 gC (ps_raise hc tk (pmk_own PySem.F.excBase_ValueError (by rw [hK]; exact q) (by rw [hM]; exact gC) (by rw [hK]; exact kC) (raises_own (by rw [hK]; exact b) (by rw [hK]; exact t)) hg hdb))
theorem C.stillVals {l : List Cell} {H : Hp} {y : Slot} {a : Addr} {ds : List D} {S : Hp} (g : GS F S H) (hd : y.dat = some (.lst ds)) (s : SC F S H (y, some (.ref a))) : ∃ vs, SqL F.K H a vs ∧ Reps F.K S vs ds := by
  cases y with
  | un => cases hd
  | sh d => cases hd; obtain ⟨w, ew, rw⟩ := s; cases ew; cases rw with
    | lst hq2 r2 => exact ⟨_, Zgl g.sh hq2, r2⟩
  | ow d => cases hd; obtain ⟨b, eb, _, _, vs', e2, r2⟩ := s; cases eb; exact ⟨vs', SqL.of e2, r2⟩
  | bo d => cases hd; obtain ⟨b, eb, _, vs', e2, r2⟩ := s; cases eb; exact ⟨vs', SqL.of e2, r2⟩
  | bt d => cases hd; obtain ⟨b, eb, vs', e2, r2⟩ := s; cases eb; exact ⟨vs', SqL.of e2, r2⟩
  | lk b d => cases hd; obtain ⟨eb, _, _, vs', e2, r2⟩ := s; cases eb; exact ⟨vs', SqL.of e2, r2⟩
  | lo b _ d => cases hd
  | nd d => cases hd
  | nb d => cases hd
  | ln _ _ => cases hd
  | xc _ => cases hd
  | xe _ _ _ => cases hd
  | na _ _ => cases hd
  | rt _ _ => cases hd
theorem Zv4 {ds es : List D} {i : Nat} {d : D} (h : (zipD ds es)[i]? = some d) : ∃ d1 d2, ds[i]? = some d1 ∧ es[i]? = some d2 ∧ d = .tup [d1, d2] := by
  unfold zipD at h
  rw [List.getElem?_map] at h
  obtain ⟨⟨d1, d2⟩, hz, e⟩ := Option.map_eq_some_iff.mp h
  rw [List.getElem?_zip_eq_some] at hz
  exact ⟨d1, d2, hz.1, hz.2, e.symm⟩
end
theorem Zti : bootBuiltins "int" = some (.type "int") := by decide +kernel
theorem Zr0 : bootBuiltins "bool" = some (.type "bool") := by decide +kernel
theorem Zt7 : bootBuiltins "str" = some (.type "str") := by decide +kernel
theorem Zpg : bootBuiltins "tuple" = some (.type "tuple") := by decide +kernel
theorem Zya : Zl1 "int" := by unfold Zl1; decide +kernel
theorem Zuv : Zl1 "bool" := by unfold Zl1; decide +kernel
theorem Zxp : Zl1 "str" := by unfold Zl1; decide +kernel
theorem Zs2 : Zl1 "tuple" := by unfold Zl1; decide +kernel
theorem Zwe : ClsV (.ty "int") (.type "int") := .ty _
theorem Zuu : ClsV (.ty "bool") (.type "bool") := .ty _
theorem Zvo : ClsV (.ty "str") (.type "str") := .ty _
theorem Zq6 : ClsV (.ty "tuple") (.type "tuple") := .ty _
end DL
set_option Elab.async false
set_option linter.all false
set_option maxRecDepth 100000
set_option maxHeartbeats 4000000
namespace DL
open PySem PySem.Spec PyProof.Rows L2
section
variable {X : Cx} {F : Fr} {W : WX} {a b c e o : Expr} {wa wb wc we : WE} {pos p : Pos}
theorem Zvx {w : WE} (m : Mono w) {σ : L2.St} {H : Hp} {Q : Bool → Hp → Prop} (h : LT F W w σ H Q) : LE F W w σ H fun x H' => ∃ k, x = .bl k ∧ Q k H' := by
  obtain ⟨l, env, k, q⟩ := h
  refine ⟨l, env, k, m env _ _ (fun r z => ?_) q⟩
  cases r with
  | ok x =>
    obtain ⟨b, rfl, z⟩ := z
    exact fun v H' c => by
      have e := c.shBl
      cases e
      exact ⟨b, rfl, z H' c.tail⟩
  | ex c fs => exact z
theorem Zkk {op : CmpOp} {r : R2} {o : O2} (ho : OpR X (compareOp op) r) (sn : Ziz F r o) (om : Ziy o) (ha : DE X F W a wa) (hb : DE X F W b wb) (hm : behindInMarks op b = false) : DT X F W (.Compare a [op] [b] pos) (wOp o wa wb) :=
  ⟨Zkt (pt_cmpR ho ha.run hb.run hm) fun _ _ _ h => Zv7 sn ha hb (Zvx (Zah ha.mono hb.mono om) h), Zah ha.mono hb.mono om⟩
theorem Z0x (ha : DE X F W a wa) (hb : DE X F W b wb) : DT X F W (.Compare a [.Lt] [b] pos) (wOp oLt wa wb) := Zkk op_lt Zr4 Zbb ha hb (nomark _)
theorem Zvn (ha : DE X F W a wa) (hb : DE X F W b wb) : DT X F W (.Compare a [.Gt] [b] pos) (wOp oGt wa wb) := Zkk op_gt Zr4 Zbb ha hb (nomark _)
theorem Z2e (ha : DE X F W a wa) (hb : DE X F W b wb) : DT X F W (.Compare a [.GtE] [b] pos) (wOp oGe wa wb) := Zkk op_ge Zr4 Zbb ha hb (nomark _)
theorem Zee (hu : X.A.units + 65 < cLine) (ha : DE X F W a wa) (hb : DE X F W b wb) (hK : X.K = F.K := by rfl) : DT X F W (.Compare a [.Eq] [b] pos) (wOp (oEq false) wa wb) :=
  Zkk (r := rEqA F.K) (by rw [← hK]; exact op_eq.or (op_eqD (by omega))) Zwy Zav ha hb (nomark _)
theorem Zx9 (hu : X.A.units + 65 < cLine) (ha : DE X F W a wa) (hb : DE X F W b wb) (hK : X.K = F.K := by rfl) : DT X F W (.Compare a [.NotEq] [b] pos) (wOp (oEq true) wa wb) :=
  Zkk (r := rNeA F.K) (by rw [← hK]; exact op_ne.or (op_neD (by omega))) Zws Zav ha hb (nomark _)
theorem Z10 (hu : X.A.units + 65 < cLine) (ha : DE X F W a wa) (hb : DE X F W b wb) (hm : behindInMarks .In b = false := by rfl) (hK : X.K = F.K := by rfl) : DT X F W (.Compare a [.In] [b] pos) (wOp (oIn false) wa wb) :=
  Zkk (r := rInA F.K false) (by rw [← hK]; exact Zzr hu) Zw7 Zfn ha hb hm
theorem Zja (hu : X.A.units + 65 < cLine) (ha : DE X F W a wa) (hb : DE X F W b wb) (hm : behindInMarks .NotIn b = false := by rfl) (hK : X.K = F.K := by rfl) : DT X F W (.Compare a [.NotIn] [b] pos) (wOp (oIn true) wa wb) :=
  Zkk (r := rInA F.K true) (by rw [← hK]; exact Zss hu) Zw7 Zfn ha hb hm
theorem Zuk {j : Nat} {p : Pos} (ha : DE X F W a wa) : DT X F W (.Compare a [.Is] [.Constant .none j p] pos) (wUn (oIsN false) wa) :=
  ⟨Zkt (pt_cmpR op_isN ha.run pe_non (nomark _)) fun _ _ _ h => Zxg (neg := false) (fun x H Q q => ⟨rfl, by rw [Bool.false_xor] at q; exact q⟩) ha (Zvx (Zaq ha.mono Zd9) h), Zaq ha.mono Zd9⟩
end
end DL
set_option Elab.async false
set_option linter.all false
set_option maxRecDepth 100000
set_option maxHeartbeats 4000000
namespace DL
open PySem PySem.Spec PyProof.Rows L2
structure Slo {α : Type} (lt : α → α → Bool) : Prop where
  irr : ∀ x, lt x x = false
  tri : ∀ x y, lt x y = false → lt y x = false → x = y
  tr : ∀ x y z, lt x y = true → lt y z = true → lt x z = true
noncomputable def ltS (s t : Str) : Bool := decide (s.cps.toList < t.cps.toList)
noncomputable def ltK1 : L2.Key → L2.Key → Bool
  | .inl i, .inl j => decide (i < j)
  | .inr s, .inr t => ltS s t
  | .inl _, .inr _ => true
  | .inr _, .inl _ => false
noncomputable def ltK : List L2.Key → List L2.Key → Bool
  | [], [] => false
  | [], _ :: _ => true
  | _ :: _, [] => false
  | a :: as, b :: bs => if a = b then ltK as bs else ltK1 a b
inductive KeysAre : List Value → List L2.Key → Prop
  | nil : KeysAre [] []
  | int {i : Int} {t : Tok} {vs : List Value} {ks : List L2.Key} : KeysAre vs ks → KeysAre (.int i t :: vs) (.inl i :: ks)
  | str {x : Str} {t : Tok} {vs : List Value} {ks : List L2.Key} : KeysAre vs ks → KeysAre (.str x t :: vs) (.inr x :: ks)
theorem KeysAre.len : ∀ {vs : List Value} {ks : List L2.Key}, KeysAre vs ks → vs.length = ks.length
  | _, _, .nil => rfl
  | _, _, .int h => congrArg (· + 1) h.len
  | _, _, .str h => congrArg (· + 1) h.len
noncomputable def Zuf (h : Heap) (v : Value) (ks : List L2.Key) : Prop := ∃ a o arr n, v = .ref a ∧ h.get? a = some o ∧ o.cls = .type "tuple" ∧ o.data = .seq arr n ∧ KeysAre arr.toList ks
theorem Zuf.keeps {h h' : Heap} {v : Value} {ks : List L2.Key} (p : Zuf h v ks) (k : ∀ b o, h.get? b = some o → o.cls = .type "tuple" → h'.get? b = some o) : Zuf h' v ks := by
  obtain ⟨a, o, arr, n, e, ho, hc, hd, q⟩ := p
  exact ⟨a, o, arr, n, e, k _ _ ho hc, hc, hd, q⟩
section
variable {prog : Program} {w : World} {A : Around} {E : Value → Shared → Prop} {s : Shared}
end
section
variable {X : Cx}
end
end DL
set_option Elab.async false
set_option linter.all false
set_option maxRecDepth 100000
set_option maxHeartbeats 4000000
namespace DL
open PySem PySem.Spec PyProof.Rows L2
section
variable {X : Cx}
theorem Vals.at {i : Nat} {v : V} {vs : List V} {us : List Value} (r : Vals vs us) (h : vs[i]? = some v) : ∃ u, us[i]? = some u ∧ RelV v u := by
  induction r generalizing i with
  | nil => simp at h
  | @cons x u xs us h1 r ih =>
    cases i with
    | zero => simp at h; subst h; exact ⟨u, rfl, h1⟩
    | succ i => exact ih (by simpa using h)
end
end DL
set_option Elab.async false
set_option linter.all false
set_option maxRecDepth 100000
set_option maxHeartbeats 4000000
namespace DL
open PySem PySem.Spec PyProof.Rows L2
section
variable {K : PySem.W.Frag} {S : Hp}
end
section
variable {X : Cx} {F : Fr} {W : WX} {e a : Expr} {we wa : WE} {pos p : Pos}
end
end DL
set_option Elab.async false
set_option linter.all false
set_option maxRecDepth 100000
set_option maxHeartbeats 4000000
namespace DL
open PySem PySem.Spec PyProof.Rows L2
section
variable {X : Cx} {F : Fr} {W : WX} {sts : List Stmt} {w : WS}
theorem Zd6 (i : Nat) (h : DSs X F W sts w) : DSs X F W sts (wFgt i w) := ⟨Zoz h.run fun D σ H ⟨l, env, k, hl, q⟩ => ⟨l, env.set i .un, by
    by_cases hi : i < σ.length
    · have e : σ.set i σ[i] = σ := Zvp (List.getElem?_eq_getElem hi)
      have := k.un i σ[i]
      rw [e] at this
      exact this
    · have e : env.set i .un = env := List.set_eq_of_length_le (by rw [k.len]; omega)
      rw [e]; exact k, hl, q⟩, fun env Q Q' m q => h.mono _ _ _ m q⟩
end
end DL
set_option Elab.async false
set_option linter.all false
set_option maxRecDepth 100000
set_option maxHeartbeats 4000000
namespace DL
open PySem PySem.Spec PyProof.Rows L2
noncomputable def Slot.free : Slot → Prop
  | .lo _ _ _ => False
  | _ => True
section
variable {X : Cx} {F : Fr} {W : WX} {a b : Expr} {wa wb : WE} {pos : Pos}
theorem Z1v {H : Hp} {a : Addr} {k1 k2 : List (L2.Key × V)} (h1 : Rd H a (.dK k1)) (h2 : Rd H a (.dK k2)) : k1 = k2 := by
  rcases h1 with h1 | ⟨_, h1⟩ <;> rcases h2 with h2 | ⟨_, h2⟩ <;> (rw [h1] at h2; cases h2) <;> rfl
end
end DL
set_option Elab.async false
set_option linter.all false
set_option maxRecDepth 100000
set_option maxHeartbeats 4000000
namespace DL
open PySem PySem.Spec PyProof.Rows L2
section
variable {X : Cx} {F : Fr} {W : WX} {a b : Expr} {wa wb : WE} {pos : Pos}
theorem Zx8 : OpR X (binaryOp .Add) (Zz2 X.K) := by
  intro pins s σ H x y v u Q I rx ry h
  obtain ⟨l, b, xs, zs, rfl, rfl, hH, hB, hz, q⟩ := h
  cases rx
  cases ry
  obtain ⟨vs, r, ht, h1⟩ := I.list hH
  obtain ⟨ws, r2, ht2, h2⟩ := I.list hB
  have el := r.length
  have el2 := r2.length
  obtain ⟨⟨cls, dd, data, sl⟩, ho, hc, n, hd⟩ := ht.isList
  obtain ⟨⟨cls2, dd2, data2, sl2⟩, ho2, hc2, n2, hd2⟩ := ht2.isList
  simp only at hc hd hc2 hd2
  subst hc hd hc2 hd2
  have e : vs.toArray ++ ws.toArray = (vs ++ ws).toArray := by simp
  refine concat_meets ⟨_, ho, rfl⟩ ⟨_, ho2, rfl⟩ noFill_list_add seq_list_add PySem.F.slot_list_add PySem.F.entry_list_add (PySem.F.args_list_add_2 _ _) (list_addW l b vs.toArray ws.toArray n n2 dd dd2 sl sl2 (by simp; omega)) ⟨ho, ho2, ?_⟩
  rw [e]
  exact ⟨.ref _, _, I.lnew (t' := s.toks) (r.append r2) (by rw [List.length_append]; omega), rfl, q _ I.fresh⟩
theorem Zy1 {l : List Cell} {H : Hp} {x : Slot} {a : Addr} {ds : List D} (h : C F ((x, some (.ref a)) :: l) H) (hx : x.dat = some (.lst ds)) : ∀ S, GS F S H → (∀ q ∈ (x, some (V.ref a)) :: l, SC F S H q) → ∃ us, SqL F.K H a us ∧ Reps F.K S us ds := by
  obtain ⟨b, us, ea, hl, hlen, _⟩ := h.seqL hx
  cases ea
  intro S g cc
  have s := cc _ List.mem_cons_self
  cases x with
  | un => cases hx
  | sh d => cases hx; obtain ⟨w, ew, rw⟩ := s; cases ew; cases rw with
    | lst hq2 r2 => exact ⟨_, Zgl g.sh hq2, r2⟩
  | ow d => cases hx; obtain ⟨b, eb, _, _, vs', e2, r2⟩ := s; cases eb; exact ⟨vs', SqL.of e2, r2⟩
  | bo d => cases hx; obtain ⟨b, eb, _, vs', e2, r2⟩ := s; cases eb; exact ⟨vs', SqL.of e2, r2⟩
  | bt d => cases hx; obtain ⟨b, eb, vs', e2, r2⟩ := s; cases eb; exact ⟨vs', SqL.of e2, r2⟩
  | lk b d => cases hx; obtain ⟨eb, _, _, vs', e2, r2⟩ := s; cases eb; exact ⟨vs', SqL.of e2, r2⟩
  | lo b _ d => cases hx
  | nd d => cases hx
  | nb d => cases hx
  | ln _ _ => cases hx
  | xc _ => cases hx
  | xe _ _ _ => cases hx
  | na _ _ => cases hx
  | rt _ _ => cases hx
theorem Zqg {K : PySem.W.Frag} {S : Hp} : ∀ {vs : List V} {ds : List D}, Reps K S vs ds → vs.length = ds.length
  | [], [], _ => rfl
  | _ :: _, _ :: _, .cons _ r => congrArg (· + 1) (Zqg r)
theorem Zqs {K : PySem.W.Frag} {S : Hp} : ∀ {vs : List V} {ds : List D} {us : List V} {es : List D}, Reps K S vs ds → Reps K S us es → Reps K S (vs ++ us) (ds ++ es)
  | [], [], _, _, _, q => q
  | _ :: _, _ :: _, _, _, .cons h r, q => .cons h (Zqs r q)
theorem Zy8 : Ziz F (Zz2 F.K) oCat := fun l H x y vx vy ks Q hc ho hq => by
  unfold oCat at ho
  split at ho
  · rename_i ds es hd he
    obtain ⟨b, us, eb, hb, hlen, _⟩ := hc.seqL he
    have hc' := hc.swap
    obtain ⟨a, vs, ea, ha, hlen2, S, g, r, cc, pw⟩ := hc'.seqL hd
    cases ea
    cases eb
    have pwl : l.Pairwise (Zbw H) := (List.pairwise_cons.mp pw).2
    obtain ⟨us2, hs2, r2⟩ := Zy1 hc he S g (fun q hq => cc q ((List.Perm.swap _ _ _).mem_iff.mp hq))
    have l2 := Zqg r2
    exact ⟨a, b, vs, us2, rfl, rfl, ha, hs2, by rw [sizeLine_eq]; omega, fun p hp => hq _ _ _ ho.2 (C.newFrom g (fun q hq => cc q (List.mem_cons_of_mem _ (List.mem_cons_of_mem _ hq))) pwl (Zqs r r2) hp)⟩
  · exact ho.elim
theorem Zpu (ha : DE X F W a wa) (hb : DE X F W b wb) (hK : X.K = F.K := by rfl) : DE X F W (.BinOp a .Add b pos) (wOp oCat wa wb) :=
  Zor (by rw [← hK]; exact Zx8) Zy8 Zf1 ha hb
end
end DL
set_option Elab.async false
set_option linter.all false
set_option maxRecDepth 100000
set_option maxHeartbeats 4000000
namespace DL
open PySem PySem.Spec PyProof.Rows L2
section
variable {F : Fr} {H : Hp} {l : List Cell}
noncomputable def Slot.pl : Slot → List Addr
  | .lk a _ => [a]
  | .lo a _ _ => [a]
  | .ln fp _ => fp
  | _ => []
theorem Z1e {S : Hp} {p : Cell} (s : SC F S H p) : ∀ a ∈ p.1.pl, a ∈ fpC H p := fun a ha => by
  obtain ⟨x, v⟩ := p
  cases x with
  | lk b d => obtain ⟨rfl, _⟩ := s; simpa [fpC, Slot.pl] using ha
  | lo b _ d => obtain ⟨rfl, _⟩ := s; simpa [fpC, Slot.pl] using ha
  | ln fp d => exact ha
  | _ => simp [Slot.pl] at ha
end
end DL
set_option Elab.async false
set_option linter.all false
set_option maxRecDepth 100000
set_option maxHeartbeats 4000000
namespace DL
open PySem PySem.Spec PyProof.Rows L2
section
variable {X : Cx} {F : Fr} {W : WX} {a b : Expr} {wa wb : WE} {pos : Pos}
end
end DL
set_option Elab.async false
set_option linter.all false
set_option maxRecDepth 100000
set_option maxHeartbeats 4000000
namespace DL
open PySem PySem.Spec PyProof.Rows L2
section
variable {X : Cx} {F : Fr} {W : WX} {sts : List Stmt} {w : WS}
end
end DL
set_option Elab.async false
set_option linter.all false
set_option maxRecDepth 100000
set_option maxHeartbeats 4000000
namespace DL
open PySem PySem.Spec PyProof.Rows L2
section
variable {F : Fr} {H : Hp} {l : List Cell}
theorem C.lock {kds : List (L2.Key × D)} {v : Option V} (h : C F ((.ow (.dk kds), v) :: l) H) (hl : ∀ p ∈ l, p.1.env) : ∃ a kvs, v = some (.ref a) ∧ H a = some (.dK kvs) ∧ (∀ p ∈ l, a ∉ p.1.pl) ∧ ∀ od, C F ((.lo a (.frz od (.dK kvs)) kds, v) :: l) (upd H a (.frz od (.dK kvs))) := by
  obtain ⟨S, g, c, pw⟩ := h
  obtain ⟨a, rfl, h0, hS, kvs, ev, ek, r⟩ := c _ List.mem_cons_self
  obtain ⟨p1, p2⟩ := List.pairwise_cons.mp pw
  have na : ∀ p ∈ l, a ∉ fpC H p := fun p hp => (p1 p hp).no trivial (by simp [fpC])
  refine ⟨a, kvs, rfl, ev, fun p hp z => na p hp (Z1e (c p (List.mem_cons_of_mem _ hp)) a z), fun od => ⟨S, g.mut hS h0, fun p hp => ?_, List.pairwise_cons.mpr ⟨fun p hp => ?_, Zwr p2 na⟩⟩⟩
  · rcases List.mem_cons.mp hp with rfl | hp
    · exact ⟨rfl, h0, hS, upd_same, od, kvs, rfl, ek, r⟩
    · exact (c p (List.mem_cons_of_mem _ hp)).mut h0 (na p hp) (hl p hp)
  · have e2 : fpC (upd H a (.frz od (.dK kvs))) p = fpC H p := Zev fun b hb => upd_ne fun z => na p hp (z ▸ hb)
    have key : Dj (upd H a (.frz od (.dK kvs))) (.lo a (.frz od (.dK kvs)) kds, some (.ref a)) p := fun b hb hq => by
      obtain rfl : b = a := by simpa [fpC] using hb
      rw [e2] at hq
      exact na p hp hq
    exact ⟨fun _ _ => key, fun _ _ => key⟩
end
section
variable {F : Fr} {S H : Hp} {l : List Cell}
end
noncomputable def D.slot : D → Slot
  | .own (.tup ds) => .nd (.tup ds)
  | .own (.obj c ns ds) => .nd (.obj c ns ds)
  | .own (.lso ds) => .nd (.lso ds)
  | .own d => .ow d
  | d => .sh d
section
variable {F : Fr} {S H : Hp} {l : List Cell}
end
end DL
set_option Elab.async false
set_option linter.all false
set_option maxRecDepth 100000
set_option maxHeartbeats 4000000
namespace DL
open PySem PySem.Spec PyProof.Rows L2
structure GDict (K : PySem.W.Frag) (w : World) (mg : Str → Option Value) (x : Str) (tab : List (Str × Str)) : Prop where
  ex : ∃ a, mg x = some (.ref a) ∧ ∀ p ∈ tab, KDct K w a p.1 (.str p.2)
theorem Zwa {K : PySem.W.Frag} {w : World} {mg : Str → Option Value} {x : Str} {tab : List (Str × Str)} {a : Addr} {es : Array DictEntry} {n : Nat} (hm : mg x = some (.ref a))
    (hl : K.lookup a = some ⟨.type "dict", none, .dict es n, #[]⟩) (hk : PySem.W.KeysLit w.params es.toList) (hv : ∀ p ∈ tab, ∃ t, PySem.W.nsIn K a p.1 = some (some (.str p.2 t))) : GDict K w mg x tab :=
  ⟨a, hm, fun p hp => by
    obtain ⟨t, e⟩ := hv p hp
    exact ⟨es, n, _, hl, hk, e, t, rfl⟩⟩
noncomputable def wGd (tab : List (Str × Str)) (wk : WE) : WE := fun env Q => wk env (rk (fun x => ∃ p ∈ tab, x = .sh (.str p.1) ∧ Q (.ok (.sh (.str p.2)))) Q)
theorem m_gd {tab : List (Str × Str)} {wk : WE} (h : Mono wk) : Mono (wGd tab wk) := fun env Q Q' m q => Za3 h (fun x ⟨p, hp, e, hq⟩ => ⟨p, hp, e, m _ hq⟩) m q
theorem Z1h {X : Cx} {F : Fr} {W : WX} {x : Str} {p pos : Pos} {key : Expr} {wk : WE} {tab : List (Str × Str)} (G : GDict X.K X.w X.mg x tab) (hk : DE X F W key wk) (hs : PlainIx key := by intro _ _; rfl) (hg : Gl X x := by rfl) (hd : (x == ("__debug__" : Str)) = false := by decide) :
    DE X F W (.Subscript (.Name x p) key pos) (wGd tab wk) := by
  obtain ⟨a, hm, hv⟩ := G.ex
  refine ⟨Zbr (pe_ix ix_kdict (pe_glob (v := .ref a) hg hm rfl hd) hk.run hs) fun σ H Q ⟨l, env, k, q⟩ => ?_, m_gd hk.mono⟩
  refine ⟨l, env, k, Zbe hk.mono q (fun y hy v H1 c1 => ?_) fun c fs z => z⟩
  obtain ⟨t, ht, rfl, hq⟩ := hy
  have e := c1.shStr
  cases e
  exact ⟨a, t.1, .str t.2, rfl, rfl, hv t ht, hq _ _ (c1.tail.str _)⟩
end DL
set_option Elab.async false
set_option linter.all false
set_option maxRecDepth 100000
set_option maxHeartbeats 4000000
namespace DL
open PySem PySem.Spec PyProof.Rows L2
section
variable {X : Cx} {F : Fr} {W : WX} {e : Expr} {we : WE} {p pos : Pos}
end
end DL
set_option Elab.async false
set_option linter.all false
set_option maxRecDepth 100000
set_option maxHeartbeats 4000000
namespace DL
open PySem PySem.Spec PyProof.Rows L2
noncomputable def Zmj (K : PySem.W.Frag) (mg : Str → Option Value) (x c : Str) (b : Bool) : Prop := ∃ A C, mg c = some (.ref A) ∧ mg x = some (.ref C) ∧ PySem.W.exmOne K (.ref A) (.ref C) = some b
noncomputable def IsE (K : PySem.W.Frag) (mg : Str → Option Value) (c T : Str) (b : Bool) : Prop := ∃ A, mg c = some (.ref A) ∧ ExcC K A ∧
  ((∃ C, mg T = some (.ref C) ∧ PySem.W.kitOne K (.ref A) (.ref C) = some b) ∨ ∃ U, mg T = none ∧ bootBuiltins T = some (.type U) ∧ T ≠ "__name__" ∧ PySem.W.kitOne K (.ref A) (.type U) = some b)
noncomputable def noEx (Q : O → Prop) : O → Prop
  | .ex _ _ _ => False
  | o => Q o
theorem Ztb {Q Q' : O → Prop} (m : ∀ o, Q o → Q' o) : ∀ o, noEx Q o → noEx Q' o
  | .nx _, h => m _ h
  | .bk _, h => m _ h
  | .ct _, h => m _ h
  | .ret _, h => m _ h
  | .ex _ _ _, h => h
noncomputable def Zra : List (Str × Bool) → Str → Option Bool
  | [], _ => none
  | p :: r, c => if p.1 = c then some p.2 else Zra r c
theorem Zkn {tab : List (Str × Bool)} {c : Str} {b : Bool} (h : Zra tab c = some b) : (c, b) ∈ tab := by
  induction tab with
  | nil => cases h
  | cons p r ih =>
    unfold Zra at h
    split at h
    · rename_i e
      cases h
      subst e
      exact List.mem_cons_self
    · exact List.mem_cons_of_mem _ (ih h)
noncomputable def unX (i : Nat) (Q : O → Prop) : O → Prop
  | .nx e => Q (.nx (e.set i .un))
  | .bk e => Q (.bk (e.set i .un))
  | .ct e => Q (.ct (e.set i .un))
  | .ret x => Q (.ret x)
  | .ex _ _ _ => False
theorem Zqt {i : Nat} {Q Q' : O → Prop} (m : ∀ o, Q o → Q' o) : ∀ o, unX i Q o → unX i Q' o
  | .nx _, h => m _ h
  | .bk _, h => m _ h
  | .ct _, h => m _ h
  | .ret _, h => m _ h
  | .ex _ _ _, h => h
section
variable {X : Cx} {F : Fr} {W : WX} {x n : Str} {body suite : List Stmt} {b₀ : Stmt} {np pos pos' : Pos} {wb : WS}
theorem Zlh {tab : List (Str × Bool)} {x : Str} {cv : Addr} (hM : X.mg = F.mg) (hm : F.mg x = some (.ref cv)) (hg : Gl X x) (hd : (x == ("__debug__" : Str)) = false) : Names X x (.ref cv) := ⟨hg, hd, .inl (by rw [hM]; exact hm)⟩
theorem CE.xc {l : List Cell} {env : En} {σ : L2.St} {H : Hp} {i : Nat} {a : Addr} (k : CE F l env σ H) (hi : i < env.length) : CE F l (env.set i (.xc a)) (σ.set i (some (.ref a))) H :=
  C.setName k.len k.ok trivial hi (k.c.put (fun z => z) fun _ _ _ => rfl)
end
theorem Zlg {K : PySem.W.Frag} {t : Value} {C : Addr} {b : Bool} (hd : PySem.W.hasDictIn K C = true) (ht : PySem.W.typeIn K (.ref C) = some (.type "type")) (h0 : PySem.W.subIn K (.ref C) (.ref C) = some true) (h : PySem.W.subIn K t (.ref C) = some b) : PySem.W.kitOne K t (.ref C) = some b := by
  unfold PySem.W.kitOne
  split
  · rename_i e
    have e : t = .ref C := eq_of_beq e
    subst e
    rw [h0] at h
    exact h
  · unfold PySem.W.kitCls
    obtain ⟨cd, hc, _⟩ := PySem.W.any_some hd
    have e2 : ((PySem.W.clsIn K C).isSome && PySem.W.typeIn K (.ref C) == some (.type "type")) = true := by rw [hc, ht] <;> rfl
    dsimp only
    rw [if_pos e2]
    exact h
theorem Zwp {K : PySem.W.Frag} {A : Addr} {U : String} {b : Bool} (hm : PySem.W.kitMeta U = true) (h : PySem.W.subIn K (.ref A) (.type U) = some b) : PySem.W.kitOne K (.ref A) (.type U) = some b := by
  unfold PySem.W.kitOne
  rw [if_neg (by simp)]
  unfold PySem.W.kitCls
  dsimp only
  rw [if_pos hm]
  exact h
noncomputable def Zkq (i : Nat) : WE := fun env Q => match env[i]? with
  | some (.xc a) => Q (.ok (.xc a))
  | _ => False
theorem Zhh {i : Nat} : Mono (Zkq i) := fun env Q Q' m h => by
  unfold Zkq at h ⊢
  split at h
  · exact m _ h
  · exact h.elim
theorem Zmk {X : Cx} {F : Fr} {W : WX} {pos : Pos} (i : Nat) {x : Str} (hN : X.N[i]? = some x := by rfl) (hv : Vis X.env.scope x := by first | exact Or.inl rfl | exact Or.inr (Or.inl rfl) | exact Or.inr (Or.inr rfl)) (hd : (x == ("__debug__" : Str)) = false := by decide)
    (hcd : (x == ("__classdict__" : Str)) = false := by decide) : DE X F W (.Name x pos) (Zkq i) := by
  refine ⟨Zbr (pe_var hN hv hd hcd) fun σ H Q h => ?_, Zhh⟩
  obtain ⟨l, env, k, h⟩ := h
  unfold Zkq at h
  split at h
  · rename_i a e
    obtain ⟨v, e1, e2⟩ := Zb4 k.len e
    have hm : (Slot.xc a, v) ∈ l ++ env.zip σ := List.mem_append_right _ (Zbj e2)
    have c1 := k.c.dupO hm fun z => z
    obtain ⟨S, g, cc, _⟩ := id c1
    have e3 : v = some (.ref a) := cc _ List.mem_cons_self
    subst e3
    exact ⟨_, e1, h _ H c1⟩
  · exact h.elim
noncomputable def oIsX (a : Addr) (b : Bool) : O1 := fun x k => match x with
  | .xc a' => a' = a ∧ k (.sh (.bl b))
  | _ => False
theorem Zcz {a : Addr} {b : Bool} : Ze7 (oIsX a b) := fun x k k' m h => by
  unfold oIsX at h ⊢
  split at h
  · exact ⟨h.1, m _ h.2⟩
  · exact h.elim
section
variable {X : Cx} {F : Fr} {W : WX} {e : Expr} {we : WE} {p tp pos : Pos} {a A : Addr} {oe : Obj} {pn : List (Addr × Obj)} {c T : Str} {b : Bool}
end
end DL
namespace DL
open PySem PySem.Spec PyProof.Rows L2
section
variable {K : PySem.W.Frag} {mg : Str → Option Value} {x c T : Str} {b : Bool} {l : List (Str × Bool)}
theorem Zwn : ∀ p ∈ ([] : List (Str × Bool)), Zmj K mg x p.1 p.2 := fun p hp => by cases hp
theorem Zt4 (h : Zmj K mg x c b) (r : ∀ p ∈ l, Zmj K mg x p.1 p.2) : ∀ p ∈ (c, b) :: l, Zmj K mg x p.1 p.2 := fun p hp => by
  rcases List.mem_cons.mp hp with rfl | hp
  · exact h
  · exact r p hp
variable {g : Str → Bool}
theorem Zi4 : ∀ c, (c, true) ∈ ([] : List (Str × Bool)) → IsE K mg c T (g c) := fun p hp => by cases hp
theorem Zht (h : IsE K mg c T (g c)) (r : ∀ c, (c, true) ∈ l → IsE K mg c T (g c)) : ∀ d, (d, true) ∈ (c, b) :: l → IsE K mg d T (g d) := fun p hp => by
  rcases List.mem_cons.mp hp with e | hp
  · cases e; exact h
  · exact r p hp
end
end DL
set_option Elab.async false
set_option linter.all false
set_option maxRecDepth 100000
set_option maxHeartbeats 4000000
namespace DL
open PySem PySem.Spec PyProof.Rows L2
section
variable {F : Fr} {S S' H H' : Hp} {l : List Cell} {K : PySem.W.Frag}
end
section
variable {X : Cx} {F : Fr} {W : WX} {e : Expr} {we : WE} {x : Str} {apos cpos pos p2 p3 p4 : Pos}
noncomputable def D.part (nb : Bool) : D → Option Slot
  | .own (.lst ds) => some (cond nb (.bo (.lst ds)) (.bt (.lst ds)))
  | .own _ => none
  | d => some (.sh d)
end
end DL
set_option Elab.async false
set_option linter.all false
set_option maxRecDepth 100000
set_option maxHeartbeats 4000000
namespace DL
open PySem PySem.Spec PyProof.Rows L2
section
variable {F : Fr} {S H : Hp} {l : List Cell} {K : PySem.W.Frag}
end
section
variable {X : Cx} {F : Fr} {W : WX} {a b e : Expr} {we wa wb : WE} {p pos : Pos}
end
section
variable {F : Fr} {H : Hp} {l : List Cell}
end
section
variable {X : Cx} {F : Fr} {W : WX} {a b : Expr} {wa wb : WE} {pos : Pos}
end
section
variable {F : Fr} {S S' H : Hp} {l : List Cell}
end
section
variable {X : Cx} {F : Fr} {W : WX} {e : Expr} {x : Str} {apos cpos pos p2 p3 p4 : Pos}
end
end DL
set_option Elab.async false
set_option linter.all false
set_option maxRecDepth 100000
set_option maxHeartbeats 4000000
namespace DL
open PySem PySem.Spec PyProof.Rows L2
noncomputable def strD : D → Option Str
  | .str s => some s
  | .int i => if i.natAbs.log2 < 1920 then some (toString i) else none
  | _ => none
noncomputable def oStr : O1 := fun x k => match x with
  | .sh d => (match strD d with
    | some s => k (.sh (.str s))
    | none => False)
  | _ => False
theorem Znt : Ze7 oStr := fun x k k' m h => by
  unfold oStr at h ⊢
  split at h
  · split at h
    · exact m _ h
    · exact h.elim
  · exact h.elim
noncomputable def Zh9 : O2 := fun x y k => match x, y with
  | .sh (.str a), .sh (.str b) => a.length + b.length ≤ 16777216 ∧ k (.sh (.str (a ++ b)))
  | _, _ => False
theorem Zci : Ziy Zh9 := fun x y k k' m h => by
  unfold Zh9 at h ⊢
  split at h
  · exact ⟨h.1, m _ h.2⟩
  · exact h.elim
noncomputable def intD : D → Option Int
  | .str s => if s.length ≤ 640 then PySem.intText? s else none
  | .bl b => some (if b then 1 else 0)
  | .int i => some i
  | _ => none
noncomputable def oInt : O1 := fun x k => match x with
  | .sh d => (match intD d with
    | some i => k (.sh (.int i))
    | none => False)
  | _ => False
theorem Zki : Ze7 oInt := fun x k k' m h => by
  unfold oInt at h ⊢
  split at h
  · split at h
    · exact m _ h
    · exact h.elim
  · exact h.elim
inductive JMono : List WE → Prop
  | nil : JMono []
  | cons {w : WE} {ws : List WE} : Mono w → JMono ws → JMono (w :: ws)
section
variable {X : Cx} {F : Fr} {W : WX} {a b e : Expr} {we wa wb : WE} {p pos : Pos}
theorem Zxq (hm : X.mg "str" = none) (he : DE X F W e we) (hg : Gl X "str" := by rfl) (hs : starEach (e :: []) X.env = (false, eval e X.env) :: starEach [] X.env := by rfl) (hpl : (backTo pos (starEach [] X.env)).any (·.1) = false := by rfl) : DE X F W (.Call (.Name "str" p) [e] [] pos) (wUn oStr we) :=
  Zzs (call_str_int.or SkE.call_str_str) (fun l H x vx ks Q hc ho hq => by
    unfold oStr at ho
    split at ho
    · rename_i d
      split at ho
      · rename_i s hs
        cases d <;> first | (cases hs; done) | skip
        · rename_i i
          have e1 := hc.shInt
          cases e1
          dsimp only [strD] at hs
          split at hs
          · rename_i hi
            cases hs
            exact .inl ⟨i, rfl, hi, hq _ _ H ho (hc.tail.str _)⟩
          · cases hs
        · rename_i z
          have e1 := hc.shStr
          cases e1
          cases hs
          exact .inr ⟨_, rfl, hq _ _ H ho (hc.tail.str _)⟩
      · exact ho.elim
    · exact ho.elim) Znt hm (by decide +kernel) he hg (by decide) (by decide) hs hpl
theorem Zs4 (hm : X.mg "int" = none) (he : DE X F W e we) (hg : Gl X "int" := by rfl) (hs : starEach (e :: []) X.env = (false, eval e X.env) :: starEach [] X.env := by rfl) (hpl : (backTo pos (starEach [] X.env)).any (·.1) = false := by rfl) : DE X F W (.Call (.Name "int" p) [e] [] pos) (wUn oInt we) :=
  Zzs (call_int1.or call_int_str) (fun l H x vx ks Q hc ho hq => by
    unfold oInt at ho
    split at ho
    · rename_i d
      split at ho
      · rename_i n hs
        cases d <;> first | (cases hs; done) | skip
        · rename_i k
          have e1 := hc.shBl
          cases e1
          cases hs
          exact .inl (.inr ⟨k, rfl, hq _ _ H ho (hc.tail.int _)⟩)
        · rename_i i
          have e1 := hc.shInt
          cases e1
          cases hs
          exact .inl (.inl ⟨_, rfl, hq _ _ H ho (hc.tail.int _)⟩)
        · rename_i z
          have e1 := hc.shStr
          cases e1
          dsimp only [intD] at hs
          split at hs
          · rename_i hl
            exact .inr ⟨z, n, rfl, hs, hl, hq _ _ H ho (hc.tail.int _)⟩
          · cases hs
      · exact ho.elim
    · exact ho.elim) Zki hm (by decide +kernel) he hg (by decide) (by decide) hs hpl
theorem Zgd (ha : DE X F W a wa) (hb : DE X F W b wb) : DE X F W (.BinOp a .Add b pos) (wOp Zh9 wa wb) :=
  Zor op_add_str (fun l H x y vx vy ks Q hc ho hq => by
    unfold Zh9 at ho
    split at ho
    · rename_i s t
      have e1 := hc.shStr
      have e2 := hc.tail.shStr
      cases e1; cases e2
      exact ⟨s, t, rfl, rfl, by rw [sizeLine_eq]; exact ho.1, hq _ _ H ho.2 (hc.tail.tail.str _)⟩
    · exact ho.elim) Zci ha hb
inductive DJ (X : Cx) (F : Fr) (W : WX) : List Expr → List WE → Prop
  | nil : DJ X F W [] []
  | fmt {e : Expr} {we : WE} {es : List Expr} {ws : List WE} {pos : Pos} : DE X F W e we → DJ X F W es ws → DJ X F W (.FormattedValue e (-1) none pos :: es) (we :: ws)
  | str {s : Str} {j : Nat} {es : List Expr} {ws : List WE} {pos : Pos} : DJ X F W es ws → DJ X F W (.Constant (.str s) j pos :: es) (wStr s :: ws)
end
end DL
set_option Elab.async false
set_option linter.all false
set_option maxRecDepth 100000
set_option maxHeartbeats 4000000
namespace DL
open PySem PySem.Spec PyProof.Rows L2
section
variable {prog : Program} {w : World}
noncomputable def Zf7 (prog : Program) (w : World) (it : Addr) (ok : Heap → Prop) (val : Value → Prop) (st : Heap → Prop) : Prop := ∀ (A : Around) (E : Value → Shared → Prop) (s : Shared) (Q : Value → Shared → Prop), ok s.heap →
  (∀ h' tk v, val v → st h' → Heap.SameBut it s.heap h' → Q v { s with heap := h', toks := tk }) → wpAny (model prog w) A (Builtin.SmallTypes.nextOf (.ref it)) Q E s
noncomputable def Zn9 (prog : Program) (w : World) (it : Addr) (ok : Heap → Prop) : Prop := ∀ (A : Around) (E : Value → Shared → Prop) (s : Shared) (Q : Value → Shared → Prop), A.handled = none → ok s.heap →
  (∀ h' tk e, Heap.ExtBut it s.heap h' → (∃ o, h'.get? e = some o ∧ o.cls = .type "StopIteration") → E (.ref e) { s with heap := h', toks := tk }) → wpAny (model prog w) A (Builtin.SmallTypes.nextOf (.ref it)) Q E s
theorem Znb {it : Addr} {x : Str} {t : Tok} {i c : Nat} (hx : x.cps[i]? = some c) : Zf7 prog w it (fun h => h.IsStrIter it "str_ascii_iterator" x t i) (fun v => ∃ tk, v = .str ⟨#[c]⟩ tk) (fun h => h.IsStrIter it "str_ascii_iterator" x t (i + 1)) := by
  intro A E s Q hit hQ
  obtain ⟨o, ho, hc, hd⟩ := id hit
  unfold Builtin.SmallTypes.nextOf
  refine wpAny_bind (wpAny_callSpecial?_slot (name := Str.ofString "__next__") hit.typeIs F.slot_str_ascii_iterator_next (wpAny_call_entry F.slot_str_ascii_iterator_next hit.typeIs F.entry_str_ascii_iterator_next ?_ (F.args_str_ascii_iterator_next_1 _)))
  show wpAny _ _ (field (.ref it) 0 >>= fun _ => _) _ _ s
  refine wpAny_bind (wpAny_field ho hd (x := .str x t) rfl ?_); show wpAny _ _ (field (.ref it) 1 >>= _) _ _ s
  refine wpAny_bind (wpAny_field ho hd (x := .int i 0) rfl ?_); simp only [Int.toNat_natCast, hx]
  refine wpAny_bind (wpAny_setField ho hd (by simp) (wpAny_bind (wpAny_mkStr (wpAny_pure ⟨_, rfl, wpAny_pure (hQ _ _ _ ⟨_, rfl⟩ ?_ (Heap.SameBut.update ..))⟩) (by show 1 ≤ sizeLine; decide))))
  refine ⟨_, Heap.get?_update_self _ ho (Obj.isFreed_of_fields (Obj.data_mapFields hd _)), (Obj.cls_mapFields ..).trans hc, ?_⟩
  rw [Obj.data_mapFields hd]; simp [rawInt]
theorem Zoo {it : Addr} {x : Str} {t : Tok} {i c : Nat} (hx : x.cps[i]? = some c) : Zf7 prog w it (fun h => h.IsStrIter it "str_iterator" x t i) (fun v => ∃ tk, v = .str ⟨#[c]⟩ tk) (fun h => h.IsStrIter it "str_iterator" x t (i + 1)) := by
  intro A E s Q hit hQ
  obtain ⟨o, ho, hc, hd⟩ := id hit
  unfold Builtin.SmallTypes.nextOf
  refine wpAny_bind (wpAny_callSpecial?_slot (name := Str.ofString "__next__") hit.typeIs F.slot_str_iterator_next (wpAny_call_entry F.slot_str_iterator_next hit.typeIs F.entry_str_iterator_next ?_ (F.args_str_iterator_next_1 _)))
  show wpAny _ _ (field (.ref it) 0 >>= fun _ => _) _ _ s
  refine wpAny_bind (wpAny_field ho hd (x := .str x t) rfl ?_); show wpAny _ _ (field (.ref it) 1 >>= _) _ _ s
  refine wpAny_bind (wpAny_field ho hd (x := .int i 0) rfl ?_); simp only [Int.toNat_natCast, hx]
  refine wpAny_bind (wpAny_setField ho hd (by simp) (wpAny_bind (wpAny_mkStr (wpAny_pure ⟨_, rfl, wpAny_pure (hQ _ _ _ ⟨_, rfl⟩ ?_ (Heap.SameBut.update ..))⟩) (by show 1 ≤ sizeLine; decide))))
  refine ⟨_, Heap.get?_update_self _ ho (Obj.isFreed_of_fields (Obj.data_mapFields hd _)), (Obj.cls_mapFields ..).trans hc, ?_⟩
  rw [Obj.data_mapFields hd]; simp [rawInt]
theorem Zrb {it : Addr} {ty : String} {x : Str} {t : Tok} {i : Nat} (hty : ty = "str_ascii_iterator" ∨ ty = "str_iterator") (hx : x.cps[i]? = none) : Zn9 prog w it (fun h => h.IsStrIter it ty x t i) := by
  intro A E s Q hh hit hE
  obtain ⟨o, ho, hc, hd⟩ := id hit
  unfold Builtin.SmallTypes.nextOf
  rcases hty with rfl | rfl
  · refine wpAny_bind (wpAny_callSpecial?_slot (name := Str.ofString "__next__") hit.typeIs F.slot_str_ascii_iterator_next (wpAny_call_entry F.slot_str_ascii_iterator_next hit.typeIs F.entry_str_ascii_iterator_next ?_ (F.args_str_ascii_iterator_next_1 _)))
    show wpAny _ _ (field (.ref it) 0 >>= fun _ => _) _ _ s
    refine wpAny_bind (wpAny_field ho hd (x := .str x t) rfl ?_); show wpAny _ _ (field (.ref it) 1 >>= _) _ _ s
    refine wpAny_bind (wpAny_field ho hd (x := .int i 0) rfl ?_); simp only [Int.toNat_natCast, hx]
    refine wpAny_bind (wpAny_rule (wpAny_bind (wpAny_setField ho hd (by simp) (wpAny_bind (wpAny_letGo ?_))))); show wpAny _ _ (newExc (.type "StopIteration") [] >>= fun _ => _) _ _ _
    refine wpAny_bind ?_; simp only [newExc, newTuple]
    refine wpAny_bind (wpAny_newObj_type ?_ (by size_fits)); refine wpAny_bind (m := firstArgMember _ _) (wpAny_of_eq (a := Value.none) (by first | rfl | (simp only [firstArgMember]; rfl)) ?_)
    refine wpAny_newObj_type ?_ (by size_fits); simp only [raiseNew]
    refine wpAny_bind (wpAny_handled ?_); rw [show A.in1.handled = none from hh]
    refine wpAny_bind (wpAny_pure (wpAny_throw ?_))
    exact hE _ _ _ (((Heap.SameBut.update ..).extBut.push _).push _) ⟨_, Heap.get?_push_size _ rfl, rfl⟩
  · refine wpAny_bind (wpAny_callSpecial?_slot (name := Str.ofString "__next__") hit.typeIs F.slot_str_iterator_next (wpAny_call_entry F.slot_str_iterator_next hit.typeIs F.entry_str_iterator_next ?_ (F.args_str_iterator_next_1 _)))
    show wpAny _ _ (field (.ref it) 0 >>= fun _ => _) _ _ s
    refine wpAny_bind (wpAny_field ho hd (x := .str x t) rfl ?_); show wpAny _ _ (field (.ref it) 1 >>= _) _ _ s
    refine wpAny_bind (wpAny_field ho hd (x := .int i 0) rfl ?_); simp only [Int.toNat_natCast, hx]
    refine wpAny_bind (wpAny_rule (wpAny_bind (wpAny_setField ho hd (by simp) (wpAny_bind (wpAny_letGo ?_))))); show wpAny _ _ (newExc (.type "StopIteration") [] >>= fun _ => _) _ _ _
    refine wpAny_bind ?_; simp only [newExc, newTuple]
    refine wpAny_bind (wpAny_newObj_type ?_ (by size_fits)); refine wpAny_bind (m := firstArgMember _ _) (wpAny_of_eq (a := Value.none) (by first | rfl | (simp only [firstArgMember]; rfl)) ?_)
    refine wpAny_newObj_type ?_ (by size_fits); simp only [raiseNew]
    refine wpAny_bind (wpAny_handled ?_); rw [show A.in1.handled = none from hh]
    refine wpAny_bind (wpAny_pure (wpAny_throw ?_))
    exact hE _ _ _ (((Heap.SameBut.update ..).extBut.push _).push _) ⟨_, Heap.get?_push_size _ rfl, rfl⟩
structure ZApart (z TI TO i1 i2 : Addr) : Prop where
  tz : TI ≠ z
  oz : TO ≠ z
  az : i1 ≠ z
  bz : i2 ≠ z
  to : TI ≠ TO
  ta : TI ≠ i1
  tb : TI ≠ i2
  oa : TO ≠ i1
  ob : TO ≠ i2
  ab : i1 ≠ i2
variable {A : Around} {E : Value → Shared → Prop} {s : Shared}
theorem Zsk {z TI TO i1 i2 : Addr} {a b : Value} {P1 P2 : Value → Prop} {ok1 ok2 st1 st2 : Heap → Prop} {Q : Value → Shared → Prop} (D : ZApart z TI TO i1 i2)
    (hz : IsZip s.heap z TI TO .none) (hTI : IsPair s.heap TI (.ref i1) (.ref i2)) (hTO : IsPair s.heap TO a b) (n1 : Zf7 prog w i1 ok1 P1 st1) (n2 : Zf7 prog w i2 ok2 P2 st2)
    (o1 : ∀ h', (∀ c o, c ≠ z → s.heap.get? c = some o → h'.get? c = some o) → ok1 h') (o2 : ∀ h', (∀ c o, c ≠ z → c ≠ TO → c ≠ i1 → s.heap.get? c = some o → h'.get? c = some o) → ok2 h')
    (k1 : ∀ h h' : Heap, st1 h → (∀ o, h.get? i1 = some o → h'.get? i1 = some o) → st1 h') (k2 : ∀ h h' : Heap, st2 h → (∀ o, h.get? i2 = some o → h'.get? i2 = some o) → st2 h')
    (hQ : ∀ h' tk x y, P1 x → P2 y → IsZip h' z TI TO (rawInt s.heap.objs.size) → IsPair h' TO x y → st1 h' → st2 h' → IsPair h' s.heap.objs.size x y → h'.objs.size = s.heap.objs.size + 1 →
      (∀ c o, c ≠ z → c ≠ TO → c ≠ i1 → c ≠ i2 → s.heap.get? c = some o → h'.get? c = some o) → Q (.ref s.heap.objs.size) { s with heap := h', toks := tk }) :
    wpAny (model prog w) A (Builtin.«zip.__next__» ⟨[.ref z], []⟩) (fun fin s' => ∃ v, fin = .done (.ret v) ∧ Q v s') E s := by
  show wpAny _ _ (field (.ref z) 2 >>= fun _ => _) _ _ _
  refine wpAny_bind (wpAny_field hz rfl (x := .bool false) rfl ?_); show wpAny _ _ (field (.ref z) 3 >>= fun _ => _) _ _ _
  refine wpAny_bind (wpAny_field hz rfl (x := .ref TI) rfl (wpAny_bind (wpAny_seqItems hTI rfl ?_)))
  show wpAny _ _ (Builtin.SmallTypes.ownedTupleIsFree (.ref z) >>= fun _ => _) _ _ _
  refine wpAny_bind ?_; unfold Builtin.SmallTypes.ownedTupleIsFree
  refine wpAny_bind (wpAny_field hz rfl (x := .none) rfl (wpAny_pure ?_)); simp only [if_true]
  refine wpAny_bind (wpAny_rule (wpAny_bind (wpAny_field hz rfl (x := .ref TO) rfl (wpAny_bind (wpAny_setField_rec hz (by simp) fun g1 y1 m1 => ?_)))))
  replace y1 : IsZip g1 z TI TO .ellipsis := y1
  refine wpAny_bind ?_; simp only [List.zipIdx_cons, List.zipIdx_nil, List.forIn_cons, List.forIn_nil]
  refine wpAny_bind (wpAny_bind (wpAny_onRaise ?_)); show wpAny _ _ (Builtin.SmallTypes.nextOf (.ref i1) >>= fun _ => _) _ _ _
  have e1 : ∀ c o, c ≠ z → s.heap.get? c = some o → g1.get? c = some o := fun c o c1 e => m1.extBut _ _ c1 e
  refine wpAny_bind (n1 _ _ _ _ (o1 g1 e1) fun g2 tk2 x px q1 m2 => wpAny_pure ?_)
  have e2 : ∀ c o, c ≠ z → c ≠ i1 → s.heap.get? c = some o → g2.get? c = some o := fun c o c1 c3 e => m2.extBut _ _ c3 (e1 c o c1 e)
  have t2 : IsPair g2 TO a b := e2 _ _ D.oz D.oa hTO
  refine wpAny_bind (wpAny_seqItems t2 rfl (wpAny_bind (wpAny_updateSeq_pair t2 fun g3 t3 m3 => ?_)))
  replace t3 : IsPair g3 TO x b := t3
  have e3 : ∀ c o, c ≠ z → c ≠ TO → c ≠ i1 → s.heap.get? c = some o → g3.get? c = some o := fun c o c1 c2 c3 e => m3.extBut _ _ c2 (e2 c o c1 c3 e)
  refine wpAny_bind (wpAny_letGo (wpAny_pure (wpAny_bind (wpAny_bind (wpAny_onRaise ?_))))); show wpAny _ _ (Builtin.SmallTypes.nextOf (.ref i2) >>= fun _ => _) _ _ _
  refine wpAny_bind (n2 _ _ _ _ (o2 g3 e3) fun g4 tk4 y py q2 m4 => wpAny_pure ?_)
  have t4 : IsPair g4 TO x b := m4.extBut _ _ D.ob t3
  refine wpAny_bind (wpAny_seqItems t4 rfl (wpAny_bind (wpAny_updateSeq_pair t4 fun g5 t5 m5 => ?_)))
  replace t5 : IsPair g5 TO x y := t5
  refine wpAny_bind (wpAny_letGo (wpAny_pure (wpAny_pure (wpAny_bind (wpAny_seqItems t5 rfl (wpAny_bind (wpAny_newTuple ?_)))))))
  have hsz : g5.objs.size = s.heap.objs.size := m5.1.trans (m4.1.trans (m3.1.trans (m2.1.trans m1.1)))
  have e5 : ∀ c o, c ≠ z → c ≠ TO → c ≠ i1 → c ≠ i2 → s.heap.get? c = some o → g5.get? c = some o := fun c o c1 c2 c3 c4 e => m5.extBut _ _ c2 (m4.extBut _ _ c4 (e3 c o c1 c2 c3 e))
  have y5 : IsZip g5 z TI TO .ellipsis := m5.extBut _ _ D.oz.symm (m4.extBut _ _ D.bz.symm (m3.extBut _ _ D.oz.symm (m2.extBut _ _ D.az.symm y1)))
  have w1 : st1 g5 := k1 _ _ q1 fun o e => m5.extBut _ _ D.oa.symm (m4.extBut _ _ D.ab (m3.extBut _ _ D.oa.symm e))
  have w2 : st2 g5 := k2 _ _ q2 fun o e => m5.extBut _ _ D.ob.symm e
  have zl : z < g5.objs.size := Heap.lt_size y5
  show wpAny _ _ (Builtin.SmallTypes.ownedTupleHandOut (.ref z) (.ref g5.objs.size) >>= fun _ => _) _ _ _
  refine wpAny_bind ?_; unfold Builtin.SmallTypes.ownedTupleHandOut
  have y6 : IsZip (g5.push { cls := .type "tuple", data := .seq #[x, y] }) z TI TO .ellipsis := Heap.get?_push_of_some _ y5
  refine wpAny_bind (wpAny_setField_rec y6 (by simp) fun g7 y7 m7 => ?_)
  replace y7 : IsZip g7 z TI TO (rawInt g5.objs.size) := y7
  refine wpAny_setField_rec y7 (by simp) fun g8 y8 m8 => ?_
  replace y8 : IsZip g8 z TI TO (rawInt g5.objs.size) := y8
  have up : ∀ c o, c ≠ z → g5.get? c = some o → g8.get? c = some o := fun c o c1 e => m8.extBut _ _ c1 (m7.extBut _ _ c1 (Heap.get?_push_of_some _ e))
  have t8 : IsPair g8 g5.objs.size x y := m8.extBut _ _ (Nat.ne_of_gt zl) (m7.extBut _ _ (Nat.ne_of_gt zl) (Heap.get?_push_size _ rfl))
  have s8 : g8.objs.size = g5.objs.size + 1 := (m8.1.trans m7.1).trans (Heap.size_push ..)
  rw [hsz] at y8 t8 s8
  refine wpAny_pure ⟨_, rfl, ?_⟩; show Q (.ref g5.objs.size) _; rw [hsz]
  exact hQ g8 _ x y px py y8 (up _ _ D.oz t5) (k1 _ _ w1 fun o e => up _ o D.az e) (k2 _ _ w2 fun o e => up _ o D.bz e) t8 s8 fun c o c1 c2 c3 c4 e => up c o c1 (e5 c o c1 c2 c3 c4 e)
theorem Zvi {z TI TO i1 i2 : Addr} {a b : Value} {P1 : Value → Prop} {ok1 ok2 st1 : Heap → Prop} {Q : Fin → Shared → Prop} (hh : A.handled = none) (D : ZApart z TI TO i1 i2)
    (hz : IsZip s.heap z TI TO .none) (hTI : IsPair s.heap TI (.ref i1) (.ref i2)) (hTO : IsPair s.heap TO a b) (n : Zn9 prog w i1 ok1 ∨ (Zf7 prog w i1 ok1 P1 st1 ∧ Zn9 prog w i2 ok2))
    (o1 : ∀ h', (∀ c o, c ≠ z → s.heap.get? c = some o → h'.get? c = some o) → ok1 h') (o2 : ∀ h', (∀ c o, c ≠ z → c ≠ TO → c ≠ i1 → s.heap.get? c = some o → h'.get? c = some o) → ok2 h')
    (hE : ∀ h' tk e, (∀ c o, c ≠ z → c ≠ TO → c ≠ i1 → c ≠ i2 → s.heap.get? c = some o → h'.get? c = some o) → (∃ o, h'.get? e = some o ∧ o.cls = .type "StopIteration") → E (.ref e) { s with heap := h', toks := tk }) :
    wpAny (model prog w) A (Builtin.«zip.__next__» ⟨[.ref z], []⟩) Q E s := by
  show wpAny _ _ (field (.ref z) 2 >>= fun _ => _) _ _ _
  refine wpAny_bind (wpAny_field hz rfl (x := .bool false) rfl ?_); show wpAny _ _ (field (.ref z) 3 >>= fun _ => _) _ _ _
  refine wpAny_bind (wpAny_field hz rfl (x := .ref TI) rfl (wpAny_bind (wpAny_seqItems hTI rfl ?_)))
  show wpAny _ _ (Builtin.SmallTypes.ownedTupleIsFree (.ref z) >>= fun _ => _) _ _ _
  refine wpAny_bind ?_; unfold Builtin.SmallTypes.ownedTupleIsFree
  refine wpAny_bind (wpAny_field hz rfl (x := .none) rfl (wpAny_pure ?_)); simp only [if_true]
  refine wpAny_bind (wpAny_rule (wpAny_bind (wpAny_field hz rfl (x := .ref TO) rfl (wpAny_bind (wpAny_setField_rec hz (by simp) fun g1 y1 m1 => ?_)))))
  replace y1 : IsZip g1 z TI TO .ellipsis := y1
  refine wpAny_bind ?_; simp only [List.zipIdx_cons, List.zipIdx_nil, List.forIn_cons, List.forIn_nil]
  refine wpAny_bind (wpAny_bind (wpAny_onRaise ?_)); show wpAny _ _ (Builtin.SmallTypes.nextOf (.ref i1) >>= fun _ => _) _ _ _
  have e1 : ∀ c o, c ≠ z → s.heap.get? c = some o → g1.get? c = some o := fun c o c1 e => m1.extBut _ _ c1 e
  rcases n with n | ⟨n1, n2⟩
  · refine wpAny_bind (n _ _ _ _ hh (o1 g1 e1) fun g2 tk2 e m2 he => ?_)
    obtain ⟨oe, hoe, hce⟩ := he
    have y2 : IsZip g2 z TI TO .ellipsis := m2 _ _ D.az.symm y1
    have ne : e ≠ z := fun q => by subst q; rw [y2] at hoe; cases hoe; simp at hce
    refine wpAny_setField_rec y2 (by simp) fun g3 _ m3 => hE g3 _ e (fun c o c1 _ c3 _ q => m3.extBut _ _ c1 (m2 _ _ c3 (e1 c o c1 q))) ⟨oe, m3.extBut _ _ ne hoe, hce⟩
  · refine wpAny_bind (n1 _ _ _ _ (o1 g1 e1) fun g2 tk2 x px q1 m2 => wpAny_pure ?_)
    have e2 : ∀ c o, c ≠ z → c ≠ i1 → s.heap.get? c = some o → g2.get? c = some o := fun c o c1 c3 e => m2.extBut _ _ c3 (e1 c o c1 e)
    have t2 : IsPair g2 TO a b := e2 _ _ D.oz D.oa hTO
    refine wpAny_bind (wpAny_seqItems t2 rfl (wpAny_bind (wpAny_updateSeq_pair t2 fun g3 t3 m3 => ?_)))
    have e3 : ∀ c o, c ≠ z → c ≠ TO → c ≠ i1 → s.heap.get? c = some o → g3.get? c = some o := fun c o c1 c2 c3 e => m3.extBut _ _ c2 (e2 c o c1 c3 e)
    refine wpAny_bind (wpAny_letGo (wpAny_pure (wpAny_bind (wpAny_bind (wpAny_onRaise ?_))))); show wpAny _ _ (Builtin.SmallTypes.nextOf (.ref i2) >>= fun _ => _) _ _ _
    refine wpAny_bind (n2 _ _ _ _ hh (o2 g3 e3) fun g4 tk4 e m4 he => ?_)
    obtain ⟨oe, hoe, hce⟩ := he
    have y4 : IsZip g4 z TI TO .ellipsis := m4 _ _ D.bz.symm (m3.extBut _ _ D.oz.symm (m2.extBut _ _ D.az.symm y1))
    have ne : e ≠ z := fun q => by subst q; rw [y4] at hoe; cases hoe; simp at hce
    refine wpAny_setField_rec y4 (by simp) fun g5 _ m5 => hE g5 _ e (fun c o c1 c2 c3 c4 q => m5.extBut _ _ c1 (m4 _ _ c4 (e3 c o c1 c2 c3 q))) ⟨oe, m5.extBut _ _ ne hoe, hce⟩
theorem Zmp {z TI TO i1 i2 : Addr} {a b : Value} {P1 P2 : Value → Prop} {ok1 ok2 st1 st2 : Heap → Prop} {Q : Option Value → Shared → Prop} (D : ZApart z TI TO i1 i2)
    (hz : IsZip s.heap z TI TO .none) (hTI : IsPair s.heap TI (.ref i1) (.ref i2)) (hTO : IsPair s.heap TO a b) (n1 : Zf7 prog w i1 ok1 P1 st1) (n2 : Zf7 prog w i2 ok2 P2 st2)
    (o1 : ∀ h', (∀ c o, c ≠ z → s.heap.get? c = some o → h'.get? c = some o) → ok1 h') (o2 : ∀ h', (∀ c o, c ≠ z → c ≠ TO → c ≠ i1 → s.heap.get? c = some o → h'.get? c = some o) → ok2 h')
    (k1 : ∀ h h' : Heap, st1 h → (∀ o, h.get? i1 = some o → h'.get? i1 = some o) → st1 h') (k2 : ∀ h h' : Heap, st2 h → (∀ o, h.get? i2 = some o → h'.get? i2 = some o) → st2 h')
    (hQ : ∀ h' tk x y, P1 x → P2 y → IsZip h' z TI TO (rawInt s.heap.objs.size) → IsPair h' TO x y → st1 h' → st2 h' → IsPair h' s.heap.objs.size x y → h'.objs.size = s.heap.objs.size + 1 →
      (∀ c o, c ≠ z → c ≠ TO → c ≠ i1 → c ≠ i2 → s.heap.get? c = some o → h'.get? c = some o) → Q (some (.ref s.heap.objs.size)) { s with heap := h', toks := tk }) :
    wpAny (model prog w) A (pyNext (.ref z)) Q E s := by
  have hT : s.TypeIs (.ref z) "zip" := ⟨_, hz, rfl⟩
  unfold pyNext
  exact wpAny_bind (wpAny_attempt (wpAny_callSpecial?_slot (name := Str.ofString "__next__") hT F.slot_zip_next (wpAny_call_entry F.slot_zip_next hT F.entry_zip_next
    (Zsk D hz hTI hTO n1 n2 o1 o2 k1 k2 fun h' tk x y px py a1 a2 a3 a4 a5 a6 a7 => wpAny_pure (hQ h' tk x y px py a1 a2 a3 a4 a5 a6 a7)) (F.args_zip_next_1 _))))
theorem Zo8 {z TI TO i1 i2 : Addr} {a b : Value} {P1 : Value → Prop} {ok1 ok2 st1 : Heap → Prop} {Q : Option Value → Shared → Prop} (hh : A.handled = none) (D : ZApart z TI TO i1 i2)
    (hz : IsZip s.heap z TI TO .none) (hTI : IsPair s.heap TI (.ref i1) (.ref i2)) (hTO : IsPair s.heap TO a b) (n : Zn9 prog w i1 ok1 ∨ (Zf7 prog w i1 ok1 P1 st1 ∧ Zn9 prog w i2 ok2))
    (o1 : ∀ h', (∀ c o, c ≠ z → s.heap.get? c = some o → h'.get? c = some o) → ok1 h') (o2 : ∀ h', (∀ c o, c ≠ z → c ≠ TO → c ≠ i1 → s.heap.get? c = some o → h'.get? c = some o) → ok2 h')
    (hQ : ∀ h' tk, (∀ c o, c ≠ z → c ≠ TO → c ≠ i1 → c ≠ i2 → s.heap.get? c = some o → h'.get? c = some o) → Q none { s with heap := h', toks := tk }) : wpAny (model prog w) A (pyNext (.ref z)) Q E s := by
  have hT : s.TypeIs (.ref z) "zip" := ⟨_, hz, rfl⟩
  unfold pyNext
  refine wpAny_bind (wpAny_attempt (wpAny_callSpecial?_slot (name := Str.ofString "__next__") hT F.slot_zip_next (wpAny_call_entry F.slot_zip_next hT F.entry_zip_next
    (Zvi hh D hz hTI hTO n o1 o2 fun h' tk e hk ⟨o, ho, hc⟩ => ?_) (F.args_zip_next_1 _))))
  exact wpAny_bind (wpAny_isInstance (T := "StopIteration") (b := true) ⟨o, ho, hc⟩ isSubtype_stop (wpAny_pure (hQ _ _ hk)))
theorem Zkg {it : Addr} {ty : String} {x : Str} {t : Tok} {i c : Nat} (hty : ty = "str_ascii_iterator" ∨ ty = "str_iterator") (hx : x.cps[i]? = some c) : Zf7 prog w it (fun h => h.IsStrIter it ty x t i) (fun v => ∃ tk, v = .str ⟨#[c]⟩ tk) (fun h => h.IsStrIter it ty x t (i + 1)) := by
  rcases hty with rfl | rfl
  · exact Znb hx
  · exact Zoo hx
theorem Zpa {it l : Addr} {i : Nat} {items : Array Value} {x : Value} (hx : items[i]? = some x) : Zf7 prog w it (fun h => h.IsListIter it l i ∧ h.IsList l items) (fun v => v = x) (fun h => h.IsListIter it l (i + 1)) :=
  fun A E s Q ⟨h1, h2⟩ hQ => wpAny_nextOf_list_item h1 h2 hx fun h' a b => hQ h' s.toks x rfl a b
theorem Zrh {it l : Addr} {i : Nat} {items : Array Value} (hx : items[i]? = none) : Zn9 prog w it (fun h => h.IsListIter it l i ∧ h.IsList l items) :=
  fun A E s Q hh ⟨h1, h2⟩ hE => wpAny_nextOf_list_end hh h1 h2 hx fun h' e a b => hE h' s.toks e a b
theorem Ze3 {h h' : Heap} {a : Addr} {ty x t i} (y : h.IsStrIter a ty x t i) (k : ∀ o, h.get? a = some o → h'.get? a = some o) : h'.IsStrIter a ty x t i := by
  obtain ⟨o, ho, r⟩ := y
  exact ⟨o, k o ho, r⟩
noncomputable def Itzs (K : PySem.W.Frag) (x : Str) (b : Addr) : It :=
  ⟨fun i H => ∃ (ys : List V) (c : Nat) (y : V), SqL K H b ys ∧ x.cps[i]? = some c ∧ ys[i]? = some y,
    fun i H v H' => ∃ T c y, v = .ref T ∧ H T = none ∧ H' = upd H T (.tup [.str ⟨#[c]⟩, y]) ∧ x.cps[i]? = some c ∧ ∀ ys, SqL K H b ys → ys[i]? = some y,
    fun i H => ∃ ys : List V, SqL K H b ys ∧ (x.cps.size ≤ i ∨ ys.length ≤ i)⟩
theorem Zuc {P : Program} {w : World} {K : PySem.W.Frag} {elts : List Expr} {kk : Nat} {tpos : Pos} {b z TI TO i1 i2 : Addr} {x : Str} {t : Tok} {ty : String} (D : ZApart z TI TO i1 i2) (hb : b ≠ z ∧ b ≠ TO ∧ b ≠ i1 ∧ b ≠ i2) (hty : ty = "str_ascii_iterator" ∨ ty = "str_iterator") :
    Turn P w K (.Tuple elts kk tpos) (Itzs K x b) [z, TI, TO, i1, i2] z (fun i h => IsZip h z TI TO .none ∧ IsPair h TI (.ref i1) (.ref i2) ∧ (∃ x y, IsPair h TO x y) ∧ h.IsStrIter i1 ty x t i ∧ h.IsListIter i2 b i) where
  mem := by simp
  obj := fun i h ⟨hz, hTI, ⟨x, y, hTO⟩, ⟨o1, e1, _, d1⟩, ⟨o2, e2, _, d2⟩⟩ c hc => by
    simp only [List.mem_cons, List.not_mem_nil, or_false] at hc
    rcases hc with rfl | rfl | rfl | rfl | rfl
    · exact ⟨_, hz, fun v q => nomatch q⟩
    · exact ⟨_, hTI, fun v q => nomatch q⟩
    · exact ⟨_, hTO, fun v q => nomatch q⟩
    · exact ⟨o1, e1, fun v q => (by rw [d1] at q; cases q)⟩
    · exact ⟨o2, e2, fun v q => (by rw [d2] at q; cases q)⟩
  keep := fun i h h' ⟨hz, hTI, ⟨x, y, hTO⟩, h1, h2⟩ k => ⟨k z (by simp) _ hz, k TI (by simp) _ hTI, ⟨x, y, k TO (by simp) _ hTO⟩, Ze3 h1 fun o q => k i1 (by simp) o q, h2.at fun o q => k i2 (by simp) o q⟩
  item := by
    intro X hP hw hK hc i pins s σ H E I hf ⟨hz, hTI, ⟨x0, y0, hTO⟩, h1, h2⟩ ⟨ys, c, y, hqy, hx, hy⟩
    subst hP hw hK
    obtain ⟨its2, rv2, p2, _⟩ := I.list hqy
    obtain ⟨u2, hu2, ru2⟩ := rv2.get hy
    have zl : z < s.heap.objs.size := Heap.lt_size hz
    refine Zmp D hz hTI hTO (Zkg (t := t) hty hx) (Zpa (l := b) (items := its2.toArray) (x := u2) (by simpa using hu2)) (fun h' k => Ze3 h1 fun o e => k _ o D.az e)
      (fun h' k => ⟨h2.at fun o e => k _ o D.bz D.ob.symm D.ab.symm e, p2.isList.at fun o e => k _ o hb.1 hb.2.1 hb.2.2.1 e⟩) (fun h h' q k => Ze3 q k) (fun h h' q k => q.at k) fun h' tk v1 v2 e1 e2 z' TO' q1 q2 hT hsz hk => ?_
    obtain ⟨tk1, rfl⟩ := e1
    subst e2
    refine ⟨_, rfl, wpAny_letOwnedTupleGo_zip (s := { s with heap := h', toks := tk }) z' fun h'' z'' sb => ?_⟩
    have hT2 : h''.get? s.heap.objs.size = some { cls := .type "tuple", data := .seq #[.str ⟨#[c]⟩ tk1, v2] } := (sb.2 _ (Nat.ne_of_gt zl)).trans hT
    have new : ObjOk X.prog X.w (upd H s.heap.objs.size (.tup [.str ⟨#[c]⟩, y])) h'' s.heap.objs.size (.tup [.str ⟨#[c]⟩, y]) := ⟨(by show 2 ≤ sizeLine; decide), [.str ⟨#[c]⟩ tk1, v2], .cons ⟨tk1, rfl⟩ (.cons ru2 .nil), ⟨_, hT2, rfl, _, rfl⟩⟩
    have I1 : Inv X pins σ (upd H s.heap.objs.size (.tup [.str ⟨#[c]⟩, y])) { s with heap := h'', toks := tk } := I.turnedNew (t' := tk) (ch := [z, TI, TO, i1, i2])
      (fun d o hd q => (sb.2 d (fun e => hd (by simp [e]))).trans (hk d o (fun e => hd (by simp [e])) (fun e => hd (by simp [e])) (fun e => hd (by simp [e])) (fun e => hd (by simp [e])) q)) hf (Nat.le_refl _) new
    refine ⟨.ref s.heap.objs.size, _, I1, rfl, ⟨_, c, y, rfl, I.hok.fresh (Nat.le_refl _), rfl, hx, fun l hl => by rw [I.list_inj hl hqy]; exact hy⟩, ⟨z'', (sb.2 _ D.tz).trans (hk _ _ D.tz D.to D.ta D.tb hTI), ⟨_, _, (sb.2 _ D.oz).trans TO'⟩, Ze3 q1 fun o q => (sb.2 _ D.az).trans q, q2.at fun o q => (sb.2 _ D.bz).trans q⟩, fun d hd => ?_⟩
    have ld : d < s.heap.objs.size := by
      obtain ⟨o1, f1, _⟩ := id h1
      obtain ⟨o2, f2, _⟩ := id h2
      simp only [List.mem_cons, List.not_mem_nil, or_false] at hd
      rcases hd with rfl | rfl | rfl | rfl | rfl
      · exact zl
      · exact Heap.lt_size hTI
      · exact Heap.lt_size hTO
      · exact Heap.lt_size f1
      · exact Heap.lt_size f2
    rw [upd_ne (Nat.ne_of_lt ld)]; exact (hf d hd).1
  done := by
    intro X hP hw hK hc i pins s σ H E I hf ⟨hz, hTI, ⟨x0, y0, hTO⟩, h1, h2⟩ ⟨ys, hqy, hend⟩
    subst hP hw hK
    obtain ⟨its2, rv2, p2, _⟩ := I.list hqy
    have l2 := rv2.length
    have nn : Zn9 X.prog X.w i1 (fun h => h.IsStrIter i1 ty x t i) ∨ (Zf7 X.prog X.w i1 (fun h => h.IsStrIter i1 ty x t i) (fun v => ∃ c tk, v = .str ⟨#[c]⟩ tk) (fun h => h.IsStrIter i1 ty x t (i + 1)) ∧ Zn9 X.prog X.w i2 (fun h => h.IsListIter i2 b i ∧ h.IsList b its2.toArray)) := by
      by_cases hl : x.cps.size ≤ i
      · exact .inl (Zrb hty (Array.getElem?_eq_none hl))
      · have hy : ys.length ≤ i := hend.resolve_left hl
        refine .inr ⟨fun A E s Q h q => Zkg hty (Array.getElem?_eq_getElem (Nat.lt_of_not_le hl)) A E s Q h fun h' tk v ⟨tk', e⟩ => q h' tk v ⟨_, tk', e⟩, Zrh ?_⟩
        exact Array.getElem?_eq_none (by simp; omega)
    exact Zo8 (I.ok.hd hc) D hz hTI hTO nn (fun h' k => Ze3 h1 fun o e => k _ o D.az e) (fun h' k => ⟨h2.at fun o e => k _ o D.bz D.ob.symm D.ab.symm e, p2.isList.at fun o e => k _ o hb.1 hb.2.1 hb.2.2.1 e⟩)
      fun h' tk hk => ⟨rfl, I.turnedL (t' := tk) (ch := [z, TI, TO, i1, i2]) (fun d o hd q => hk d o (fun e => hd (by simp [e])) (fun e => hd (by simp [e])) (fun e => hd (by simp [e])) (fun e => hd (by simp [e])) q) hf⟩
  self := fun A i s Q E st h => wpAny_pyIter_zip st.1 h
@[irreducible] noncomputable def Zn3 (x : Str) : String := if x.cps.all (· < 128) then "str_ascii_iterator" else "str_iterator"
theorem Zva (x : Str) : Zn3 x = "str_ascii_iterator" ∨ Zn3 x = "str_iterator" := by
  unfold Zn3
  split
  · exact .inl rfl
  · exact .inr rfl
theorem Zs3 {A : Around} {E : Value → Shared → Prop} {s : Shared} {x : Str} {t : Tok} {Q : Value → Shared → Prop} (hQ : Q (.ref s.heap.objs.size) { s with heap := s.heap.push { cls := .type (Zn3 x), data := .fields #[.str x t, .int 0 0] } }) :
    wpAny (model prog w) A (pyIter (.str x t)) Q E s := by
  unfold Zn3 at hQ
  cases ha : x.cps.all (· < 128)
  · rw [ha] at hQ; exact wpAny_pyIter_wide ha hQ
  · rw [ha] at hQ; exact wpAny_pyIter_ascii ha hQ
noncomputable abbrev zA (h : Heap) (x : Str) (t : Tok) : Heap := h.push { cls := .type (Zn3 x), data := .fields #[.str x t, .int 0 0] }
noncomputable abbrev zB (h : Heap) (x : Str) (t : Tok) (l : Addr) : Heap := (zA h x t).push { cls := .type "list_iterator", data := .fields #[.ref l, .int 0 0] }
noncomputable abbrev zC (h : Heap) (x : Str) (t : Tok) (l : Addr) : Heap := (zB h x t l).push { cls := .type "tuple", data := .seq #[.ref h.objs.size, .ref (zA h x t).objs.size] }
noncomputable abbrev zD (h : Heap) (x : Str) (t : Tok) (l : Addr) : Heap := (zC h x t l).push { cls := .type "tuple", data := .seq #[.none, .none] }
noncomputable abbrev zE (h : Heap) (x : Str) (t : Tok) (l : Addr) : Heap := (zD h x t l).push { cls := .type "zip", data := .fields #[.none, .bool false, .bool false, .ref (zB h x t l).objs.size, .ref (zC h x t l).objs.size] }
theorem Zrn (x : Str) (t : Tok) (l : Addr) (ys : Array Value) : Meets (Builtin.«zip.__new__» ⟨[.type "zip", .str x t, .ref l], []⟩) (fun _ R s => s.heap.IsList l ys ∧ R (.ok (.ret (.ref (zD s.heap x t l).objs.size))) { s with heap := zE s.heap x t l }) :=
  .of_wp fun prog w A R s h => by
    obtain ⟨hp, g, d, tk, os⟩ := s; obtain ⟨hl, h⟩ := h
    have hsub := sub_zip
    have q1 : ∀ {A : Around} {E : Value → Shared → Prop} {Q : Value → Shared → Prop}, Q (.ref hp.objs.size) ⟨zA hp x t, g, d, tk, os⟩ → wpAny (model prog w) A (pyIter (.str x t)) Q E ⟨hp, g, d, tk, os⟩ := fun q => Zs3 (s := ⟨hp, g, d, tk, os⟩) q
    have q2 : Heap.IsList (Shared.heap ⟨zA hp x t, g, d, tk, os⟩) l ys := Heap.IsList.push hl _
    wp_walk using q1, wpAny_pyIter_list q2
    exact ⟨_, rfl, h⟩
theorem Zt1 {A : Around} {E : Value → Shared → Prop} {s : Shared} {x : Str} {t : Tok} {l : Addr} {ys : Array Value} {Q : Value → Shared → Prop} (hl : s.heap.IsList l ys)
    (h : ∀ h', IsZip h' (s.heap.objs.size + 4) (s.heap.objs.size + 2) (s.heap.objs.size + 3) .none → IsPair h' (s.heap.objs.size + 2) (.ref s.heap.objs.size) (.ref (s.heap.objs.size + 1)) → IsPair h' (s.heap.objs.size + 3) .none .none →
      h'.IsStrIter s.heap.objs.size (Zn3 x) x t 0 → h'.IsListIter (s.heap.objs.size + 1) l 0 → (∀ c o, s.heap.get? c = some o → h'.get? c = some o) → Q (.ref (s.heap.objs.size + 4)) { s with heap := h' }) :
    wpAny (model prog w) A (call (.type "zip") [.str x t, .ref l]) Q E s := by
  refine callType_new F.called_zip (by decide) (F.typeCall_zip_2 _ _) (F.newCall_zip_2 _ _) (fun obj => F.args_object_init_3 obj _ _) F.entry_zip_new (Zrn x t l ys) ⟨hl, ?_⟩
  have za : (zA s.heap x t).objs.size = s.heap.objs.size + 1 := Heap.size_push ..
  have zb : (zB s.heap x t l).objs.size = s.heap.objs.size + 2 := by rw [Heap.size_push, za]
  have zc : (zC s.heap x t l).objs.size = s.heap.objs.size + 3 := by rw [Heap.size_push, zb]
  have zd : (zD s.heap x t l).objs.size = s.heap.objs.size + 4 := by rw [Heap.size_push, zc]
  have ge : (zE s.heap x t l).get? (zD s.heap x t l).objs.size = some _ := Heap.get?_push_size _ rfl
  have gd : (zE s.heap x t l).get? (zC s.heap x t l).objs.size = some _ := Heap.get?_push_of_some _ (Heap.get?_push_size _ rfl)
  have gc : (zE s.heap x t l).get? (zB s.heap x t l).objs.size = some _ := Heap.get?_push_of_some _ (Heap.get?_push_of_some _ (Heap.get?_push_size _ rfl))
  have gb : (zE s.heap x t l).get? (zA s.heap x t).objs.size = some _ := Heap.get?_push_of_some _ (Heap.get?_push_of_some _ (Heap.get?_push_of_some _ (Heap.get?_push_size _ rfl)))
  have ga : (zE s.heap x t l).get? s.heap.objs.size = some _ := Heap.get?_push_of_some _ (Heap.get?_push_of_some _ (Heap.get?_push_of_some _ (Heap.get?_push_of_some _ (Heap.get?_push_size _ rfl))))
  show _ ∧ _
  rw [zb, zc, zd] at ge
  rw [za, zb] at gc
  rw [zc] at gd
  rw [za] at gb
  rw [zd]
  exact ⟨⟨_, ge, rfl⟩, h _ ge gc gd ⟨_, ga, rfl, rfl⟩ ⟨_, gb, rfl, rfl⟩ fun c o q => Heap.get?_push_of_some _ (Heap.get?_push_of_some _ (Heap.get?_push_of_some _ (Heap.get?_push_of_some _ (Heap.get?_push_of_some _ q))))⟩
theorem zap (n : Nat) : ZApart (n + 4) (n + 2) (n + 3) n (n + 1) := by
  constructor <;> (show ¬ ((_ : Nat) = _)) <;> omega
theorem zbp {b n : Nat} (h : b < n) : b ≠ n + 4 ∧ b ≠ n + 3 ∧ b ≠ n ∧ b ≠ n + 1 := by omega
theorem zle {c n : Nat} (h : c ∈ [n + 4, n + 2, n + 3, n, n + 1]) : n ≤ c := by
  simp only [List.mem_cons, List.not_mem_nil, or_false] at h
  omega
noncomputable def Z2f (K : PySem.W.Frag) (ta : TA) : TI := fun σ H R => ta σ H fun vs H1 => ∃ x b ys, vs = [.str x, .ref b] ∧ SqL K H1 b ys ∧ R (Itzs K x b) H1
theorem Zx7 {X : Cx} {e e2 : Expr} {ta : TA} {p pos tpos : Pos} {elts : List Expr} {kk : Nat} (hg : Gl X "zip") (hm : X.mg "zip" = none) (ha : PA X [e, e2] ta) (hs : starEach [e, e2] X.env = (false, eval e X.env) :: starEach [e2] X.env := by rfl)
    (hpl : (backTo pos (starEach [e2] X.env)).any (·.1) = false := by rfl) : PI X (.Tuple elts kk tpos) (.Call (.Name "zip" p) [e, e2] [] pos) (Z2f X.K ta) := by
  refine ⟨fun pins s σ H R I h => Call_ (ld_blt I hg hm PyProof.Rows.boot_zip (PyProof.Rows.callWith_type1 (thn (ha.run pos pins s σ H _ I h) fun us s1 ⟨vs, H1, I1, r1, x, b, ys, ex, hqy, q⟩ => ?_) hs hpl))⟩
  subst ex
  cases r1 with
  | cons r rr => cases rr with
    | cons r' rr =>
      cases rr
      obtain ⟨t, rfl⟩ := r
      cases r'
      obtain ⟨its2, rv2, p2, _⟩ := I1.list hqy
      have lb : b < s1.heap.objs.size := p2.lt
      have D : ZApart (s1.heap.objs.size + 4) (s1.heap.objs.size + 2) (s1.heap.objs.size + 3) s1.heap.objs.size (s1.heap.objs.size + 1) := zap _
      have hb : b ≠ s1.heap.objs.size + 4 ∧ b ≠ s1.heap.objs.size + 3 ∧ b ≠ s1.heap.objs.size ∧ b ≠ s1.heap.objs.size + 1 := zbp lb
      refine Zt1 p2.isList fun h' hz hTI hTO h1 h2 hk => wpAny_pyIter_zip hz ?_
      have I2 : Inv X pins σ H1 { s1 with heap := h' } := I1.kept (t' := s1.toks) hk
      exact ⟨s1.heap.objs.size + 4, [s1.heap.objs.size + 4, s1.heap.objs.size + 2, s1.heap.objs.size + 3, s1.heap.objs.size, s1.heap.objs.size + 1], _, _, H1, rfl, I2, Zuc (t := t) (ty := Zn3 x) D hb (Zva x), ⟨hz, hTI, ⟨_, _, hTO⟩, h1, h2⟩, fun c hc => I1.fpOk (zle hc) (I1.hok.fresh (zle hc)), q⟩
end
end DL
set_option Elab.async false
set_option linter.all false
set_option maxRecDepth 100000
set_option maxHeartbeats 4000000
namespace DL
open PySem PySem.Spec PyProof.Rows L2
section
variable {X : Cx} {F : Fr} {W : WX} {a b : Expr} {wA : WA} {pos p : Pos}
noncomputable def Zdj (x : Str) : List D := x.cps.toList.map fun c => D.str ⟨#[c]⟩
noncomputable def sl2 (k : Str → List D → Prop) : List Slot → Prop
  | [.sh (.str x), y] => lst1 (k x) [y]
  | _ => False
theorem Zwh {k k' : Str → List D → Prop} (m : ∀ i j, k i j → k' i j) {xs : List Slot} (h : sl2 k xs) : sl2 k' xs := by
  unfold sl2 at h ⊢
  split at h
  · exact Zjs (fun ds h => m _ _ h) h
  · exact h.elim
noncomputable def Zrt (wA : WA) : WI := fun env Q => wA env (rk (sl2 fun x es => Q (.ok (zipD (Zdj x) es))) Q)
theorem Zsz (h : Mono wA) : Mono (Zrt wA) := fun env Q Q' m q => Za3 h (fun x hx => Zwh (fun j i z => m _ z) hx) m q
theorem Z00 {b : Addr} {x : Str} {es : List D} {z : Slot} (he : z.dat = some (.lst es)) : ItS F (Itzs F.K x b) (zipD (Zdj x) es) [(z, some (.ref b))] := by
  intro l H c i
  obtain ⟨S, g, cc, pw⟩ := id c
  obtain ⟨us, hq2, r2⟩ := C.stillVals (l := l) g he (cc (z, some (V.ref b)) (by simp))
  refine ⟨fun d hd' => ?_, fun hi => ⟨us, hq2, ?_⟩⟩
  · obtain ⟨d1, d2, h1, h2, ed⟩ := Zv4 hd'
    subst ed
    unfold Zdj at h1
    rw [List.getElem?_map] at h1
    obtain ⟨ch, hc, rfl⟩ := Option.map_eq_some_iff.mp h1
    have hc' : x.cps[i]? = some ch := by rw [← Array.getElem?_toList]; exact hc
    obtain ⟨u2, hu2, ru2⟩ := r2.get h2
    refine ⟨⟨us, ch, u2, hq2, hc', hu2⟩, fun x' H' ⟨T, c1, z2, ex, hT, eH, hz1, hz2⟩ => ?_⟩
    subst ex eH
    rw [hc'] at hz1
    cases hz1
    have := hz2 us hq2
    rw [hu2] at this
    cases this
    exact C.newFromT g cc pw (.cons .str (.cons ru2 .nil)) hT
  · have e : (zipD (Zdj x) es).length = min (Zdj x).length es.length := by simp [zipD]
    have e2 : (Zdj x).length = x.cps.size := by simp [Zdj]
    have := r2.len
    omega
theorem Zsd {elts : List Expr} {kk : Nat} {tpos : Pos} (hm : X.mg "zip" = none) (ha : DA X F W [a, b] wA) (hg : Gl X "zip" := by rfl) (hs : starEach [a, b] X.env = (false, eval a X.env) :: starEach [b] X.env := by rfl) (hpl : (backTo pos (starEach [b] X.env)).any (·.1) = false := by rfl) (hK : X.K = F.K := by rfl) :
    DI X F W (.Tuple elts kk tpos) (.Call (.Name "zip" p) [a, b] [] pos) (Zrt wA) := by
  refine ⟨Zqj (Zx7 hg hm ha.run hs hpl) fun σ H Rk ⟨l, env, k, q⟩ => ⟨l, env, k, Zi3 ha.mono q (fun xs hx vs H1 hl c1 => ?_) fun c fs z => z⟩, Zsz ha.mono⟩
  unfold sl2 at hx
  split at hx
  · rename_i x y
    match vs, hl with
    | [v1, v2], _ =>
      have c0 : C F ((.sh (.str x), some v1) :: (y, some v2) :: (l ++ env.zip σ)) H1 := c1
      have e1 := c0.shStr
      cases e1
      have c3 : C F ([y].zip ([v2].map some) ++ (l ++ env.zip σ)) H1 := c0.tail
      obtain ⟨b1, es, z, e2, h2, s2, d2, c4, us, u2⟩ := Zk9 hx rfl c3
      cases e2
      rw [hK]
      exact ⟨x, b1, us, rfl, u2, h2 _ [(z, some (.ref b1))] H1 (Zls (Zhg s2)) (Z00 d2) c4⟩
  · exact hx.elim
end
end DL
set_option Elab.async false
set_option linter.all false
set_option maxRecDepth 100000
set_option maxHeartbeats 4000000
namespace DL
open PySem PySem.Spec PyProof.Rows L2
section
variable {X : Cx} {F : Fr} {W : WX} {e tg : Expr} {we : WE} {pos p : Pos}
noncomputable def txtK (k : Str → Prop) : Slot → Prop
  | .sh (.str x) => k x
  | _ => False
theorem Zjm {k k' : Str → Prop} (m : ∀ x, k x → k' x) {y : Slot} (h : txtK k y) : txtK k' y := by
  unfold txtK at h ⊢
  split at h
  · exact m _ h
  · exact h.elim
noncomputable def Znj (we : WE) : WI := fun env Q => we env (rk (txtK fun x => Q (.ok (Zdj x))) Q)
theorem Zo0 (h : Mono we) : Mono (Znj we) := fun env Q Q' m q => Za3 h (fun x hx => Zjm (fun z => m _) hx) m q
theorem Z1k {x : Str} : ItS F (Its x) (Zdj x) [] := by
  intro l H c i
  refine ⟨fun d hd => ?_, fun hi => ?_⟩
  · unfold Zdj at hd
    rw [List.getElem?_map] at hd
    obtain ⟨ch, hc, rfl⟩ := Option.map_eq_some_iff.mp hd
    have hc' : x.cps[i]? = some ch := by rw [← Array.getElem?_toList]; exact hc
    refine ⟨(Array.getElem?_eq_some_iff.mp hc').1, fun v H' ⟨e1, c1, e2, e3⟩ => ?_⟩
    subst e1
    rw [hc'] at e2
    cases e2
    subst e3
    exact c.str _
  · have e2 : (Zdj x).length = x.cps.size := by simp [Zdj]
    show x.cps.size ≤ i
    omega
theorem Zqd (he : DE X F W e we) : DI X F W tg e (Znj we) := by
  refine ⟨Zqj (pi_str he.run) fun σ H Rk ⟨l, env, k, q⟩ => ⟨l, env, k, Zbe he.mono q (fun y hy v H1 c1 => ?_) fun c fs z => z⟩, Zo0 he.mono⟩
  unfold txtK at hy
  split at hy
  · rename_i x
    have e1 := c1.shStr
    cases e1
    exact ⟨x, rfl, hy _ [] H1 (fun q hq => nomatch hq) Z1k c1.tail⟩
  · exact hy.elim
end
end DL
set_option Elab.async false
set_option linter.all false
set_option maxRecDepth 100000
set_option maxHeartbeats 4000000
namespace DL
open PySem PySem.Spec PyProof.Rows L2
section
variable {X : Cx} {F : Fr} {W : WX} {e : Expr} {we : WE} {pos p : Pos}
noncomputable def Zlc (we : WE) (sep : Str) : WE := fun env Q => we env (rk (txtK fun x => (sep.length == 0) = false ∧ x.length + 2 ≤ sizeLine ∧ Q (.ok (.ow (.lst ((Txt.split x sep).map D.str))))) Q)
theorem Zln {sep : Str} (h : Mono we) : Mono (Zlc we sep) := fun env Q Q' m q => Za3 h (fun x hx => Zjm (fun z ⟨a, b, c⟩ => ⟨a, b, m _ c⟩) hx) m q
theorem Zms {K : PySem.W.Frag} {S : Hp} : ∀ ys : List Str, Reps K S (ys.map V.str) (ys.map D.str)
  | [] => .nil
  | _ :: ys => .cons .str (Zms ys)
theorem Zl4 {sep : Str} {j : Nat} {apos cpos : Pos} (he : DE X F W e we) (hs : starEach [Expr.Constant (.str sep) j p] X.env = [(false, eval (Expr.Constant (.str sep) j p) X.env)] := by rfl) (hbase : attributeBase e "split" X.env (eval e X.env) = eval e X.env := by rfl) (hline : (apos.endLine == cpos.line) = true := by rfl) :
    DE X F W (.Call (.Attribute e "split" apos) [.Constant (.str sep) j p] [] cpos) (Zlc we sep) := by
  refine ⟨Zbr (pe_split he.run pe_str hs hbase hline) fun σ H Q ⟨l, env, k, q⟩ => ⟨l, env, k, Zbe he.mono q (fun x hx v H1 c1 => ?_) fun c fs q => q⟩, Zln he.mono⟩
  unfold txtK at hx
  split at hx
  · rename_i x
    have e1 := c1.shStr
    cases e1
    obtain ⟨h1, h2, hq⟩ := hx
    refine ⟨⟨x, rfl⟩, x, sep, rfl, rfl, h1, h2, fun a ha => hq _ _ ?_⟩
    obtain ⟨S, g, cc, pw⟩ := c1.tail
    exact C.newFrom g cc pw (Zms _) ha
  · exact hx.elim
end
end DL
set_option Elab.async false
set_option linter.all false
set_option maxRecDepth 100000
set_option maxHeartbeats 4000000
namespace DL
open PySem PySem.Spec PyProof.Rows L2
section
variable {X : Cx} {F : Fr} {W : WX} {e : Expr} {we : WE} {pos p : Pos}
noncomputable def Z05 (sep : Str) (k : Str → Prop) (ds : List D) : Prop := ∃ ys : List Str, ds = ys.map D.str ∧ (ys.map (·.length)).sum + ys.length * sep.length ≤ 16777216 ∧ k (Txt.join sep ys)
noncomputable def Znf (sep : Str) (we : WE) : WE := fun env Q => we env (rk (Zhb (Z05 sep fun z => Q (.ok (.sh (.str z))))) Q)
theorem Znk {sep : Str} (h : Mono we) : Mono (Znf sep we) := fun env Q Q' m q => Za3 h (fun x hx => Zg3 (fun ds ⟨ys, a, b, c⟩ => ⟨ys, a, b, m _ c⟩) hx) m q
theorem Zej {K : PySem.W.Frag} {S : Hp} : ∀ {ys : List Str} {vs : List V}, Reps K S vs (ys.map D.str) → vs = ys.map V.str
  | [], _, .nil => rfl
  | y :: ys, _, .cons r rr => by
    cases r
    rw [Zej rr]
    rfl
theorem Zle {sep : Str} {j : Nat} {apos cpos : Pos} (he : DE X F W e we) (hs : starEach [e] X.env = [(false, eval e X.env)] := by rfl) (hbase : attributeBase (Expr.Constant (.str sep) j p) "join" X.env (eval (Expr.Constant (.str sep) j p) X.env) = eval (Expr.Constant (.str sep) j p) X.env := by rfl) (hline : (apos.endLine == cpos.line) = true := by rfl) (hK : X.K = F.K := by rfl) :
    DE X F W (.Call (.Attribute (.Constant (.str sep) j p) "join" apos) [e] [] cpos) (Znf sep we) := by
  refine ⟨Zbr (pe_join pe_str he.run hs hbase hline) fun σ H Q ⟨l, env, k, q⟩ => ?_, Znk he.mono⟩
  refine ⟨⟨sep, rfl⟩, l, env, k, Zbe he.mono q (fun x hx v H1 c1 => ?_) fun c fs q => q⟩
  obtain ⟨ds, y, ⟨ys, rfl, hb, hq⟩, _, hst, hd, c2⟩ := C.ghost c1 hx
  rw [hK]
  rcases hd with hd | hd
  · obtain ⟨a, vs, ea, hl, _, S, g, r, cc, pw⟩ := c2.seqL hd
    have hv := Zej r
    subst hv
    exact ⟨sep, a, ys, rfl, by cases ea; rfl, .inl hl, hb, hq _ _ (c2.tail.str _)⟩
  · obtain ⟨a, vs, ea, hl, _, S, g, r, cc, pw⟩ := c2.seqT hd
    have hv := Zej r
    subst hv
    exact ⟨sep, a, ys, rfl, by cases ea; rfl, .inr hl, hb, hq _ _ (c2.tail.str _)⟩
end
end DL
set_option Elab.async false
set_option linter.all false
set_option maxRecDepth 100000
set_option maxHeartbeats 4000000
namespace DL
open PySem PySem.Spec PyProof.Rows L2
section
variable {X : Cx} {F : Fr} {W : WX} {e : Expr} {we : WE} {pos p : Pos}
end
end DL
set_option Elab.async false
set_option linter.all false
set_option maxRecDepth 100000
set_option maxHeartbeats 4000000
namespace DL
open PySem PySem.Spec PyProof.Rows L2
section
variable {F : Fr} {S S' H H' : Hp} {l : List Cell}
noncomputable def less (H : Hp) (fp : List Addr) : Hp := open Classical in fun a => if a ∈ fp then none else H a
noncomputable abbrev Fr.sub (F : Fr) (S H : Hp) (fp : List Addr) : Fr := ⟨F.K, F.mg, less H fp, S⟩
end
inductive M1 where
  | ok (x : Slot) (env : En) | ex (c : Str) (fs : List (Str × D)) (env : En)
noncomputable abbrev WM := En → (M1 → Prop) → Prop
noncomputable def Zy6 (w : WM) : Prop := ∀ env Q Q', (∀ r, Q r → Q' r) → w env Q → w env Q'
noncomputable def LMp (F : Fr) (W : WX) (l : List Cell) (σ : L2.St) (Q : VK) : M1 → Prop
  | .ok x env' => ∀ v H', env'.length = σ.length → (∀ y ∈ env', y.env) → C F ((x, some v) :: (l ++ env'.zip σ)) H' → Q v H'
  | .ex c fs env' => ∀ A d H', F.mg c = some (.ref A) → XF H' d fs → CE F l env' σ H' → W (.ref A) d σ H'
noncomputable def LMTp (F : Fr) (W : WX) (l : List Cell) (σ : L2.St) (Q : Bool → Hp → Prop) : M1 → Prop
  | .ok x env' => ∃ b, x = .sh (.bl b) ∧ ∀ H', CE F l env' σ H' → Q b H'
  | .ex c fs env' => ∀ A d H', F.mg c = some (.ref A) → XF H' d fs → CE F l env' σ H' → W (.ref A) d σ H'
noncomputable def LM (F : Fr) (W : WX) (w : WM) : TE := fun σ H Q => ∃ l env, CE F l env σ H ∧ (∀ p ∈ l, p.1.env) ∧ w env (LMp F W l σ Q)
noncomputable def LMT (F : Fr) (W : WX) (w : WM) : TT := fun σ H Q => ∃ l env, CE F l env σ H ∧ (∀ p ∈ l, p.1.env) ∧ w env (LMTp F W l σ Q)
structure DM (X : Cx) (F : Fr) (W : WX) (e : Expr) (w : WM) : Prop where
  run : PE X e (LM F W w)
  mono : Zy6 w
structure DMT (X : Cx) (F : Fr) (W : WX) (e : Expr) (w : WM) : Prop where
  run : PT X e (LMT F W w)
  mono : Zy6 w
structure DMW (X : Cx) (F : Fr) (W : WX) (e : Expr) (w : WM) : Prop where
  run : PW X e (LMT F W w)
  mono : Zy6 w
noncomputable def mk1 (k : Slot → En → Prop) (Q : M1 → Prop) : M1 → Prop
  | .ok x env => k x env
  | .ex c fs env => Q (.ex c fs env)
section
variable {X : Cx} {F : Fr} {W : WX} {a b e : Expr} {es : List Expr} {we : WE} {wa wb wm : WM} {wA : WA} {pos : Pos}
end
end DL
set_option Elab.async false
set_option linter.all false
set_option maxRecDepth 100000
set_option maxHeartbeats 4000000
namespace DL
open PySem PySem.Spec PyProof.Rows L2
inductive TK : List Nat → En → List Slot → List (Addr × D) → List Slot → En → Prop
  | nil {env : En} {xs : List Slot} : TK [] env xs [] xs env
  | cons {j : Nat} {js : List Nat} {env : En} {a : Addr} {d : D} {xs : List Slot} {ms : List (Addr × D)} {ys : List Slot} {e : En} : env[j]? = some (.na a d) → TK js (env.set j .un) xs ms ys e → TK (j :: js) env (.xc a :: xs) ((a, d) :: ms) ys e
section
variable {F : Fr} {H : Hp} {σ : L2.St}
end
section
variable {F : Fr} {H : Hp} {l : List Cell}
end
section
variable {X : Cx} {F : Fr} {W : WX} {a b c e o : Expr} {es : List Expr} {wa wb wc w : WE} {wA : WA} {pos p : Pos}
end
end DL
set_option Elab.async false
set_option linter.all false
set_option maxRecDepth 100000
set_option maxHeartbeats 4000000
namespace DL
open PySem PySem.Spec PyProof.Rows L2
noncomputable def Zr6 : List Str → Str → Option Nat
  | [], _ => none
  | n :: ns, f => if n = f then some 0 else (Zr6 ns f).map (· + 1)
noncomputable def Z1d : Slot → Option (Str × List Str × List D)
  | .sh (.obj C ns ds) => some (C, ns, ds)
  | .nb (.obj C ns ds) => some (C, ns, ds)
  | .ln _ (.obj C ns ds) => some (C, ns, ds)
  | _ => none
noncomputable def D.partO (nb : Bool) : D → Option Slot
  | .own (.lst ds) => some (cond nb (.bo (.lst ds)) (.bt (.lst ds)))
  | .own (.dk ds) => some (cond nb (.bo (.dk ds)) (.bt (.dk ds)))
  | .own (.dt ds) => some (cond nb (.bo (.dt ds)) (.bt (.dt ds)))
  | .own _ => none
  | d => some (.sh d)
section
variable {F : Fr} {S H : Hp} {l : List Cell}
theorem Zx3 {K : PySem.W.Frag} {o : Option HO} {C : Str} {ns : List Str} {ds : List D} (r : RCn K S H o (.obj C ns ds)) : ∃ Ca dx kvs, o = some (.ins Ca dx kvs) ∧ PySem.W.nsIn K mainGlobals C = some (some (.ref Ca)) ∧ kvs.map Prod.fst = ns ∧ Itns K S H (kvs.map Prod.snd) ds := by
  cases r with
  | flat r => exact r.elim
  | obj n k i => exact ⟨_, _, _, rfl, n, k, i⟩
end
section
variable {X : Cx} {F : Fr} {W : WX} {a b c e o : Expr} {es : List Expr} {wa wb wc w we wo : WE} {wA : WA} {pos p apos : Pos}
end
end DL
set_option Elab.async false
set_option linter.all false
set_option maxRecDepth 100000
set_option maxHeartbeats 4000000
namespace DL
open PySem PySem.Spec PyProof.Rows L2
section
variable {F : Fr} {S S' H H' : Hp} {l : List Cell}
theorem Zbw.like {p q r : Cell} (h : Zbw H p r) (e : fpC H q = fpC H p) (ho : q.1.isOw → p.1.isOw) (hw : q.1.own → p.1.own) : Zbw H q r := by
  unfold Zbw Dj at h ⊢
  rw [e]
  exact ⟨fun a b => h.1 (ho a) b, fun a b => h.2 (hw a) b⟩
end
section
variable {F : Fr} {H : Hp} {l : List Cell} {env : En} {σ : L2.St} {i : Nat}
theorem CE.rest (k : CE F l env σ H) (hl : ∀ p ∈ l, p.1.env) : ∀ p ∈ l ++ (env.zip σ).eraseIdx i, p.1.env := fun p hp => by
  rcases List.mem_append.mp hp with hp | hp
  · exact hl p hp
  · exact k.ok _ (Znx (Znl hp))
end
section
variable {X : Cx} {F : Fr} {W : WX} {a b c e o : Expr} {es : List Expr} {st : Stmt} {sts : List Stmt} {w : WS} {we wo wa : WE} {wA : WA} {wm : WM} {pos p apos : Pos}
end
end DL
set_option Elab.async false
set_option linter.all false
set_option maxRecDepth 100000
set_option maxHeartbeats 4000000
namespace DL
open PySem PySem.Spec PyProof.Rows L2
noncomputable def D.isFlat : D → Prop
  | .lst _ => True
  | .dk _ => True
  | .dt _ => True
  | _ => False
section
variable {F : Fr} {S S' H H' : Hp} {l : List Cell}
end
end DL
set_option Elab.async false
set_option linter.all false
set_option maxRecDepth 100000
set_option maxHeartbeats 4000000
namespace DL
open PySem PySem.Spec PyProof.Rows L2
section
variable {F : Fr} {H : Hp} {l P : List Cell} {env : En} {σ : L2.St} {i j n : Nat}
end
inductive BK where
  | nm (i : Nat) | fl (i : Nat) (C f : Str)
noncomputable def bGet (B : BK) (env : En) (k : D → (Addr → En) → (D → En) → Prop) : Prop := match B with
  | .nm i => (match env[i]? with
    | some (.na a c) => c.isFlat ∧ k c (fun _ => env.set i .un) fun c' => env.set i (.na a c')
    | _ => False)
  | .fl i C f => (match env[i]? with
    | some (.na a (.obj C' ns ds)) => C' = C ∧ (match Zr6 ns f with
      | some n => (match ds[n]? with
        | some (.own c) => c.isFlat ∧ k c (fun b => env.set i (.na a (.obj C' ns (ds.set n (.rf b))))) fun c' => env.set i (.na a (.obj C' ns (ds.set n (.own c'))))
        | _ => False)
      | none => False)
    | _ => False)
structure BaseOk (F : Fr) (tB : TE) (B : BK) : Prop where
  run : ∀ {l : List Cell} {env : En} {σ : L2.St} {H : Hp} {k : D → (Addr → En) → (D → En) → Prop}, CE F l env σ H → (∀ p ∈ l, p.1.env) → bGet B env k → ∃ c out back b, k c out back ∧ c.isFlat ∧ (∀ (l' : List Cell) (H1 : Hp) (Q : VK), CE F l' (out b) σ H1 → Q (.ref b) H1 → tB σ H1 Q) ∧
    CE F ((.na b c, some (.ref b)) :: l) (out b) σ H ∧ ∀ l' c' H', (∀ p ∈ l', p.1.env) → CE F ((.na b c', some (.ref b)) :: l') (out b) σ H' → CE F l' (back c') σ H'
section
variable {B : BK} {we wk : WE}
end
section
variable {X : Cx} {F : Fr} {W : WX} {e e2 o : Expr} {we wk : WE} {B : BK} {tB : TE} {x : Str} {pos p2 apos cpos tpos : Pos}
end
end DL
set_option Elab.async false
set_option linter.all false
set_option maxRecDepth 100000
set_option maxHeartbeats 4000000
namespace DL
open PySem PySem.Spec PyProof.Rows L2
section
variable {X : Cx} {F : Fr} {W : WX} {a b c e o tg : Expr} {es : List Expr} {s1 s2 : List Stmt} {w1 w2 : WS} {we wo : WE} {wA : WA} {wm : WM} {g : WG} {x : Str} {pos p p2 apos : Pos}
theorem C.gr {a : Addr} {o : HO} {l : List Cell} {H : Hp} (h : C F l H) (ha : H a = none) : C F l (upd H a o) := by
  obtain ⟨S, g, c, b⟩ := h
  exact ⟨S, ⟨g.s0, g.sh.trans (Za9 ha), g.h0.trans (Za9 ha), g.fr⟩, fun q hq => (c q hq).grow (Same.refl S) (Za9 ha) fun b hb => .inl hb, Zh7 b c (Za9 ha)⟩
end
end DL
set_option Elab.async false
set_option linter.all false
set_option maxRecDepth 100000
set_option maxHeartbeats 4000000
namespace DL
open PySem PySem.Spec PyProof.Rows L2
section
variable {P : Program} {w : World} {K : PySem.W.Frag} {mg : Str → Option Value} {base : Heap}
end
end DL
set_option Elab.async false
set_option linter.all false
set_option maxRecDepth 100000
set_option maxHeartbeats 4000000
namespace DL
open PySem PySem.Spec PyProof.Rows L2
structure LkE (S S' : Hp) (d : Addr) (kvs : List (L2.Key × V)) : Prop where
  other : ∀ a, a ≠ d → S' a = S a
  l : S d = some (.dK kvs) ∨ ∃ o, S d = some (.frz o (.dK kvs))
  r : S' d = some (.dK kvs) ∨ ∃ o, S' d = some (.frz o (.dK kvs))
section
variable {K : PySem.W.Frag} {S S' : Hp} {d : Addr} {kvs : List (L2.Key × V)}
theorem LkE.symm (h : LkE S S' d kvs) : LkE S' S d kvs := ⟨fun a n => (h.other a n).symm, h.r, h.l⟩
theorem LkE.eq {a : Addr} {u : HO} (h : LkE S S' d kvs) (e : S a = some u) (n1 : ∀ k, u ≠ .dK k) (n2 : ∀ o k, u ≠ .frz o (.dK k)) : S' a = some u := by
  by_cases ha : a = d
  · subst ha
    rcases h.l with z | ⟨o, z⟩
    · rw [z] at e; cases e; exact (n1 _ rfl).elim
    · rw [z] at e; cases e; exact (n2 _ _ rfl).elim
  · rw [h.other a ha]; exact e
theorem LkE.rd {a : Addr} {u : HO} (h : LkE S S' d kvs) (n1 : ∀ k, u ≠ .dK k) (n2 : ∀ o k, u ≠ .frz o (.dK k)) (e : Rd S a u) : Rd S' a u := by
  rcases e with e | ⟨o, e⟩
  · exact .inl (h.eq e n1 n2)
  · exact .inr ⟨o, h.eq e (fun k z => by cases z) (fun o k z => by cases z; exact n1 _ rfl)⟩
theorem LkE.rdK {a : Addr} {k2 : List (L2.Key × V)} (h : LkE S S' d kvs) (e : Rd S a (.dK k2)) : Rd S' a (.dK k2) := by
  by_cases ha : a = d
  · subst ha
    have : k2 = kvs := Z1v e h.l
    rw [this]
    exact h.r
  · rcases e with e | ⟨o, e⟩
    · exact .inl (by rw [h.other a ha]; exact e)
    · exact .inr ⟨o, by rw [h.other a ha]; exact e⟩
theorem LkE.sqL {a : Addr} {vs : List V} (h : LkE S S' d kvs) (e : SqL K S a vs) : SqL K S' a vs := by
  rcases e with e | e
  · exact .inl (h.rd (fun k z => by cases z) (fun o k z => by cases z) e)
  · exact .inr e
mutual
theorem Rep.lk (h : LkE S S' d kvs) : ∀ {v : V} {t : D}, Rep K S v t → Rep K S' v t
  | _, _, .non => .non
  | _, _, .bl => .bl
  | _, _, .int => .int
  | _, _, .str => .str
  | _, _, .tup e r => .tup (h.eq e (fun k z => by cases z) (fun o k z => by cases z)) (Reps.lk h r)
  | _, _, .lst e r => .lst (h.sqL e) (Reps.lk h r)
  | _, _, .dk e k r => .dk (h.rdK e) k (Reps.lk h r)
  | _, _, .dt e k r => .dt (h.eq e (fun k z => by cases z) (fun o k z => by cases z)) k (Reps.lk h r)
  | _, _, .obj e n k r => .obj (h.eq e (fun k z => by cases z) (fun o k z => by cases z)) n k (Reps.lk h r)
  | _, _, .rf => .rf
  | _, _, .fn e => .fn e
theorem Reps.lk (h : LkE S S' d kvs) : ∀ {vs : List V} {ts : List D}, Reps K S vs ts → Reps K S' vs ts
  | _, _, .nil => .nil
  | _, _, .cons r q => .cons (Rep.lk h r) (Reps.lk h q)
end
theorem RC.lk {o : Option HO} {t : D} (h : LkE S S' d kvs) (r : RC K S o t) : RC K S' o t := by
  cases t with
  | lst ds => obtain ⟨vs, e, r⟩ := r; exact ⟨vs, e, r.lk h⟩
  | dk ds => obtain ⟨vs, e, k, r⟩ := r; exact ⟨vs, e, k, r.lk h⟩
  | dt ds => obtain ⟨vs, e, k, r⟩ := r; exact ⟨vs, e, k, r.lk h⟩
  | _ => exact r.elim
mutual
theorem RCn.lk {H H' : Hp} (h : LkE S S' d kvs) (hH : ∀ a, a ≠ d → H' a = H a) : ∀ {o : Option HO} {t : D}, RCn K S H o t → (∀ b ∈ D.inn H t o, b ≠ d) → RCn K S' H' o t
  | _, _, .flat r, _ => .flat (r.lk h)
  | _, _, .tup x r, n => .tup x (Itns.lk h hH r (by simpa only [D.inn] using n))
  | _, _, .obj a k r, n => .obj a k (Itns.lk h hH r (by simpa only [D.inn] using n))
  | _, _, .lso r, n => .lso (Itns.lk h hH r (by simpa only [D.inn] using n))
theorem Itn.lk {H H' : Hp} (h : LkE S S' d kvs) (hH : ∀ a, a ≠ d → H' a = H a) : ∀ {v : V} {t : D}, Itn K S H v t → (∀ b ∈ D.foot H t v, b ≠ d) → Itn K S' H' v t
  | _, _, .sh r, _ => .sh (r.lk h)
  | .ref b, .own t, .ow r, n => by
    have nb : b ≠ d := n b (by simp [D.foot])
    refine .ow ?_
    rw [hH b nb]
    exact RCn.lk h hH r fun c hc => n c (by simp [D.foot, hc])
theorem Itns.lk {H H' : Hp} (h : LkE S S' d kvs) (hH : ∀ a, a ≠ d → H' a = H a) : ∀ {vs : List V} {ts : List D}, Itns K S H vs ts → (∀ b ∈ D.foots H ts vs, b ≠ d) → Itns K S' H' vs ts
  | _, _, .nil, _ => .nil
  | _, _, .cons r q, n => .cons (Itn.lk h hH r fun b hb => n b (by simp only [D.foots]; exact List.mem_append_left _ hb)) (Itns.lk h hH q fun b hb => n b (by simp only [D.foots]; exact List.mem_append_right _ hb))
end
end
noncomputable def D.noOwn : D → Bool
  | .own _ => false
  | _ => true
noncomputable def Zzn : Slot → Prop
  | .bo (.lst _) => True
  | .bo _ => False
  | .nb (.obj _ _ ds) => ds.all D.noOwn = true
  | .nb _ => False
  | .bt _ => False
  | .rt _ _ => False
  | .xe _ _ _ => False
  | _ => True
section
variable {F F' : Fr} {S S' H H' : Hp} {d : Addr} {kvs : List (L2.Key × V)} {l : List Cell}
theorem Zjh {K : PySem.W.Frag} : ∀ {vs : List V} {ds : List D}, Itns K S H vs ds → ds.all D.noOwn = true → D.foots H ds vs = []
  | _, _, .nil, _ => by simp [D.foots]
  | v :: vs, t :: ds, .cons i is, h => by
    simp only [List.all_cons, Bool.and_eq_true] at h
    simp only [D.foots, Zjh is h.2, List.append_nil]
    cases i with
    | sh r => exact rep_foot r
    | ow r => cases h.1
theorem SC.lk {p : Cell} (s : SC F S H p) (h : LkE S S' d kvs) (h2 : LkE H H' d kvs) (ok : Zzn p.1) (hK : F'.K = F.K) (h0 : ∀ a, F'.H0 a = none ↔ F.H0 a = none) : SC F' S' H' p ∧ fpC H' p = fpC H p := by
  have nS : ∀ b, S b = none → b ≠ d := fun b e z => by
    subst z
    rcases h.l with z | ⟨o, z⟩ <;> (rw [z] at e; cases e)
  have nS' : ∀ b, S b = none → S' b = none := fun b e => by rw [h.other b (nS b e)]; exact e
  have fpd : ∀ b ∈ fpC H p, b ≠ d := fun b hb => nS b (Zeo s b hb).2.2
  have ef : fpC H' p = fpC H p := Zev fun a ha => h2.other a (fpd a ha)
  refine ⟨?_, ef⟩
  obtain ⟨x, v⟩ := p
  cases x with
  | un => trivial
  | sh t => obtain ⟨u, e, r⟩ := s; exact ⟨u, e, by rw [hK]; exact r.lk h⟩
  | ow t =>
    obtain ⟨a, rfl, q0, qS, r⟩ := s
    exact ⟨a, rfl, (h0 a).mpr q0, nS' a qS, by rw [hK, h2.other a (nS a qS)]; exact r.lk h⟩
  | bo t =>
    cases t with
    | lst ds =>
      obtain ⟨a, rfl, q0, r⟩ := s
      have na : a ≠ d := fun z => by
        subst z
        obtain ⟨vs, e, _⟩ := r
        rcases h2.l with z | ⟨o, z⟩ <;> (rw [z] at e; cases e)
      exact ⟨a, rfl, fun z => q0 ((h0 a).mp z), by rw [hK, h2.other a na]; exact r.lk h⟩
    | _ => exact ok.elim
  | bt t => exact ok.elim
  | lk a t =>
    obtain ⟨rfl, q0, qS, r⟩ := s
    exact ⟨rfl, (h0 a).mpr q0, nS' a qS, by rw [hK, h2.other a (nS a qS)]; exact r.lk h⟩
  | lo a u t =>
    obtain ⟨rfl, q0, qS, eu, od, k2, e3, k, r⟩ := s
    exact ⟨rfl, (h0 a).mpr q0, nS' a qS, by rw [h2.other a (nS a qS)]; exact eu, od, k2, e3, k, by rw [hK]; exact r.lk h⟩
  | nd t =>
    obtain ⟨a, rfl, r, n, q⟩ := s
    have na : a ≠ d := nS a (q a List.mem_cons_self).2
    have e2 : a :: D.inn H' t (H' a) = a :: D.inn H t (H a) := ef
    exact ⟨a, rfl, by rw [hK, h2.other a na]; exact r.lk h h2.other fun b hb => nS b (q b (List.mem_cons_of_mem _ hb)).2, by rw [e2]; exact n, fun b hb => by rw [e2] at hb; exact ⟨(h0 b).mpr (q b hb).1, nS' b (q b hb).2⟩⟩
  | na a t =>
    obtain ⟨rfl, r, n, q⟩ := s
    have na : a ≠ d := nS a (q a List.mem_cons_self).2
    have e2 : a :: D.inn H' t (H' a) = a :: D.inn H t (H a) := ef
    exact ⟨rfl, by rw [hK, h2.other a na]; exact r.lk h h2.other fun b hb => nS b (q b (List.mem_cons_of_mem _ hb)).2, by rw [e2]; exact n, fun b hb => by rw [e2] at hb; exact ⟨(h0 b).mpr (q b hb).1, nS' b (q b hb).2⟩⟩
  | nb t =>
    cases t with
    | obj C ns ds =>
      obtain ⟨a, rfl, r, q⟩ := s
      obtain ⟨Ca, dx, kv2, eo, nc, k, i⟩ := Zx3 r
      have na : a ≠ d := fun z => by
        subst z
        rcases h2.l with z | ⟨o, z⟩ <;> (rw [z] at eo; cases eo)
      have e1 : D.inn H (.obj C ns ds) (H a) = [] := by rw [eo]; simp only [D.inn]; exact Zjh i ok
      have eH : H' a = H a := h2.other a na
      have e2 : D.inn H' (.obj C ns ds) (H' a) = [] := by
        rw [eH, inn_congr _ _ fun b hb => ?_]
        · exact e1
        · rw [e1] at hb; simp at hb
      refine ⟨a, rfl, by rw [hK, eH]; exact r.lk h h2.other fun b hb => by rw [e1] at hb; simp at hb, fun b hb => ?_⟩
      rw [e2] at hb
      have eb : b = a := by simpa using hb
      rw [eb]
      exact fun z => q a List.mem_cons_self ((h0 a).mp z)
    | _ => exact ok.elim
  | ln fp t =>
    obtain ⟨a, rfl, r, efp, n, q⟩ := s
    have q' : ∀ b ∈ a :: D.inn H t (H a), F.H0 b = none ∧ S b = none := by rw [← efp]; exact q
    have na : a ≠ d := nS a (q' a List.mem_cons_self).2
    have e2 : D.inn H' t (H' a) = D.inn H t (H a) := by rw [h2.other a na]; exact inn_congr _ _ fun b hb => h2.other b (nS b (q' b (List.mem_cons_of_mem _ hb)).2)
    exact ⟨a, rfl, by rw [hK, h2.other a na]; exact r.lk h h2.other fun b hb => nS b (q' b (List.mem_cons_of_mem _ hb)).2, by rw [e2]; exact efp, n, fun b hb => ⟨(h0 b).mpr (q b hb).1, nS' b (q b hb).2⟩⟩
  | xc a => exact s
  | xe _ _ _ => exact ok.elim
  | rt _ _ => exact ok.elim
noncomputable def lkAt (H : Hp) (d : Addr) (u : HO) : Hp := open Classical in fun a => if a = d ∧ H a ≠ none then some u else H a
noncomputable abbrev Fr.lock (F : Fr) (S : Hp) (d : Addr) (u : HO) : Fr := ⟨F.K, F.mg, lkAt F.H0 d u, lkAt S d u⟩
end
end DL
set_option Elab.async false
set_option linter.all false
set_option maxRecDepth 100000
set_option maxHeartbeats 4000000
namespace DL
open PySem PySem.Spec PyProof.Rows L2
noncomputable def LS0 (F : Fr) (W : WX) (w : WS) : TS := fun D σ H => ∃ env, CE F [] env σ H ∧ w env (LSp F W [] D)
structure DS0 (X : Cx) (F : Fr) (W : WX) (st : Stmt) (w : WS) : Prop where
  run : PS X st (LS0 F W w)
  mono : Zbi w
structure DSs0 (X : Cx) (F : Fr) (W : WX) (sts : List Stmt) (w : WS) : Prop where
  run : PSs X sts (LS0 F W w)
  mono : Zbi w
section
variable {X : Cx} {F : Fr} {W : WX} {st : Stmt} {sts : List Stmt} {w w1 w2 : WS} {e tg : Expr} {pos : Pos} {g : WG}
end
inductive PathK where
  | fl (i : Nat) (C f : Str) | it (i n : Nat)
noncomputable def Z18 (P : PathK) (env : En) (k : List (L2.Key × D) → Prop) : Prop := match P with
  | .fl i C f => (match env[i]? with
    | some x => (match Z1d x with
      | some (C', ns, ds) => C' = C ∧ (match Zr6 ns f with
        | some n => (match ds[n]? with
          | some (.dk kds) => k kds
          | _ => False)
        | none => False)
      | none => False)
    | none => False)
  | .it i n => (match env[i]? with
    | some (.sh (.tup ds)) => (match ds[n]? with
      | some (.dk kds) => k kds
      | _ => False)
    | _ => False)
structure PathOk (F : Fr) (td : TE) (P : PathK) : Prop where
  run : ∀ {env : En} {σ : L2.St} {H : Hp} {k : List (L2.Key × D) → Prop}, CE F [] env σ H → Z18 P env k → ∃ kds d kvs, k kds ∧ Rd H d (.dK kvs) ∧ kvs.map Prod.fst = kds.map Prod.fst ∧
    (∀ S, GS F S H → (∀ p ∈ env.zip σ, SC F S H p) → Rd S d (.dK kvs) ∧ Reps F.K S (kvs.map Prod.snd) (kds.map Prod.snd)) ∧ ∀ H' (Q : VK), LkE H H' d kvs → Q (.ref d) H' → td σ H' Q
section
variable {F : Fr} {d : Addr} {od : Obj} {kvs : List (L2.Key × V)} {kds : List (L2.Key × D)}
end
section
variable {X : Cx} {F : Fr} {W : WX} {e tg iter : Expr} {body : List Stmt} {w : WS} {g : WG} {pos : Pos}
end
section
variable {P : Program} {w : World} {K : PySem.W.Frag} {mg : Str → Option Value} {base : Heap}
end
end DL
set_option Elab.async false
set_option linter.all false
set_option maxRecDepth 100000
set_option maxHeartbeats 4000000
namespace DL
open PySem PySem.Spec PyProof.Rows L2
structure GDictF (K : PySem.W.Frag) (w : World) (mg : Str → Option Value) (x : Str) (tab : List (Str × Str)) : Prop where
  ex : ∃ a, mg x = some (.ref a) ∧ ∀ p ∈ tab, ∃ f, KDct K w a p.1 (.ref f) ∧ PySem.W.nsIn K mainGlobals p.2 = some (some (.ref f))
section
variable {X : Cx} {F : Fr} {W : WX} {e : Expr} {es : List Expr} {wA : WA} {x : Str} {pos p : Pos}
end
end DL
set_option Elab.async false
set_option linter.all false
set_option maxRecDepth 100000
set_option maxHeartbeats 4000000
namespace DL
open PySem PySem.Spec PyProof.Rows L2
noncomputable abbrev Zld := Value × Option Nat × (Addr → Value → Option Addr → TS)
noncomputable def Zzw (D : Ends) (i : Nat) : Ends := { nx := fun τ G => D.nx (τ.set i none) G, rt := D.rt, bk := fun τ G => D.bk (τ.set i none) G, ct := fun τ G => D.ct (τ.set i none) G }
noncomputable def wMix (K : PySem.W.Frag) (Wout : WX) (D : Ends) : List Zld → WX
  | [] => Wout
  | q :: r => fun cls d τ G => ∃ b, PySem.W.exmOne K cls q.1 = some b ∧
      (b = true → ∀ a, G a = none → match q.2.1 with
        | none => q.2.2 a cls d D τ G
        | some i => q.2.2 a cls d (Zzw D i) (τ.set i (some (.ref a))) G) ∧
      (b = false → wMix K Wout D r cls d τ G)
inductive MixOk (X : Cx) : List ExceptHandler → List Zld → Prop
  | nil : MixOk X [] []
  | plain {x : Str} {c : Value} {ts : Addr → Value → Option Addr → TS} {st : Stmt} {sts : List Stmt} {np ps : Pos} {hds : List ExceptHandler} {l : List Zld} (hc : Names X x c)
      (hsu : ∀ (a : Addr) (oe : Obj) (cls : Value) (d : Option Addr) (pn : List (Addr × Obj)), Zc cls d oe → (∃ vs, oe.data = .fields vs) → PSs (X.suite a ((a, oe) :: pn)) (st :: sts) (ts a cls d)) (r : MixOk X hds l) :
      MixOk X (.ExceptHandler (some (.Name x np)) none (st :: sts) ps :: hds) ((c, none, ts) :: l)
  | named {x n : Str} {i : Nat} {c : Value} {ts : Addr → Value → Option Addr → TS} {st : Stmt} {sts : List Stmt} {np ps : Pos} {hds : List ExceptHandler} {l : List Zld} (hc : Names X x c) (hi : X.N[i]? = some n) (hln : X.env.kindOf n = some .local)
      (hsu : ∀ (a : Addr) (oe : Obj) (cls : Value) (d : Option Addr) (pn : List (Addr × Obj)), Zc cls d oe → (∃ vs, oe.data = .fields vs) → PSs (X.suite a ((a, oe) :: pn)) (st :: sts) (ts a cls d)) (r : MixOk X hds l) :
      MixOk X (.ExceptHandler (some (.Name x np)) (some n) (st :: sts) ps :: hds) ((c, some i, ts) :: l)
section
variable {X : Cx} {body : List Stmt} {hd0 : ExceptHandler} {hds : List ExceptHandler} {l : List Zld} {pos : Pos} {tb : WX → TS} {Wout : WX}
theorem Zrw (hs : X.stack = X.env :: X.outer) (hf : X.env.frame = some X.env.locals) (hN : X.N.Nodup) (tk : Takes X Wout)
    (hb : ∀ (W : WX) (pn : List (Addr × Obj)) (xe : Value → Shared → Prop), Takes (X.tr pn xe) W → PassesOwn (model X.prog X.w) X.A X.env xe → PSs (X.tr pn xe) body (tb W))
    (hh : MixOk X (hd0 :: hds) l) : PS X (.Try body (hd0 :: hds) [] [] pos) (fun D τ G => tb (wMix X.K Wout D l) D τ G) := by
  refine ⟨fun pins sh τ G D inv wish => ?_⟩
  have frs0 : X.A.frames = some (X.env :: X.outer) := by rw [inv.ok.frames, hs]
  refine wpAny_Try_except (wpAny_mono ((hb (wMix X.K Wout D l) (X.pn ++ pins) (fun e z1 => wpAny (model X.prog X.w) X.A (noteFrame e X.env) (fun _ z2 =>
    wpAny (model X.prog X.w) X.A (setFlight e none) (fun _ z3 => wpAny (model X.prog X.w) X.A (handleBy e X.env (hd0 :: hds)) (SP X pins D) X.xe z3) X.xe z2) X.xe z1)
    (fun u after x => ?_) PassesOwn.looking).run [] sh τ G D (inv.toTry _) wish) (fun fl z ends => ?_) fun _ _ q => q)
  · -- what left the body is caught, or goes on
    obtain ⟨a, B, shI, pins2, τ2, G2, cls, d, rfl, invT, nb, up, sky, fresh, os, ag, wish2⟩ := x
    have inv2 : Inv X pins τ2 G2 shI := invT.ofTry inv.ok
    show wpAny (model X.prog X.w) X.A (noteFrame (.ref a) X.env) _ _ _
    refine Sky.land Zc.steady frs0 hf (by rw [← hs]; exact sky) fun h3 land up3 => ?_
    have inv3 : Inv X pins τ2 G2 { after with heap := h3 } := inv2.landed nb land.1 (up.trans up3) os ag
    obtain ⟨oe3, vs3, at3, z3, dat3⟩ := land.there
    have apart : a ∉ frs (X.env :: X.outer) := fun hm => by
      obtain ⟨_, o, e, no⟩ := land.2.2.1.mem hm
      rw [at3] at e
      cases e
      exact no _ dat3
    have notL : a ≠ X.env.locals := fun z => apart (List.mem_filterMap.mpr ⟨X.env, List.mem_cons_self, by rw [hf, z]⟩)
    have notF : a ∉ X.fs := fun hm => by
      obtain ⟨e, he, q⟩ := List.mem_filterMap.mp hm
      exact apart (List.mem_filterMap.mpr ⟨e, List.mem_cons_of_mem _ he, q⟩)
    have suite3 := inv3.suite at3 dat3 fresh notL notF
    have looks : PySem.W.Looks (model X.prog X.w) h3 (typeOf (.ref a)) cls := fun A Q E s k q => wpAny_typeOf_ref (k _ _ at3) (by rw [z3.1]; exact q)
    have named : ∀ {x : Str} {np : Pos} {c : Value}, Names X x c → ∀ {Q : Value → Shared → Prop} {E : Value → Shared → Prop}, Q c { after with heap := h3 } → wpAny (model X.prog X.w) (X.A.mark (some (.ref a))) (eval (.Name x np) X.env) Q E { after with heap := h3 } := fun {x np c} hc {Q E} q => by
      obtain ⟨hg, hdb, hm | ⟨hm, hv, hn⟩⟩ := hc
      · exact ld_glob (X := X.suite a ((a, oe3) :: (X.pn ++ pins))) suite3 hg hm q hdb
      · exact ld_blt (X := X.suite a ((a, oe3) :: (X.pn ++ pins))) suite3 hg hm hv q hn hdb
    have steps : ∀ {hds' : List ExceptHandler} {l' : List Zld}, MixOk X hds' l' → wMix X.K Wout D l' cls d τ2 G2 → wpAny (model X.prog X.w) X.A (handleBy (.ref a) X.env hds') (SP X pins D) X.xe { after with heap := h3 } := by
      intro hds' l' ok'
      induction ok' with
      | nil =>
        intro w0
        refine wpAny_handleBy_nil ?_
        obtain ⟨_, _, _, oe, vs, T, oT, _, he, hz, hdt, h1, _⟩ := id land
        unfold PySem.passOn
        refine wpAny_bind (wpAny_field he hdt h1 ?_)
        rw [if_neg (show ¬ ((Value.ref T == Value.none) = true) from by simp)]
        have leave : wpAny (model X.prog X.w) X.A (setFlight (.ref a) X.env.frame) (fun _ z4 => wpAny (model X.prog X.w) X.A (throw (.ref a) : Sem Flow) (SP X pins D) X.xe z4) X.xe { after with heap := h3 } := by
          rw [hf]
          exact HandSPX.setFlight_upZ land fun h4 hh4 up4 => wpAny_throw (tk _ _ ⟨a, B, shI, pins, τ2, G2, cls, d, rfl, inv2, nb, (up.trans up3).trans up4, .inr (.inr (by rw [hs]; exact hh4)), fresh, os, ag, w0⟩)
        first
          | exact wpAny_bind (wpAny_pure (wpAny_bind leave))
          | exact wpAny_bind leave
      | @plain x c ts st sts np ps hds2 l2 hc hsu r ih =>
        intro w0
        obtain ⟨b, eb, yes, no⟩ := w0
        refine wpAny_handleBy_cons (codeAny_handlers_test ?_) (by intro q; cases q)
        refine named hc ((PySem.W.exm_one (M := model X.prog X.w) inv3.kIn looks eb).here ?_)
        cases b with
        | false => exact ih (no rfl)
        | true =>
          refine codeAny_handlers_suite (HandSPX.lands_againZ land fun h4 land4 up4 => ?_)
          have inv4 : Inv X pins τ2 G2 { after with heap := h4 } := inv2.landed nb land4.1 ((up.trans up3).trans up4) os ag
          obtain ⟨oe4, vs4, at4, z4, dat4⟩ := land4.there
          refine wpAny_mono ((hsu a oe4 cls d (X.pn ++ pins) z4 ⟨_, dat4⟩).run [] _ _ G2 _ (inv4.suite at4 dat4 fresh notL notF) (yes rfl a fresh)) (fun fl z ends => ?_) fun _ _ q => q.elim
          cases fl with
          | ret u => obtain ⟨v, τ6, G6, i6, r6, q6⟩ := ends; exact ⟨_, _, _, i6.unsuite inv.ok, r6, q6⟩
          | next => obtain ⟨τ6, G6, i6, q6⟩ := ends; exact ⟨_, _, i6.unsuite inv.ok, q6⟩
          | brk => obtain ⟨τ6, G6, i6, q6⟩ := ends; exact ⟨_, _, i6.unsuite inv.ok, q6⟩
          | cont => obtain ⟨τ6, G6, i6, q6⟩ := ends; exact ⟨_, _, i6.unsuite inv.ok, q6⟩
      | @named x n i c ts st sts np ps hds2 l2 hc hi hln hsu r ih =>
        intro w0
        obtain ⟨b, eb, yes, no⟩ := w0
        refine wpAny_handleBy_cons (codeAny_handlers_test ?_) (by intro q; cases q)
        refine named hc ((PySem.W.exm_one (M := model X.prog X.w) inv3.kIn looks eb).here ?_)
        cases b with
        | false => exact ih (no rfl)
        | true =>
          refine codeAny_handlers_suite_as (HandSPX.lands_againZ land fun h4 land4 up4 => ?_)
          have inv4 : Inv X pins τ2 G2 { after with heap := h4 } := inv2.landed nb land4.1 ((up.trans up3).trans up4) os ag
          obtain ⟨oe4, vs4, at4, z4, dat4⟩ := land4.there
          refine store_ok (X := X.suite a ((a, oe4) :: (X.pn ++ pins))) (v := .ref a) (inv4.suite at4 dat4 fresh notL notF) hN hi (.inl hln) rfl (fun z5 i5 => ?_) (.inr hln)
          refine wpAny_mono ((hsu a oe4 cls d (X.pn ++ pins) z4 ⟨_, dat4⟩).run [] z5 _ G2 _ i5 (yes rfl a fresh)) (fun fl z ends => ?_) fun _ _ q => q.elim
          have unbind : ∀ {τ6 : L2.St} {G6 : Hp} {Q : Shared → Prop}, Inv (X.suite a ((a, oe4) :: (X.pn ++ pins))) [] τ6 G6 z → (∀ z7, Inv X pins (τ6.set i none) G6 z7 → Q z7) →
              wpAny (model X.prog X.w) X.A (do bindName X.env n .none; unbindBehindTheSuite X.env n ps) (fun _ z7 => Q z7) X.xe z := fun {τ6 G6 Q} i6 hq => gone_ok (i6.unsuite inv.ok) hN hi hln hq
          cases fl with
          | ret u => obtain ⟨v, τ6, G6, i6, r6, q6⟩ := ends; exact unbind i6 fun z7 i7 => ⟨_, _, _, i7, r6, q6⟩
          | next => obtain ⟨τ6, G6, i6, q6⟩ := ends; exact unbind i6 fun z7 i7 => ⟨_, _, i7, q6⟩
          | brk => obtain ⟨τ6, G6, i6, q6⟩ := ends; exact unbind i6 fun z7 i7 => ⟨_, _, i7, q6⟩
          | cont => obtain ⟨τ6, G6, i6, q6⟩ := ends; exact unbind i6 fun z7 i7 => ⟨_, _, i7, q6⟩
    exact steps hh wish2
  · cases fl with
    | ret u => obtain ⟨v, τ2, G2, i2, r, q⟩ := ends; exact ⟨v, τ2, G2, i2.ofTry inv.ok, r, q⟩
    | next => obtain ⟨τ2, G2, i2, q⟩ := ends; exact wpAny_execs_nil ⟨τ2, G2, i2.ofTry inv.ok, q⟩
    | brk => obtain ⟨τ2, G2, i2, q⟩ := ends; exact ⟨τ2, G2, i2.ofTry inv.ok, q⟩
    | cont => obtain ⟨τ2, G2, i2, q⟩ := ends; exact ⟨τ2, G2, i2.ofTry inv.ok, q⟩
end
end DL
set_option Elab.async false
set_option linter.all false
set_option maxRecDepth 100000
set_option maxHeartbeats 4000000
namespace DL
open PySem PySem.Spec PyProof.Rows L2
section
variable {F : Fr} {H : Hp} {l : List Cell}
theorem Z2d {S : Hp} {p : Cell} {dd : Addr} {fs : List (Str × V)} (s : SC F S H p) (h : H dd = some (.xd fs)) : dd ∉ fpC H p := fun hb => by
  have rc : ∀ {K : PySem.W.Frag} {d : D}, ¬ RC K S (H dd) d := fun {K d} r => by
    rw [h] at r
    cases d with
    | lst ds => obtain ⟨_, e, _⟩ := r; cases e
    | dk ds => obtain ⟨_, e, _⟩ := r; cases e
    | dt ds => obtain ⟨_, e, _⟩ := r; cases e
    | _ => exact r
  have rcn : ∀ {K : PySem.W.Frag} {d : D}, ¬ RCn K S H (H dd) d := fun {K d} r => by
    generalize e : H dd = o at r
    cases r with
    | flat r => exact rc (by rw [e]; exact r)
    | tup _ _ => rw [h] at e; cases e
    | obj _ _ _ => rw [h] at e; cases e
    | lso _ => rw [h] at e; cases e
  -- no place of an own thing holds an exception's fields
  have inn : (∀ {K : PySem.W.Frag} {o : Option HO} {d : D}, RCn K S H o d → dd ∉ D.inn H d o) := by
    intro K o d r
    refine @RCn.rec K S H (fun o d _ => dd ∉ D.inn H d o) (fun v d _ => dd ∉ D.foot H d v) (fun vs ds _ => dd ∉ D.foots H ds vs) ?_ ?_ ?_ ?_ ?_ ?_ ?_ ?_ o d r
    · intro o d r; rw [r.inn]; simp
    · intro vs ds _ _ ih; simpa only [D.inn] using ih
    · intro Ca dx C kvs ns ds _ _ _ ih; simpa only [D.inn] using ih
    · intro vs ds _ ih; simpa only [D.inn] using ih
    · intro v d r; rw [rep_foot r]; simp
    · intro b d r ih hm
      simp only [D.foot, List.mem_cons] at hm
      rcases hm with rfl | hm
      · exact rcn r
      · exact ih hm
    · simp [D.foots]
    · intro v d vs ds _ _ h1 h2 hm
      simp only [D.foots, List.mem_append] at hm
      exact hm.elim h1 h2
  obtain ⟨x, v⟩ := p
  cases x with
  | ow d =>
    obtain ⟨a, rfl, _, _, r⟩ := s
    obtain rfl : dd = a := by simpa [fpC] using hb
    exact rc r
  | lk a d =>
    obtain ⟨rfl, _, _, r⟩ := s
    obtain rfl : dd = a := by simpa [fpC] using hb
    exact rc r
  | lo a u d =>
    obtain ⟨rfl, _, _, eu, od, k, e3, _⟩ := s
    obtain rfl : dd = a := by simpa [fpC] using hb
    have e4 : u = .frz od (.dK k) := by simpa using e3
    rw [eu, e4] at h; cases h
  | nd d =>
    obtain ⟨a, rfl, r, _⟩ := s
    rcases List.mem_cons.mp (show dd ∈ a :: D.inn H d (H a) from hb) with rfl | hb
    · exact rcn r
    · exact inn r hb
  | na a d =>
    obtain ⟨rfl, r, _⟩ := s
    rcases List.mem_cons.mp (show dd ∈ a :: D.inn H d (H a) from hb) with rfl | hb
    · exact rcn r
    · exact inn r hb
  | ln fp d =>
    obtain ⟨a, rfl, r, ef, _⟩ := s
    have hb : dd ∈ fp := hb
    rw [ef] at hb
    rcases List.mem_cons.mp hb with rfl | hb
    · exact rcn r
    · exact inn r hb
  | _ => simp [fpC] at hb
theorem C.xe {a dd : Addr} {ns : List (Str × Int)} (h : C F l H) (hd : H dd = some (.xd (ns.map fun p => (p.1, V.int p.2)))) : C F ((.xe a dd ns, some (.ref a)) :: l) H := by
  obtain ⟨S, g, cc, pw⟩ := h
  by_cases h0 : F.H0 dd = none
  · cases hS : S dd with
    | some u =>
      have := g.sh _ _ hS
      rw [hd] at this
      cases this
      refine ⟨S, g, fun p hp => ?_, Zbh (fun z => z) pw⟩
      rcases List.mem_cons.mp hp with rfl | hp
      · exact ⟨rfl, .inl hS⟩
      · exact cc p hp
    | none =>
      refine ⟨upd S dd _, g.frz hS h0 hd, fun p hp => ?_, Zbh (fun z => z) pw⟩
      rcases List.mem_cons.mp hp with rfl | hp
      · exact ⟨rfl, .inl upd_same⟩
      · exact (cc p hp).frz hS (Z2d (cc p hp) hd)
  · refine ⟨S, g, fun p hp => ?_, Zbh (fun z => z) pw⟩
    rcases List.mem_cons.mp hp with rfl | hp
    · refine ⟨rfl, .inr ?_⟩
      cases e : F.H0 dd with
      | none => exact (h0 e).elim
      | some u =>
        have := g.h0 _ _ e
        rw [hd] at this
        exact this.symm
    · exact cc p hp
end
inductive HK where
  | pl (ws : WS) | nm (i : Nat) (ws : Addr → Str → WS) | nf (i : Nat) (ws : Addr → Addr → Str → List (Str × Int) → WS)
noncomputable def hkW (h : HK) (c : Str) (fs : List (Str × D)) (e : En) (Q : O → Prop) : Prop := match h with
  | .pl ws => ws e (noEx Q)
  | .nm i ws => i < e.length ∧ ∀ a, ws a c (e.set i (.xc a)) (unX i Q)
  | .nf i ws => i < e.length ∧ ∃ ns : List (Str × Int), fs = ns.map (fun p => (p.1, D.int p.2)) ∧ ns ≠ [] ∧ ∀ a dd, ws a dd c ns (e.set i (.xe a dd ns)) (unX i Q)
noncomputable def HK.mono : HK → Prop
  | .pl ws => Zbi ws
  | .nm _ ws => ∀ a c, Zbi (ws a c)
  | .nf _ ws => ∀ a dd c ns, Zbi (ws a dd c ns)
noncomputable def hndM : List (List (Str × Bool) × HK) → (O → Prop) → O → Prop
  | [], Q, o => Q o
  | q :: r, Q, .ex c fs e => match Zra q.1 c with
    | some true => hkW q.2 c fs e Q
    | some false => hndM r Q (.ex c fs e)
    | none => False
  | _ :: _, Q, o => Q o
noncomputable def Zu9 (hs : List (List (Str × Bool) × HK)) (wb : WS) : WS := fun env Q => wb env (hndM hs Q)
theorem Zuw {h : HK} (hm : h.mono) {c : Str} {fs : List (Str × D)} {e : En} {Q Q' : O → Prop} (m : ∀ o, Q o → Q' o) (z : hkW h c fs e Q) : hkW h c fs e Q' := by
  cases h with
  | pl ws => exact hm _ _ _ (Ztb m) z
  | nm i ws => exact ⟨z.1, fun a => hm a c _ _ _ (Zqt m) (z.2 a)⟩
  | nf i ws =>
    obtain ⟨hi, ns, e1, e2, z⟩ := z
    exact ⟨hi, ns, e1, e2, fun a dd => hm a dd c ns _ _ _ (Zqt m) (z a dd)⟩
theorem Zmu : ∀ {hs : List (List (Str × Bool) × HK)}, (∀ q ∈ hs, q.2.mono) → ∀ {Q Q' : O → Prop}, (∀ o, Q o → Q' o) → ∀ o, hndM hs Q o → hndM hs Q' o
  | [], _, _, _, m, o, z => m o z
  | q :: r, hm, Q, Q', m, o, z => by
    cases o with
    | ex c fs e =>
      dsimp only [hndM] at z ⊢
      split at z
      · exact Zuw (hm q List.mem_cons_self) m z
      · exact Zmu (fun p hp => hm p (List.mem_cons_of_mem _ hp)) m _ z
      · exact z.elim
    | nx e => exact m _ z
    | ret x => exact m _ z
    | bk e => exact m _ z
    | ct e => exact m _ z
theorem Zxf {hs : List (List (Str × Bool) × HK)} {wb : WS} (hm : ∀ q ∈ hs, q.2.mono) (hb : Zbi wb) : Zbi (Zu9 hs wb) := fun env Q Q' m z => hb _ _ _ (Zmu hm m) z
inductive HksOk (X : Cx) (F : Fr) : List ExceptHandler → List (List (Str × Bool) × HK) → Prop
  | nil : HksOk X F [] []
  | pl {x : Str} {tab : List (Str × Bool)} {ws : WS} {st : Stmt} {sts : List Stmt} {np ps : Pos} {hds : List ExceptHandler} {r : List (List (Str × Bool) × HK)} (hx : ∃ C, F.mg x = some (.ref C)) (ht : ∀ p ∈ tab, Zmj F.K F.mg x p.1 p.2) (hg : Gl X x) (hd : (x == ("__debug__" : Str)) = false)
      (hsu : ∀ (a : Addr) (pn : List (Addr × Obj)), DSs (X.suite a pn) F W0 (st :: sts) ws) (ms : Zbi ws) (rest : HksOk X F hds r) : HksOk X F (.ExceptHandler (some (.Name x np)) none (st :: sts) ps :: hds) ((tab, .pl ws) :: r)
  | nm {x n : Str} {i : Nat} {tab : List (Str × Bool)} {ws : Addr → Str → WS} {st : Stmt} {sts : List Stmt} {np ps : Pos} {hds : List ExceptHandler} {r : List (List (Str × Bool) × HK)} (hx : ∃ C, F.mg x = some (.ref C)) (ht : ∀ p ∈ tab, Zmj F.K F.mg x p.1 p.2) (hg : Gl X x) (hd : (x == ("__debug__" : Str)) = false)
      (hi : X.N[i]? = some n) (hln : X.env.kindOf n = some .local)
      (hsu : ∀ (a A : Addr) (d : Option Addr) (oe : Obj) (c : Str) (pn : List (Addr × Obj)), F.mg c = some (.ref A) → (c, true) ∈ tab → Zc (.ref A) d oe → (∃ vs, oe.data = .fields vs) → DSs (X.suite a ((a, oe) :: pn)) F W0 (st :: sts) (ws a c)) (ms : ∀ a c, Zbi (ws a c)) (rest : HksOk X F hds r) :
      HksOk X F (.ExceptHandler (some (.Name x np)) (some n) (st :: sts) ps :: hds) ((tab, .nm i ws) :: r)
  | nf {x n : Str} {i : Nat} {tab : List (Str × Bool)} {ws : Addr → Addr → Str → List (Str × Int) → WS} {st : Stmt} {sts : List Stmt} {np ps : Pos} {hds : List ExceptHandler} {r : List (List (Str × Bool) × HK)} (hx : ∃ C, F.mg x = some (.ref C)) (ht : ∀ p ∈ tab, Zmj F.K F.mg x p.1 p.2) (hg : Gl X x) (hd : (x == ("__debug__" : Str)) = false)
      (hi : X.N[i]? = some n) (hln : X.env.kindOf n = some .local)
      (hsu : ∀ (a A dd : Addr) (oe : Obj) (c : Str) (ns : List (Str × Int)) (pn : List (Addr × Obj)), F.mg c = some (.ref A) → (c, true) ∈ tab → Zc (.ref A) (some dd) oe → (∃ vs, oe.data = .fields vs) → DSs (X.suite a ((a, oe) :: pn)) F W0 (st :: sts) (ws a dd c ns)) (ms : ∀ a dd c ns, Zbi (ws a dd c ns)) (rest : HksOk X F hds r) :
      HksOk X F (.ExceptHandler (some (.Name x np)) (some n) (st :: sts) ps :: hds) ((tab, .nf i ws) :: r)
section
variable {X : Cx} {F : Fr} {W : WX} {body : List Stmt} {hd0 : ExceptHandler} {hds : List ExceptHandler} {r : List (List (Str × Bool) × HK)} {pos : Pos} {wb : WS}
theorem HksOk.mono : ∀ {hds : List ExceptHandler} {r : List (List (Str × Bool) × HK)}, HksOk X F hds r → ∀ q ∈ r, q.2.mono
  | _, _, .nil, q, h => by simp at h
  | _, _, .pl _ _ _ _ _ ms rest, q, h => (List.mem_cons.mp h).elim (fun e => by rw [e]; exact ms) (rest.mono q)
  | _, _, .nm _ _ _ _ _ _ _ ms rest, q, h => (List.mem_cons.mp h).elim (fun e => by rw [e]; exact ms) (rest.mono q)
  | _, _, .nf _ _ _ _ _ _ _ ms rest, q, h => (List.mem_cons.mp h).elim (fun e => by rw [e]; exact ms) (rest.mono q)
theorem Zia {tab : List (Str × Bool)} {x c : Str} {A C : Addr} {b : Bool} (ht : ∀ p ∈ tab, Zmj F.K F.mg x p.1 p.2) (hC : F.mg x = some (.ref C)) (hA : F.mg c = some (.ref A)) (hb : Zra tab c = some b) : PySem.W.exmOne F.K (.ref A) (.ref C) = some b := by
  obtain ⟨A', C', e1, e2, e3⟩ := ht _ (Zkn hb)
  rw [hA] at e1
  rw [hC] at e2
  cases e1; cases e2
  exact e3
theorem Zly (hK : X.K = F.K) (hM : X.mg = F.mg) : ∀ {hds : List ExceptHandler} {r : List (List (Str × Bool) × HK)}, HksOk X F hds r → ∃ cl, MixOk X hds cl ∧ ∀ (l : List Cell) (Dn : Ends), (∀ p ∈ l, p.1.env) → ∀ (c : Str) (fs : List (Str × D)) (e : En) (A : Addr) (d : Option Addr) (σ : L2.St) (H : Hp),
    hndM r (LSp F W l Dn) (.ex c fs e) → F.mg c = some (.ref A) → XF H d fs → CE F l e σ H → wMix X.K W Dn cl (.ref A) d σ H
  | _, _, .nil => ⟨[], .nil, fun l Dn hl c fs e A d σ H z hA hx k => z A d σ H hA hx k⟩
  | _, _, .pl (x := x) (tab := tab) (ws := ws) hx ht hg hd hsu ms rest => by
    obtain ⟨C, hC⟩ := hx
    obtain ⟨cl, h1, h2⟩ := Zly hK hM rest
    refine ⟨(.ref C, none, fun _ _ _ => LS F W0 ws) :: cl, .plain (Zlh (tab := tab) hM hC hg hd) (fun a oe cls d pn _ _ => (hsu a _).run) h1, fun l Dn hl c fs e A d σ H z hA hx k => ?_⟩
    dsimp only [hndM] at z
    split at z
    · rename_i ht1
      refine ⟨true, by rw [hK]; exact Zia ht hC hA ht1, fun _ a _ => ⟨l, e, k, hl, ms _ _ _ (fun o z => ?_) z⟩, fun h => by cases h⟩
      cases o with
      | ex c fs e => exact z.elim
      | _ => exact z
    · rename_i ht1
      exact ⟨false, by rw [hK]; exact Zia ht hC hA ht1, (fun h => by cases h), fun _ => h2 l Dn hl c fs e A d σ H z hA hx k⟩
    · exact z.elim
  | _, _, .nm (x := x) (i := i) (tab := tab) (ws := ws) hx ht hg hd hi hln hsu ms rest => by
    obtain ⟨C, hC⟩ := hx
    obtain ⟨cl, h1, h2⟩ := Zly hK hM rest
    refine ⟨(.ref C, some i, fun a cls d => fun D σ H => ∃ c A, cls = .ref A ∧ F.mg c = some (.ref A) ∧ (c, true) ∈ tab ∧ LS F W0 (ws a c) D σ H) :: cl, .named (Zlh (tab := tab) hM hC hg hd) hi hln (fun a oe cls d pn hz hv => ⟨fun pins s σ H D I h => ?_⟩) h1, fun l Dn hl c fs e A d σ H z hA hx k => ?_⟩
    · obtain ⟨c, A, rfl, hA, ht1, h⟩ := h
      exact (hsu a A d oe c pn hA ht1 hz hv).run.run pins s σ H D I h
    · dsimp only [hndM] at z
      split at z
      · rename_i ht1
        obtain ⟨hi', z⟩ := z
        refine ⟨true, by rw [hK]; exact Zia ht hC hA ht1, fun _ a _ => ⟨c, A, rfl, hA, Zkn ht1, l, _, k.xc (a := a) hi', hl, ms _ _ _ _ _ (fun o z => ?_) (z a)⟩, fun h => by cases h⟩
        cases o with
        | nx e => exact fun σ2 H2 k2 => z _ H2 (k2.un i none)
        | bk e => exact fun σ2 H2 k2 => z _ H2 (k2.un i none)
        | ct e => exact fun σ2 H2 k2 => z _ H2 (k2.un i none)
        | ret v => exact z
        | ex c fs e => exact z.elim
      · rename_i ht1
        exact ⟨false, by rw [hK]; exact Zia ht hC hA ht1, (fun h => by cases h), fun _ => h2 l Dn hl c fs e A d σ H z hA hx k⟩
      · exact z.elim
  | _, _, .nf (x := x) (i := i) (tab := tab) (ws := ws) hx ht hg hd hi hln hsu ms rest => by
    obtain ⟨C, hC⟩ := hx
    obtain ⟨cl, h1, h2⟩ := Zly hK hM rest
    refine ⟨(.ref C, some i, fun a cls d => fun D σ H => ∃ c A dd ns, cls = .ref A ∧ d = some dd ∧ F.mg c = some (.ref A) ∧ (c, true) ∈ tab ∧ LS F W0 (ws a dd c ns) D σ H) :: cl, .named (Zlh (tab := tab) hM hC hg hd) hi hln (fun a oe cls d pn hz hv => ⟨fun pins s σ H D I h => ?_⟩) h1, fun l Dn hl c fs e A d σ H z hA hx k => ?_⟩
    · obtain ⟨c, A, dd, ns, rfl, rfl, hA, ht1, h⟩ := h
      exact (hsu a A dd oe c ns pn hA ht1 hz hv).run.run pins s σ H D I h
    · dsimp only [hndM] at z
      split at z
      · rename_i ht1
        obtain ⟨hi', ns, efs, ens, z⟩ := z
        have hdd : ∃ dd, d = some dd ∧ H dd = some (.xd (ns.map fun p => (p.1, V.int p.2))) := by
          rcases hx with ⟨e1, _⟩ | ⟨dd, ns', e1, _, e3, e4⟩
          · rw [efs] at e1
            exact (ens (by simpa using e1)).elim
          · have en : ns' = ns := by
              rw [efs] at e1
              have := congrArg (List.map fun p : Str × D => (p.1, match p.2 with | .int i => i | _ => 0)) e1
              simpa [List.map_map, Function.comp_def] using this.symm
            subst en
            exact ⟨dd, e3, e4⟩
        obtain ⟨dd, rfl, hxd⟩ := hdd
        refine ⟨true, by rw [hK]; exact Zia ht hC hA ht1, fun _ a _ => ⟨c, A, dd, ns, rfl, rfl, hA, Zkn ht1, l, _, DL.C.setName k.len k.ok (show Slot.env (.xe a dd ns) from trivial) hi' (k.c.xe (a := a) hxd), hl, ms _ _ _ _ _ _ _ (fun o z => ?_) (z a dd)⟩, fun h => by cases h⟩
        cases o with
        | nx e => exact fun σ2 H2 k2 => z _ H2 (k2.un i none)
        | bk e => exact fun σ2 H2 k2 => z _ H2 (k2.un i none)
        | ct e => exact fun σ2 H2 k2 => z _ H2 (k2.un i none)
        | ret v => exact z
        | ex c fs e => exact z.elim
      · rename_i ht1
        exact ⟨false, by rw [hK]; exact Zia ht hC hA ht1, (fun h => by cases h), fun _ => h2 l Dn hl c fs e A d σ H z hA hx k⟩
      · exact z.elim
theorem Zx0 (hh : HksOk X F (hd0 :: hds) r) (tk : Takes X W) (hN : X.N.Nodup)
    (hb : ∀ (W' : WX) (pn : List (Addr × Obj)) (xe : Value → Shared → Prop), Takes (X.tr pn xe) W' → PassesOwn (model X.prog X.w) X.A X.env xe → DSs (X.tr pn xe) F W' body wb) (mb : Zbi wb)
    (hs : X.stack = X.env :: X.outer := by rfl) (hf : X.env.frame = some X.env.locals := by rfl) (hK : X.K = F.K := by rfl) (hM : X.mg = F.mg := by rfl) : DS X F W (.Try body (hd0 :: hds) [] [] pos) (Zu9 r wb) := by
  obtain ⟨cl, h1, h2⟩ := Zly (W := W) hK hM hh
  refine ⟨Zf6 (Zrw hs hf hN tk (tb := fun W' => LS F W' wb) (fun W' pn xe t p => (hb W' pn xe t p).run) h1) fun D σ H ⟨l, env, k, hl, q⟩ => ⟨l, env, k, hl, mb _ _ _ (fun o z => ?_) q⟩, Zxf hh.mono mb⟩
  have thru : ∀ o, (∀ c fs e, o ≠ .ex c fs e) → ∀ r, hndM r (LSp F W l D) o → LSp F W l D o := fun o ho r z => by
    cases r with
    | nil => exact z
    | cons q r => cases o with
      | ex c fs e => exact (ho c fs e rfl).elim
      | _ => exact z
  cases o with
  | ex c fs e => exact fun A d σ' H' hA hx k' => h2 l D hl c fs e A d σ' H' z hA hx k'
  | nx e => exact thru _ (fun _ _ _ h => by cases h) _ z
  | bk e => exact thru _ (fun _ _ _ h => by cases h) _ z
  | ct e => exact thru _ (fun _ _ _ h => by cases h) _ z
  | ret v => exact thru _ (fun _ _ _ h => by cases h) _ z
end
end DL
set_option Elab.async false
set_option linter.all false
set_option maxRecDepth 100000
set_option maxHeartbeats 4000000
namespace DL
open PySem PySem.Spec PyProof.Rows L2
structure Init3 (K : PySem.W.Frag) (C : Addr) (f1 f2 f3 : Str) : Prop where
  oex : OexC K C
  n1 : PySem.W.findIn K (.ref C) f1 = some none
  n2 : PySem.W.findIn K (.ref C) f2 = some none
  n3 : PySem.W.findIn K (.ref C) f3 = some none
section
variable {X : Cx} {F : Fr} {W : WX} {e : Expr} {es : List Expr} {wA : WA} {x f1 f2 f3 : Str} {p pos pos2 : Pos}
end
end DL
set_option Elab.async false
set_option linter.all false
set_option maxRecDepth 100000
set_option maxHeartbeats 4000000
namespace DL
open PySem PySem.Spec PyProof.Rows L2
noncomputable def it5 : Nat → Nat → Nat
  | 0, x => x
  | n + 1, x => it5 n (5 * x + 1)
theorem Zl9 : ∀ (a b x : Nat), it5 (a + b) x = it5 b (it5 a x)
  | 0, b, x => by rw [Nat.zero_add]; rfl
  | a + 1, b, x => by
    rw [Nat.succ_add]
    exact Zl9 a b (5 * x + 1)
theorem Zu0 (n x : Nat) : it5 (n + 1) x = 5 * it5 n x + 1 := Zl9 n 1 x
theorem Ztv : ∀ k : Nat, ∃ c e, ∀ x, it5 (2 ^ k) x = x + 2 ^ k * (1 + (c + c)) + 4 * (2 ^ k * (e * x))
  | 0 => ⟨0, 1, fun x => by
    show 5 * x + 1 = _
    rw [Nat.pow_zero]
    omega⟩
  | k + 1 => by
    obtain ⟨c, e, h⟩ := Ztv k
    refine ⟨c + (e * 2 ^ k + 2 * (e * 2 ^ k * c)), e + 2 * (2 ^ k * (e * e)), fun x => ?_⟩
    have e1 : (2 : Nat) ^ (k + 1) = 2 ^ k + 2 ^ k := by rw [Nat.pow_succ]; omega
    rw [e1, Zl9, h, h]
    generalize 2 ^ k = P
    have two : ∀ a : Nat, 2 * a = a + a := fun a => by omega
    have four : ∀ a : Nat, 4 * a = a + a + (a + a) := fun a => by omega
    simp only [two, four, Nat.mul_add, Nat.add_mul, Nat.mul_one, Nat.one_mul]
    simp only [Nat.mul_comm, Nat.mul_left_comm, Nat.mul_assoc]
    omega
theorem Zlm {P q r : Nat} (hr : r < P) : (P * q + r) % (P * 2) = P * (q % 2) + r := by
  have e : P * q + r = P * (q % 2) + r + P * 2 * (q / 2) := by
    have h := Nat.mod_add_div q 2
    have h2 : P * q = P * (q % 2 + 2 * (q / 2)) := by rw [h]
    rw [h2, Nat.mul_add, Nat.mul_assoc]
    omega
  rw [e, Nat.add_mul_mod_self_left]
  refine Nat.mod_eq_of_lt ?_
  have h2 : q % 2 < 2 := Nat.mod_lt _ (by decide)
  rcases Nat.lt_or_ge (q % 2) 1 with c | c
  · have z : q % 2 = 0 := by omega
    rw [z]; omega
  · have z : q % 2 = 1 := by omega
    rw [z]; omega
theorem Zul : ∀ (k x j : Nat), ∃ n, n < 2 ^ k ∧ it5 n x % 2 ^ k = j % 2 ^ k
  | 0, x, j => ⟨0, by decide, by rw [Nat.pow_zero, Nat.mod_one, Nat.mod_one]⟩
  | k + 1, x, j => by
    obtain ⟨n, hn, e⟩ := Zul k x j
    obtain ⟨c, d, hc⟩ := Ztv k
    have hc' := hc (it5 n x)
    rw [← Zl9] at hc'
    rw [Nat.pow_succ]
    generalize hP : 2 ^ k = P at hn e hc' ⊢
    have P0 : 0 < P := by rw [← hP]; exact Nat.pow_pos (by decide)
    generalize hyy : it5 n x = y at e hc'
    have hy := Nat.div_add_mod y P
    have hj := Nat.div_add_mod j P
    have hr := Nat.mod_lt j P0
    rw [e] at hy
    have my : y % (P * 2) = P * (y / P % 2) + j % P := by
      have z := Zlm (q := y / P) hr
      rw [hy] at z
      exact z
    have mj : j % (P * 2) = P * (j / P % 2) + j % P := by
      have z := Zlm (q := j / P) hr
      rw [hj] at z
      exact z
    by_cases s : y / P % 2 = j / P % 2
    · exact ⟨n, by omega, by rw [hyy, my, mj, s]⟩
    · refine ⟨n + P, by omega, ?_⟩
      have q : it5 (n + P) x = P * (y / P + 1 + 2 * (c + 2 * (d * y))) + j % P := by
        rw [hc']
        have z : P * (y / P + 1 + 2 * (c + 2 * (d * y))) = P * (y / P) + P * (1 + (c + c)) + 4 * (P * (d * y)) := by
          have two : ∀ a : Nat, 2 * a = a + a := fun a => by omega
          have four : ∀ a : Nat, 4 * a = a + a + (a + a) := fun a => by omega
          simp only [two, four, Nat.mul_add, Nat.mul_one]
          omega
        rw [z]
        omega
      rw [q, Zlm hr, mj]
      have z : (y / P + 1 + 2 * (c + 2 * (d * y))) % 2 = j / P % 2 := by omega
      rw [z]
noncomputable def Rnd (m : Nat) : Prop := ∃ k, m + 1 = 2 ^ (k + 1)
theorem Rnd.odd {m : Nat} (R : Rnd m) : m % 2 = 1 := by
  obtain ⟨k, e⟩ := R
  rw [Nat.pow_succ] at e
  omega
theorem Zqq (m i : Nat) (hi : i ≤ m) : ∀ n, lcgI m i n = it5 n i % (m + 1)
  | 0 => (Nat.mod_eq_of_lt (Nat.lt_succ_of_le hi)).symm
  | n + 1 => by
    show (lcgI m i n * 5 + 1) % (m + 1) = _
    rw [Zqq m i hi n, Zu0, Nat.mul_comm 5]
    rw [Nat.add_mod, Nat.mul_mod, Nat.mod_mod, ← Nat.mul_mod, ← Nat.add_mod]
theorem Rnd.all {m : Nat} (R : Rnd m) {i j : Nat} (hi : i ≤ m) (hj : j ≤ m) : ∃ k, k ≤ m ∧ lcgI m i k = j := by
  obtain ⟨k, e⟩ := R
  obtain ⟨n, hn, z⟩ := Zul (k + 1) i j
  rw [← e] at hn z
  exact ⟨n, Nat.le_of_lt_succ hn, by rw [Zqq m i hi, z]; exact Nat.mod_eq_of_lt (Nat.lt_succ_of_le hj)⟩
theorem Rnd.meets {m : Nat} (R : Rnd m) (h : Int) {j : Nat} (hj : j ≤ m) : ∃ n, n ≤ m + 12 ∧ runI m (SetTable.bits h) n = j := by
  obtain ⟨k, hk, e⟩ := R.all (runI_le m (SetTable.bits h) 12) hj
  refine ⟨12 + k, by omega, ?_⟩
  rw [← e]
  exact runI_tail (bits_lt h) k
noncomputable abbrev prb (m : Nat) (h : Int) (c : Nat) : SetTable.Probe := nth m (runAt m (SetTable.bits h % (m + 1)) (SetTable.bits h)) c
theorem Zua (m : Nat) (h : Int) (a b : Nat) : nth m (prb m h a) b = prb m h (a + b) := (nth_add m a _ b).symm
theorem Zpe (m : Nat) (h : Int) (c : Nat) : way m h c ≤ m := by
  have i0 : SetTable.bits h % (m + 1) ≤ m := Nat.le_of_lt_succ (Nat.mod_lt _ (Nat.succ_pos _))
  have b := runEnd_bd i0
  have z : (prb m h c).j + (prb m h c).more ≤ m := nth_in c _ (by
    show SetTable.bits h % (m + 1) + (SetTable.runEnd m (SetTable.bits h % (m + 1)) - SetTable.bits h % (m + 1)) ≤ m
    omega)
  exact Nat.le_trans (Nat.le_add_right _ _) z
theorem Rnd.first {m : Nat} (R : Rnd m) (h : Int) {js : List Nat} (hl : js.length ≤ m) : ∃ K, K < 10 * SetTable.turns m ∧ way m h K ∉ js ∧ ∀ c, c < K → way m h c ∈ js := by
  obtain ⟨j, hj, hn⟩ := st_missing js (m + 1) (Nat.lt_succ_of_le hl)
  obtain ⟨n, n1, n2⟩ := R.meets h (Nat.le_of_lt_succ hj)
  obtain ⟨k, k1, k2⟩ := run_nth m (SetTable.bits h) n
  have hk : way m h k ∉ js := by
    show (prb m h k).j ∉ js
    have z : (prb m h k).j = runI m (SetTable.bits h) n := congrArg SetTable.Probe.j k2
    rw [z, n2]
    exact hn
  obtain ⟨K, a1, a2, a3⟩ := st_least (p := fun c => way m h c ∉ js) k hk
  refine ⟨K, ?_, a2, fun c hc => Classical.byContradiction fun z => a3 c hc z⟩
  unfold SetTable.turns
  omega
structure Tb (t : SetTable) (hs : List Int) : Prop where
  asc : Ris t.place.toList
  cl : t.dummies = #[]
  len : t.place.toList.length = hs.length
  rnd : Rnd t.mask
  top : ∀ x ∈ t.place.toList, x ≤ t.mask
  found : ∀ (i : Nat) (h : Int) (j : Nat), hs[i]? = some h → t.place.toList[i]? = some j → ∃ c, way t.mask h c = j ∧ ∀ c', c' < c → way t.mask h c' ∈ t.place.toList
theorem Tb.ahead {t : SetTable} {hs : List Int} (T : Tb t hs) {h : Int} {K i : Nat} (hK : way t.mask h K ∉ t.place.toList) (hi : hs[i]? = some h) : ∃ c, c < K ∧ t.place.toList[i]? = some (way t.mask h c) := by
  have il : i < t.place.toList.length := by
    rw [T.len]
    exact (List.getElem?_eq_some_iff.mp hi).1
  have e := List.getElem?_eq_getElem il
  obtain ⟨c, c1, c2⟩ := T.found i h _ hi e
  refine ⟨c, ?_, by rw [e, c1]⟩
  have nk : c ≠ K := fun z => hK (by rw [← z, c1]; exact List.getElem_mem il)
  rcases Nat.lt_or_ge K c with z | z
  · exact absurd (c2 K z) hK
  · omega
theorem Tb.put {t : SetTable} {hs : List Int} (T : Tb t hs) {h : Int} {K p : Nat} (hp : SetTable.below t.place (way t.mask h K) = p) (hK : way t.mask h K ∉ t.place.toList) (hb : ∀ c, c < K → way t.mask h c ∈ t.place.toList) :
    p ≤ hs.length ∧ Tb (t.put (way t.mask h K)).1 (hs.take p ++ h :: hs.drop p) ∧ (t.put (way t.mask h K)).1.fill = hs.length + 1 := by
  obtain ⟨b1, -, -⟩ := below_cut T.asc (way t.mask h K)
  rw [hp] at b1
  have pl : p ≤ t.place.toList.length := by rw [Array.length_toList]; exact b1
  have ph : p ≤ hs.length := by rw [← T.len]; exact pl
  have new := put_place t (way t.mask h K)
  rw [hp] at new
  have cl2 := put_dm T.cl (way t.mask h K)
  have np : t.place[SetTable.below t.place (way t.mask h K)]? ≠ some (way t.mask h K) := fun z => hK (List.mem_of_getElem? (by rw [Array.getElem?_toList]; exact z))
  have grow : ∀ x, x ∈ t.place.toList → x ∈ (t.put (way t.mask h K)).1.place.toList := fun x hx => by rw [new]; exact mem_ins.2 (.inr hx)
  have ln : (t.put (way t.mask h K)).1.place.toList.length = hs.length + 1 := by rw [new, len_ins _ pl, T.len]
  refine ⟨ph, { asc := ris_insert T.asc np, cl := cl2, len := by rw [ln, len_ins _ ph], rnd := T.rnd, top := fun x hx => ?_, found := fun i h' j' e1 e2 => ?_ }, ?_⟩
  · rw [new] at hx
    rcases mem_ins.1 hx with z | z
    · subst z
      exact Zpe _ _ _
    · exact T.top x z
  · rw [tins_get hs ph] at e1
    rw [new, tins_get _ pl] at e2
    have old : ∀ i, hs[i]? = some h' → t.place.toList[i]? = some j' → ∃ c, way t.mask h' c = j' ∧ ∀ c', c' < c → way t.mask h' c' ∈ (t.put (way t.mask h K)).1.place.toList := fun i a b => by
      obtain ⟨c, c1, c2⟩ := T.found i h' j' a b
      exact ⟨c, c1, fun c' l => grow _ (c2 c' l)⟩
    rcases Nat.lt_trichotomy i p with z | z | z
    · rw [if_pos z] at e1 e2
      exact old i e1 e2
    · rw [if_neg (by omega), if_pos z] at e1 e2
      cases e1
      cases e2
      exact ⟨K, rfl, fun c l => grow _ (hb c l)⟩
    · rw [if_neg (by omega), if_neg (by omega)] at e1 e2
      exact old (i - 1) e1 e2
  · show (t.put (way t.mask h K)).1.place.size + (t.put (way t.mask h K)).1.dummies.size = hs.length + 1
    rw [cl2, ← Array.length_toList, ln]
    rfl
end DL
set_option Elab.async false
set_option linter.all false
set_option maxRecDepth 100000
set_option maxHeartbeats 4000000
namespace DL
open PySem PySem.Spec PyProof.Rows L2
theorem Zxa {n : Nat} : ∀ (f k : Nat), n < 2 ^ (k + f) → ∃ k', k ≤ k' ∧ SetTable.sizeAbove.go n f (2 ^ k) = 2 ^ k' ∧ n < 2 ^ k' ∧ (k' = k ∨ 2 ^ k' ≤ 2 * n)
  | 0, k, h => ⟨k, Nat.le_refl _, rfl, h, .inl rfl⟩
  | f + 1, k, h => by
    unfold SetTable.sizeAbove.go
    by_cases c : 2 ^ k ≤ n
    · rw [if_pos c, ← Nat.pow_succ]
      obtain ⟨k', a, b, d, e⟩ := Zxa (n := n) f (k + 1) (by
        have z : k + 1 + f = k + (f + 1) := by omega
        rw [z]
        exact h)
      refine ⟨k', by omega, b, d, .inr ?_⟩
      rcases e with e | e
      · rw [e, Nat.pow_succ]
        omega
      · exact e
    · rw [if_neg c]
      exact ⟨k, Nat.le_refl _, rfl, by omega, .inl rfl⟩
theorem Zuz {n : Nat} (h : n < 100000) : ∃ M, SetTable.sizeAbove n = M + 1 ∧ Rnd M ∧ n ≤ M ∧ M ≤ 2 * n + 7 := by
  obtain ⟨k, a, b, c, d⟩ := Zxa (n := n) 64 3 (Nat.lt_of_lt_of_le h (by decide))
  have p : 0 < 2 ^ k := Nat.pow_pos (by decide)
  obtain ⟨q, rfl⟩ : ∃ q, k = q + 1 := ⟨k - 1, by omega⟩
  refine ⟨2 ^ (q + 1) - 1, ?_, ⟨q, by omega⟩, by omega, ?_⟩
  · show SetTable.sizeAbove.go n 64 8 = _
    rw [show (8 : Nat) = 2 ^ 3 from rfl, b]
    omega
  · rcases d with d | d
    · rw [d]
      have z : (2 : Nat) ^ 3 = 8 := rfl
      omega
    · omega
theorem Rnd.free {m : Nat} (R : Rnd m) (owner : Array (Option Nat)) (h : Int) {j : Nat} (hj : j ≤ m) (hf : oAt owner j = none) :
    ∃ K, SetTable.layClean.free m owner (SetTable.turns m) (SetTable.bits h % (m + 1)) (SetTable.bits h) = some (way m h K) ∧ oAt owner (way m h K) = none ∧ ∀ c, c < K → oAt owner (way m h c) ≠ none := by
  obtain ⟨n, n1, n2⟩ := R.meets h hj
  have e : way m h (off m (SetTable.bits h % (m + 1)) (SetTable.bits h) n) = j := by
    have z := congrArg SetTable.Probe.j (nth_off m n (SetTable.bits h % (m + 1)) (SetTable.bits h))
    rw [itL_run, n2] at z
    exact z
  obtain ⟨K, a1, a2, a3⟩ := st_least (p := fun c => oAt owner (way m h c) = none) _ (by rw [← e] at hf; exact hf)
  refine ⟨K, free_spec m owner _ n _ _ K ?_ a1 (fun c l => ?_) ?_, a2, a3⟩
  · unfold SetTable.turns
    omega
  · cases z : oAt owner (prb m h c).j with
    | none => exact absurd z (a3 c l)
    | some v => rfl
  · exact (congrArg Option.isNone a2).trans rfl
theorem Zwc {m : Nat} (R : Rnd m) {done : List Int} {owner : Array (Option Nat)} (W : Own m done owner) (hl : done.length ≤ m) (h : Int) :
    ∃ j, SetTable.layClean.free m owner (SetTable.turns m) (SetTable.bits h % (m + 1)) (SetTable.bits h) = some j ∧ Own m (done ++ [h]) (owner.setIfInBounds j (some done.length)) := by
  obtain ⟨js, l1, l2⟩ := W.ps
  obtain ⟨j0, b0, n0⟩ := st_missing js (m + 1) (by omega)
  have f0 : oAt owner j0 = none := Classical.byContradiction fun z => n0 (l2 j0 (Nat.le_of_lt_succ b0) z)
  obtain ⟨K, e, fr, occ⟩ := R.free owner h (Nat.le_of_lt_succ b0) f0
  have top := Zpe m h K
  refine ⟨_, e, ?_⟩
  generalize hs : way m h K = S at fr top
  have here : oAt (owner.setIfInBounds S (some done.length)) S = some done.length := oAt_set_self _ (by rw [W.sz]; omega)
  have else_ : ∀ i, i ≠ S → oAt (owner.setIfInBounds S (some done.length)) i = oAt owner i := fun i z => oAt_set_ne _ z
  have still : ∀ i, oAt owner i ≠ none → oAt (owner.setIfInBounds S (some done.length)) i ≠ none := fun i z => by
    rw [else_ i fun y => z (by rw [y]; exact fr)]
    exact z
  constructor
  · rw [Array.size_setIfInBounds]
    exact W.sz
  · intro j k hj hk
    by_cases c : j = S
    · subst c
      rw [here] at hk
      cases hk
      exact ⟨h, K, by simp, hs, fun c' l => still _ (occ c' l)⟩
    · rw [else_ j c] at hk
      obtain ⟨h', K', x1, x2, x3⟩ := W.at_ j k hj hk
      refine ⟨h', K', ?_, x2, fun c' l => still _ (x3 c' l)⟩
      rw [List.getElem?_append_left (List.getElem?_eq_some_iff.mp x1).1, x1]
  · intro k hk
    rw [List.length_append, List.length_singleton] at hk
    rcases Nat.lt_or_ge k done.length with c | c
    · obtain ⟨j, j1, j2⟩ := W.all k c
      exact ⟨j, j1, by rw [else_ j fun y => by rw [y, fr] at j2; cases j2]; exact j2⟩
    · have z : k = done.length := by omega
      exact ⟨S, top, by rw [z]; exact here⟩
  · refine ⟨S :: js, by simp [l1], fun j hj z => ?_⟩
    by_cases c : j = S
    · exact c ▸ List.mem_cons_self
    · rw [else_ j c] at z
      exact List.mem_cons_of_mem _ (l2 j hj z)
theorem Zqf {m : Nat} (R : Rnd m) : ∀ (rest done : List Int) (owner : Array (Option Nat)), Own m done owner → done.length + rest.length ≤ m →
    ∃ o', rest.foldl (stepF m) (some (owner, done.length)) = some (o', done.length + rest.length) ∧ Own m (done ++ rest) o'
  | [], done, owner, W, _ => ⟨owner, rfl, by rw [List.append_nil]; exact W⟩
  | h :: rest, done, owner, W, hl => by
    rw [List.length_cons] at hl
    obtain ⟨j, e, W1⟩ := Zwc R W (by omega) h
    have ln : (done ++ [h]).length = done.length + 1 := by simp
    obtain ⟨o', f, W2⟩ := Zqf R rest (done ++ [h]) _ W1 (by omega)
    refine ⟨o', ?_, by rw [List.append_assoc] at W2; exact W2⟩
    rw [List.foldl_cons, stepF_some e, ← ln, f, ln, List.length_cons]
    congr 2
    omega
theorem Ztj {m : Nat} (R : Rnd m) {hs : Array Int} (hn : hs.size ≤ m) : ∃ owner, SetTable.layClean m hs = some owner ∧ Own m hs.toList owner := by
  have l0 : hs.toList.length = hs.size := Array.length_toList
  obtain ⟨o', f, W⟩ := Zqf R hs.toList [] _ (Own.init m) (by rw [l0]; show 0 + hs.size ≤ m; omega)
  refine ⟨o', ?_, W⟩
  rw [layClean_eq]
  have f' : hs.toList.foldl (stepF m) (some (Array.replicate (m + 1) none, 0)) = _ := f
  rw [f']
  rfl
theorem anew {m : Nat} (R : Rnd m) {hs : Array Int} (t : SetTable) {wanted : Nat} (hw : SetTable.sizeAbove wanted = m + 1) (hn : hs.size ≤ m) :
    ∃ t' order, t.relaid hs wanted = some (t', order) ∧ order.toList.Perm (List.range hs.size) ∧ Tb t' (order.toList.map fun i => hs.getD i 0) ∧ t'.mask = m ∧ t'.led = t.led ∧ t'.plain = t.plain := by
  obtain ⟨owner, e, W⟩ := Ztj R hn
  have ml : ∀ j k, (j, k) ∈ liveOf m owner ↔ j ≤ m ∧ oAt owner j = some k := fun j k => mem_live W.sz
  have rise := ris_live (fun j => owner.getD j none) (List.range (m + 1)) (by unfold Ris; first | exact List.pairwise_lt_range | exact List.pairwise_lt_range _)
  have rise1 : Ris ((liveOf m owner).map (·.1)) := rise.1
  have apart : ((liveOf m owner).map (·.1)).Nodup := List.Pairwise.imp (fun h => Nat.ne_of_lt h) rise1
  have len : (liveOf m owner).length = hs.size := by
    refine Nat.le_antisymm ?_ ?_
    · obtain ⟨js, l1, l2⟩ := W.ps
      have z := nat_nodup_len _ js apart fun x hx => by
        obtain ⟨⟨j, k⟩, m1, rfl⟩ := List.mem_map.mp hx
        obtain ⟨z1, z2⟩ := (ml j k).1 m1
        exact l2 j z1 (by rw [z2]; simp)
      rw [List.length_map, l1, Array.length_toList] at z
      exact z
    · have z := nat_nodup_len (List.range hs.size) ((liveOf m owner).map (·.2)) List.nodup_range fun k hk => by
        obtain ⟨j, z1, z2⟩ := W.all k (by rw [Array.length_toList]; exact List.mem_range.mp hk)
        exact List.mem_map.mpr ⟨(j, k), (ml j k).2 ⟨z1, z2⟩, rfl⟩
      rw [List.length_range, List.length_map] at z
      exact z
  refine ⟨tabOf t m owner, ((liveOf m owner).map (·.2)).toArray, ?_, ?_, ?_, rfl, rfl, rfl⟩
  · rw [relaid_eq, hw, Nat.add_sub_cancel, e]
    rfl
  · refine perm_range hs.size _ (by rw [← len]; exact List.length_map ..) fun k hk => ?_
    obtain ⟨j, z1, z2⟩ := W.all k (by rw [Array.length_toList]; exact hk)
    exact List.mem_map.mpr ⟨(j, k), (ml j k).2 ⟨z1, z2⟩, rfl⟩
  · have pl : (tabOf t m owner).place.toList = (liveOf m owner).map (·.1) := rfl
    refine { asc := rise1, cl := rfl, len := by rw [pl]; simp, rnd := R, top := fun x hx => ?_, found := fun i h j e1 e2 => ?_ }
    · rw [pl] at hx
      obtain ⟨⟨j, k⟩, m1, rfl⟩ := List.mem_map.mp hx
      exact ((ml j k).1 m1).1
    · rw [pl, List.getElem?_map] at e2
      have e1' : (((liveOf m owner).map (·.2)).map fun i => hs.getD i 0)[i]? = some h := e1
      rw [List.getElem?_map, List.getElem?_map] at e1'
      obtain ⟨⟨j', k⟩, q, rfl⟩ := Option.map_eq_some_iff.mp e2
      rw [q] at e1'
      have e3 : hs.getD k 0 = h := Option.some.inj e1'
      obtain ⟨z1, z2⟩ := (ml j' k).1 (List.mem_of_getElem? q)
      obtain ⟨h0, K, a1, a2, a3⟩ := W.at_ j' k z1 z2
      have e4 : hs.getD k 0 = h0 := by
        rw [Array.getElem?_toList] at a1
        rw [Array.getD_eq_getD_getElem?, a1]
        rfl
      rw [← e3, e4]
      refine ⟨K, a2, fun c l => ?_⟩
      rw [pl]
      cases y : oAt owner (way m h0 c) with
      | none => exact absurd y (a3 c l)
      | some v => exact List.mem_map.mpr ⟨(way m h0 c, v), (ml _ _).2 ⟨Zpe _ _ _, y⟩, rfl⟩
end DL
set_option Elab.async false
set_option linter.all false
set_option maxRecDepth 100000
set_option maxHeartbeats 4000000
namespace DL
open PySem PySem.Spec PyProof.Rows L2
structure Sb (P : Program) (w : World) (h : Heap) (a : Addr) (L : List (Addr × List Int)) (es : Array (Int × Value)) (ep : Nat) (t : SetTable) : Prop where
  obj : ∃ o, h.get? a = some o ∧ o.ExactSet ∧ o.data = .set es ep t
  rws : es.toList = rowsOf P w L
  tb : Tb t (L.map fun p => thash P w p.2)
  one : (L.map (·.2)).Nodup
  tp : ∀ p ∈ L, IsT P w h p.2 p.1
  pla : t.plain = true
  ord : w.params.followText "set-order" = true ∨ t.led = true
  rm : L.length * 5 < t.mask * 3
  cap : t.mask ≤ 8 * L.length + 7
  few : L.length < 1000
section
variable {P : Program} {w : World} {A : Around} {E : Value → Shared → Prop} {s : Shared} {a : Addr} {L : List (Addr × List Int)} {es : Array (Int × Value)} {ep : Nat} {t : SetTable}
theorem Zgk {L : List (Addr × List Int)} {es : Array (Int × Value)} (h : es.toList = rowsOf P w L) : es.size = L.length := by
  rw [← Array.length_toList, h]
  exact List.length_map ..
theorem fit {hs : List Int} {n : Nat} (T : Tb t hs) (hn : n = hs.length) (hm : n ≤ t.mask) : t.fits n = true := by
  have e : t.place.size = n := by rw [hn, ← T.len, Array.length_toList]
  unfold SetTable.fits SetTable.fill
  rw [T.cl]
  simp only [Bool.and_eq_true, beq_iff_eq, decide_eq_true_eq]
  exact ⟨e, by rw [e]; exact hm⟩
theorem Sb.fit (R : Sb P w s.heap a L es ep t) : t.fits es.size = true := by
  have r := R.rm
  refine DL.fit R.tb ?_ ?_
  · rw [List.length_map, Zgk R.rws]
  · rw [Zgk R.rws]; omega
theorem Sb.row (R : Sb P w s.heap a L es ep t) {i : Nat} {p : Addr × List Int} (h : L[i]? = some p) : es[i]? = some (thash P w p.2, Value.ref p.1) := by
  rw [← Array.getElem?_toList, R.rws]
  show (L.map _)[i]? = _
  rw [List.getElem?_map, h]
  rfl
theorem Ztu (hm : Rnd t.mask) : ¬ t.gaveWay = true := fun z => by
  unfold SetTable.gaveWay at z
  rw [hm.odd] at z
  exact absurd z (by decide)
theorem Zth (m : Nat) (h : Int) (c : Nat) : (prb m h c).dummy = none := by
  have step : ∀ p : SetTable.Probe, p.dummy = none → (adv m p).dummy = none := fun p z => by
    unfold adv
    split <;> exact z
  have all : ∀ c p, SetTable.Probe.dummy p = none → (nth m p c).dummy = none := by
    intro c
    induction c with
    | zero => exact fun p z => z
    | succ c ih => exact fun p z => ih _ (step p z)
  exact all c _ rfl
theorem Sb.look (R : Sb P w s.heap a L es ep t) {x : Addr} {k : List Int} (hx : IsT P w s.heap k x) (hu : A.units < cLine) {K : Nat} (hKf : K < 10 * SetTable.turns t.mask)
    (hK : way t.mask (thash P w k) K ∉ t.place.toList) (hKb : ∀ c, c < K → way t.mask (thash P w k) c ∈ t.place.toList) {Q : SetFound → Shared → Prop}
    (yes : k ∈ L.map (·.2) → Q (.there none) s) (no : k ∉ L.map (·.2) → Q (.free (way t.mask (thash P w k) K) false) s) (f : Nat) :
    ∀ (c : Nat) (at_ : Option SetTable.Probe), at_.getD (t.probeStart (thash P w k)) = prb t.mask (thash P w k) c → c ≤ K → K - c < f →
      (∀ (i : Nat) p, L[i]? = some p → p.2 = k → ∃ c', c ≤ c' ∧ c' < K ∧ t.place.toList[i]? = some (way t.mask (thash P w k) c')) →
      wpAny (model P w) A (setSearchFrom a (.ref x) (thash P w k) true f at_) Q E s := by
  induction f with
  | zero => exact fun c _ _ _ l _ => absurd l (Nat.not_lt_zero _)
  | succ f ih =>
    intro c at_ e0 hc hf left
    obtain ⟨o, ho, -, hd⟩ := R.obj
    generalize hH : thash P w k = H at hK hKb no e0 left ih ⊢
    have wj : ∀ q, (nth t.mask (prb t.mask H c) q).j = way t.mask H (c + q) := fun q => congrArg SetTable.Probe.j (Zua t.mask H c q)
    have met := go_spec t R.tb.asc R.tb.cl (fun i => (es[i]?.map (·.1)).getD 0) H (10 * SetTable.turns t.mask) (K - c) (prb t.mask H c) (Zth _ _ _) (by omega)
      (fun q l => by rw [wj]; exact hKb _ (by omega)) (by rw [wj, Nat.add_sub_cancel' hc]; exact hK)
    have hashAt : ∀ (i : Nat) p, L[i]? = some p → (es[i]?.map (·.1)).getD 0 = thash P w p.2 := fun i p z => by rw [R.row z]; rfl
    rw [setSearchFrom_succ]
    refine wpAny_bind (wpAny_setState_of ho hd R.fit ?_)
    dsimp only
    refine wp_if_neg (Ztu R.tb.rnd) ?_
    try refine wpAny_bind (wpAny_pure ?_)
    rcases met with ⟨q, i, hq, hi, hh, before, go⟩ | ⟨before, go⟩
    · have probe : t.probe (fun i => (es[i]?.map (·.1)).getD 0) H (at_.getD (t.probeStart H)) = some (.candidate (way t.mask H (c + q)) i (prb t.mask H (c + (q + 1)))) := by
        rw [e0, ← wj, ← Zua]
        exact go
      rw [wj] at hi
      rw [probe]
      dsimp only
      obtain ⟨p, hp⟩ : ∃ p, L[i]? = some p := by
        have z := (List.getElem?_eq_some_iff.mp hi).1
        rw [R.tb.len, List.length_map] at z
        exact ⟨_, List.getElem?_eq_getElem z⟩
      have pm : p ∈ L := List.mem_of_getElem? hp
      have live : t.slot (way t.mask H (c + q)) = .live i := slot_live R.tb.asc hi
      have rest : wpAny (model P w) A (searchRest a (.ref x) H true f es t (way t.mask H (c + q)) i (prb t.mask H (c + (q + 1)))) Q E s := by
        unfold searchRest
        rw [R.row hp]
        dsimp only
        refine wpAny_bind (wpAny_holding (wpAny_eqBool_tuple hu (R.tp p pm) hx ?_))
        refine wpAny_bind (wpAny_setState_of ho hd R.fit ?_)
        dsimp only
        by_cases same : p.2 = k
        · exact wp_if_pos (by simp [same]) (wpAny_pure (yes (List.mem_map.mpr ⟨p, pm, same⟩)))
        · refine wp_if_neg (by simp [same]) ?_
          try refine wpAny_bind (wpAny_pure ?_)
          rw [sameMem]
          simp only [if_true, live, R.row hp]
          refine wpAny_bind (wpAny_isSame_ref_self (wpAny_bind (wpAny_pure ?_)))
          simp only [if_true]
          refine wp_if_neg (by simp [same]) (ih (c + (q + 1)) _ rfl (by omega) (by omega) fun i0 p0 z0 k0 => ?_)
          obtain ⟨c', l1, l2, l3⟩ := left i0 p0 z0 k0
          refine ⟨c', ?_, l2, l3⟩
          have ne1 : ¬ c' < c + q := fun l => before (c' - c) i0 (by omega) (by rw [wj, Nat.add_sub_cancel' l1]; exact l3) (by rw [hashAt i0 p0 z0, k0]; exact hH)
          have ne2 : c' ≠ c + q := fun l => by
            rw [l] at l3
            have z := slot_live R.tb.asc l3
            rw [live] at z
            cases z
            rw [hp] at z0
            cases z0
            exact same k0
          omega
      by_cases hl : t.led = true
      · refine wp_if_neg (by simp [hl]) ?_
        try refine wpAny_bind (wpAny_pure ?_)
        exact rest
      · refine wp_if_pos (by simp [hl]) (wpAny_bind (seen_tup hx (fun y hy => ?_) (wp_if_neg (by decide) ?_)))
        · obtain ⟨e, m1, m2⟩ := List.mem_map.mp hy
          have m3 : e ∈ es ∧ e.1 = H := by simpa using m1
          have m4 : e ∈ es.toList := by simpa using m3.1
          rw [R.rws] at m4
          obtain ⟨p2, n1, n2⟩ := List.mem_map.mp m4
          subst n2
          exact ⟨p2.2, p2.1, m2.symm, R.tp p2 n1⟩
        · try refine wpAny_bind (wpAny_pure ?_)
          exact rest
    · have probe : t.probe (fun i => (es[i]?.map (·.1)).getD 0) H (at_.getD (t.probeStart H)) = some (.empty (way t.mask H K) none) := by
        have z := wj (K - c)
        rw [Nat.add_sub_cancel' hc] at z
        rw [e0, ← z]
        exact go
      rw [probe]
      dsimp only
      refine wpAny_pure (no fun m => ?_)
      obtain ⟨p0, m0, k0⟩ := List.mem_map.mp m
      obtain ⟨i0, b0, z0⟩ := List.getElem_of_mem m0
      have z1 : L[i0]? = some p0 := by rw [List.getElem?_eq_getElem b0, z0]
      obtain ⟨c', l1, l2, l3⟩ := left i0 p0 z1 k0
      exact before (c' - c) i0 (by omega) (by rw [wj, Nat.add_sub_cancel' l1]; exact l3) (by rw [hashAt i0 p0 z1, k0]; exact hH)
theorem Sb.search (R : Sb P w s.heap a L es ep t) {x : Addr} {k : List Int} (hx : IsT P w s.heap k x) (hu : A.units < cLine) {Q : SetFound → Shared → Prop}
    (yes : k ∈ L.map (·.2) → Q (.there none) s)
    (no : ∀ K, k ∉ L.map (·.2) → way t.mask (thash P w k) K ∉ t.place.toList → (∀ c, c < K → way t.mask (thash P w k) c ∈ t.place.toList) → Q (.free (way t.mask (thash P w k) K) false) s) :
    wpAny (model P w) A (setSearch a (.ref x) (thash P w k) true) Q E s := by
  have r := R.rm
  have c := R.cap
  have fw := R.few
  obtain ⟨K, k1, k2, k3⟩ := R.tb.rnd.first (thash P w k) (js := t.place.toList) (by rw [R.tb.len, List.length_map]; omega)
  unfold setSearch
  refine R.look hx hu k1 k2 k3 yes (fun z => no K z k2 k3) 100000 0 none rfl (Nat.zero_le _) ?_ fun i p z e => ?_
  · unfold SetTable.turns at k1
    omega
  · obtain ⟨c', l1, l2⟩ := R.tb.ahead k2 (i := i) (by rw [List.getElem?_map, z]; exact congrArg (fun y => some (thash P w y)) e)
    exact ⟨c', Nat.zero_le _, l1, l2⟩
theorem Zt5 {o : Obj} {hs : List Int} (ho : s.heap.get? a = some o) (hex : o.ExactSet) (hd : o.data = .set es ep t) (hr : es.toList = rowsOf P w L) (T : Tb t hs) (hl : hs.length = L.length) (hm : L.length ≤ t.mask)
    (one : (L.map (·.2)).Nodup) (tp : ∀ p ∈ L, IsT P w s.heap p.2 p.1) (pl : t.plain = true) (ld : w.params.followText "set-order" = true ∨ t.led = true) (few : L.length < 1000) (ne : 0 < L.length) {Q : Unit → Shared → Prop}
    (hQ : ∀ h' L' es' ep' t', Heap.SameBut a s.heap h' → Sb P w h' a L' es' ep' t' → L'.Perm L → Q () { s with heap := h' }) : wpAny (model P w) A (setRelay a (SetTable.grown L.length)) Q E s := by
  have sz := Zgk hr
  have g : SetTable.grown L.length = L.length * 4 := by
    unfold SetTable.grown
    rw [if_neg (by omega)]
  obtain ⟨M, m1, m2, m3, m4⟩ := Zuz (n := L.length * 4) (by omega)
  obtain ⟨t', order, e, pm, T2, em, el, epl⟩ := anew m2 t (hs := es.map (·.1)) m1 (by rw [Array.size_map, sz]; omega)
  rw [Array.size_map, sz] at pm
  obtain ⟨L2, r1, r2, r3⟩ := order_rows L es order hr pm
  rw [← r3] at T2
  have sz2 : (order.filterMap (es[·]?)).size = es.size := by rw [Zgk r1, r2.length_eq, sz]
  rw [g, setRelay_eq]
  refine wpAny_bind (wpAny_setState_of ho hd (fit T (by rw [sz, hl]) (by rw [sz]; exact hm)) ?_)
  dsimp only
  refine wp_if_neg (by rw [m1, sizeLine_eq]; omega) ?_
  try refine wpAny_bind (wpAny_pure ?_)
  rw [e]
  dsimp only
  refine wpAny_bind (wp_if_neg (by rw [sz2]; simp) ?_)
  try refine wpAny_bind (wpAny_pure ?_)
  refine wpAny_pure (wpAny_storeSet_of ho hd ?_ (by rw [sz2, sz, sizeLine_eq]; omega))
  have sb : Heap.SameBut a s.heap (s.heap.update a (Obj.putSet (order.filterMap (es[·]?)) t')) := Heap.SameBut.update ..
  refine hQ _ L2 _ _ t' sb { obj := ⟨_, store_at ho hd, ⟨hex.1, hex.2.1, hex.2.2⟩, rfl⟩, rws := r1, tb := T2, one := (r2.map (·.2)).nodup_iff.mpr one, tp := fun p z => isT_same (tp p (r2.mem_iff.mp z)) ho hd sb, pla := epl.trans pl, ord := ?_, rm := ?_, cap := ?_, few := ?_ } r2
  · rw [el]; exact ld
  · rw [r2.length_eq, em]; omega
  · rw [r2.length_eq, em]; omega
  · rw [r2.length_eq]; exact few
theorem Sb.add (R : Sb P w s.heap a L es ep t) {x : Addr} {k : List Int} (hx : IsT P w s.heap k x) (hu : A.units < cLine) (few : L.length + 1 < 1000) {Q : Bool → Shared → Prop}
    (hQ : ∀ b h' L' es' ep' t', Heap.SameBut a s.heap h' → Sb P w h' a L' es' ep' t' → (k ∈ L.map (·.2) → L' = L) → (k ∉ L.map (·.2) → L'.Perm ((x, k) :: L)) → Q b { s with heap := h' }) :
    wpAny (model P w) A (setAddHashed a (.ref x) (thash P w k)) Q E s := by
  obtain ⟨o, ho, hex, hd⟩ := R.obj
  have sz := Zgk R.rws
  have rm := R.rm
  unfold setAddHashed
  refine wpAny_holding ?_
  rw [show (100000 : Nat) = 99999 + 1 from rfl, setAddHashedIn_succ]
  refine wpAny_bind (wpAny_setState_of ho hd R.fit ?_)
  dsimp only
  refine wp_if_neg (by simp [byScan, Value.scannable]) ?_
  try refine wpAny_bind (wpAny_pure ?_)
  refine wpAny_bind (R.search hx hu (fun m => ?_) fun K m hK hb => ?_)
  · exact wpAny_pure (hQ false s.heap L es ep t (Heap.SameBut.refl a s.heap) R (fun _ => rfl) fun z => absurd m z)
  · dsimp only
    refine wpAny_bind (wpAny_setState_of ho hd R.fit ?_)
    dsimp only
    generalize hp : SetTable.below t.place (way t.mask (thash P w k) K) = p
    obtain ⟨p1, T1, fl⟩ := R.tb.put hp hK hb
    have e2 : (t.put (way t.mask (thash P w k) K)).2 = p := hp
    have pl1 : (t.put (way t.mask (thash P w k) K)).1.plain = true := R.pla
    have ld1 : w.params.followText "set-order" = true ∨ (t.put (way t.mask (thash P w k) K)).1.led = true := R.ord
    have mk1 : (t.put (way t.mask (thash P w k) K)).1.mask = t.mask := rfl
    generalize t.put (way t.mask (thash P w k) K) = tp at T1 fl e2 pl1 ld1 mk1 ⊢
    obtain ⟨t1, p'⟩ := tp
    dsimp only at T1 fl e2 pl1 ld1 mk1 ⊢
    subst e2
    first
      | (refine wpAny_bind ?_; refine wp_if_pos pl1 ?_; refine hashBy_tup hx ?_)
      | refine wp_if_pos pl1 (wpAny_bind (hashBy_tup hx ?_))
    simp only [if_true]
    have rw1 : (SetTable.insertAt es p' (thash P w k, Value.ref x)).toList = rowsOf P w (L.take p' ++ (x, k) :: L.drop p') := by rw [SetTable.toList_insertAt, rows_put, R.rws]
    have pm := put_perm L p' (x, k)
    have hh : (L.map fun p => thash P w p.2).take p' ++ thash P w k :: (L.map fun p => thash P w p.2).drop p' = (L.take p' ++ (x, k) :: L.drop p').map fun p => thash P w p.2 := by simp
    rw [hh] at T1
    rw [List.length_map] at fl
    generalize SetTable.insertAt es p' (thash P w k, Value.ref x) = es1 at rw1 ⊢
    generalize L.take p' ++ (x, k) :: L.drop p' = L1 at pm T1 rw1
    have len1 : L1.length = L.length + 1 := pm.length_eq
    have sz1 : es1.size = L.length + 1 := (Zgk rw1).trans len1
    have one1 : (L1.map (·.2)).Nodup := (pm.map (·.2)).nodup_iff.mpr (List.nodup_cons.mpr ⟨m, R.one⟩)
    refine wpAny_bind (wpAny_storeSet_of ho hd ?_ (by rw [sz1, sizeLine_eq]; omega))
    have sb : Heap.SameBut a s.heap (s.heap.update a (Obj.putSet es1 t1)) := Heap.SameBut.update ..
    have ho1 := store_at (es' := es1) (t' := t1) ho hd
    generalize s.heap.update a (Obj.putSet es1 t1) = h1 at sb ho1 ⊢
    have tp1 : ∀ p ∈ L1, IsT P w h1 p.2 p.1 := fun p z => by
      rcases List.mem_cons.mp (pm.mem_iff.mp z) with z | z
      · subst z
        exact isT_same hx ho hd sb
      · exact isT_same (R.tp p z) ho hd sb
    have full : t1.tooFull = decide ((L.length + 1) * 5 ≥ t.mask * 3) := by
      unfold SetTable.tooFull
      rw [fl, mk1]
    by_cases hf : t1.tooFull = true
    · rw [sz]
      have relay : wpAny (model P w) A (setRelay a (SetTable.grown (L.length + 1))) (fun _ s' => wpAny (model P w) A (pure true) Q E s') E { s with heap := h1 } := by
        rw [← len1]
        refine Zt5 (s := { s with heap := h1 }) ho1 ⟨hex.1, hex.2.1, hex.2.2⟩ rfl rw1 T1 (by rw [List.length_map]) (by rw [len1, mk1]; omega) one1 tp1 pl1 ld1 (by omega) (by omega) fun h2 L2 es2 ep2 t2 sb2 R2 pm2 => ?_
        exact wpAny_pure (hQ true h2 L2 es2 ep2 t2 (sb.trans sb2) R2 (fun z => absurd z m) fun _ => pm2.trans pm)
      first
        | (refine wpAny_bind ?_; refine wp_if_pos (by simp [hf]) ?_; exact relay)
        | (refine wp_if_pos (by simp [hf]) ?_; refine wpAny_bind ?_; exact relay)
    · have lt : (L.length + 1) * 5 < t.mask * 3 := by
        rw [full, decide_eq_true_eq] at hf
        omega
      have cp := R.cap
      have done : wpAny (model P w) A (pure true) Q E { s with heap := h1 } := wpAny_pure (hQ true h1 L1 es1 (ep + 1) t1 sb { obj := ⟨_, ho1, ⟨hex.1, hex.2.1, hex.2.2⟩, rfl⟩, rws := rw1, tb := T1, one := one1, tp := tp1, pla := pl1, ord := ld1, rm := by rw [len1, mk1]; exact lt, cap := by rw [len1, mk1]; omega, few := by omega } (fun z => absurd z m) fun _ => pm)
      first
        | exact wp_if_neg (by simp [hf]) done
        | (refine wpAny_bind ?_; refine wp_if_neg (by simp [hf]) ?_; exact wpAny_pure done)
end
end DL
set_option Elab.async false
set_option linter.all false
set_option maxRecDepth 100000
set_option maxHeartbeats 4000000
namespace DL
open PySem PySem.Spec PyProof.Rows L2
theorem Sb.keeps {P : Program} {w : World} {h h' : Heap} {a : Addr} {L : List (Addr × List Int)} {es : Array (Int × Value)} {ep : Nat} {t : SetTable} (R : Sb P w h a L es ep t) (ka : ∀ o, h.get? a = some o → h'.get? a = some o) (kt : ∀ p ∈ L, IsT P w h' p.2 p.1) : Sb P w h' a L es ep t := by
  obtain ⟨o, e, r⟩ := R.obj
  exact { R with obj := ⟨o, ka o e, r⟩, tp := kt }
theorem Sb.new {P : Program} {w : World} {h : Heap} {a : Addr} (ho : h.get? a = some { cls := .type "set", dict := none, data := .set #[] 0 (.fresh 0 0 (!w.params.followText "set-order")) }) :
    Sb P w h a [] #[] 0 (.fresh 0 0 (!w.params.followText "set-order")) := by
  refine { obj := ⟨_, ho, ⟨rfl, rfl, rfl⟩, rfl⟩, rws := rfl, tb := ?_, one := List.nodup_nil, tp := fun p z => (by cases z), pla := rfl, ord := ?_, rm := (by show 0 * 5 < 7 * 3; decide), cap := (by show 7 ≤ 8 * 0 + 7; decide), few := (by show 0 < 1000; decide) }
  · exact { asc := List.Pairwise.nil, cl := rfl, len := rfl, rnd := ⟨2, rfl⟩, top := fun x z => (by cases z), found := fun i h j z => (by simp at z) }
  · cases h : w.params.followText "set-order" with
    | true => exact .inl rfl
    | false => exact .inr (by show (!false) = true; rfl)
section
variable {P : Program} {w : World} {A : Around} {E : Value → Shared → Prop} {s : Shared}
end
end DL
set_option Elab.async false
set_option linter.all false
set_option maxRecDepth 100000
set_option maxHeartbeats 4000000
namespace DL
open PySem PySem.Spec PyProof.Rows L2
section
variable {P : Program} {w : World} {A : Around} {E : Value → Shared → Prop} {s : Shared} {a : Addr} {L : List (Addr × List Int)} {es : Array (Int × Value)} {ep : Nat} {t : SetTable}
end
noncomputable def SbO (P : Program) (w : World) (a : Addr) (L : List (Addr × List Int)) : HO := .ext fun h => ∃ es ep t, (∃ o, h.get? a = some o ∧ o.ExactSet ∧ o.data = .set es ep t) ∧ ∀ h', (∃ o, h'.get? a = some o ∧ o.ExactSet ∧ o.data = .set es ep t) → (∀ p ∈ L, IsT P w h' p.2 p.1) → Sb P w h' a L es ep t
theorem Sb.ho {P : Program} {w : World} {H : Hp} {h : Heap} {a : Addr} {L : List (Addr × List Int)} {es : Array (Int × Value)} {ep : Nat} {t : SetTable} (R : Sb P w h a L es ep t) : ObjOk P w H h a (SbO P w a L) := by
  obtain ⟨o, ho, r⟩ := R.obj
  have r0 : ∃ o, h.get? a = some o ∧ o.ExactSet ∧ o.data = .set es ep t := ⟨o, ho, r⟩
  refine ⟨⟨es, ep, t, r0, fun h' ob tp => { R with obj := ob, tp := tp }⟩, ⟨o, ho⟩, fun h1 h2 p k => ?_⟩
  obtain ⟨es', ep', t', ⟨o', ho', r'⟩, q⟩ := p
  exact ⟨es', ep', t', ⟨o', k o' ho', r'⟩, q⟩
section
variable {X : Cx} {F : Fr} {W : WX} {e : Expr} {we : WE} {pos p pos2 p2 : Pos}
end
end DL
set_option Elab.async false
set_option linter.all false
set_option maxRecDepth 100000
set_option maxHeartbeats 4000000
namespace DL
open PySem PySem.Spec PyProof.Rows L2
section
variable {F : Fr} {S S' H H' : Hp} {l : List Cell} {p : Cell}
variable {X : Cx} {W : WX} {e : Expr} {we : WE} {pos q : Pos}
end
end DL
set_option Elab.async false
set_option linter.all false
set_option maxRecDepth 100000
set_option maxHeartbeats 4000000
namespace DL
open PySem PySem.Spec PyProof.Rows L2
section
variable {X : Cx} {F : Fr} {W : WX} {a b : Expr} {wa wb : WE} {pos : Pos}
end
end DL
set_option Elab.async false
set_option linter.all false
set_option maxRecDepth 100000
set_option maxHeartbeats 4000000
namespace DL
open PySem PySem.Spec PyProof.Rows L2
noncomputable def Zit : O1 := fun x k => match x.dat with
  | some (.lst ds) => k (.sh (.tup ds))
  | _ => False
theorem Zgx : Ze7 Zit := fun x k k' m h => by
  unfold Zit at h ⊢
  split at h
  · exact m _ h
  · exact h
section
variable {X : Cx} {F : Fr} {W : WX} {e : Expr} {we : WE} {pos p : Pos}
theorem Znu (hm : X.mg "tuple" = none) (he : DE X F W e we) (hg : Gl X "tuple" := by rfl) (hs : starEach [e] X.env = (false, eval e X.env) :: starEach [] X.env := by rfl) (hK : X.K = F.K := by rfl) : DE X F W (.Call (.Name "tuple" p) [e] [] pos) (wUn Zit we) := by
  refine ⟨Zbr (pe_tupleOf hg hm he.run hs) fun σ H Q ⟨l, env, k, q⟩ => ⟨l, env, k, Zbe he.mono q (fun x hx v H1 c1 => ?_) fun c fs q => q⟩, Zaq he.mono Zgx⟩
  unfold Zit at hx
  split at hx
  · rename_i ds hd
    rw [hK]
    obtain ⟨a', vs, ea, hl, _, S, g, r, cc, pw⟩ := c1.seqL hd
    cases ea
    exact .inl ⟨a', vs, rfl, hl, fun q hq => hx _ _ (C.newFromT g (fun z hz => cc z (List.mem_cons_of_mem _ hz)) pw r hq)⟩
  · exact hx.elim
end
end DL
set_option Elab.async false
set_option linter.all false
set_option maxRecDepth 100000
set_option maxHeartbeats 4000000
namespace DL
open PySem PySem.Spec PyProof.Rows L2
structure GKeys (K : PySem.W.Frag) (w : World) (mg : Str → Option Value) (x : Str) (ks : List Str) : Prop where
  ex : ∃ a es n, mg x = some (.ref a) ∧ KDict K w a es n ∧ es.toList.map He.keyOf = He.keysIn w.params ks
theorem Zvc {K : PySem.W.Frag} {w : World} {mg : Str → Option Value} {x : Str} {ks : List Str} {a : Addr} {es : Array DictEntry} {n : Nat} (hm : mg x = some (.ref a)) (hl : K.lookup a = some ⟨.type "dict", none, .dict es n, #[]⟩)
    (hk : es.toList.map He.keyOf = He.keysIn w.params ks) (hs : (a == sysModules) = false) : GKeys K w mg x ks := ⟨a, es, n, hm, ⟨hl, He.keysLit_of hk, hs⟩, hk⟩
theorem Znm {P : Params} (s : Str) : ∀ {l : List DictEntry} {ks : List Str}, l.map He.keyOf = He.keysIn P ks → (l.find? (·.key.isStr s)).isSome = decide (s ∈ ks) ∧ l.any (·.refKey) = false
  | [], [], _ => ⟨by simp, rfl⟩
  | [], _ :: _, h => by cases h
  | _ :: _, [], h => by cases h
  | e :: r, k :: ks, h => by
    have h1 : He.keyOf e :: r.map He.keyOf = some (k, PyData.keyHash P k) :: He.keysIn P ks := h
    injection h1 with h2 h3
    obtain ⟨i1, i2⟩ := Znm s h3
    obtain ⟨hash, key, val⟩ := e
    unfold He.keyOf at h2
    dsimp only at h2
    cases key with
    | str x t =>
      cases h2
      refine ⟨?_, ?_⟩
      · rw [List.find?_cons]
        by_cases c : k = s
        · have z : (Value.str k t).isStr s = true := by show (k == s) = true; simpa using c
          simp only [z]
          simp [c]
        · have z : (Value.str k t).isStr s = false := by show (k == s) = false; simpa using c
          have c' : ¬ s = k := fun e => c e.symm
          simp only [z, List.mem_cons, c', false_or]
          exact i1
      · rw [List.any_cons, i2]
        rfl
    | _ => cases h2
theorem GKeys.at {K : PySem.W.Frag} {w : World} {mg : Str → Option Value} {x : Str} {ks : List Str} (G : GKeys K w mg x ks) (s : Str) : ∃ a es n r, mg x = some (.ref a) ∧ KDict K w a es n ∧ PySem.W.nsIn K a s = some r ∧ r.isSome = decide (s ∈ ks) := by
  obtain ⟨a, es, n, hm, D, hk⟩ := G.ex
  obtain ⟨h1, h2⟩ := Znm s hk
  refine ⟨a, es, n, (es.toList.find? (·.key.isStr s)).map (·.val), hm, D, ?_, by rw [Option.isSome_map, h1]⟩
  unfold PySem.W.nsIn
  rw [D.at_]
  dsimp only
  cases q : es.toList.find? (·.key.isStr s) with
  | some e => rfl
  | none =>
    dsimp only
    rw [h2]
    rfl
noncomputable def Zoc (neg : Bool) (ks : List Str) (wk : WE) : WE := fun env Q => wk env (rk (txtK fun s => Q (.ok (.sh (.bl (neg ^^ decide (s ∈ ks)))))) Q)
theorem Zjk {neg : Bool} {ks : List Str} {wk : WE} (h : Mono wk) : Mono (Zoc neg ks wk) := fun env Q Q' m q => Za3 h (fun x hx => Zjm (fun s z => m _ z) hx) m q
section
variable {X : Cx} {F : Fr} {W : WX} {x : Str} {p pos : Pos} {e : Expr} {we : WE} {ks : List Str}
theorem Zru (G : GKeys X.K X.w X.mg x ks) (he : DE X F W e we) (hg : Gl X x := by rfl) (hd : (x == ("__debug__" : Str)) = false := by decide) (hm : behindInMarks CmpOp.NotIn (.Name x p) = false := by rfl) : DT X F W (.Compare e [.NotIn] [.Name x p] pos) (Zoc true ks we) := by
  obtain ⟨a, es, n, mx, D, -⟩ := G.ex
  refine ⟨Zkt (pt_cmpR (op_notIn_kd D) he.run (pe_glob (v := .ref a) hg mx rfl hd) hm) fun σ H Q h => let ⟨l, env, k, q⟩ := Zvx (Zjk he.mono) h; ⟨l, env, k, Zbe he.mono q (fun y hy v H1 c1 => ?_) fun c fs z => z⟩, Zjk he.mono⟩
  unfold txtK at hy
  split at hy
  · rename_i s
    have e1 := c1.shStr
    cases e1
    obtain ⟨a', es', n', r, mx', D', hr, hs⟩ := G.at s
    rw [mx] at mx'
    cases mx'
    exact ⟨s, r, rfl, rfl, hr, hy _ _ (by
      have c2 := c1.tail.bl (!r.isSome)
      rw [hs] at c2 ⊢
      rw [Bool.true_xor]
      exact c2)⟩
  · exact hy.elim
end
structure GTup (K : PySem.W.Frag) (mg : Str → Option Value) (x : Str) (ks : List Str) : Prop where
  ex : ∃ a, mg x = some (.ref a) ∧ ∀ H : Hp, SqT K H a (ks.map V.str)
theorem Ztd {K : PySem.W.Frag} {mg : Str → Option Value} {x : Str} {ks : List Str} {a : Addr} {o : Obj} {its : Array Value} {n : Nat} (hm : mg x = some (.ref a)) (hl : K.lookup a = some o) (hc : o.cls = .type "tuple") (hd : o.data = .seq its n) (hz : its.size ≤ sizeLine)
    (hv : Vals (ks.map V.str) its.toList) : GTup K mg x ks := ⟨a, hm, fun H => .inr ⟨o, its, n, hl, hc, hd, hz, hv⟩⟩
theorem Zm2 : ∀ ks : List Str, (ks.map V.str).all flatV = true
  | [] => rfl
  | k :: ks => by rw [List.map_cons, List.all_cons, Zm2 ks]; rfl
theorem Zsn (s : Str) : ∀ ks : List Str, inV (.str s) (ks.map V.str) = decide (s ∈ ks)
  | [] => by simp [inV]
  | k :: ks => by
    have ih := Zsn s ks
    unfold inV at ih ⊢
    rw [List.map_cons, List.any_cons, ih]
    have e : eqV (.str k) (.str s) = decide (k = s) := by
      show _ = _
      first | rfl | (unfold eqV; simp) | (simp [eqV])
    rw [e]
    by_cases c : k = s
    · subst c; simp
    · have c' : ¬ s = k := fun z => c z.symm
      simp [c, c']
section
variable {X : Cx} {F : Fr} {W : WX} {x : Str} {p pos : Pos} {e : Expr} {we : WE} {ks : List Str}
theorem Zug (G : GTup X.K X.mg x ks) (he : DE X F W e we) (hg : Gl X x := by rfl) (hd : (x == ("__debug__" : Str)) = false := by decide) (hm : behindInMarks CmpOp.In (.Name x p) = false := by rfl) : DT X F W (.Compare e [.In] [.Name x p] pos) (Zoc false ks we) := by
  obtain ⟨a, mx, hT⟩ := G.ex
  refine ⟨Zkt (pt_cmpR op_in_seq he.run (pe_glob (v := .ref a) hg mx rfl hd) hm) fun σ H Q h => let ⟨l, env, k, q⟩ := Zvx (Zjk he.mono) h; ⟨l, env, k, Zbe he.mono q (fun y hy v H1 c1 => ?_) fun c fs z => z⟩, Zjk he.mono⟩
  unfold txtK at hy
  split at hy
  · rename_i s
    have e1 := c1.shStr
    cases e1
    refine ⟨a, _, rfl, .inr (hT H1), rfl, Zm2 ks, ?_⟩
    rw [if_neg Bool.false_ne_true, Zsn]
    refine hy _ _ ?_
    rw [Bool.false_xor]
    exact c1.tail.bl _
  · exact hy.elim
end
end DL
set_option Elab.async false
set_option linter.all false
set_option maxRecDepth 100000
set_option maxHeartbeats 4000000
namespace DL
open PySem PySem.Spec PyProof.Rows L2
section
variable {F : Fr} {S H : Hp} {l : List Cell}
end
section
variable {X : Cx} {F : Fr} {W : WX} {e : Expr} {we : WE}
end
end DL
set_option Elab.async false
set_option linter.all false
set_option maxRecDepth 100000
set_option maxHeartbeats 4000000
namespace DL
open PySem PySem.Spec PyProof.Rows L2
section
variable {X : Cx} {F : Fr} {W : WX} {a b : Expr} {wa wb : WM} {pos : Pos}
end
section
variable {X : Cx} {F : Fr} {W : WX} {e : Expr} {we : WE} {pos p : Pos}
end
end DL
set_option Elab.async false
set_option linter.all false
set_option maxRecDepth 100000
namespace DL
open PySem PySem.Spec PyProof.Rows L2
variable {F : Fr}
variable {X : Cx} {W : WX} {e : Expr} {we : WE} {pos p p2 q : Pos}
end DL
set_option Elab.async false
set_option linter.all false
set_option maxRecDepth 100000
set_option maxHeartbeats 4000000
namespace DLQ
open Lean Elab Tactic Meta PySem PySem.Calls PyProof.Rows PyProof.V PySem.Spec PySem.SeqAt
open AutoSeq1 (wpAny_loadPart')
open MeetsSeq MeetsSeq2 MeetsSeq3 SeqRoads2
section
variable {prog : Program} {w : World}
end
end DLQ
namespace DL
open PySem PySem.Spec PyProof.Rows L2
section
variable {X : Cx} {F : Fr} {W : WX} {a b : Expr} {wa wb : WE} {pos : Pos}
end
end DL
set_option Elab.async false
set_option linter.all false
set_option maxRecDepth 100000
set_option maxHeartbeats 4000000
namespace DL
open PySem PySem.Spec PyProof.Rows L2
section
variable {F : Fr} {H : Hp} {l : List Cell} {env : En} {σ : L2.St} {i : Nat}
end
section
variable {X : Cx} {F : Fr} {W : WX} {e o : Expr} {es : List Expr} {wm : WM} {i : Nat} {apos cpos pos p : Pos}
end
end DL
set_option Elab.async false
set_option linter.all false
set_option maxRecDepth 100000
set_option maxHeartbeats 4000000
namespace DLQ
open PySem PySem.Spec PySem.Calls PyProof.Rows PySem.W Builtin Builtin.ObjectAttr Builtin.Getset_descriptor
section
structure AtX (h : Heap) (x : Addr) (ox : Obj) (C : Addr) : Prop where
  at_ : h.get? x = some ox
  cls : ox.cls = .ref C
theorem AtX.type {M : Model} {h : Heap} {x C : Addr} {ox : Obj} (I : AtX h x ox C) : Looks M h (typeOf (.ref x)) (.ref C) := I.cls ▸ (Looks.ld I.at_).andThen .now
variable {prog : Program} {w : World} {A : Around} {E : Value → Shared → Prop} {s : Shared} {K : Frag} {x D : Addr} {ox : Obj}
theorem Zox {M : Model} {h : Heap} (X : K.In h) {x C : Addr} {name : Str} {a g : Value} (ha : findIn K (.ref C) name = some (some a)) (hg : specialIn K a "__get__" = some (some g)) (ht : takesIn K a = some true) : Looks M h (find (.ref x) (.ref C) name) (.bind g a) := by
  have L1 := looks_findIn (M := M) X ha
  have L3 := looks_takesIn (M := M) X ht
  refine L1.andThen (Looks.andThen (looks_specialIn X hg) ?_)
  exact (show Looks M h (dataDescriptor? (some a) (some g)) (some (g, a)) from L3.andThen .now).andThen (Looks.tag .now)
theorem Zq2 {R : Result → Shared → Prop} {C : Addr} {ox : Obj} {tp : Value} (X : K.In s.heap) (I : AtX s.heap x ox C) (hm : mroIn K C (.type "object") = some true)
    (h : R (.ok (.ret (.ref C))) s) : codeAny (model prog w) A (.call (.builtin "getset_descriptor.__get__") ⟨[.builtin "object.__class__", .ref x, tp], []⟩) R s := by
  obtain ⟨hh, g, dr, t, os⟩ := s
  have L0 := I.type (M := model prog w)
  have L1 := looks_mroIn (M := model prog w) X hm
  refine codeAny_call_builtin KF.slot_gs.plain KF.entry_gs (KF.slot_gs.check _ _ _ _ _ _ _ _ KF.type_class (KF.args_gs _ _ _) ?_)
  unfold Builtin.«getset_descriptor.__get__» descrGet
  rw [dga_obj]
  refine wpAny_bind (wpAny_pure ?_)
  unfold descrGetter descrCheckInstance descrNameAndClass isInstance
  simp only [KF.owner_class]
  repeat lk
  refine ⟨Code.quiet_builtin _ (by decide +kernel), codeAny_builtin KF.entry_class ?_⟩
  unfold Builtin.«object.__class__» shownTypeOf
  repeat lk
  exact h
theorem Zq3 {Q : Option Value → Shared → Prop} (hga : findIn K (.ref D) "__getattribute__" = some (some (.builtin "BaseException.__getattribute__"))) (hgt : findIn K (.ref D) "__getattr__" = some none) (hsub : subIn K (.ref D) (.type "BaseException") = some true)
    (hdct : hasDictIn K D = true) (ha : findIn K (.ref D) "__class__" = some (some (.builtin "object.__class__")))
    (hn : specialIn K (.builtin "object.__class__") "__get__" = some (some (.builtin "getset_descriptor.__get__"))) (htk : takesIn K (.builtin "object.__class__") = some true) (hm : mroIn K D (.type "object") = some true)
    (X : K.In s.heap) (I : AtX s.heap x ox D) (h : Q (some (.ref D)) { s with toks := s.toks + 1 }) : wpAny (model prog w) A (getAttr? (.ref x) "__class__") Q E s := by
  obtain ⟨hp, g, d, t, os⟩ := s
  have L0 := I.type (M := model prog w)
  have L1 := looks_findIn (M := model prog w) X hga
  have L2 := looks_findIn (M := model prog w) X hgt
  have L3 := Zox (M := model prog w) (x := x) X ha hn htk
  have sub : Looks (model prog w) hp (isInstance (.ref x) (.type "BaseException")) true := L0.andThen (looks_subIn X hsub)
  have hx0 : (false && onTheHeap (Value.builtin "BaseException.__getattribute__")) = false := rfl
  have hx2 : (Value.builtin "BaseException.__getattribute__" == Value.builtin "object.__getattribute__") = false := by decide +kernel
  have hx1 : (onTheHeap (Value.ref D) && Value.builtin "BaseException.__getattribute__" == Value.builtin "object.__getattribute__") = false := by rw [hx2]; rfl
  unfold getAttr? getAttrBy? getAttrBy
  refine wpAny_bind (wpAny_mkText (wpAny_bind (wpAny_attempt (wpAny_holding (wpAny_bind (L0.at (wpAny_bind (L1.at ?_))))))))
  show wpAny _ _ (if (onTheHeap (Value.ref D) && Value.builtin "BaseException.__getattribute__" == Value.builtin "object.__getattribute__") = true then _ else _) _ _ _
  rw [hx1, if_neg Bool.false_ne_true]
  unfold getAttrByItsOwn hookBefore
  refine wpAny_bind ?_
  rw [if_pos (show onTheHeap (Value.ref D) = true from rfl)]
  refine L2.at ?_
  refine wpAny_bind (wpAny_attempt (wpAny_holding ?_))
  unfold callGetattribute
  rw [hx0, if_neg Bool.false_ne_true]
  unfold boundAndCalled
  rw [PySem.F.excAttr_ValueError.ga.bind (.ref x)]
  refine wpAny_bind (wpAny_pure ?_)
  show wpAny _ _ (call (.builtin "BaseException.__getattribute__") [.ref x, .str "__class__" t]) _ _ _
  refine wpAny_call (codeAny_call_builtin PySem.F.excAttr_ValueError.ga.plain PySem.F.entry_bexc_ga ?_)
  refine @check_slot (model prog w) _ _ ⟨hp, g, d, t + 1, os⟩ "BaseException.__getattribute__" "BaseException" "__getattribute__" (.ref x) [.str "__class__" t] [] _ (by decide +kernel) (by decide +kernel) sub (PySem.F.args_bexc_ga (.ref x) (.str "__class__" t)) ?_
  unfold Builtin.«object.__getattribute__»
  refine wpAny_bind (wpAny_of_eq (a := ((Value.ref x : Value), [Value.str "__class__" t])) (by first | rfl | (simp only [slotArgs]; rfl)) ?_)
  refine wpAny_bind (wpAny_pure (wpAny_bind (L0.at (wpAny_bind (L3.at ?_)))))
  show wpAny _ _ (holding [Value.builtin "object.__class__"] (call (.builtin "getset_descriptor.__get__") [.builtin "object.__class__", .ref x, .ref D]) >>= ret) _ _ _
  refine wpAny_bind (wpAny_holding (wpAny_call (Zq2 (s := ⟨hp, g, d, t + 1, os⟩) (ox := ox) X I hm ?_)))
  refine wpAny_pure ?_
  show wpAny _ _ (handedOut (.ref D)) _ _ _
  rw [handedOut_of (v := .ref D) rfl]
  first
    | exact wpAny_pure (wpAny_pure h)
    | exact wpAny_pure h
    | exact wpAny_pure (wpAny_bind (wpAny_pure (wpAny_pure h)))
theorem kitx_excX (hga : findIn K (.ref D) "__getattribute__" = some (some (.builtin "BaseException.__getattribute__"))) (hgt : findIn K (.ref D) "__getattr__" = some none) (hsub : subIn K (.ref D) (.type "BaseException") = some true) (hdct : hasDictIn K D = true) (ha : findIn K (.ref D) "__class__" = some (some (.builtin "object.__class__")))
    (hn : specialIn K (.builtin "object.__class__") "__get__" = some (some (.builtin "getset_descriptor.__get__"))) (htk : takesIn K (.builtin "object.__class__") = some true) (hm : mroIn K D (.type "object") = some true) :
    KitX K (.ref x) (.ref D) (fun h => AtX h x ox D) where
  ty := fun _ _ _ I => I.type
  it := fun _ _ X _ => by
    obtain ⟨cdD, hcD, _⟩ := any_some hdct
    unfold clsIn at hcD
    split at hcD
    · rename_i c' d' cd' sl' ho
      intro A' Q' E' s' k q
      unfold isType loadHead
      exact wpAny_bind (wpAny_loadPart (k _ _ (X _ _ ho)) (wpAny_pure q))
    · cases hcD
  ne := fun h tp dd its n sl X htp => by
    obtain ⟨cdD, hcD, _⟩ := any_some hdct
    refine Bool.eq_false_iff.mpr fun q => ?_
    have e : D = tp := Value.ref.inj (beq_iff_eq.mp q)
    subst e
    unfold clsIn at hcD
    split at hcD
    · rename_i c' d' cd' sl' ho
      have z := (X _ _ ho).symm.trans htp
      cases z
    · cases hcD
  ca := fun X I k => Zq3 hga hgt hsub hdct ha hn htk hm X I k
end
end DLQ
namespace DL
open PySem PySem.Spec PyProof.Rows L2
theorem Zwk {X : Cx} {a D : Addr} {oe : Obj} {dd : Option Addr} {pn : List (Addr × Obj)} (C : ExcC X.K D) (hz : Zc (.ref D) dd oe) : CallR (X.suite a ((a, oe) :: pn)) (.builtin "isinstance") (rIsE X.K D a) := by
  intro pins s σ H xs us Q I r h
  obtain ⟨c, cv, b, rfl, hcv, e, q⟩ := h
  cases r with
  | cons rx rr =>
    cases rr with
    | cons rt rr =>
      cases rr
      cases rx
      have ec := hcv _ rt
      subst ec
      obtain ⟨hget, _⟩ := I.pin (a, oe) (List.mem_append.mpr (.inl List.mem_cons_self))
      have J : DLQ.AtX s.heap a oe D := ⟨hget, hz.1⟩
      exact PySem.W.kia_one (DLQ.kitx_excX C.hg C.hk C.hs C.hd C.ha C.hn C.ht C.hm) I.kIn J e (fun z => nomatch z) fun tk => ⟨.bl b, H, I.kept (t' := tk) fun _ _ z => z, rfl, q⟩
section
variable {X : Cx} {F : Fr} {W : WX} {e : Expr} {we : WE} {p tp pos : Pos} {a A : Addr} {oe : Obj} {dd : Option Addr} {pn : List (Addr × Obj)} {c T : Str} {b : Bool}
theorem Zmm (I : IsE F.K F.mg c T b) (hA : F.mg c = some (.ref A)) (hz : Zc (.ref A) dd oe) (hm : X.mg "isinstance" = none) (he : DE (X.suite a ((a, oe) :: pn)) F W e we) (hg : Gl X "isinstance" := by rfl) (hgT : Gl X T := by rfl) (hdT : (T == ("__debug__" : Str)) = false := by decide)
    (hs : starEach (e :: [.Name T tp]) X.env = (false, eval e X.env) :: starEach [.Name T tp] X.env := by rfl) (hpl : (backTo pos (starEach [.Name T tp] X.env)).any (·.1) = false := by rfl) (hK : X.K = F.K := by rfl) (hM : X.mg = F.mg := by rfl) :
    DE (X.suite a ((a, oe) :: pn)) F W (.Call (.Name "isinstance" p) [e, .Name T tp] [] pos) (wUn (oIsX a b) we) := by
  obtain ⟨A', hA', EC, I⟩ := I
  rw [hA] at hA'
  cases hA'
  have EC' : ExcC X.K A := by rw [hK]; exact EC
  have go : ∀ {cv : V} {cu : Value}, (∀ u, RelV cv u → u = cu) → PySem.W.kitOne F.K (.ref A) cu = some b → PE (X.suite a ((a, oe) :: pn)) (.Name T tp) (tC cv) → DE (X.suite a ((a, oe) :: pn)) F W (.Call (.Name "isinstance" p) [e, .Name T tp] [] pos) (wUn (oIsX a b) we) := fun {cv cu} h1 h2 h3 => by
    refine ⟨Zbr (pe_callB (X := X.suite a ((a, oe) :: pn)) (r := rIsE X.K A a) (Zwk EC' hz) hg hm (by decide +kernel) (pa_cons he.run (pa_cons h3 pa_nil) hs) (by decide) (by decide) hs hpl) fun σ H Q ⟨l, env, k, q⟩ => ?_, Zaq he.mono Zcz⟩
    refine ⟨l, env, k, Zbe he.mono q (fun x hx v H1 c1 => ?_) fun c fs z => z⟩
    unfold oIsX at hx
    split at hx
    · rename_i a'
      obtain ⟨rfl, hx⟩ := hx
      obtain ⟨S, g, cc, _⟩ := id c1
      have ev : some v = some (V.ref a') := cc _ List.mem_cons_self
      cases ev
      exact ⟨cv, cu, b, rfl, h1, by rw [hK]; exact h2, hx _ H1 (c1.tail.bl _)⟩
    · exact hx.elim
  rcases I with ⟨C, h1, h2⟩ | ⟨U, h1, h2, h3, h4⟩
  · exact go (cv := .ref C) (fun u r => r) h2 (pe_glob (X := X.suite a ((a, oe) :: pn)) hgT (by rw [← hM] at h1; exact h1) rfl hdT)
  · exact go (cv := .ty U) (fun u r => r) h4 (pe_bltn (X := X.suite a ((a, oe) :: pn)) hgT (by rw [← hM] at h1; exact h1) h2 rfl h3 hdT)
end
end DL
set_option Elab.async false
set_option linter.all false
set_option maxRecDepth 100000
set_option maxHeartbeats 4000000
namespace DL
open PySem PySem.Spec PyProof.Rows L2
section
variable {X : Cx} {F : Fr} {W : WX} {e : Expr} {we : WE} {k : Nat} {p1 p2 p3 pos : Pos}
end
end DL
set_option Elab.async false
set_option linter.all false
set_option maxRecDepth 100000
set_option maxHeartbeats 4000000
namespace DL
open PySem PySem.Spec PyProof.Rows L2
section
variable {X : Cx} {F : Fr} {W : WX} {a : Expr} {x : Str} {pos p1 : Pos} {i : Nat}
end
end DL
set_option Elab.async false
set_option linter.all false
set_option maxRecDepth 100000
set_option maxHeartbeats 4000000
namespace DL
open PySem PySem.Spec PyProof.Rows L2
section
variable {X : Cx} {F : Fr} {W : WX} {e o : Expr} {wm : WM} {i : Nat} {pos apos cpos : Pos}
end
end DL
set_option Elab.async false
set_option linter.all false
set_option maxRecDepth 100000
set_option maxHeartbeats 4000000
namespace DL
open PySem PySem.Spec PyProof.Rows L2
section
variable {X : Cx} {F : Fr} {W : WX} {e : Expr} {we : WE} {x : Str} {apos cpos pos p2 p3 p4 : Pos}
end
end DL
set_option Elab.async false
set_option linter.all false
set_option maxRecDepth 100000
set_option maxHeartbeats 4000000
namespace DL
open PySem PySem.Spec PyProof.Rows L2
structure FnHot (P : Program) (w : World) (K : PySem.W.Frag) (mg : Str → Option Value) (base : Heap) (k : Nat) (f : Addr) (fd : FuncData) (ps : List Str) (po : Addr × Obj) (sp : Sp) : Prop where
  len : ∀ vs H Q E, sp vs H Q E → vs.length = ps.length
  run : ∀ (A : Around) (outer : List PySem.Env) (s : Shared) (H : Hp) (args : Args) (us : List Value) (vs : List V) (Q : VK) (E : XK), L2H.RoomH k A → L2H.PinOk outer H s po → Env0 P w K mg base A outer s H → BindsTo s fd args (ps.zip us) → Vals vs us → sp vs H Q E →
    codeAny (model P w) A (.call (.ref f) args) (CR (L2.CX P w) outer P w H s Q E) s
section
variable {P : Program} {w : World} {K : PySem.W.Frag} {mg : Str → Option Value} {base : Heap}
end
section
variable {P : Program} {w : World} {K : PySem.W.Frag} {mg : Str → Option Value} {base : Heap}
end
section
variable {X : Cx} {F : Fr} {W : WX} {e : Expr} {we : WE} {p tp pos : Pos} {a A : Addr} {oe : Obj} {dd : Option Addr} {c T : Str} {b : Bool}
end
section
variable {X : Cx} {F : Fr} {W : WX} {x y : Str} {p p2 pos : Pos} {a : Addr} {oe : Obj} {pn : List (Addr × Obj)} {i : Nat}
end
end DL
set_option Elab.async false
set_option linter.all false
set_option maxRecDepth 100000
set_option maxHeartbeats 4000000
namespace DL
open PySem PySem.Spec PyProof.Rows L2
section
variable {F : Fr} {H : Hp} {l : List Cell} {env : En} {σ : L2.St} {i n : Nat}
end
section
variable {X : Cx} {F : Fr} {W : WX} {es : List Expr} {wA : WA} {pos p p2 p3 : Pos}
end
end DL
set_option Elab.async false
set_option linter.all false
set_option maxRecDepth 100000
set_option maxHeartbeats 4000000
namespace DL
open PySem PySem.Spec PyProof.Rows L2
noncomputable def oIdx : O2 := fun x y k => match x.dat, y with
  | some (.lst ds), .sh (.str z) => ∃ zs : List Str, ds = zs.map D.str ∧ z ∈ zs ∧ k (.sh (.int ((zs.idxOf z : Nat) : Int)))
  | _, _ => False
theorem Zsw : Ziy oIdx := fun x y k k' m h => by
  unfold oIdx at h ⊢
  split at h
  · obtain ⟨zs, e, hz, q⟩ := h
    exact ⟨zs, e, hz, m _ q⟩
  · exact h.elim
noncomputable def wIdx (wa wb : WE) : WE := fun env Q => wa env (rk (fun x => (∃ ds, x.dat = some (.lst ds)) ∧ wb env (rk (fun y => oIdx x y fun z => Q (.ok z)) Q)) Q)
theorem Z0m {wa wb : WE} (ha : Mono wa) (hb : Mono wb) : Mono (wIdx wa wb) := fun env Q Q' m h =>
  Za3 ha (fun x hx => ⟨hx.1, Za3 hb (fun y hy => Zsw x y _ _ (fun z hz => m _ hz) hy) m hx.2⟩) m h
noncomputable def rIdx (K : PySem.W.Frag) : V → List V → Hp → VK → Prop := fun x xs H Q => ∃ (p : Addr) (zs : List Str) (k : Str), x = .ref p ∧ xs = [.str k] ∧ SqL K H p (zs.map V.str) ∧ k ∈ zs ∧ Q (.int ((zs.idxOf k : Nat) : Int)) H
theorem Znp : ∀ {zs : List Str} {us : List Value}, Vals (zs.map V.str) us → StrsAre us zs
  | [], _, .nil => .nil
  | z :: zs, _, .cons r rr => by
    obtain ⟨t, rfl⟩ := r
    exact .cons z t (Znp rr)
theorem Zwo {X : Cx} : MtR X "list.index" (rIdx X.K) := by
  intro pins s σ H x xs v us Q I r rs h
  obtain ⟨p, zs, k, rfl, rfl, hq, hk, q⟩ := h
  obtain ⟨its, r', pl, hz⟩ := I.list hq
  obtain ⟨u, rfl, t, rfl⟩ := rs.one
  cases r
  rw [List.length_map] at hz
  exact PySem.SeqAt.list_index_strs pl.isList (Znp r') hz hk ⟨.int ((zs.idxOf k : Nat) : Int), H, I.tok _, ⟨_, rfl⟩, q⟩
section
variable {X : Cx} {F : Fr} {W : WX} {a b : Expr} {wa wb : WE} {apos cpos : Pos}
theorem Zzk (ha : DE X F W a wa) (hb : DE X F W b wb) (hbase : attributeBase a "index" X.env (eval a X.env) = eval a X.env := by rfl)
    (hfew : ((backTo cpos (starEach [b] X.env)).all (fun x => !x.1) && (backToKw cpos (keywordEach [] X.env)).all (fun x => x.1.isSome) && decide (([b] : List Expr).length + ([] : List Keyword).length + (if ([] : List Keyword).isEmpty then 0 else 1) < 30)) = true := by rfl)
    (hline : (apos.endLine == cpos.line) = true := by rfl) (hs : starEach [b] X.env = (false, eval b X.env) :: starEach [] X.env := by rfl) (hpl : (backTo cpos (starEach [] X.env)).any (·.1) = false := by rfl) (hK : X.K = F.K := by rfl) :
    DE X F W (.Call (.Attribute a "index" apos) [b] [] cpos) (wIdx wa wb) := by
  refine ⟨Zbr (pe_bm (r := rIdx X.K) PySem.F.plainAttrs_list PySem.F.slot_list_index PySem.F.type_list_index Zwo ha.run (pa_cons hb.run pa_nil hs) hbase hfew hline hs hpl) fun σ H Q ⟨l, env, k, q⟩ => ⟨l, env, k, Zbe ha.mono q (fun x hx v H1 c1 => ?_) fun c fs q => q⟩, Z0m ha.mono hb.mono⟩
  obtain ⟨⟨ds, hd⟩, hx⟩ := hx
  obtain ⟨a0, vs, ea, hl, hlen, S, g, r, cc, pw⟩ := c1.seqL hd
  cases ea
  refine ⟨.inl ⟨rfl, vs, by rw [hK]; exact hl⟩, (x, some (.ref a0)) :: l, env, k.to1 c1, Zbe hb.mono hx (fun y hy u H2 c2 => ?_) fun c fs q => fun A d H' hA hx c3 => q A d H' hA hx c3.tail⟩
  have c2' : C F ((y, some u) :: (x, some (V.ref a0)) :: (l ++ env.zip σ)) H2 := c2
  unfold oIdx at hy
  split at hy
  · rename_i ds' z hd'
    obtain ⟨zs, e, hz, hk⟩ := hy
    subst e
    obtain ⟨a1, vs2, ea, hl2, hlen2, S2, g2, r2, cc2, pw2⟩ := c2'.tail.seqL hd'
    cases ea
    have eu := c2'.shStr
    cases eu
    rw [Zej r2] at hl2
    exact ⟨a0, zs, z, rfl, rfl, by rw [hK]; exact hl2, hz, hk _ H2 (c2'.tail.tail.int _)⟩
  · exact hy.elim
end
section
variable {X : Cx} {F : Fr} {W : WX} {x : Str} {pos p : Pos}
theorem Zuo {CX : CXT} {k : Nat} {f : Addr} {fd : FuncData} {ps : List Str} {sp : Sp} {E : L2.St → XK} (Fk : FnOk X.prog X.w X.K X.mg X.base CX k f fd ps sp) (hr : L2.Room k X.A) (hg : Gl X x) (hm : X.mg x = some (.ref f)) (hk : PySem.W.keepIn X.K (.ref f) = true) (hb : Binds X.K fd ps []) (hx : ∀ σ, PassesAt CX X σ (E σ)) (hdb : (x == ("__debug__" : Str)) = false) :
    PE X (.Call (.Name x p) [] [] pos) (tCallS sp E tNil) := by
  refine ⟨fun pins s σ H Q I h => ?_⟩
  refine wpAny_Call_Name_kw (ld_glob I hg hm ?_ hdb)
  exact PySem.W.callWith_K0 I.kIn hk (run_fnS (us := []) Fk hr hb (hx σ) I .nil h)
theorem Zys {k j : Nat} {γ : G} (A : FnAt X.prog X.w F.K F.mg X.base x k 0 γ) (hr : Room j X.A) (hj : k ≤ j) (tk : Takes X W) (hg : Gl X x := by rfl) (hdb : (x == ("__debug__" : Str)) = false := by decide) (hK : X.K = F.K := by rfl) (hM : X.mg = F.mg := by rfl) :
    DE X F W (.Call (.Name x p) [] [] pos) (Zcx γ aNil) := by
  obtain ⟨⟨f, fd, ps, Fk, hm, hk, hb⟩, m⟩ := A
  refine ⟨Zbr (Zuo (E := L2.WE W) (sp := spG F.K F.mg 0 γ) (by rw [hK, hM]; exact Fk) (hr.mono hj) hg (by rw [hM]; exact hm) (by rw [hK]; exact hk) (by rw [hK]; exact hb) (fun σ => passAt tk σ) hdb) fun σ H Q ⟨l, env, k, q⟩ => ?_, fun env Q Q' mm q => m _ _ _ (Zjc mm) q⟩
  obtain ⟨S, g, cc, pw, ce⟩ := C.enter (xs := []) (vs := []) (l := l ++ env.zip σ) k.c rfl
  have q : γ [] (outK (LEp F W l env σ Q)) := q
  refine ⟨rfl, [], S, H, rfl, fun x hx => by simp at hx, ce, m _ _ _ (fun r z => ?_) q⟩
  cases r with
  | ok x =>
    cases x with
    | sh d => exact fun v H' c2 => z v H' (C.leave g cc pw c2 fun p hp => by
        have e : p = (.sh d, some v) := by simpa using hp
        exact .inl ⟨d, _, e⟩)
    | ow d => exact fun v H' c2 => z v H' (C.leave g cc pw c2 fun p hp => by
        have e : p = (.ow d, some v) := by simpa using hp
        exact .inr (.inl ⟨d, _, e⟩))
    | nd d => exact fun v H' c2 => z v H' (C.leave g cc pw c2 fun p hp => by
        have e : p = (.nd d, some v) := by simpa using hp
        exact .inr (.inr ⟨d, _, e⟩))
    | rt _ _ => exact (show False from z).elim
    | _ => exact z
  | ex c fs => exact fun A d H' hA hx c2 => z A d H' hA hx (C.leave (m := []) g cc pw c2 fun p hp => by simp at hp)
end
end DL
set_option Elab.async false
set_option linter.all false
set_option maxRecDepth 100000
set_option maxHeartbeats 4000000
namespace DL
open PySem PySem.Spec PyProof.Rows L2
inductive Fault where
  | stuck | exc (c : Str) (fs : List (Str × D))
noncomputable abbrev P := Except Fault
@[reducible] noncomputable def stuck {α : Type} : P α := .error .stuck
@[reducible] noncomputable def raise {α : Type} (c : String) : P α := .error (.exc (PySem.Str.ofString c) [])
noncomputable def Zfw {α β : Type} (a : α) (f : α → β) : β := f a
noncomputable def bd {α β : Type} (m : P α) (f : α → P β) : P β := match m with
  | .ok a => f a
  | .error e => .error e
theorem Zam {α β : Type} {a : α} {f : α → P β} : bd (.ok a) f = f a := rfl
inductive Out (σ ρ : Type) where
  | nx (s : σ) | ct (s : σ) | bk (s : σ) | ret (r : ρ)
noncomputable def Zdg {α σ ρ : Type} (step : σ → α → P (Out σ ρ)) : List α → σ → P (Out σ ρ)
  | [], s => .ok (.nx s)
  | x :: xs, s => bd (step s x) fun o => match o with
    | .nx s' => Zdg step xs s'
    | .ct s' => Zdg step xs s'
    | .bk s' => .ok (.nx s')
    | .ret r => .ok (.ret r)
noncomputable def Zhk {α σ : Type} (step : σ → α → P σ) : List α → σ → P σ
  | [], s => .ok s
  | x :: xs, s => bd (step s x) fun s' => Zhk step xs s'
noncomputable def aft {σ ρ τ : Type} (m : P (Out σ ρ)) (ret : ρ → P τ) (nx : σ → P τ) : P τ := bd m fun o => match o with
  | .nx s => nx s
  | .ct s => nx s
  | .bk s => nx s
  | .ret r => ret r
noncomputable def Zhw {α : Type} (m : P α) (f : α → Slot) (Q : R Slot → Prop) : Prop := match m with
  | .ok a => Q (.ok (f a))
  | .error (.exc c fs) => Q (.ex c fs)
  | .error .stuck => False
noncomputable def Zed {α : Type} (m : P α) (cv : α → O) (K : O → Prop) : Prop := match m with
  | .ok a => K (cv a)
  | .error (.exc c fs) => ∀ e, K (.ex c fs e)
  | .error .stuck => False
noncomputable def EvP (env : En) (w : WE) (s : Slot) : Prop := ∀ Q : R Slot → Prop, Q (.ok s) → w env Q
noncomputable def EvM {α : Type} (env : En) (w : WE) (f : α → Slot) (m : P α) : Prop := ∀ Q : R Slot → Prop, Zhw m f Q → w env Q
noncomputable def EvA (env : En) (w : WA) (xs : List Slot) : Prop := ∀ Q : R (List Slot) → Prop, Q (.ok xs) → w env Q
noncomputable def EvI (env : En) (w : WI) (ds : List D) : Prop := ∀ Q : R (List D) → Prop, Q (.ok ds) → w env Q
noncomputable def EvO (env : En) (w : WO) (o : Option Int) : Prop := ∀ Q : R (Option Int) → Prop, Q (.ok o) → w env Q
noncomputable def OpP (o : O2) (x y z : Slot) : Prop := ∀ k : Slot → Prop, k z → o x y k
noncomputable def UnP (o : O1) (x z : Slot) : Prop := ∀ k : Slot → Prop, k z → o x k
noncomputable def ofO {α : Type} : Option α → P α
  | some a => .ok a
  | none => stuck
noncomputable def OpM {α : Type} (o : O2) (x y : Slot) (f : α → Slot) (m : Option α) : Prop := ∀ (k : Slot → Prop) (a : α), m = some a → k (f a) → o x y k
noncomputable def UnM {α : Type} (o : O1) (x : Slot) (f : α → Slot) (m : Option α) : Prop := ∀ (k : Slot → Prop) (a : α), m = some a → k (f a) → o x k
noncomputable def Sim {α : Type} (γ : G) (xs : List Slot) (f : α → Slot) (m : P α) : Prop := ∀ Q : R Slot → Prop, Zhw m f Q → γ xs Q
noncomputable def B {τ : Type} (env : En) (w : WS) (cv : τ → O) (m : P τ) : Prop := ∀ K : O → Prop, Zed m cv K → w env K
noncomputable def BT {τ : Type} (env : En) (g : WG) (v : Slot) (w : WS) (cv : τ → O) (m : P τ) : Prop := ∀ K : O → Prop, Zed m cv K → g v env fun e => w e K
@[reducible] noncomputable def shE {α : Type} (enc : α → D) : α → Slot := fun a => .sh (enc a)
@[reducible] noncomputable def owE {α : Type} (enc : α → D) : α → Slot := fun a => .ow (enc a)
@[reducible] noncomputable def blE : Bool → Slot := fun b => .sh (.bl b)
theorem specE_bd {α β : Type} {m : P α} {mm : α → P β} {g : β → Slot} {Q : R Slot → Prop} (h : Zhw (bd m mm) g Q) : (∃ a, m = .ok a ∧ Zhw (mm a) g Q) ∨ ∃ c fs, m = .error (.exc c fs) ∧ Q (.ex c fs) := by
  cases m with
  | ok a => exact .inl ⟨a, rfl, h⟩
  | error e => cases e with
    | stuck => exact h.elim
    | exc c fs => exact .inr ⟨c, fs, rfl, h⟩
theorem specO_bd {α β : Type} {m : P α} {mm : α → P β} {cv : β → O} {K : O → Prop} (h : Zed (bd m mm) cv K) : (∃ a, m = .ok a ∧ Zed (mm a) cv K) ∨ ∃ c fs, m = .error (.exc c fs) ∧ ∀ e, K (.ex c fs e) := by
  cases m with
  | ok a => exact .inl ⟨a, rfl, h⟩
  | error e => cases e with
    | stuck => exact h.elim
    | exc c fs => exact .inr ⟨c, fs, rfl, h⟩
section
variable {env : En} {w wa wb wc : WE} {wA : WA} {wi : WI} {α β δ : Type}
theorem EvP.m {f : α → Slot} {v : α} (h : EvP env w (f v)) : EvM env w f (.ok v) := fun Q q => h Q q
theorem Zcl {m : Option α} {f : α → Slot} {Q : R Slot → Prop} (q : Zhw (ofO m) f Q) : ∃ a, m = some a ∧ Q (.ok (f a)) := by
  cases m with
  | some a => exact ⟨a, rfl, q⟩
  | none => exact q.elim
theorem Zcs {o : O1} {x z : Slot} (h : EvP env wa x) (ho : UnP o x z) : EvP env (wUn o wa) z := fun Q q => h _ (ho _ q)
theorem Zde {o : O1} {x : Slot} {f : α → Slot} {m : Option α} (h : EvP env wa x) (ho : UnM o x f m) : EvM env (wUn o wa) f (ofO m) := fun Q q => h _ (by
  obtain ⟨a, e, q⟩ := Zcl q
  exact ho _ a e q)
theorem Zg2 {k : Slot → Prop} {fa : α → Slot} {ma : P α} {mm : α → P β} {f : β → Slot} {Q : R Slot → Prop} (h : EvM env wa fa ma) (q : Zhw (bd ma mm) f Q) (hk : ∀ a, Zhw (mm a) f Q → k (fa a)) : wa env (rk k Q) := h _ (by
  rcases specE_bd q with ⟨a, e, q⟩ | ⟨c, fs, e, q⟩
  · rw [e]; exact hk a q
  · rw [e]; exact q)
theorem Zqe {o : O1} {fa : α → Slot} {ma : P α} {f : β → Slot} {mm : α → Option β} (h : EvM env wa fa ma) (ho : ∀ a, UnM o (fa a) f (mm a)) : EvM env (wUn o wa) f (bd ma fun a => ofO (mm a)) := fun Q q =>
  Zg2 h q fun a q => by
    obtain ⟨b, e, q⟩ := Zcl q
    exact ho a _ b e q
theorem Zv2 {o : O1} {fa : α → Slot} {ma : P α} {f : β → Slot} {mm : α → β} (h : EvM env wa fa ma) (ho : ∀ a, UnP o (fa a) (f (mm a))) : EvM env (wUn o wa) f (bd ma fun a => .ok (mm a)) := fun Q q =>
  Zg2 h q fun a q => ho a _ q
theorem Za1 {o : O2} {x y z : Slot} (h : EvP env wa x) (h2 : EvP env wb y) (ho : OpP o x y z) : EvP env (wOp o wa wb) z := fun Q q => h _ (h2 _ (ho _ q))
theorem Zct {o : O2} {x y : Slot} {f : α → Slot} {m : Option α} (h : EvP env wa x) (h2 : EvP env wb y) (ho : OpM o x y f m) : EvM env (wOp o wa wb) f (ofO m) := fun Q q => h _ (h2 _ (by
  obtain ⟨a, e, q⟩ := Zcl q
  exact ho _ a e q))
theorem Zlk {o : O2} {x : Slot} {fa : α → Slot} {ma : P α} {f : β → Slot} {mm : α → Option β} (h : EvP env wa x) (h2 : EvM env wb fa ma) (ho : ∀ a, OpM o x (fa a) f (mm a)) : EvM env (wOp o wa wb) f (bd ma fun a => ofO (mm a)) := fun Q q => h _ (Zg2 h2 q fun a q => by
    obtain ⟨b, e, q⟩ := Zcl q
    exact ho a _ b e q)
theorem Zqv {o : O2} {x : Slot} {fa : α → Slot} {ma : P α} {f : β → Slot} {mm : α → β} (h : EvP env wa x) (h2 : EvM env wb fa ma) (ho : ∀ a, OpP o x (fa a) (f (mm a))) : EvM env (wOp o wa wb) f (bd ma fun a => .ok (mm a)) := fun Q q => h _ (Zg2 h2 q fun a q => ho a _ q)
theorem Zb9 {o : O2} {y : Slot} {fa : α → Slot} {ma : P α} {f : β → Slot} {mm : α → β} (h : EvM env wa fa ma) (h2 : EvP env wb y) (ho : ∀ a, OpP o (fa a) y (f (mm a))) : EvM env (wOp o wa wb) f (bd ma fun a => .ok (mm a)) := fun Q q => Zg2 h q fun a q => h2 _ (ho a _ q)
theorem Zsa {o : O2} {y : Slot} {fa : α → Slot} {ma : P α} {f : β → Slot} {mm : α → Option β} (h : EvM env wa fa ma) (h2 : EvP env wb y) (ho : ∀ a, OpM o (fa a) y f (mm a)) : EvM env (wOp o wa wb) f (bd ma fun a => ofO (mm a)) := fun Q q => Zg2 h q fun a q => h2 _ (by
    obtain ⟨b, e, q⟩ := Zcl q
    exact ho a _ b e q)
theorem Zdq {o : O2} {fa : α → Slot} {ma : P α} {fb : δ → Slot} {mb : P δ} {f : β → Slot} {mm : α → δ → Option β} (h : EvM env wa fa ma) (h2 : EvM env wb fb mb) (ho : ∀ a b, OpM o (fa a) (fb b) f (mm a b)) : EvM env (wOp o wa wb) f (bd ma fun a => bd mb fun b => ofO (mm a b)) := fun Q q => Zg2 h q fun a q => Zg2 h2 q fun b q => by
    obtain ⟨c, e, q⟩ := Zcl q
    exact ho a b _ c e q
theorem Zaf {i : Nat} {d : D} (h : env[i]? = some (.sh d)) : EvP env (wVar i) (.sh d) := fun Q q => by
  unfold wVar; rw [h]; exact q
theorem Zbt {i : Nat} {d : D} (h : env[i]? = some (.ow d)) : EvP env (wVar i) (.bt d) := fun Q q => by
  unfold wVar; rw [h]; exact q
theorem Zan {i : Int} : EvP env (wInt i) (.sh (.int i)) := fun Q q => q
theorem Zh1 {i : Bool} : EvP env (wBl i) (.sh (.bl i)) := fun Q q => q
theorem Zal {i : Str} : EvP env (wStr i) (.sh (.str i)) := fun Q q => q
theorem Zfk : EvP env wNon (.sh .non) := fun Q q => q
theorem Zo4 {b : Bool} (h : EvP env wa (.sh (.bl b))) : EvP env (wNot wa) (.sh (.bl !b)) := fun Q q => h _ q
theorem Ztt {m : P Bool} (h : EvM env wa blE m) : EvM env (wNot wa) blE (bd m fun b => .ok !b) := fun Q q => Zg2 h q fun a q => q
theorem Zo2 {a b : Bool} (h : EvP env wa (.sh (.bl a))) (h2 : EvP env wb (.sh (.bl b))) : EvP env (wAnd wa wb) (.sh (.bl (a && b))) := fun Q q => h _ (by
  cases a
  · exact q
  · exact h2 _ q)
theorem Zwt {a b : Bool} (h : EvP env wa (.sh (.bl a))) (h2 : EvP env wb (.sh (.bl b))) : EvP env (wOr wa wb) (.sh (.bl (a || b))) := fun Q q => h _ (by
  cases a
  · exact h2 _ q
  · exact q)
theorem Zo5 {a : Bool} {m : P Bool} (h : EvP env wa (.sh (.bl a))) (h2 : EvM env wb blE m) : EvM env (wAnd wa wb) blE (cond a m (.ok false)) := fun Q q => h _ (by
  cases a
  · exact q
  · exact h2 _ q)
theorem Zsr {a : Bool} {m : P Bool} (h : EvP env wa (.sh (.bl a))) (h2 : EvM env wb blE m) : EvM env (wOr wa wb) blE (cond a (.ok true) m) := fun Q q => h _ (by
  cases a
  · exact h2 _ q
  · exact q)
theorem Zm3 {n m : P Bool} (h : EvM env wa blE n) (h2 : EvM env wb blE m) : EvM env (wAnd wa wb) blE (bd n fun a => cond a m (.ok false)) := fun Q q => Zg2 h q fun a q => by
  cases a
  · exact q
  · exact h2 _ q
theorem Zp7 {n m : P Bool} (h : EvM env wa blE n) (h2 : EvM env wb blE m) : EvM env (wOr wa wb) blE (bd n fun a => cond a (.ok true) m) := fun Q q => Zg2 h q fun a q => by
  cases a
  · exact h2 _ q
  · exact q
theorem op_add {a b : Int} : OpP oAdd (.sh (.int a)) (.sh (.int b)) (.sh (.int (a + b))) := fun k q => q
theorem op_mul {a b : Int} (h : CMul a b) : OpP oMul (.sh (.int a)) (.sh (.int b)) (.sh (.int (a * b))) := fun k q => ⟨h, q⟩
theorem op_mod {a b : Int} (h : 0 < b) : OpP oMod (.sh (.int a)) (.sh (.int b)) (.sh (.int (a % b))) := fun k q => ⟨h, q⟩
theorem op_pow {a b c : Int} (h : CPow a b) (e : a ^ b.toNat = c) : OpP oPow (.sh (.int a)) (.sh (.int b)) (.sh (.int c)) := fun k q => ⟨h, by subst e; exact q⟩
noncomputable def modO (a b : Int) : Option Int := if 0 < b then some (a % b) else none
noncomputable def divO (a b : Int) : Option Int := if 0 < b ∧ b ≤ 1000000000000000000000000000000 then some (a / b) else none
theorem Zts {i j : Int} (h : 0 ≤ j ∧ j < 2 ^ 64) : CMul i j := .inr ⟨by omega, h.2⟩
theorem Z1w {i j : Int} (h : 0 ≤ i ∧ i < 2 ^ 64) : CMul i j := .inl ⟨by omega, h.2⟩
theorem Zyj {a s : Int} (h : 0 < s ∧ s ≤ 1000000000000000000000000000000) : CDivW a s := by
  refine ⟨h.1, ?_⟩
  have h1 : s.natAbs < 2 ^ 100 := by have := h.2; omega
  have h2 : s.natAbs ≠ 0 := by omega
  exact Nat.lt_trans ((Nat.log2_lt h2).mpr h1) (by decide)
theorem Zl7 {a b : Int} : OpM oMod (.sh (.int a)) (.sh (.int b)) (shE D.int) (modO a b) := fun k c e q => by
  unfold modO at e
  split at e
  · rename_i h
    cases e
    exact ⟨h, q⟩
  · cases e
theorem Zxn {a b : Int} : OpM oDiv (.sh (.int a)) (.sh (.int b)) (shE D.int) (divO a b) := fun k c e q => by
  unfold divO at e
  split at e
  · rename_i h
    cases e
    exact ⟨Zyj h, q⟩
  · cases e
theorem un_neg {a : Int} : UnP oNeg (.sh (.int a)) (.sh (.int (-a))) := fun k q => q
theorem op_lt {a b : Int} : OpP oLt (.sh (.int a)) (.sh (.int b)) (.sh (.bl (decide (a < b)))) := fun k q => q
theorem op_gt {a b : Int} : OpP oGt (.sh (.int a)) (.sh (.int b)) (.sh (.bl (decide (b < a)))) := fun k q => q
theorem op_ge {a b : Int} : OpP oGe (.sh (.int a)) (.sh (.int b)) (.sh (.bl (decide (b ≤ a)))) := fun k q => q
noncomputable def encL (f : α → D) (xs : List α) : D := .lst (xs.map f)
noncomputable def encO (f : α → D) : Option α → D
  | none => .non
  | some a => f a
end
structure Tx where
  s : Str
  ok : PyData.canLay0 (.str s) = true
noncomputable def encS (t : Tx) : D := .str t.s
noncomputable instance : DecidableEq Tx := fun a b => if h : a.s = b.s then isTrue (by cases a; cases b; cases h; rfl) else isFalse fun e => h (by rw [e])
noncomputable def tx (s : String) (h : PyData.canLay0 (.str (PySem.Str.ofString s)) = true := by decide +kernel) : Tx := ⟨PySem.Str.ofString s, h⟩
structure T2 (a b : Type) where
  (x1 : a) (x2 : b)
  deriving DecidableEq
structure T3 (a b c : Type) where
  (x1 : a) (x2 : b) (x3 : c)
  deriving DecidableEq
structure T4 (a b c d : Type) where
  (x1 : a) (x2 : b) (x3 : c) (x4 : d)
  deriving DecidableEq
structure T5 (a b c d e : Type) where
  (x1 : a) (x2 : b) (x3 : c) (x4 : d) (x5 : e)
  deriving DecidableEq
structure T6 (a b c d e f : Type) where
  (x1 : a) (x2 : b) (x3 : c) (x4 : d) (x5 : e) (x6 : f)
  deriving DecidableEq
section
variable {a b c d e f : Type}
noncomputable def enc2 (fa : a → D) (fb : b → D) (t : T2 a b) : D := .tup [fa t.x1, fb t.x2]
noncomputable def enc4 (fa : a → D) (fb : b → D) (fc : c → D) (fd : d → D) (t : T4 a b c d) : D := .tup [fa t.x1, fb t.x2, fc t.x3, fd t.x4]
end
structure Dct (κ α : Type) where
  l : List (κ × α)
section
variable {κ α : Type} [DecidableEq κ]
noncomputable def Dct.get (m : Dct κ α) (k : κ) : Option α := lk m.l k
noncomputable def Dct.has (m : Dct κ α) (k : κ) : Bool := (m.get k).isSome
noncomputable def Dct.put (m : Dct κ α) (k : κ) (a : α) : Dct κ α := ⟨DL.put m.l k a⟩
noncomputable def Dct.del (m : Dct κ α) (k : κ) : Dct κ α := ⟨DL.del m.l k⟩
end
noncomputable def Dct.keys {κ α : Type} (m : Dct κ α) : List κ := m.l.map (·.1)
structure EqE {α : Type} [DecidableEq α] (n : Nat) (f : α → D) : Prop where
  lay : ∀ a, PyData.canLay0 (f a).py = true
  eq : ∀ a b, PyData.eqv (f a).py (f b).py = decide (a = b)
  dep : ∀ a, (f a).py.depth ≤ n
section
variable {a b c d e f : Type} [DecidableEq a] [DecidableEq b] [DecidableEq c] [DecidableEq d] [DecidableEq e] [DecidableEq f] {n m : Nat}
variable {fa : a → D} {fb : b → D} {fc : c → D} {fd : d → D} {fe : e → D} {ff : f → D}
theorem EqE.up (h : EqE n fa) (hm : n ≤ m) : EqE m fa := ⟨h.lay, h.eq, fun x => Nat.le_trans (h.dep x) hm⟩
theorem Zcq : EqE 1 D.int := ⟨fun _ => rfl, fun i j => by
  show PyData.eqv (.int i) (.int j) = _
  unfold PyData.eqv; rfl, fun i => by show PyData.depth (.int i) ≤ _; unfold PyData.depth; omega⟩
theorem Zq1 : EqE 1 D.bl := ⟨fun _ => rfl, fun i j => by
  show PyData.eqv (.bool i) (.bool j) = _
  unfold PyData.eqv; cases i <;> cases j <;> rfl, fun i => by show PyData.depth (.bool i) ≤ _; unfold PyData.depth; omega⟩
theorem Zb8 : EqE 1 encS := ⟨fun t => t.ok, fun i j => by
  show PyData.eqv (.str i.s) (.str j.s) = _
  unfold PyData.eqv
  by_cases h : i = j
  · subst h; simp
  · rw [decide_eq_false h]
    exact beq_eq_false_iff_ne.mpr fun z => h (by cases i; cases j; cases z; rfl), fun i => by show PyData.depth (.str i.s) ≤ _; unfold PyData.depth; omega⟩
theorem Zt6 {x : PyData} (h : x ≠ .none) : PyData.eqv .none x = false := by
  cases x <;> first | exact absurd rfl h | (unfold PyData.eqv; rfl)
theorem Zt9 {x : PyData} (h : x ≠ .none) : PyData.eqv x .none = false := by
  cases x <;> first | exact absurd rfl h | (unfold PyData.eqv; rfl)
theorem Zs9 (h : EqE n fa) (hn : ∀ x, (fa x).py ≠ .none) (h1 : 1 ≤ n) : EqE n (encO fa) := ⟨fun x => by
  cases x with
  | none => rfl
  | some x => exact h.lay x, fun x y => by
  cases x with
  | none => cases y with
    | none => show PyData.eqv .none .none = _; unfold PyData.eqv; rfl
    | some y => show PyData.eqv .none (fa y).py = _; rw [Zt6 (hn y)]; rfl
  | some x => cases y with
    | none => show PyData.eqv (fa x).py .none = _; rw [Zt9 (hn x)]; rfl
    | some y =>
      show PyData.eqv (fa x).py (fa y).py = _
      rw [h.eq]
      exact decide_eq_decide.mpr ⟨fun z => by rw [z], fun z => Option.some.inj z⟩, fun x => by
  cases x with
  | none => show PyData.depth .none ≤ _; unfold PyData.depth; omega
  | some x => exact h.dep x⟩
theorem Zh3 (h : ∀ x y : a, PyData.eqv (fa x).py (fa y).py = decide (x = y)) : ∀ xs ys : List a, PyData.eqvAll (D.pys (xs.map fa)) (D.pys (ys.map fa)) = decide (xs = ys)
  | [], [] => by show PyData.eqvAll [] [] = _; unfold PyData.eqvAll; rfl
  | [], y :: ys => by show PyData.eqvAll [] (_ :: _) = _; unfold PyData.eqvAll; rfl
  | x :: xs, [] => by show PyData.eqvAll (_ :: _) [] = _; unfold PyData.eqvAll; rfl
  | x :: xs, y :: ys => by
    show PyData.eqvAll ((fa x).py :: D.pys (xs.map fa)) ((fa y).py :: D.pys (ys.map fa)) = _
    unfold PyData.eqvAll
    rw [h, Zh3 h xs ys, ← Bool.decide_and]
    exact decide_eq_decide.mpr ⟨fun z => by rw [z.1, z.2], fun z => by injection z with z1 z2; exact ⟨z1, z2⟩⟩
theorem Zh6 (h : ∀ x : a, PyData.canLay0 (fa x).py = true) : ∀ xs : List a, PyData.canLayAll0 (D.pys (xs.map fa)) = true
  | [] => rfl
  | x :: xs => by
    show PyData.canLayAll0 ((fa x).py :: D.pys (xs.map fa)) = true
    unfold PyData.canLayAll0
    rw [h, Zh6 h xs]; rfl
theorem Zif (h : ∀ x : a, (fa x).py.depth ≤ n) : ∀ xs : List a, PyData.depthAll (D.pys (xs.map fa)) ≤ n
  | [] => by show PyData.depthAll [] ≤ _; unfold PyData.depthAll; omega
  | x :: xs => by
    show PyData.depthAll ((fa x).py :: D.pys (xs.map fa)) ≤ n
    unfold PyData.depthAll
    have := h x
    have := Zif h xs
    omega
theorem Z1b (h : EqE n fa) : EqE (n + 1) (encL fa) := ⟨fun xs => Zh6 h.lay xs, fun xs ys => by
  show PyData.eqv (.list (D.pys (xs.map fa))) (.list (D.pys (ys.map fa))) = _
  rw [PyData.eqv, Zh3 h.eq], fun xs => by
  show PyData.depth (.list (D.pys (xs.map fa))) ≤ _
  unfold PyData.depth
  have := Zif h.dep xs
  omega⟩
theorem Z2g (h1 : EqE n fa) (h2 : EqE n fb) (h3 : EqE n fc) (h4 : EqE n fd) : EqE (n + 1) (enc4 fa fb fc fd) := ⟨fun x => by
  show PyData.canLayAll0 [(fa x.x1).py, (fb x.x2).py, (fc x.x3).py, (fd x.x4).py] = true
  simp [PyData.canLayAll0, h1.lay, h2.lay, h3.lay, h4.lay], fun x y => by
  show PyData.eqv (.tuple [(fa x.x1).py, (fb x.x2).py, (fc x.x3).py, (fd x.x4).py]) (.tuple [(fa y.x1).py, (fb y.x2).py, (fc y.x3).py, (fd y.x4).py]) = _
  cases x; cases y
  simp [PyData.eqv, PyData.eqvAll, h1.eq, h2.eq, h3.eq, h4.eq], fun x => by
  show PyData.depth (.tuple [(fa x.x1).py, (fb x.x2).py, (fc x.x3).py, (fd x.x4).py]) ≤ _
  have := h1.dep x.x1; have := h2.dep x.x2; have := h3.dep x.x3; have := h4.dep x.x4
  simp only [PyData.depth, PyData.depthAll]; omega⟩
theorem EqE.okq (h : EqE n fa) (hn : n ≤ 60) (x y : a) : EqOk (fa x) (fa y) := .inr ⟨by
  show SeqAt.shaped (fa x).py = true
  unfold SeqAt.shaped
  rw [h.lay, Bool.true_and]
  have := h.dep x
  exact decide_eq_true (by omega), by
  show SeqAt.shaped (fa y).py = true
  unfold SeqAt.shaped
  rw [h.lay, Bool.true_and]
  have := h.dep y
  exact decide_eq_true (by omega)⟩
theorem op_eq {x y : a} {u v : Slot} (h : EqE n fa) (hu : u.dat = some (fa x)) (hv : v.dat = some (fa y)) (hn : n ≤ 60 := by decide) : OpP (oEq false) u v (.sh (.bl (decide (x = y)))) := fun k q => by
  unfold oEq
  rw [hu, hv]
  refine ⟨h.okq hn x y, ?_⟩
  rw [Bool.false_xor]
  unfold eqD
  rw [h.eq]
  exact q
theorem op_ne {x y : a} {u v : Slot} (h : EqE n fa) (hu : u.dat = some (fa x)) (hv : v.dat = some (fa y)) (hn : n ≤ 60 := by decide) : OpP (oEq true) u v (.sh (.bl (!decide (x = y)))) := fun k q => by
  unfold oEq
  rw [hu, hv]
  refine ⟨h.okq hn x y, ?_⟩
  rw [Bool.true_xor]
  unfold eqD
  rw [h.eq]
  exact q
theorem Zqp (h : EqE n fa) (x : a) (xs : List a) : memD (fa x) (xs.map fa) = decide (x ∈ xs) := by
  unfold memD
  induction xs with
  | nil => rfl
  | cons y ys ih =>
    rw [List.map_cons, List.any_cons, ih]
    unfold eqD
    rw [h.eq, ← Bool.decide_or]
    exact decide_eq_decide.mpr ⟨fun z => by rcases z with z | z; exact z ▸ List.mem_cons_self; exact List.mem_cons_of_mem _ z, fun z => by rcases List.mem_cons.mp z with z | z; exact .inl z.symm; exact .inr z⟩
theorem EqE.shp (h : EqE n fa) (hn : n ≤ 60) (x : a) : Shp (fa x) := by
  show SeqAt.shaped (fa x).py = true
  unfold SeqAt.shaped
  rw [h.lay, Bool.true_and]
  have := h.dep x
  exact decide_eq_true (by omega)
theorem Zw1 {x : a} {xs : List a} {v : Slot} {neg : Bool} (h : EqE n fa) (hv : v.dat = some (encL fa xs)) (hn : n ≤ 59 := by decide) : OpP (oIn neg) (.sh (fa x)) v (.sh (.bl (neg ^^ decide (x ∈ xs)))) := fun k q => by
  unfold oIn
  rw [hv]
  exact ⟨.inl ⟨h.shp (by omega) x, (Z1b h).shp (by omega) xs⟩, by rw [Zqp h]; exact q⟩
end
end DL
set_option Elab.async false
set_option linter.all false
set_option maxRecDepth 100000
set_option maxHeartbeats 4000000
namespace DL
open PySem PySem.Spec PyProof.Rows L2
section
variable {env : En} {w wa wb wc we : WE} {wA : WA} {wi : WI} {wl wh : WO} {α β δ : Type}
theorem Za0 : EvA env aNil [] := fun Q q => q
theorem Zab {x : Slot} {xs : List Slot} (h : EvP env we x) (h2 : EvA env wA xs) : EvA env (Zak we wA) (x :: xs) := fun Q q => h _ (h2 _ q)
noncomputable def EvK {β : Type} (env : En) (wA : WA) (f : β → Slot) (Φ : List Slot → P β → Prop) (m : P β) : Prop := ∀ (Q : R Slot → Prop) (k : List Slot → Prop), (∀ xs mm, Φ xs mm → Zhw mm f Q → k xs) → Zhw m f Q → wA env (rk k Q)
theorem Zdz {f : β → Slot} {Φ : List Slot → P β → Prop} {m : P β} (h : Φ [] m) : EvK env aNil f Φ m := fun Q k hk q => hk _ _ h q
theorem Zju {f : β → Slot} {Φ : List Slot → P β → Prop} {m : P β} {x : Slot} (h : EvP env we x) (h2 : EvK env wA f (fun xs mm => Φ (x :: xs) mm) m) : EvK env (Zak we wA) f Φ m := fun Q k hk q =>
  h _ (h2 Q (fun xs => k (x :: xs)) (fun xs mm hp q => hk _ _ hp q) q)
theorem Zjo {f : β → Slot} {Φ : List Slot → P β → Prop} {fa : α → Slot} {ma : P α} {mm : α → P β} (h : EvM env we fa ma) (h2 : ∀ a, EvK env wA f (fun xs mm => Φ (fa a :: xs) mm) (mm a)) : EvK env (Zak we wA) f Φ (bd ma mm) := fun Q k hk q =>
  Zg2 h q fun a q => h2 a Q (fun xs => k (fa a :: xs)) (fun xs mm hp q => hk _ _ hp q) q
theorem Zh8 {xs : List Slot} {ds : List D} (h : EvA env wA xs) (hs : stabs xs = some ds) (hl : ds.length ≤ 16777216) : EvP env (wTup wA) (.sh (.tup ds)) := fun Q q => h _ (by
  show (match stabs xs with | some ds => ds.length ≤ 16777216 ∧ Q (.ok (.sh (.tup ds))) | none => False)
  rw [hs]; exact ⟨hl, q⟩)
theorem Zc8 {xs : List Slot} {ds : List D} (h : EvA env wA xs) (hs : stabs xs = some ds) (hl : ds.length ≤ 16777216) : EvP env (wLst wA) (.ow (.lst ds)) := fun Q q => h _ (by
  show (match stabs xs with | some ds => ds.length ≤ 16777216 ∧ Q (.ok (.ow (.lst ds))) | none => False)
  rw [hs]; exact ⟨hl, q⟩)
theorem Zyw {f : β → Slot} {m : P β} (h : EvK env wA f (fun xs mm => ∃ v ds, stabs xs = some ds ∧ ds.length ≤ 16777216 ∧ f v = .sh (.tup ds) ∧ mm = .ok v) m) : EvM env (wTup wA) f m := fun Q q => h Q _ (fun xs mm ⟨v, ds, e1, hl, e2, e3⟩ q => by
  subst e3
  show (match stabs xs with | some ds => ds.length ≤ 16777216 ∧ Q (.ok (.sh (.tup ds))) | none => False)
  rw [e1]
  have q' : Q (.ok (f v)) := q
  rw [e2] at q'
  exact ⟨hl, q'⟩) q
theorem Zop {f : β → Slot} {m : P β} (h : EvK env wA f (fun xs mm => ∃ v ds, stabs xs = some ds ∧ ds.length ≤ 16777216 ∧ f v = .ow (.lst ds) ∧ mm = .ok v) m) : EvM env (wLst wA) f m := fun Q q => h Q _ (fun xs mm ⟨v, ds, e1, hl, e2, e3⟩ q => by
  subst e3
  show (match stabs xs with | some ds => ds.length ≤ 16777216 ∧ Q (.ok (.ow (.lst ds))) | none => False)
  rw [e1]
  have q' : Q (.ok (f v)) := q
  rw [e2] at q'
  exact ⟨hl, q'⟩) q
noncomputable def Zgz (x : Slot) : Prop := (∃ d, x = .sh d) ∨ (∃ d, x = .ow d) ∨ ∃ d, x = .nd d
theorem Zas {d : D} : Zgz (.sh d) := .inl ⟨d, rfl⟩
theorem Zc4 {d : D} : Zgz (.ow d) := .inr (.inl ⟨d, rfl⟩)
theorem Zxx {x : Slot} {Q : R Slot → Prop} (h : Zgz x) (q : Q (.ok x)) : outK Q (.ok x) := by
  rcases h with ⟨d, rfl⟩ | ⟨d, rfl⟩ | ⟨d, rfl⟩ <;> exact q
theorem Zqk {m : P α} {f : α → Slot} {Q : R Slot → Prop} (hf : ∀ a, Zgz (f a)) (q : Zhw m f Q) : Zhw m f (outK Q) := by
  cases m with
  | ok a => exact Zxx (hf a) q
  | error e => cases e with
    | stuck => exact q
    | exc c fs => exact q
theorem Zbu {γ : G} {xs : List Slot} {f : α → Slot} {m : P α} (h : EvA env wA xs) (hs : Sim γ (xs.map Slot.arg) f m) (hf : ∀ a, Zgz (f a)) : EvM env (Zcx γ wA) f m := fun Q q => h _ (hs _ (Zqk hf q))
theorem Zdx {γ : G} {f : α → Slot} {m : P α} (hf : ∀ a, Zgz (f a)) (h : EvK env wA f (fun xs mm => Sim γ (xs.map Slot.arg) f mm) m) : EvM env (Zcx γ wA) f m := fun Q q => h Q _ (fun xs mm hs q => hs _ (Zqk hf q)) q
theorem Zyy (f : α → β) (xs : List α) (i : Int) : atI (xs.map f) i = (atI xs i).map f := by
  unfold atI
  rw [List.length_map]
  cases ixN xs.length i with
  | none => rfl
  | some j => exact List.getElem?_map
theorem Zn4 {x : Slot} {f : α → D} {xs : List α} (h : x.dat = some (encL f xs)) : UnP oLen x (.sh (.int (xs.length : Int))) := fun k q => by
  unfold oLen; rw [h]
  show k (.sh (.int ((xs.map f).length : Int)))
  rw [List.length_map]; exact q
theorem Zn8 {T : String} {x : Slot} {d : D} {b : Bool} (h : x.dat = some d) (hb : isD d T = b) (hn : d.noObj = true := by rfl) : UnP (oIsi T) x (.sh (.bl b)) := fun k q => by
  unfold oIsi; rw [h]; subst hb; exact ⟨hn, q⟩
theorem Zzc {neg : Bool} {x : Slot} {d : D} {b : Bool} (h : x.dat = some d) (hb : d.isNon = b) : UnP (oIsN neg) x (.sh (.bl (neg ^^ b))) := fun k q => by
  unfold oIsN; rw [h]; subst hb; exact q
theorem Zsu {f : α → D} (hf : ∀ a, (f a).isNon = false) (o : Option α) : (encO f o).isNon = o.isNone := by
  cases o with
  | none => rfl
  | some a => exact hf a
theorem Zk1 {n : Nat} {x : Slot} {f : α → D} {xs : List α} (h : x.dat = some (encL f xs)) : UnM (oIxN n) x (shE f) (xs[n]?) := fun k a e q => by
  unfold oIxN; rw [h]
  show (match (xs.map f)[n]? with | some d => k (.sh d) | none => False)
  rw [List.getElem?_map, e]; exact q
theorem Zhz {x : Slot} {f : α → D} {xs : List α} {i : Int} (h : x.dat = some (encL f xs)) : OpM oIx x (.sh (.int i)) (shE f) (atI xs i) := fun k a e q => by
  unfold oIx; rw [h]
  show ∃ j z, D.int i = .int j ∧ atI (xs.map f) j = some z ∧ k (.sh z)
  exact ⟨i, f a, rfl, by rw [Zyy, e]; rfl, q⟩
section
variable {κ : Type} [DecidableEq κ]
end
theorem Zqx {x y : Slot} {f : α → D} {xs ys : List α} (h : x.dat = some (encL f xs)) (h2 : y.dat = some (encL f ys)) : OpM oCat x y (owE (encL f)) (if xs.length + ys.length ≤ 16777216 then some (xs ++ ys) else none) := fun k a e q => by
  unfold oCat; rw [h, h2]
  split at e
  · rename_i hl
    cases e
    refine ⟨by rw [List.length_map, List.length_map]; exact hl, ?_⟩
    show k (.ow (.lst (xs.map f ++ ys.map f)))
    rw [← List.map_append]; exact q
  · cases e
theorem Zbm : EvO env wNoP none := fun Q q => q
theorem Zbn {i : Int} (h : EvP env we (.sh (.int i))) : EvO env (Zet we) (some i) := fun Q q => h _ q
theorem Zph (f : α → β) (xs : List α) (lo hi : Option Int) : cutD (xs.map f) lo hi = (cutD xs lo hi).map f := by
  unfold cutD
  rw [List.length_map, List.map_take, List.map_drop]
theorem Zdd {x : Slot} {f : α → D} {xs : List α} {lo hi : Option Int} (h : EvP env we x) (hl : EvO env wl lo) (hh : EvO env wh hi) (hx : x.dat = some (encL f xs)) : EvP env (Zb7 we wl wh) (.ow (encL f (cutD xs lo hi))) := fun Q q => h _ (hl _ (hh _ (by
  show Zfh x lo hi (fun z => Q (.ok z))
  unfold Zfh; rw [hx]
  show Q (.ok (.ow (.lst (cutD (xs.map f) lo hi))))
  rw [Zph]; exact q)))
theorem Zl3 {f : α → D} {m : P α} (h : EvM env we (shE f) m) : EvM env we (shE (encO f)) (bd m fun a => .ok (some a)) := fun Q q => h Q (by
  cases m with
  | ok a => exact q
  | error e => cases e with
    | stuck => exact q
    | exc c fs => exact q)
noncomputable def Z0r (lo : Int) (n : Nat) : List Int := (List.range n).map fun (i : Nat) => lo + (i : Int)
noncomputable def Zq4 (xs : List α) : List (T2 Int α) := xs.zipIdx.map fun p => ⟨(p.2 : Int), p.1⟩
noncomputable def zipZ (xs : List α) (ys : List β) : List (T2 α β) := (xs.zip ys).map fun p => ⟨p.1, p.2⟩
theorem Zy9 {ds : List D} (h : EvP env we (.sh (.tup ds))) : EvI env (Zrq we) ds := fun Q q => h _ q
noncomputable def Zoa : Slot → Option D
  | .sh d => some d
  | .bo d => some d
  | .ow d => some d
  | .lk _ d => some d
  | _ => none
theorem Zuq {x : Slot} {ds : List D} {k : List D → Prop} (h : Zoa x = some (.lst ds)) (q : k ds) : lst1 k [x] := by
  cases x with
  | sh d => cases h; exact q
  | bo d => cases h; exact q
  | ow d => cases h; exact q
  | un => cases h
  | bt d => cases h
  | lk a d => cases h; exact q
  | lo a _ d => cases h
  | nd d => cases h
  | nb d => cases h
  | ln _ _ => cases h
  | xc _ => cases h
  | xe _ _ _ => cases h
  | na _ _ => cases h
  | rt _ _ => cases h
theorem Zwb {x : Slot} {f : α → D} {xs : List α} (h : EvA env wA [x]) (hx : Zoa x = some (encL f xs)) : EvI env (Zux wA) ((Zq4 xs).map (enc2 D.int f)) := fun Q q => h _ (by
  refine Zuq hx ?_
  have e : Zpb (xs.map f) = (Zq4 xs).map (enc2 D.int f) := by
    unfold Zpb Zq4
    rw [List.zipIdx_map, List.map_map, List.map_map]; rfl
  rw [e]; exact q)
end
end DL
set_option Elab.async false
set_option linter.all false
set_option maxRecDepth 100000
set_option maxHeartbeats 4000000
namespace DL
open PySem PySem.Spec PyProof.Rows L2
section
variable {env : En} {w w1 w2 w3 rest body : WS} {wa wb wc we wk : WE} {wA : WA} {wi : WI} {α β δ τ σ ρ : Type} {cv : τ → O} {g : WG}
noncomputable def sq (rest : WS) (K : O → Prop) : O → Prop := fun o => match o with
  | .nx e => rest e K
  | o => K o
theorem wseq {K : O → Prop} (h : w1 env (sq rest K)) : wSeq w1 rest env K := h
theorem wasg {K : O → Prop} {s : Slot} (h : EvP env we s) (q : g s env fun e => K (.nx e)) : wAsg g we env K := h _ q
theorem Zzm {K : O → Prop} {f : α → Slot} {m : P α} (h : EvM env we f m) (q : (∃ a, m = .ok a ∧ g (f a) env fun e => K (.nx e)) ∨ ∃ c fs, m = .error (.exc c fs) ∧ ∀ e, K (.ex c fs e)) : wAsg g we env K := h _ (by
  rcases q with ⟨a, e, q⟩ | ⟨c, fs, e, q⟩
  · rw [e]; exact q
  · rw [e]; exact q env)
theorem Zer {m : P τ} (h : B env (wSeq w1 (wSeq w2 w3)) cv m) : B env (wSeq (wSeq w1 w2) w3) cv m := fun K q => by
  have := h K q
  have e : wSeq (wSeq w1 w2) w3 env K = wSeq w1 (wSeq w2 w3) env K := by
    unfold wSeq
    congr 1
    funext o
    cases o <;> rfl
  rw [e]; exact this
theorem Zbo {m : P τ} (h : B env rest cv m) : B env (wSeq Zbd rest) cv m := fun K q => h K q
theorem Zd4 {t : τ} (h : cv t = .nx env) : B env Zbd cv (.ok t) := fun K q => by
  have q' : K (cv t) := q
  rw [h] at q'; exact q'
theorem Z1j {i : Nat} {x : Slot} {env' : En} {m : P τ} (hx : env[i]? = some x) (he : env.set i (frzS x) = env') (h : B env' (wSeq w1 rest) cv m) : B env (wSeq (wFrz i w1) rest) cv m := fun K q => by
  have := h K q
  subst he
  show (match env[i]? with | some x => w1 (env.set i (frzS x)) _ | none => False)
  rw [hx]
  exact this
theorem Z0b {i : Nat} {x : Slot} {env' : En} {m : P τ} (hx : env[i]? = some x) (he : env.set i (frzS x) = env') (h : B env' w1 cv m) : B env (wFrz i w1) cv m := fun K q => by
  have := h K q
  subst he
  show (match env[i]? with | some x => w1 (env.set i (frzS x)) _ | none => False)
  rw [hx]
  exact this
theorem Zeg {i : Nat} {env' : En} {m : P τ} (he : env.set i .un = env') (h : B env' w1 cv m) : B env (wFgt i w1) cv m := fun K q => by
  subst he; exact h K q
theorem Zot {s : Slot} {t : τ} (h : EvP env we s) (ht : cv t = .ret s) : B env (wRet we) cv (.ok t) := fun K q => h _ (by
  have q' : K (cv t) := q
  rw [ht] at q'; exact q')
theorem Zjl {f : α → Slot} {m : P α} {t : α → τ} (h : EvM env we f m) (ht : ∀ a, cv (t a) = .ret (f a)) : B env (wRet we) cv (bd m fun a => .ok (t a)) := fun K q => h _ (by
  rcases specO_bd q with ⟨a, e, q⟩ | ⟨c, fs, e, q⟩
  · rw [e]
    have q' : K (cv (t a)) := q
    rw [ht] at q'; exact q'
  · rw [e]; exact q env)
theorem Zzy {i : Nat} {s : Slot} {t : τ} (hi : env[i]? = some s) (hs : Zgz s) (ht : cv t = .ret s) : B env (Zh4 i) cv (.ok t) := fun K q => by
  have q' : K (cv t) := q
  rw [ht] at q'
  unfold Zh4
  rw [hi]
  rcases hs with ⟨d, rfl⟩ | ⟨d, rfl⟩ | ⟨d, rfl⟩ <;> exact q'
theorem Zy0 {c : String} : B env (Zg7 (PySem.Str.ofString c)) cv (raise c : P τ) := fun K q => q env
theorem Zen {s : Slot} {t : τ} (h : EvP env we s) (ht : cv t = .ret s) : B env (wSeq (wRet we) rest) cv (.ok t) := fun K q => h _ (by
  have q' : K (cv t) := q
  rw [ht] at q'; exact q')
theorem Zff {f : α → Slot} {m : P α} {t : α → τ} (h : EvM env we f m) (ht : ∀ a, cv (t a) = .ret (f a)) : B env (wSeq (wRet we) rest) cv (bd m fun a => .ok (t a)) := fun K q => h _ (by
  rcases specO_bd q with ⟨a, e, q⟩ | ⟨c, fs, e, q⟩
  · rw [e]
    have q' : K (cv (t a)) := q
    rw [ht] at q'; exact q'
  · rw [e]; exact q env)
theorem Zr2 {i : Nat} {s : Slot} {t : τ} (hi : env[i]? = some s) (hs : Zgz s) (ht : cv t = .ret s) : B env (wSeq (Zh4 i) rest) cv (.ok t) := fun K q => by
  have q' : K (cv t) := q
  rw [ht] at q'
  show Zh4 i env _
  unfold Zh4
  rw [hi]
  rcases hs with ⟨d, rfl⟩ | ⟨d, rfl⟩ | ⟨d, rfl⟩ <;> exact q'
theorem Zlv {c : String} : B env (wSeq (Zg7 (PySem.Str.ofString c)) rest) cv (raise c : P τ) := fun K q => q env
theorem Zsg {i : Nat} {x : Slot} {k : En → Prop} (hx : Zgz x) (hi : i < env.length) (q : k (env.set i x)) : gN i x env k := by
  rcases hx with ⟨d, rfl⟩ | ⟨d, rfl⟩ | ⟨d, rfl⟩ <;> exact ⟨hi, q⟩
theorem Zo6 {i : Nat} {v : α} {mm : α → P τ} (sl : α → Slot) (e : α → En) (h : EvP env we (sl v)) (ho : ∀ x, Zgz (sl x)) (hi : i < env.length) (hs : ∀ x, env.set i (sl x) = e x) (hr : ∀ x, B (e x) rest cv (mm x)) : B env (wSeq (wAsg (gN i) we) rest) cv (Zfw v mm) := fun K q => wseq (wasg h (Zsg (ho v) hi (by
  rw [hs]; exact hr v K q)))
theorem Zhi {i : Nat} {s : Slot} {env' : En} {m : P τ} (h : EvP env we s) (ho : Zgz s) (hi : i < env.length) (hs : env.set i s = env') (hr : B env' rest cv m) : B env (wSeq (wAsg (gN i) we) rest) cv m := fun K q => wseq (wasg h (Zsg ho hi (by
  rw [hs]; exact hr K q)))
theorem Zbx {i : Nat} {f : α → Slot} {m : P α} {mm : α → P τ} (e : α → En) (h : EvM env we f m) (ho : ∀ x, Zgz (f x)) (hi : i < env.length) (hs : ∀ x, env.set i (f x) = e x) (hr : ∀ x, B (e x) rest cv (mm x)) : B env (wSeq (wAsg (gN i) we) rest) cv (bd m mm) := fun K q => wseq (Zzm h (by
  rcases specO_bd q with ⟨a, e1, q⟩ | ⟨c, fs, e1, q⟩
  · exact .inl ⟨a, e1, Zsg (ho a) hi (by rw [hs]; exact hr a K q)⟩
  · exact .inr ⟨c, fs, e1, q⟩))
noncomputable def Znz : List Nat → List D → En → Option En
  | [], [], env => some env
  | i :: is, d :: ds, env => cond (Nat.blt i env.length) (Znz is ds (env.set i (.sh d))) none
  | _, _, _ => none
theorem wSets_of {k : En → Prop} : ∀ {is : List Nat} {ds : List D} {env e : En}, Znz is ds env = some e → k e → Zm5 is ds env k
  | [], [], env, e, h, q => by cases h; exact q
  | i :: is, d :: ds, env, e, h, q => by
    unfold Znz at h
    cases hb : Nat.blt i env.length with
    | true =>
      rw [hb] at h
      exact ⟨Nat.lt_of_succ_le (by simpa [Nat.blt] using hb), wSets_of h q⟩
    | false => rw [hb] at h; cases h
  | [], _ :: _, _, _, h, _ => by cases h
  | _ :: _, [], _, _, h, _ => by cases h
theorem Z0t {is : List Nat} {x : Slot} {ds : List D} {e : En} {k : En → Prop} (hx : x.dat = some (.tup ds) ∨ x.dat = some (.lst ds)) (hs : Znz is ds env = some e) (q : k e) : gT is x env k := by
  unfold gT
  rcases hx with hx | hx <;> (rw [hx]; exact wSets_of hs q)
noncomputable def un5 (xs : List α) (k : α → α → α → α → α → P τ) : P τ := match xs with
  | [a, b, c, d, e] => k a b c d e
  | _ => stuck
noncomputable def un6 (xs : List α) (k : α → α → α → α → α → α → P τ) : P τ := match xs with
  | [a, b, c, d, e, f] => k a b c d e f
  | _ => stuck
theorem Z04 {is : List Nat} {f : α → D} {xs : List α} {s : Slot} {m : P τ} (hx : s.dat = some (encL f xs)) (hr : ∀ K, Zed m cv K → ∃ e, Znz is (xs.map f) env = some e ∧ rest e K) : BT env (gT is) s rest cv m := fun K q => by
  obtain ⟨e, h1, h2⟩ := hr K q
  exact Z0t (.inr hx) h1 h2
theorem Zw5 {is : List Nat} {f : α → D} {xs : List α} {s : Slot} {k : α → α → α → α → α → P τ} (e : α → α → α → α → α → En) (hx : s.dat = some (encL f xs)) (hs : ∀ a b c d e', Znz is [f a, f b, f c, f d, f e'] env = some (e a b c d e')) (hr : ∀ a b c d e', B (e a b c d e') rest cv (k a b c d e')) : BT env (gT is) s rest cv (un5 xs k) := Z04 hx fun K q => by
  unfold un5 at q; split at q
  · exact ⟨_, hs _ _ _ _ _, hr _ _ _ _ _ K q⟩
  · exact q.elim
theorem Zzb {is : List Nat} {f : α → D} {xs : List α} {s : Slot} {k : α → α → α → α → α → α → P τ} (e : α → α → α → α → α → α → En) (hx : s.dat = some (encL f xs)) (hs : ∀ a b c d e' f', Znz is [f a, f b, f c, f d, f e', f f'] env = some (e a b c d e' f')) (hr : ∀ a b c d e' f', B (e a b c d e' f') rest cv (k a b c d e' f')) : BT env (gT is) s rest cv (un6 xs k) := Z04 hx fun K q => by
  unfold un6 at q; split at q
  · exact ⟨_, hs _ _ _ _ _ _, hr _ _ _ _ _ _ K q⟩
  · exact q.elim
theorem Zw9 {s : Slot} {m : P τ} (h : EvP env we s) (hr : BT env g s rest cv m) : B env (wSeq (wAsg g we) rest) cv m := fun K q => wseq (wasg h (hr K q))
theorem Zyf {f : α → Slot} {m : P α} {mm : α → P τ} (h : EvM env we f m) (hr : ∀ a, BT env g (f a) rest cv (mm a)) : B env (wSeq (wAsg g we) rest) cv (bd m mm) := fun K q => wseq (Zzm h (by
  rcases specO_bd q with ⟨a, e1, q⟩ | ⟨c, fs, e1, q⟩
  · exact .inl ⟨a, e1, hr a K q⟩
  · exact .inr ⟨c, fs, e1, q⟩))
theorem Zlq {i : Nat} {s : Slot} {e : En} {m : P τ} (ho : Zgz s) (hi : i < env.length) (hs : env.set i s = e) (hr : B e rest cv m) : BT env (gN i) s rest cv m := fun K q => Zsg ho hi (by rw [hs]; exact hr K q)
theorem Zsy {is : List Nat} {s : Slot} {ds : List D} {e : En} {m : P τ} (hx : s.dat = some (.tup ds)) (hs : Znz is ds env = some e) (hr : B e rest cv m) : BT env (gT is) s rest cv m := fun K q => Z0t (.inl hx) hs (hr K q)
noncomputable def appO (xs : List α) (x : α) : Option (List α) := if xs.length < 16777216 then some (xs ++ [x]) else none
theorem Zj2 {m : Option α} {mm : α → P τ} {K : O → Prop} (q : Zed (bd (ofO m) mm) cv K) : ∃ a, m = some a ∧ Zed (mm a) cv K := by
  cases m with
  | some a => exact ⟨a, rfl, q⟩
  | none => exact q.elim
theorem Z14 {i : Nat} {f : α → D} {xs : List α} {x : α} {s : Slot} {mm : List α → P τ} (e : List α → En) (hx : env[i]? = some (.ow (encL f xs))) (h : EvP env we s) (hs : s.stab = some (f x)) (he : ∀ ys, env.set i (.ow (encL f ys)) = e ys) (hr : ∀ ys, B (e ys) rest cv (mm ys)) : B env (wSeq (wApp i we) rest) cv (bd (ofO (appO xs x)) mm) := fun K q => by
  obtain ⟨ys, e1, q⟩ := Zj2 q
  unfold appO at e1
  split at e1
  · rename_i hl
    cases e1
    show wApp i we env _
    unfold wApp
    rw [hx]
    refine h _ ?_
    show (match s.stab with | some d => (xs.map f).length < 16777216 ∧ _ | none => False)
    rw [hs]
    refine ⟨by rw [List.length_map]; exact hl, ?_⟩
    have e2 : env.set i (.ow (.lst (xs.map f ++ [f x]))) = e (xs ++ [x]) := by
      rw [← he]; unfold encL; rw [List.map_append]; rfl
    show rest (env.set i (.ow (.lst (xs.map f ++ [f x])))) K
    rw [e2]; exact hr _ K q
  · cases e1
theorem Zun {i : Nat} {f : α → D} {xs : List α} {sf : α → Slot} {m : P α} {mm : List α → P τ} (e : List α → En) (hx : env[i]? = some (.ow (encL f xs))) (h : EvM env we sf m) (hs : ∀ x, (sf x).stab = some (f x)) (he : ∀ ys, env.set i (.ow (encL f ys)) = e ys) (hr : ∀ ys, B (e ys) rest cv (mm ys)) : B env (wSeq (wApp i we) rest) cv (bd m fun x => bd (ofO (appO xs x)) mm) := fun K q => by
  show wApp i we env _
  unfold wApp
  rw [hx]
  refine h _ ?_
  rcases specO_bd q with ⟨x, e0, q⟩ | ⟨c, fs, e0, q⟩
  · rw [e0]
    obtain ⟨ys, e1, q⟩ := Zj2 q
    unfold appO at e1
    split at e1
    · rename_i hl
      cases e1
      show (match (sf x).stab with | some d => (xs.map f).length < 16777216 ∧ _ | none => False)
      rw [hs]
      refine ⟨by rw [List.length_map]; exact hl, ?_⟩
      have e2 : env.set i (.ow (.lst (xs.map f ++ [f x]))) = e (xs ++ [x]) := by
        rw [← he]; unfold encL; rw [List.map_append]; rfl
      show rest (env.set i (.ow (.lst (xs.map f ++ [f x])))) K
      rw [e2]; exact hr _ K q
    · cases e1
  · rw [e0]; exact q env
theorem Z0s {i : Nat} {c : D} {s : Slot} {d zd : D} {m : P τ} (hx : env[i]? = some (.ow c)) (h : EvP env we s) (hs : s.stab = some d) (hk : EvP env wk (.sh zd)) (hr : ∀ K, Zed m cv K → Zrl c zd d fun c' => rest (env.set i (.ow c')) K) : B env (wSeq (wSet i wk we) rest) cv m := fun K q => by
  show wSet i wk we env _
  unfold wSet
  rw [hx]
  refine h _ ?_
  show (match s.stab with | some d => wk env _ | none => False)
  rw [hs]
  exact hk _ (hr K q)
theorem Zs1 {i : Nat} {c : D} {f : α → D} {sf : α → Slot} {m : P α} {zd : D} {mm : α → P τ} (hx : env[i]? = some (.ow c)) (h : EvM env we sf m) (hs : ∀ a, (sf a).stab = some (f a)) (hk : EvP env wk (.sh zd)) (hr : ∀ a K, Zed (mm a) cv K → Zrl c zd (f a) fun c' => rest (env.set i (.ow c')) K) : B env (wSeq (wSet i wk we) rest) cv (bd m mm) := fun K q => by
  show wSet i wk we env _
  unfold wSet
  rw [hx]
  refine h _ ?_
  rcases specO_bd q with ⟨a, e0, q⟩ | ⟨c, fs, e0, q⟩
  · rw [e0]
    show (match (sf a).stab with | some d => wk env _ | none => False)
    rw [hs]
    exact hk _ (hr a K q)
  · rw [e0]; exact q env
noncomputable def Zm7 (xs : List α) (i : Int) (x : α) : Option (List α) := (ixN xs.length i).map fun j => xs.set j x
theorem setL {i : Nat} {f : α → D} {xs : List α} {k : Int} {a : α} {mm : List α → P τ} (e : List α → En) (he : ∀ y, env.set i (.ow (encL f y)) = e y) (hr : ∀ y, B (e y) rest cv (mm y)) :
    ∀ K, Zed (bd (ofO (Zm7 xs k a)) mm) cv K → Zrl (encL f xs) (.int k) (f a) fun c' => rest (env.set i (.ow c')) K := fun K q => by
  obtain ⟨y, e1, q⟩ := Zj2 q
  unfold Zm7 at e1
  cases hj : ixN xs.length k with
  | none => rw [hj] at e1; cases e1
  | some j =>
    rw [hj] at e1
    cases e1
    refine ⟨k, j, rfl, by rw [List.length_map]; exact hj, ?_⟩
    rw [← List.map_set]
    show rest (env.set i (.ow (encL f (xs.set j a)))) K
    rw [he]; exact hr _ K q
theorem b_if {b : Bool} {m1 m2 : P τ} (h : EvP env wc (.sh (.bl b))) (h1 : B env (wSeq w1 rest) cv m1) (h2 : B env (wSeq w2 rest) cv m2) : B env (wSeq (wIf wc w1 w2) rest) cv (cond b m1 m2) := fun K q => h _ (by
  cases b
  · exact h2 K q
  · exact h1 K q)
theorem Zjg {n : P Bool} {m1 m2 : P τ} (h : EvM env wc blE n) (h1 : B env (wSeq w1 rest) cv m1) (h2 : B env (wSeq w2 rest) cv m2) : B env (wSeq (wIf wc w1 w2) rest) cv (bd n fun b => cond b m1 m2) := fun K q => h _ (by
  rcases specO_bd q with ⟨b, e1, q⟩ | ⟨c, fs, e1, q⟩
  · rw [e1]
    cases b
    · exact h2 K q
    · exact h1 K q
  · rw [e1]; exact q env)
theorem Zdf {m : P σ} {mm : σ → P τ} {e : σ → En} {K : O → Prop} (q : Zed (bd m mm) cv K) (hr : ∀ s, B (e s) rest cv (mm s)) : Zed m (fun s => O.nx (e s)) (sq rest K) := by
  rcases specO_bd q with ⟨a, e1, q⟩ | ⟨c, fs, e1, q⟩
  · rw [e1]; exact hr a K q
  · rw [e1]; exact q
theorem Z1z {b : Bool} {m1 m2 : P σ} {mm : σ → P τ} (e : σ → En) (h : EvP env wc (.sh (.bl b))) (h1 : B env w1 (fun s => .nx (e s)) m1) (h2 : B env w2 (fun s => .nx (e s)) m2) (hr : ∀ s, B (e s) rest cv (mm s)) : B env (wSeq (wIf wc w1 w2) rest) cv (bd (cond b m1 m2) mm) := fun K q => h _ (by
  cases b
  · exact h2 _ (Zdf q hr)
  · exact h1 _ (Zdf q hr))
theorem Zuh {n : P Bool} {m1 m2 : P σ} {mm : σ → P τ} (e : σ → En) (h : EvM env wc blE n) (h1 : B env w1 (fun s => .nx (e s)) m1) (h2 : B env w2 (fun s => .nx (e s)) m2) (hr : ∀ s, B (e s) rest cv (mm s)) : B env (wSeq (wIf wc w1 w2) rest) cv (bd (bd n fun b => cond b m1 m2) mm) := fun K q => h _ (by
  cases n with
  | error x => cases x with
    | stuck => exact q.elim
    | exc c fs => exact q env
  | ok b =>
    cases b
    · exact h2 _ (Zdf (m := m2) q hr)
    · exact h1 _ (Zdf (m := m1) q hr))
theorem Zyi {b : Bool} {x y : α} {mm : α → P τ} (e : α → En) (h : EvP env wc (.sh (.bl b))) (h1 : B env w1 (fun s => .nx (e s)) (.ok x)) (h2 : B env w2 (fun s => .nx (e s)) (.ok y)) (hr : ∀ s, B (e s) rest cv (mm s)) : B env (wSeq (wIf wc w1 w2) rest) cv (Zfw (cond b x y) mm) := fun K q => h _ (by
  cases b
  · exact h2 _ (Zdf (m := .ok y) q hr)
  · exact h1 _ (Zdf (m := .ok x) q hr))
theorem Zok {f : α → D} {e : σ → En} {step : σ → α → P σ} (hb : ∀ s x, BT (e s) g (.sh (f x)) body (fun s' => .nx (e s')) (step s x)) {K : O → Prop} : ∀ (xs : List α) (s : σ), Zed (Zhk step xs s) (fun s => O.nx (e s)) K → Zib g body (xs.map f) (e s) K
  | [], s, q => q
  | x :: xs, s, q => hb s x _ (by
    have q : Zed (bd (step s x) fun s' => Zhk step xs s') (fun s => O.nx (e s)) K := q
    rcases specO_bd q with ⟨a, e1, q⟩ | ⟨c, fs, e1, q⟩
    · rw [e1]; exact Zok hb xs a q
    · rw [e1]; exact q)
theorem Z03 {f : α → D} {xs : List α} {s0 : σ} {step : σ → α → P σ} {mm : σ → P τ} (e : σ → En) (hi : EvI env wi (xs.map f)) (h0 : env = e s0) (hb : ∀ s x, BT (e s) g (.sh (f x)) body (fun s' => .nx (e s')) (step s x)) (hr : ∀ s, B (e s) rest cv (mm s)) : B env (wSeq (wFor g wi body) rest) cv (bd (Zhk step xs s0) mm) := fun K q => hi _ (by
  show Zib g body (xs.map f) env _
  rw [h0]
  exact Zok hb xs s0 (Zdf q hr))
noncomputable def cvX (e : σ → En) (f : ρ → Slot) : Out σ ρ → O
  | .nx s => .nx (e s)
  | .ct s => .ct (e s)
  | .bk s => .bk (e s)
  | .ret r => .ret (f r)
theorem Zmf {f : α → D} {e : σ → En} {fr : ρ → Slot} {step : σ → α → P (Out σ ρ)} (hb : ∀ s x, BT (e s) g (.sh (f x)) body (cvX e fr) (step s x)) {K : O → Prop} : ∀ (xs : List α) (s : σ), Zed (Zdg step xs s) (cvX e fr) K → Zib g body (xs.map f) (e s) K
  | [], s, q => q
  | x :: xs, s, q => hb s x _ (by
    have q : Zed (bd (step s x) fun o => match o with
      | .nx s' => Zdg step xs s'
      | .ct s' => Zdg step xs s'
      | .bk s' => .ok (.nx s')
      | .ret r => .ok (.ret r)) (cvX e fr) K := q
    rcases specO_bd q with ⟨a, e1, q⟩ | ⟨c, fs, e1, q⟩
    · rw [e1]
      cases a with
      | nx s' => exact Zmf hb xs s' q
      | ct s' => exact Zmf hb xs s' q
      | bk s' => exact q
      | ret r => exact q
    · rw [e1]; exact q)
theorem Zpx {m : P (Out σ ρ)} {ret : ρ → P τ} {nx : σ → P τ} {e : σ → En} {fr : ρ → Slot} {K : O → Prop} (q : Zed (aft m ret nx) cv K) (hret : ∀ r, ∃ t, ret r = .ok t ∧ cv t = .ret (fr r)) (hr : ∀ s, B (e s) rest cv (nx s)) (hc : ∀ s, m ≠ .ok (.ct s) ∧ m ≠ .ok (.bk s)) : Zed m (cvX e fr) (sq rest K) := by
  rcases specO_bd q with ⟨a, e1, q⟩ | ⟨c, fs, e1, q⟩
  · rw [e1]
    cases a with
    | nx s => exact hr s K q
    | ct s => exact ((hc s).1 e1).elim
    | bk s => exact ((hc s).2 e1).elim
    | ret r =>
      obtain ⟨t, e2, e3⟩ := hret r
      have q : Zed (ret r) cv K := q
      rw [e2] at q
      have q' : K (cv t) := q
      rw [e3] at q'; exact q'
  · rw [e1]; exact q
theorem Zha {step : σ → α → P (Out σ ρ)} : ∀ (xs : List α) (s s' : σ), Zdg step xs s ≠ .ok (.ct s') ∧ Zdg step xs s ≠ .ok (.bk s')
  | [], s, s' => ⟨(fun h => nomatch h), (fun h => nomatch h)⟩
  | x :: xs, s, s' => by
    rw [Zdg]
    cases hs : step s x with
    | error e => exact ⟨(fun h => nomatch h), (fun h => nomatch h)⟩
    | ok o => cases o with
      | nx t => exact Zha xs t s'
      | ct t => exact Zha xs t s'
      | bk t => exact ⟨(fun h => nomatch h), (fun h => nomatch h)⟩
      | ret r => exact ⟨(fun h => nomatch h), (fun h => nomatch h)⟩
theorem Z0u {f : α → D} {xs : List α} {s0 : σ} {step : σ → α → P (Out σ ρ)} {ret : ρ → P τ} {nx : σ → P τ} (e : σ → En) (fr : ρ → Slot) (hi : EvI env wi (xs.map f)) (h0 : env = e s0) (hb : ∀ s x, BT (e s) g (.sh (f x)) body (cvX e fr) (step s x)) (hret : ∀ r, ∃ t, ret r = .ok t ∧ cv t = .ret (fr r)) (hr : ∀ s, B (e s) rest cv (nx s)) : B env (wSeq (wFor g wi body) rest) cv (aft (Zdg step xs s0) ret nx) := fun K q => hi _ (by
  show Zib g body (xs.map f) env _
  rw [h0]
  exact Zmf hb xs s0 (Zpx q hret hr fun s' => Zha xs s0 s'))
theorem Zdl {γ : G} {n : Nat} {w : WS} {xs : List Slot} {f : α → Slot} {m : P α} {env : En} (hg : γ = gOf n w) (he : xs ++ List.replicate (n - xs.length) .un = env) (hf : ∀ a, Zgz (f a)) (h : B env w (fun a => .ret (f a)) m) (hna : msOf xs = [] := by rfl) : Sim γ xs f m := fun Q q => by
  subst hg he
  refine h (fin xs Q) ?_
  cases m with
  | ok a =>
    have q' : Q (.ok (f a)) := q
    show fin xs Q (.ret (f a))
    rcases hf a with ⟨d, e⟩ | ⟨d, e⟩ | ⟨d, e⟩ <;> (rw [e] at q' ⊢; exact q')
  | error e => cases e with
    | stuck => exact q
    | exc c fs => exact fun e => ⟨Zvz hna, q⟩
end
end DL
set_option Elab.async false
set_option linter.all false
set_option maxRecDepth 100000
set_option maxHeartbeats 4000000
namespace DL
open PySem PySem.Spec PyProof.Rows L2
noncomputable instance (i : Int) : Decidable (Bd62 i) := by unfold Bd62; exact inferInstance
section
variable {env : En} {w w1 w2 w3 rest body : WS} {wa wb wc we wk wt : WE} {wA : WA} {wi : WI} {α β δ τ σ ρ : Type} {cv : τ → O} {g : WG}
noncomputable def EvIM {α : Type} (env : En) (wi : WI) (f : α → D) (m : P (List α)) : Prop := ∀ (Q : R (List D) → Prop), (match m with
  | .ok xs => Q (.ok (xs.map f))
  | .error (.exc c fs) => Q (.ex c fs)
  | .error .stuck => False) → wi env Q
theorem bd_I {f : α → D} {m : P (List α)} {mm : List α → P τ} {K : O → Prop} {k : List D → Prop} (h : EvIM env wi f m) (q : Zed (bd m mm) cv K) (hk : ∀ xs, Zed (mm xs) cv K → k (xs.map f)) : wi env (rks k (sq rest K) env) := h _ (by
  rcases specO_bd q with ⟨a, e1, q⟩ | ⟨c, fs, e1, q⟩
  · rw [e1]; exact hk a q
  · rw [e1]; exact q env)
theorem Ztr {f : α → D} {m : P (List α)} {s0 : σ} {step : σ → α → P σ} {mm : σ → P τ} (e : σ → En) (hi : EvIM env wi f m) (h0 : env = e s0) (hb : ∀ s x, BT (e s) g (.sh (f x)) body (fun s' => .nx (e s')) (step s x)) (hr : ∀ s, B (e s) rest cv (mm s)) : B env (wSeq (wFor g wi body) rest) cv (bd m fun xs => bd (Zhk step xs s0) mm) := fun K q => wseq (bd_I hi q fun xs q => by
  show Zib g body (xs.map f) env _
  rw [h0]
  exact Zok hb xs s0 (Zdf q hr))
theorem Zpd {f : α → D} {m : P (List α)} {s0 : σ} {step : σ → α → P (Out σ ρ)} {ret : ρ → P τ} {nx : σ → P τ} (e : σ → En) (fr : ρ → Slot) (hi : EvIM env wi f m) (h0 : env = e s0) (hb : ∀ s x, BT (e s) g (.sh (f x)) body (cvX e fr) (step s x)) (hret : ∀ r, ∃ t, ret r = .ok t ∧ cv t = .ret (fr r)) (hr : ∀ s, B (e s) rest cv (nx s)) : B env (wSeq (wFor g wi body) rest) cv (bd m fun xs => aft (Zdg step xs s0) ret nx) := fun K q => wseq (bd_I hi q fun xs q => by
  show Zib g body (xs.map f) env _
  rw [h0]
  exact Zmf hb xs s0 (Zpx q hret hr fun s' => Zha xs s0 s'))
noncomputable def Z1l (xs : List Int) : List Int := xs.mergeSort fun a b => decide (a ≤ b)
noncomputable def Zsc (kf : α → List L2.Key) (xs : List α) : List α := xs.mergeSort fun a b => !ltK (kf b) (kf a)
theorem Zoy (kf : α → List L2.Key) (xs : List α) : (Zsc kf xs).Perm xs := List.mergeSort_perm xs _
end
end DL
set_option Elab.async false
set_option linter.all false
set_option maxRecDepth 100000
set_option maxHeartbeats 4000000
namespace DL
open PySem PySem.Spec PyProof.Rows L2
section
variable {env : En} {wa wb wc we : WE} {α β δ : Type}
theorem Zl8 {x : Slot} {f : α → D} {o : Option α} (h : x.dat = some (encO f o)) (hf : ∀ a, (f a).isNon = false) : UnP (oIsN false) x (.sh (.bl o.isNone)) := fun k q => Zzc (neg := false) h (Zsu hf o) k (by rw [Bool.false_xor]; exact q)
noncomputable def Dct.same [DecidableEq α] (a b : Dct Int α) : Bool := decide (a.l.length = b.l.length) && a.l.all fun p => decide (b.get p.1 = some p.2)
noncomputable def Zzd (t : T2 Int Int) : List L2.Key := [.inl t.x1, .inl t.x2]
noncomputable def key3 (t : T5 Int Int Int Tx Int) : List L2.Key := [.inl t.x1, .inl t.x2, .inl t.x3]
end
end DL
set_option Elab.async false
set_option linter.all false
set_option maxRecDepth 100000
set_option maxHeartbeats 4000000
namespace DL
open PySem PySem.Spec PyProof.Rows L2
section
variable {env : En} {w w1 w2 w3 rest body : WS} {τ : Type} {cv : τ → O}
theorem Zk5 {α : Type} {we : WE} {f : α → D} {o : Option α} (h : EvP env we (.sh (encO f o))) : EvM env we (shE f) (ofO o) := fun Q q => by
  cases o with
  | none => exact q.elim
  | some a => exact h Q q
theorem Zpc {α : Type} {we : WE} {f : α → D} {m : P (Option α)} (h : EvM env we (shE (encO f)) m) : EvM env we (shE f) (bd m fun a => ofO a) := fun Q q => h Q (by
  rcases specE_bd q with ⟨a, e, q⟩ | ⟨c, fs, e, q⟩
  · rw [e]
    cases a with
    | none => exact q.elim
    | some a => exact q
  · rw [e]; exact q)
end
end DL
set_option Elab.async false
set_option linter.all false
set_option maxRecDepth 100000
set_option maxHeartbeats 4000000
namespace DL
open PySem PySem.Spec PyProof.Rows L2
section
variable {env : En} {we : WE} {wl wh : WO}
end
end DL
set_option Elab.async false
set_option linter.all false
set_option maxRecDepth 100000
set_option maxHeartbeats 4000000
namespace DL
open PySem PySem.Spec PyProof.Rows L2
section
variable {env : En} {we : WE} {w1 rest body : WS} {g : WG} {wA : WA} {σ τ ρ α : Type} {cv : τ → O}
end
end DL
set_option Elab.async false
set_option linter.all false
set_option maxRecDepth 100000
set_option maxHeartbeats 1000000
namespace DL
open PySem PySem.Spec PyProof.Rows L2
section
variable {env : En} {wc : WE} {rest body : WS} {σ τ ρ : Type} {cv : τ → O}
noncomputable def gdL {α : Type} (t : List (Tx × α)) (k : Tx) : Option α := (t.find? fun p => decide (p.1 = k)).map (·.2)
theorem Zmg {α : Type} {t : List (Tx × α)} {k : Tx} {a : α} (h : gdL t k = some a) : (k, a) ∈ t := by
  unfold gdL at h
  obtain ⟨p, hp, rfl⟩ := Option.map_eq_some_iff.mp h
  have h1 := List.find?_some hp
  have h2 : p.1 = k := of_decide_eq_true h1
  subst h2
  exact List.mem_of_find?_eq_some hp
theorem Zyo {wk : WE} {tab : List (Str × Str)} {t : List (Tx × Tx)} {m : P Tx} (ht : tab = t.map fun p => (p.1.s, p.2.s)) (h : EvM env wk (shE encS) m) : EvM env (wGd tab wk) (shE encS) (bd m fun k => ofO (gdL t k)) := fun Q q =>
  Zg2 h q fun k q => by
    obtain ⟨a, e, q⟩ := Zcl q
    exact ⟨(k.s, a.s), by rw [ht]; exact List.mem_map.mpr ⟨_, Zmg e, rfl⟩, rfl, q⟩
end
end DL
set_option Elab.async false
set_option linter.all false
set_option maxRecDepth 100000
set_option maxHeartbeats 1000000
namespace DL
open PySem PySem.Spec PyProof.Rows L2
theorem Zwi {α : Type} [DecidableEq α] {n : Nat} {fa : α → D} {x : α} {xs : List α} {v : Slot} {neg : Bool} (h : EqE n fa) (hf : ∀ a, (fa a).flat = true) (hv : v.dat = some (.tup (xs.map fa))) : OpP (oIn neg) (.sh (fa x)) v (.sh (.bl (neg ^^ decide (x ∈ xs)))) := fun k q => by
  unfold oIn
  rw [hv]
  refine ⟨hf x, ?_, by rw [Zqp h]; exact q⟩
  rw [List.all_map, List.all_eq_true]
  exact fun a _ => hf a
section
variable {env : En} {wi : WI} {rest body : WS} {g : WG} {σ τ ρ α : Type} {cv : τ → O}
end
end DL
set_option Elab.async false
set_option linter.all false
set_option maxRecDepth 100000
set_option maxHeartbeats 1000000
namespace DL
open PySem PySem.Spec PyProof.Rows L2
noncomputable def isaX (c T : Str) : Bool := c == T || T == ("FeastError" : Str) || T == ("ValueError" : Str)
section
variable {α σ τ : Type}
variable {env : En} {we : WE} {rest : WS} {cv : τ → O} {tab : List (Str × Bool)}
theorem Zqw {a : Addr} {b : Bool} : UnP (oIsX a b) (.xc a) (.sh (.bl b)) := fun k q => ⟨rfl, q⟩
theorem Zqi {i : Nat} {a : Addr} (h : env[i]? = some (.xc a)) : EvP env (Zkq i) (.xc a) := fun Q q => by
  unfold Zkq; rw [h]; exact q
end
section
variable {σ τ ρ : Type} {env : En} {wc : WE} {w1 w2 rest : WS} {cv : τ → O}
end
end DL
set_option Elab.async false
set_option linter.all false
set_option maxRecDepth 100000
set_option maxHeartbeats 1000000
namespace DL
open PySem PySem.Spec PyProof.Rows L2
noncomputable def encA {α β : Type} (f : α → D) (g : β → D) : α ⊕ β → D
  | .inl a => f a
  | .inr b => g b
noncomputable def altE {α β γ : Type} (f : α → γ) (g : β → γ) : α ⊕ β → γ
  | .inl a => f a
  | .inr b => g b
section
variable {α β γ : Type} {f : α → D} {g : β → D} {x : Slot} {o : α ⊕ β}
theorem Z11 [DecidableEq α] [DecidableEq β] {n : Nat} (h : EqE n f) (h' : EqE n g) (d : ∀ a b, PyData.eqv (f a).py (g b).py = false ∧ PyData.eqv (g b).py (f a).py = false) : EqE n (encA f g) := ⟨fun x => by
  cases x with
  | inl a => exact h.lay a
  | inr b => exact h'.lay b, fun x y => by
  cases x with
  | inl a => cases y with
    | inl b =>
      show PyData.eqv (f a).py (f b).py = _
      rw [h.eq]
      exact decide_eq_decide.mpr ⟨fun z => by rw [z], fun z => Sum.inl.inj z⟩
    | inr b =>
      show PyData.eqv (f a).py (g b).py = _
      rw [(d a b).1]
      exact (decide_eq_false (fun z => by cases z)).symm
  | inr a => cases y with
    | inl b =>
      show PyData.eqv (g a).py (f b).py = _
      rw [(d b a).2]
      exact (decide_eq_false (fun z => by cases z)).symm
    | inr b =>
      show PyData.eqv (g a).py (g b).py = _
      rw [h'.eq]
      exact decide_eq_decide.mpr ⟨fun z => by rw [z], fun z => Sum.inr.inj z⟩, fun x => by
  cases x with
  | inl a => exact h.dep a
  | inr b => exact h'.dep b⟩
end
end DL
namespace DL
open PySem PySem.Spec PyProof.Rows L2
section
variable {α β : Type} {f : α → D} {g : β → D} {env : En} {we : WE}
theorem Zou {m : P α} (h : EvM env we (shE f) m) : EvM env we (shE (encA f g)) (bd m fun a => .ok (Sum.inl a)) := fun Q q => h Q (by
  cases m with
  | ok a => exact q
  | error e => cases e with
    | stuck => exact q
    | exc c fs => exact q)
theorem Zt3 {m : P β} (h : EvM env we (shE g) m) : EvM env we (shE (encA f g)) (bd m fun a => .ok (Sum.inr a)) := fun Q q => h Q (by
  cases m with
  | ok a => exact q
  | error e => cases e with
    | stuck => exact q
    | exc c fs => exact q)
end
section
variable {a b c d e f' g' : Type} {fa : a → D} {fb : b → D} {fc : c → D} {fd : d → D} {ga : e → D} {gb : f' → D} {gc : g' → D}
end
end DL
set_option Elab.async false
set_option linter.all false
set_option maxRecDepth 100000
set_option maxHeartbeats 1000000
namespace DL
open PySem PySem.Spec PyProof.Rows L2
section
variable {α β τ : Type} {env : En} {we : WE} {w1 rest : WS} {cv : τ → O}
end
end DL
set_option Elab.async false
set_option linter.all false
set_option maxRecDepth 100000
set_option maxHeartbeats 1000000
namespace DL
open PySem PySem.Spec PyProof.Rows L2
noncomputable def mkT (s : Str) : Option Tx := if h : PyData.canLay0 (.str s) = true then some ⟨s, h⟩ else none
theorem Zow {s : Str} {t : Tx} (h : mkT s = some t) : t.s = s := by
  unfold mkT at h
  split at h
  · cases h; rfl
  · cases h
noncomputable def strT (i : Int) : Option Tx := if i.natAbs.log2 < 1920 then mkT (toString i) else none
noncomputable def catT (a b : Tx) : Option Tx := if a.s.length + b.s.length ≤ 16777216 then mkT (a.s ++ b.s) else none
noncomputable def intT (t : Tx) : Option Int := if t.s.length ≤ 640 then PySem.intText? t.s else none
noncomputable def cutT (t : Tx) (lo hi : Option Int) : Option Tx := if t.s.length ≤ 16777216 then mkT (cutS t.s lo hi) else none
noncomputable def jsS {α : Type} (acc y : Str) (k : Str → P α) : P α := if y.length ≤ 16777216 ∧ (acc ++ y).length ≤ 16777216 then k (acc ++ y) else stuck
noncomputable def jsI {α : Type} (acc : Str) (i : Int) (k : Str → P α) : P α := if i.natAbs.log2 < 1920 then jsS acc (toString i) k else stuck
section
variable {α : Type} {env : En} {w we : WE} {ws : List WE} {wl wh : WO} {f : α → Slot}
theorem Zyz {i : Int} {x : Slot} (hx : x = .sh (.int i)) : UnM oStr x (shE encS) (strT i) := fun k a e q => by
  subst hx
  unfold strT at e
  split at e
  · rename_i h
    have hs := Zow e
    unfold oStr
    dsimp only [strD]
    rw [if_pos h]
    show k (.sh (.str _))
    have q' : k (.sh (.str a.s)) := q
    rw [hs] at q'
    exact q'
  · cases e
theorem Zyx {t : Tx} : UnP oStr (.sh (encS t)) (.sh (encS t)) := fun k q => q
theorem Zgg {a b : Tx} : OpM Zh9 (.sh (encS a)) (.sh (encS b)) (shE encS) (catT a b) := fun k t e q => by
  unfold catT at e
  split at e
  · rename_i h
    have hs := Zow e
    refine ⟨h, ?_⟩
    have q' : k (.sh (.str t.s)) := q
    rw [hs] at q'
    exact q'
  · cases e
theorem Zt2 {t : Tx} : UnM oInt (.sh (encS t)) (shE D.int) (intT t) := fun k a e q => by
  unfold intT at e
  unfold oInt
  show (match intD (.str t.s) with | some i => k (.sh (.int i)) | none => False)
  dsimp only [intD]
  rw [e]
  exact q
theorem Zch {t : Tx} {lo hi : Option Int} (h : EvP env we (.sh (encS t))) (hl : EvO env wl lo) (hh : EvO env wh hi) : EvM env (Zb7 we wl wh) (shE encS) (ofO (cutT t lo hi)) := fun Q q => h _ (hl _ (hh _ (by
  unfold cutT at q
  split at q
  · rename_i hz
    cases e : mkT (cutS t.s lo hi) with
    | none => rw [e] at q; exact q.elim
    | some a =>
      rw [e] at q
      have q' : Q (.ok (.sh (.str a.s))) := q
      rw [Zow e] at q'
      exact ⟨hz, q'⟩
  · exact q.elim)))
end
end DL
namespace DL
open PySem PySem.Spec PyProof.Rows L2
end DL
set_option Elab.async false
set_option linter.all false
set_option maxRecDepth 100000
namespace DL
open PySem PySem.Spec PyProof.Rows L2
noncomputable def nubT {α : Type} [DecidableEq α] : List α → List α
  | [] => []
  | a :: r => if a ∈ nubT r then nubT r else a :: nubT r
noncomputable def Z1i (xs : List (T2 Int Int)) : List (T2 Int Int) := Zsc Zzd (nubT xs)
end DL
set_option Elab.async false
set_option linter.all false
set_option maxRecDepth 100000
set_option maxHeartbeats 4000000
namespace DL
open PySem PySem.Spec PyProof.Rows L2
noncomputable def encV {α : Type} (f : α → D) (xs : List α) : D := .tup (xs.map f)
noncomputable abbrev SI := Tx ⊕ Int
noncomputable abbrev Zaz : SI → D := encA encS D.int
noncomputable def asS : SI → Option Tx
  | .inl t => some t
  | .inr _ => none
noncomputable def asI : SI → Option Int
  | .inl _ => none
  | .inr i => some i
theorem Z1t (a : Tx) (b : Int) : PyData.eqv (encS a).py (D.int b).py = false ∧ PyData.eqv (D.int b).py (encS a).py = false := ⟨rfl, rfl⟩
section
variable {α β γ : Type} {f : α → D} {env : En} {we wb : WE} {wA : WA}
theorem Z12 [DecidableEq α] {n : Nat} (h : EqE n f) : EqE (n + 1) (encV f) := ⟨fun xs => Zh6 h.lay xs, fun xs ys => by
  show PyData.eqv (.tuple (D.pys (xs.map f))) (.tuple (D.pys (ys.map f))) = _
  rw [PyData.eqv, Zh3 h.eq], fun xs => by
  show PyData.depth (.tuple (D.pys (xs.map f))) ≤ _
  unfold PyData.depth
  have := Zif h.dep xs
  omega⟩
theorem Z06 : EqE 1 Zaz := Z11 Zb8 Zcq Z1t
theorem Zym {a : SI} (h : EvP env we (.sh (Zaz a))) : EvM env we (shE D.int) (ofO (asI a)) := fun Q q => by
  cases a with
  | inl t => exact q.elim
  | inr i => exact h Q q
theorem Zvl {m : P SI} (h : EvM env we (shE Zaz) m) : EvM env we (shE encS) (bd m fun a => ofO (asS a)) := fun Q q => h Q (by
  rcases specE_bd q with ⟨a, e, q⟩ | ⟨c, fs, e, q⟩
  · rw [e]
    cases a with
    | inl t => exact q
    | inr i => exact q.elim
  · rw [e]; exact q)
theorem Z0q {n : Nat} {x : Slot} {xs : List α} (h : x.dat = some (encV f xs)) : UnM (oIxN n) x (shE f) (xs[n]?) := fun k a e q => by
  unfold oIxN; rw [h]
  show (match (xs.map f)[n]? with | some d => k (.sh d) | none => False)
  rw [List.getElem?_map, e]; exact q
theorem Zyt {x : Slot} {xs : List α} (h : x.dat = some (encV f xs)) : UnP oLen x (.sh (.int (xs.length : Int))) := fun k q => by
  unfold oLen; rw [h]
  show k (.sh (.int ((xs.map f).length : Int)))
  rw [List.length_map]; exact q
noncomputable def cutV (xs : List α) (lo hi : Option Int) : Option (List α) := if ¬ (HT.sIx xs.length 0 lo = 0 ∧ HT.sIx xs.length xs.length hi = xs.length) then some (cutD xs lo hi) else none
theorem Zrc {x : Slot} {xs : List α} {wl wh : WO} {lo hi : Option Int} (h : EvP env we x) (hl : EvO env wl lo) (hh : EvO env wh hi) (hx : x.dat = some (encV f xs)) : EvM env (Zb7 we wl wh) (shE (encV f)) (ofO (cutV xs lo hi)) := fun Q q => h _ (hl _ (hh _ (by
  unfold cutV at q
  split at q
  · rename_i hn
    show Zfh x lo hi (fun z => Q (.ok z))
    unfold Zfh
    rw [hx]
    refine ⟨by rw [List.length_map]; exact hn, ?_⟩
    rw [Zph]
    exact q
  · exact q.elim)))
end
section
variable {α τ : Type} {env : En} {rest : WS} {cv : τ → O}
end
section
variable {α : Type} {f : α → D} {env : En} {we : WE}
noncomputable def Zvw : SI → Option Tx
  | .inl t => some t
  | .inr i => strT i
theorem Zvk {a : SI} {x : Slot} (hx : x = .sh (Zaz a)) : UnM oStr x (shE encS) (Zvw a) := by
  subst hx
  cases a with
  | inl t => exact fun k b e q => by cases e; exact Zyx k q
  | inr i => exact Zyz rfl
theorem Zvm {T : String} {x : Slot} {a : SI} (h : x.dat = some (Zaz a)) {bs bi : Bool} (hs : ∀ t, isD (encS t) T = bs) (hi : ∀ i, isD (.int i) T = bi) : UnP (oIsi T) x (.sh (.bl (altE (fun _ => bs) (fun _ => bi) a))) := by
  cases a with
  | inl t => exact Zn8 (d := encS t) h (hs t) rfl
  | inr i => exact Zn8 (d := .int i) h (hi i) rfl
end
end DL
set_option Elab.async false
set_option linter.all false
set_option maxRecDepth 100000
set_option maxHeartbeats 4000000
namespace DL
open PySem PySem.Spec PyProof.Rows L2
theorem Zsh {a b : Tx} (h : a.s = b.s) : a = b := by
  cases a; cases b
  cases h
  rfl
noncomputable def allT : List Str → Option (List Tx)
  | [] => some []
  | x :: xs => (mkT x).bind fun t => (allT xs).map (t :: ·)
theorem Zsx : ∀ {xs : List Str} {ts : List Tx}, allT xs = some ts → ts.map (·.s) = xs
  | [], _, h => by cases h; rfl
  | x :: xs, ts, h => by
    unfold allT at h
    obtain ⟨t, e, h⟩ := Option.bind_eq_some_iff.mp h
    obtain ⟨r, e2, rfl⟩ := Option.map_eq_some_iff.mp h
    rw [List.map_cons, Zow e, Zsx e2]
theorem Zhx (ts : List Tx) : (ts.map (·.s)).map D.str = ts.map encS := by
  rw [List.map_map]
  rfl
noncomputable def Zio (t : Tx) (sep : Str) : Option (List Tx) := if (sep.length == 0) = false ∧ t.s.length + 2 ≤ 16777216 then allT (Txt.split t.s sep) else none
noncomputable def Zj3 (sep : Str) (ts : List Tx) : Option Tx := if ((ts.map (·.s)).map (·.length)).sum + ts.length * sep.length ≤ 16777216 then mkT (Txt.join sep (ts.map (·.s))) else none
noncomputable def Zgh (t : Tx) : Option (List Tx) := allT (t.s.cps.toList.map fun c => ⟨#[c]⟩)
noncomputable def chAt (t : Tx) (n : Nat) : Option Tx := if t.s.length ≤ 16777216 then (t.s.cps.toList[n]?).bind fun c => mkT ⟨#[c]⟩ else none
noncomputable def Zrg (t : Tx) (i : Int) : Option Tx := if t.s.length ≤ 16777216 then (atI t.s.cps.toList i).bind fun c => mkT ⟨#[c]⟩ else none
noncomputable def lenT (t : Tx) : Option Int := if t.s.length ≤ 16777216 then some (t.s.length : Int) else none
noncomputable def inTx (neg : Bool) (t u : Tx) : Option Bool := match t.s with
  | ⟨⟨[c]⟩⟩ => some (neg ^^ decide (c ∈ u.s.cps.toList))
  | _ => none
section
variable {α β : Type} {g : β → D} {env : En} {we wk : WE} {wA : WA} {sep : Str}
theorem Zwj {t : Tx} {Q : R Slot → Prop} (q : Zhw (ofO (Zio t sep)) (owE (encL encS)) Q) : txtK (fun x => (sep.length == 0) = false ∧ x.length + 2 ≤ sizeLine ∧ Q (.ok (.ow (.lst ((Txt.split x sep).map D.str))))) (.sh (encS t)) := by
  obtain ⟨ts, e, q⟩ := Zcl q
  unfold Zio at e
  split at e
  · rename_i h
    refine ⟨h.1, by rw [sizeLine_eq]; exact h.2, ?_⟩
    rw [← Zsx e, Zhx]
    exact q
  · cases e
theorem Zjj {t : Tx} (h : EvP env we (.sh (encS t))) : EvM env (Zlc we sep) (owE (encL encS)) (ofO (Zio t sep)) := fun Q q => h _ (Zwj q)
theorem Zto {x : Slot} {ds : List D} {k : List D → Prop} (h : Zoa x = some (.lst ds)) (q : k ds) : Zhb k x := by
  cases x with
  | sh d => cases h; exact q
  | bo d => cases h; exact q
  | ow d => cases h; exact q
  | lk a d => cases h; exact q
  | _ => cases h
theorem Zmw {x : Slot} {ts : List Tx} {Q : R Slot → Prop} (hx : Zoa x = some (encL encS ts)) (q : Zhw (ofO (Zj3 sep ts)) (shE encS) Q) : Zhb (Z05 sep fun z => Q (.ok (.sh (.str z)))) x := by
  obtain ⟨t, e, q⟩ := Zcl q
  unfold Zj3 at e
  split at e
  · rename_i h
    refine Zto hx ⟨ts.map (·.s), (Zhx ts).symm, by rw [List.length_map]; exact h, ?_⟩
    rw [← Zow e]
    exact q
  · cases e
theorem Zqm {x : Slot} {ts : List Tx} (h : EvP env we x) (hx : Zoa x = some (encL encS ts)) : EvM env (Znf sep we) (shE encS) (ofO (Zj3 sep ts)) := fun Q q => h _ (Zmw hx q)
theorem Znd {x : List Tx → Slot} {m : P (List Tx)} (h : EvM env we x m) (hx : ∀ ts, Zoa (x ts) = some (encL encS ts)) : EvM env (Znf sep we) (shE encS) (bd m fun ts => ofO (Zj3 sep ts)) := fun Q q => Zg2 h q fun ts q => Zmw (hx ts) q
theorem Zob {t : Tx} {ts : List Tx} (e : Zgh t = some ts) : Zdj t.s = ts.map encS := by
  unfold Zdj
  rw [← Zhx, Zsx e, List.map_map]
  rfl
theorem Zk7 {t : Tx} (h : EvP env we (.sh (encS t))) : EvIM env (Znj we) encS (ofO (Zgh t)) := fun Q q => h _ (by
  show Q (.ok (Zdj t.s))
  cases e : Zgh t with
  | none => rw [e] at q; exact q.elim
  | some ts =>
    rw [e] at q
    rw [Zob e]
    exact q)
theorem Zn0 {t : Tx} {y : Slot} {ys : List β} (h : EvA env wA [.sh (encS t), y]) (hy : Zoa y = some (encL g ys)) : EvIM env (Zrt wA) (enc2 encS g) (bd (ofO (Zgh t)) fun cs => .ok (zipZ cs ys)) := fun Q q => h _ (by
  show lst1 (fun es => Q (.ok (zipD (Zdj t.s) es))) [y]
  refine Zuq hy ?_
  cases e : Zgh t with
  | none => rw [e] at q; exact q.elim
  | some cs =>
    rw [e] at q
    have z : zipD (cs.map encS) (ys.map g) = (zipZ cs ys).map (enc2 encS g) := by
      unfold zipD zipZ
      rw [List.zip_map, List.map_map, List.map_map]; rfl
    rw [Zob e, z]
    exact q)
theorem Zie {t : Tx} {x : Slot} (hx : x = .sh (encS t)) : UnM oLen x (shE D.int) (lenT t) := fun k a e q => by
  subst hx
  unfold lenT at e
  split at e
  · rename_i h
    cases e
    show (match (if t.s.length ≤ 16777216 then some (t.s.length : Int) else none) with | some n => k (.sh (.int n)) | none => False)
    rw [if_pos h]
    exact q
  · cases e
theorem Zr9 {n : Nat} {t : Tx} {x : Slot} (hx : x = .sh (encS t)) : UnM (oIxN n) x (shE encS) (chAt t n) := fun k a e q => by
  subst hx
  unfold chAt at e
  split at e
  · rename_i h
    obtain ⟨c, e1, e2⟩ := Option.bind_eq_some_iff.mp e
    refine ⟨h, ?_⟩
    rw [e1]
    show k (.sh (.str ⟨#[c]⟩))
    rw [← Zow e2]
    exact q
  · cases e
theorem Ztm {t : Tx} {i : Int} : OpM oIx (.sh (encS t)) (.sh (.int i)) (shE encS) (Zrg t i) := fun k a e q => by
  unfold Zrg at e
  split at e
  · rename_i h
    obtain ⟨c, e1, e2⟩ := Option.bind_eq_some_iff.mp e
    refine ⟨h, i, c, rfl, e1, ?_⟩
    rw [← Zow e2]
    exact q
  · cases e
theorem Ztw {neg : Bool} {t u : Tx} : OpM (oIn neg) (.sh (encS t)) (.sh (encS u)) blE (inTx neg t u) := fun k a e q => by
  obtain ⟨⟨⟨l⟩⟩, ht⟩ := t
  unfold inTx at e
  dsimp only at e
  match l, e with
  | [c], e =>
    cases e
    exact ⟨c, rfl, q⟩
theorem Zlw {neg : Bool} {ks : List Str} {ts : List Tx} {t : Tx} (hk : ks = ts.map (·.s)) (h : EvP env wk (.sh (encS t))) : EvP env (Zoc neg ks wk) (.sh (.bl (neg ^^ decide (t ∈ ts)))) := fun Q q => h _ (by
  show Q (.ok (.sh (.bl (neg ^^ decide (t.s ∈ ks)))))
  have e : decide (t.s ∈ ks) = decide (t ∈ ts) := decide_eq_decide.mpr (by
    rw [hk]
    constructor
    · intro z
      obtain ⟨u, hu, e⟩ := List.mem_map.mp z
      rw [← Zsh e]
      exact hu
    · exact fun z => List.mem_map.mpr ⟨t, z, rfl⟩)
  rw [e]
  exact q)
theorem Zvd {neg : Bool} {ks : List Str} {ts : List Tx} {m : P Tx} (hk : ks = ts.map (·.s)) (h : EvM env wk (shE encS) m) : EvM env (Zoc neg ks wk) blE (bd m fun t => .ok (neg ^^ decide (t ∈ ts))) := fun Q q => Zg2 h q fun t q => Zlw (env := env) (wk := fun e Q => Q (.ok (.sh (encS t)))) hk (fun Q q => q) Q q
end
section
variable {α : Type} {f : α → D} {env : En} {we : WE}
theorem Zzv {m : P (List α)} (h : EvM env we (shE (encV f)) m) : EvIM env (Zrq we) f m := fun Q q => h _ (by
  cases m with
  | ok xs => exact q
  | error e => cases e with
    | stuck => exact q
    | exc c fs => exact q)
theorem Zpp {x : Slot} {xs : List α} (h : x.dat = some (encL f xs)) : UnP Zit x (.sh (encV f xs)) := fun k q => by
  unfold Zit; rw [h]; exact q
end
end DL
set_option Elab.async false
set_option linter.all false
set_option maxRecDepth 100000
set_option maxHeartbeats 4000000
namespace DL
open PySem PySem.Spec PyProof.Rows L2
noncomputable def Zof {τ : Type} (I : En → Prop) (m : P τ) (cv : τ → O → Prop) (K : O → Prop) : Prop := match m with
  | .ok a => ∀ o, cv a o → K o
  | .error (.exc c fs) => ∀ e, I e → K (.ex c fs e)
  | .error .stuck => False
noncomputable def BI {τ : Type} (I : En → Prop) (env : En) (w : WS) (cv : τ → O → Prop) (m : P τ) : Prop := ∀ K : O → Prop, Zof I m cv K → w env K
@[reducible] noncomputable def rel {τ : Type} (cv : τ → O) : τ → O → Prop := fun a o => o = cv a
@[reducible] noncomputable def anyE : En → Prop := fun _ => True
noncomputable def noX {α : Type} (m : P α) : P α := match m with
  | .ok a => .ok a
  | .error _ => stuck
section
variable {env : En} {w w1 w2 w3 rest body : WS} {wa wb wc we wk : WE} {wm wm2 : WM} {wA : WA} {wi : WI} {α β δ τ σ ρ : Type} {cv : τ → O → Prop} {cf : τ → O} {g : WG} {I : En → Prop}
theorem i_of {m : P τ} (h : B env w cf m) : BI anyE env w (rel cf) m := fun K q => h K (by
  cases m with
  | ok a => exact q _ rfl
  | error e => cases e with
    | stuck => exact q
    | exc c fs => exact fun e => q e trivial)
theorem b_of {m : P τ} (h : BI anyE env w (rel cf) m) : B env w cf m := fun K q => h K (by
  cases m with
  | ok a => exact fun o e => by rw [e]; exact q
  | error e => cases e with
    | stuck => exact q
    | exc c fs => exact fun e _ => q e)
theorem specI_bd {m : P α} {mm : α → P β} {cv : β → O → Prop} {K : O → Prop} (h : Zof I (bd m mm) cv K) : (∃ a, m = .ok a ∧ Zof I (mm a) cv K) ∨ ∃ c fs, m = .error (.exc c fs) ∧ ∀ e, I e → K (.ex c fs e) := by
  cases m with
  | ok a => exact .inl ⟨a, rfl, h⟩
  | error e => cases e with
    | stuck => exact h.elim
    | exc c fs => exact .inr ⟨c, fs, rfl, h⟩
theorem Zxu {m : P α} {mm : α → P τ} {f : α → Slot} {K : O → Prop} {Q : R Slot → Prop} (q : Zof I (bd m mm) cv K) (h1 : ∀ a, Zof I (mm a) cv K → Q (.ok (f a))) (h2 : ∀ c fs, (∀ e, I e → K (.ex c fs e)) → Q (.ex c fs)) : Zhw m f Q := by
  rcases specI_bd q with ⟨a, e, q⟩ | ⟨c, fs, e, q⟩
  · rw [e]; exact h1 a q
  · rw [e]; exact h2 c fs q
theorem Z16 {t : τ} (h : cv t (.nx env)) : BI I env Zbd cv (.ok t) := fun K q => q _ h
theorem Zzu {i : Nat} {f : α → Slot} {m : P α} {mm : α → P τ} (e : α → En) (h : EvM env we f m) (ho : ∀ x, Zgz (f x)) (hi : i < env.length) (hs : ∀ x, env.set i (f x) = e x) (hr : ∀ x, BI I (e x) rest cv (mm x)) (hI : I env := by first | exact rfl | exact True.intro) : BI I env (wSeq (wAsg (gN i) we) rest) cv (bd m mm) := fun K q => wseq (h _ (Zxu q (fun a q => by
  show gN i (f a) env fun e => sq rest K (.nx e)
  exact Zsg (ho a) hi (by rw [hs]; exact hr a K q)) fun c fs q => q env hI))
theorem Zro {m : P σ} {mm : σ → P τ} {e : σ → En} {K : O → Prop} (q : Zof I (bd m mm) cv K) (hr : ∀ s, BI I (e s) rest cv (mm s)) : Zof I m (rel fun s => O.nx (e s)) (sq rest K) := by
  rcases specI_bd q with ⟨a, e1, q⟩ | ⟨c, fs, e1, q⟩
  · rw [e1]; exact fun o h => by rw [h]; exact hr a K q
  · rw [e1]; exact q
end
end DL
set_option Elab.async false
set_option linter.all false
set_option maxRecDepth 100000
set_option maxHeartbeats 4000000
namespace DL
open PySem PySem.Spec PyProof.Rows L2
section
variable {env : En} {w w1 w2 w3 rest body : WS} {wa wb wc we wk wo : WE} {wm wm2 : WM} {wA : WA} {wi : WI} {α β δ τ σ ρ κ : Type} {cv : τ → O → Prop} {cf : τ → O} {g : WG} {I : En → Prop}
end
end DL
set_option Elab.async false
set_option linter.all false
set_option maxRecDepth 100000
set_option maxHeartbeats 4000000
namespace DL
open PySem PySem.Spec PyProof.Rows L2
section
variable {env : En} {w w1 w2 w3 rest body wb : WS} {wc we wk wo : WE} {wm wa wm2 : WM} {wA : WA} {wi : WI} {α β δ τ σ ρ κ : Type} {cv : τ → O → Prop} {cf : τ → O} {g : WG} {I : En → Prop}
noncomputable def tryH {σ : Type} (m : P σ) (h : Str → List (Str × D) → P σ) : P σ := match m with
  | .ok s => .ok s
  | .error (.exc c fs) => h c fs
  | .error .stuck => stuck
noncomputable def selT {σ : Type} (tab : List (Str × Bool)) (c : Str) (m1 m2 : P σ) : P σ := match Zra tab c with
  | some true => m1
  | some false => m2
  | none => stuck
noncomputable def HND {σ : Type} (env : En) (hs : List (List (Str × Bool) × HK)) (e : σ → En) (h : Str → List (Str × D) → P σ) : Prop := ∀ (c : Str) (fs : List (Str × D)) (K : O → Prop), Zed (h c fs) (fun s => O.nx (e s)) K → (h c fs ≠ stuck → ∃ s, h c fs = .ok s) → hndM hs K (.ex c fs env)
theorem Z0k {hs : List (List (Str × Bool) × HK)} {Q : O → Prop} {e : En} (q : Q (.nx e)) : hndM hs Q (.nx e) := by
  cases hs <;> exact q
theorem Zzt {hs : List (List (Str × Bool) × HK)} {m : P σ} {h : Str → List (Str × D) → P σ} {mm : σ → P τ} (e : σ → En) (hb : BI (fun e => e = env) env wb (rel fun s => .nx (e s)) m) (hh : HND env hs e h) (hr : ∀ s, BI I (e s) rest cv (mm s)) : BI I env (wSeq (Zu9 hs wb) rest) cv (bd (tryH m fun c fs => noX (h c fs)) mm) := fun K q => by
  show wb env (hndM hs (sq rest K))
  refine hb _ ?_
  have q := Zro q hr
  cases m with
  | ok s =>
    intro o ho
    have ho : o = .nx (e s) := ho
    subst ho
    exact Z0k (q _ rfl)
  | error z => cases z with
    | stuck => exact q.elim
    | exc c fs =>
      intro e1 he
      subst he
      have q : Zof I (noX (h c fs)) (rel fun s => O.nx (e s)) (sq rest K) := q
      refine hh c fs _ ?_ ?_
      · cases hc : h c fs with
        | ok s => rw [hc] at q; exact q _ rfl
        | error z => rw [hc] at q; exact q.elim
      · intro _
        cases hc : h c fs with
        | ok s => exact ⟨s, rfl⟩
        | error z => rw [hc] at q; exact q.elim
theorem Zyk {e : σ → En} : HND env [] e (fun _ _ => (stuck : P σ)) := fun c fs K q _ => q.elim
theorem Zz3 {i : Nat} {tab : List (Str × Bool)} {ws : Addr → Str → WS} {hs : List (List (Str × Bool) × HK)} {e : σ → En} {e3 : Addr → σ → En} {mh : Str → P σ} {h : Str → List (Str × D) → P σ} (hi : i < env.length) (h1 : ∀ a c, B (env.set i (.xc a)) (ws a c) (fun s => .nx (e3 a s)) (mh c)) (he : ∀ a s, (e3 a s).set i .un = e s) (h2 : HND env hs e h) : HND env ((tab, .nm i ws) :: hs) e (fun c fs => selT tab c (mh c) (h c fs)) := fun c fs K q hn => by
  dsimp only [hndM]
  dsimp only [selT] at q hn
  split
  · rename_i ht
    rw [ht] at q hn
    dsimp only at q hn
    refine ⟨hi, fun a => h1 a c _ ?_⟩
    obtain ⟨s, hs⟩ := hn (fun z => by rw [z] at q; exact q)
    rw [hs] at q ⊢
    show K (.nx ((e3 a s).set i .un))
    rw [he]
    exact q
  · rename_i ht
    rw [ht] at q hn
    exact h2 c fs K q hn
  · rename_i ht
    rw [ht] at q
    exact q.elim
noncomputable def Dct.items {κ α : Type} (m : Dct κ α) : List (T2 κ α) := m.l.map fun p => ⟨p.1, p.2⟩
end
end DL
set_option Elab.async false
set_option linter.all false
set_option maxRecDepth 100000
set_option maxHeartbeats 4000000
namespace DL
open PySem PySem.Spec PyProof.Rows L2
section
variable {env : En} {w w1 w2 w3 rest body : WS} {wa wb wc we wk wo : WE} {wm wm2 : WM} {wA : WA} {wi : WI} {α β δ τ σ ρ κ : Type} {cv : τ → O → Prop} {cf : τ → O} {g : WG} {I : En → Prop}
end
noncomputable def IT : List (Option Int) → List D → Prop
  | [], [] => True
  | none :: l, _ :: ds => IT l ds
  | some n :: l, d :: ds => d = .int n ∧ IT l ds
  | _, _ => False
theorem IT.get : ∀ {l : List (Option Int)} {ds : List D}, IT l ds → l.length = ds.length ∧ ∀ (j : Nat) (n : Int), l[j]? = some (some n) → ds[j]? = some (.int n)
  | [], [], _ => ⟨rfl, fun _ _ h => by simp at h⟩
  | none :: l, d :: ds, h => by
    obtain ⟨h1, h2⟩ := IT.get (l := l) (ds := ds) h
    refine ⟨congrArg (· + 1) h1, fun j n e => ?_⟩
    cases j with
    | zero => simp at e
    | succ j => exact h2 j n e
  | some m :: l, d :: ds, h => by
    obtain ⟨h1, h2⟩ := IT.get (l := l) (ds := ds) h.2
    refine ⟨congrArg (· + 1) h1, fun j n e => ?_⟩
    cases j with
    | zero =>
      have e : some (some m) = some (some n) := e
      cases e
      show some d = _
      rw [h.1]
    | succ j => exact h2 j n e
  | [], _ :: _, h => h.elim
  | none :: _, [], h => h.elim
  | some _ :: _, [], h => h.elim
noncomputable abbrev Ft : Type := T6 Int Tx Tx Int Int Int
structure Bk where
  (years : List (T2 Int Int)) (feasts : Dct Int Ft) (closes : Dct Int Int) (seals : Dct Int Bool) (kept : List (T4 Int Int Tx Int))
noncomputable abbrev Zzq : T4 Int Int Tx Int → D := enc4 D.int D.int encS D.int
@[reducible] noncomputable def dK (b : Bk) : D := encL Zzq b.kept
structure Lg where
  (books undone : List Bk)
end DL
set_option Elab.async false
set_option linter.all false
set_option maxRecDepth 100000
set_option maxHeartbeats 4000000
namespace DL
open PySem PySem.Spec PyProof.Rows L2
end DL
set_option Elab.async false
set_option linter.all false
set_option maxRecDepth 100000
set_option maxHeartbeats 4000000
namespace DL
open PySem PySem.Spec PyProof.Rows L2
section
variable {τ : Type} {I : En → Prop} {env : En} {w rest : WS} {cv : τ → O → Prop}
end
end DL
set_option Elab.async false
set_option linter.all false
set_option maxRecDepth 100000
set_option maxHeartbeats 4000000
namespace DL
open PySem PySem.Spec PyProof.Rows L2
section
variable {α β : Type} {env : En} {we wlo : WE} {wh : WO}
end
section
variable {α : Type} {env : En} {w we : WE} {ws : List WE} {f : α → Slot}
end
end DL
set_option Elab.async false
set_option linter.all false
set_option maxRecDepth 100000
set_option maxHeartbeats 4000000
namespace DL
open PySem PySem.Spec PyProof.Rows L2
section
variable {τ α : Type} {I : En → Prop} {env : En} {we : WE} {cv : τ → O → Prop}
end
end DL
set_option Elab.async false
set_option linter.all false
set_option maxRecDepth 100000
set_option maxHeartbeats 4000000
namespace DL
open PySem PySem.Spec PyProof.Rows L2
section
variable {a b c d e f : Type} [DecidableEq a] [DecidableEq b] [DecidableEq c] [DecidableEq d] [DecidableEq e] [DecidableEq f] {n : Nat}
variable {fa : a → D} {fb : b → D} {fc : c → D} {fd : d → D} {fe : e → D} {ff : f → D}
end
end DL
set_option Elab.async false
set_option linter.all false
set_option maxRecDepth 100000
set_option maxHeartbeats 4000000
namespace DL
open PySem PySem.Spec PyProof.Rows L2
section
variable {env : En} {we : WE} {wm : WM} {α β δ : Type}
end
end DL
set_option Elab.async false
set_option linter.all false
set_option maxRecDepth 100000
set_option maxHeartbeats 4000000
namespace DL
open PySem PySem.Spec PyProof.Rows L2
section
variable {env : En} {w : WS} {α τ : Type} {cv : τ → O}
end
end DL
set_option Elab.async false
set_option linter.all false
set_option maxRecDepth 100000
set_option maxHeartbeats 4000000
namespace DL
open PySem PySem.Spec PyProof.Rows L2
section
variable {env : En} {w rest : WS} {we wk : WE} {wm : WM} {wA : WA} {α β τ σ1 σ2 : Type} {cv : τ → O → Prop} {I : En → Prop}
end
end DL
set_option Elab.async false
set_option linter.all false
set_option maxRecDepth 100000
set_option maxHeartbeats 4000000
namespace DL
open PySem PySem.Spec PyProof.Rows L2
section
variable {α β τ σ : Type} {env : En} {we : WE} {w w1 rest : WS} {wA : WA} {cv : τ → O → Prop} {cf : τ → O} {I : En → Prop} {f : α → D}
end
end DL
set_option Elab.async false
set_option linter.all false
set_option maxRecDepth 100000
set_option maxHeartbeats 4000000
namespace DL
open PySem PySem.Spec PyProof.Rows L2
section
variable {env : En} {w w1 rest wb : WS} {wA : WA} {α β τ σ : Type} {cv : τ → O → Prop} {cf : τ → O} {I : En → Prop}
end
end DL
set_option Elab.async false
set_option linter.all false
set_option maxRecDepth 100000
set_option maxHeartbeats 4000000
namespace DL
open PySem PySem.Spec PyProof.Rows L2
section
variable {env : En} {wa wb : WE}
noncomputable def idxO (xs : List Tx) (x : Tx) : Option Int := if x ∈ xs then some ((xs.idxOf x : Nat) : Int) else none
theorem Zzf {x : Tx} : ∀ {xs : List Tx}, (xs.map (·.s)).idxOf x.s = xs.idxOf x
  | [] => rfl
  | y :: ys => by
    rw [List.map_cons, List.idxOf_cons, List.idxOf_cons, Zzf (xs := ys)]
    by_cases h : y = x
    · subst h
      rw [beq_self_eq_true, beq_self_eq_true]
    · have h2 : ¬ y.s = x.s := fun e => h (Zsh e)
      rw [beq_eq_false_iff_ne.mpr h, beq_eq_false_iff_ne.mpr h2]
theorem Zsm {v : Slot} {xs : List Tx} {x : Tx} (ha : EvP env wa v) (hb : EvP env wb (.sh (encS x))) (hv : v.dat = some (encL encS xs)) : EvM env (wIdx wa wb) (shE D.int) (ofO (idxO xs x)) := fun Q q => ha _ ⟨⟨_, hv⟩, hb _ (by
  obtain ⟨t, e, q⟩ := Zcl q
  unfold idxO at e
  split at e
  · rename_i h
    cases e
    show oIdx v (.sh (encS x)) fun z => Q (.ok z)
    unfold oIdx encS
    rw [hv]
    refine ⟨xs.map (·.s), (Zhx xs).symm ▸ rfl, List.mem_map.mpr ⟨x, h, rfl⟩, ?_⟩
    rw [Zzf]
    exact q
  · cases e)⟩
theorem Zry {β : Type} {g : β → D} {wA : WA} {o : Option Tx} {y : Slot} {ys : List β} (h : EvA env wA [.sh (encO encS o), y]) (hy : Zoa y = some (encL g ys)) : EvIM env (Zrt wA) (enc2 encS g) (bd (ofO o) fun t => bd (ofO (Zgh t)) fun cs => .ok (zipZ cs ys)) := by
  cases o with
  | none => exact fun Q q => q.elim
  | some t => exact Zn0 h hy
end
end DL
set_option Elab.async false
set_option linter.all false
set_option maxRecDepth 100000
set_option maxHeartbeats 1000000
set_option synthInstance.maxSize 2000
set_option synthInstance.maxHeartbeats 400000
namespace DL
open PySem PySem.Spec PyProof.Rows L2
end DL
namespace DL
noncomputable abbrev SOq := List (Tx ⊕ Int)
end DL
set_option Elab.async false
set_option linter.all false
set_option maxRecDepth 100000
set_option maxHeartbeats 1000000
set_option synthInstance.maxSize 2000
set_option synthInstance.maxHeartbeats 400000
namespace DL
open PySem PySem.Spec PyProof.Rows L2
noncomputable def Zgj : WS :=
 (wSeq (wIf (wOp oLt (wVar 1) (wUn oLen (wVar 0)))
 (wRet (wOp oIx (wVar 0) (wVar 1)))
 Zbd)
 (wRet (wInt 0)))
theorem Zke : Zbi Zgj := (Zae (m_if (Zah (Zag 1) (Zaq (Zag 0) Zbv) Zbb) (Zb2 (Zah (Zag 0) (Zag 1) Zcp)) Zax) (Zb2 Zap))
@[irreducible] noncomputable def Zcv : G := gOf 2 Zgj
theorem Zgy : Zcv = gOf 2 Zgj := by with_unfolding_all rfl
theorem Zbs : Ze5 Zcv := Zgy ▸ Zbk Zke
noncomputable def Zcu (law_script : (List Int)) (law_place : Int) : P Int :=
  (cond (decide (law_place < (law_script.length : Int)))
  (bd (ofO (atI law_script law_place)) fun r1 => .ok r1)
  (.ok (0 : Int)))
theorem Zc1 (law_script : (List Int)) (law_place : Int) : Sim Zcv [.sh ((encL D.int) law_script), .sh (D.int law_place)] (shE D.int) (Zcu law_script law_place) :=
 Zdl Zgy (env := ([.sh ((encL D.int) law_script), .sh (D.int law_place)] : En)) rfl (fun _ => Zas) (by
  unfold Zcu Zgj
  exact (b_if (Za1 (Zaf (i := 1) rfl) (Zcs (Zaf (i := 0) rfl) (Zn4 (xs := law_script) rfl)) op_lt)
 (Zff (f := (shE D.int)) (t := fun r1 => r1) (Zct (Zaf (i := 0) rfl) (Zaf (i := 1) rfl) (Zhz (xs := law_script) rfl)) fun _ => rfl)
 (Zbo (Zot Zan rfl))))
noncomputable def Zgm : WS :=
 (wSeq (wIf (wOp oGe (wVar 0) (wOp oPow (wInt 10) (wInt 18)))
 (Zh4 0)
 Zbd)
 (wSeq (wAsg (gN 1) (wOp oMod (wOp oMul (wOp oMod (wOp oAdd (wOp oMul (wVar 0) (wInt 48271)) (wInt 7919)) (wInt 2147483647)) (wInt 16807)) (wInt 2147483629)))
 (wSeq (wAsg (gN 2) (wOp oMod (wOp oMul (wOp oMod (wOp oAdd (wOp oMul (wVar 0) (wInt 69621)) (wInt 104729)) (wInt 2147483587)) (wInt 40692)) (wInt 2147483399)))
 (wRet (wOp oAdd (wOp oMul (wVar 1) (wInt 2147483399)) (wVar 2))))))
theorem Zkp : Zbi Zgm := (Zae (m_if (Zah (Zag 0) (Zah Zap Zap Zbg) Zbb) Ztn Zax) (Zae (Zao Za2 (Zah (Zah (Zah (Zah (Zah (Zag 0) Zap Zbg) Zap Zbb) Zap Zbg) Zap Zbg) Zap Zbg)) (Zae (Zao Za2 (Zah (Zah (Zah (Zah (Zah (Zag 0) Zap Zbg) Zap Zbb) Zap Zbg) Zap Zbg) Zap Zbg)) (Zb2 (Zah (Zah (Zag 1) Zap Zbg) (Zag 2) Zbb)))))
@[irreducible] noncomputable def Zdo : G := gOf 3 Zgm
theorem Zg1 : Zdo = gOf 3 Zgm := by with_unfolding_all rfl
theorem Zjr : Ze5 Zdo := Zg1 ▸ Zbk Zkp
noncomputable def Zdr (law_cell_here : Int) : P Int :=
  (cond (decide ((1000000000000000000 : Int) ≤ law_cell_here))
  (.ok law_cell_here)
  (Zfw (((((law_cell_here * (48271 : Int)) + (7919 : Int)) % (2147483647 : Int)) * (16807 : Int)) % (2147483629 : Int)) fun (law_one : Int) =>
  (Zfw (((((law_cell_here * (69621 : Int)) + (104729 : Int)) % (2147483587 : Int)) * (40692 : Int)) % (2147483399 : Int)) fun (law_two : Int) =>
  (.ok ((law_one * (2147483399 : Int)) + law_two)))))
theorem Zgs (law_cell_here : Int) : Sim Zdo [.sh (D.int law_cell_here)] (shE D.int) (Zdr law_cell_here) :=
 Zdl Zg1 (env := ([.sh (D.int law_cell_here), .un, .un] : En)) rfl (fun _ => Zas) (by
  unfold Zdr Zgm
  exact (b_if (Za1 (Zaf (i := 0) rfl) (Za1 Zan Zan (op_pow (c := 1000000000000000000) ⟨by decide, by decide, by decide⟩ (by decide +kernel))) op_ge)
 (Zr2 (i := 0) (s := .sh (D.int law_cell_here)) rfl Zas rfl)
 (Zbo (Zo6 (shE D.int) (fun law_one => ([.sh (D.int law_cell_here), .sh (D.int law_one), .un] : En)) (Za1 (Za1 (Za1 (Za1 (Za1 (Zaf (i := 0) rfl) Zan (op_mul (Zts (by decide)))) Zan op_add) Zan (op_mod (by decide))) Zan (op_mul (Zts (by decide)))) Zan (op_mod (by decide))) (fun _ => Zas) (Nat.le_of_ble_eq_true rfl) (fun _ => rfl) fun law_one =>
 (Zo6 (shE D.int) (fun law_two => ([.sh (D.int law_cell_here), .sh (D.int law_one), .sh (D.int law_two)] : En)) (Za1 (Za1 (Za1 (Za1 (Za1 (Zaf (i := 0) rfl) Zan (op_mul (Zts (by decide)))) Zan op_add) Zan (op_mod (by decide))) Zan (op_mul (Zts (by decide)))) Zan (op_mod (by decide))) (fun _ => Zas) (Nat.le_of_ble_eq_true rfl) (fun _ => rfl) fun law_two =>
 (Zot (Za1 (Za1 (Zaf (i := 1) rfl) Zan (op_mul (Zts (by decide)))) (Zaf (i := 2) rfl) op_add) rfl))))))
noncomputable def Zel : WS :=
 (wSeq (wAsg (gN 2) (Zcx Zdo (Zak (wVar 0) aNil)))
 (wSeq (wAsg (gN 3) (wLst aNil))
 (wSeq (wFor (gT [4, 5]) (Zux (Zak (wVar 1) aNil))
 (wSeq (wIf (wOp oLt (wVar 2) (wVar 5))
 (wSeq (wAsg (gN 2) (Zcx Zdo (Zak (wOp oAdd (wOp oAdd (wVar 2) (wOp oMul (wInt 131) (wVar 4))) (wOp oMod (wVar 0) (wInt 1009))) aNil)))
 Zbd)
 Zbd)
 (wSeq (wApp 3 (wOp oMod (wVar 2) (wVar 5)))
 (wSeq (wAsg (gN 2) (wOp oDiv (wVar 2) (wVar 5)))
 (wFgt 4 (wFgt 5 Zbd))))))
 (Zh4 3))))
theorem Zg8 : Zbi Zel := (Zae (Zao Za2 (Zbp Zjr (Zaa (Zag 0) Zau))) (Zae (Zao Za2 (Zef Zau)) (Zae (Zos Zrv (Z07 (Zaa (Zag 1) Zau)) (Zae (m_if (Zah (Zag 2) (Zag 5) Zbb) (Zae (Zao Za2 (Zbp Zjr (Zaa (Zah (Zah (Zag 2) (Zah Zap (Zag 4) Zbg) Zbb) (Zah (Zag 0) Zap Zbg) Zbb) Zau))) Zax) Zax) (Zae (Zv6 (Zah (Zag 2) (Zag 5) Zbg)) (Zae (Zao Za2 (Zah (Zag 2) (Zag 5) Zbg)) (Zko (Zko Zax)))))) Ztn)))
@[irreducible] noncomputable def Zcb : G := gOf 6 Zel
theorem Zfl : Zcb = gOf 6 Zel := by with_unfolding_all rfl
theorem Zfr : Ze5 Zcb := Zfl ▸ Zbk Zg8
noncomputable def Zga (law_cell_here : Int) (s1 : Int × (List Int)) (x2 : (T2 Int Int)) : P (Int) :=
  (cond (decide (s1.1 < x2.x2)) (bd (Zdr ((s1.1 + ((131 : Int) * x2.x1)) + (law_cell_here % (1009 : Int)))) fun (law_rest' : Int) =>
  (.ok law_rest')) (.ok s1.1))
noncomputable def Zcy (law_cell_here : Int) (s1 : Int × (List Int)) (x2 : (T2 Int Int)) : P (Int × (List Int)) :=
  (bd (Zga law_cell_here s1 x2) fun (law_rest'' : Int) =>
  (bd (ofO (modO law_rest'' x2.x2)) fun t3 => (bd (ofO (appO s1.2 t3)) fun (law_found' : (List Int)) =>
  (bd (ofO (divO law_rest'' x2.x2)) fun (law_rest''' : Int) =>
  (.ok (law_rest''', law_found'))))))
noncomputable def Zca (law_cell_here : Int) (law_sizes : (List Int)) : P (List Int) :=
  (bd (Zdr law_cell_here) fun (law_rest : Int) =>
  (bd (Zhk (Zcy law_cell_here) (Zq4 law_sizes) (law_rest, ([] : List Int))) fun (s4 : Int × (List Int)) =>
  (.ok s4.2)))
theorem Zc5 (law_cell_here : Int) (law_sizes : (List Int)) : Sim Zcb [.sh (D.int law_cell_here), .sh ((encL D.int) law_sizes)] (owE (encL D.int)) (Zca law_cell_here law_sizes) :=
 Zdl Zfl (env := ([.sh (D.int law_cell_here), .sh ((encL D.int) law_sizes), .un, .un, .un, .un] : En)) rfl (fun _ => Zc4) (by
  unfold Zca Zel
  exact (Zbx (f := (shE D.int)) (fun law_rest => ([.sh (D.int law_cell_here), .sh ((encL D.int) law_sizes), .sh (D.int law_rest), .un, .un, .un] : En)) (Zbu (Zab (Zaf (i := 0) rfl) Za0) (Zgs law_cell_here) (fun _ => Zas)) (fun _ => Zas) (Nat.le_of_ble_eq_true rfl) (fun _ => rfl) fun law_rest =>
 (Zhi (s := .ow ((encL D.int) ([] : List Int))) (env' := ([.sh (D.int law_cell_here), .sh ((encL D.int) law_sizes), .sh (D.int law_rest), .ow ((encL D.int) ([] : List Int)), .un, .un] : En)) (Zc8 Za0 rfl (Nat.le_of_ble_eq_true rfl)) Zc4 (Nat.le_of_ble_eq_true rfl) rfl (Z03 (f := (enc2 D.int D.int)) (xs := (Zq4 law_sizes)) (s0 := (law_rest, ([] : List Int))) (fun (s1 : Int × (List Int)) => ([.sh (D.int law_cell_here), .sh ((encL D.int) law_sizes), .sh (D.int s1.1), .ow ((encL D.int) s1.2), .un, .un] : En)) (Zwb (xs := law_sizes) (Zab (Zaf (i := 1) rfl) Za0) rfl) rfl
 (fun s1 x2 => (Zsy (e := ([.sh (D.int law_cell_here), .sh ((encL D.int) law_sizes), .sh (D.int s1.1), .ow ((encL D.int) s1.2), .sh (D.int x2.x1), .sh (D.int x2.x2)] : En)) rfl rfl (Z1z (fun (law_rest'' : Int) => ([.sh (D.int law_cell_here), .sh ((encL D.int) law_sizes), .sh (D.int law_rest''), .ow ((encL D.int) s1.2), .sh (D.int x2.x1), .sh (D.int x2.x2)] : En)) (Za1 (Zaf (i := 2) rfl) (Zaf (i := 5) rfl) op_lt)
 (Zbx (f := (shE D.int)) (fun law_rest' => ([.sh (D.int law_cell_here), .sh ((encL D.int) law_sizes), .sh (D.int law_rest'), .ow ((encL D.int) s1.2), .sh (D.int x2.x1), .sh (D.int x2.x2)] : En)) (Zbu (Zab (Za1 (Za1 (Zaf (i := 2) rfl) (Za1 Zan (Zaf (i := 4) rfl) (op_mul (Z1w (by decide)))) op_add) (Za1 (Zaf (i := 0) rfl) Zan (op_mod (by decide))) op_add) Za0) (Zgs ((s1.1 + ((131 : Int) * x2.x1)) + (law_cell_here % (1009 : Int)))) (fun _ => Zas)) (fun _ => Zas) (Nat.le_of_ble_eq_true rfl) (fun _ => rfl) fun law_rest' =>
 (Zd4 rfl))
 (Zd4 rfl)
 fun law_rest'' => (Zun (f := D.int) (xs := s1.2) (fun law_found' => ([.sh (D.int law_cell_here), .sh ((encL D.int) law_sizes), .sh (D.int law_rest''), .ow ((encL D.int) law_found'), .sh (D.int x2.x1), .sh (D.int x2.x2)] : En)) rfl (Zct (Zaf (i := 2) rfl) (Zaf (i := 5) rfl) Zl7) (fun _ => rfl) (fun _ => rfl) fun law_found' =>
 (Zbx (f := (shE D.int)) (fun law_rest''' => ([.sh (D.int law_cell_here), .sh ((encL D.int) law_sizes), .sh (D.int law_rest'''), .ow ((encL D.int) law_found'), .sh (D.int x2.x1), .sh (D.int x2.x2)] : En)) (Zct (Zaf (i := 2) rfl) (Zaf (i := 5) rfl) Zxn) (fun _ => Zas) (Nat.le_of_ble_eq_true rfl) (fun _ => rfl) fun law_rest''' =>
 (Zeg (env' := ([.sh (D.int law_cell_here), .sh ((encL D.int) law_sizes), .sh (D.int law_rest'''), .ow ((encL D.int) law_found'), .un, .sh (D.int x2.x2)] : En)) rfl (Zeg (env' := ([.sh (D.int law_cell_here), .sh ((encL D.int) law_sizes), .sh (D.int law_rest'''), .ow ((encL D.int) law_found'), .un, .un] : En)) rfl (Zd4 rfl))))))))
 fun s4 => (Zzy (i := 3) (s := .ow ((encL D.int) s4.2)) rfl Zc4 rfl)))))
noncomputable def Zfj : WS :=
 (wRet (wAnd (wUn (oIsi "int") (wVar 0)) (wNot (wUn (oIsi "bool") (wVar 0)))))
theorem Ziw : Zbi Zfj := (Zb2 (Zda (Zaq (Zag 0) Zg9) (Zfb (Zaq (Zag 0) Zg9))))
@[irreducible] noncomputable def Zeb : G := gOf 1 Zfj
theorem Zge : Zeb = gOf 1 Zfj := by with_unfolding_all rfl
theorem Zne : Ze5 Zeb := Zge ▸ Zbk Ziw
noncomputable def Zc6 (law_thing : Int) : P Bool :=
  (.ok (true && (!false)))
theorem Zjn (law_thing : Int) : Sim Zeb [.sh (D.int law_thing)] blE (Zc6 law_thing) :=
 Zdl Zge (env := ([.sh (D.int law_thing)] : En)) rfl (fun _ => Zas) (by
  unfold Zc6 Zfj
  exact (Zot (Zo2 (Zcs (Zaf (i := 0) rfl) (Zn8 (b := true) rfl rfl)) (Zo4 (Zcs (Zaf (i := 0) rfl) (Zn8 (b := false) rfl rfl)))) rfl))
theorem Zaj {α : Type} {a : α} : ofO (some a) = .ok a := rfl
theorem Zvs {b : Bool} : (true ^^ b) = !b := Bool.true_xor b
theorem Zvu {b : Bool} : (false ^^ b) = b := Bool.false_xor b
theorem Ztl {σ ρ τ : Type} {s : σ} {ret : ρ → P τ} {nx : σ → P τ} : aft (.ok (.nx s)) ret nx = nx s := rfl
theorem atI_nat {α : Type} {xs : List α} {i : Nat} : atI xs (i : Int) = xs[i]? := by
  unfold atI ixN
  by_cases h : i < xs.length
  · simp [h]
  · simp [h]
theorem Z0o {α : Type} {xs : List α} {i : Int} {n : Nat} (hi : i = n) (h : n < xs.length) : atI xs i = some xs[n] := by
  subst hi
  rw [atI_nat, List.getElem?_eq_getElem h]
theorem Zpw {α : Type} {xs : List α} {i : Int} (h0 : 0 ≤ i) (h : i < xs.length) : ∃ x, atI xs i = some x ∧ x ∈ xs := by
  obtain ⟨n, rfl⟩ := Int.eq_ofNat_of_zero_le h0
  have h' : n < xs.length := by omega
  exact ⟨xs[n], Z0o rfl h', List.getElem_mem h'⟩
theorem Zih {α : Type} {xs : List α} {x : α} (h : xs.length < 16777216) : appO xs x = some (xs ++ [x]) := if_pos h
theorem Zje {a b : Int} (h : 0 < b) : modO a b = some (a % b) := if_pos h
theorem Zs5 {a b : Int} (h : 0 < b ∧ b ≤ 1000000000000000000000000000000) : divO a b = some (a / b) := if_pos h
theorem Zlx (ns : List Int) {i : Int} (h : 0 ≤ i) : ∃ c, Zcu ns i = .ok c := by
  unfold Zcu
  by_cases hi : i < (ns.length : Int)
  · obtain ⟨x, e, _⟩ := Zpw h hi
    exact ⟨x, by simp only [hi, e, decide_true, cond_true, Zaj, Zam]⟩
  · exact ⟨0, by simp only [hi, decide_false, cond_false]⟩
theorem Zur (c : Int) : ∃ r, Zdr c = .ok r := by
  unfold Zdr
  by_cases h : (1000000000000000000 : Int) ≤ c
  · exact ⟨_, by simp only [h, decide_true, cond_true]; rfl⟩
  · exact ⟨_, by simp only [h, decide_false, cond_false, Zfw]; rfl⟩
noncomputable def Dig : List Int → List Int → Prop
  | [], [] => True
  | s :: ss, d :: ds => (0 ≤ d ∧ d < s) ∧ Dig ss ds
  | _, _ => False
noncomputable def Szs (ss : List Int) : Prop := ∀ s ∈ ss, 0 < s ∧ s ≤ 1000000000000000000000000000000
theorem Szs.nil : Szs [] := fun _ h => by cases h
theorem Szs.cons {s : Int} {ss : List Int} (h1 : 0 < s) (h2 : s ≤ 1000000000000000000000000000000) (h : Szs ss) : Szs (s :: ss) := fun x hx => by
  rcases List.mem_cons.mp hx with rfl | hx
  · exact ⟨h1, h2⟩
  · exact h x hx
theorem Dig.len : ∀ {ss ds : List Int}, Dig ss ds → ds.length = ss.length
  | [], [], _ => rfl
  | _ :: _, _ :: _, h => congrArg (· + 1) (Dig.len h.2)
theorem Zmr {α σ : Type} {step : σ → α → P σ} {s : σ} : Zhk step [] s = .ok s := rfl
theorem Zig {α σ : Type} {step : σ → α → P σ} {x : α} {xs : List α} {s : σ} : Zhk step (x :: xs) s = bd (step s x) fun s' => Zhk step xs s' := rfl
theorem Zi6 {α σ ρ : Type} {step : σ → α → P (Out σ ρ)} {x : α} {xs : List α} {s s' : σ} (h : step s x = .ok (.nx s')) : Zdg step (x :: xs) s = Zdg step xs s' := by
  rw [Zdg, h]; rfl
theorem Zjw {α σ ρ : Type} {step : σ → α → P (Out σ ρ)} {x : α} {xs : List α} {s : σ} {r : ρ} (h : step s x = .ok (.ret r)) : Zdg step (x :: xs) s = .ok (.ret r) := by
  rw [Zdg, h]; rfl
theorem Zp3 (c : Int) : ∀ (ss : List Int) (k : Nat) (r : Int) (acc : List Int), Szs ss → acc.length + ss.length ≤ 16777216 → ∃ r' ds, Dig ss ds ∧ Zhk (Zcy c) ((ss.zipIdx k).map fun p => (⟨(p.2 : Int), p.1⟩ : T2 Int Int)) (r, acc) = .ok (r', acc ++ ds)
  | [], k, r, acc, _, _ => ⟨r, [], trivial, by rw [List.append_nil]; rfl⟩
  | s :: ss, k, r, acc, hs, hl => by
    have h1 := hs s List.mem_cons_self
    have hl' : acc.length + (ss.length + 1) ≤ 16777216 := by simpa using hl
    have main : ∃ q, Zcy c (r, acc) ⟨(k : Int), s⟩ = .ok (q / s, acc ++ [q % s]) := by
      unfold Zcy Zga
      dsimp only
      by_cases hr : r < s
      · obtain ⟨q, hq⟩ := Zur ((r + ((131 : Int) * (k : Int))) + (c % (1009 : Int)))
        exact ⟨q, by simp only [hr, decide_true, cond_true, hq, Zam, Zje h1.1, Zih (show acc.length < 16777216 by omega), Zs5 h1, Zaj]⟩
      · exact ⟨r, by simp only [hr, decide_false, cond_false, Zam, Zje h1.1, Zih (show acc.length < 16777216 by omega), Zs5 h1, Zaj]⟩
    obtain ⟨q, hq⟩ := main
    obtain ⟨r', ds, hd, e⟩ := Zp3 c ss (k + 1) (q / s) (acc ++ [q % s]) (fun z hz => hs z (List.mem_cons_of_mem _ hz)) (by simp; omega)
    refine ⟨r', q % s :: ds, ⟨⟨Int.emod_nonneg _ (by omega), Int.emod_lt_of_pos _ h1.1⟩, hd⟩, ?_⟩
    rw [List.zipIdx_cons, List.map_cons, Zig, hq, Zam, e, List.append_assoc]
    rfl
theorem Zkd (c : Int) (ss : List Int) (hs : Szs ss) (hl : ss.length ≤ 16777216) : ∃ ds, Zca c ss = .ok ds ∧ Dig ss ds := by
  obtain ⟨r, hr⟩ := Zur c
  obtain ⟨r', ds, hd, e⟩ := Zp3 c ss 0 r [] hs (by simpa using hl)
  refine ⟨ds, ?_, hd⟩
  unfold Zca
  simp only [hr, Zam]
  unfold Zq4
  rw [e]
  rfl
theorem Dig.d1 {a : Int} {ds : List Int} (h : Dig [a] ds) : ∃ x, ds = [x] ∧ (0 ≤ x ∧ x < a) := by
  match ds, h with
  | [x], h => exact ⟨x, rfl, h.1⟩
theorem Dig.d2 {a b : Int} {ds : List Int} (h : Dig [a, b] ds) : ∃ x y, ds = [x, y] ∧ (0 ≤ x ∧ x < a) ∧ (0 ≤ y ∧ y < b) := by
  match ds, h with
  | [x, y], h => exact ⟨x, y, rfl, h.1, h.2.1⟩
theorem Dig.d5 {a b c d e : Int} {ds : List Int} (h : Dig [a, b, c, d, e] ds) : ∃ x y z u v, ds = [x, y, z, u, v] ∧ (0 ≤ x ∧ x < a) ∧ (0 ≤ y ∧ y < b) ∧ (0 ≤ z ∧ z < c) ∧ (0 ≤ u ∧ u < d) ∧ (0 ≤ v ∧ v < e) := by
  match ds, h with
  | [x, y, z, u, v], h => exact ⟨x, y, z, u, v, rfl, h.1, h.2.1, h.2.2.1, h.2.2.2.1, h.2.2.2.2.1⟩
theorem Zv3 (i : Int) : Zc6 i = .ok true := by
  unfold Zc6
  rfl
theorem Zp5 {α : Type} (xs : List α) (n : Nat) : cutD xs none (some (n : Int)) = xs.take n := by
  unfold cutD
  rw [HT.sIx_nat, HT.sIx_none, List.drop_zero, Nat.sub_zero]
  by_cases h : n ≤ xs.length
  · rw [Nat.min_eq_left h]
  · rw [Nat.min_eq_right (by omega), List.take_length, List.take_of_length_le (by omega)]
end DL
set_option Elab.async false
set_option linter.all false
set_option maxRecDepth 100000
set_option maxHeartbeats 1000000
set_option synthInstance.maxSize 2000
set_option synthInstance.maxHeartbeats 400000
namespace DL
open PySem PySem.Spec PyProof.Rows L2
noncomputable abbrev Ent := T5 Int Int Int Tx Int
noncomputable abbrev Row := T4 Int Int Tx Int
noncomputable abbrev Shut := Dct Int Int
noncomputable abbrev Nm := T2 Int Int
noncomputable def nm (e : Ent) : Nm := ⟨e.x2, e.x3⟩
noncomputable def rn (r : Row) : Nm := ⟨r.x1, r.x2⟩
section
variable {κ α : Type} [DecidableEq κ]
theorem Zy3 {m : Dct κ α} {k : κ} {a : α} (h : m.get k = some a) : (k, a) ∈ m.l := by
  unfold Dct.get lk at h
  obtain ⟨p, hp, e⟩ := Option.map_eq_some_iff.mp h
  have h1 := List.find?_some hp
  have h2 := List.mem_of_find?_eq_some hp
  have h3 : p.1 = k := by simpa using h1
  obtain ⟨p1, p2⟩ := p
  dsimp only at h3 e
  subst h3 e
  exact h2
end
noncomputable def KN {κ α : Type} (m : Dct κ α) : Prop := (m.l.map Prod.fst).Nodup
noncomputable def IsFF (p : Int → Bool) (d x : Int) : Prop := d ≤ x ∧ p x = false ∧ ∀ y, d ≤ y → y < x → p y = true
theorem IsFF.uniq {p : Int → Bool} {d x y : Int} (h : IsFF p d x) (h' : IsFF p d y) : x = y := by
  rcases Int.lt_trichotomy x y with z | z | z
  · have := h'.2.2 x h.1 z; rw [h.2.1] at this; cases this
  · exact z
  · have := h.2.2 y h'.1 z; rw [h'.2.1] at this; cases this
noncomputable def fday (p : Int → Bool) (d : Int) : Int := open Classical in if h : ∃ x, IsFF p d x then h.choose else d
theorem Zyu {p : Int → Bool} {d x : Int} (h : IsFF p d x) : fday p d = x := by
  have ex : ∃ x, IsFF p d x := ⟨x, h⟩
  unfold fday
  rw [dif_pos ex]
  exact ex.choose_spec.uniq h
theorem Zjq {α : Type} [DecidableEq α] : ∀ {l m : List α}, l.Nodup → (∀ x ∈ l, x ∈ m) → l.length ≤ m.length
  | [], _, _, _ => Nat.zero_le _
  | x :: l, m, hn, hs => by
    have h1 := List.nodup_cons.mp hn
    have hx := hs x List.mem_cons_self
    have ih := Zjq (m := m.erase x) h1.2 fun y hy => (List.mem_erase_of_ne (fun z => h1.1 (by rw [← z]; exact hy))).mpr (hs y (List.mem_cons_of_mem _ hy))
    rw [List.length_erase_of_mem hx] at ih
    have := List.length_pos_of_mem hx
    rw [List.length_cons]; omega
theorem Z1r {p : Int → Bool} (L : List Int) (hL : ∀ d, p d = true → d ∈ L) (d : Int) : ∃ x, IsFF p d x ∧ x ≤ d + L.length := by
  have main : ∀ n : Nat, (∃ x, IsFF p d x ∧ x < d + n) ∨ ∀ y, d ≤ y → y < d + n → p y = true := by
    intro n
    induction n with
    | zero => exact .inr fun y h1 h2 => by omega
    | succ n ih =>
      rcases ih with ⟨x, hx, hl⟩ | h
      · exact .inl ⟨x, hx, by omega⟩
      · cases hp : p (d + n) with
        | false => exact .inl ⟨d + n, ⟨by omega, hp, h⟩, by omega⟩
        | true =>
          refine .inr fun y h1 h2 => ?_
          by_cases e : y = d + n
          · subst e; exact hp
          · exact h y h1 (by omega)
  rcases main (L.length + 1) with ⟨x, hx, hl⟩ | h
  · exact ⟨x, hx, by omega⟩
  · exfalso
    have hn : ((List.range (L.length + 1)).map fun (i : Nat) => d + (i : Int)).Nodup := by
      have hr : List.Pairwise (fun a b : Nat => a ≠ b) (List.range (L.length + 1)) := List.nodup_range
      exact List.pairwise_map.mpr (hr.imp fun {a b} h z => h (by omega))
    have := Zjq (m := L) hn fun x hx => by
      obtain ⟨i, hi, rfl⟩ := List.mem_map.mp hx
      rw [List.mem_range] at hi
      exact hL _ (h _ (by omega) (by omega))
    simp at this
    omega
theorem Zum {p : Int → Bool} (L : List Int) (hL : ∀ d, p d = true → d ∈ L) (d : Int) : IsFF p d (fday p d) ∧ fday p d ≤ d + L.length := by
  obtain ⟨x, hx, hl⟩ := Z1r L hL d
  rw [Zyu hx]
  exact ⟨hx, hl⟩
noncomputable def opn (r day : Int) (sh : Shut) : Bool := match sh.get day with
  | none => true
  | some b => decide (r ≤ b)
noncomputable def blk (r : Int) (sh : Shut) (H : List Int) (d : Int) : Bool := !opn r d sh || decide (d ∈ H)
theorem Ztp {r : Int} {sh : Shut} {H : List Int} {d : Int} (h : blk r sh H d = true) : d ∈ sh.keys ++ H := by
  unfold blk at h
  rcases Bool.or_eq_true_iff.mp h with h | h
  · unfold opn at h
    cases e : sh.get d with
    | none => rw [e] at h; cases h
    | some b => exact List.mem_append_left _ (List.mem_map.mpr ⟨_, Zy3 e, rfl⟩)
  · exact List.mem_append_right _ (of_decide_eq_true h)
noncomputable def plc (sh : Shut) (H : List Int) (e : Ent) : T2 Tx Int :=
  if e.x4 = tx "moves" then ⟨tx "stands", fday (blk e.x1 sh H) e.x5⟩
  else if blk e.x1 sh H e.x5 = false then ⟨tx "stands", e.x5⟩
  else if e.x4 = tx "stays" then ⟨tx "noted", e.x5⟩ else ⟨tx "out", e.x5⟩
noncomputable def Z17 (e : Ent) (p : T2 Tx Int) : Row := ⟨e.x2, e.x3, p.x1, p.x2⟩
noncomputable def Zr8 (p : T2 Tx Int) (H : List Int) : List Int := if p.x1 = tx "stands" then p.x2 :: H else H
noncomputable def layG (sh : Shut) : List Ent → List Int → List Row
  | [], _ => []
  | e :: es, H => Z17 e (plc sh H e) :: layG sh es (Zr8 (plc sh H e) H)
noncomputable def HD {α : Type} (m : Dct Int α) (H : List Int) : Prop := ∀ d, m.has d = decide (d ∈ H)
noncomputable abbrev ord (es : List Ent) : List Ent := Zsc key3 es
theorem Zqr (es : List Ent) : (ord es).Perm es := Zoy key3 es
noncomputable def LAY (es : List Ent) (sh : Shut) : List Row := layG sh (ord es) []
noncomputable abbrev Way (t : Tx) : Prop := t = tx "moves" ∨ t = tx "stays" ∨ t = tx "lapses"
structure GoodE (e : Ent) : Prop where
  rank : 1 ≤ e.x1 ∧ e.x1 ≤ 9
  num : 0 ≤ e.x2 ∧ e.x2 ≤ 1000000000000
  year : 0 ≤ e.x3 ∧ e.x3 ≤ 100000000000
  way : Way e.x4
  own : 0 ≤ e.x5 ∧ e.x5 ≤ 200000000000
  y5 : e.x3 ≠ 5
structure GoodL (es : List Ent) : Prop where
  all : ∀ e ∈ es, GoodE e
  uni : (es.map nm).Nodup
  len : es.length ≤ 80
structure GoodS (sh : Shut) : Prop where
  all : ∀ d b, sh.get d = some b → 0 ≤ b ∧ b ≤ 8 ∧ 0 ≤ d ∧ d ≤ 200000000000
  len : sh.l.length ≤ 40
  kn : KN sh
theorem Dig.get : ∀ {ss ds : List Int}, Dig ss ds → ∀ (i : Nat) (s : Int), ss[i]? = some s → ∃ d, ds[i]? = some d ∧ 0 ≤ d ∧ d < s
  | s :: ss, d :: ds, h, 0, s', hs => by
    have : s = s' := by simpa using hs
    subst this
    exact ⟨d, rfl, h.1⟩
  | s :: ss, d :: ds, h, i + 1, s', hs => Dig.get h.2 i s' (by simpa using hs)
  | [], ds, h, i, s', hs => by simp at hs
  | _ :: _, [], h, i, s', hs => h.elim
theorem Zz6 (sh : Shut) (H : List Int) (e : Ent) : e.x5 ≤ (plc sh H e).x2 := by
  unfold plc
  split
  · exact (Zum (p := blk e.x1 sh H) _ (fun d => Ztp) e.x5).1.1
  · split
    · exact Int.le_refl _
    · split <;> exact Int.le_refl _
theorem Zz0 (sh : Shut) (H : List Int) (e : Ent) : (plc sh H e).x2 ≤ e.x5 + sh.l.length + H.length := by
  unfold plc
  split
  · have := (Zum (p := blk e.x1 sh H) (sh.keys ++ H) (fun d => Ztp) e.x5).2
    have hk : sh.keys.length = sh.l.length := List.length_map ..
    rw [List.length_append, hk] at this
    dsimp only; omega
  · split
    · dsimp only; omega
    · split <;> (dsimp only; omega)
structure HDN {α : Type} (m : Dct Int α) (H : List Int) : Prop where
  mem : HD m H
  len : m.l.length = H.length
noncomputable def Dom (r : Int) (sh : Shut) (H : List Int) (sh' : Shut) (H' : List Int) : Prop := ∀ r', r ≤ r' → ∀ d, blk r' sh H d = true → blk r' sh' H' d = true
theorem Dom.up {r r' : Int} {sh sh' : Shut} {H H' : List Int} (h : Dom r sh H sh' H') (hr : r ≤ r') : Dom r' sh H sh' H' := fun q hq => h q (by omega)
theorem Zhn {α : Type} (xs : List α) (n : Nat) : cutD xs (some (n : Int)) none = xs.drop n := by
  unfold cutD
  rw [HT.sIx_nat, HT.sIx_none]
  by_cases h : n ≤ xs.length
  · rw [Nat.min_eq_left h, List.take_of_length_le (by rw [List.length_drop]; omega)]
  · rw [Nat.min_eq_right (by omega), List.drop_of_length_le (Nat.le_refl _), List.take_nil, List.drop_of_length_le (by omega)]
end DL
set_option Elab.async false
set_option linter.all false
set_option maxRecDepth 100000
set_option maxHeartbeats 1000000
set_option synthInstance.maxSize 2000
set_option synthInstance.maxHeartbeats 400000
namespace DL
open PySem PySem.Spec PyProof.Rows L2
end DL
set_option Elab.async false
set_option linter.all false
set_option maxRecDepth 100000
set_option maxHeartbeats 1000000
set_option synthInstance.maxSize 2000
set_option synthInstance.maxHeartbeats 400000
namespace DL
open PySem PySem.Spec PyProof.Rows L2
noncomputable def Zkv (ls : List Int) : Prop := ∀ l ∈ ls, 1 ≤ l ∧ l ≤ 400
theorem Zkv.app {ls : List Int} {x : Int} (h : Zkv ls) (h1 : 1 ≤ x) (h2 : x ≤ 400) : Zkv (ls ++ [x]) := fun l hl => by
  rcases List.mem_append.mp hl with z | z
  · exact h l z
  · rw [List.mem_singleton.mp z]; exact ⟨h1, h2⟩
noncomputable def Zxk : List Int → Int → Nat × Int
  | [], d => (0, d)
  | l :: ls, d => if d < l then (0, d) else ((Zxk ls (d - l)).1 + 1, (Zxk ls (d - l)).2)
theorem Zml : ∀ (ls : List Int), Zkv ls → 0 ≤ ls.sum ∧ ls.sum ≤ 400 * ls.length
  | [], _ => by simp
  | l :: ls, h => by
    have h1 := h l List.mem_cons_self
    have h2 := Zml ls fun l z => h l (List.mem_cons_of_mem _ z)
    simp only [List.sum_cons, List.length_cons]; omega
theorem Zba {α : Type} {a b : α} {c : Bool} (h : c = true) : cond c a b = a := by rw [h]; rfl
theorem Za6 {α : Type} {a b : α} {c : Bool} (h : c = false) : cond c a b = b := by rw [h]; rfl
noncomputable def plOB (A : List Ent) (sh : Shut) (n : Nm) : Option (T2 Tx Int) := ((LAY A sh).find? fun r => decide (rn r = n)).map fun r => ⟨r.x3, r.x4⟩
noncomputable abbrev Zs0 := T4 Int Int (Option (T2 Tx Int)) (Option (T2 Tx Int))
noncomputable def tnSB (ns : List Nm) (b a : Nm → Option (T2 Tx Int)) : List Zs0 := ((Z1i ns).filter fun n => decide (b n ≠ a n)).map fun n => ⟨n.x1, n.x2, b n, a n⟩
noncomputable def dyB : Option (T2 Tx Int) → List Int
  | some p => if p.x1 = tx "out" then [] else [p.x2]
  | none => []
inductive OO where
  | year (l a : Int) | enter (n r : Int) (w u : Tx) (d s t : Int) | strike (n : Int) | rank (n r : Int) | shut (f l c : Int) | anchor (y d : Int) | sea (y : Int) | uns (y : Int)
noncomputable def OO.e : OO → List (Tx ⊕ Int)
  | .year l a => [.inl (tx "year"), .inr l, .inr a]
  | .enter n r w u d s t => [.inl (tx "enter"), .inr n, .inr r, .inl w, .inl u, .inr d, .inr s, .inr t]
  | .strike n => [.inl (tx "strike"), .inr n]
  | .rank n r => [.inl (tx "rank"), .inr n, .inr r]
  | .shut f l c => [.inl (tx "shut"), .inr f, .inr l, .inr c]
  | .anchor y d => [.inl (tx "anchor"), .inr y, .inr d]
  | .sea y => [.inl (tx "seal"), .inr y]
  | .uns y => [.inl (tx "unseal"), .inr y]
noncomputable abbrev SOrd := List (Tx ⊕ Int)
section
variable {α β : Type}
end
inductive Why where
  | badYear | badFeast | badDay | taken | noFeast | noYear
noncomputable def Why.cls : Why → String
  | .badYear => "BadYear" | .badFeast => "BadFeast" | .badDay => "BadDay" | .taken => "Taken" | .noFeast => "NoFeast" | .noYear => "NoYear"
noncomputable def Why.wrd : Option Why → Tx
  | none => tx ""
  | some .badYear => tx "bad year" | some .badFeast => tx "bad feast" | some .badDay => tx "bad day" | some .taken => tx "taken" | some .noFeast => tx "feast" | some .noYear => tx "year"
noncomputable def Zeu (b : Bk) : List Int := b.years.map T2.x1
noncomputable def BadD (u : Tx) (d : Int) : Prop := if u = tx "fixed" then d < 0 ∨ 399 < d else d < -400 ∨ 400 < d
noncomputable instance (u : Tx) (d : Int) : Decidable (BadD u d) := by unfold BadD; infer_instance
noncomputable def badE (n r : Int) (u : Tx) (d s t : Int) : Prop := (n < 0 ∨ 999999 < n ∨ (r < 1 ∨ 9 < r) ∨ BadD u d) ∨ (s < 0 ∨ 99 < t ∨ t < s)
noncomputable instance (n r : Int) (u : Tx) (d s t : Int) : Decidable (badE n r u d s t) := by unfold badE; infer_instance
noncomputable def why (b : Bk) : OO → Option Why
  | .year l a => if l < 1 ∨ 400 < l ∨ a < 0 ∨ l ≤ a then some .badYear else none
  | .enter n r _ u d s t => if badE n r u d s t then some .badFeast else if b.feasts.has n = true then some .taken else none
  | .strike n => if b.feasts.has n = true then none else some .noFeast
  | .rank n r => if b.feasts.has n = true then (if r < 1 ∨ 9 < r then some .badFeast else none) else some .noFeast
  | .shut f l c => if f < 0 ∨ l < f ∨ (Zeu b).sum ≤ l ∨ c < 0 ∨ 9 < c then some .badDay else none
  | .anchor y d => if y < 0 ∨ (b.years.length : Int) ≤ y then some .noYear else match b.years[y.toNat]? with
    | some q => if d < 0 ∨ q.x1 ≤ d then some .badYear else none
    | none => none
  | .sea y => if y < 0 ∨ (b.years.length : Int) ≤ y then some .noYear else none
  | .uns y => if y < 0 ∨ (b.years.length : Int) ≤ y then some .noYear else none
noncomputable def Zzj (f l c : Int) (m : Dct Int Int) : Dct Int Int := (Z0r f (l + 1 - f).toNat).foldl (fun m d => if c < 9 then m.put d c else m.del d) m
noncomputable def aftB (b : Bk) : OO → Bk
  | .year l a => { b with years := b.years ++ [⟨l, a⟩] }
  | .enter n r w u d s t => { b with feasts := b.feasts.put n ⟨r, w, u, d, s, t⟩ }
  | .strike n => { b with feasts := b.feasts.del n }
  | .rank n r => match b.feasts.get n with
    | some f => { b with feasts := b.feasts.put n ⟨r, f.x2, f.x3, f.x4, f.x5, f.x6⟩ }
    | none => b
  | .shut f l c => { b with closes := Zzj f l c b.closes }
  | .anchor y d => match b.years[y.toNat]? with
    | some q => { b with years := b.years.set y.toNat ⟨q.x1, d⟩ }
    | none => b
  | .sea y => { b with seals := b.seals.put y true }
  | .uns y => { b with seals := b.seals.del y }
structure Sz (b : Bk) : Prop where
  y : b.years.length < 16777000
  f : b.feasts.l.length < 16777000
  c : b.closes.l.length + (Zeu b).sum.toNat < 16777000
  s : b.seals.l.length < 16777000
  p : 0 ≤ (Zeu b).sum ∧ (Zeu b).sum < 1000000
noncomputable def ShpO : OO → Prop
  | .enter _ _ w u _ _ _ => Way w ∧ (u = tx "fixed" ∨ u = tx "anchor")
  | _ => True
noncomputable def ends (b : Bk) (o : OO) (w : Option Why) : P (Unit × Bk) := match w with
  | none => .ok ((), aftB b o)
  | some w => raise w.cls
theorem Zye {α : Type} {xs : List α} {y : Int} {a : α} (h0 : 0 ≤ y) (h1 : y < xs.length) : Zm7 xs y a = some (xs.set y.toNat a) := by
  obtain ⟨n, rfl⟩ := Int.eq_ofNat_of_zero_le h0
  have h : n < xs.length := by omega
  unfold Zm7 ixN
  simp [h]
noncomputable def told (w : Option Why) : P Tx := .ok (Why.wrd w)
noncomputable def Zuy (ys : List (T2 Int Int)) (k : Nat) : Int := ((ys.take k).map T2.x1).sum
noncomputable def ownD (ys : List (T2 Int Int)) (k : Nat) (q : T2 Int Int) (f : Ft) : Int := Zuy ys k + f.x4 + (if f.x3 = tx "anchor" then q.x2 else 0)
noncomputable def entC (ys : List (T2 Int Int)) (f : Ft) (k : Nat) (q : T2 Int Int) : Prop := (f.x5 ≤ (k : Int) ∧ (k : Int) ≤ f.x6) ∧ 0 ≤ ownD ys k q f ∧ (f.x3 = tx "anchor" ∨ f.x4 < q.x1)
noncomputable instance (ys : List (T2 Int Int)) (f : Ft) (k : Nat) (q : T2 Int Int) : Decidable (entC ys f k q) := by unfold entC; infer_instance
noncomputable def ent1 (ys : List (T2 Int Int)) (n : Int) (f : Ft) (k : Nat) : List Ent := match ys[k]? with
  | none => []
  | some q => if entC ys f k q then [⟨f.x1, n, (k : Int), f.x2, ownD ys k q f⟩] else []
noncomputable def ENT (b : Bk) : List Ent := b.feasts.l.flatMap fun p => (List.range b.years.length).flatMap fun k => ent1 b.years p.1 p.2 k
theorem Zpi (ys : List (T2 Int Int)) (n : Int) (f : Ft) (k : Nat) : (ent1 ys n f k).length ≤ 1 := by
  unfold ent1
  split
  · exact Nat.zero_le _
  · split <;> simp
theorem Zlj {α β : Type} {g : α → List β} {c : Nat} : ∀ {l : List α}, (∀ x ∈ l, (g x).length ≤ c) → (l.flatMap g).length ≤ l.length * c
  | [], _ => Nat.zero_le _
  | x :: l, h => by
    have h1 := h x List.mem_cons_self
    have h2 := Zlj (g := g) (l := l) fun y hy => h y (List.mem_cons_of_mem _ hy)
    rw [List.flatMap_cons, List.length_append, List.length_cons, Nat.succ_mul]
    omega
theorem Zzo (ys : List (T2 Int Int)) (n : Int) (f : Ft) : ((List.range ys.length).flatMap fun k => ent1 ys n f k).length ≤ ys.length := by
  have h := Zlj (g := fun k => ent1 ys n f k) (l := List.range ys.length) (c := 1) fun k _ => Zpi ys n f k
  rw [List.length_range, Nat.mul_one] at h
  exact h
theorem Zyh (b : Bk) : (ENT b).length ≤ b.feasts.l.length * b.years.length := Zlj fun p _ => Zzo b.years p.1 p.2
theorem Zhq {ys : List (T2 Int Int)} {n : Int} {f : Ft} {k : Nat} {e : Ent} (h : e ∈ ent1 ys n f k) : ∃ q, ys[k]? = some q ∧ entC ys f k q ∧ e = ⟨f.x1, n, (k : Int), f.x2, ownD ys k q f⟩ := by
  unfold ent1 at h
  split at h
  · cases h
  · rename_i q hq
    split at h
    · rename_i hc
      exact ⟨q, hq, hc, List.mem_singleton.mp h⟩
    · cases h
theorem Zxy {b : Bk} {e : Ent} (h : e ∈ ENT b) : ∃ f k q, (e.x2, f) ∈ b.feasts.l ∧ b.years[k]? = some q ∧ entC b.years f k q ∧ e = ⟨f.x1, e.x2, (k : Int), f.x2, ownD b.years k q f⟩ := by
  obtain ⟨p, hp, h1⟩ := List.mem_flatMap.mp h
  obtain ⟨k, _, h2⟩ := List.mem_flatMap.mp h1
  obtain ⟨q, e1, e2, e3⟩ := Zhq h2
  refine ⟨p.2, k, q, ?_, e1, e2, ?_⟩
  · rw [e3]; exact hp
  · rw [e3]
theorem Zyd {b : Bk} (h : KN b.feasts) : ((ENT b).map nm).Nodup := by
  refine List.pairwise_map.mpr ?_
  refine List.pairwise_flatMap.mpr ⟨fun p _ => List.pairwise_flatMap.mpr ⟨fun k _ => ?_, ?_⟩, ?_⟩
  · have := Zpi b.years p.1 p.2 k
    match he : ent1 b.years p.1 p.2 k with
    | [] => exact List.Pairwise.nil
    | [x] => exact List.pairwise_singleton _ _
    | _ :: _ :: _ => rw [he] at this; simp at this
  · have hr : List.Pairwise (fun a b : Nat => a ≠ b) (List.range b.years.length) := List.nodup_range
    refine hr.imp fun {i j} hij x hx y hy z => hij ?_
    obtain ⟨_, _, _, e1⟩ := Zhq hx
    obtain ⟨_, _, _, e2⟩ := Zhq hy
    rw [e1, e2] at z
    have : (i : Int) = j := congrArg T2.x2 z
    omega
  · have hk : List.Pairwise (fun a b : Int × Ft => a.1 ≠ b.1) b.feasts.l := List.pairwise_map.mp h
    refine hk.imp fun {p r} hpr x hx y hy z => hpr ?_
    obtain ⟨i, _, hx⟩ := List.mem_flatMap.mp hx
    obtain ⟨j, _, hy⟩ := List.mem_flatMap.mp hy
    obtain ⟨_, _, _, e1⟩ := Zhq hx
    obtain ⟨_, _, _, e2⟩ := Zhq hy
    rw [e1, e2] at z
    exact congrArg T2.x1 z
structure FtOk (f : Ft) : Prop where
  r : 1 ≤ f.x1 ∧ f.x1 ≤ 9
  w : Way f.x2
  u : f.x3 = tx "fixed" ∨ f.x3 = tx "anchor"
  d : -400 ≤ f.x4 ∧ f.x4 ≤ 400
  s : 0 ≤ f.x5 ∧ f.x5 ≤ f.x6 ∧ f.x6 ≤ 99
  b : ¬ BadD f.x3 f.x4
noncomputable def Zzi (b : Bk) (o : Option (T2 Tx Int)) : List Int := (dyB o).filter fun d => b.seals.has ((Zxk (Zeu b) d).1 : Int)
noncomputable def sdT (b : Bk) (t : Zs0) : List Int := Zzi b t.x3 ++ Zzi b t.x4
noncomputable def Zpl (b : Bk) : List Zs0 → Option (Int × Int × Int)
  | [] => none
  | t :: ts => match Z1l (sdT b t) with
    | [] => Zpl b ts
    | d :: _ => some (t.x1, t.x2, d)
structure SealOk (b : Bk) : Prop where
  l : ∀ x ∈ b.years, 0 ≤ x.x1
  k : b.seals.has (b.years.length : Int) = false
  y : b.years.length < 16777216
noncomputable def Z2c (n y d : Int) : P Tx := jsS PySem.Str.empty (tx "sealed ").s fun a19 => jsI a19 n fun a20 => jsS a20 (tx " ").s fun a21 => jsI a21 y fun a22 => jsS a22 (tx " ").s fun a23 => jsI a23 d fun a24 => ofO (mkT a24)
noncomputable def Z1g (n y d : Int) : Tx := match Z2c n y d with
  | .ok t => t
  | .error _ => tx ""
structure AOK (n : Nat) (b : Bk) : Prop where
  yl : b.years.length ≤ 12
  yr : ∀ x ∈ b.years, (1 ≤ x.x1 ∧ x.x1 ≤ 400) ∧ (0 ≤ x.x2 ∧ x.x2 < x.x1)
  fk : KN b.feasts
  fl : b.feasts.l.length ≤ n
  ff : ∀ p ∈ b.feasts.l, (0 ≤ p.1 ∧ p.1 ≤ 999999) ∧ FtOk p.2
  ck : KN b.closes
  cc : ∀ p ∈ b.closes.l, (0 ≤ p.1 ∧ p.1 < (Zeu b).sum) ∧ (0 ≤ p.2 ∧ p.2 ≤ 8)
  sk : KN b.seals
  ss : ∀ p ∈ b.seals.l, (0 ≤ p.1 ∧ p.1 < (b.years.length : Int))
theorem AOK.lens {n : Nat} {b : Bk} (h : AOK n b) : Zkv (Zeu b) := fun l hl => by
  obtain ⟨x, hx, rfl⟩ := List.mem_map.mp hl
  exact (h.yr x hx).1
theorem AOK.sum {n : Nat} {b : Bk} (h : AOK n b) : 0 ≤ (Zeu b).sum ∧ (Zeu b).sum ≤ 4800 := by
  have := Zml _ h.lens
  have h1 := h.yl
  have h2 : (Zeu b).length = b.years.length := List.length_map ..
  omega
theorem Zpr {α : Type} {m : Dct Int α} {N : Int} (hk : KN m) (h : ∀ p ∈ m.l, 0 ≤ p.1 ∧ p.1 < N) : m.l.length ≤ N.toNat := by
  have := Zjq (l := m.l.map Prod.fst) (m := (List.range N.toNat).map fun (i : Nat) => (i : Int)) hk fun x hx => by
    obtain ⟨p, hp, rfl⟩ := List.mem_map.mp hx
    have := h p hp
    exact List.mem_map.mpr ⟨p.1.toNat, List.mem_range.mpr (by omega), by omega⟩
  rw [List.length_map, List.length_map, List.length_range] at this
  exact this
theorem AOK.cl {n : Nat} {b : Bk} (h : AOK n b) : b.closes.l.length ≤ 4800 := by
  have := Zpr h.ck fun p hp => (h.cc p hp).1
  have := h.sum
  omega
theorem AOK.sl {n : Nat} {b : Bk} (h : AOK n b) : b.seals.l.length ≤ 12 := by
  have := Zpr h.sk h.ss
  have := h.yl
  omega
theorem AOK.sz {n : Nat} {b : Bk} (h : AOK n b) (hn : n ≤ 99) : Sz b := by
  have h1 := h.sum
  have h2 := h.cl
  have h3 := h.sl
  have h4 := h.yl
  have h5 := h.fl
  exact ⟨by omega, by omega, by omega, by omega, by omega⟩
theorem AOK.el {n : Nat} {b : Bk} (h : AOK n b) (hn : n ≤ 99) : (ENT b).length ≤ 1200 := by
  have h1 := Zyh b
  have h2 : b.feasts.l.length * b.years.length ≤ 99 * 12 := Nat.mul_le_mul (Nat.le_trans h.fl hn) h.yl
  omega
theorem AOK.uni {n : Nat} {b : Bk} (h : AOK n b) : ((ENT b).map nm).Nodup := Zyd h.fk
theorem Zoi {ys : List (T2 Int Int)} (h : ∀ x ∈ ys, (1 ≤ x.x1 ∧ x.x1 ≤ 400) ∧ (0 ≤ x.x2 ∧ x.x2 < x.x1)) (k : Nat) : 0 ≤ Zuy ys k ∧ Zuy ys k ≤ 400 * ys.length := by
  have h1 : Zkv ((ys.take k).map T2.x1) := fun l hl => by
    obtain ⟨x, hx, rfl⟩ := List.mem_map.mp hl
    exact (h x (List.mem_of_mem_take hx)).1
  have := Zml _ h1
  rw [List.length_map] at this
  have := List.length_take_le' k ys
  unfold Zuy
  omega
theorem AOK.ent {n : Nat} {b : Bk} (h : AOK n b) {e : Ent} (he : e ∈ ENT b) : Way e.x4 ∧ (0 ≤ e.x5 ∧ e.x5 ≤ 10000) ∧ (0 ≤ e.x2 ∧ e.x2 ≤ 999999) ∧ (0 ≤ e.x3 ∧ e.x3 < 12) ∧ (1 ≤ e.x1 ∧ e.x1 ≤ 9) := by
  obtain ⟨f, k, q, h1, h2, h3, h4⟩ := Zxy he
  have hf := h.ff _ h1
  obtain ⟨hq, hqe⟩ := List.getElem?_eq_some_iff.mp h2
  have hq2 := h.yr q (by rw [← hqe]; exact List.getElem_mem hq)
  have hs := Zoi h.yr k
  have hy := h.yl
  have hd : -400 ≤ f.x4 ∧ f.x4 ≤ 400 := hf.2.d
  have h5 : e.x5 = ownD b.years k q f := congrArg T5.x5 h4
  have h6 : e.x3 = (k : Int) := congrArg T5.x3 h4
  have h7 : e.x4 = f.x2 := congrArg T5.x4 h4
  have h8 : e.x1 = f.x1 := congrArg T5.x1 h4
  have ho : 0 ≤ ownD b.years k q f := h3.2.1
  refine ⟨by rw [h7]; exact hf.2.w, ⟨by omega, ?_⟩, hf.1, ⟨by omega, by omega⟩, by rw [h8]; exact hf.2.r⟩
  rw [h5]
  unfold ownD
  split <;> omega
theorem Zuj (sh : Shut) : ∀ (es : List Ent) (H : List Int), (∀ e ∈ es, 0 ≤ e.x5) → ∀ r ∈ layG sh es H, 0 ≤ r.x4
  | [], _, _, _, h => by cases h
  | e :: es, H, he, r, hr => by
    rw [layG] at hr
    rcases List.mem_cons.mp hr with rfl | hr
    · have := Zz6 sh H e
      have := he e List.mem_cons_self
      show 0 ≤ (plc sh H e).x2
      omega
    · exact Zuj sh es _ (fun x hx => he x (List.mem_cons_of_mem _ hx)) r hr
theorem Zrz (p : T2 Tx Int) (H : List Int) : (Zr8 p H).length ≤ H.length + 1 := by
  unfold Zr8
  split <;> simp
theorem Zse (sh : Shut) (M : Int) : ∀ (es : List Ent) (H : List Int), (∀ e ∈ es, e.x5 ≤ M) → ∀ r ∈ layG sh es H, r.x4 ≤ M + sh.l.length + H.length + es.length
  | [], _, _, _, h => by cases h
  | e :: es, H, he, r, hr => by
    rw [layG] at hr
    rw [List.length_cons]
    rcases List.mem_cons.mp hr with rfl | hr
    · have := Zz0 sh H e
      have := he e List.mem_cons_self
      show (plc sh H e).x2 ≤ _
      omega
    · have := Zse sh M es _ (fun x hx => he x (List.mem_cons_of_mem _ hx)) r hr
      have := Zrz (plc sh H e) H
      omega
theorem AOK.row {n : Nat} {b : Bk} (h : AOK n b) (hn : n ≤ 99) {r : Row} (hr : r ∈ LAY (ENT b) b.closes) : 0 ≤ r.x4 ∧ r.x4 ≤ 100000 := by
  have ho : ∀ e ∈ ord (ENT b), 0 ≤ e.x5 ∧ e.x5 ≤ 10000 := fun e he => (h.ent ((Zqr _).mem_iff.mp he)).2.1
  have h1 := Zuj b.closes (ord (ENT b)) [] (fun e he => (ho e he).1) r hr
  have h2 := Zse b.closes 10000 (ord (ENT b)) [] (fun e he => (ho e he).2) r hr
  have h3 := (Zqr (ENT b)).length_eq
  have h4 := h.el hn
  have h5 := h.cl
  rw [h3, List.length_nil] at h2
  omega
theorem AOK.pl {n : Nat} {b : Bk} (h : AOK n b) (hn : n ≤ 99) (m : Nm) (p : T2 Tx Int) (hp : plOB (ENT b) b.closes m = some p) : 0 ≤ p.x2 ∧ p.x2 ≤ 100000 := by
  unfold plOB at hp
  obtain ⟨r, hr, rfl⟩ := Option.map_eq_some_iff.mp hp
  exact h.row hn (List.mem_of_find?_eq_some hr)
noncomputable def laid (b : Bk) : Bk := { b with kept := LAY (ENT b) b.closes }
noncomputable def TNS (b c : Bk) : List Zs0 := tnSB ((ENT b).map nm ++ (ENT c).map nm) (plOB (ENT b) b.closes) (plOB (ENT c) c.closes)
noncomputable def Room (b : Bk) : OO → Prop
  | .year _ _ => b.years.length < 12
  | _ => True
noncomputable def Zyp (b : Bk) : OO → Prop
  | .year _ _ => b.years.length < 6
  | _ => True
theorem Zyp.room {b : Bk} {o : OO} (h : Zyp b o) : Room b o := by
  cases o with
  | year l a => have h : b.years.length < 6 := h; show b.years.length < 12; omega
  | _ => trivial
theorem AOK.up {n : Nat} {b : Bk} (h : AOK n b) : AOK (n + 1) b := ⟨h.yl, h.yr, h.fk, Nat.le_succ_of_le h.fl, h.ff, h.ck, h.cc, h.sk, h.ss⟩
theorem AOK.laid {n : Nat} {b : Bk} (h : AOK n b) : AOK n (laid b) := ⟨h.yl, h.yr, h.fk, h.fl, h.ff, h.ck, h.cc, h.sk, h.ss⟩
structure BOK (n : Nat) (b : Bk) : Prop where
  a : AOK n b
  k : b.kept = LAY (ENT b) b.closes
noncomputable def nxtB (b : Bk) (o : OO) : Bk := match why b o with
  | some _ => b
  | none => match Zpl b (TNS b (aftB b o)) with
    | some _ => b
    | none => laid (aftB b o)
noncomputable def Zvg (b : Bk) (o : OO) : Tx := match why b o with
  | some w => Why.wrd (some w)
  | none => match Zpl b (TNS b (aftB b o)) with
    | some (n, y, d) => Z1g n y d
    | none => tx ""
noncomputable def Zw3 (b : Bk) (o : OO) : Option (List Zs0) := match why b o with
  | some _ => none
  | none => match Zpl b (TNS b (aftB b o)) with
    | some _ => none
    | none => some (TNS b (aftB b o))
noncomputable def cost : OO → Nat
  | .enter .. => 1
  | _ => 0
theorem AOK.few {n m : Nat} {b : Bk} (h : AOK n b) (hf : b.feasts.l.length ≤ m) : AOK m b := ⟨h.yl, h.yr, h.fk, hf, h.ff, h.ck, h.cc, h.sk, h.ss⟩
noncomputable def run (b : Bk) (os : List OO) : Bk := os.foldl nxtB b
noncomputable def Fit : Nat → Bk → List OO → Prop
  | n, b, [] => BOK n b
  | n, b, o :: os => BOK n b ∧ ShpO o ∧ Room b o ∧ Fit (n + cost o) (nxtB b o) os
noncomputable def Zut (os : List OO) : Nat := (os.map cost).sum
theorem Zk6 (o : OO) (os : List OO) : Zut (o :: os) = cost o + Zut os := rfl
theorem Fit.run : ∀ {os : List OO} {n : Nat} {b : Bk}, Fit n b os → BOK (n + Zut os) (run b os)
  | [], _, _, h => h
  | o :: os, n, b, h => by
    have := Fit.run h.2.2.2
    rw [Zk6, ← Nat.add_assoc]
    exact this
theorem Fit.app : ∀ {os ps : List OO} {n : Nat} {b : Bk}, Fit n b os → Fit (n + Zut os) (DL.run b os) ps → Fit n b (os ++ ps)
  | [], _, _, _, _, h => h
  | o :: os, ps, n, b, h, h' => ⟨h.1, h.2.1, h.2.2.1, Fit.app h.2.2.2 (by rw [Zk6, ← Nat.add_assoc] at h'; exact h')⟩
noncomputable def NumV (n : Int) : Prop := n ≤ 10001 ∨ n = 909090 ∨ 999999 ≤ n
noncomputable def Z1p : OO → Prop
  | .enter n .. => NumV n
  | _ => True
noncomputable def IsO (b : Bk) (x : SOrd) : Prop := ∃ o, x = OO.e o ∧ ShpO o ∧ Zyp b o ∧ Z1p o
theorem IsO.cond {b : Bk} {c : Bool} {x y : SOrd} (hx : IsO b x) (hy : IsO b y) : IsO b (cond c x y) := by cases c <;> assumption
theorem Zlt {α : Type} {xs : List α} {k : Nat} {a : α} (h : k < xs.length) : Zm7 xs (k : Int) a = some (xs.set k a) := Zye (by omega) (by omega)
theorem Zx4 (b : Bk) (os ps : List OO) : run b (os ++ ps) = run (run b os) ps := by unfold run; rw [List.foldl_append]
noncomputable def onP (w : Tx) (d : Int) (r : Row) : Bool := (decide (r.x4 = d)) && (decide (r.x3 = w))
noncomputable def hold (d : Int) : List Row → Option Nm → Option Nm
  | [], h => h
  | r :: rs, h => hold d rs (cond (onP (tx "stands") d r) (some (rn r)) h)
noncomputable def OO.k : OO → Tx
  | .year .. => tx "year" | .enter .. => tx "enter" | .strike .. => tx "strike" | .rank .. => tx "rank" | .shut .. => tx "shut" | .anchor .. => tx "anchor" | .sea .. => tx "seal" | .uns .. => tx "unseal"
theorem still {b : Bk} {o : OO} (hw : why b o = none) (ht : TNS b (aftB b o) = []) : nxtB b o = laid (aftB b o) ∧ Zvg b o = tx "" ∧ Zw3 b o = some [] := by
  unfold nxtB Zvg Zw3
  rw [hw]
  dsimp only
  rw [ht]
  exact ⟨rfl, rfl, rfl⟩
structure New (k : Nat) (b : Bk) : Prop where
  h : BOK 0 b
  f : b.feasts.l = []
  s : b.seals.l = []
  y : b.years.length = k
end DL
set_option Elab.async false
set_option linter.all false
set_option maxRecDepth 100000
set_option maxHeartbeats 1000000
set_option synthInstance.maxSize 2000
set_option synthInstance.maxHeartbeats 400000
namespace DL
open PySem PySem.Spec PyProof.Rows L2
noncomputable def Zfg : WS :=
 (wSeq (wAsg (gN 1) (wVar 0))
 (wSeq (wIf (wOp (oEq false) (Zb7 (wVar 0) wNoP (Zet (wInt 1))) (wStr (PySem.Str.ofString "-")))
 (wSeq (wAsg (gN 1) (Zb7 (wVar 0) (Zet (wInt 1)) wNoP))
 Zbd)
 Zbd)
 (wSeq (wIf (wOr (wOp (oEq false) (wVar 1) (wStr (PySem.Str.ofString ""))) (wOp oGt (wUn oLen (wVar 1)) (wInt 12)))
 (wRet (wBl false))
 Zbd)
 (wSeq (wFor (gN 2) (Znj (wVar 1))
 (wSeq (wIf (wOp (oIn true) (wVar 2) (wStr (PySem.Str.ofString "0123456789")))
 (wRet (wBl false))
 Zbd)
 (wFgt 2 Zbd)))
 (wRet (wOr (wOp (oEq true) (wUn (oIxN 0) (wVar 1)) (wStr (PySem.Str.ofString "0"))) (wOp (oEq false) (wVar 0) (wStr (PySem.Str.ofString "0")))))))))
theorem Zij : Zbi Zfg := (Zae (Zao Za2 (Zag 0)) (Zae (m_if (Zah (Zb5 (Zag 0) Zfv (Zc3 Zap)) Za4 Zav) (Zae (Zao Za2 (Zb5 (Zag 0) (Zc3 Zap) Zfv)) Zax) Zax) (Zae (m_if (Zfd (Zah (Zag 1) Za4 Zav) (Zah (Zaq (Zag 1) Zbv) Zap Zbb)) (Zb2 m_bl) Zax) (Zae (Zos Za2 (Zo0 (Zag 1)) (Zae (m_if (Zah (Zag 2) Za4 Zfn) (Zb2 m_bl) Zax) (Zko Zax))) (Zb2 (Zfd (Zah (Zaq (Zag 1) Zbz) Za4 Zav) (Zah (Zag 0) Za4 Zav)))))))
@[irreducible] noncomputable def Zdu : G := gOf 3 Zfg
theorem Zf5 : Zdu = gOf 3 Zfg := by with_unfolding_all rfl
theorem Zn6 : Ze5 Zdu := Zf5 ▸ Zbk Zij
noncomputable def Zcn (s3 : Unit) (sign : Tx) : P (Out (Unit) Bool) :=
  (bd (ofO (inTx true sign (tx "0123456789"))) fun c => cond c
  (.ok (Out.ret false))
  (.ok (.nx ())))
noncomputable def Zgt (figures'' : Tx) : P Bool :=
  (cond (decide (figures'' = (tx ""))) (.ok true) (bd (ofO (lenT figures'')) fun t2 => .ok (decide ((12 : Int) < t2))))
noncomputable def Zep (word : Tx) : P (Tx) :=
  (bd (bd (ofO (cutT word none (some (1 : Int)))) fun t1 => .ok (decide (t1 = (tx "-")))) fun c => cond c (bd (ofO (cutT word (some (1 : Int)) none)) fun (figures' : Tx) =>
  (.ok figures')) (.ok word))
noncomputable def Zea (word : Tx) : P Bool :=
  (bd (Zep word) fun (figures'' : Tx) =>
  (bd (Zgt figures'') fun c => cond c
  (.ok false)
  (bd (ofO (Zgh figures'')) fun l9 => aft (Zdg (ρ := Bool) Zcn l9 ()) (fun (r8 : Bool) => .ok r8) fun (s4 : Unit) =>
  (bd (bd (bd (ofO (chAt figures'' 0)) fun t6 => .ok (!decide (t6 = (tx "0")))) fun c => cond c (.ok true) (.ok (decide (word = (tx "0"))))) fun r7 => .ok r7))))
theorem Zkh (word : Tx) : Sim Zdu [.sh (encS word)] blE (Zea word) :=
 Zdl Zf5 (env := ([.sh (encS word), .un, .un] : En)) rfl (fun _ => Zas) (by
  unfold Zea Zfg
  exact (Zhi (s := .sh (encS word)) (env' := ([.sh (encS word), .sh (encS word), .un] : En)) (Zaf (i := 0) rfl) Zas (Nat.le_of_ble_eq_true rfl) rfl (Zuh (fun (figures'' : Tx) => ([.sh (encS word), .sh (encS figures''), .un] : En)) (Zb9 (f := blE) (mm := fun t1 => (decide (t1 = (tx "-")))) (Zch (Zaf (i := 0) rfl) Zbm (Zbn Zan)) Zal fun t1 => (op_eq (x := t1) (y := (tx "-")) Zb8 rfl rfl))
 (Zbx (f := (shE encS)) (fun figures' => ([.sh (encS word), .sh (encS figures'), .un] : En)) (Zch (Zaf (i := 0) rfl) (Zbn Zan) Zbm) (fun _ => Zas) (Nat.le_of_ble_eq_true rfl) (fun _ => rfl) fun figures' =>
 (Zd4 rfl))
 (Zd4 rfl)
 fun figures'' => (Zjg (Zsr (Za1 (Zaf (i := 1) rfl) Zal (op_eq (x := figures'') (y := (tx "")) Zb8 rfl rfl)) (Zb9 (f := blE) (mm := fun t2 => (decide ((12 : Int) < t2))) (Zde (Zaf (i := 1) rfl) (Zie rfl)) Zan fun t2 => op_gt))
 (Zen Zh1 rfl)
 (Zbo (Zpd (f := encS) (s0 := ()) (fun (s3 : Unit) => ([.sh (encS word), .sh (encS figures''), .un] : En)) blE (Zk7 (Zaf (i := 1) rfl)) rfl
 (fun s3 sign => (Zlq (e := ([.sh (encS word), .sh (encS figures''), .sh (encS sign)] : En)) Zas (Nat.le_of_ble_eq_true rfl) rfl (Zjg (Zct (Zaf (i := 2) rfl) Zal Ztw)
 (Zen Zh1 rfl)
 (Zbo (Zeg (env' := ([.sh (encS word), .sh (encS figures''), .un] : En)) rfl (Zd4 rfl))))))
 (fun _ => ⟨_, rfl, rfl⟩)
 fun s4 => (Zjl (f := blE) (t := fun r7 => r7) (Zp7 (Zb9 (f := blE) (mm := fun t6 => (!decide (t6 = (tx "0")))) (Zde (Zaf (i := 1) rfl) (Zr9 rfl)) Zal fun t6 => (op_ne (x := t6) (y := (tx "0")) Zb8 rfl rfl)) (EvP.m (f := blE) (Za1 (Zaf (i := 0) rfl) Zal (op_eq (x := word) (y := (tx "0")) Zb8 rfl rfl)))) fun _ => rfl)))))))
noncomputable def Zfm : WS :=
 (wSeq (wIf (wNot (Zcx Zdu (Zak (wVar 0) aNil)))
 (Zg7 (PySem.Str.ofString "NoOrder"))
 Zbd)
 (wRet (wUn oInt (wVar 0))))
theorem Zik : Zbi Zfm := (Zae (m_if (Zfb (Zbp Zn6 (Zaa (Zag 0) Zau))) Zma Zax) (Zb2 (Zaq (Zag 0) Zki)))
@[irreducible] noncomputable def Zd8 : G := gOf 1 Zfm
theorem Zf2 : Zd8 = gOf 1 Zfm := by with_unfolding_all rfl
theorem Zm6 : Ze5 Zd8 := Zf2 ▸ Zbk Zik
noncomputable def Zd5 (word : Tx) : P Int :=
  (bd (bd (Zea word) fun b => .ok (!b)) fun c => cond c
  (raise "NoOrder")
  (bd (ofO (intT word)) fun r1 => .ok r1))
theorem Zjp (word : Tx) : Sim Zd8 [.sh (encS word)] (shE D.int) (Zd5 word) :=
 Zdl Zf2 (env := ([.sh (encS word)] : En)) rfl (fun _ => Zas) (by
  unfold Zd5 Zfm
  exact (Zjg (Ztt (Zbu (Zab (Zaf (i := 0) rfl) Za0) (Zkh word) (fun _ => Zas)))
 Zlv
 (Zbo (Zjl (f := (shE D.int)) (t := fun r1 => r1) (Zde (Zaf (i := 0) rfl) Zt2) fun _ => rfl))))
noncomputable def Zho : WS :=
 (wSeq (wIf (wOp (oEq false) (wVar 0) (wStr (PySem.Str.ofString "n")))
 (wRet (Zcx Zd8 (Zak (wVar 1) aNil)))
 Zbd)
 (wSeq (wIf (wOr (wAnd (wOp (oEq false) (wVar 0) (wStr (PySem.Str.ofString "w"))) (Zoc false [PySem.Str.ofString "moves", PySem.Str.ofString "stays", PySem.Str.ofString "lapses"] (wVar 1))) (wAnd (wOp (oEq false) (wVar 0) (wStr (PySem.Str.ofString "r"))) (Zoc false [PySem.Str.ofString "fixed", PySem.Str.ofString "anchor"] (wVar 1))))
 (Zh4 1)
 Zbd)
 (Zg7 (PySem.Str.ofString "NoOrder"))))
theorem Zkw : Zbi Zho := (Zae (m_if (Zah (Zag 0) Za4 Zav) (Zb2 (Zbp Zm6 (Zaa (Zag 1) Zau))) Zax) (Zae (m_if (Zfd (Zda (Zah (Zag 0) Za4 Zav) (Zjk (Zag 1))) (Zda (Zah (Zag 0) Za4 Zav) (Zjk (Zag 1)))) Ztn Zax) Zma))
@[irreducible] noncomputable def Zf0 : G := gOf 2 Zho
theorem Zid : Zf0 = gOf 2 Zho := by with_unfolding_all rfl
theorem Zrm : Ze5 Zf0 := Zid ▸ Zbk Zkw
noncomputable def Ze6 (form : Tx) (word : Tx) : P (Tx ⊕ Int) :=
  (cond (decide (form = (tx "n")))
  (bd (bd (Zd5 word) fun a => .ok (Sum.inr a : SI)) fun r1 => .ok r1)
  (cond (((decide (form = (tx "w"))) && (false ^^ decide (word ∈ [tx "moves", tx "stays", tx "lapses"]))) || ((decide (form = (tx "r"))) && (false ^^ decide (word ∈ [tx "fixed", tx "anchor"]))))
  (.ok (Sum.inl word : SI))
  (raise "NoOrder")))
theorem Zks (form : Tx) (word : Tx) : Sim Zf0 [.sh (encS form), .sh (encS word)] (shE Zaz) (Ze6 form word) :=
 Zdl Zid (env := ([.sh (encS form), .sh (encS word)] : En)) rfl (fun _ => Zas) (by
  unfold Ze6 Zho
  exact (b_if (Za1 (Zaf (i := 0) rfl) Zal (op_eq (x := form) (y := (tx "n")) Zb8 rfl rfl))
 (Zff (f := (shE Zaz)) (t := fun r1 => r1) (Zt3 (f := encS) (g := D.int) (Zbu (Zab (Zaf (i := 1) rfl) Za0) (Zjp word) (fun _ => Zas))) fun _ => rfl)
 (Zbo (b_if (Zwt (Zo2 (Za1 (Zaf (i := 0) rfl) Zal (op_eq (x := form) (y := (tx "w")) Zb8 rfl rfl)) (Zlw (neg := false) (ts := [tx "moves", tx "stays", tx "lapses"]) rfl (Zaf (i := 1) rfl))) (Zo2 (Za1 (Zaf (i := 0) rfl) Zal (op_eq (x := form) (y := (tx "r")) Zb8 rfl rfl)) (Zlw (neg := false) (ts := [tx "fixed", tx "anchor"]) rfl (Zaf (i := 1) rfl))))
 (Zr2 (i := 1) (s := .sh (encS word)) rfl Zas rfl)
 (Zbo Zy0)))))
noncomputable def Zps : WS :=
 (wSeq (wAsg (gN 1) (Zlc (wVar 0) (PySem.Str.ofString " ")))
 (wSeq (wIf (Zoc true [PySem.Str.ofString "year", PySem.Str.ofString "enter", PySem.Str.ofString "strike", PySem.Str.ofString "rank", PySem.Str.ofString "shut", PySem.Str.ofString "anchor", PySem.Str.ofString "seal", PySem.Str.ofString "unseal"] (wUn (oIxN 0) (wVar 1)))
 (Zg7 (PySem.Str.ofString "NoOrder"))
 Zbd)
 (wSeq (wAsg (gN 2) (wGd [(PySem.Str.ofString "year", PySem.Str.ofString "nn"), (PySem.Str.ofString "enter", PySem.Str.ofString "nnwrnnn"), (PySem.Str.ofString "strike", PySem.Str.ofString "n"), (PySem.Str.ofString "rank", PySem.Str.ofString "nn"), (PySem.Str.ofString "shut", PySem.Str.ofString "nnn"), (PySem.Str.ofString "anchor", PySem.Str.ofString "nn"), (PySem.Str.ofString "seal", PySem.Str.ofString "n"), (PySem.Str.ofString "unseal", PySem.Str.ofString "n")] (wUn (oIxN 0) (wVar 1))))
 (wSeq (wIf (wOp (oEq true) (wUn oLen (wVar 1)) (wOp oAdd (wUn oLen (wVar 2)) (wInt 1)))
 (Zg7 (PySem.Str.ofString "NoOrder"))
 Zbd)
 (wSeq (wAsg (gN 3) (wLst (Zak (wUn (oIxN 0) (wVar 1)) aNil)))
 (wSeq (wFor (gT [4, 5]) (Zrt (Zak (wVar 2) (Zak (Zb7 (wVar 1) (Zet (wInt 1)) wNoP) aNil)))
 (wSeq (wApp 3 (Zcx Zf0 (Zak (wVar 4) (Zak (wVar 5) aNil))))
 (wFgt 4 (wFgt 5 Zbd))))
 (wRet (wUn Zit (wVar 3)))))))))
theorem Zta : Zbi Zps := (Zae (Zao Za2 (Zln (Zag 0))) (Zae (m_if (Zjk (Zaq (Zag 1) Zbz)) Zma Zax) (Zae (Zao Za2 (m_gd (Zaq (Zag 1) Zbz))) (Zae (m_if (Zah (Zaq (Zag 1) Zbv) (Zah (Zaq (Zag 2) Zbv) Zap Zbb) Zav) Zma Zax) (Zae (Zao Za2 (Zef (Zaa (Zaq (Zag 1) Zbz) Zau))) (Zae (Zos Zrv (Zsz (Zaa (Zag 2) (Zaa (Zb5 (Zag 1) (Zc3 Zap) Zfv) Zau))) (Zae (Zv6 (Zbp Zrm (Zaa (Zag 4) (Zaa (Zag 5) Zau)))) (Zko (Zko Zax)))) (Zb2 (Zaq (Zag 3) Zgx))))))))
@[irreducible] noncomputable def Zmt : G := gOf 6 Zps
theorem Zog : Zmt = gOf 6 Zps := by with_unfolding_all rfl
theorem Ztg : Ze5 Zmt := Zog ▸ Zbk Zta
noncomputable def Zji (s4 : SOq) (x5 : (T2 Tx Tx)) : P (SOq) :=
  (bd (Ze6 x5.x1 x5.x2) fun t6 => (bd (ofO (appO s4 t6)) fun (parts' : SOq) =>
  (.ok parts')))
noncomputable def Znr (words : (List Tx)) (form : Tx) : P Bool :=
  (bd (bd (ofO (lenT form)) fun t1 => .ok (t1 + (1 : Int))) fun t2 => .ok (!decide ((words.length : Int) = t2)))
noncomputable def Znv (words : (List Tx)) : P Bool :=
  (bd (ofO (words[0]?)) fun t => .ok (true ^^ decide (t ∈ [tx "year", tx "enter", tx "strike", tx "rank", tx "shut", tx "anchor", tx "seal", tx "unseal"])))
noncomputable def Zk0 (text : Tx) : P SOq :=
  (bd (ofO (Zio text (PySem.Str.ofString " "))) fun (words : (List Tx)) =>
  (bd (Znv words) fun c => cond c
  (raise "NoOrder")
  (bd (bd (ofO (words[0]?)) fun k => ofO (gdL [(tx "year", tx "nn"), (tx "enter", tx "nnwrnnn"), (tx "strike", tx "n"), (tx "rank", tx "nn"), (tx "shut", tx "nnn"), (tx "anchor", tx "nn"), (tx "seal", tx "n"), (tx "unseal", tx "n")] k)) fun (form : Tx) =>
  (bd (Znr words form) fun c => cond c
  (raise "NoOrder")
  (bd (bd (bd (ofO (words[0]?)) fun a => .ok (Sum.inl a : SI)) fun t3 => .ok [t3]) fun (parts : SOq) =>
  (bd (bd (ofO (Zgh form)) fun cs => .ok (zipZ cs (cutD words (some (1 : Int)) none))) fun l8 => bd (Zhk Zji l8 parts) fun (s7 : SOq) =>
  (.ok s7)))))))
theorem Zrr (text : Tx) : Sim Zmt [.sh (encS text)] (shE (encV Zaz)) (Zk0 text) :=
 Zdl Zog (env := ([.sh (encS text), .un, .un, .un, .un, .un] : En)) rfl (fun _ => Zas) (by
  unfold Zk0 Zps
  exact (Zbx (f := (owE (encL encS))) (fun words => ([.sh (encS text), .ow ((encL encS) words), .un, .un, .un, .un] : En)) (Zjj (Zaf (i := 0) rfl)) (fun _ => Zc4) (Nat.le_of_ble_eq_true rfl) (fun _ => rfl) fun words =>
 (Zjg (Zvd (neg := true) (ts := [tx "year", tx "enter", tx "strike", tx "rank", tx "shut", tx "anchor", tx "seal", tx "unseal"]) rfl (Zde (Zbt (i := 1) rfl) (Zk1 (xs := words) rfl)))
 Zlv
 (Zbo (Zbx (f := (shE encS)) (fun form => ([.sh (encS text), .ow ((encL encS) words), .sh (encS form), .un, .un, .un] : En)) (Zyo rfl (Zde (Zbt (i := 1) rfl) (Zk1 (xs := words) rfl))) (fun _ => Zas) (Nat.le_of_ble_eq_true rfl) (fun _ => rfl) fun form =>
 (Zjg (Zqv (f := blE) (mm := fun t2 => (!decide ((words.length : Int) = t2))) (Zcs (Zbt (i := 1) rfl) (Zn4 (xs := words) rfl)) (Zb9 (f := (shE D.int)) (mm := fun t1 => (t1 + (1 : Int))) (Zde (Zaf (i := 2) rfl) (Zie rfl)) Zan fun t1 => op_add) fun t2 => (op_ne (x := (words.length : Int)) (y := t2) Zcq rfl rfl))
 Zlv
 (Zbo (Zbx (f := (owE (encL Zaz))) (fun parts => ([.sh (encS text), .ow ((encL encS) words), .sh (encS form), .ow ((encL Zaz) parts), .un, .un] : En)) (Zop (f := owE (encL Zaz)) (Zjo (Zou (f := encS) (g := D.int) (Zde (Zbt (i := 1) rfl) (Zk1 (xs := words) rfl))) fun t3 => (Zdz ⟨[t3], _, rfl, Nat.le_of_ble_eq_true rfl, rfl, rfl⟩))) (fun _ => Zc4) (Nat.le_of_ble_eq_true rfl) (fun _ => rfl) fun parts =>
 (Ztr (f := (enc2 encS encS)) (s0 := parts) (fun (s4 : SOq) => ([.sh (encS text), .ow ((encL encS) words), .sh (encS form), .ow ((encL Zaz) s4), .un, .un] : En)) (Zn0 (ys := (cutD words (some (1 : Int)) none)) (Zab (Zaf (i := 2) rfl) (Zab (Zdd (xs := words) (Zbt (i := 1) rfl) (Zbn Zan) Zbm rfl) Za0)) rfl) rfl
 (fun s4 x5 => (Zsy (e := ([.sh (encS text), .ow ((encL encS) words), .sh (encS form), .ow ((encL Zaz) s4), .sh (encS x5.x1), .sh (encS x5.x2)] : En)) rfl rfl (Zun (f := Zaz) (xs := s4) (fun parts' => ([.sh (encS text), .ow ((encL encS) words), .sh (encS form), .ow ((encL Zaz) parts'), .sh (encS x5.x1), .sh (encS x5.x2)] : En)) rfl (Zbu (Zab (Zaf (i := 4) rfl) (Zab (Zaf (i := 5) rfl) Za0)) (Zks x5.x1 x5.x2) (fun _ => Zas)) (fun _ => rfl) (fun _ => rfl) fun parts' =>
 (Zeg (env' := ([.sh (encS text), .ow ((encL encS) words), .sh (encS form), .ow ((encL Zaz) parts'), .un, .sh (encS x5.x2)] : En)) rfl (Zeg (env' := ([.sh (encS text), .ow ((encL encS) words), .sh (encS form), .ow ((encL Zaz) parts'), .un, .un] : En)) rfl (Zd4 rfl))))))
 fun s7 => (Zot (Zcs (Zbt (i := 3) rfl) (Zpp (xs := s7) rfl)) rfl))))))))))
noncomputable def OkL (l : List Nat) : Prop := ∀ c ∈ l, c < 0x110000
theorem OkL.tail {c : Nat} {r : List Nat} (h : OkL (c :: r)) : OkL r := fun d hd => h d (List.mem_cons_of_mem _ hd)
theorem OkL.head {c : Nat} {r : List Nat} (h : OkL (c :: r)) : c < 0x110000 := h c List.mem_cons_self
theorem Zov {s : Str} : PyData.canLay0 (.str s) = true ↔ OkL s.cps.toList := by
  simp only [PyData.canLay0, PyData.strOk, OkL]
  rw [Array.all_eq_true']
  constructor
  · intro h c hc
    exact of_decide_eq_true (h c (by simpa using hc))
  · intro h c hc
    exact decide_eq_true (h c (by simpa using hc))
noncomputable def sg (t : Tx) : List Nat := t.s.cps.toList
theorem Zgo (t : Tx) : OkL (sg t) := Zov.mp t.ok
theorem Zir {a b : Tx} (h : sg a = sg b) : a = b := Zsh (TL.ext_tl h)
theorem Ze1 (t : Tx) : t.s.length = (sg t).length := TL.len_tl t.s
noncomputable def TX (l : List Nat) (h : OkL l) : Tx := ⟨⟨l.toArray⟩, Zov.mpr (by simpa using h)⟩
theorem Zgp (l : List Nat) (h : OkL l) : sg (TX l h) = l := rfl
theorem OkL.sub {l m : List Nat} (h : OkL l) (hm : ∀ c ∈ m, c ∈ l) : OkL m := fun c hc => h c (hm c hc)
theorem Zlu {s : Str} {l : List Nat} (h : OkL l) (e : s.cps.toList = l) : mkT s = some (TX l h) := by
  have hs : PyData.canLay0 (.str s) = true := Zov.mpr (by rw [e]; exact h)
  unfold mkT
  rw [dif_pos hs]
  exact congrArg some (Zir e)
noncomputable def CT (a b : Tx) : Tx := TX (sg a ++ sg b) fun c hc => (List.mem_append.mp hc).elim (Zgo a c) (Zgo b c)
theorem Zh2 (a b : Tx) : sg (CT a b) = sg a ++ sg b := rfl
theorem Ziv {a b : Tx} (h : (sg a).length + (sg b).length ≤ 16777216) : catT a b = some (CT a b) := by
  unfold catT
  rw [Ze1, Ze1, if_pos h]
  exact Zlu _ (TL.tl_append a.s b.s)
noncomputable def numZ (i : Int) : List Nat := if i < 0 then 45 :: TL.numL i.natAbs else TL.numL i.natAbs
theorem Zz1 (i : Int) : TL.tl ((toString i : String) : Str) = numZ i := by
  unfold numZ
  cases i with
  | ofNat n =>
    rw [if_neg (by simp)]
    exact TL.tl_num n
  | negSucc n =>
    rw [if_pos (Int.negSucc_lt_zero n)]
    have h := TL.tl_num (n + 1)
    have e : (toString (Int.negSucc n) : String) = "-" ++ toString (((n + 1 : Nat) : Int)) := rfl
    rw [e]
    show TL.tl (Str.ofString _) = _
    rw [TL.tl_ofString] at h ⊢
    rw [String.toList_append, List.map_append, h]
    rfl
theorem Zqz {i : Int} {c : Nat} (h : c ∈ numZ i) : c = 45 ∨ (48 ≤ c ∧ c ≤ 57) := by
  unfold numZ at h
  split at h
  · rcases List.mem_cons.mp h with h | h
    · exact .inl h
    · exact .inr (TL.numL_digits _ c h)
  · exact .inr (TL.numL_digits _ c h)
theorem Zx2 (i : Int) : OkL (numZ i) := fun c hc => by
  have := Zqz hc
  omega
theorem Zwg {i : Int} {k : Nat} (hk : 0 < k) (h : i.natAbs < 10 ^ k) : (numZ i).length ≤ k + 1 := by
  unfold numZ
  have := TL.numL_len hk h
  split
  · rw [List.length_cons]; omega
  · omega
noncomputable def NT (i : Int) : Tx := TX (numZ i) (Zx2 i)
theorem lg {i : Int} (h : i.natAbs < 10 ^ 14) : i.natAbs.log2 < 1920 := by
  by_cases z : i.natAbs = 0
  · rw [z]; decide
  · have := (Nat.log2_lt z (k := 60)).mpr (by omega)
    omega
theorem Zzx {i : Int} (h : i.natAbs < 10 ^ 14) : strT i = some (NT i) := by
  unfold strT
  rw [if_pos (lg h)]
  exact Zlu _ (Zz1 i)
theorem Zxc {i : Int} (h : i.natAbs < 10 ^ 14) : (sg (NT i)).length ≤ 15 := Zwg (by decide) h
theorem Zv9 {i : Int} (h : i.natAbs < 10 ^ 14) : intT (NT i) = some i := by
  have hl := Zxc h
  unfold intT
  rw [Ze1, if_pos (by omega)]
  have e : (NT i).s.cps.toList = numZ i := rfl
  unfold numZ at e
  have hl2 : (NT i).s.length ≤ 4300 := by rw [Ze1]; omega
  split at e
  · rw [PySem.intText_neg e (TL.numL_digits _) (TL.numL_ne _) hl2, TL.numL_val]
    congr 1
    omega
  · rw [PySem.intText_digits (by rw [e]; exact TL.numL_digits _) (by rw [e]; exact TL.numL_ne _) hl2, e, TL.numL_val]
    congr 1
    omega
theorem Zpo (t : Tx) (h : (sg t).length ≤ 16777216) (k : Nat) : cutT t none (some ((k : Nat) : Int)) = some (TX ((sg t).take k) ((Zgo t).sub fun _ => List.mem_of_mem_take)) := by
  unfold cutT
  rw [Ze1, if_pos h]
  refine Zlu _ ?_
  unfold cutS
  show TL.tl _ = _
  rw [TL.tl_mk, HT.sIx_none, List.drop_zero, Nat.sub_zero, HT.sIx_nat, TL.len_tl]
  show List.take (min k (sg t).length) (sg t) = _
  rw [List.take_eq_take_iff]
  omega
theorem Zi5 (t : Tx) (h : (sg t).length ≤ 16777216) (k : Nat) : cutT t (some ((k : Nat) : Int)) none = some (TX ((sg t).drop k) ((Zgo t).sub fun _ => List.mem_of_mem_drop)) := by
  unfold cutT
  rw [Ze1, if_pos h]
  refine Zlu _ ?_
  unfold cutS
  show TL.tl _ = _
  rw [TL.tl_mk, HT.sIx_none, HT.sIx_nat, TL.len_tl]
  show List.take ((sg t).length - min k (sg t).length) (List.drop (min k (sg t).length) (sg t)) = _
  by_cases hk : k ≤ (sg t).length
  · rw [Nat.min_eq_left hk]
    exact List.take_of_length_le (by rw [List.length_drop]; exact Nat.le_refl _)
  · rw [Nat.min_eq_right (by omega), List.drop_of_length_le (Nat.le_refl _), List.drop_of_length_le (by omega), List.take_nil]
noncomputable def ONE (c : Nat) (h : c < 0x110000) : Tx := TX [c] (by intro d hd; rw [List.mem_singleton.mp hd]; exact h)
noncomputable def ones : (l : List Nat) → OkL l → List Tx
  | [], _ => []
  | c :: r, h => ONE c h.head :: ones r h.tail
theorem Zns : ∀ (l : List Nat) (h : OkL l), allT (l.map fun c => (⟨#[c]⟩ : Str)) = some (ones l h)
  | [], _ => rfl
  | c :: r, h => by
    show (mkT ⟨#[c]⟩).bind _ = _
    rw [Zlu (l := [c]) (by intro d hd; rw [List.mem_singleton.mp hd]; exact h c List.mem_cons_self) rfl, Option.bind_some, Zns r h.tail]
    rfl
theorem Zi9 (t : Tx) : Zgh t = some (ones (sg t) (Zgo t)) := Zns _ _
theorem Zwq {neg : Bool} {c : Nat} {h : c < 0x110000} {u : Tx} : inTx neg (ONE c h) u = some (neg ^^ decide (c ∈ sg u)) := rfl
theorem Zy4 (t : Tx) (h : (sg t).length ≤ 16777216) (n : Nat) {c : Nat} (e : (sg t)[n]? = some c) : chAt t n = some (ONE c (Zgo t c (List.mem_of_getElem? e))) := by
  unfold chAt
  rw [Ze1, if_pos h]
  show ((sg t)[n]?).bind _ = _
  rw [e, Option.bind_some]
  exact Zlu _ rfl
theorem Zkz (t : Tx) (h : (sg t).length ≤ 16777216) : lenT t = some ((sg t).length : Int) := by
  unfold lenT
  rw [Ze1, if_pos h]
noncomputable def Zv8 (S : List Nat) (ts : List Tx) : List Nat := TL.joinL S (ts.map sg)
theorem joinL_mem {S : List Nat} {c : Nat} : ∀ {ps : List (List Nat)}, c ∈ TL.joinL S ps → c ∈ S ∨ ∃ p ∈ ps, c ∈ p
  | [], h => by cases h
  | [p], h => .inr ⟨p, List.mem_singleton.mpr rfl, h⟩
  | p :: q :: r, h => by
    rcases List.mem_append.mp h with h | h
    · exact .inr ⟨p, List.mem_cons_self, h⟩
    · rcases List.mem_append.mp h with h | h
      · exact .inl h
      · rcases joinL_mem h with h | ⟨z, hz, h⟩
        · exact .inl h
        · exact .inr ⟨z, List.mem_cons_of_mem _ hz, h⟩
theorem Zu7 (ts : List Tx) : OkL (Zv8 [32] ts) := fun c hc => by
  rcases joinL_mem hc with h | ⟨p, hp, h⟩
  · rw [List.mem_singleton.mp h]; decide
  · obtain ⟨t, _, rfl⟩ := List.mem_map.mp hp
    exact Zgo t c h
noncomputable def JT (ts : List Tx) : Tx := TX (Zv8 [32] ts) (Zu7 ts)
theorem Zx6 (ts : List Tx) : sg (JT ts) = Zv8 [32] ts := rfl
noncomputable abbrev SP : Str := PySem.Str.ofString " "
theorem Zvq : TL.tl SP = [32] := by rw [TL.tl_ofString]; decide
theorem Zw2 : SP.length = 1 := by rw [TL.len_tl, Zvq]; rfl
theorem Z0l (ts : List Tx) : (ts.map (·.s)).map TL.tl = ts.map sg := by
  rw [List.map_map]; rfl
theorem Zxl {ts : List Tx} (h : (ts.map fun t => (sg t).length).sum + ts.length ≤ 16777216) : Zj3 SP ts = some (JT ts) := by
  unfold Zj3
  have e : ((ts.map (·.s)).map (·.length)) = ts.map fun t => (sg t).length := by
    rw [List.map_map]
    exact List.map_congr_left fun t _ => Ze1 t
  rw [e, Zw2, Nat.mul_one, if_pos h]
  refine Zlu _ ?_
  show TL.tl _ = _
  rw [TL.join_eq, TL.tl_join, Zvq, Z0l]
  rfl
theorem Zp6 : ∀ ts : List Tx, allT (ts.map (·.s)) = some ts
  | [] => rfl
  | t :: r => by
    show (mkT t.s).bind _ = _
    have h : mkT t.s = some t := by
      rw [Zlu (Zgo t) rfl]
      rfl
    rw [h, Option.bind_some, Zp6 r]
    rfl
noncomputable def PARTS (t : Tx) : List (List Nat) := TL.spl [32] 0 [] (sg t)
theorem spl_mem {S : List Nat} : ∀ (l acc : List Nat) (k : Nat) (p : List Nat), p ∈ TL.spl S k acc l → ∀ c ∈ p, c ∈ acc ∨ c ∈ l
  | [], acc, k, p, hp, c, hc => by
    rw [TL.spl_nil, List.mem_singleton] at hp
    rw [hp] at hc
    exact .inl hc
  | x :: r, acc, 0, p, hp, c, hc => by
    by_cases h : TL.pre S (x :: r) = true
    · rw [TL.spl_hit h] at hp
      rcases List.mem_cons.mp hp with hp | hp
      · rw [hp] at hc; exact .inl hc
      · rcases spl_mem r [] _ p hp c hc with z | z
        · cases z
        · exact .inr (List.mem_cons_of_mem _ z)
    · rw [TL.spl_miss (by simpa using h)] at hp
      rcases spl_mem r _ 0 p hp c hc with z | z
      · rcases List.mem_append.mp z with z | z
        · exact .inl z
        · rw [List.mem_singleton.mp z]; exact .inr List.mem_cons_self
      · exact .inr (List.mem_cons_of_mem _ z)
  | x :: r, acc, k + 1, p, hp, c, hc => by
    rw [TL.spl_pass, List.drop_succ_cons, ← TL.spl_pass] at hp
    rcases spl_mem r acc k p hp c hc with z | z
    · exact .inl z
    · exact .inr (List.mem_cons_of_mem _ z)
noncomputable def TXs : (ls : List (List Nat)) → (∀ l ∈ ls, OkL l) → List Tx
  | [], _ => []
  | l :: r, h => TX l (h l List.mem_cons_self) :: TXs r fun m hm => h m (List.mem_cons_of_mem _ hm)
theorem Zwx : ∀ (ls : List (List Nat)) (h : ∀ l ∈ ls, OkL l), (TXs ls h).map sg = ls
  | [], _ => rfl
  | l :: r, h => by
    show l :: _ = _
    rw [Zwx r]
theorem Zv1 (t : Tx) : ∀ l ∈ PARTS t, OkL l := fun l hl c hc => by
  rcases spl_mem _ _ _ l hl c hc with z | z
  · cases z
  · exact Zgo t c z
noncomputable def Zc2 (t : Tx) : List Tx := TXs (PARTS t) (Zv1 t)
theorem Zi8 (t : Tx) : (Zc2 t).map sg = PARTS t := Zwx _ _
theorem Z0g : SP.cps.all (· < 256) = true := by decide +kernel
theorem Zli {t : Tx} (h : (sg t).length + 2 ≤ 16777216) : Zio t SP = some (Zc2 t) := by
  unfold Zio
  rw [if_pos ⟨by rw [Zw2]; rfl, by rw [Ze1]; exact h⟩]
  have e : Txt.split t.s SP = (Zc2 t).map (·.s) := by
    refine TL.map_tl_inj ?_
    rw [TL.split_spl t.s SP (by rw [Zvq]; simp) (TL.kind_ok Z0g), Z0l, Zi8, Zvq]
    rfl
  rw [e, Zp6]
theorem Zus {S : List Nat} : ∀ (l acc : List Nat) (k : Nat), TL.spl S k acc l ≠ []
  | [], acc, k => by rw [TL.spl_nil]; simp
  | x :: r, acc, 0 => by
    by_cases h : TL.pre S (x :: r) = true
    · rw [TL.spl_hit h]; simp
    · rw [TL.spl_miss (by simpa using h)]; exact Zus r _ 0
  | x :: r, acc, k + 1 => by
    rw [TL.spl_pass, List.drop_succ_cons, ← TL.spl_pass]
    exact Zus r acc k
theorem Zl5 (t : Tx) : Zc2 t ≠ [] := fun h => by
  have := Zi8 t
  rw [h] at this
  exact Zus _ _ _ this.symm
theorem Zlr {S : List Nat} : ∀ (l acc : List Nat) (k : Nat) (p : List Nat), p ∈ TL.spl S k acc l → p.length ≤ acc.length + l.length
  | [], acc, k, p, hp => by
    rw [TL.spl_nil, List.mem_singleton] at hp
    rw [hp]; omega
  | x :: r, acc, 0, p, hp => by
    by_cases h : TL.pre S (x :: r) = true
    · rw [TL.spl_hit h] at hp
      rcases List.mem_cons.mp hp with hp | hp
      · rw [hp]; omega
      · have := Zlr r [] _ p hp
        simp only [List.length_nil, List.length_cons] at this ⊢
        omega
    · rw [TL.spl_miss (by simpa using h)] at hp
      have := Zlr r _ 0 p hp
      simp only [List.length_append, List.length_cons, List.length_nil] at this ⊢
      omega
  | x :: r, acc, k + 1, p, hp => by
    rw [TL.spl_pass, List.drop_succ_cons, ← TL.spl_pass] at hp
    have := Zlr r acc k p hp
    rw [List.length_cons]
    omega
theorem Zng {t u : Tx} (h : u ∈ Zc2 t) : (sg u).length ≤ (sg t).length := by
  have h1 : sg u ∈ PARTS t := by rw [← Zi8]; exact List.mem_map.mpr ⟨u, h, rfl⟩
  have := Zlr _ _ _ _ h1
  simpa using this
noncomputable def isDg (c : Nat) : Bool := decide (c ∈ [48, 49, 50, 51, 52, 53, 54, 55, 56, 57])
theorem Zpm {c : Nat} : isDg c = true ↔ 48 ≤ c ∧ c ≤ 57 := by
  unfold isDg
  rw [decide_eq_true_iff]
  simp only [List.mem_cons, List.not_mem_nil, or_false]
  omega
noncomputable def figs (l : List Nat) : List Nat := if l.take 1 = [45] then l.drop 1 else l
noncomputable def Zfa (l : List Nat) : Bool := !(figs l).isEmpty && (decide ((figs l).length ≤ 12) && ((figs l).all isDg && (!decide ((figs l).take 1 = [48]) || decide (l = [48]))))
noncomputable def valL (l : List Nat) : Int := if l.take 1 = [45] then -((PySem.NumText.digitsVal (l.drop 1) : Nat) : Int) else ((PySem.NumText.digitsVal l : Nat) : Int)
theorem Zsl : sg (tx "-") = [45] := by decide +kernel
theorem Znc : sg (tx "") = [] := by decide +kernel
theorem Zmy : sg (tx "0") = [48] := by decide +kernel
theorem Zsj : sg (tx "0123456789") = [48, 49, 50, 51, 52, 53, 54, 55, 56, 57] := by decide +kernel
theorem deq {a b : Tx} : decide (a = b) = decide (sg a = sg b) := by
  by_cases h : a = b
  · rw [decide_eq_true h, decide_eq_true (congrArg sg h)]
  · rw [decide_eq_false h, decide_eq_false (fun e => h (Zir e))]
theorem Zqn : ∀ (l : List Nat) (h : OkL l), Zdg Zcn (ones l h) () = cond (l.all isDg) (.ok (.nx ())) (.ok (.ret false))
  | [], _ => rfl
  | c :: r, h => by
    have e : Zcn () (ONE c h.head) = cond (isDg c) (.ok (.nx ())) (.ok (.ret false)) := by
      unfold Zcn
      rw [Zwq, Zaj, Zam, Zsj]
      show cond (true ^^ isDg c) _ _ = _
      cases isDg c <;> rfl
    show Zdg Zcn (ONE c h.head :: ones r h.tail) () = cond (isDg c && r.all isDg) _ _
    cases hc : isDg c with
    | true =>
      rw [hc] at e
      rw [Zi6 e, Zqn r]
      rfl
    | false =>
      rw [hc] at e
      rw [Zjw e]
      rfl
theorem Z0i (t : Tx) (h : (sg t).length ≤ 1000000) : ∃ u, Zep t = .ok u ∧ sg u = figs (sg t) := by
  unfold Zep
  rw [show (some (1 : Int)) = some ((1 : Nat) : Int) from rfl, Zpo t (by omega) 1, Zaj, Zam, Zam, deq, Zsl, Zi5 t (by omega) 1, Zgp]
  unfold figs
  by_cases c : (sg t).take 1 = [45]
  · rw [if_pos c, decide_eq_true c, Zba rfl, Zaj, Zam]
    exact ⟨_, rfl, rfl⟩
  · rw [if_neg c, decide_eq_false c, Za6 rfl]
    exact ⟨_, rfl, rfl⟩
theorem Zp8 (l : List Nat) : (figs l).length ≤ l.length := by
  unfold figs
  split
  · rw [List.length_drop]; omega
  · omega
theorem Zvv (t : Tx) (h : (sg t).length ≤ 1000000) : Zea t = .ok (Zfa (sg t)) := by
  unfold Zea
  obtain ⟨u, e, hu⟩ := Z0i t h
  have hl := Zp8 (sg t)
  rw [← hu] at hl
  rw [e, Zam]
  unfold Zgt Zfa
  rw [← hu, deq, Znc]
  cases hc : sg u with
  | nil => rfl
  | cons c r =>
    rw [decide_eq_false (by simp), Za6 rfl, Zkz u (by omega), Zaj, Zam, Zam, Zi9, Zaj, Zam, Zqn, hc]
    by_cases hn : (c :: r).length ≤ 12
    · rw [decide_eq_false (by omega), Za6 rfl, decide_eq_true hn]
      cases ha : (c :: r).all isDg with
      | false => rfl
      | true =>
        rw [Zba rfl, Ztl, Zy4 u (by omega) 0 (c := c) (by rw [hc]; rfl), Zaj, Zam, Zam, deq, deq, Zmy]
        show bd (cond (!decide ([c] = [48])) _ _) _ = _
        have e2 : List.take 1 (c :: r) = [c] := rfl
        rw [e2]
        cases decide ([c] = [48]) <;> rfl
    · rw [decide_eq_true (by omega), Zba rfl, decide_eq_false hn]
      rfl
theorem Zmc (t : Tx) (h : Zfa (sg t) = true) : intT t = some (valL (sg t)) := by
  unfold Zfa at h
  rw [Bool.and_eq_true, Bool.and_eq_true, Bool.and_eq_true] at h
  obtain ⟨h1, h2, h3, _⟩ := h
  have h2 := of_decide_eq_true h2
  have hd : PySem.NumText.AllDigits (figs (sg t)) := fun c hc => Zpm.mp (List.all_eq_true.mp h3 c hc)
  have hne : figs (sg t) ≠ [] := fun e => by rw [e] at h1; cases h1
  unfold intT valL
  unfold figs at hd hne h2
  by_cases c : (sg t).take 1 = [45]
  · rw [if_pos c] at hd hne h2 ⊢
    have e : t.s.cps.toList = 45 :: (sg t).drop 1 := by
      show sg t = _
      rw [← List.take_append_drop 1 (sg t), c]
      rfl
    have hl : t.s.length ≤ 640 := by
      rw [Ze1]
      show (t.s.cps.toList).length ≤ 640
      rw [e, List.length_cons]; omega
    rw [if_pos hl, PySem.intText_neg e hd hne (by omega)]
  · rw [if_neg c] at hd hne h2 ⊢
    have hl : t.s.length ≤ 640 := by rw [Ze1]; omega
    rw [if_pos hl, PySem.intText_digits hd hne (by omega)]
    rfl
noncomputable def NUM (t : Tx) : Option Int := if Zfa (sg t) = true then some (valL (sg t)) else none
theorem Zsi (t : Tx) (h : (sg t).length ≤ 1000000) : Zd5 t = match NUM t with
    | some i => .ok i
    | none => raise "NoOrder" := by
  unfold Zd5 NUM
  rw [Zvv t h, Zam, Zam]
  by_cases c : Zfa (sg t) = true
  · rw [if_pos c, c, Bool.not_true, Za6 rfl, Zmc t c, Zaj, Zam]
  · rw [if_neg c]
    rw [Bool.not_eq_true] at c
    rw [c, Bool.not_false, Zba rfl]
theorem Zt8 : ∀ n : Nat, 0 < n → (TL.numL n).take 1 ≠ [48] := fun n => by
  induction n using Nat.strongRecOn with
  | _ n ih =>
    intro hn
    by_cases h : n < 10
    · rw [TL.numL_lt h]
      intro e
      injection e with e
      omega
    · rw [TL.numL_step (by omega)]
      have := TL.numL_ne (n / 10)
      have e := ih (n / 10) (by omega) (by omega)
      cases hc : TL.numL (n / 10) with
      | nil => exact absurd hc this
      | cons c r => rw [hc] at e; exact e
theorem Zr5 (i : Int) : figs (numZ i) = TL.numL i.natAbs := by
  unfold figs numZ
  by_cases h : i < 0
  · rw [if_pos h]
    rfl
  · rw [if_neg h, if_neg]
    intro e
    have : (45 : Nat) ∈ TL.numL i.natAbs := List.mem_of_mem_take (i := 1) (by rw [e]; exact List.mem_singleton.mpr rfl)
    exact TL.numL_free (by omega) this
theorem Ztq {i : Int} (h : i.natAbs < 10 ^ 12) : Zfa (numZ i) = true := by
  unfold Zfa
  rw [Zr5]
  have h1 := TL.numL_len (k := 12) (by decide) h
  have h2 : (TL.numL i.natAbs).all isDg = true := List.all_eq_true.mpr fun c hc => Zpm.mpr (TL.numL_digits _ c hc)
  have h3 : (TL.numL i.natAbs).isEmpty = false := by
    cases e : TL.numL i.natAbs with
    | nil => exact absurd e (TL.numL_ne _)
    | cons => rfl
  rw [h2, h3, decide_eq_true h1]
  by_cases z : i = 0
  · subst z
    decide
  · rw [decide_eq_false (Zt8 _ (by omega))]
    rfl
theorem Zvy {i : Int} (h : i.natAbs < 10 ^ 12) : NUM (NT i) = some i := by
  unfold NUM
  have e : sg (NT i) = numZ i := rfl
  rw [e, if_pos (Ztq h)]
  have h1 := Zmc (NT i) (by rw [e]; exact Ztq h)
  rw [Zv9 (by omega)] at h1
  rw [← e, ← h1]
noncomputable def partO (form word : Tx) : Option SI := if form = tx "n" then (NUM word).map Sum.inr else if (form = tx "w" ∧ word ∈ [tx "moves", tx "stays", tx "lapses"]) ∨ (form = tx "r" ∧ word ∈ [tx "fixed", tx "anchor"]) then some (.inl word) else none
theorem Zxo (f w : Tx) (h : (sg w).length ≤ 1000000) : Ze6 f w = match partO f w with
    | some p => .ok p
    | none => raise "NoOrder" := by
  unfold Ze6 partO
  by_cases c : f = tx "n"
  · rw [if_pos c, decide_eq_true c, Zba rfl, Zsi w h]
    cases NUM w <;> rfl
  · rw [if_neg c, decide_eq_false c, Za6 rfl]
    by_cases d : (f = tx "w" ∧ w ∈ [tx "moves", tx "stays", tx "lapses"]) ∨ (f = tx "r" ∧ w ∈ [tx "fixed", tx "anchor"])
    · rw [if_pos d, Zba]
      rw [Bool.or_eq_true, Bool.and_eq_true, Bool.and_eq_true, Zvu, Zvu, decide_eq_true_iff, decide_eq_true_iff, decide_eq_true_iff, decide_eq_true_iff]
      exact d
    · rw [if_neg d, Za6]
      rw [← Bool.not_eq_true, Bool.or_eq_true, Bool.and_eq_true, Bool.and_eq_true, Zvu, Zvu, decide_eq_true_iff, decide_eq_true_iff, decide_eq_true_iff, decide_eq_true_iff]
      exact d
noncomputable def zipP : List (T2 Tx Tx) → Option (List SI)
  | [] => some []
  | p :: r => (partO p.x1 p.x2).bind fun x => (zipP r).map (x :: ·)
theorem Zpj : ∀ (l : List (T2 Tx Tx)) (acc : List SI), (∀ p ∈ l, (sg p.x2).length ≤ 1000000) → acc.length + l.length ≤ 1000 → Zhk Zji l acc = match zipP l with
    | some r => .ok (acc ++ r)
    | none => raise "NoOrder"
  | [], acc, _, _ => by rw [Zmr]; show (Except.ok acc : P (List SI)) = Except.ok (acc ++ []); rw [List.append_nil]
  | p :: r, acc, h, hl => by
    rw [Zig]
    have e : Zji acc p = bd (Ze6 p.x1 p.x2) fun t6 => bd (ofO (appO acc t6)) fun x => .ok x := rfl
    rw [e, Zxo _ _ (h p List.mem_cons_self)]
    unfold zipP
    cases hp : partO p.x1 p.x2 with
    | none => rfl
    | some x =>
      rw [List.length_cons] at hl
      dsimp only
      rw [Zam, Zih (by omega), Zaj, Zam, Zam, Zpj r (acc ++ [x]) (fun q hq => h q (List.mem_cons_of_mem _ hq)) (by rw [List.length_append, List.length_singleton]; omega), Option.bind_some]
      cases zipP r with
      | none => rfl
      | some y => show Except.ok _ = Except.ok _; rw [List.append_assoc]; rfl
noncomputable def FORMT : List (Tx × Tx) := [(tx "year", tx "nn"), (tx "enter", tx "nnwrnnn"), (tx "strike", tx "n"), (tx "rank", tx "nn"), (tx "shut", tx "nnn"), (tx "anchor", tx "nn"), (tx "seal", tx "n"), (tx "unseal", tx "n")]
noncomputable def Zo1 : List Tx := [tx "year", tx "enter", tx "strike", tx "rank", tx "shut", tx "anchor", tx "seal", tx "unseal"]
theorem Zkc {w : Tx} : gdL FORMT w = none ↔ w ∉ Zo1 := by
  unfold gdL
  rw [Option.map_eq_none_iff, List.find?_eq_none]
  show (∀ x ∈ FORMT, ¬ decide (x.1 = w) = true) ↔ _
  have e : Zo1 = FORMT.map (·.1) := rfl
  rw [e]
  constructor
  · intro h hw
    obtain ⟨p, hp, e⟩ := List.mem_map.mp hw
    exact h p hp (decide_eq_true e)
  · intro h p hp e
    exact h (List.mem_map.mpr ⟨p, hp, of_decide_eq_true e⟩)
theorem Zmi {w f : Tx} (h : gdL FORMT w = some f) : (sg f).length ≤ 7 := by
  have := Zmg h
  simp only [FORMT, List.mem_cons, List.not_mem_nil, or_false, Prod.mk.injEq] at this
  rcases this with h | h | h | h | h | h | h | h <;> rw [h.2] <;> decide +kernel
noncomputable def Zom (ws : List Tx) : Option (List SI) := ws.head?.bind fun w => (gdL FORMT w).bind fun f => if ws.length = (sg f).length + 1 then (zipP (zipZ (ones (sg f) (Zgo f)) (ws.drop 1))).map (Sum.inl w :: ·) else none
theorem Zmb : ∀ (l : List Nat) (h : OkL l), (ones l h).length = l.length
  | [], _ => rfl
  | _ :: r, _ => congrArg (· + 1) (Zmb r _)
theorem Zp4 {α β : Type} (xs : List α) (ys : List β) : (zipZ xs ys).length = min xs.length ys.length := by
  unfold zipZ
  rw [List.length_map, List.length_zip]
theorem Zqo {α β : Type} {xs : List α} {ys : List β} {p : T2 α β} (h : p ∈ zipZ xs ys) : p.x2 ∈ ys := by
  unfold zipZ at h
  obtain ⟨q, hq, rfl⟩ := List.mem_map.mp h
  exact (List.of_mem_zip hq).2
theorem Zyc (t : Tx) (h : (sg t).length ≤ 1000000) : Zk0 t = match Zom (Zc2 t) with
    | some o => .ok o
    | none => raise "NoOrder" := by
  unfold Zk0
  rw [Zli (by omega), Zaj, Zam]
  unfold Znv Zom
  cases hw : Zc2 t with
  | nil => exact absurd hw (Zl5 t)
  | cons w r =>
    rw [List.getElem?_cons_zero, Zaj, Zam, Zam, List.head?_cons, Option.bind_some, Zvs]
    show cond (!decide (w ∈ Zo1)) _ (bd (ofO (gdL FORMT w)) _) = _
    by_cases c : w ∈ Zo1
    · rw [decide_eq_true c, Bool.not_true, Za6 rfl]
      cases hf : gdL FORMT w with
      | none => exact absurd c (Zkc.mp hf)
      | some f =>
        have h7 := Zmi hf
        rw [Zaj, Zam, Option.bind_some]
        unfold Znr
        rw [Zkz f (by omega), Zaj, Zam, Zam, Zam]
        by_cases d : (w :: r).length = (sg f).length + 1
        · rw [if_pos d, decide_eq_true (by omega), Bool.not_true, Za6 rfl, Zam, Zam, Zam, Zi9, Zaj, Zam, Zam, show (some (1 : Int)) = some ((1 : Nat) : Int) from rfl, Zhn, List.drop_one, List.tail_cons]
          have hz := Zp4 (ones (sg f) (Zgo f)) r
          rw [Zpj _ _ (fun p hp => by
            have h1 := Zqo hp
            have h2 : p.x2 ∈ Zc2 t := by rw [hw]; exact List.mem_cons_of_mem _ h1
            have := Zng h2
            omega) (by rw [hz, Zmb, List.length_singleton]; omega)]
          cases zipP (zipZ (ones (sg f) (Zgo f)) r) <;> rfl
        · rw [if_neg d, decide_eq_false (by omega), Bool.not_false, Zba rfl]
    · rw [decide_eq_false c, Bool.not_false, Zba rfl, Zkc.mpr c]
      rfl
noncomputable def Zhu : SI → Tx := altE id NT
theorem Zs6 {c : Nat} {r : List Nat} {h : OkL (c :: r)} {q : Tx} {qs : List Tx} : zipP (zipZ (ones (c :: r) h) (q :: qs)) = (partO (ONE c h.head) q).bind fun x => (zipP (zipZ (ones r h.tail) qs)).map (x :: ·) := rfl
noncomputable def PIn (c : Nat) (p : SI) : Prop := (∀ h, partO (ONE c h) (Zhu p) = some p) ∧ (32 ∉ sg (Zhu p) ∧ (sg (Zhu p)).length ≤ 20) ∧ ∀ i, p = .inr i → i.natAbs < 10 ^ 13
noncomputable def PIns : List Nat → List SI → Prop
  | [], [] => True
  | c :: l, p :: ps => PIn c p ∧ PIns l ps
  | _, _ => False
theorem Z0v {h : 110 < 0x110000} : ONE 110 h = tx "n" := Zir (by rw [show sg (ONE 110 h) = [110] from rfl]; decide +kernel)
theorem Zze {h : 119 < 0x110000} : ONE 119 h = tx "w" := Zir (by rw [show sg (ONE 119 h) = [119] from rfl]; decide +kernel)
theorem Z0z {h : 114 < 0x110000} : ONE 114 h = tx "r" := Zir (by rw [show sg (ONE 114 h) = [114] from rfl]; decide +kernel)
theorem Zj7 {i : Int} (h : i.natAbs < 10 ^ 12) : PIn 110 (.inr i) := by
  refine ⟨fun hc => ?_, ⟨fun hm => ?_, ?_⟩, fun j e => by cases e; omega⟩
  · rw [Z0v]
    show partO (tx "n") (NT i) = _
    unfold partO
    rw [if_pos rfl, Zvy h]
    rfl
  · have := Zqz hm
    omega
  · have := Zxc (i := i) (by omega)
    show (sg (NT i)).length ≤ 20
    omega
theorem Z13 {t : Tx} (h : t ∈ [tx "moves", tx "stays", tx "lapses"]) : PIn 119 (.inl t) := by
  refine ⟨fun hc => ?_, ?_, fun j e => by cases e⟩
  · rw [Zze]
    show partO (tx "w") t = _
    unfold partO
    rw [if_neg (by decide +kernel), if_pos (.inl ⟨rfl, h⟩)]
  · show 32 ∉ sg t ∧ (sg t).length ≤ 20
    simp only [List.mem_cons, List.not_mem_nil, or_false] at h
    rcases h with rfl | rfl | rfl <;> decide +kernel
theorem Z1m {t : Tx} (h : t ∈ [tx "fixed", tx "anchor"]) : PIn 114 (.inl t) := by
  refine ⟨fun hc => ?_, ?_, fun j e => by cases e⟩
  · rw [Z0z]
    show partO (tx "r") t = _
    unfold partO
    rw [if_neg (by decide +kernel), if_pos (.inr ⟨rfl, h⟩)]
  · show 32 ∉ sg t ∧ (sg t).length ≤ 20
    simp only [List.mem_cons, List.not_mem_nil, or_false] at h
    rcases h with rfl | rfl <;> decide +kernel
theorem PIns.len : ∀ {l : List Nat} {ps : List SI}, PIns l ps → l.length = ps.length
  | [], [], _ => rfl
  | _ :: _, _ :: _, h => congrArg (· + 1) (PIns.len h.2)
  | [], _ :: _, h => h.elim
  | _ :: _, [], h => h.elim
theorem PIns.mem : ∀ {l : List Nat} {ps : List SI}, PIns l ps → ∀ p ∈ ps, (32 ∉ sg (Zhu p) ∧ (sg (Zhu p)).length ≤ 20) ∧ ∀ i, p = .inr i → i.natAbs < 10 ^ 13
  | c :: l, q :: ps, h, p, hp => by
    rcases List.mem_cons.mp hp with rfl | hp
    · exact h.1.2
    · exact PIns.mem h.2 p hp
  | [], [], _, p, hp => by cases hp
  | [], _ :: _, h, _, _ => h.elim
  | _ :: _, [], h, _, _ => h.elim
theorem PIns.zip : ∀ {l : List Nat} {ps : List SI} (h : OkL l), PIns l ps → zipP (zipZ (ones l h) (ps.map Zhu)) = some ps
  | [], [], _, _ => rfl
  | c :: l, p :: ps, h, q => by
    rw [List.map_cons, Zs6, q.1.1, Option.bind_some, PIns.zip _ q.2]
    rfl
  | [], _ :: _, _, q => q.elim
  | _ :: _, [], _, q => q.elim
structure GO (o : List SI) : Prop where
  ex : ∃ w f ps, o = .inl w :: ps ∧ gdL FORMT w = some f ∧ PIns (sg f) ps
theorem Zqy {w f : Tx} (h : gdL FORMT w = some f) : 32 ∉ sg w ∧ (sg w).length ≤ 20 := by
  have := Zmg h
  simp only [FORMT, List.mem_cons, List.not_mem_nil, or_false, Prod.mk.injEq] at this
  rcases this with h | h | h | h | h | h | h | h <;> rw [h.1] <;> decide +kernel
theorem GO.mem {o : List SI} (h : GO o) : ∀ p ∈ o, (32 ∉ sg (Zhu p) ∧ (sg (Zhu p)).length ≤ 20) ∧ ∀ i, p = .inr i → i.natAbs < 10 ^ 13 := by
  obtain ⟨w, f, ps, rfl, hf, hp⟩ := h.ex
  intro p hm
  rcases List.mem_cons.mp hm with rfl | hm
  · exact ⟨Zqy hf, fun i e => by cases e⟩
  · exact hp.mem p hm
theorem GO.len {o : List SI} (h : GO o) : 1 ≤ o.length ∧ o.length ≤ 8 := by
  obtain ⟨w, f, ps, rfl, hf, hp⟩ := h.ex
  have h1 := Zmi hf
  have h2 := hp.len
  rw [List.length_cons]
  omega
noncomputable def OT (o : List SI) : Tx := JT (o.map Zhu)
theorem Zmx {S : List Nat} (k : Nat) : ∀ {ps : List (List Nat)}, (∀ p ∈ ps, p.length ≤ k) → (TL.joinL S ps).length ≤ ps.length * (k + S.length)
  | [], _ => Nat.zero_le _
  | [p], h => by
    have := h p (List.mem_singleton.mpr rfl)
    show p.length ≤ _
    simp only [List.length_cons, List.length_nil]
    omega
  | p :: q :: r, h => by
    have h1 := h p List.mem_cons_self
    have h2 := Zmx (S := S) k (ps := q :: r) fun z hz => h z (List.mem_cons_of_mem _ hz)
    show (p ++ (S ++ TL.joinL S (q :: r))).length ≤ (q :: r).length.succ * (k + S.length)
    rw [List.length_append, List.length_append, Nat.succ_mul]
    omega
theorem Z0p {ts : List Tx} {k : Nat} (h : ∀ t ∈ ts, (sg t).length ≤ k) : (sg (JT ts)).length ≤ ts.length * (k + 1) := by
  have := Zmx (S := [32]) k (ps := ts.map sg) fun p hp => by
    obtain ⟨t, ht, rfl⟩ := List.mem_map.mp hp
    exact h t ht
  rw [List.length_map] at this
  exact this
theorem GO.olen {o : List SI} (h : GO o) : (sg (OT o)).length ≤ 168 := by
  have h1 := Z0p (ts := o.map Zhu) (k := 20) fun t ht => by
    obtain ⟨p, hp, rfl⟩ := List.mem_map.mp ht
    exact (h.mem p hp).1.2
  have h2 := h.len
  rw [List.length_map] at h1
  unfold OT
  omega
theorem Zu4 {p : SI} (h : ∀ i, p = .inr i → i.natAbs < 10 ^ 13) : Zvw p = some (Zhu p) := by
  cases p with
  | inl t => rfl
  | inr i =>
    have := h i rfl
    exact Zzx (by omega)
theorem Zrk {S p q : List Nat} : ∀ r : List (List Nat), TL.joinL S ((p ++ S ++ q) :: r) = TL.joinL S (p :: q :: r)
  | [] => by show p ++ S ++ q = p ++ (S ++ q); rw [List.append_assoc]
  | z :: r => by
    show p ++ S ++ q ++ (S ++ TL.joinL S (z :: r)) = p ++ (S ++ (q ++ (S ++ TL.joinL S (z :: r))))
    simp only [List.append_assoc]
theorem Zyv (a b : Tx) (ts : List Tx) : JT (CT (CT a (tx " ")) b :: ts) = JT (a :: b :: ts) := Zir (by
  rw [Zx6, Zx6]
  unfold Zv8
  rw [List.map_cons, List.map_cons, List.map_cons, Zh2, Zh2, show sg (tx " ") = [32] by decide +kernel]
  exact Zrk _)
theorem Zz7 (a : Tx) : JT [a] = a := Zir rfl
theorem Zxj : sg (tx " ") = [32] := by decide +kernel
theorem Znn {step : Tx → SI → P Tx} (hs : ∀ s p, step s p = bd (bd (ofO (catT s (tx " "))) fun t6 => bd (ofO (Zvw p)) fun t7 => ofO (catT t6 t7)) fun x => .ok x) : ∀ (ps : List SI) (a : Tx), (∀ p ∈ ps, (sg (Zhu p)).length ≤ 20 ∧ ∀ i, p = .inr i → i.natAbs < 10 ^ 13) → (sg a).length + 21 * ps.length ≤ 100000 → Zhk step ps a = .ok (JT (a :: ps.map Zhu))
  | [], a, _, _ => by rw [Zmr, List.map_nil, Zz7]
  | p :: ps, a, h, hl => by
    rw [List.length_cons] at hl
    have h1 := h p List.mem_cons_self
    rw [Zig, hs, Ziv (by rw [Zxj, List.length_singleton]; omega), Zaj, Zam, Zu4 h1.2, Zaj, Zam, Ziv (by rw [Zh2, Zxj, List.length_append, List.length_singleton]; omega), Zaj, Zam, Zam, Znn hs ps _ (fun q hq => h q (List.mem_cons_of_mem _ hq)) (by rw [Zh2, Zh2, Zxj, List.length_append, List.length_append, List.length_singleton]; omega), Zyv, List.map_cons]
theorem Zvr {w f : Tx} {ps : List SI} (h : gdL FORMT w = some f) {l : List Nat} (e : sg f = l) (hp : PIns l ps) : GO (.inl w :: ps) := ⟨w, f, ps, rfl, h, e ▸ hp⟩
theorem sg_n : sg (tx "n") = [110] := by decide +kernel
theorem Z1f : sg (tx "nn") = [110, 110] := by decide +kernel
theorem Zzh : sg (tx "nnn") = [110, 110, 110] := by decide +kernel
theorem Z19 : sg (tx "nnwrnnn") = [110, 110, 119, 114, 110, 110, 110] := by decide +kernel
noncomputable abbrev N12 (i : Int) : Prop := i.natAbs < 10 ^ 12
theorem Zxz {w : Tx} (h : w ∈ [tx "year", tx "rank", tx "anchor"]) {a b : Int} (ha : N12 a) (hb : N12 b) : GO [.inl w, .inr a, .inr b] := by
  refine Zvr (f := tx "nn") ?_ Z1f ⟨Zj7 ha, Zj7 hb, trivial⟩
  simp only [List.mem_cons, List.not_mem_nil, or_false] at h
  rcases h with rfl | rfl | rfl <;> decide +kernel
theorem go_n {w : Tx} (h : w ∈ [tx "strike", tx "seal", tx "unseal"]) {a : Int} (ha : N12 a) : GO [.inl w, .inr a] := by
  refine Zvr (f := tx "n") ?_ sg_n ⟨Zj7 ha, trivial⟩
  simp only [List.mem_cons, List.not_mem_nil, or_false] at h
  rcases h with rfl | rfl | rfl <;> decide +kernel
theorem Zzg {a b c : Int} (ha : N12 a) (hb : N12 b) (hc : N12 c) : GO [.inl (tx "shut"), .inr a, .inr b, .inr c] := Zvr (f := tx "nnn") (by decide +kernel) Zzh ⟨Zj7 ha, Zj7 hb, Zj7 hc, trivial⟩
theorem Z1q {w r : Tx} (hw : w ∈ [tx "moves", tx "stays", tx "lapses"]) (hr : r ∈ [tx "fixed", tx "anchor"]) {a b c d e : Int} (ha : N12 a) (hb : N12 b) (hc : N12 c) (hd : N12 d) (he : N12 e) : GO [.inl (tx "enter"), .inr a, .inr b, .inl w, .inl r, .inr c, .inr d, .inr e] :=
  Zvr (f := tx "nnwrnnn") (by decide +kernel) Z19 ⟨Zj7 ha, Zj7 hb, Z13 hw, Z1m hr, Zj7 hc, Zj7 hd, Zj7 he, trivial⟩
noncomputable abbrev T3i := T3 Int Int Int
noncomputable def oT (o : OO) : Tx := OT o.e
structure StrOk (m : Dct Int Int) (t : T3i) : Prop where
  o : t.x1 ≤ t.x2
  g : ∀ d, t.x1 ≤ d → d ≤ t.x2 → m.get d = some t.x3
structure Eqv (b b' : Bk) : Prop where
  y : b.years = b'.years
  f : ∀ n, b.feasts.get n = b'.feasts.get n
  c : ∀ d, b.closes.get d = b'.closes.get d
  s : ∀ y, b.seals.has y = b'.seals.has y
theorem Eqv.symm {b c : Bk} (h : Eqv b c) : Eqv c b := ⟨h.y.symm, fun n => (h.f n).symm, fun n => (h.c n).symm, fun n => (h.s n).symm⟩
theorem Eqv.trans {b c d : Bk} (h : Eqv b c) (h' : Eqv c d) : Eqv b d := ⟨h.y.trans h'.y, fun n => (h.f n).trans (h'.f n), fun n => (h.c n).trans (h'.c n), fun n => (h.s n).trans (h'.s n)⟩
theorem Eqv.lens {b c : Bk} (h : Eqv b c) : Zeu b = Zeu c := by unfold Zeu; rw [h.y]
noncomputable def Done : Bk → List OO → Prop
  | _, [] => True
  | b, o :: os => Zvg b o = tx "" ∧ Done (nxtB b o) os
theorem Done.app : ∀ {os ps : List OO} {b : Bk}, Done b os → Done (run b os) ps → Done b (os ++ ps)
  | [], _, _, _, h => h
  | _ :: _, _, _, h, h' => ⟨h.1, Done.app h.2 h'⟩
structure Leads (n : Nat) (b : Bk) (os : List OO) (c : Bk) : Prop where
  f : Fit n b os
  d : Done b os
  e : run b os = c
theorem Leads.nil {n : Nat} {b : Bk} (h : BOK n b) : Leads n b [] b := ⟨h, trivial, rfl⟩
theorem Leads.cons {n : Nat} {b c : Bk} {o : OO} {os : List OO} (h : BOK n b) (ho : ShpO o) (hr : Room b o) (hw : Zvg b o = tx "") (hl : Leads (n + cost o) (nxtB b o) os c) : Leads n b (o :: os) c := ⟨⟨h, ho, hr, hl.f⟩, ⟨hw, hl.d⟩, hl.e⟩
theorem Leads.app {n : Nat} {b c d : Bk} {os ps : List OO} (h : Leads n b os c) (h' : Leads (n + Zut os) c ps d) : Leads n b (os ++ ps) d :=
  ⟨h.f.app (by rw [h.e]; exact h'.f), h.d.app (by rw [h.e]; exact h'.d), by rw [Zx4, h.e]; exact h'.e⟩
end DL
set_option Elab.async false
set_option linter.all false
set_option maxRecDepth 100000
set_option maxHeartbeats 1000000
set_option synthInstance.maxSize 2000
set_option synthInstance.maxHeartbeats 400000
namespace DL
open PySem PySem.Spec PyProof.Rows L2
noncomputable def Zfc : WS :=
 (wSeq (wAsg (gN 2) (Zcx Zcb (Zak (wVar 0) (Zak (wLst (Zak (wInt 8) (Zak (wInt 3) (Zak (wInt 2) (Zak (wVar 1) (Zak (wVar 1) (Zak (wVar 1) (Zak (wInt 10) (Zak (wInt 2) (Zak (wVar 1) (Zak (wInt 13) (Zak (wOp oPow (wInt 10) (wInt 12)) aNil)))))))))))) aNil))))
 (wSeq (wAsg (gT [3, 4, 5, 6, 7, 8]) (Zb7 (wVar 2) wNoP (Zet (wInt 6))))
 (wSeq (wAsg (gT [9, 10, 11, 12, 13]) (Zb7 (wVar 2) (Zet (wInt 6)) wNoP))
 (wSeq (wIf (wOp oGt (wVar 12) (wInt 9))
 (wSeq (wAsg (gN 6) (wVar 13))
 Zbd)
 Zbd)
 (wSeq (wIf (wOp (oEq false) (wVar 10) (wInt 1))
 (wSeq (wAsg (gN 7) (wUn oNeg (wVar 7)))
 Zbd)
 Zbd)
 (wSeq (wAsg (gN 14) (wOp oIx (wLst (Zak (wStr (PySem.Str.ofString "year")) (Zak (wStr (PySem.Str.ofString "enter")) (Zak (wStr (PySem.Str.ofString "strike")) (Zak (wStr (PySem.Str.ofString "rank")) (Zak (wStr (PySem.Str.ofString "shut")) (Zak (wStr (PySem.Str.ofString "anchor")) (Zak (wStr (PySem.Str.ofString "seal")) (Zak (wStr (PySem.Str.ofString "unseal")) aNil))))))))) (wVar 3)))
 (wSeq (wIf (wOp (oEq false) (wVar 3) (wInt 1))
 (wSeq (wAsg (gN 15) (wOp oIx (wLst (Zak (wStr (PySem.Str.ofString "moves")) (Zak (wStr (PySem.Str.ofString "stays")) (Zak (wStr (PySem.Str.ofString "lapses")) aNil)))) (wVar 4)))
 (wRet (wTup (Zak (wVar 14) (Zak (wVar 6) (Zak (wVar 9) (Zak (wVar 15) (Zak (wOp oIx (wLst (Zak (wStr (PySem.Str.ofString "fixed")) (Zak (wStr (PySem.Str.ofString "anchor")) aNil))) (wVar 5)) (Zak (wVar 7) (Zak (wVar 8) (Zak (wVar 11) aNil)))))))))))
 Zbd)
 (wSeq (wIf (wOp (oIn false) (wVar 3) (wTup (Zak (wInt 2) (Zak (wInt 6) (Zak (wInt 7) aNil)))))
 (wRet (wTup (Zak (wVar 14) (Zak (wVar 6) aNil))))
 Zbd)
 (wSeq (wIf (wOp (oEq false) (wVar 3) (wInt 4))
 (wRet (wTup (Zak (wVar 14) (Zak (wVar 6) (Zak (wVar 7) (Zak (wVar 9) aNil))))))
 Zbd)
 (wRet (wTup (Zak (wVar 14) (Zak (wVar 7) (Zak (wVar 6) aNil))))))))))))))
theorem Ziq : Zbi Zfc := (Zae (Zao Za2 (Zbp Zfr (Zaa (Zag 0) (Zaa (Zef (Zaa Zap (Zaa Zap (Zaa Zap (Zaa (Zag 1) (Zaa (Zag 1) (Zaa (Zag 1) (Zaa Zap (Zaa Zap (Zaa (Zag 1) (Zaa Zap (Zaa (Zah Zap Zap Zbg) Zau)))))))))))) Zau)))) (Zae (Zao Zrv (Zb5 (Zag 2) Zfv (Zc3 Zap))) (Zae (Zao Zrv (Zb5 (Zag 2) (Zc3 Zap) Zfv)) (Zae (m_if (Zah (Zag 12) Zap Zbb) (Zae (Zao Za2 (Zag 13)) Zax) Zax) (Zae (m_if (Zah (Zag 10) Zap Zav) (Zae (Zao Za2 (Zaq (Zag 7) Zub)) Zax) Zax) (Zae (Zao Za2 (Zah (Zef (Zaa Za4 (Zaa Za4 (Zaa Za4 (Zaa Za4 (Zaa Za4 (Zaa Za4 (Zaa Za4 (Zaa Za4 Zau))))))))) (Zag 3) Zcp)) (Zae (m_if (Zah (Zag 3) Zap Zav) (Zae (Zao Za2 (Zah (Zef (Zaa Za4 (Zaa Za4 (Zaa Za4 Zau)))) (Zag 4) Zcp)) (Zb2 (Zm9 (Zaa (Zag 14) (Zaa (Zag 6) (Zaa (Zag 9) (Zaa (Zag 15) (Zaa (Zah (Zef (Zaa Za4 (Zaa Za4 Zau))) (Zag 5) Zcp) (Zaa (Zag 7) (Zaa (Zag 8) (Zaa (Zag 11) Zau))))))))))) Zax) (Zae (m_if (Zah (Zag 3) (Zm9 (Zaa Zap (Zaa Zap (Zaa Zap Zau)))) Zfn) (Zb2 (Zm9 (Zaa (Zag 14) (Zaa (Zag 6) Zau)))) Zax) (Zae (m_if (Zah (Zag 3) Zap Zav) (Zb2 (Zm9 (Zaa (Zag 14) (Zaa (Zag 6) (Zaa (Zag 7) (Zaa (Zag 9) Zau)))))) Zax) (Zb2 (Zm9 (Zaa (Zag 14) (Zaa (Zag 7) (Zaa (Zag 6) Zau))))))))))))))
@[irreducible] noncomputable def Zd3 : G := gOf 16 Zfc
theorem Zfz : Zd3 = gOf 16 Zfc := by with_unfolding_all rfl
theorem Zm1 : Ze5 Zd3 := Zfz ▸ Zbk Ziq
noncomputable def Zd7 (law_cell_here : Int) (law_near : Int) : P SOq :=
  (bd (Zca law_cell_here ([(8 : Int), (3 : Int), (2 : Int), law_near, law_near, law_near, (10 : Int), (2 : Int), law_near, (13 : Int), (1000000000000 : Int)])) fun (law_drawn : (List Int)) =>
  (un6 (cutD law_drawn none (some (6 : Int))) fun law_what law_way law_rule law_a law_b law_c =>
  (un5 (cutD law_drawn (some (6 : Int)) none) fun law_d law_sign law_e law_length law_far =>
  (Zfw (cond (decide ((9 : Int) < law_length)) law_far law_a) fun (law_a'' : Int) =>
  (Zfw (cond (decide (law_sign = (1 : Int))) (-law_b) law_b) fun (law_b'' : Int) =>
  (bd (ofO (atI ([(tx "year"), (tx "enter"), (tx "strike"), (tx "rank"), (tx "shut"), (tx "anchor"), (tx "seal"), (tx "unseal")]) law_what)) fun (law_name : Tx) =>
  (cond (decide (law_what = (1 : Int)))
  (bd (ofO (atI ([(tx "moves"), (tx "stays"), (tx "lapses")]) law_way)) fun (law_sort : Tx) =>
  (bd (bd (bd (ofO (atI ([(tx "fixed"), (tx "anchor")]) law_rule)) fun a => .ok (Sum.inl a : SI)) fun t2 => .ok ([(Sum.inl law_name : SI), (Sum.inr law_a'' : SI), (Sum.inr law_d : SI), (Sum.inl law_sort : SI), t2, (Sum.inr law_b'' : SI), (Sum.inr law_c : SI), (Sum.inr law_e : SI)] : List (Tx ⊕ Int))) fun r3 => .ok r3))
  (cond (false ^^ decide (law_what ∈ [T3.x1 (T3.mk (2 : Int) (6 : Int) (7 : Int)), T3.x2 (T3.mk (2 : Int) (6 : Int) (7 : Int)), T3.x3 (T3.mk (2 : Int) (6 : Int) (7 : Int))]))
  (.ok ([(Sum.inl law_name : SI), (Sum.inr law_a'' : SI)] : List (Tx ⊕ Int)))
  (cond (decide (law_what = (4 : Int)))
  (.ok ([(Sum.inl law_name : SI), (Sum.inr law_a'' : SI), (Sum.inr law_b'' : SI), (Sum.inr law_d : SI)] : List (Tx ⊕ Int)))
  (.ok ([(Sum.inl law_name : SI), (Sum.inr law_b'' : SI), (Sum.inr law_a'' : SI)] : List (Tx ⊕ Int))))))))))))
theorem Zi1 (law_cell_here : Int) (law_near : Int) : Sim Zd3 [.sh (D.int law_cell_here), .sh (D.int law_near)] (shE (encV Zaz)) (Zd7 law_cell_here law_near) :=
 Zdl Zfz (env := ([.sh (D.int law_cell_here), .sh (D.int law_near), .un, .un, .un, .un, .un, .un, .un, .un, .un, .un, .un, .un, .un, .un] : En)) rfl (fun _ => Zas) (by
  unfold Zd7 Zfc
  exact (Zbx (f := (owE (encL D.int))) (fun law_drawn => ([.sh (D.int law_cell_here), .sh (D.int law_near), .ow ((encL D.int) law_drawn), .un, .un, .un, .un, .un, .un, .un, .un, .un, .un, .un, .un, .un] : En)) (Zbu (Zab (Zaf (i := 0) rfl) (Zab (Zc8 (Zab Zan (Zab Zan (Zab Zan (Zab (Zaf (i := 1) rfl) (Zab (Zaf (i := 1) rfl) (Zab (Zaf (i := 1) rfl) (Zab Zan (Zab Zan (Zab (Zaf (i := 1) rfl) (Zab Zan (Zab (Za1 Zan Zan (op_pow (c := 1000000000000) ⟨by decide, by decide, by decide⟩ (by decide +kernel))) Za0))))))))))) rfl (Nat.le_of_ble_eq_true rfl)) Za0)) (Zc5 law_cell_here ([(8 : Int), (3 : Int), (2 : Int), law_near, law_near, law_near, (10 : Int), (2 : Int), law_near, (13 : Int), (1000000000000 : Int)])) (fun _ => Zc4)) (fun _ => Zc4) (Nat.le_of_ble_eq_true rfl) (fun _ => rfl) fun law_drawn =>
 (Zw9 (Zdd (xs := law_drawn) (Zbt (i := 2) rfl) Zbm (Zbn Zan) rfl) (Zzb (xs := (cutD law_drawn none (some (6 : Int)))) (fun law_what law_way law_rule law_a law_b law_c => ([.sh (D.int law_cell_here), .sh (D.int law_near), .ow ((encL D.int) law_drawn), .sh (D.int law_what), .sh (D.int law_way), .sh (D.int law_rule), .sh (D.int law_a), .sh (D.int law_b), .sh (D.int law_c), .un, .un, .un, .un, .un, .un, .un] : En)) rfl (fun _ _ _ _ _ _ => rfl) fun law_what law_way law_rule law_a law_b law_c =>
 (Zw9 (Zdd (xs := law_drawn) (Zbt (i := 2) rfl) (Zbn Zan) Zbm rfl) (Zw5 (xs := (cutD law_drawn (some (6 : Int)) none)) (fun law_d law_sign law_e law_length law_far => ([.sh (D.int law_cell_here), .sh (D.int law_near), .ow ((encL D.int) law_drawn), .sh (D.int law_what), .sh (D.int law_way), .sh (D.int law_rule), .sh (D.int law_a), .sh (D.int law_b), .sh (D.int law_c), .sh (D.int law_d), .sh (D.int law_sign), .sh (D.int law_e), .sh (D.int law_length), .sh (D.int law_far), .un, .un] : En)) rfl (fun _ _ _ _ _ => rfl) fun law_d law_sign law_e law_length law_far =>
 (Zyi (fun (law_a'' : Int) => ([.sh (D.int law_cell_here), .sh (D.int law_near), .ow ((encL D.int) law_drawn), .sh (D.int law_what), .sh (D.int law_way), .sh (D.int law_rule), .sh (D.int law_a''), .sh (D.int law_b), .sh (D.int law_c), .sh (D.int law_d), .sh (D.int law_sign), .sh (D.int law_e), .sh (D.int law_length), .sh (D.int law_far), .un, .un] : En)) (Za1 (Zaf (i := 12) rfl) Zan op_gt)
 (Zhi (s := .sh (D.int law_far)) (env' := ([.sh (D.int law_cell_here), .sh (D.int law_near), .ow ((encL D.int) law_drawn), .sh (D.int law_what), .sh (D.int law_way), .sh (D.int law_rule), .sh (D.int law_far), .sh (D.int law_b), .sh (D.int law_c), .sh (D.int law_d), .sh (D.int law_sign), .sh (D.int law_e), .sh (D.int law_length), .sh (D.int law_far), .un, .un] : En)) (Zaf (i := 13) rfl) Zas (Nat.le_of_ble_eq_true rfl) rfl (Zd4 rfl))
 (Zd4 rfl)
 fun law_a'' => (Zyi (fun (law_b'' : Int) => ([.sh (D.int law_cell_here), .sh (D.int law_near), .ow ((encL D.int) law_drawn), .sh (D.int law_what), .sh (D.int law_way), .sh (D.int law_rule), .sh (D.int law_a''), .sh (D.int law_b''), .sh (D.int law_c), .sh (D.int law_d), .sh (D.int law_sign), .sh (D.int law_e), .sh (D.int law_length), .sh (D.int law_far), .un, .un] : En)) (Za1 (Zaf (i := 10) rfl) Zan (op_eq (x := law_sign) (y := (1 : Int)) Zcq rfl rfl))
 (Zhi (s := .sh (D.int (-law_b))) (env' := ([.sh (D.int law_cell_here), .sh (D.int law_near), .ow ((encL D.int) law_drawn), .sh (D.int law_what), .sh (D.int law_way), .sh (D.int law_rule), .sh (D.int law_a''), .sh (D.int (-law_b)), .sh (D.int law_c), .sh (D.int law_d), .sh (D.int law_sign), .sh (D.int law_e), .sh (D.int law_length), .sh (D.int law_far), .un, .un] : En)) (Zcs (Zaf (i := 7) rfl) un_neg) Zas (Nat.le_of_ble_eq_true rfl) rfl (Zd4 rfl))
 (Zd4 rfl)
 fun law_b'' => (Zbx (f := (shE encS)) (fun law_name => ([.sh (D.int law_cell_here), .sh (D.int law_near), .ow ((encL D.int) law_drawn), .sh (D.int law_what), .sh (D.int law_way), .sh (D.int law_rule), .sh (D.int law_a''), .sh (D.int law_b''), .sh (D.int law_c), .sh (D.int law_d), .sh (D.int law_sign), .sh (D.int law_e), .sh (D.int law_length), .sh (D.int law_far), .sh (encS law_name), .un] : En)) (Zct (Zc8 (Zab Zal (Zab Zal (Zab Zal (Zab Zal (Zab Zal (Zab Zal (Zab Zal (Zab Zal Za0)))))))) rfl (Nat.le_of_ble_eq_true rfl)) (Zaf (i := 3) rfl) (Zhz (xs := [(tx "year"), (tx "enter"), (tx "strike"), (tx "rank"), (tx "shut"), (tx "anchor"), (tx "seal"), (tx "unseal")]) rfl)) (fun _ => Zas) (Nat.le_of_ble_eq_true rfl) (fun _ => rfl) fun law_name =>
 (b_if (Za1 (Zaf (i := 3) rfl) Zan (op_eq (x := law_what) (y := (1 : Int)) Zcq rfl rfl))
 (Zer (Zbx (f := (shE encS)) (fun law_sort => ([.sh (D.int law_cell_here), .sh (D.int law_near), .ow ((encL D.int) law_drawn), .sh (D.int law_what), .sh (D.int law_way), .sh (D.int law_rule), .sh (D.int law_a''), .sh (D.int law_b''), .sh (D.int law_c), .sh (D.int law_d), .sh (D.int law_sign), .sh (D.int law_e), .sh (D.int law_length), .sh (D.int law_far), .sh (encS law_name), .sh (encS law_sort)] : En)) (Zct (Zc8 (Zab Zal (Zab Zal (Zab Zal Za0))) rfl (Nat.le_of_ble_eq_true rfl)) (Zaf (i := 4) rfl) (Zhz (xs := [(tx "moves"), (tx "stays"), (tx "lapses")]) rfl)) (fun _ => Zas) (Nat.le_of_ble_eq_true rfl) (fun _ => rfl) fun law_sort =>
 (Zff (f := (shE (encV Zaz))) (t := fun r3 => r3) (Zyw (f := shE (encV Zaz)) (Zju (Zaf (i := 14) rfl) (Zju (Zaf (i := 6) rfl) (Zju (Zaf (i := 9) rfl) (Zju (Zaf (i := 15) rfl) (Zjo (Zou (f := encS) (g := D.int) (Zct (Zc8 (Zab Zal (Zab Zal Za0)) rfl (Nat.le_of_ble_eq_true rfl)) (Zaf (i := 5) rfl) (Zhz (xs := [(tx "fixed"), (tx "anchor")]) rfl))) fun t2 => (Zju (Zaf (i := 7) rfl) (Zju (Zaf (i := 8) rfl) (Zju (Zaf (i := 11) rfl) (Zdz ⟨([(Sum.inl law_name : SI), (Sum.inr law_a'' : SI), (Sum.inr law_d : SI), (Sum.inl law_sort : SI), t2, (Sum.inr law_b'' : SI), (Sum.inr law_c : SI), (Sum.inr law_e : SI)] : List (Tx ⊕ Int)), _, rfl, Nat.le_of_ble_eq_true rfl, rfl, rfl⟩)))))))))) fun _ => rfl)))
 (Zbo (b_if (Za1 (Zaf (i := 3) rfl) (Zh8 (Zab Zan (Zab Zan (Zab Zan Za0))) rfl (Nat.le_of_ble_eq_true rfl)) (Zwi (x := law_what) (xs := [T3.x1 (T3.mk (2 : Int) (6 : Int) (7 : Int)), T3.x2 (T3.mk (2 : Int) (6 : Int) (7 : Int)), T3.x3 (T3.mk (2 : Int) (6 : Int) (7 : Int))]) Zcq (fun _ => rfl) rfl))
 (Zen (Zh8 (Zab (Zaf (i := 14) rfl) (Zab (Zaf (i := 6) rfl) Za0)) rfl (Nat.le_of_ble_eq_true rfl)) rfl)
 (Zbo (b_if (Za1 (Zaf (i := 3) rfl) Zan (op_eq (x := law_what) (y := (4 : Int)) Zcq rfl rfl))
 (Zen (Zh8 (Zab (Zaf (i := 14) rfl) (Zab (Zaf (i := 6) rfl) (Zab (Zaf (i := 7) rfl) (Zab (Zaf (i := 9) rfl) Za0)))) rfl (Nat.le_of_ble_eq_true rfl)) rfl)
 (Zbo (Zot (Zh8 (Zab (Zaf (i := 14) rfl) (Zab (Zaf (i := 7) rfl) (Zab (Zaf (i := 6) rfl) Za0))) rfl (Nat.le_of_ble_eq_true rfl)) rfl))))))))))))))))
noncomputable def Zc9 : WS :=
 (wSeq (wIf (wOr (wNot (wUn (oIsi "tuple") (wVar 0))) (wOp (oEq false) (wUn oLen (wVar 0)) (wInt 0)))
 (wRet (wBl false))
 Zbd)
 (wSeq (wFor (gN 1) (Zrq (wVar 0))
 (wSeq (wIf (wAnd (wNot (wUn (oIsi "str") (wVar 1))) (wNot (Zcx Zeb (Zak (wVar 1) aNil))))
 (wRet (wBl false))
 Zbd)
 (wFgt 1 Zbd)))
 (wRet (wBl true))))
theorem Zf3 : Zbi Zc9 := (Zae (m_if (Zfd (Zfb (Zaq (Zag 0) Zg9)) (Zah (Zaq (Zag 0) Zbv) Zap Zav)) (Zb2 m_bl) Zax) (Zae (Zos Za2 (Zww (Zag 0)) (Zae (m_if (Zda (Zfb (Zaq (Zag 1) Zg9)) (Zfb (Zbp Zne (Zaa (Zag 1) Zau)))) (Zb2 m_bl) Zax) (Zko Zax))) (Zb2 m_bl)))
@[irreducible] noncomputable def Zco : G := gOf 2 Zc9
theorem Zec : Zco = gOf 2 Zc9 := by with_unfolding_all rfl
theorem Zj1 : Ze5 Zco := Zec ▸ Zbk Zf3
noncomputable def Ze4 (law_part : (Tx ⊕ Int)) : P Bool :=
  (cond (!(altE (fun _ => true) (fun _ => false) law_part)) (bd (bd (ofO (asI law_part)) fun t2 => Zc6 t2) fun b => .ok (!b)) (.ok false))
noncomputable def Zcg (s1 : Unit) (law_part : (Tx ⊕ Int)) : P (Out (Unit) Bool) :=
  (bd (Ze4 law_part) fun c => cond c
  (.ok (Out.ret false))
  (.ok (.nx ())))
noncomputable def Zb0 (law_found : SOq) : P Bool :=
  (cond ((!true) || (decide ((law_found.length : Int) = (0 : Int))))
  (.ok false)
  (aft (Zdg (ρ := Bool) Zcg law_found ()) (fun (r4 : Bool) => .ok r4) fun (s3 : Unit) =>
  (.ok true)))
theorem Zhc (law_found : SOq) : Sim Zco [.sh ((encV Zaz) law_found)] blE (Zb0 law_found) :=
 Zdl Zec (env := ([.sh ((encV Zaz) law_found), .un] : En)) rfl (fun _ => Zas) (by
  unfold Zb0 Zc9
  exact (b_if (Zwt (Zo4 (Zcs (Zaf (i := 0) rfl) (Zn8 (b := true) rfl rfl))) (Za1 (Zcs (Zaf (i := 0) rfl) (Zyt (xs := law_found) rfl)) Zan (op_eq (x := (law_found.length : Int)) (y := (0 : Int)) Zcq rfl rfl)))
 (Zen Zh1 rfl)
 (Zbo (Z0u (f := Zaz) (xs := law_found) (s0 := ()) (fun (s1 : Unit) => ([.sh ((encV Zaz) law_found), .un] : En)) blE (Zy9 (Zaf (i := 0) rfl)) rfl
 (fun s1 law_part => (Zlq (e := ([.sh ((encV Zaz) law_found), .sh (Zaz law_part)] : En)) Zas (Nat.le_of_ble_eq_true rfl) rfl (Zjg (Zo5 (Zo4 (Zcs (Zaf (i := 1) rfl) (Zvm (bs := true) (bi := false) rfl (fun _ => rfl) (fun _ => rfl)))) (Ztt (Zdx (fun _ => Zas) (Zjo (Zym (Zaf (i := 1) rfl)) fun t2 => (Zdz (Zjn t2))))))
 (Zen Zh1 rfl)
 (Zbo (Zeg (env' := ([.sh ((encV Zaz) law_found), .un] : En)) rfl (Zd4 rfl))))))
 (fun _ => ⟨_, rfl, rfl⟩)
 fun s3 => (Zot Zh1 rfl)))))
noncomputable def Zfq : WS :=
 (wSeq (wAsg (gN 0) (wStr (PySem.Str.ofString " !\"#$&'()*+,-./0123456789:;<=>?@ABCDEFGHIJKLMNOPQRSTUVWXYZ[\\]^_`")))
 (wRet (wOp Zh9 (wVar 0) (wStr (PySem.Str.ofString "abcdefghijklmnopqrstuvwxyz{|}~")))))
theorem Zil : Zbi Zfq := (Zae (Zao Za2 Za4) (Zb2 (Zah (Zag 0) Za4 Zci)))
@[irreducible] noncomputable def Zdv : G := gOf 1 Zfq
theorem Zgc : Zdv = gOf 1 Zfq := by with_unfolding_all rfl
theorem Zn1 : Ze5 Zdv := Zgc ▸ Zbk Zil
noncomputable def Zds  : P Tx :=
  (Zfw (tx " !\"#$&'()*+,-./0123456789:;<=>?@ABCDEFGHIJKLMNOPQRSTUVWXYZ[\\]^_`") fun (law_some : Tx) =>
  (bd (ofO (catT law_some (tx "abcdefghijklmnopqrstuvwxyz{|}~"))) fun r1 => .ok r1))
theorem Zjt  : Sim Zdv [] (shE encS) (Zds ) :=
 Zdl Zgc (env := ([.un] : En)) rfl (fun _ => Zas) (by
  unfold Zds Zfq
  exact (Zo6 (shE encS) (fun law_some => ([.sh (encS law_some)] : En)) Zal (fun _ => Zas) (Nat.le_of_ble_eq_true rfl) (fun _ => rfl) fun law_some =>
 (Zjl (f := (shE encS)) (t := fun r1 => r1) (Zct (Zaf (i := 0) rfl) Zal Zgg) fun _ => rfl)))
noncomputable def Zdn : WS :=
 (wSeq (wAsg (gT [2, 3, 4, 5, 6]) (Zcx Zcb (Zak (wVar 1) (Zak (wLst (Zak (wInt 7) (Zak (wInt 61) (Zak (wInt 94) (Zak (wInt 11) (Zak (wInt 20) aNil)))))) aNil))))
 (wSeq (wAsg (gN 7) (Zcx Zdv aNil))
 (wSeq (wAsg (gN 8) (Zlc (wVar 0) (PySem.Str.ofString " ")))
 (wSeq (wAsg (gN 9) (wOp oMod (wVar 3) (wOp oAdd (wUn oLen (wVar 0)) (wInt 1))))
 (wSeq (wIf (wOp (oEq false) (wVar 2) (wInt 0))
 (wRet (wOp Zh9 (wOp Zh9 (Zb7 (wVar 0) wNoP (Zet (wVar 9))) (wOp oIx (wVar 7) (wVar 4))) (Zb7 (wVar 0) (Zet (wVar 9)) wNoP)))
 Zbd)
 (wSeq (wIf (wOp (oEq false) (wVar 2) (wInt 1))
 (wRet (wOp Zh9 (Zb7 (wVar 0) wNoP (Zet (wVar 9))) (Zb7 (wVar 0) (Zet (wOp oAdd (wVar 9) (wInt 1))) wNoP)))
 Zbd)
 (wSeq (wIf (wOp (oEq false) (wVar 2) (wInt 2))
 (wRet (wOp Zh9 (wOp Zh9 (Zb7 (wVar 0) wNoP (Zet (wVar 9))) (wOp oIx (wVar 7) (wVar 4))) (Zb7 (wVar 0) (Zet (wOp oAdd (wVar 9) (wInt 1))) wNoP)))
 Zbd)
 (wSeq (wAsg (gN 10) (wOp oMod (wVar 3) (wUn oLen (wVar 8))))
 (wSeq (wAsg (gN 11) (wOp oMod (wVar 5) (wUn oLen (wVar 8))))
 (wSeq (wIf (wOp (oEq false) (wVar 2) (wInt 3))
 (wRet (Znf (PySem.Str.ofString " ") (wOp oCat (Zb7 (wVar 8) wNoP (Zet (wVar 10))) (Zb7 (wVar 8) (Zet (wOp oAdd (wVar 10) (wInt 1))) wNoP))))
 Zbd)
 (wSeq (wIf (wOp (oEq false) (wVar 2) (wInt 4))
 (wRet (Znf (PySem.Str.ofString " ") (wOp oCat (wOp oCat (Zb7 (wVar 8) wNoP (Zet (wVar 10))) (wLst (Zak (wOp oIx (wVar 8) (wVar 10)) aNil))) (Zb7 (wVar 8) (Zet (wVar 10)) wNoP))))
 Zbd)
 (wSeq (wIf (wOp (oEq false) (wVar 2) (wInt 5))
 (wSeq (wAsg (gN 12) (wOp oIx (wVar 8) (wVar 10)))
 (wSeq (wSet 8 (wVar 10) (wOp oIx (wVar 8) (wVar 11)))
 (wSeq (wSet 8 (wVar 11) (wVar 12))
 (wFrz 8 (wRet (Znf (PySem.Str.ofString " ") (wVar 8)))))))
 Zbd)
 (wSeq (wAsg (gN 13) (wLst (Zak (wStr (PySem.Str.ofString "")) (Zak (wStr (PySem.Str.ofString "-")) (Zak (wStr (PySem.Str.ofString "-0")) (Zak (wStr (PySem.Str.ofString "0")) (Zak (wStr (PySem.Str.ofString "00")) (Zak (wStr (PySem.Str.ofString "01")) (Zak (wStr (PySem.Str.ofString "-01")) (Zak (wStr (PySem.Str.ofString "+1")) (Zak (wStr (PySem.Str.ofString "1-")) (Zak (wStr (PySem.Str.ofString "--1")) (Zak (wStr (PySem.Str.ofString "1000000000000")) (Zak (wStr (PySem.Str.ofString "999999999999")) aNil))))))))))))))
 (wSeq (wAsg (gN 13) (wOp oCat (wVar 13) (wLst (Zak (wStr (PySem.Str.ofString "-999999999999")) (Zak (wStr (PySem.Str.ofString "moves")) (Zak (wStr (PySem.Str.ofString "stays")) (Zak (wStr (PySem.Str.ofString "fixed")) (Zak (wStr (PySem.Str.ofString "anchor")) (Zak (wStr (PySem.Str.ofString "seal")) (Zak (wStr (PySem.Str.ofString "strike")) (Zak (wStr (PySem.Str.ofString "Moves")) aNil)))))))))))
 (wSeq (wSet 8 (wVar 10) (wOp oIx (wVar 13) (wVar 6)))
 (wFrz 8 (wRet (Znf (PySem.Str.ofString " ") (wVar 8)))))))))))))))))))
theorem Zgq : Zbi Zdn := (Zae (Zao Zrv (Zbp Zfr (Zaa (Zag 1) (Zaa (Zef (Zaa Zap (Zaa Zap (Zaa Zap (Zaa Zap (Zaa Zap Zau)))))) Zau)))) (Zae (Zao Za2 (Zbp Zn1 Zau)) (Zae (Zao Za2 (Zln (Zag 0))) (Zae (Zao Za2 (Zah (Zag 3) (Zah (Zaq (Zag 0) Zbv) Zap Zbb) Zbg)) (Zae (m_if (Zah (Zag 2) Zap Zav) (Zb2 (Zah (Zah (Zb5 (Zag 0) Zfv (Zc3 (Zag 9))) (Zah (Zag 7) (Zag 4) Zcp) Zci) (Zb5 (Zag 0) (Zc3 (Zag 9)) Zfv) Zci)) Zax) (Zae (m_if (Zah (Zag 2) Zap Zav) (Zb2 (Zah (Zb5 (Zag 0) Zfv (Zc3 (Zag 9))) (Zb5 (Zag 0) (Zc3 (Zah (Zag 9) Zap Zbb)) Zfv) Zci)) Zax) (Zae (m_if (Zah (Zag 2) Zap Zav) (Zb2 (Zah (Zah (Zb5 (Zag 0) Zfv (Zc3 (Zag 9))) (Zah (Zag 7) (Zag 4) Zcp) Zci) (Zb5 (Zag 0) (Zc3 (Zah (Zag 9) Zap Zbb)) Zfv) Zci)) Zax) (Zae (Zao Za2 (Zah (Zag 3) (Zaq (Zag 8) Zbv) Zbg)) (Zae (Zao Za2 (Zah (Zag 5) (Zaq (Zag 8) Zbv) Zbg)) (Zae (m_if (Zah (Zag 2) Zap Zav) (Zb2 (Znk (Zah (Zb5 (Zag 8) Zfv (Zc3 (Zag 10))) (Zb5 (Zag 8) (Zc3 (Zah (Zag 10) Zap Zbb)) Zfv) Zf1))) Zax) (Zae (m_if (Zah (Zag 2) Zap Zav) (Zb2 (Znk (Zah (Zah (Zb5 (Zag 8) Zfv (Zc3 (Zag 10))) (Zef (Zaa (Zah (Zag 8) (Zag 10) Zcp) Zau)) Zf1) (Zb5 (Zag 8) (Zc3 (Zag 10)) Zfv) Zf1))) Zax) (Zae (m_if (Zah (Zag 2) Zap Zav) (Zae (Zao Za2 (Zah (Zag 8) (Zag 10) Zcp)) (Zae (Zy5 (Zag 10) (Zah (Zag 8) (Zag 11) Zcp)) (Zae (Zy5 (Zag 11) (Zag 12)) (Zz8 (Zb2 (Znk (Zag 8))))))) Zax) (Zae (Zao Za2 (Zef (Zaa Za4 (Zaa Za4 (Zaa Za4 (Zaa Za4 (Zaa Za4 (Zaa Za4 (Zaa Za4 (Zaa Za4 (Zaa Za4 (Zaa Za4 (Zaa Za4 (Zaa Za4 Zau)))))))))))))) (Zae (Zao Za2 (Zah (Zag 13) (Zef (Zaa Za4 (Zaa Za4 (Zaa Za4 (Zaa Za4 (Zaa Za4 (Zaa Za4 (Zaa Za4 (Zaa Za4 Zau))))))))) Zf1)) (Zae (Zy5 (Zag 10) (Zah (Zag 13) (Zag 6) Zcp)) (Zz8 (Zb2 (Znk (Zag 8)))))))))))))))))))
@[irreducible] noncomputable def Zcd : G := gOf 14 Zdn
theorem Zeq : Zcd = gOf 14 Zdn := by with_unfolding_all rfl
theorem Zgw : Ze5 Zcd := Zeq ▸ Zbk Zgq
noncomputable def Zcj (law_text : Tx) (law_cell_here : Int) : P Tx :=
  (bd (Zca law_cell_here ([(7 : Int), (61 : Int), (94 : Int), (11 : Int), (20 : Int)])) fun (t38 : (List Int)) => un5 t38 fun law_what law_place law_sign law_other law_word =>
  (bd (Zds ) fun (law_signs_here : Tx) =>
  (bd (ofO (Zio law_text (PySem.Str.ofString " "))) fun (law_parts : (List Tx)) =>
  (bd (bd (bd (ofO (lenT law_text)) fun t1 => .ok (t1 + (1 : Int))) fun t2 => ofO (modO law_place t2)) fun (law_at : Int) =>
  (cond (decide (law_what = (0 : Int)))
  (bd (bd (bd (ofO (cutT law_text none (some law_at))) fun t7 => bd (ofO (Zrg law_signs_here law_sign)) fun t8 => ofO (catT t7 t8)) fun t9 => bd (ofO (cutT law_text (some law_at) none)) fun t10 => ofO (catT t9 t10)) fun r11 => .ok r11)
  (cond (decide (law_what = (1 : Int)))
  (bd (bd (ofO (cutT law_text none (some law_at))) fun t14 => bd (ofO (cutT law_text (some (law_at + (1 : Int))) none)) fun t15 => ofO (catT t14 t15)) fun r16 => .ok r16)
  (cond (decide (law_what = (2 : Int)))
  (bd (bd (bd (ofO (cutT law_text none (some law_at))) fun t21 => bd (ofO (Zrg law_signs_here law_sign)) fun t22 => ofO (catT t21 t22)) fun t23 => bd (ofO (cutT law_text (some (law_at + (1 : Int))) none)) fun t24 => ofO (catT t23 t24)) fun r25 => .ok r25)
  (bd (ofO (modO law_place (law_parts.length : Int))) fun (law_one : Int) =>
  (bd (ofO (modO law_other (law_parts.length : Int))) fun (law_two : Int) =>
  (cond (decide (law_what = (3 : Int)))
  (bd (bd (ofO (if (cutD law_parts none (some law_one)).length + (cutD law_parts (some (law_one + (1 : Int))) none).length ≤ 16777216 then some ((cutD law_parts none (some law_one)) ++ (cutD law_parts (some (law_one + (1 : Int))) none)) else none)) fun ts => ofO (Zj3 (PySem.Str.ofString " ") ts)) fun r26 => .ok r26)
  (cond (decide (law_what = (4 : Int)))
  (bd (bd (bd (bd (bd (ofO (atI law_parts law_one)) fun t30 => .ok [t30]) fun t31 => ofO (if (cutD law_parts none (some law_one)).length + t31.length ≤ 16777216 then some ((cutD law_parts none (some law_one)) ++ t31) else none)) fun t32 => ofO (if t32.length + (cutD law_parts (some law_one) none).length ≤ 16777216 then some (t32 ++ (cutD law_parts (some law_one) none)) else none)) fun ts => ofO (Zj3 (PySem.Str.ofString " ") ts)) fun r33 => .ok r33)
  (cond (decide (law_what = (5 : Int)))
  (bd (ofO (atI law_parts law_one)) fun (law_kept : Tx) =>
  (bd (ofO (atI law_parts law_two)) fun t35 => (bd (ofO (Zm7 law_parts law_one t35)) fun (law_parts' : (List Tx)) =>
  (bd (ofO (Zm7 law_parts' law_two law_kept)) fun (law_parts'' : (List Tx)) =>
  (bd (ofO (Zj3 (PySem.Str.ofString " ") law_parts'')) fun r34 => .ok r34)))))
  (Zfw ([(tx ""), (tx "-"), (tx "-0"), (tx "0"), (tx "00"), (tx "01"), (tx "-01"), (tx "+1"), (tx "1-"), (tx "--1"), (tx "1000000000000"), (tx "999999999999")]) fun (law_some : (List Tx)) =>
  (bd (ofO (if law_some.length + ([(tx "-999999999999"), (tx "moves"), (tx "stays"), (tx "fixed"), (tx "anchor"), (tx "seal"), (tx "strike"), (tx "Moves")]).length ≤ 16777216 then some (law_some ++ ([(tx "-999999999999"), (tx "moves"), (tx "stays"), (tx "fixed"), (tx "anchor"), (tx "seal"), (tx "strike"), (tx "Moves")])) else none)) fun (law_some' : (List Tx)) =>
  (bd (ofO (atI law_some' law_word)) fun t37 => (bd (ofO (Zm7 law_parts law_one t37)) fun (law_parts''' : (List Tx)) =>
  (bd (ofO (Zj3 (PySem.Str.ofString " ") law_parts''')) fun r36 => .ok r36)))))))))))))))))
theorem Zeh (law_text : Tx) (law_cell_here : Int) : Sim Zcd [.sh (encS law_text), .sh (D.int law_cell_here)] (shE encS) (Zcj law_text law_cell_here) :=
 Zdl Zeq (env := ([.sh (encS law_text), .sh (D.int law_cell_here), .un, .un, .un, .un, .un, .un, .un, .un, .un, .un, .un, .un] : En)) rfl (fun _ => Zas) (by
  unfold Zcj Zdn
  exact (Zyf (Zbu (Zab (Zaf (i := 1) rfl) (Zab (Zc8 (Zab Zan (Zab Zan (Zab Zan (Zab Zan (Zab Zan Za0))))) rfl (Nat.le_of_ble_eq_true rfl)) Za0)) (Zc5 law_cell_here ([(7 : Int), (61 : Int), (94 : Int), (11 : Int), (20 : Int)])) (fun _ => Zc4)) fun t38 => Zw5 (xs := t38) (fun law_what law_place law_sign law_other law_word => ([.sh (encS law_text), .sh (D.int law_cell_here), .sh (D.int law_what), .sh (D.int law_place), .sh (D.int law_sign), .sh (D.int law_other), .sh (D.int law_word), .un, .un, .un, .un, .un, .un, .un] : En)) rfl (fun _ _ _ _ _ => rfl) fun law_what law_place law_sign law_other law_word =>
 (Zbx (f := (shE encS)) (fun law_signs_here => ([.sh (encS law_text), .sh (D.int law_cell_here), .sh (D.int law_what), .sh (D.int law_place), .sh (D.int law_sign), .sh (D.int law_other), .sh (D.int law_word), .sh (encS law_signs_here), .un, .un, .un, .un, .un, .un] : En)) (Zbu Za0 (Zjt ) (fun _ => Zas)) (fun _ => Zas) (Nat.le_of_ble_eq_true rfl) (fun _ => rfl) fun law_signs_here =>
 (Zbx (f := (owE (encL encS))) (fun law_parts => ([.sh (encS law_text), .sh (D.int law_cell_here), .sh (D.int law_what), .sh (D.int law_place), .sh (D.int law_sign), .sh (D.int law_other), .sh (D.int law_word), .sh (encS law_signs_here), .ow ((encL encS) law_parts), .un, .un, .un, .un, .un] : En)) (Zjj (Zaf (i := 0) rfl)) (fun _ => Zc4) (Nat.le_of_ble_eq_true rfl) (fun _ => rfl) fun law_parts =>
 (Zbx (f := (shE D.int)) (fun law_at => ([.sh (encS law_text), .sh (D.int law_cell_here), .sh (D.int law_what), .sh (D.int law_place), .sh (D.int law_sign), .sh (D.int law_other), .sh (D.int law_word), .sh (encS law_signs_here), .ow ((encL encS) law_parts), .sh (D.int law_at), .un, .un, .un, .un] : En)) (Zlk (Zaf (i := 3) rfl) (Zb9 (f := (shE D.int)) (mm := fun t1 => (t1 + (1 : Int))) (Zde (Zaf (i := 0) rfl) (Zie rfl)) Zan fun t1 => op_add) fun t2 => Zl7) (fun _ => Zas) (Nat.le_of_ble_eq_true rfl) (fun _ => rfl) fun law_at =>
 (b_if (Za1 (Zaf (i := 2) rfl) Zan (op_eq (x := law_what) (y := (0 : Int)) Zcq rfl rfl))
 (Zff (f := (shE encS)) (t := fun r11 => r11) (Zdq (Zdq (Zch (Zaf (i := 0) rfl) Zbm (Zbn (Zaf (i := 9) rfl))) (Zct (Zaf (i := 7) rfl) (Zaf (i := 4) rfl) Ztm) fun t7 t8 => Zgg) (Zch (Zaf (i := 0) rfl) (Zbn (Zaf (i := 9) rfl)) Zbm) fun t9 t10 => Zgg) fun _ => rfl)
 (Zbo (b_if (Za1 (Zaf (i := 2) rfl) Zan (op_eq (x := law_what) (y := (1 : Int)) Zcq rfl rfl))
 (Zff (f := (shE encS)) (t := fun r16 => r16) (Zdq (Zch (Zaf (i := 0) rfl) Zbm (Zbn (Zaf (i := 9) rfl))) (Zch (Zaf (i := 0) rfl) (Zbn (Za1 (Zaf (i := 9) rfl) Zan op_add)) Zbm) fun t14 t15 => Zgg) fun _ => rfl)
 (Zbo (b_if (Za1 (Zaf (i := 2) rfl) Zan (op_eq (x := law_what) (y := (2 : Int)) Zcq rfl rfl))
 (Zff (f := (shE encS)) (t := fun r25 => r25) (Zdq (Zdq (Zch (Zaf (i := 0) rfl) Zbm (Zbn (Zaf (i := 9) rfl))) (Zct (Zaf (i := 7) rfl) (Zaf (i := 4) rfl) Ztm) fun t21 t22 => Zgg) (Zch (Zaf (i := 0) rfl) (Zbn (Za1 (Zaf (i := 9) rfl) Zan op_add)) Zbm) fun t23 t24 => Zgg) fun _ => rfl)
 (Zbo (Zbx (f := (shE D.int)) (fun law_one => ([.sh (encS law_text), .sh (D.int law_cell_here), .sh (D.int law_what), .sh (D.int law_place), .sh (D.int law_sign), .sh (D.int law_other), .sh (D.int law_word), .sh (encS law_signs_here), .ow ((encL encS) law_parts), .sh (D.int law_at), .sh (D.int law_one), .un, .un, .un] : En)) (Zct (Zaf (i := 3) rfl) (Zcs (Zbt (i := 8) rfl) (Zn4 (xs := law_parts) rfl)) Zl7) (fun _ => Zas) (Nat.le_of_ble_eq_true rfl) (fun _ => rfl) fun law_one =>
 (Zbx (f := (shE D.int)) (fun law_two => ([.sh (encS law_text), .sh (D.int law_cell_here), .sh (D.int law_what), .sh (D.int law_place), .sh (D.int law_sign), .sh (D.int law_other), .sh (D.int law_word), .sh (encS law_signs_here), .ow ((encL encS) law_parts), .sh (D.int law_at), .sh (D.int law_one), .sh (D.int law_two), .un, .un] : En)) (Zct (Zaf (i := 5) rfl) (Zcs (Zbt (i := 8) rfl) (Zn4 (xs := law_parts) rfl)) Zl7) (fun _ => Zas) (Nat.le_of_ble_eq_true rfl) (fun _ => rfl) fun law_two =>
 (b_if (Za1 (Zaf (i := 2) rfl) Zan (op_eq (x := law_what) (y := (3 : Int)) Zcq rfl rfl))
 (Zff (f := (shE encS)) (t := fun r26 => r26) (Znd (Zct (Zdd (xs := law_parts) (Zbt (i := 8) rfl) Zbm (Zbn (Zaf (i := 10) rfl)) rfl) (Zdd (xs := law_parts) (Zbt (i := 8) rfl) (Zbn (Za1 (Zaf (i := 10) rfl) Zan op_add)) Zbm rfl) (Zqx (xs := (cutD law_parts none (some law_one))) (ys := (cutD law_parts (some (law_one + (1 : Int))) none)) rfl rfl)) fun _ => rfl) fun _ => rfl)
 (Zbo (b_if (Za1 (Zaf (i := 2) rfl) Zan (op_eq (x := law_what) (y := (4 : Int)) Zcq rfl rfl))
 (Zff (f := (shE encS)) (t := fun r33 => r33) (Znd (Zsa (Zlk (Zdd (xs := law_parts) (Zbt (i := 8) rfl) Zbm (Zbn (Zaf (i := 10) rfl)) rfl) (Zop (f := owE (encL encS)) (Zjo (Zct (Zbt (i := 8) rfl) (Zaf (i := 10) rfl) (Zhz (xs := law_parts) rfl)) fun t30 => (Zdz ⟨[t30], _, rfl, Nat.le_of_ble_eq_true rfl, rfl, rfl⟩))) fun t31 => (Zqx (xs := (cutD law_parts none (some law_one))) (ys := t31) rfl rfl)) (Zdd (xs := law_parts) (Zbt (i := 8) rfl) (Zbn (Zaf (i := 10) rfl)) Zbm rfl) fun t32 => (Zqx (xs := t32) (ys := (cutD law_parts (some law_one) none)) rfl rfl)) fun _ => rfl) fun _ => rfl)
 (Zbo (b_if (Za1 (Zaf (i := 2) rfl) Zan (op_eq (x := law_what) (y := (5 : Int)) Zcq rfl rfl))
 (Zer (Zbx (f := (shE encS)) (fun law_kept => ([.sh (encS law_text), .sh (D.int law_cell_here), .sh (D.int law_what), .sh (D.int law_place), .sh (D.int law_sign), .sh (D.int law_other), .sh (D.int law_word), .sh (encS law_signs_here), .ow ((encL encS) law_parts), .sh (D.int law_at), .sh (D.int law_one), .sh (D.int law_two), .sh (encS law_kept), .un] : En)) (Zct (Zbt (i := 8) rfl) (Zaf (i := 10) rfl) (Zhz (xs := law_parts) rfl)) (fun _ => Zas) (Nat.le_of_ble_eq_true rfl) (fun _ => rfl) fun law_kept =>
 (Zer (Zs1 (c := (encL encS) law_parts) (f := encS) rfl (Zct (Zbt (i := 8) rfl) (Zaf (i := 11) rfl) (Zhz (xs := law_parts) rfl)) (fun _ => rfl) (Zaf (i := 10) rfl) fun t35 => (setL (fun law_parts' => ([.sh (encS law_text), .sh (D.int law_cell_here), .sh (D.int law_what), .sh (D.int law_place), .sh (D.int law_sign), .sh (D.int law_other), .sh (D.int law_word), .sh (encS law_signs_here), .ow ((encL encS) law_parts'), .sh (D.int law_at), .sh (D.int law_one), .sh (D.int law_two), .sh (encS law_kept), .un] : En)) (fun _ => rfl) fun law_parts' =>
 (Zer (Z0s (c := (encL encS) law_parts') rfl (Zaf (i := 12) rfl) rfl (Zaf (i := 11) rfl) (setL (fun law_parts'' => ([.sh (encS law_text), .sh (D.int law_cell_here), .sh (D.int law_what), .sh (D.int law_place), .sh (D.int law_sign), .sh (D.int law_other), .sh (D.int law_word), .sh (encS law_signs_here), .ow ((encL encS) law_parts''), .sh (D.int law_at), .sh (D.int law_one), .sh (D.int law_two), .sh (encS law_kept), .un] : En)) (fun _ => rfl) fun law_parts'' =>
 (Z1j (env' := ([.sh (encS law_text), .sh (D.int law_cell_here), .sh (D.int law_what), .sh (D.int law_place), .sh (D.int law_sign), .sh (D.int law_other), .sh (D.int law_word), .sh (encS law_signs_here), .sh ((encL encS) law_parts''), .sh (D.int law_at), .sh (D.int law_one), .sh (D.int law_two), .sh (encS law_kept), .un] : En)) rfl rfl (Zff (f := (shE encS)) (t := fun r34 => r34) (Zqm (ts := law_parts'') (Zaf (i := 8) rfl) rfl) fun _ => rfl))))))))))
 (Zbo (Zo6 (owE (encL encS)) (fun law_some => ([.sh (encS law_text), .sh (D.int law_cell_here), .sh (D.int law_what), .sh (D.int law_place), .sh (D.int law_sign), .sh (D.int law_other), .sh (D.int law_word), .sh (encS law_signs_here), .ow ((encL encS) law_parts), .sh (D.int law_at), .sh (D.int law_one), .sh (D.int law_two), .un, .ow ((encL encS) law_some)] : En)) (Zc8 (Zab Zal (Zab Zal (Zab Zal (Zab Zal (Zab Zal (Zab Zal (Zab Zal (Zab Zal (Zab Zal (Zab Zal (Zab Zal (Zab Zal Za0)))))))))))) rfl (Nat.le_of_ble_eq_true rfl)) (fun _ => Zc4) (Nat.le_of_ble_eq_true rfl) (fun _ => rfl) fun law_some =>
 (Zbx (f := (owE (encL encS))) (fun law_some' => ([.sh (encS law_text), .sh (D.int law_cell_here), .sh (D.int law_what), .sh (D.int law_place), .sh (D.int law_sign), .sh (D.int law_other), .sh (D.int law_word), .sh (encS law_signs_here), .ow ((encL encS) law_parts), .sh (D.int law_at), .sh (D.int law_one), .sh (D.int law_two), .un, .ow ((encL encS) law_some')] : En)) (Zct (Zbt (i := 13) rfl) (Zc8 (Zab Zal (Zab Zal (Zab Zal (Zab Zal (Zab Zal (Zab Zal (Zab Zal (Zab Zal Za0)))))))) rfl (Nat.le_of_ble_eq_true rfl)) (Zqx (xs := law_some) (ys := ([(tx "-999999999999"), (tx "moves"), (tx "stays"), (tx "fixed"), (tx "anchor"), (tx "seal"), (tx "strike"), (tx "Moves")])) rfl rfl)) (fun _ => Zc4) (Nat.le_of_ble_eq_true rfl) (fun _ => rfl) fun law_some' =>
 (Zs1 (c := (encL encS) law_parts) (f := encS) rfl (Zct (Zbt (i := 13) rfl) (Zaf (i := 6) rfl) (Zhz (xs := law_some') rfl)) (fun _ => rfl) (Zaf (i := 10) rfl) fun t37 => (setL (fun law_parts''' => ([.sh (encS law_text), .sh (D.int law_cell_here), .sh (D.int law_what), .sh (D.int law_place), .sh (D.int law_sign), .sh (D.int law_other), .sh (D.int law_word), .sh (encS law_signs_here), .ow ((encL encS) law_parts'''), .sh (D.int law_at), .sh (D.int law_one), .sh (D.int law_two), .un, .ow ((encL encS) law_some')] : En)) (fun _ => rfl) fun law_parts''' =>
 (Z0b (env' := ([.sh (encS law_text), .sh (D.int law_cell_here), .sh (D.int law_what), .sh (D.int law_place), .sh (D.int law_sign), .sh (D.int law_other), .sh (D.int law_word), .sh (encS law_signs_here), .sh ((encL encS) law_parts'''), .sh (D.int law_at), .sh (D.int law_one), .sh (D.int law_two), .un, .ow ((encL encS) law_some')] : En)) rfl rfl (Zjl (f := (shE encS)) (t := fun r36 => r36) (Zqm (ts := law_parts''') (Zaf (i := 8) rfl) rfl) fun _ => rfl)))))))))))))))))))))))))
noncomputable def Zei : WS :=
 (wSeq (wAsg (gN 1) (wVar 0))
 (wSeq (wIf (wAnd (wOp (oEq true) (wVar 0) (wStr (PySem.Str.ofString ""))) (wOp (oEq false) (wUn (oIxN 0) (wVar 0)) (wStr (PySem.Str.ofString "-"))))
 (wSeq (wAsg (gN 1) (Zb7 (wVar 0) (Zet (wInt 1)) wNoP))
 Zbd)
 Zbd)
 (wSeq (wIf (wOr (wOp (oEq false) (wVar 1) (wStr (PySem.Str.ofString ""))) (wOr (wOp oGt (wUn oLen (wVar 1)) (wInt 12)) (wOp (oEq false) (wVar 0) (wStr (PySem.Str.ofString "-0")))))
 (wRet wNon)
 Zbd)
 (wSeq (wFor (gN 2) (Znj (wVar 1))
 (wSeq (wIf (wOp (oIn true) (wVar 2) (wStr (PySem.Str.ofString "0123456789")))
 (wRet wNon)
 Zbd)
 (wFgt 2 Zbd)))
 (wSeq (wIf (wAnd (wOp (oEq false) (wUn (oIxN 0) (wVar 1)) (wStr (PySem.Str.ofString "0"))) (wOp oGt (wUn oLen (wVar 1)) (wInt 1)))
 (wRet wNon)
 Zbd)
 (wRet (wUn oInt (wVar 0))))))))
theorem Zhy : Zbi Zei := (Zae (Zao Za2 (Zag 0)) (Zae (m_if (Zda (Zah (Zag 0) Za4 Zav) (Zah (Zaq (Zag 0) Zbz) Za4 Zav)) (Zae (Zao Za2 (Zb5 (Zag 0) (Zc3 Zap) Zfv)) Zax) Zax) (Zae (m_if (Zfd (Zah (Zag 1) Za4 Zav) (Zfd (Zah (Zaq (Zag 1) Zbv) Zap Zbb) (Zah (Zag 0) Za4 Zav))) (Zb2 Zlp) Zax) (Zae (Zos Za2 (Zo0 (Zag 1)) (Zae (m_if (Zah (Zag 2) Za4 Zfn) (Zb2 Zlp) Zax) (Zko Zax))) (Zae (m_if (Zda (Zah (Zaq (Zag 1) Zbz) Za4 Zav) (Zah (Zaq (Zag 1) Zbv) Zap Zbb)) (Zb2 Zlp) Zax) (Zb2 (Zaq (Zag 0) Zki)))))))
@[irreducible] noncomputable def Zcr : G := gOf 3 Zei
theorem Zfo : Zcr = gOf 3 Zei := by with_unfolding_all rfl
theorem Zhp : Ze5 Zcr := Zfo ▸ Zbk Zhy
noncomputable def Zcc (s3 : Unit) (law_sign : Tx) : P (Out (Unit) (Option Int)) :=
  (bd (ofO (inTx true law_sign (tx "0123456789"))) fun c => cond c
  (.ok (Out.ret none))
  (.ok (.nx ())))
noncomputable def Zgf (law_figures'' : Tx) : P Bool :=
  (bd (bd (ofO (chAt law_figures'' 0)) fun t5 => .ok (decide (t5 = (tx "0")))) fun c => cond c (bd (ofO (lenT law_figures'')) fun t6 => .ok (decide ((1 : Int) < t6))) (.ok false))
noncomputable def Zf8 (law_word : Tx) (law_figures'' : Tx) : P Bool :=
  (cond (decide (law_figures'' = (tx ""))) (.ok true) (bd (bd (ofO (lenT law_figures'')) fun t2 => .ok (decide ((12 : Int) < t2))) fun c => cond c (.ok true) (.ok (decide (law_word = (tx "-0"))))))
noncomputable def Zdw (law_word : Tx) : P (Tx) :=
  (bd (cond (!decide (law_word = (tx ""))) (bd (ofO (chAt law_word 0)) fun t1 => .ok (decide (t1 = (tx "-")))) (.ok false)) fun c => cond c (bd (ofO (cutT law_word (some (1 : Int)) none)) fun (law_figures' : Tx) =>
  (.ok law_figures')) (.ok law_word))
noncomputable def Zcw (law_word : Tx) : P (Option Int) :=
  (bd (Zdw law_word) fun (law_figures'' : Tx) =>
  (bd (Zf8 law_word law_figures'') fun c => cond c
  (.ok none)
  (bd (ofO (Zgh law_figures'')) fun l9 => aft (Zdg (ρ := (Option Int)) Zcc l9 ()) (fun (r8 : (Option Int)) => .ok r8) fun (s4 : Unit) =>
  (bd (Zgf law_figures'') fun c => cond c
  (.ok none)
  (bd (bd (ofO (intT law_word)) fun a => .ok (some a)) fun r7 => .ok r7)))))
theorem Zfu (law_word : Tx) : Sim Zcr [.sh (encS law_word)] (shE (encO D.int)) (Zcw law_word) :=
 Zdl Zfo (env := ([.sh (encS law_word), .un, .un] : En)) rfl (fun _ => Zas) (by
  unfold Zcw Zei
  exact (Zhi (s := .sh (encS law_word)) (env' := ([.sh (encS law_word), .sh (encS law_word), .un] : En)) (Zaf (i := 0) rfl) Zas (Nat.le_of_ble_eq_true rfl) rfl (Zuh (fun (law_figures'' : Tx) => ([.sh (encS law_word), .sh (encS law_figures''), .un] : En)) (Zo5 (Za1 (Zaf (i := 0) rfl) Zal (op_ne (x := law_word) (y := (tx "")) Zb8 rfl rfl)) (Zb9 (f := blE) (mm := fun t1 => (decide (t1 = (tx "-")))) (Zde (Zaf (i := 0) rfl) (Zr9 rfl)) Zal fun t1 => (op_eq (x := t1) (y := (tx "-")) Zb8 rfl rfl)))
 (Zbx (f := (shE encS)) (fun law_figures' => ([.sh (encS law_word), .sh (encS law_figures'), .un] : En)) (Zch (Zaf (i := 0) rfl) (Zbn Zan) Zbm) (fun _ => Zas) (Nat.le_of_ble_eq_true rfl) (fun _ => rfl) fun law_figures' =>
 (Zd4 rfl))
 (Zd4 rfl)
 fun law_figures'' => (Zjg (Zsr (Za1 (Zaf (i := 1) rfl) Zal (op_eq (x := law_figures'') (y := (tx "")) Zb8 rfl rfl)) (Zp7 (Zb9 (f := blE) (mm := fun t2 => (decide ((12 : Int) < t2))) (Zde (Zaf (i := 1) rfl) (Zie rfl)) Zan fun t2 => op_gt) (EvP.m (f := blE) (Za1 (Zaf (i := 0) rfl) Zal (op_eq (x := law_word) (y := (tx "-0")) Zb8 rfl rfl)))))
 (Zen Zfk rfl)
 (Zbo (Zpd (f := encS) (s0 := ()) (fun (s3 : Unit) => ([.sh (encS law_word), .sh (encS law_figures''), .un] : En)) (shE (encO D.int)) (Zk7 (Zaf (i := 1) rfl)) rfl
 (fun s3 law_sign => (Zlq (e := ([.sh (encS law_word), .sh (encS law_figures''), .sh (encS law_sign)] : En)) Zas (Nat.le_of_ble_eq_true rfl) rfl (Zjg (Zct (Zaf (i := 2) rfl) Zal Ztw)
 (Zen Zfk rfl)
 (Zbo (Zeg (env' := ([.sh (encS law_word), .sh (encS law_figures''), .un] : En)) rfl (Zd4 rfl))))))
 (fun _ => ⟨_, rfl, rfl⟩)
 fun s4 => (Zjg (Zm3 (Zb9 (f := blE) (mm := fun t5 => (decide (t5 = (tx "0")))) (Zde (Zaf (i := 1) rfl) (Zr9 rfl)) Zal fun t5 => (op_eq (x := t5) (y := (tx "0")) Zb8 rfl rfl)) (Zb9 (f := blE) (mm := fun t6 => (decide ((1 : Int) < t6))) (Zde (Zaf (i := 1) rfl) (Zie rfl)) Zan fun t6 => op_gt))
 (Zen Zfk rfl)
 (Zbo (Zjl (f := (shE (encO D.int))) (t := fun r7 => r7) (Zl3 (Zde (Zaf (i := 0) rfl) Zt2)) fun _ => rfl)))))))))
noncomputable def Zgn : WS :=
 (wSeq (wAsg (gN 1) (wLst (Zak (wStr (PySem.Str.ofString "year")) (Zak (wStr (PySem.Str.ofString "enter")) (Zak (wStr (PySem.Str.ofString "strike")) (Zak (wStr (PySem.Str.ofString "rank")) (Zak (wStr (PySem.Str.ofString "shut")) (Zak (wStr (PySem.Str.ofString "anchor")) (Zak (wStr (PySem.Str.ofString "seal")) (Zak (wStr (PySem.Str.ofString "unseal")) aNil))))))))))
 (wSeq (wAsg (gN 2) (wLst (Zak (wStr (PySem.Str.ofString "nn")) (Zak (wStr (PySem.Str.ofString "nnwrnnn")) (Zak (wStr (PySem.Str.ofString "n")) (Zak (wStr (PySem.Str.ofString "nn")) (Zak (wStr (PySem.Str.ofString "nnn")) (Zak (wStr (PySem.Str.ofString "nn")) (Zak (wStr (PySem.Str.ofString "n")) (Zak (wStr (PySem.Str.ofString "n")) aNil))))))))))
 (wSeq (wIf (wOp (oIn true) (wVar 0) (wVar 1))
 (wRet wNon)
 Zbd)
 (wRet (wOp oIx (wVar 2) (wIdx (wVar 1) (wVar 0)))))))
theorem Zj5 : Zbi Zgn := (Zae (Zao Za2 (Zef (Zaa Za4 (Zaa Za4 (Zaa Za4 (Zaa Za4 (Zaa Za4 (Zaa Za4 (Zaa Za4 (Zaa Za4 Zau)))))))))) (Zae (Zao Za2 (Zef (Zaa Za4 (Zaa Za4 (Zaa Za4 (Zaa Za4 (Zaa Za4 (Zaa Za4 (Zaa Za4 (Zaa Za4 Zau)))))))))) (Zae (m_if (Zah (Zag 0) (Zag 1) Zfn) (Zb2 Zlp) Zax) (Zb2 (Zah (Zag 2) (Z0m (Zag 1) (Zag 0)) Zcp)))))
@[irreducible] noncomputable def Ze9 : G := gOf 3 Zgn
theorem Zg0 : Ze9 = gOf 3 Zgn := by with_unfolding_all rfl
theorem Zoh : Ze5 Ze9 := Zg0 ▸ Zbk Zj5
noncomputable def Zez (law_name : Tx) : P (Option Tx) :=
  (Zfw ([(tx "year"), (tx "enter"), (tx "strike"), (tx "rank"), (tx "shut"), (tx "anchor"), (tx "seal"), (tx "unseal")]) fun (law_names : (List Tx)) =>
  (Zfw ([(tx "nn"), (tx "nnwrnnn"), (tx "n"), (tx "nn"), (tx "nnn"), (tx "nn"), (tx "n"), (tx "n")]) fun (law_forms : (List Tx)) =>
  (cond (true ^^ decide (law_name ∈ law_names))
  (.ok none)
  (bd (bd (bd (ofO (idxO law_names law_name)) fun t2 => ofO (atI law_forms t2)) fun a => .ok (some a)) fun r3 => .ok r3))))
theorem Zkr (law_name : Tx) : Sim Ze9 [.sh (encS law_name)] (shE (encO encS)) (Zez law_name) :=
 Zdl Zg0 (env := ([.sh (encS law_name), .un, .un] : En)) rfl (fun _ => Zas) (by
  unfold Zez Zgn
  exact (Zo6 (owE (encL encS)) (fun law_names => ([.sh (encS law_name), .ow ((encL encS) law_names), .un] : En)) (Zc8 (Zab Zal (Zab Zal (Zab Zal (Zab Zal (Zab Zal (Zab Zal (Zab Zal (Zab Zal Za0)))))))) rfl (Nat.le_of_ble_eq_true rfl)) (fun _ => Zc4) (Nat.le_of_ble_eq_true rfl) (fun _ => rfl) fun law_names =>
 (Zo6 (owE (encL encS)) (fun law_forms => ([.sh (encS law_name), .ow ((encL encS) law_names), .ow ((encL encS) law_forms)] : En)) (Zc8 (Zab Zal (Zab Zal (Zab Zal (Zab Zal (Zab Zal (Zab Zal (Zab Zal (Zab Zal Za0)))))))) rfl (Nat.le_of_ble_eq_true rfl)) (fun _ => Zc4) (Nat.le_of_ble_eq_true rfl) (fun _ => rfl) fun law_forms =>
 (b_if (Za1 (Zaf (i := 0) rfl) (Zbt (i := 1) rfl) (Zw1 (x := law_name) (xs := law_names) Zb8 rfl))
 (Zen Zfk rfl)
 (Zbo (Zjl (f := (shE (encO encS))) (t := fun r3 => r3) (Zl3 (Zlk (Zbt (i := 2) rfl) (Zsm (xs := law_names) (Zbt (i := 1) rfl) (Zaf (i := 0) rfl) rfl) fun t2 => (Zhz (xs := law_forms) rfl))) fun _ => rfl))))))
noncomputable def Zhe : WS :=
 (wSeq (wAsg (gN 1) (Zlc (wVar 0) (PySem.Str.ofString " ")))
 (wSeq (wAsg (gN 2) (Zcx Ze9 (Zak (wUn (oIxN 0) (wVar 1)) aNil)))
 (wSeq (wIf (wOr (wUn (oIsN false) (wVar 2)) (wOp (oEq true) (wUn oLen (wVar 1)) (wOp oAdd (wUn oLen (wVar 2)) (wInt 1))))
 (wRet wNon)
 Zbd)
 (wSeq (wAsg (gN 3) (wLst (Zak (wUn (oIxN 0) (wVar 1)) aNil)))
 (wSeq (wFor (gT [4, 5]) (Zrt (Zak (wVar 2) (Zak (Zb7 (wVar 1) (Zet (wInt 1)) wNoP) aNil)))
 (wSeq (wIf (wOp (oEq false) (wVar 4) (wStr (PySem.Str.ofString "n")))
 (wSeq (wIf (wUn (oIsN false) (Zcx Zcr (Zak (wVar 5) aNil)))
 (wRet wNon)
 Zbd)
 (wSeq (wApp 3 (Zcx Zcr (Zak (wVar 5) aNil)))
 Zbd))
 (wSeq (wAsg (gN 6) (wLst (Zak (wStr (PySem.Str.ofString "fixed")) (Zak (wStr (PySem.Str.ofString "anchor")) aNil))))
 (wSeq (wIf (wOp (oEq false) (wVar 4) (wStr (PySem.Str.ofString "w")))
 (wSeq (wAsg (gN 6) (wLst (Zak (wStr (PySem.Str.ofString "moves")) (Zak (wStr (PySem.Str.ofString "stays")) (Zak (wStr (PySem.Str.ofString "lapses")) aNil)))))
 Zbd)
 Zbd)
 (wSeq (wIf (wOp (oIn true) (wVar 5) (wVar 6))
 (wRet wNon)
 Zbd)
 (wSeq (wApp 3 (wVar 5))
 Zbd)))))
 (wFgt 4 (wFgt 5 (wFgt 6 Zbd)))))
 (wRet (wUn Zit (wVar 3))))))))
theorem Zlb : Zbi Zhe := (Zae (Zao Za2 (Zln (Zag 0))) (Zae (Zao Za2 (Zbp Zoh (Zaa (Zaq (Zag 1) Zbz) Zau))) (Zae (m_if (Zfd (Zaq (Zag 2) Zd9) (Zah (Zaq (Zag 1) Zbv) (Zah (Zaq (Zag 2) Zbv) Zap Zbb) Zav)) (Zb2 Zlp) Zax) (Zae (Zao Za2 (Zef (Zaa (Zaq (Zag 1) Zbz) Zau))) (Zae (Zos Zrv (Zsz (Zaa (Zag 2) (Zaa (Zb5 (Zag 1) (Zc3 Zap) Zfv) Zau))) (Zae (m_if (Zah (Zag 4) Za4 Zav) (Zae (m_if (Zaq (Zbp Zhp (Zaa (Zag 5) Zau)) Zd9) (Zb2 Zlp) Zax) (Zae (Zv6 (Zbp Zhp (Zaa (Zag 5) Zau))) Zax)) (Zae (Zao Za2 (Zef (Zaa Za4 (Zaa Za4 Zau)))) (Zae (m_if (Zah (Zag 4) Za4 Zav) (Zae (Zao Za2 (Zef (Zaa Za4 (Zaa Za4 (Zaa Za4 Zau))))) Zax) Zax) (Zae (m_if (Zah (Zag 5) (Zag 6) Zfn) (Zb2 Zlp) Zax) (Zae (Zv6 (Zag 5)) Zax))))) (Zko (Zko (Zko Zax))))) (Zb2 (Zaq (Zag 3) Zgx)))))))
@[irreducible] noncomputable def Zfy : G := gOf 7 Zhe
theorem Zic : Zfy = gOf 7 Zhe := by with_unfolding_all rfl
theorem Zre : Ze5 Zfy := Zic ▸ Zbk Zlb
noncomputable def Zem (s6 : SOq) (x7 : (T2 Tx Tx)) : P (Out (SOq) (Option SOq)) :=
  (cond (decide (x7.x1 = (tx "n")))
  (bd (bd (Zcw x7.x2) fun t8 => .ok t8.isNone) fun c => cond c
  (.ok (Out.ret none))
  (bd (bd (bd (Zcw x7.x2) fun a => ofO a) fun a => .ok (Sum.inr a : SI)) fun t9 => (bd (ofO (appO s6 t9)) fun (law_order_here' : SOq) =>
  (.ok (.nx law_order_here')))))
  (Zfw ([(tx "fixed"), (tx "anchor")]) fun (law_some : (List Tx)) =>
  (Zfw (cond (decide (x7.x1 = (tx "w"))) ([(tx "moves"), (tx "stays"), (tx "lapses")]) law_some) fun (law_some'' : (List Tx)) =>
  (cond (true ^^ decide (x7.x2 ∈ law_some''))
  (.ok (Out.ret none))
  (bd (ofO (appO s6 (Sum.inl x7.x2 : SI))) fun (law_order_here'' : SOq) =>
  (.ok (.nx law_order_here'')))))))
noncomputable def Zii (law_parts : (List Tx)) (law_form_here : (Option Tx)) : P Bool :=
  (cond law_form_here.isNone (.ok true) (bd (bd (bd (ofO law_form_here) fun t2 => ofO (lenT t2)) fun t3 => .ok (t3 + (1 : Int))) fun t4 => .ok (!decide ((law_parts.length : Int) = t4))))
noncomputable def Zgi (law_text : Tx) : P (Option SOq) :=
  (bd (ofO (Zio law_text (PySem.Str.ofString " "))) fun (law_parts : (List Tx)) =>
  (bd (bd (ofO (law_parts[0]?)) fun t1 => Zez t1) fun (law_form_here : (Option Tx)) =>
  (bd (Zii law_parts law_form_here) fun c => cond c
  (.ok none)
  (bd (bd (bd (ofO (law_parts[0]?)) fun a => .ok (Sum.inl a : SI)) fun t5 => .ok [t5]) fun (law_order_here : SOq) =>
  (bd (bd (ofO law_form_here) fun t => bd (ofO (Zgh t)) fun cs => .ok (zipZ cs (cutD law_parts (some (1 : Int)) none))) fun l12 => aft (Zdg (ρ := (Option SOq)) Zem l12 law_order_here) (fun (r11 : (Option SOq)) => .ok r11) fun (s10 : SOq) =>
  (.ok (some s10)))))))
theorem Zmd (law_text : Tx) : Sim Zfy [.sh (encS law_text)] (shE (encO (encV Zaz))) (Zgi law_text) :=
 Zdl Zic (env := ([.sh (encS law_text), .un, .un, .un, .un, .un, .un] : En)) rfl (fun _ => Zas) (by
  unfold Zgi Zhe
  exact (Zbx (f := (owE (encL encS))) (fun law_parts => ([.sh (encS law_text), .ow ((encL encS) law_parts), .un, .un, .un, .un, .un] : En)) (Zjj (Zaf (i := 0) rfl)) (fun _ => Zc4) (Nat.le_of_ble_eq_true rfl) (fun _ => rfl) fun law_parts =>
 (Zbx (f := (shE (encO encS))) (fun law_form_here => ([.sh (encS law_text), .ow ((encL encS) law_parts), .sh ((encO encS) law_form_here), .un, .un, .un, .un] : En)) (Zdx (fun _ => Zas) (Zjo (Zde (Zbt (i := 1) rfl) (Zk1 (xs := law_parts) rfl)) fun t1 => (Zdz (Zkr t1)))) (fun _ => Zas) (Nat.le_of_ble_eq_true rfl) (fun _ => rfl) fun law_form_here =>
 (Zjg (Zsr (Zcs (Zaf (i := 2) rfl) (Zl8 (o := law_form_here) rfl (fun _ => rfl))) (Zqv (f := blE) (mm := fun t4 => (!decide ((law_parts.length : Int) = t4))) (Zcs (Zbt (i := 1) rfl) (Zn4 (xs := law_parts) rfl)) (Zb9 (f := (shE D.int)) (mm := fun t3 => (t3 + (1 : Int))) (Zqe (Zk5 (Zaf (i := 2) rfl)) fun t2 => (Zie rfl)) Zan fun t3 => op_add) fun t4 => (op_ne (x := (law_parts.length : Int)) (y := t4) Zcq rfl rfl)))
 (Zen Zfk rfl)
 (Zbo (Zbx (f := (owE (encL Zaz))) (fun law_order_here => ([.sh (encS law_text), .ow ((encL encS) law_parts), .sh ((encO encS) law_form_here), .ow ((encL Zaz) law_order_here), .un, .un, .un] : En)) (Zop (f := owE (encL Zaz)) (Zjo (Zou (f := encS) (g := D.int) (Zde (Zbt (i := 1) rfl) (Zk1 (xs := law_parts) rfl))) fun t5 => (Zdz ⟨[t5], _, rfl, Nat.le_of_ble_eq_true rfl, rfl, rfl⟩))) (fun _ => Zc4) (Nat.le_of_ble_eq_true rfl) (fun _ => rfl) fun law_order_here =>
 (Zpd (f := (enc2 encS encS)) (s0 := law_order_here) (fun (s6 : SOq) => ([.sh (encS law_text), .ow ((encL encS) law_parts), .sh ((encO encS) law_form_here), .ow ((encL Zaz) s6), .un, .un, .un] : En)) (shE (encO (encV Zaz))) (Zry (ys := (cutD law_parts (some (1 : Int)) none)) (Zab (Zaf (i := 2) rfl) (Zab (Zdd (xs := law_parts) (Zbt (i := 1) rfl) (Zbn Zan) Zbm rfl) Za0)) rfl) rfl
 (fun s6 x7 => (Zsy (e := ([.sh (encS law_text), .ow ((encL encS) law_parts), .sh ((encO encS) law_form_here), .ow ((encL Zaz) s6), .sh (encS x7.x1), .sh (encS x7.x2), .un] : En)) rfl rfl (b_if (Za1 (Zaf (i := 4) rfl) Zal (op_eq (x := x7.x1) (y := (tx "n")) Zb8 rfl rfl))
 (Zer (Zjg (Zv2 (f := blE) (mm := fun t8 => t8.isNone) (Zbu (Zab (Zaf (i := 5) rfl) Za0) (Zfu x7.x2) (fun _ => Zas)) fun t8 => (Zl8 (o := t8) rfl (fun _ => rfl)))
 (Zen Zfk rfl)
 (Zbo (Zer (Zun (f := Zaz) (xs := s6) (fun law_order_here' => ([.sh (encS law_text), .ow ((encL encS) law_parts), .sh ((encO encS) law_form_here), .ow ((encL Zaz) law_order_here'), .sh (encS x7.x1), .sh (encS x7.x2), .un] : En)) rfl (Zt3 (f := encS) (g := D.int) (Zpc (Zbu (Zab (Zaf (i := 5) rfl) Za0) (Zfu x7.x2) (fun _ => Zas)))) (fun _ => rfl) (fun _ => rfl) fun law_order_here' =>
 (Zbo (Zeg (env' := ([.sh (encS law_text), .ow ((encL encS) law_parts), .sh ((encO encS) law_form_here), .ow ((encL Zaz) law_order_here'), .un, .sh (encS x7.x2), .un] : En)) rfl (Zeg (env' := ([.sh (encS law_text), .ow ((encL encS) law_parts), .sh ((encO encS) law_form_here), .ow ((encL Zaz) law_order_here'), .un, .un, .un] : En)) rfl (Zeg (env' := ([.sh (encS law_text), .ow ((encL encS) law_parts), .sh ((encO encS) law_form_here), .ow ((encL Zaz) law_order_here'), .un, .un, .un] : En)) rfl (Zd4 rfl))))))))))
 (Zer (Zo6 (owE (encL encS)) (fun law_some => ([.sh (encS law_text), .ow ((encL encS) law_parts), .sh ((encO encS) law_form_here), .ow ((encL Zaz) s6), .sh (encS x7.x1), .sh (encS x7.x2), .ow ((encL encS) law_some)] : En)) (Zc8 (Zab Zal (Zab Zal Za0)) rfl (Nat.le_of_ble_eq_true rfl)) (fun _ => Zc4) (Nat.le_of_ble_eq_true rfl) (fun _ => rfl) fun law_some =>
 (Zer (Zyi (fun (law_some'' : (List Tx)) => ([.sh (encS law_text), .ow ((encL encS) law_parts), .sh ((encO encS) law_form_here), .ow ((encL Zaz) s6), .sh (encS x7.x1), .sh (encS x7.x2), .ow ((encL encS) law_some'')] : En)) (Za1 (Zaf (i := 4) rfl) Zal (op_eq (x := x7.x1) (y := (tx "w")) Zb8 rfl rfl))
 (Zhi (s := .ow ((encL encS) ([(tx "moves"), (tx "stays"), (tx "lapses")]))) (env' := ([.sh (encS law_text), .ow ((encL encS) law_parts), .sh ((encO encS) law_form_here), .ow ((encL Zaz) s6), .sh (encS x7.x1), .sh (encS x7.x2), .ow ((encL encS) ([(tx "moves"), (tx "stays"), (tx "lapses")]))] : En)) (Zc8 (Zab Zal (Zab Zal (Zab Zal Za0))) rfl (Nat.le_of_ble_eq_true rfl)) Zc4 (Nat.le_of_ble_eq_true rfl) rfl (Zd4 rfl))
 (Zd4 rfl)
 fun law_some'' => (Zer (b_if (Za1 (Zaf (i := 5) rfl) (Zbt (i := 6) rfl) (Zw1 (x := x7.x2) (xs := law_some'') Zb8 rfl))
 (Zen Zfk rfl)
 (Zbo (Zer (Z14 (f := Zaz) (xs := s6) (x := (Sum.inl x7.x2 : SI)) (fun law_order_here'' => ([.sh (encS law_text), .ow ((encL encS) law_parts), .sh ((encO encS) law_form_here), .ow ((encL Zaz) law_order_here''), .sh (encS x7.x1), .sh (encS x7.x2), .ow ((encL encS) law_some'')] : En)) rfl (Zaf (i := 5) rfl) rfl (fun _ => rfl) fun law_order_here'' =>
 (Zbo (Zeg (env' := ([.sh (encS law_text), .ow ((encL encS) law_parts), .sh ((encO encS) law_form_here), .ow ((encL Zaz) law_order_here''), .un, .sh (encS x7.x2), .ow ((encL encS) law_some'')] : En)) rfl (Zeg (env' := ([.sh (encS law_text), .ow ((encL encS) law_parts), .sh ((encO encS) law_form_here), .ow ((encL Zaz) law_order_here''), .un, .un, .ow ((encL encS) law_some'')] : En)) rfl (Zeg (env' := ([.sh (encS law_text), .ow ((encL encS) law_parts), .sh ((encO encS) law_form_here), .ow ((encL Zaz) law_order_here''), .un, .un, .un] : En)) rfl (Zd4 rfl)))))))))))))))))
 (fun _ => ⟨_, rfl, rfl⟩)
 fun s10 => (Zot (Zcs (Zbt (i := 3) rfl) (Zpp (xs := s10) rfl)) rfl))))))))
noncomputable def Zu1 : WS :=
 (wSeq (wAsg (gN 1) (Zcx Zd3 (Zak (Zcx Zcv (Zak (wVar 0) (Zak (wInt 0) aNil))) (Zak (wInt 5001) aNil))))
 (wSeq (wAsg (gN 2) (wUn (oIxN 0) (wVar 1)))
 (wSeq (wFor (gN 3) (Zrq (Zb7 (wVar 1) (Zet (wInt 1)) wNoP))
 (wSeq (wAsg (gN 2) (wOp Zh9 (wOp Zh9 (wVar 2) (wStr (PySem.Str.ofString " "))) (wUn oStr (wVar 3))))
 (wFgt 3 Zbd)))
 (wSeq (wAsg (gN 2) (Zcx Zcd (Zak (wVar 2) (Zak (Zcx Zcv (Zak (wVar 0) (Zak (wInt 1) aNil))) aNil))))
 (wSeq (wIf (wOp (oEq false) (wUn (oIxN 0) (Zcx Zcb (Zak (Zcx Zcv (Zak (wVar 0) (Zak (wInt 2) aNil))) (Zak (wLst (Zak (wInt 2) aNil)) aNil)))) (wInt 1))
 (wSeq (wAsg (gN 2) (Zcx Zcd (Zak (wVar 2) (Zak (Zcx Zcv (Zak (wVar 0) (Zak (wInt 3) aNil))) aNil))))
 Zbd)
 Zbd)
 (wSeq (wAsg (gN 4) wNon)
 (wSeq (wAsg (gN 5) wNon)
 (wSeq (Zu9 [([(PySem.Str.ofString "NoOrder", true)], .nm 6 (fun a c => (wSeq (wAsg (gN 5) (wTup (Zak (wUn (oIsX a (isaX c (PySem.Str.ofString "ValueError"))) (Zkq 6)) (Zak (wUn (oIsX a (isaX c (PySem.Str.ofString "NoOrder"))) (Zkq 6)) (Zak (wUn (oIsX a (isaX c (PySem.Str.ofString "NoFeast"))) (Zkq 6)) (Zak (wUn (oIsX a (isaX c (PySem.Str.ofString "Sealed"))) (Zkq 6)) aNil))))))
 Zbd)))] (wSeq (wAsg (gN 4) (Zcx Zmt (Zak (wVar 2) aNil)))
 Zbd))
 (wSeq (wAsg (gN 7) (Zcx Zfy (Zak (wVar 2) aNil)))
 (wSeq (wIf (wUn (oIsN false) (wVar 7))
 (wRet (wOp (oEq false) (wVar 5) (wTup (Zak (wBl true) (Zak (wBl true) (Zak (wBl false) (Zak (wBl false) aNil)))))))
 Zbd)
 (wRet (wAnd (wUn (oIsN false) (wVar 5)) (wAnd (Zcx Zco (Zak (wVar 4) aNil)) (wOp (oEq false) (wVar 4) (wVar 7)))))))))))))))
theorem Z02 : Zbi Zu1 := (Zae (Zao Za2 (Zbp Zm1 (Zaa (Zbp Zbs (Zaa (Zag 0) (Zaa Zap Zau))) (Zaa Zap Zau)))) (Zae (Zao Za2 (Zaq (Zag 1) Zbz)) (Zae (Zos Za2 (Zww (Zb5 (Zag 1) (Zc3 Zap) Zfv)) (Zae (Zao Za2 (Zah (Zah (Zag 2) Za4 Zci) (Zaq (Zag 3) Znt) Zci)) (Zko Zax))) (Zae (Zao Za2 (Zbp Zgw (Zaa (Zag 2) (Zaa (Zbp Zbs (Zaa (Zag 0) (Zaa Zap Zau))) Zau)))) (Zae (m_if (Zah (Zaq (Zbp Zfr (Zaa (Zbp Zbs (Zaa (Zag 0) (Zaa Zap Zau))) (Zaa (Zef (Zaa Zap Zau)) Zau))) Zbz) Zap Zav) (Zae (Zao Za2 (Zbp Zgw (Zaa (Zag 2) (Zaa (Zbp Zbs (Zaa (Zag 0) (Zaa Zap Zau))) Zau)))) Zax) Zax) (Zae (Zao Za2 Zlp) (Zae (Zao Za2 Zlp) (Zae (Zxf (by
 intro q hq
 simp only [List.mem_cons, List.not_mem_nil, or_false] at hq
 rcases hq with rfl
 · exact (fun a c => (Zae (Zao Za2 (Zm9 (Zaa (Zaq Zhh Zcz) (Zaa (Zaq Zhh Zcz) (Zaa (Zaq Zhh Zcz) (Zaa (Zaq Zhh Zcz) Zau)))))) Zax))) (Zae (Zao Za2 (Zbp Ztg (Zaa (Zag 2) Zau))) Zax)) (Zae (Zao Za2 (Zbp Zre (Zaa (Zag 2) Zau))) (Zae (m_if (Zaq (Zag 7) Zd9) (Zb2 (Zah (Zag 5) (Zm9 (Zaa m_bl (Zaa m_bl (Zaa m_bl (Zaa m_bl Zau))))) Zav)) Zax) (Zb2 (Zda (Zaq (Zag 5) Zd9) (Zda (Zbp Zj1 (Zaa (Zag 4) Zau)) (Zah (Zag 4) (Zag 7) Zav))))))))))))))
@[irreducible] noncomputable def Zy2 : G := gOf 8 Zu1
theorem Zxe : Zy2 = gOf 8 Zu1 := by with_unfolding_all rfl
noncomputable def Zpk (s2 : Tx) (law_part : (Tx ⊕ Int)) : P (Tx) :=
  (bd (bd (ofO (catT s2 (tx " "))) fun t3 => bd (ofO (Zvw law_part)) fun t4 => ofO (catT t3 t4)) fun (law_text' : Tx) =>
  (.ok law_text'))
noncomputable def Zvb (c : Str) (fs : List (Str × D)) : P ((Option SOq) × (Option (T4 Bool Bool Bool Bool))) :=
  ((selT [(PySem.Str.ofString "NoOrder", true)] c (.ok (none, (some (T4.mk (isaX c "ValueError") (isaX c "NoOrder") (isaX c "NoFeast") (isaX c "Sealed"))))) stuck) : P ((Option SOq) × (Option (T4 Bool Bool Bool Bool))))
noncomputable def Zpn (law_text'4 : Tx) : P ((Option SOq) × (Option (T4 Bool Bool Bool Bool))) :=
  (bd (bd (Zk0 law_text'4) fun a => .ok (some a)) fun (law_found' : (Option SOq)) =>
  (.ok (law_found', none)))
noncomputable def Zl0 (law_script : (List Int)) (law_text'' : Tx) : P (Tx) :=
  (bd (bd (bd (bd (Zcu law_script (2 : Int)) fun t7 => Zca t7 ([(2 : Int)])) fun t8 => ofO (t8[0]?)) fun t9 => .ok (decide (t9 = (1 : Int)))) fun c => cond c (bd (bd (Zcu law_script (3 : Int)) fun t10 => Zcj law_text'' t10) fun (law_text''' : Tx) =>
  (.ok law_text''')) (.ok law_text''))
noncomputable def Zu3 (law_script : (List Int)) : P Bool :=
  (bd (bd (Zcu law_script (0 : Int)) fun t1 => Zd7 t1 (5001 : Int)) fun (law_order_here : SOq) =>
  (bd (bd (ofO (law_order_here[0]?)) fun a => ofO (asS a)) fun (law_text : Tx) =>
  (bd (ofO (cutV law_order_here (some (1 : Int)) none)) fun l15 => bd (Zhk Zpk l15 law_text) fun (s5 : Tx) =>
  (bd (bd (Zcu law_script (1 : Int)) fun t6 => Zcj s5 t6) fun (law_text'' : Tx) =>
  (bd (Zl0 law_script law_text'') fun (law_text'4 : Tx) =>
  (bd (tryH (Zpn law_text'4) fun c fs => noX (Zvb c fs)) fun (s11 : (Option SOq) × (Option (T4 Bool Bool Bool Bool))) =>
  (bd (Zgi law_text'4) fun (law_due_here : (Option SOq)) =>
  (cond law_due_here.isNone
  (.ok (decide (s11.2 = (some (T4.mk true true false false)))))
  (bd (cond s11.2.isNone (bd (bd (ofO s11.1) fun t13 => Zb0 t13) fun c => cond c (.ok (decide (s11.1 = law_due_here))) (.ok false)) (.ok false)) fun r14 => .ok r14)))))))))
theorem Zte (law_script : (List Int)) : Sim Zy2 [.sh ((encL D.int) law_script)] blE (Zu3 law_script) :=
 Zdl Zxe (env := ([.sh ((encL D.int) law_script), .un, .un, .un, .un, .un, .un, .un] : En)) rfl (fun _ => Zas) (by
  unfold Zu3 Zu1
  exact (Zbx (f := (shE (encV Zaz))) (fun law_order_here => ([.sh ((encL D.int) law_script), .sh ((encV Zaz) law_order_here), .un, .un, .un, .un, .un, .un] : En)) (Zdx (fun _ => Zas) (Zjo (Zbu (Zab (Zaf (i := 0) rfl) (Zab Zan Za0)) (Zc1 law_script (0 : Int)) (fun _ => Zas)) fun t1 => (Zju Zan (Zdz (Zi1 t1 (5001 : Int)))))) (fun _ => Zas) (Nat.le_of_ble_eq_true rfl) (fun _ => rfl) fun law_order_here =>
 (Zbx (f := (shE encS)) (fun law_text => ([.sh ((encL D.int) law_script), .sh ((encV Zaz) law_order_here), .sh (encS law_text), .un, .un, .un, .un, .un] : En)) (Zvl (Zde (Zaf (i := 1) rfl) (Z0q (xs := law_order_here) rfl))) (fun _ => Zas) (Nat.le_of_ble_eq_true rfl) (fun _ => rfl) fun law_text =>
 (Ztr (f := Zaz) (s0 := law_text) (fun (s2 : Tx) => ([.sh ((encL D.int) law_script), .sh ((encV Zaz) law_order_here), .sh (encS s2), .un, .un, .un, .un, .un] : En)) (Zzv (Zrc (xs := law_order_here) (Zaf (i := 1) rfl) (Zbn Zan) Zbm rfl)) rfl
 (fun s2 law_part => (Zlq (e := ([.sh ((encL D.int) law_script), .sh ((encV Zaz) law_order_here), .sh (encS s2), .sh (Zaz law_part), .un, .un, .un, .un] : En)) Zas (Nat.le_of_ble_eq_true rfl) rfl (Zbx (f := (shE encS)) (fun law_text' => ([.sh ((encL D.int) law_script), .sh ((encV Zaz) law_order_here), .sh (encS law_text'), .sh (Zaz law_part), .un, .un, .un, .un] : En)) (Zdq (Zct (Zaf (i := 2) rfl) Zal Zgg) (Zde (Zaf (i := 3) rfl) (Zvk rfl)) fun t3 t4 => Zgg) (fun _ => Zas) (Nat.le_of_ble_eq_true rfl) (fun _ => rfl) fun law_text' =>
 (Zeg (env' := ([.sh ((encL D.int) law_script), .sh ((encV Zaz) law_order_here), .sh (encS law_text'), .un, .un, .un, .un, .un] : En)) rfl (Zd4 rfl)))))
 fun s5 => (Zbx (f := (shE encS)) (fun law_text'' => ([.sh ((encL D.int) law_script), .sh ((encV Zaz) law_order_here), .sh (encS law_text''), .un, .un, .un, .un, .un] : En)) (Zdx (fun _ => Zas) (Zju (Zaf (i := 2) rfl) (Zjo (Zbu (Zab (Zaf (i := 0) rfl) (Zab Zan Za0)) (Zc1 law_script (1 : Int)) (fun _ => Zas)) fun t6 => (Zdz (Zeh s5 t6))))) (fun _ => Zas) (Nat.le_of_ble_eq_true rfl) (fun _ => rfl) fun law_text'' =>
 (Zuh (fun (law_text'4 : Tx) => ([.sh ((encL D.int) law_script), .sh ((encV Zaz) law_order_here), .sh (encS law_text'4), .un, .un, .un, .un, .un] : En)) (Zb9 (f := blE) (mm := fun t9 => (decide (t9 = (1 : Int)))) (Zqe (Zdx (fun _ => Zc4) (Zjo (Zbu (Zab (Zaf (i := 0) rfl) (Zab Zan Za0)) (Zc1 law_script (2 : Int)) (fun _ => Zas)) fun t7 => (Zju (Zc8 (Zab Zan Za0) rfl (Nat.le_of_ble_eq_true rfl)) (Zdz (Zc5 t7 ([(2 : Int)])))))) fun t8 => (Zk1 (xs := t8) rfl)) Zan fun t9 => (op_eq (x := t9) (y := (1 : Int)) Zcq rfl rfl))
 (Zbx (f := (shE encS)) (fun law_text''' => ([.sh ((encL D.int) law_script), .sh ((encV Zaz) law_order_here), .sh (encS law_text'''), .un, .un, .un, .un, .un] : En)) (Zdx (fun _ => Zas) (Zju (Zaf (i := 2) rfl) (Zjo (Zbu (Zab (Zaf (i := 0) rfl) (Zab Zan Za0)) (Zc1 law_script (3 : Int)) (fun _ => Zas)) fun t10 => (Zdz (Zeh law_text'' t10))))) (fun _ => Zas) (Nat.le_of_ble_eq_true rfl) (fun _ => rfl) fun law_text''' =>
 (Zd4 rfl))
 (Zd4 rfl)
 fun law_text'4 => (Zhi (s := .sh ((encO (encV Zaz)) none)) (env' := ([.sh ((encL D.int) law_script), .sh ((encV Zaz) law_order_here), .sh (encS law_text'4), .un, .sh ((encO (encV Zaz)) none), .un, .un, .un] : En)) Zfk Zas (Nat.le_of_ble_eq_true rfl) rfl (Zhi (s := .sh ((encO (enc4 D.bl D.bl D.bl D.bl)) none)) (env' := ([.sh ((encL D.int) law_script), .sh ((encV Zaz) law_order_here), .sh (encS law_text'4), .un, .sh ((encO (encV Zaz)) none), .sh ((encO (enc4 D.bl D.bl D.bl D.bl)) none), .un, .un] : En)) Zfk Zas (Nat.le_of_ble_eq_true rfl) rfl (b_of (Zzt (h := fun c fs => (selT [(PySem.Str.ofString "NoOrder", true)] c (.ok (none, (some (T4.mk (isaX c "ValueError") (isaX c "NoOrder") (isaX c "NoFeast") (isaX c "Sealed"))))) stuck)) (fun (s11 : (Option SOq) × (Option (T4 Bool Bool Bool Bool))) => ([.sh ((encL D.int) law_script), .sh ((encV Zaz) law_order_here), .sh (encS law_text'4), .un, .sh ((encO (encV Zaz)) s11.1), .sh ((encO (enc4 D.bl D.bl D.bl D.bl)) s11.2), .un, .un] : En)) (Zzu (f := (shE (encO (encV Zaz)))) (fun law_found' => ([.sh ((encL D.int) law_script), .sh ((encV Zaz) law_order_here), .sh (encS law_text'4), .un, .sh ((encO (encV Zaz)) law_found'), .sh ((encO (enc4 D.bl D.bl D.bl D.bl)) none), .un, .un] : En)) (Zl3 (Zbu (Zab (Zaf (i := 2) rfl) Za0) (Zrr law_text'4) (fun _ => Zas))) (fun _ => Zas) (Nat.le_of_ble_eq_true rfl) (fun _ => rfl) fun law_found' =>
 (Z16 rfl))
 (Zz3 (e3 := fun a (s11 : (Option SOq) × (Option (T4 Bool Bool Bool Bool))) => ([.sh ((encL D.int) law_script), .sh ((encV Zaz) law_order_here), .sh (encS law_text'4), .un, .sh ((encO (encV Zaz)) s11.1), .sh ((encO (enc4 D.bl D.bl D.bl D.bl)) s11.2), .xc a, .un] : En)) (Nat.le_of_ble_eq_true rfl) (fun a c => (Zhi (s := .sh ((encO (enc4 D.bl D.bl D.bl D.bl)) (some (T4.mk (isaX c "ValueError") (isaX c "NoOrder") (isaX c "NoFeast") (isaX c "Sealed"))))) (env' := ([.sh ((encL D.int) law_script), .sh ((encV Zaz) law_order_here), .sh (encS law_text'4), .un, .sh ((encO (encV Zaz)) none), .sh ((encO (enc4 D.bl D.bl D.bl D.bl)) (some (T4.mk (isaX c "ValueError") (isaX c "NoOrder") (isaX c "NoFeast") (isaX c "Sealed")))), .xc a, .un] : En)) (Zh8 (Zab (Zcs (Zqi (i := 6) rfl) Zqw) (Zab (Zcs (Zqi (i := 6) rfl) Zqw) (Zab (Zcs (Zqi (i := 6) rfl) Zqw) (Zab (Zcs (Zqi (i := 6) rfl) Zqw) Za0)))) rfl (Nat.le_of_ble_eq_true rfl)) Zas (Nat.le_of_ble_eq_true rfl) rfl (Zd4 rfl))) (fun _ _ => rfl) Zyk) (fun s11 =>
 (i_of (Zbx (f := (shE (encO (encV Zaz)))) (fun law_due_here => ([.sh ((encL D.int) law_script), .sh ((encV Zaz) law_order_here), .sh (encS law_text'4), .un, .sh ((encO (encV Zaz)) s11.1), .sh ((encO (enc4 D.bl D.bl D.bl D.bl)) s11.2), .un, .sh ((encO (encV Zaz)) law_due_here)] : En)) (Zbu (Zab (Zaf (i := 2) rfl) Za0) (Zmd law_text'4) (fun _ => Zas)) (fun _ => Zas) (Nat.le_of_ble_eq_true rfl) (fun _ => rfl) fun law_due_here =>
 (b_if (Zcs (Zaf (i := 7) rfl) (Zl8 (o := law_due_here) rfl (fun _ => rfl)))
 (Zen (Za1 (Zaf (i := 5) rfl) (Zh8 (Zab Zh1 (Zab Zh1 (Zab Zh1 (Zab Zh1 Za0)))) rfl (Nat.le_of_ble_eq_true rfl)) (op_eq (x := s11.2) (y := (some (T4.mk true true false false))) (Zs9 (Z2g Zq1 Zq1 Zq1 Zq1) (fun _ => by intro h; cases h) (by decide)) rfl rfl)) rfl)
 (Zbo (Zjl (f := blE) (t := fun r14 => r14) (Zo5 (Zcs (Zaf (i := 5) rfl) (Zl8 (o := s11.2) rfl (fun _ => rfl))) (Zm3 (Zdx (fun _ => Zas) (Zjo (Zk5 (Zaf (i := 4) rfl)) fun t13 => (Zdz (Zhc t13)))) (EvP.m (f := blE) (Za1 (Zaf (i := 4) rfl) (Zaf (i := 7) rfl) (op_eq (x := s11.1) (y := law_due_here) (Zs9 (Z12 Z06) (fun _ => by intro h; cases h) (by decide)) rfl rfl))))) fun _ => rfl))))))))))))))))
theorem Zm4 : ∀ (l : List Nat) (h : OkL l), Zdg (ρ := Option Int) Zcc (ones l h) () = cond (l.all isDg) (.ok (.nx ())) (.ok (.ret none))
  | [], _ => rfl
  | c :: r, h => by
    have e : Zcc () (ONE c h.head) = cond (isDg c) (.ok (.nx ())) (.ok (.ret none)) := by
      unfold Zcc
      rw [Zwq, Zaj, Zam, Zsj]
      show cond (true ^^ isDg c) _ _ = _
      cases isDg c <;> rfl
    show Zdg Zcc (ONE c h.head :: ones r h.tail) () = cond (isDg c && r.all isDg) _ _
    cases hc : isDg c with
    | true =>
      rw [hc] at e
      rw [Zi6 e, Zm4 r]
      rfl
    | false =>
      rw [hc] at e
      rw [Zjw e]
      rfl
theorem Zw0 {c d : Nat} {h : c < 0x110000} {t : Tx} (e : sg t = [d]) : decide (ONE c h = t) = decide (c = d) := by
  rw [deq, e, show sg (ONE c h) = [c] from rfl]
  by_cases k : c = d
  · subst k; simp
  · rw [decide_eq_false k, decide_eq_false (by simpa using k)]
theorem Zza (t : Tx) (h : (sg t).length ≤ 1000000) : ∃ u, Zdw t = .ok u ∧ sg u = figs (sg t) := by
  unfold Zdw
  cases hs : sg t with
  | nil =>
    have e : t = tx "" := Zir (by rw [hs, Znc])
    subst e
    rw [decide_eq_true rfl, Bool.not_true, Za6 rfl, Zam, Za6 rfl]
    exact ⟨_, rfl, by rw [Znc]; rfl⟩
  | cons c r =>
    have hne : ¬ t = tx "" := fun e => by rw [e, Znc] at hs; cases hs
    rw [decide_eq_false hne, Bool.not_false, Zba rfl, Zy4 t (by omega) 0 (c := c) (by rw [hs]; rfl), Zaj, Zam, Zam, Zw0 Zsl]
    unfold figs
    by_cases hc : c = 45
    · subst hc
      rw [decide_eq_true rfl, Zba rfl, show (some (1 : Int)) = some ((1 : Nat) : Int) from rfl, Zi5 t (by omega) 1, Zaj, Zam]
      exact ⟨_, rfl, by rw [Zgp, hs]; rfl⟩
    · rw [decide_eq_false hc, Za6 rfl]
      exact ⟨_, rfl, by rw [hs, if_neg (by simpa using hc)]⟩
theorem Zwl : sg (tx "-0") = [45, 48] := by decide +kernel
theorem Zmv {t : Tx} (h : Zfa (sg t) = false) : NUM t = none := by
  unfold NUM
  rw [h, if_neg (by simp)]
theorem Zud {t : Tx} (h : Zfa (sg t) = true) : NUM t = some (valL (sg t)) := by
  unfold NUM
  rw [if_pos h]
theorem Zv5 {l : List Nat} {c : Nat} {r : List Nat} (hf : figs l = c :: r) : Zfa l = (decide ((c :: r).length ≤ 12) && ((c :: r).all isDg && (!decide (c = 48) || decide (l = [48])))) := by
  unfold Zfa
  rw [hf]
  have e : decide (List.take 1 (c :: r) = [48]) = decide (c = 48) := by
    by_cases k : c = 48
    · subst k; simp
    · rw [decide_eq_false k, decide_eq_false (by simpa using k)]
  rw [e]
  rfl
theorem Zxt {l : List Nat} (h : figs l = [48]) (hz : ¬ l = [45, 48]) : l = [48] := by
  unfold figs at h
  split at h
  · rename_i k
    exfalso
    apply hz
    rw [← List.take_append_drop 1 l, k, h]
    rfl
  · exact h
theorem Zq8 (t : Tx) (h : (sg t).length ≤ 1000000) : Zcw t = .ok (NUM t) := by
  unfold Zcw
  obtain ⟨u, e, hu⟩ := Zza t h
  have hl := Zp8 (sg t)
  rw [← hu] at hl
  rw [e, Zam]
  unfold Zf8
  rw [deq, Znc]
  cases hc : sg u with
  | nil =>
    rw [decide_eq_true rfl, Zba rfl, Zam, Zba rfl, Zmv]
    unfold Zfa
    rw [← hu, hc]
    rfl
  | cons c r =>
    have hf : figs (sg t) = c :: r := by rw [← hu, hc]
    have hn := Zv5 hf
    rw [decide_eq_false (by simp), Za6 rfl, Zkz u (by omega), Zaj, Zam, Zam, hc]
    by_cases h12 : (c :: r).length ≤ 12
    · rw [decide_eq_true h12, Bool.true_and] at hn
      rw [decide_eq_false (by omega), Za6 rfl, Zam, deq, Zwl]
      by_cases hz : sg t = [45, 48]
      · rw [decide_eq_true hz, Zba rfl, Zmv]
        rw [hz]
        decide
      · rw [decide_eq_false hz, Za6 rfl, Zi9, Zaj, Zam, Zm4, hc]
        cases ha : (c :: r).all isDg with
        | false =>
          rw [ha, Bool.false_and] at hn
          rw [Za6 rfl, Zmv hn]
          rfl
        | true =>
          rw [ha, Bool.true_and] at hn
          rw [Zba rfl, Ztl]
          unfold Zgf
          rw [Zy4 u (by omega) 0 (c := c) (by rw [hc]; rfl), Zaj, Zam, Zam, Zw0 Zmy]
          by_cases h0 : c = 48
          · subst h0
            rw [decide_eq_true rfl, Zba rfl, Zkz u (by omega), Zaj, Zam, Zam, hc]
            rw [decide_eq_true rfl, Bool.not_true, Bool.false_or] at hn
            cases r with
            | nil =>
              have h48 := Zxt hf hz
              rw [decide_eq_true h48] at hn
              rw [decide_eq_false (by simp), Za6 rfl, Zmc t hn, Zaj, Zam, Zam, Zud hn]
            | cons d q =>
              have h48 : ¬ sg t = [48] := fun z => by rw [z] at hf; cases hf
              rw [decide_eq_false h48] at hn
              rw [decide_eq_true (by simp only [List.length_cons]; omega), Zba rfl, Zmv hn]
          · rw [decide_eq_false h0, Bool.not_false, Bool.true_or] at hn
            rw [decide_eq_false h0, Za6 rfl, Zam, Za6 rfl, Zmc t hn, Zaj, Zam, Zam, Zud hn]
    · rw [decide_eq_false h12, Bool.false_and] at hn
      rw [decide_eq_true (by omega), Zba rfl, Zam, Zba rfl, Zmv hn]
theorem Zve (w : Tx) : Zez w = .ok (gdL FORMT w) := by
  unfold Zez Zfw
  show cond (true ^^ decide (w ∈ Zo1)) _ _ = _
  rw [Zvs]
  by_cases c : w ∈ Zo1
  · rw [decide_eq_true c, Bool.not_true, Za6 rfl]
    simp only [Zo1, List.mem_cons, List.not_mem_nil, or_false] at c
    rcases c with rfl | rfl | rfl | rfl | rfl | rfl | rfl | rfl <;> rfl
  · rw [decide_eq_false c, Bool.not_false, Zba rfl, Zkc.mpr c]
noncomputable def NWR (f : Tx) : Prop := f = tx "n" ∨ f = tx "w" ∨ f = tx "r"
theorem Zu2 {f w : Tx} {acc : List SI} (hf : NWR f) (hw : (sg w).length ≤ 1000000) (hl : acc.length < 16777216) : Zem acc ⟨f, w⟩ = match partO f w with
    | some p => .ok (.nx (acc ++ [p]))
    | none => .ok (.ret none) := by
  unfold Zem Zfw
  dsimp only
  rcases hf with rfl | rfl | rfl
  · rw [decide_eq_true rfl, Zba rfl, Zq8 w hw, Zam, Zam]
    unfold partO
    rw [if_pos rfl]
    cases NUM w with
    | none => rfl
    | some i =>
      rw [show (some i).isNone = false from rfl, Za6 rfl, Zam, Zaj, Zam, Zam, Zih hl, Zaj, Zam]
      rfl
  · rw [decide_eq_false (by decide), Za6 rfl, decide_eq_true rfl, Zba rfl, Zvs]
    unfold partO
    rw [if_neg (by decide)]
    by_cases c : w ∈ [tx "moves", tx "stays", tx "lapses"]
    · rw [decide_eq_true c, Bool.not_true, Za6 rfl, Zih hl, Zaj, Zam, if_pos (.inl ⟨rfl, c⟩)]
    · rw [decide_eq_false c, Bool.not_false, Zba rfl, if_neg (by rintro (⟨_, z⟩ | ⟨z, _⟩); exact c z; exact absurd z (by decide))]
  · rw [decide_eq_false (show ¬ (tx "r" = tx "n") by decide), Za6 rfl, decide_eq_false (show ¬ (tx "r" = tx "w") by decide), Za6 rfl, Zvs]
    unfold partO
    rw [if_neg (by decide)]
    by_cases c : w ∈ [tx "fixed", tx "anchor"]
    · rw [decide_eq_true c, Bool.not_true, Za6 rfl, Zih hl, Zaj, Zam, if_pos (.inr ⟨rfl, c⟩)]
    · rw [decide_eq_false c, Bool.not_false, Zba rfl, if_neg (by rintro (⟨z, _⟩ | ⟨_, z⟩); exact absurd z (by decide); exact c z)]
theorem Zql : ∀ (l : List (T2 Tx Tx)) (acc : List SI), (∀ p ∈ l, NWR p.x1 ∧ (sg p.x2).length ≤ 1000000) → acc.length + l.length ≤ 1000 → Zdg (ρ := Option (List SI)) Zem l acc = match zipP l with
    | some r => .ok (.nx (acc ++ r))
    | none => .ok (.ret none)
  | [], acc, _, _ => by
    show _ = (Except.ok (Out.nx (acc ++ [])) : P _)
    rw [List.append_nil]
    rfl
  | p :: r, acc, h, hl => by
    rw [List.length_cons] at hl
    have hp := h p List.mem_cons_self
    have e := Zu2 (f := p.x1) (w := p.x2) (acc := acc) hp.1 hp.2 (by omega)
    unfold zipP
    cases hq : partO p.x1 p.x2 with
    | none =>
      rw [hq] at e
      rw [Zjw e]
      rfl
    | some x =>
      rw [hq] at e
      rw [Zi6 e, Zql r (acc ++ [x]) (fun q hq => h q (List.mem_cons_of_mem _ hq)) (by rw [List.length_append, List.length_singleton]; omega), Option.bind_some]
      cases zipP r with
      | none => rfl
      | some y => show Except.ok (Out.nx _) = Except.ok (Out.nx _); rw [List.append_assoc]; rfl
theorem Zp1 : ∀ (l : List Nat) (h : OkL l) {x : Tx}, x ∈ ones l h → ∃ c hc, c ∈ l ∧ x = ONE c hc
  | c :: r, h, x, hx => by
    have hx : x ∈ ONE c h.head :: ones r h.tail := hx
    rcases List.mem_cons.mp hx with rfl | hx
    · exact ⟨c, h.head, List.mem_cons_self, rfl⟩
    · obtain ⟨d, hd, m, e⟩ := Zp1 r h.tail hx
      exact ⟨d, hd, List.mem_cons_of_mem _ m, e⟩
theorem form_nwr {w f : Tx} (h : gdL FORMT w = some f) : ∀ c ∈ sg f, c = 110 ∨ c = 119 ∨ c = 114 := by
  have := Zmg h
  simp only [FORMT, List.mem_cons, List.not_mem_nil, or_false, Prod.mk.injEq] at this
  rcases this with h | h | h | h | h | h | h | h <;> rw [h.2] <;> decide +kernel
theorem Zvj {α β : Type} {xs : List α} {ys : List β} {p : T2 α β} (h : p ∈ zipZ xs ys) : p.x1 ∈ xs := by
  unfold zipZ at h
  obtain ⟨q, hq, rfl⟩ := List.mem_map.mp h
  exact (List.of_mem_zip hq).1
theorem Zyq {w f : Tx} (h : gdL FORMT w = some f) {ys : List Tx} {p : T2 Tx Tx} (hp : p ∈ zipZ (ones (sg f) (Zgo f)) ys) : NWR p.x1 := by
  obtain ⟨c, hc, m, e⟩ := Zp1 _ _ (Zvj hp)
  rw [e]
  rcases form_nwr h c m with rfl | rfl | rfl
  · exact .inl Z0v
  · exact .inr (.inl Zze)
  · exact .inr (.inr Z0z)
theorem Z0f (t : Tx) (h : (sg t).length ≤ 1000000) : Zgi t = .ok (Zom (Zc2 t)) := by
  unfold Zgi
  rw [Zli (by omega), Zaj, Zam]
  unfold Zom
  cases hw : Zc2 t with
  | nil => exact absurd hw (Zl5 t)
  | cons w r =>
    rw [List.getElem?_cons_zero, Zaj, Zam, Zve, Zam, List.head?_cons, Option.bind_some]
    unfold Zii
    cases hf : gdL FORMT w with
    | none => rfl
    | some f =>
      have h7 := Zmi hf
      rw [show (some f).isNone = false from rfl, Za6 rfl, Zaj, Zam, Zkz f (by omega), Zaj, Zam, Zam, Option.bind_some]
      by_cases d : (w :: r).length = (sg f).length + 1
      · rw [if_pos d, decide_eq_true (by omega), Bool.not_true, Zam, Za6 rfl, Zam, Zam, Zam, Zam, Zi9, Zaj, Zam, Zam, show (some (1 : Int)) = some ((1 : Nat) : Int) from rfl, Zhn, List.drop_one, List.tail_cons]
        have hz := Zp4 (ones (sg f) (Zgo f)) r
        rw [Zql _ _ (fun p hp => by
          have h1 := Zqo hp
          have h2 : p.x2 ∈ Zc2 t := by rw [hw]; exact List.mem_cons_of_mem _ h1
          have := Zng h2
          exact ⟨Zyq hf hp, by omega⟩) (by rw [hz, Zmb, List.length_singleton]; omega)]
        cases zipP (zipZ (ones (sg f) (Zgo f)) r) <;> rfl
      · rw [if_neg d, decide_eq_false (by omega), Bool.not_false, Zam, Zba rfl]
noncomputable def WT (ts : List Tx) : Nat := (ts.map fun t => (sg t).length + 1).sum
noncomputable def WL (ls : List (List Nat)) : Nat := (ls.map fun p => p.length + 1).sum
theorem WT_L (ts : List Tx) : WT ts = WL (ts.map sg) := by
  unfold WT WL
  rw [List.map_map]
  rfl
theorem Zsb : ∀ ts : List Tx, (ts.map fun t => (sg t).length).sum + ts.length = WT ts
  | [] => rfl
  | t :: ts => by
    have ih := Zsb ts
    unfold WT at ih ⊢
    rw [List.map_cons, List.sum_cons, List.map_cons, List.sum_cons, List.length_cons]
    omega
theorem Zpq (a b : List Tx) : WT (a ++ b) = WT a + WT b := by
  unfold WT
  rw [List.map_append, List.sum_append]
theorem Z0w (t : Tx) : WT [t] = (sg t).length + 1 := rfl
theorem Zxd (ts : List Tx) (k : Nat) : WT (ts.take k) ≤ WT ts ∧ WT (ts.drop k) ≤ WT ts ∧ WT (ts.take k) + WT (ts.drop k) = WT ts := by
  have h := Zpq (ts.take k) (ts.drop k)
  rw [List.take_append_drop] at h
  omega
theorem Zs8 {t : Tx} : ∀ {ts : List Tx}, t ∈ ts → (sg t).length + 1 ≤ WT ts
  | u :: ts, h => by
    have e : WT (u :: ts) = (sg u).length + 1 + WT ts := by
      unfold WT
      rw [List.map_cons, List.sum_cons]
    rcases List.mem_cons.mp h with rfl | h
    · omega
    · have := Zs8 h
      omega
theorem Zqa (x : Tx) : ∀ (ts : List Tx) (k : Nat), WT (ts.set k x) ≤ WT ts + ((sg x).length + 1)
  | [], _ => by
    rw [List.set_nil]
    omega
  | u :: ts, 0 => by
    rw [List.set_cons_zero]
    unfold WT
    rw [List.map_cons, List.sum_cons, List.map_cons, List.sum_cons]
    omega
  | u :: ts, k + 1 => by
    have ih := Zqa x ts k
    rw [List.set_cons_succ]
    unfold WT at ih ⊢
    rw [List.map_cons, List.sum_cons, List.map_cons, List.sum_cons]
    omega
theorem Zp9 : ∀ ps : List (List Nat), (TL.joinL [32] ps).length ≤ WL ps
  | [] => Nat.zero_le _
  | [p] => by
    show p.length ≤ p.length + 1 + 0
    omega
  | p :: q :: r => by
    have ih := Zp9 (q :: r)
    show (p ++ ([32] ++ TL.joinL [32] (q :: r))).length ≤ _
    unfold WL at ih ⊢
    rw [List.map_cons, List.sum_cons, List.length_append, List.length_append, List.length_singleton]
    omega
theorem Zqu {ts : List Tx} (h : WT ts ≤ 16777216) : Zj3 SP ts = some (JT ts) ∧ (sg (JT ts)).length ≤ WT ts := by
  refine ⟨Zxl (by rw [Zsb]; exact h), ?_⟩
  rw [Zx6, WT_L]
  exact Zp9 _
theorem Zr1 : ∀ (l acc : List Nat), WL (TL.spl [32] 0 acc l) = acc.length + l.length + 1
  | [], acc => rfl
  | c :: r, acc => by
    cases h : TL.pre [32] (c :: r) with
    | true =>
      rw [TL.spl_hit h]
      have ih := Zr1 r []
      show (acc.length + 1) + WL (TL.spl [32] 0 [] r) = _
      rw [ih, List.length_nil, List.length_cons]
      omega
    | false =>
      rw [TL.spl_miss h, Zr1 r (acc ++ [c]), List.length_append, List.length_singleton, List.length_cons]
      omega
theorem Zu6 (t : Tx) : WT (Zc2 t) = (sg t).length + 1 := by
  rw [WT_L, Zi8]
  unfold PARTS
  rw [Zr1, List.length_nil]
  omega
theorem Zzl (t : Tx) (h : (sg t).length ≤ 16777216) {k : Nat} (hk : k < (sg t).length) : ∃ u, Zrg t (k : Int) = some u ∧ (sg u).length = 1 := by
  unfold Zrg
  rw [if_pos (by rw [Ze1]; exact h)]
  show ∃ u, (atI (sg t) (k : Int)).bind _ = some u ∧ _
  rw [atI_nat, List.getElem?_eq_getElem hk, Option.bind_some]
  have hc : OkL [(sg t)[k]] := fun d hd => by
    rw [List.mem_singleton.mp hd]
    exact Zgo t _ (List.getElem_mem hk)
  exact ⟨TX [(sg t)[k]] hc, Zlu hc rfl, rfl⟩
theorem Zui : ∃ s, Zds = .ok s ∧ (sg s).length = 94 := by
  unfold Zds Zfw
  dsimp only
  rw [Ziv (by decide +kernel), Zaj, Zam]
  exact ⟨_, rfl, by rw [Zh2, List.length_append]; decide +kernel⟩
theorem Zkj (a : Nat) : (some ((a : Int) + 1)) = some ((a + 1 : Nat) : Int) := congrArg some (Int.natCast_succ a).symm
theorem Zk2 (t : Tx) (c : Int) (h : (sg t).length ≤ 100000) : ∃ u, Zcj t c = .ok u ∧ (sg u).length ≤ 3 * (sg t).length + 30 := by
  unfold Zcj
  obtain ⟨ds, e, hd⟩ := Zkd c [(7 : Int), 61, 94, 11, 20] (.cons (by omega) (by omega) (.cons (by omega) (by omega) (.cons (by omega) (by omega) (.cons (by omega) (by omega) (.cons (by omega) (by omega) .nil))))) (by simp)
  obtain ⟨what, place, sign, other, word, rfl, h1, h2, h3, h4, h5⟩ := hd.d5
  obtain ⟨S, es, hS⟩ := Zui
  have hW := Zu6 t
  have hn : 0 < (Zc2 t).length := List.length_pos_iff.mpr (Zl5 t)
  rw [e, Zam]
  simp only [un5]
  rw [es, Zam, Zli (by omega), Zaj, Zam, Zkz t (by omega), Zaj, Zam, Zam, Zje (by omega), Zaj, Zam]
  obtain ⟨a, ha⟩ := Int.eq_ofNat_of_zero_le (Int.emod_nonneg place (show ((sg t).length : Int) + 1 ≠ 0 by omega))
  rw [ha]
  obtain ⟨k, rfl⟩ := Int.eq_ofNat_of_zero_le h3.1
  obtain ⟨g, eg, hg⟩ := Zzl S (by omega) (k := k) (by omega)
  have c0 := Zpo t (by omega) a
  have c1 := Zi5 t (by omega) a
  have c2 := Zi5 t (by omega) (a + 1)
  by_cases w0 : what = 0
  · rw [decide_eq_true w0, Zba rfl, c0, Zaj, Zam, eg, Zaj, Zam, Ziv (by rw [Zgp, List.length_take]; omega), Zaj, Zam, c1, Zaj, Zam, Ziv (by rw [Zh2, Zgp, Zgp, List.length_append, List.length_take, List.length_drop]; omega), Zaj, Zam]
    exact ⟨_, rfl, by rw [Zh2, Zh2, Zgp, Zgp, List.length_append, List.length_append, List.length_take, List.length_drop]; omega⟩
  rw [decide_eq_false w0, Za6 rfl]
  by_cases w1 : what = 1
  · rw [decide_eq_true w1, Zba rfl, c0, Zaj, Zam, Zkj, c2, Zaj, Zam, Ziv (by rw [Zgp, Zgp, List.length_take, List.length_drop]; omega), Zaj, Zam]
    exact ⟨_, rfl, by rw [Zh2, Zgp, Zgp, List.length_append, List.length_take, List.length_drop]; omega⟩
  rw [decide_eq_false w1, Za6 rfl]
  by_cases w2 : what = 2
  · rw [decide_eq_true w2, Zba rfl, c0, Zaj, Zam, eg, Zaj, Zam, Ziv (by rw [Zgp, List.length_take]; omega), Zaj, Zam, Zkj, c2, Zaj, Zam, Ziv (by rw [Zh2, Zgp, Zgp, List.length_append, List.length_take, List.length_drop]; omega), Zaj, Zam]
    exact ⟨_, rfl, by rw [Zh2, Zh2, Zgp, Zgp, List.length_append, List.length_append, List.length_take, List.length_drop]; omega⟩
  rw [decide_eq_false w2, Za6 rfl, Zje (by omega), Zaj, Zam, Zje (by omega), Zaj, Zam]
  have p1 := Int.emod_lt_of_pos place (show 0 < ((Zc2 t).length : Int) by omega)
  have p2 := Int.emod_lt_of_pos other (show 0 < ((Zc2 t).length : Int) by omega)
  obtain ⟨i, hi⟩ := Int.eq_ofNat_of_zero_le (Int.emod_nonneg place (show ((Zc2 t).length : Int) ≠ 0 by omega))
  obtain ⟨j, hj⟩ := Int.eq_ofNat_of_zero_le (Int.emod_nonneg other (show ((Zc2 t).length : Int) ≠ 0 by omega))
  rw [hi] at p1
  rw [hj] at p2
  rw [hi, hj]
  have li : i < (Zc2 t).length := by omega
  have lj : j < (Zc2 t).length := by omega
  have gi : atI (Zc2 t) (i : Int) = some (Zc2 t)[i] := by rw [atI_nat, List.getElem?_eq_getElem li]
  have gj : atI (Zc2 t) (j : Int) = some (Zc2 t)[j] := by rw [atI_nat, List.getElem?_eq_getElem lj]
  have mi := Zs8 (List.getElem_mem li)
  have mj := Zs8 (List.getElem_mem lj)
  have cti := Zxd (Zc2 t) i
  have cti1 := Zxd (Zc2 t) (i + 1)
  have hwl := Zsb (Zc2 t)
  generalize hws : Zc2 t = ws at *
  by_cases w3 : what = 3
  · have hb : WT (ws.take i ++ ws.drop (i + 1)) ≤ 2 * WT ws := by rw [Zpq]; omega
    obtain ⟨ej, lj2⟩ := Zqu (ts := ws.take i ++ ws.drop (i + 1)) (by omega)
    rw [decide_eq_true w3, Zba rfl, Zkj, Zp5, Zhn, if_pos (by rw [List.length_take, List.length_drop]; omega), Zaj, Zam, ej, Zaj, Zam]
    exact ⟨_, rfl, by omega⟩
  rw [decide_eq_false w3, Za6 rfl]
  by_cases w4 : what = 4
  · have hb : WT (ws.take i ++ [ws[i]] ++ ws.drop i) ≤ 2 * WT ws := by rw [Zpq, Zpq, Z0w]; omega
    obtain ⟨ej, lj2⟩ := Zqu (ts := ws.take i ++ [ws[i]] ++ ws.drop i) (by omega)
    rw [decide_eq_true w4, Zba rfl, gi, Zaj, Zam, Zam, Zp5, Zhn, if_pos (by rw [List.length_take, List.length_singleton]; omega), Zaj, Zam, if_pos (by rw [List.length_append, List.length_take, List.length_singleton, List.length_drop]; omega), Zaj, Zam, ej, Zaj, Zam]
    exact ⟨_, rfl, by omega⟩
  rw [decide_eq_false w4, Za6 rfl]
  by_cases w5 : what = 5
  · have s1 := Zqa ws[j] ws i
    have s2 := Zqa ws[i] (ws.set i ws[j]) j
    obtain ⟨ej, lj2⟩ := Zqu (ts := (ws.set i ws[j]).set j ws[i]) (by omega)
    rw [decide_eq_true w5, Zba rfl, gi, Zaj, Zam, gj, Zaj, Zam, Zlt li, Zaj, Zam, Zlt (by rw [List.length_set]; exact lj), Zaj, Zam, ej, Zaj, Zam]
    exact ⟨_, rfl, by omega⟩
  rw [decide_eq_false w5, Za6 rfl]
  unfold Zfw
  dsimp only
  rw [if_pos (by decide), Zaj, Zam]
  obtain ⟨x, ex, hx⟩ := Zpw (xs := [tx "", tx "-", tx "-0", tx "0", tx "00", tx "01", tx "-01", tx "+1", tx "1-", tx "--1", tx "1000000000000", tx "999999999999"] ++ [tx "-999999999999", tx "moves", tx "stays", tx "fixed", tx "anchor", tx "seal", tx "strike", tx "Moves"]) h5.1 (by show word < 20; exact h5.2)
  have hx13 : (sg x).length ≤ 13 := by
    have : ∀ y ∈ [tx "", tx "-", tx "-0", tx "0", tx "00", tx "01", tx "-01", tx "+1", tx "1-", tx "--1", tx "1000000000000", tx "999999999999"] ++ [tx "-999999999999", tx "moves", tx "stays", tx "fixed", tx "anchor", tx "seal", tx "strike", tx "Moves"], (sg y).length ≤ 13 := by decide +kernel
    exact this x hx
  have s1 := Zqa x ws i
  obtain ⟨ej, lj2⟩ := Zqu (ts := ws.set i x) (by omega)
  rw [ex, Zaj, Zam, Zlt li, Zaj, Zam, ej, Zaj, Zam]
  exact ⟨_, rfl, by omega⟩
theorem Zrf (c : Int) : ∃ o, Zd7 c 5001 = .ok o ∧ GO o := by
  unfold Zd7
  have hs : Szs [(8 : Int), 3, 2, 5001, 5001, 5001, 10, 2, 5001, 13, 1000000000000] := by
    intro s hs
    simp only [List.mem_cons, List.not_mem_nil, or_false] at hs
    omega
  obtain ⟨ds, e, hd⟩ := Zkd c _ hs (by simp)
  match ds, hd with
  | [w, y, r, a, b, d, g, sn, k, l, f], hd =>
    obtain ⟨hw, hy, hr, ha, hb, hd', hg, hsn, hk, hl, hf, _⟩ := hd
    rw [e, Zam, show cutD [w, y, r, a, b, d, g, sn, k, l, f] none (some (6 : Int)) = [w, y, r, a, b, d] from rfl, show cutD [w, y, r, a, b, d, g, sn, k, l, f] (some (6 : Int)) none = [g, sn, k, l, f] from rfl]
    dsimp only [un6, un5, Zfw]
    have hA : N12 (cond (decide ((9 : Int) < l)) f a) := by
      unfold N12
      cases decide ((9 : Int) < l)
      · show a.natAbs < _; omega
      · show f.natAbs < _; omega
    have hB : N12 (cond (decide (sn = (1 : Int))) (-b) b) := by
      unfold N12
      cases decide (sn = (1 : Int))
      · show b.natAbs < _; omega
      · show (-b).natAbs < _; omega
    have hD : N12 d := by unfold N12; omega
    have hG : N12 g := by unfold N12; omega
    have hK : N12 k := by unfold N12; omega
    generalize (cond (decide ((9 : Int) < l)) f a) = A at *
    generalize (cond (decide (sn = (1 : Int))) (-b) b) = B at *
    have hw' : w = 0 ∨ w = 1 ∨ w = 2 ∨ w = 3 ∨ w = 4 ∨ w = 5 ∨ w = 6 ∨ w = 7 := by omega
    rcases hw' with rfl | rfl | rfl | rfl | rfl | rfl | rfl | rfl
    · exact ⟨_, rfl, Zxz (by decide +kernel) hB hA⟩
    · obtain ⟨t, et, ht⟩ := Zpw (xs := [tx "moves", tx "stays", tx "lapses"]) hy.1 hy.2
      obtain ⟨u, eu, hu⟩ := Zpw (xs := [tx "fixed", tx "anchor"]) hr.1 hr.2
      rw [et, eu]
      exact ⟨_, rfl, Z1q ht hu hA hG hB hD hK⟩
    · exact ⟨_, rfl, go_n (by decide +kernel) hA⟩
    · exact ⟨_, rfl, Zxz (by decide +kernel) hB hA⟩
    · exact ⟨_, rfl, Zzg hA hB hG⟩
    · exact ⟨_, rfl, Zxz (by decide +kernel) hB hA⟩
    · exact ⟨_, rfl, go_n (by decide +kernel) hA⟩
    · exact ⟨_, rfl, go_n (by decide +kernel) hA⟩
theorem Zis : ∀ (o : List SI), Zdg Zcg o () = .ok (.nx ())
  | [] => rfl
  | p :: o => by
    have e : Zcg () p = .ok (.nx ()) := by
      unfold Zcg Ze4
      cases p with
      | inl t => rfl
      | inr i => show bd (bd (bd (ofO (some i)) fun t2 => Zc6 t2) fun b => .ok (!b)) _ = _; rw [Zaj, Zam, Zv3]; rfl
    rw [Zi6 e, Zis o]
theorem Zq5 {o : List SI} (h : 1 ≤ o.length) : Zb0 o = .ok true := by
  unfold Zb0
  rw [decide_eq_false (by omega)]
  show aft _ _ _ = _
  rw [Zis, Ztl]
theorem Zwd {ws : List Tx} {o : List SI} (h : Zom ws = some o) : 1 ≤ o.length := by
  unfold Zom at h
  cases hw : ws.head? with
  | none => rw [hw] at h; cases h
  | some w =>
    rw [hw, Option.bind_some] at h
    cases hf : gdL FORMT w with
    | none => rw [hf] at h; cases h
    | some f =>
      rw [hf, Option.bind_some] at h
      split at h
      · obtain ⟨x, _, rfl⟩ := Option.map_eq_some_iff.mp h
        rw [List.length_cons]
        omega
      · cases h
theorem Zvt (ns : List Int) (hn : ns.length ≤ 63) : Zu3 ns = .ok true := by
  unfold Zu3
  obtain ⟨c0, e0⟩ := Zlx ns (i := 0) (by omega)
  obtain ⟨c1, e1⟩ := Zlx ns (i := 1) (by omega)
  obtain ⟨o, eo, ho⟩ := Zrf c0
  have hl := ho.len
  have hm := ho.mem
  have hol := ho.olen
  rw [e0, Zam, eo, Zam]
  obtain ⟨w, f, ps, rfl, hf, hp⟩ := ho.ex
  rw [List.getElem?_cons_zero, Zaj, Zam, show asS (.inl w) = some w from rfl, Zaj, Zam]
  have hc : cutV (Sum.inl w :: ps) (some (1 : Int)) none = some ps := by
    unfold cutV
    rw [if_pos, show (some (1 : Int)) = some ((1 : Nat) : Int) from rfl, Zhn]
    · rfl
    · rw [show (some (1 : Int)) = some ((1 : Nat) : Int) from rfl, HT.sIx_nat, List.length_cons]
      rintro ⟨h, _⟩
      omega
  rw [hc, Zaj, Zam, Znn (step := Zpk) (fun s p => rfl) ps w (fun p hp => ⟨(hm p (List.mem_cons_of_mem _ hp)).1.2, (hm p (List.mem_cons_of_mem _ hp)).2⟩) (by
    have := (Zqy hf).2
    rw [List.length_cons] at hl
    omega), Zam]
  have e : JT (w :: ps.map Zhu) = OT (.inl w :: ps) := rfl
  rw [e]
  obtain ⟨t1, et1, l1⟩ := Zk2 (OT (.inl w :: ps)) c1 (by omega)
  rw [e1, Zam, et1, Zam]
  obtain ⟨t2, et2, l2⟩ : ∃ t2, Zl0 ns t1 = .ok t2 ∧ (sg t2).length ≤ 10000 := by
    unfold Zl0
    obtain ⟨c2, e2⟩ := Zlx ns (i := 2) (by omega)
    obtain ⟨c3, e3⟩ := Zlx ns (i := 3) (by omega)
    obtain ⟨ds, ed, hd⟩ := Zkd c2 [(2 : Int)] (.cons (by omega) (by omega) .nil) (by simp)
    obtain ⟨x, rfl, hx⟩ := hd.d1
    rw [e2, Zam, ed, Zam, List.getElem?_cons_zero, Zaj, Zam, Zam]
    by_cases h1 : x = 1
    · obtain ⟨t2, et2, l2⟩ := Zk2 t1 c3 (by omega)
      rw [decide_eq_true h1, Zba rfl, e3, Zam, et2, Zam]
      exact ⟨_, rfl, by omega⟩
    · rw [decide_eq_false h1, Za6 rfl]
      exact ⟨_, rfl, by omega⟩
  rw [et2, Zam]
  have hr := Zyc t2 (by omega)
  have hd := Z0f t2 (by omega)
  unfold Zpn
  cases hq : Zom (Zc2 t2) with
  | none =>
    rw [hq] at hr hd
    rw [hr, hd]
    rfl
  | some q =>
    rw [hq] at hr hd
    have hr : Zk0 t2 = .ok q := hr
    rw [hr, hd, Zam, Zam]
    show bd (.ok (some q, none)) _ = _
    rw [Zam, Zam]
    show bd (bd (bd (ofO (some q)) fun t13 => Zb0 t13) fun c => cond c (.ok (decide (some q = some q))) (.ok false)) _ = _
    rw [Zaj, Zam, Zq5 (Zwd hq), Zam, Zba rfl, decide_eq_true rfl, Zam]
theorem Zs7 : ∀ ns : List Int, ns.length ≤ 63 → Zy2 [.sh (.lst (ns.map D.int))] fun r => r = .ok (.sh (.bl true)) := fun ns hn => Zte ns _ (by rw [Zvt ns hn]; exact rfl)
end DL
set_option Elab.async false
set_option linter.all false
set_option maxRecDepth 100000
set_option maxHeartbeats 1000000
set_option synthInstance.maxSize 2000
set_option synthInstance.maxHeartbeats 400000
namespace DL
open PySem PySem.Spec PyProof.Rows L2
noncomputable def topS (i : Nat) : Stmt := PySem.Challenge.pw_feastfall_k36_texts_that_write_no_order.main.body.getD i (.Pass ⟨0, 0, 0, 0⟩)
noncomputable abbrev Zd2 : Stmt := topS 9
noncomputable abbrev Zjx : List Str := ["word", "figures", "sign"]
theorem Zek : FnScope Zjx ["word"] (defScope Zd2) := ⟨rfl, rfl, rfl, by decide +kernel, rfl, by decide +kernel, by decide +kernel⟩
noncomputable abbrev Zd0 : Stmt := topS 10
noncomputable abbrev Zkb : List Str := ["word"]
theorem Zod : FnScope Zkb ["word"] (defScope Zd0) := ⟨rfl, rfl, rfl, by decide +kernel, rfl, by decide +kernel, by decide +kernel⟩
noncomputable abbrev Zf9 : Stmt := topS 11
noncomputable abbrev Zni : List Str := ["form", "word"]
theorem Zrj : FnScope Zni ["form", "word"] (defScope Zf9) := ⟨rfl, rfl, rfl, by decide +kernel, rfl, by decide +kernel, by decide +kernel⟩
noncomputable abbrev Znq : Stmt := topS 12
noncomputable abbrev Zxh : List Str := ["text", "words", "form", "parts", "sign", "word"]
theorem Zka : FnScope Zxh ["text"] (defScope Znq) := ⟨rfl, rfl, rfl, by decide +kernel, rfl, by decide +kernel, by decide +kernel⟩
noncomputable abbrev Zey : Stmt := topS 14
noncomputable abbrev Zkx : List Str := ["_law_script", "_law_place"]
theorem Zoj : FnScope Zkx ["_law_script", "_law_place"] (defScope Zey) := ⟨rfl, rfl, rfl, by decide +kernel, rfl, by decide +kernel, by decide +kernel⟩
noncomputable abbrev Ze2 : Stmt := topS 15
noncomputable abbrev Zla : List Str := ["_law_cell_here", "_law_one", "_law_two"]
theorem Zg5 : FnScope Zla ["_law_cell_here"] (defScope Ze2) := ⟨rfl, rfl, rfl, by decide +kernel, rfl, by decide +kernel, by decide +kernel⟩
noncomputable abbrev Zdb : Stmt := topS 16
noncomputable abbrev Zin : List Str := ["_law_cell_here", "_law_sizes", "_law_rest", "_law_found", "_law_k", "_law_size"]
theorem Zce : FnScope Zin ["_law_cell_here", "_law_sizes"] (defScope Zdb) := ⟨rfl, rfl, rfl, by decide +kernel, rfl, by decide +kernel, by decide +kernel⟩
noncomputable abbrev Zd1 : Stmt := topS 17
noncomputable abbrev Zjf : List Str := ["_law_thing"]
theorem Znw : FnScope Zjf ["_law_thing"] (defScope Zd1) := ⟨rfl, rfl, rfl, by decide +kernel, rfl, by decide +kernel, by decide +kernel⟩
noncomputable abbrev Zdy : Stmt := topS 18
noncomputable abbrev Zjv : List Str := ["_law_cell_here", "_law_near", "_law_drawn", "_law_what", "_law_way", "_law_rule", "_law_a", "_law_b", "_law_c", "_law_d", "_law_sign", "_law_e", "_law_length", "_law_far", "_law_name", "_law_sort"]
theorem Zby : FnScope Zjv ["_law_cell_here", "_law_near"] (defScope Zdy) := ⟨rfl, rfl, rfl, by decide +kernel, rfl, by decide +kernel, by decide +kernel⟩
noncomputable abbrev Zcm : Stmt := topS 19
noncomputable abbrev Zgu : List Str := ["_law_found", "_law_part"]
theorem Zgb : FnScope Zgu ["_law_found"] (defScope Zcm) := ⟨rfl, rfl, rfl, by decide +kernel, rfl, by decide +kernel, by decide +kernel⟩
noncomputable abbrev Zdt : Stmt := topS 20
noncomputable abbrev Zjy : List Str := ["_law_some"]
theorem Ziu : FnScope Zjy [] (defScope Zdt) := ⟨rfl, rfl, rfl, by decide +kernel, rfl, by decide +kernel, by decide +kernel⟩
noncomputable abbrev Zc0 : Stmt := topS 21
noncomputable abbrev Zhl : List Str := ["_law_text", "_law_cell_here", "_law_what", "_law_place", "_law_sign", "_law_other", "_law_word", "_law_signs_here", "_law_parts", "_law_at", "_law_one", "_law_two", "_law_kept", "_law_some"]
theorem Zbc : FnScope Zhl ["_law_text", "_law_cell_here"] (defScope Zc0) := ⟨rfl, rfl, rfl, by decide +kernel, rfl, by decide +kernel, by decide +kernel⟩
noncomputable abbrev Zdc : Stmt := topS 22
noncomputable abbrev Zix : List Str := ["_law_word", "_law_figures", "_law_sign"]
theorem Zdm : FnScope Zix ["_law_word"] (defScope Zdc) := ⟨rfl, rfl, rfl, by decide +kernel, rfl, by decide +kernel, by decide +kernel⟩
noncomputable abbrev Ze8 : Stmt := topS 23
noncomputable abbrev Zk8 : List Str := ["_law_name", "_law_names", "_law_forms"]
theorem Zg4 : FnScope Zk8 ["_law_name"] (defScope Ze8) := ⟨rfl, rfl, rfl, by decide +kernel, rfl, by decide +kernel, by decide +kernel⟩
noncomputable abbrev Zf4 : Stmt := topS 24
noncomputable abbrev Zno : List Str := ["_law_text", "_law_parts", "_law_form_here", "_law_order_here", "_law_sign", "_law_part", "_law_some"]
theorem Zc7 : FnScope Zno ["_law_text"] (defScope Zf4) := ⟨rfl, rfl, rfl, by decide +kernel, rfl, by decide +kernel, by decide +kernel⟩
noncomputable abbrev Zr7 : Stmt := topS 25
noncomputable abbrev Z0j : List Str := ["_law_script", "_law_order_here", "_law_text", "_law_part", "_law_found", "_law_caught", "_law_e", "_law_due_here"]
theorem Ze0 : FnScope Z0j ["_law_script"] (defScope Zr7) := ⟨rfl, rfl, rfl, by decide +kernel, rfl, by decide +kernel, by decide +kernel⟩
structure Txt (K : PySem.W.Frag) (mg : Str → Option Value) (w : World) : Prop where
  d_is_number : Zfe K mg "is_number" Zd2 ["word"]
  d_number_of : Zfe K mg "number_of" Zd0 ["word"]
  d_part_of : Zfe K mg "part_of" Zf9 ["form", "word"]
  d_read : Zfe K mg "read" Znq ["text"]
  d_law_cell : Zfe K mg "_law_cell" Zey ["_law_script", "_law_place"]
  d_law_seed : Zfe K mg "_law_seed" Ze2 ["_law_cell_here"]
  d_law_digits : Zfe K mg "_law_digits" Zdb ["_law_cell_here", "_law_sizes"]
  d_law_whole : Zfe K mg "_law_whole" Zd1 ["_law_thing"]
  d_law_order : Zfe K mg "_law_order" Zdy ["_law_cell_here", "_law_near"]
  d_law_is_order : Zfe K mg "_law_is_order" Zcm ["_law_found"]
  d_law_signs : Zfe K mg "_law_signs" Zdt []
  d_law_changed : Zfe K mg "_law_changed" Zc0 ["_law_text", "_law_cell_here"]
  d_law_number : Zfe K mg "_law_number" Zdc ["_law_word"]
  d_law_form : Zfe K mg "_law_form" Ze8 ["_law_name"]
  d_law_due : Zfe K mg "_law_due" Zf4 ["_law_text"]
  d_law : Zfe K mg "law" Zr7 ["_law_script"]
  n_bool : mg "bool" = none
  n_enumerate : mg "enumerate" = none
  n_int : mg "int" = none
  n_isinstance : mg "isinstance" = none
  n_len : mg "len" = none
  n_str : mg "str" = none
  n_tuple : mg "tuple" = none
  n_zip : mg "zip" = none
  x_NoOrder : Z0c K mg "NoOrder"
  y_FeastError : ∃ C, mg "FeastError" = some (.ref C)
  i_FeastError_NoOrder : Zmj K mg "FeastError" "NoOrder" true
  s_NoOrder_NoFeast : ∀ c, (c, true) ∈ ([(PySem.Str.ofString "NoOrder", true)] : List (Str × Bool)) → IsE K mg c "NoFeast" (isaX c (PySem.Str.ofString "NoFeast"))
  s_NoOrder_NoOrder : ∀ c, (c, true) ∈ ([(PySem.Str.ofString "NoOrder", true)] : List (Str × Bool)) → IsE K mg c "NoOrder" (isaX c (PySem.Str.ofString "NoOrder"))
  s_NoOrder_Sealed : ∀ c, (c, true) ∈ ([(PySem.Str.ofString "NoOrder", true)] : List (Str × Bool)) → IsE K mg c "Sealed" (isaX c (PySem.Str.ofString "Sealed"))
  s_NoOrder_ValueError : ∀ c, (c, true) ∈ ([(PySem.Str.ofString "NoOrder", true)] : List (Str × Bool)) → IsE K mg c "ValueError" (isaX c (PySem.Str.ofString "ValueError"))
  g_FORMS : GDict K w mg "FORMS" [(PySem.Str.ofString "year", PySem.Str.ofString "nn"), (PySem.Str.ofString "enter", PySem.Str.ofString "nnwrnnn"), (PySem.Str.ofString "strike", PySem.Str.ofString "n"), (PySem.Str.ofString "rank", PySem.Str.ofString "nn"), (PySem.Str.ofString "shut", PySem.Str.ofString "nnn"), (PySem.Str.ofString "anchor", PySem.Str.ofString "nn"), (PySem.Str.ofString "seal", PySem.Str.ofString "n"), (PySem.Str.ofString "unseal", PySem.Str.ofString "n")]
  k_FORMS : GKeys K w mg "FORMS" [PySem.Str.ofString "year", PySem.Str.ofString "enter", PySem.Str.ofString "strike", PySem.Str.ofString "rank", PySem.Str.ofString "shut", PySem.Str.ofString "anchor", PySem.Str.ofString "seal", PySem.Str.ofString "unseal"]
  t_RULES : GTup K mg "RULES" [PySem.Str.ofString "fixed", PySem.Str.ofString "anchor"]
  t_WAYS : GTup K mg "WAYS" [PySem.Str.ofString "moves", PySem.Str.ofString "stays", PySem.Str.ofString "lapses"]
section
variable {P : Program} {w : World} {K : PySem.W.Frag} {mg : Str → Option Value} {base : Heap}
theorem Zmn (T : Txt K mg w) : FnAt P w K mg base "is_number" 1 1 Zdu :=
  Zf5 ▸ Zg6 (N := Zjx) T.d_is_number Zek (by decide) Zij rfl fun f cdv A outer s H H0 S0 E hr => by
    have hu := Zdh hr
    exact (Zai (Za7 1 Zek.nd (Zac 0))
 (Zai (Zb6 (Zee hu (Zbl (Zac 0) Zb3 (Zb1 Zat)) Zar)
 (Zai (Za7 1 Zek.nd (Zbl (Zac 0) (Zb1 Zat) Zb3))
 Zay)
 Zay)
 (Zai (Zb6 (Zes (Zq9 (Zee hu (Zac 1) Zar) (Znh (Zvn (Zfs T.n_len (Zac 1)) Zat))))
 (Za8 (Zbf Zlz))
 Zay)
 (Zai (Zkm (passes_of rfl) rfl (Zqd (Zac 1)) (Zj0 2 Zek.nd)
 (Zai (Zb6 (Zja hu (Zac 2) Zar)
 (Za8 (Zbf Zlz))
 Zay)
 (Zd6 2 Zay)))
 (Za8 (Zbf (Z09 (Z1a hu (Zgv 0 hu (Zac 1)) Zar) (Ztf (Zxs hu (Zac 0) Zar)))))))))
theorem Zmz (T : Txt K mg w) : FnAt P w K mg base "number_of" 2 1 Zd8 :=
  Zf2 ▸ Zg6 (N := Zkb) T.d_number_of Zod (by decide) Zik rfl fun f cdv A outer s H H0 S0 E hr => by
    have hu := Zdh hr
    exact (Zai (Zb6 (Zqc (Zpz (Zck (Zmn T) hr (by decide) (takes_of rfl rfl rfl rfl) (Zad (Zac 0) Za5) (Zaw (Zag 0) Zau Zbq) rfl)))
 (Za8 (Zhf (T.x_NoOrder) (takes_of rfl rfl rfl rfl)))
 Zay)
 (Za8 (Zbf (Zs4 T.n_int (Zac 0)))))
theorem Zrd (T : Txt K mg w) : FnAt P w K mg base "part_of" 3 2 Zf0 :=
  Zid ▸ Zg6 (N := Zni) T.d_part_of Zrj (by decide) Zkw rfl fun f cdv A outer s H H0 S0 E hr => by
    have hu := Zdh hr
    exact (Zai (Zb6 (Zee hu (Zac 0) Zar)
 (Za8 (Zbf (Zck (Zmz T) hr (by decide) (takes_of rfl rfl rfl rfl) (Zad (Zac 1) Za5) (Zaw (Zag 1) Zau Zbq) rfl)))
 Zay)
 (Zai (Zb6 (Zes (Zq9 (Zes (Zm0 (Zee hu (Zac 0) Zar) (Zj9 (Zug T.t_WAYS (Zac 1))))) (Znh (Zes (Zm0 (Zee hu (Zac 0) Zar) (Zj9 (Zug T.t_RULES (Zac 1))))))))
 (Za8 (Zo9 1))
 Zay)
 (Za8 (Zhf (T.x_NoOrder) (takes_of rfl rfl rfl rfl)))))
theorem Zxw (T : Txt K mg w) : FnAt P w K mg base "read" 4 1 Zmt :=
  Zog ▸ Zg6 (N := Zxh) T.d_read Zka (by decide) Zta rfl fun f cdv A outer s H H0 S0 E hr => by
    have hu := Zdh hr
    exact (Zai (Za7 1 Zka.nd (Zl4 (Zac 0)))
 (Zai (Zb6 (Zru T.k_FORMS (Zgv 0 hu (Zac 1)))
 (Za8 (Zhf (T.x_NoOrder) (takes_of rfl rfl rfl rfl)))
 Zay)
 (Zai (Za7 2 Zka.nd (Z1h T.g_FORMS (Zgv 0 hu (Zac 1))))
 (Zai (Zb6 (Zx9 hu (Zfs T.n_len (Zac 1)) (Zfx (Zfs T.n_len (Zac 2)) Zat))
 (Za8 (Zhf (T.x_NoOrder) (takes_of rfl rfl rfl rfl)))
 Zay)
 (Zai (Za7 3 Zka.nd (Zdi (Zad (Zgv 0 hu (Zac 1)) Za5)))
 (Zai (Zkm (passes_of rfl) rfl (Zsd T.n_zip (Zad (Zac 2) (Zad (Zbl (Zac 1) (Zb1 Zat) Zb3) Za5))) (Zk3 rfl Zka.nd (nac (nac NamesAt.nil)))
 (Zai (Zh0 3 (Zck (Zrd T) hr (by decide) (takes_of rfl rfl rfl rfl) (Zad (Zac 4) (Zad (Zac 5) Za5)) (Zaw (Zag 4) (Zaa (Zag 5) Zau) (Zaw (Zag 5) Zau Zbq)) rfl) (hpe := fun h => pe_bm PySem.F.plainAttrs_list PySem.F.slot_list_append PySem.F.type_list_append mt_append (pv 3) (pa_cons h pa_nil)))
 (Zd6 4 (Zd6 5 Zay))))
 (Za8 (Zbf (Znu T.n_tuple (Zac 3))))))))))
theorem Zfp (T : Txt K mg w) : FnAt P w K mg base "_law_cell" 1 2 Zcv :=
  Zgy ▸ Zg6 (N := Zkx) T.d_law_cell Zoj (by decide) Zke rfl fun f cdv A outer s H H0 S0 E hr => by
    have hu := Zdh hr
    exact (Zai (Zb6 (Z0x (Zac 1) (Zfs T.n_len (Zac 0)))
 (Za8 (Zbf (Zi0 hu (Zac 0) (Zac 1))))
 Zay)
 (Za8 (Zbf Zat)))
theorem Zjb (T : Txt K mg w) : FnAt P w K mg base "_law_seed" 1 1 Zdo :=
  Zg1 ▸ Zg6 (N := Zla) T.d_law_seed Zg5 (by decide) Zkp rfl fun f cdv A outer s H H0 S0 E hr => by
    have hu := Zdh hr
    exact (Zai (Zb6 (Z2e (Zac 0) (Zwz Zat Zat))
 (Za8 (Zo9 0))
 Zay)
 (Zai (Za7 1 Zg5.nd (Zhm (Zku (Zhm (Zfx (Zku (Zac 0) Zat) Zat) Zat) Zat) Zat))
 (Zai (Za7 2 Zg5.nd (Zhm (Zku (Zhm (Zfx (Zku (Zac 0) Zat) Zat) Zat) Zat) Zat))
 (Za8 (Zbf (Zfx (Zku (Zac 1) Zat) (Zac 2)))))))
theorem Zfi (T : Txt K mg w) : FnAt P w K mg base "_law_digits" 2 2 Zcb :=
  Zfl ▸ Zg6 (N := Zin) T.d_law_digits Zce (by decide) Zg8 rfl fun f cdv A outer s H H0 S0 E hr => by
    have hu := Zdh hr
    exact (Zai (Za7 2 Zce.nd (Zck (Zjb T) hr (by decide) (takes_of rfl rfl rfl rfl) (Zad (Zac 0) Za5) (Zaw (Zag 0) Zau Zbq) rfl))
 (Zai (Za7 3 Zce.nd (Zdi Za5))
 (Zai (Zkm (passes_of rfl) rfl (Zyl T.n_enumerate (Zad (Zac 1) Za5)) (Zk3 rfl Zce.nd (nac (nac NamesAt.nil)))
 (Zai (Zb6 (Z0x (Zac 2) (Zac 5))
 (Zai (Za7 2 Zce.nd (Zck (Zjb T) hr (by decide) (takes_of rfl rfl rfl rfl) (Zad (Zfx (Zfx (Zac 2) (Zku Zat (Zac 4))) (Zhm (Zac 0) Zat)) Za5) (Zaw (Zah (Zah (Zag 2) (Zah Zap (Zag 4) Zbg) Zbb) (Zah (Zag 0) Zap Zbg) Zbb) Zau Zbq) rfl))
 Zay)
 Zay)
 (Zai (Zh0 3 (Zhm (Zac 2) (Zac 5)) (hpe := fun h => pe_bm PySem.F.plainAttrs_list PySem.F.slot_list_append PySem.F.type_list_append mt_append (pv 3) (pa_cons h pa_nil)))
 (Zai (Za7 2 Zce.nd (Z0h (Zac 2) (Zac 5)))
 (Zd6 4 (Zd6 5 Zay))))))
 (Za8 (Zo9 3)))))
theorem Zn7 (T : Txt K mg w) : FnAt P w K mg base "_law_whole" 1 1 Zeb :=
  Zge ▸ Zg6 (N := Zjf) T.d_law_whole Znw (by decide) Ziw rfl fun f cdv A outer s H H0 S0 E hr => by
    have hu := Zdh hr
    exact (Za8 (Zbf (Zt0 (Zpt T.n_isinstance T.n_int Zti Zya (Zac 0) (Zwe)) (Ztf (Z01 (Zpt T.n_isinstance T.n_bool Zr0 Zuv (Zac 0) (Zuu)))))))
theorem Zoe (T : Txt K mg w) : FnAt P w K mg base "_law_order" 3 2 Zd3 :=
  Zfz ▸ Zg6 (N := Zjv) T.d_law_order Zby (by decide) Ziq rfl fun f cdv A outer s H H0 S0 E hr => by
    have hu := Zdh hr
    exact (Zai (Za7 2 Zby.nd (Zck (Zfi T) hr (by decide) (takes_of rfl rfl rfl rfl) (Zad (Zac 0) (Zad (Zdi (Zad Zat (Zad Zat (Zad Zat (Zad (Zac 1) (Zad (Zac 1) (Zad (Zac 1) (Zad Zat (Zad Zat (Zad (Zac 1) (Zad Zat (Zad (Zwz Zat Zat) Za5)))))))))))) Za5)) (Zaw (Zag 0) (Zaa (Zef (Zaa Zap (Zaa Zap (Zaa Zap (Zaa (Zag 1) (Zaa (Zag 1) (Zaa (Zag 1) (Zaa Zap (Zaa Zap (Zaa (Zag 1) (Zaa Zap (Zaa (Zah Zap Zap Zbg) Zau)))))))))))) Zau) (Zaw (Zef (Zaa Zap (Zaa Zap (Zaa Zap (Zaa (Zag 1) (Zaa (Zag 1) (Zaa (Zag 1) (Zaa Zap (Zaa Zap (Zaa (Zag 1) (Zaa Zap (Zaa (Zah Zap Zap Zbg) Zau)))))))))))) Zau Zbq)) rfl))
 (Zai (Zr3 (Zk3 rfl Zby.nd (nac (nac (nac (nac (nac (nac NamesAt.nil))))))) (Zbl (Zac 2) Zb3 (Zb1 Zat)))
 (Zai (Zr3 (Zk3 rfl Zby.nd (nac (nac (nac (nac (nac NamesAt.nil)))))) (Zbl (Zac 2) (Zb1 Zat) Zb3))
 (Zai (Zb6 (Zvn (Zac 12) Zat)
 (Zai (Za7 6 Zby.nd (Zac 13))
 Zay)
 Zay)
 (Zai (Zb6 (Zee hu (Zac 10) Zat)
 (Zai (Za7 7 Zby.nd (Zzz (Zac 7)))
 Zay)
 Zay)
 (Zai (Za7 14 Zby.nd (Zi0 hu (Zdi (Zad Zar (Zad Zar (Zad Zar (Zad Zar (Zad Zar (Zad Zar (Zad Zar (Zad Zar Za5))))))))) (Zac 3)))
 (Zai (Zb6 (Zee hu (Zac 3) Zat)
 (Zai (Za7 15 Zby.nd (Zi0 hu (Zdi (Zad Zar (Zad Zar (Zad Zar Za5)))) (Zac 4)))
 (Za8 (Zbf (Zjz (Zad (Zac 14) (Zad (Zac 6) (Zad (Zac 9) (Zad (Zac 15) (Zad (Zi0 hu (Zdi (Zad Zar (Zad Zar Za5))) (Zac 5)) (Zad (Zac 7) (Zad (Zac 8) (Zad (Zac 11) Za5))))))))))))
 Zay)
 (Zai (Zb6 (Z10 hu (Zac 3) (Zjz (Zad Zat (Zad Zat (Zad Zat Za5)))))
 (Za8 (Zbf (Zjz (Zad (Zac 14) (Zad (Zac 6) Za5)))))
 Zay)
 (Zai (Zb6 (Zee hu (Zac 3) Zat)
 (Za8 (Zbf (Zjz (Zad (Zac 14) (Zad (Zac 6) (Zad (Zac 7) (Zad (Zac 9) Za5)))))))
 Zay)
 (Za8 (Zbf (Zjz (Zad (Zac 14) (Zad (Zac 7) (Zad (Zac 6) Za5)))))))))))))))
theorem Zjd (T : Txt K mg w) : FnAt P w K mg base "_law_is_order" 2 1 Zco :=
  Zec ▸ Zg6 (N := Zgu) T.d_law_is_order Zgb (by decide) Zf3 rfl fun f cdv A outer s H H0 S0 E hr => by
    have hu := Zdh hr
    exact (Zai (Zb6 (Zes (Zq9 (Zqc (Zpz (Zpt T.n_isinstance T.n_tuple Zpg Zs2 (Zac 0) (Zq6)))) (Znh (Zee hu (Zfs T.n_len (Zac 0)) Zat))))
 (Za8 (Zbf Zlz))
 Zay)
 (Zai (Zkm (passes_of rfl) rfl (Zwu (Zac 0)) (Zj0 1 Zgb.nd)
 (Zai (Zb6 (Zes (Zm0 (Zqc (Zpz (Zpt T.n_isinstance T.n_str Zt7 Zxp (Zac 1) (Zvo)))) (Zj9 (Zqc (Zpz (Zck (Zn7 T) hr (by decide) (takes_of rfl rfl rfl rfl) (Zad (Zac 1) Za5) (Zaw (Zag 1) Zau Zbq) rfl))))))
 (Za8 (Zbf Zlz))
 Zay)
 (Zd6 1 Zay)))
 (Za8 (Zbf Zlz))))
theorem Zm8 (T : Txt K mg w) : FnAt P w K mg base "_law_signs" 1 0 Zdv :=
  Zgc ▸ Zg6 (N := Zjy) T.d_law_signs Ziu (by decide) Zil rfl fun f cdv A outer s H H0 S0 E hr => by
    have hu := Zdh hr
    exact (Zai (Za7 0 Ziu.nd Zar)
 (Za8 (Zbf (Zgd (Zac 0) Zar))))
theorem Zgr (T : Txt K mg w) : FnAt P w K mg base "_law_changed" 3 2 Zcd :=
  Zeq ▸ Zg6 (N := Zhl) T.d_law_changed Zbc (by decide) Zgq rfl fun f cdv A outer s H H0 S0 E hr => by
    have hu := Zdh hr
    exact (Zai (Zr3 (Zk3 rfl Zbc.nd (nac (nac (nac (nac (nac NamesAt.nil)))))) (Zck (Zfi T) hr (by decide) (takes_of rfl rfl rfl rfl) (Zad (Zac 1) (Zad (Zdi (Zad Zat (Zad Zat (Zad Zat (Zad Zat (Zad Zat Za5)))))) Za5)) (Zaw (Zag 1) (Zaa (Zef (Zaa Zap (Zaa Zap (Zaa Zap (Zaa Zap (Zaa Zap Zau)))))) Zau) (Zaw (Zef (Zaa Zap (Zaa Zap (Zaa Zap (Zaa Zap (Zaa Zap Zau)))))) Zau Zbq)) rfl))
 (Zai (Za7 7 Zbc.nd (Zys (Zm8 T) hr (by decide) (takes_of rfl rfl rfl rfl)))
 (Zai (Za7 8 Zbc.nd (Zl4 (Zac 0)))
 (Zai (Za7 9 Zbc.nd (Zhm (Zac 3) (Zfx (Zfs T.n_len (Zac 0)) Zat)))
 (Zai (Zb6 (Zee hu (Zac 2) Zat)
 (Za8 (Zbf (Zgd (Zgd (Zbl (Zac 0) Zb3 (Zb1 (Zac 9))) (Zi0 hu (Zac 7) (Zac 4))) (Zbl (Zac 0) (Zb1 (Zac 9)) Zb3))))
 Zay)
 (Zai (Zb6 (Zee hu (Zac 2) Zat)
 (Za8 (Zbf (Zgd (Zbl (Zac 0) Zb3 (Zb1 (Zac 9))) (Zbl (Zac 0) (Zb1 (Zfx (Zac 9) Zat)) Zb3))))
 Zay)
 (Zai (Zb6 (Zee hu (Zac 2) Zat)
 (Za8 (Zbf (Zgd (Zgd (Zbl (Zac 0) Zb3 (Zb1 (Zac 9))) (Zi0 hu (Zac 7) (Zac 4))) (Zbl (Zac 0) (Zb1 (Zfx (Zac 9) Zat)) Zb3))))
 Zay)
 (Zai (Za7 10 Zbc.nd (Zhm (Zac 3) (Zfs T.n_len (Zac 8))))
 (Zai (Za7 11 Zbc.nd (Zhm (Zac 5) (Zfs T.n_len (Zac 8))))
 (Zai (Zb6 (Zee hu (Zac 2) Zat)
 (Za8 (Zbf (Zle (Zpu (Zbl (Zac 8) Zb3 (Zb1 (Zac 10))) (Zbl (Zac 8) (Zb1 (Zfx (Zac 10) Zat)) Zb3)))))
 Zay)
 (Zai (Zb6 (Zee hu (Zac 2) Zat)
 (Za8 (Zbf (Zle (Zpu (Zpu (Zbl (Zac 8) Zb3 (Zb1 (Zac 10))) (Zdi (Zad (Zi0 hu (Zac 8) (Zac 10)) Za5))) (Zbl (Zac 8) (Zb1 (Zac 10)) Zb3)))))
 Zay)
 (Zai (Zb6 (Zee hu (Zac 2) Zat)
 (Zai (Za7 12 Zbc.nd (Zi0 hu (Zac 8) (Zac 10)))
 (Zai (Zlo 8 hu (Zac 10) (Zi0 hu (Zac 8) (Zac 11)))
 (Zai (Zlo 8 hu (Zac 11) (Zac 12))
 (Za8 (Zw6 8 (Zbf (Zle (Zac 8))))))))
 Zay)
 (Zai (Za7 13 Zbc.nd (Zdi (Zad Zar (Zad Zar (Zad Zar (Zad Zar (Zad Zar (Zad Zar (Zad Zar (Zad Zar (Zad Zar (Zad Zar (Zad Zar (Zad Zar Za5))))))))))))))
 (Zai (Za7 13 Zbc.nd (Zpu (Zac 13) (Zdi (Zad Zar (Zad Zar (Zad Zar (Zad Zar (Zad Zar (Zad Zar (Zad Zar (Zad Zar Za5)))))))))))
 (Zai (Zlo 8 hu (Zac 10) (Zi0 hu (Zac 13) (Zac 6)))
 (Za8 (Zw6 8 (Zbf (Zle (Zac 8))))))))))))))))))))
theorem Zhr (T : Txt K mg w) : FnAt P w K mg base "_law_number" 1 1 Zcr :=
  Zfo ▸ Zg6 (N := Zix) T.d_law_number Zdm (by decide) Zhy rfl fun f cdv A outer s H H0 S0 E hr => by
    have hu := Zdh hr
    exact (Zai (Za7 1 Zdm.nd (Zac 0))
 (Zai (Zb6 (Zes (Zm0 (Zx9 hu (Zac 0) Zar) (Zj9 (Zee hu (Zgv 0 hu (Zac 0)) Zar))))
 (Zai (Za7 1 Zdm.nd (Zbl (Zac 0) (Zb1 Zat) Zb3))
 Zay)
 Zay)
 (Zai (Zb6 (Zes (Zq9 (Zee hu (Zac 1) Zar) (Zq9 (Zvn (Zfs T.n_len (Zac 1)) Zat) (Znh (Zee hu (Zac 0) Zar)))))
 (Za8 (Zbf Zhs))
 Zay)
 (Zai (Zkm (passes_of rfl) rfl (Zqd (Zac 1)) (Zj0 2 Zdm.nd)
 (Zai (Zb6 (Zja hu (Zac 2) Zar)
 (Za8 (Zbf Zhs))
 Zay)
 (Zd6 2 Zay)))
 (Zai (Zb6 (Zes (Zm0 (Zee hu (Zgv 0 hu (Zac 1)) Zar) (Zj9 (Zvn (Zfs T.n_len (Zac 1)) Zat))))
 (Za8 (Zbf Zhs))
 Zay)
 (Za8 (Zbf (Zs4 T.n_int (Zac 0)))))))))
theorem Zol (T : Txt K mg w) : FnAt P w K mg base "_law_form" 1 1 Ze9 :=
  Zg0 ▸ Zg6 (N := Zk8) T.d_law_form Zg4 (by decide) Zj5 rfl fun f cdv A outer s H H0 S0 E hr => by
    have hu := Zdh hr
    exact (Zai (Za7 1 Zg4.nd (Zdi (Zad Zar (Zad Zar (Zad Zar (Zad Zar (Zad Zar (Zad Zar (Zad Zar (Zad Zar Za5))))))))))
 (Zai (Za7 2 Zg4.nd (Zdi (Zad Zar (Zad Zar (Zad Zar (Zad Zar (Zad Zar (Zad Zar (Zad Zar (Zad Zar Za5))))))))))
 (Zai (Zb6 (Zja hu (Zac 0) (Zac 1))
 (Za8 (Zbf Zhs))
 Zay)
 (Za8 (Zbf (Zi0 hu (Zac 2) (Zzk (Zac 1) (Zac 0))))))))
theorem Zrp (T : Txt K mg w) : FnAt P w K mg base "_law_due" 2 1 Zfy :=
  Zic ▸ Zg6 (N := Zno) T.d_law_due Zc7 (by decide) Zlb rfl fun f cdv A outer s H H0 S0 E hr => by
    have hu := Zdh hr
    exact (Zai (Za7 1 Zc7.nd (Zl4 (Zac 0)))
 (Zai (Za7 2 Zc7.nd (Zck (Zol T) hr (by decide) (takes_of rfl rfl rfl rfl) (Zad (Zgv 0 hu (Zac 1)) Za5) (Zaw (Zaq (Zag 1) Zbz) Zau Zbq) rfl))
 (Zai (Zb6 (Zes (Zq9 (Zuk (Zac 2)) (Znh (Zx9 hu (Zfs T.n_len (Zac 1)) (Zfx (Zfs T.n_len (Zac 2)) Zat)))))
 (Za8 (Zbf Zhs))
 Zay)
 (Zai (Za7 3 Zc7.nd (Zdi (Zad (Zgv 0 hu (Zac 1)) Za5)))
 (Zai (Zkm (passes_of rfl) rfl (Zsd T.n_zip (Zad (Zac 2) (Zad (Zbl (Zac 1) (Zb1 Zat) Zb3) Za5))) (Zk3 rfl Zc7.nd (nac (nac NamesAt.nil)))
 (Zai (Zb6 (Zee hu (Zac 4) Zar)
 (Zai (Zb6 (Zuk (Zck (Zhr T) hr (by decide) (takes_of rfl rfl rfl rfl) (Zad (Zac 5) Za5) (Zaw (Zag 5) Zau Zbq) rfl))
 (Za8 (Zbf Zhs))
 Zay)
 (Zai (Zh0 3 (Zck (Zhr T) hr (by decide) (takes_of rfl rfl rfl rfl) (Zad (Zac 5) Za5) (Zaw (Zag 5) Zau Zbq) rfl) (hpe := fun h => pe_bm PySem.F.plainAttrs_list PySem.F.slot_list_append PySem.F.type_list_append mt_append (pv 3) (pa_cons h pa_nil)))
 Zay))
 (Zai (Za7 6 Zc7.nd (Zdi (Zad Zar (Zad Zar Za5))))
 (Zai (Zb6 (Zee hu (Zac 4) Zar)
 (Zai (Za7 6 Zc7.nd (Zdi (Zad Zar (Zad Zar (Zad Zar Za5)))))
 Zay)
 Zay)
 (Zai (Zb6 (Zja hu (Zac 5) (Zac 6))
 (Za8 (Zbf Zhs))
 Zay)
 (Zai (Zh0 3 (Zac 5) (hpe := fun h => pe_bm PySem.F.plainAttrs_list PySem.F.slot_list_append PySem.F.type_list_append mt_append (pv 3) (pa_cons h pa_nil)))
 Zay)))))
 (Zd6 4 (Zd6 5 (Zd6 6 Zay)))))
 (Za8 (Zbf (Znu T.n_tuple (Zac 3)))))))))
theorem at_law (T : Txt K mg w) {fa : Addr} (hfa : mg "law" = some (.ref fa)) : ∃ fd : FuncData, (∀ (s : Shared) (v : Value), BindsTo s fd ⟨[v], []⟩ [("_law_script", v)]) ∧ ∀ base : Heap, K.In base → base.Ns mainGlobals mg → FnOk P w K mg base (L2.CX P w) 5 fa fd ["_law_script"] (spLaw K) :=
  law_at (N := Z0j) T.d_law Ze0 (by decide) Z02 hfa (fun ns hn => by have := Zs7 ns hn; rw [Zxe] at this; exact this) fun base _ _ f cdv A outer s H H0 S0 E hr => by
    have hu := Zdh hr
    exact (Zai (Za7 1 Ze0.nd (Zck (Zoe T) hr (by decide) (takes_of rfl rfl rfl rfl) (Zad (Zck (Zfp T) hr (by decide) (takes_of rfl rfl rfl rfl) (Zad (Zac 0) (Zad Zat Za5)) (Zaw (Zag 0) (Zaa Zap Zau) (Zaw Zap Zau Zbq)) rfl) (Zad Zat Za5)) (Zaw (Zbp Zbs (Zaa (Zag 0) (Zaa Zap Zau))) (Zaa Zap Zau) (Zaw Zap Zau Zbq)) rfl))
 (Zai (Za7 2 Ze0.nd (Zgv 0 hu (Zac 1)))
 (Zai (Zkm (passes_of rfl) rfl (Zwu (Zbl (Zac 1) (Zb1 Zat) Zb3)) (Zj0 3 Ze0.nd)
 (Zai (Za7 2 Ze0.nd (Zgd (Zgd (Zac 2) Zar) (Zxq T.n_str (Zac 3))))
 (Zd6 3 Zay)))
 (Zai (Za7 2 Ze0.nd (Zck (Zgr T) hr (by decide) (takes_of rfl rfl rfl rfl) (Zad (Zac 2) (Zad (Zck (Zfp T) hr (by decide) (takes_of rfl rfl rfl rfl) (Zad (Zac 0) (Zad Zat Za5)) (Zaw (Zag 0) (Zaa Zap Zau) (Zaw Zap Zau Zbq)) rfl) Za5)) (Zaw (Zag 2) (Zaa (Zbp Zbs (Zaa (Zag 0) (Zaa Zap Zau))) Zau) (Zaw (Zbp Zbs (Zaa (Zag 0) (Zaa Zap Zau))) Zau Zbq)) rfl))
 (Zai (Zb6 (Zee hu (Zgv 0 hu (Zck (Zfi T) hr (by decide) (takes_of rfl rfl rfl rfl) (Zad (Zck (Zfp T) hr (by decide) (takes_of rfl rfl rfl rfl) (Zad (Zac 0) (Zad Zat Za5)) (Zaw (Zag 0) (Zaa Zap Zau) (Zaw Zap Zau Zbq)) rfl) (Zad (Zdi (Zad Zat Za5)) Za5)) (Zaw (Zbp Zbs (Zaa (Zag 0) (Zaa Zap Zau))) (Zaa (Zef (Zaa Zap Zau)) Zau) (Zaw (Zef (Zaa Zap Zau)) Zau Zbq)) rfl)) Zat)
 (Zai (Za7 2 Ze0.nd (Zck (Zgr T) hr (by decide) (takes_of rfl rfl rfl rfl) (Zad (Zac 2) (Zad (Zck (Zfp T) hr (by decide) (takes_of rfl rfl rfl rfl) (Zad (Zac 0) (Zad Zat Za5)) (Zaw (Zag 0) (Zaa Zap Zau) (Zaw Zap Zau Zbq)) rfl) Za5)) (Zaw (Zag 2) (Zaa (Zbp Zbs (Zaa (Zag 0) (Zaa Zap Zau))) Zau) (Zaw (Zbp Zbs (Zaa (Zag 0) (Zaa Zap Zau))) Zau Zbq)) rfl))
 Zay)
 Zay)
 (Zai (Za7 4 Ze0.nd Zhs)
 (Zai (Za7 5 Ze0.nd Zhs)
 (Zai (Zx0 (.nm T.y_FeastError (Zt4 T.i_FeastError_NoOrder Zwn) rfl (by decide) rfl rfl (fun a A d oe c pn hA hc hz hv => (Zai (Za7 5 Ze0.nd (Zjz (Zad (Zmm (T.s_NoOrder_ValueError c hc) hA hz T.n_isinstance (Zmk 6)) (Zad (Zmm (T.s_NoOrder_NoOrder c hc) hA hz T.n_isinstance (Zmk 6)) (Zad (Zmm (T.s_NoOrder_NoFeast c hc) hA hz T.n_isinstance (Zmk 6)) (Zad (Zmm (T.s_NoOrder_Sealed c hc) hA hz T.n_isinstance (Zmk 6)) Za5))))))
 Zay)) (fun a c => (Zae (Zao Za2 (Zm9 (Zaa (Zaq Zhh Zcz) (Zaa (Zaq Zhh Zcz) (Zaa (Zaq Zhh Zcz) (Zaa (Zaq Zhh Zcz) Zau)))))) Zax)) .nil) (takes_of rfl rfl rfl rfl) Ze0.nd (fun W1 pn xe tkT hpT => (Zai (Za7 4 Ze0.nd (Zck (Zxw T) hr (by decide) tkT (Zad (Zac 2) Za5) (Zaw (Zag 2) Zau Zbq) rfl))
 Zay)) (Zae (Zao Za2 (Zbp Ztg (Zaa (Zag 2) Zau))) Zax))
 (Zai (Za7 7 Ze0.nd (Zck (Zrp T) hr (by decide) (takes_of rfl rfl rfl rfl) (Zad (Zac 2) Za5) (Zaw (Zag 2) Zau Zbq) rfl))
 (Zai (Zb6 (Zuk (Zac 7))
 (Za8 (Zbf (Zxs hu (Zac 5) (Zjz (Zad Zlz (Zad Zlz (Zad Zlz (Zad Zlz Za5))))))))
 Zay)
 (Za8 (Zbf (Zt0 (Zz9 (Zac 5)) (Zt0 (Zck (Zjd T) hr (by decide) (takes_of rfl rfl rfl rfl) (Zad (Zac 4) Za5) (Zaw (Zag 4) Zau Zbq) rfl) (Ztf (Zxs hu (Zac 4) (Zac 7)))))))))))))))))
end
theorem all_mk {K : PySem.W.Frag} {w : World} {h : Heap} {mg : Str → Option Value} (X : K.In h) (G : h.Ns mainGlobals mg)
    {f0 f1 f2 f3 f4 f5 f6 f7 f8 f9 f10 f11 f12 f13 f14 f15 : Addr} {od0 an0 od1 an1 od2 an2 od3 an3 od4 an4 od5 an5 od6 an6 od7 an7 od8 an8 od9 an9 od10 an10 od11 an11 od12 an12 od13 an13 od14 an14 od15 an15 : Option Addr} {sl0 sl1 sl2 sl3 sl4 sl5 sl6 sl7 sl8 sl9 sl10 sl11 sl12 sl13 sl14 sl15 : Array (Option Value)} {oc0 kV0 dc0 pm0 cd0 ct0 oc1 kV1 dc1 pm1 cd1 ct1 oc2 kV2 dc2 pm2 cd2 ct2 oc3 kV3 dc3 pm3 cd3 ct3 oc4 kV4 dc4 pm4 cd4 ct4 oc5 kV5 dc5 pm5 cd5 ct5 oc6 kV6 dc6 pm6 cd6 ct6 oc7 kV7 dc7 pm7 cd7 ct7 oc8 kV8 dc8 pm8 cd8 ct8 oc9 kV9 dc9 pm9 cd9 ct9 oc10 kV10 dc10 pm10 cd10 ct10 oc11 kV11 dc11 pm11 cd11 ct11 oc12 kV12 dc12 pm12 cd12 ct12 oc13 kV13 dc13 pm13 cd13 ct13 oc14 kV14 dc14 pm14 cd14 ct14 oc15 kV15 dc15 pm15 cd15 ct15 : Value} {e_NoOrder : Addr} {e_FeastError : Addr} {e_NoFeast : Addr} {e_Sealed : Addr} {gd_FORMS : Addr} {ge_FORMS : Array DictEntry} {gn_FORMS : Nat} {gt_FORMS_0 : Tok} {gt_FORMS_1 : Tok} {gt_FORMS_2 : Tok} {gt_FORMS_3 : Tok} {gt_FORMS_4 : Tok} {gt_FORMS_5 : Tok} {gt_FORMS_6 : Tok} {gt_FORMS_7 : Tok} {gt_RULES : Addr} {go_RULES : Obj} {gi_RULES : Array Value} {gm_RULES : Nat} {gt_WAYS : Addr} {go_WAYS : Obj} {gi_WAYS : Array Value} {gm_WAYS : Nat}
    (a0 : PySem.W.nsIn K mainGlobals "is_number" = some (some (.ref f0))) (l0 : K.lookup f0 = some ⟨oc0, od0, .func (PySem.W.fnOf "is_number" "is_number" (defArgs Zd2) (defBody Zd2) (defScope Zd2) .none kV0 dc0 pm0 an0 cd0 ct0), sl0⟩) (c0 : PySem.W.codeIn K cd0 "is_number" = true) (k0 : PySem.W.keepIn K (.ref f0) = true)
    (a1 : PySem.W.nsIn K mainGlobals "number_of" = some (some (.ref f1))) (l1 : K.lookup f1 = some ⟨oc1, od1, .func (PySem.W.fnOf "number_of" "number_of" (defArgs Zd0) (defBody Zd0) (defScope Zd0) .none kV1 dc1 pm1 an1 cd1 ct1), sl1⟩) (c1 : PySem.W.codeIn K cd1 "number_of" = true) (k1 : PySem.W.keepIn K (.ref f1) = true)
    (a2 : PySem.W.nsIn K mainGlobals "part_of" = some (some (.ref f2))) (l2 : K.lookup f2 = some ⟨oc2, od2, .func (PySem.W.fnOf "part_of" "part_of" (defArgs Zf9) (defBody Zf9) (defScope Zf9) .none kV2 dc2 pm2 an2 cd2 ct2), sl2⟩) (c2 : PySem.W.codeIn K cd2 "part_of" = true) (k2 : PySem.W.keepIn K (.ref f2) = true)
    (a3 : PySem.W.nsIn K mainGlobals "read" = some (some (.ref f3))) (l3 : K.lookup f3 = some ⟨oc3, od3, .func (PySem.W.fnOf "read" "read" (defArgs Znq) (defBody Znq) (defScope Znq) .none kV3 dc3 pm3 an3 cd3 ct3), sl3⟩) (c3 : PySem.W.codeIn K cd3 "read" = true) (k3 : PySem.W.keepIn K (.ref f3) = true)
    (a4 : PySem.W.nsIn K mainGlobals "_law_cell" = some (some (.ref f4))) (l4 : K.lookup f4 = some ⟨oc4, od4, .func (PySem.W.fnOf "_law_cell" "_law_cell" (defArgs Zey) (defBody Zey) (defScope Zey) .none kV4 dc4 pm4 an4 cd4 ct4), sl4⟩) (c4 : PySem.W.codeIn K cd4 "_law_cell" = true) (k4 : PySem.W.keepIn K (.ref f4) = true)
    (a5 : PySem.W.nsIn K mainGlobals "_law_seed" = some (some (.ref f5))) (l5 : K.lookup f5 = some ⟨oc5, od5, .func (PySem.W.fnOf "_law_seed" "_law_seed" (defArgs Ze2) (defBody Ze2) (defScope Ze2) .none kV5 dc5 pm5 an5 cd5 ct5), sl5⟩) (c5 : PySem.W.codeIn K cd5 "_law_seed" = true) (k5 : PySem.W.keepIn K (.ref f5) = true)
    (a6 : PySem.W.nsIn K mainGlobals "_law_digits" = some (some (.ref f6))) (l6 : K.lookup f6 = some ⟨oc6, od6, .func (PySem.W.fnOf "_law_digits" "_law_digits" (defArgs Zdb) (defBody Zdb) (defScope Zdb) .none kV6 dc6 pm6 an6 cd6 ct6), sl6⟩) (c6 : PySem.W.codeIn K cd6 "_law_digits" = true) (k6 : PySem.W.keepIn K (.ref f6) = true)
    (a7 : PySem.W.nsIn K mainGlobals "_law_whole" = some (some (.ref f7))) (l7 : K.lookup f7 = some ⟨oc7, od7, .func (PySem.W.fnOf "_law_whole" "_law_whole" (defArgs Zd1) (defBody Zd1) (defScope Zd1) .none kV7 dc7 pm7 an7 cd7 ct7), sl7⟩) (c7 : PySem.W.codeIn K cd7 "_law_whole" = true) (k7 : PySem.W.keepIn K (.ref f7) = true)
    (a8 : PySem.W.nsIn K mainGlobals "_law_order" = some (some (.ref f8))) (l8 : K.lookup f8 = some ⟨oc8, od8, .func (PySem.W.fnOf "_law_order" "_law_order" (defArgs Zdy) (defBody Zdy) (defScope Zdy) .none kV8 dc8 pm8 an8 cd8 ct8), sl8⟩) (c8 : PySem.W.codeIn K cd8 "_law_order" = true) (k8 : PySem.W.keepIn K (.ref f8) = true)
    (a9 : PySem.W.nsIn K mainGlobals "_law_is_order" = some (some (.ref f9))) (l9 : K.lookup f9 = some ⟨oc9, od9, .func (PySem.W.fnOf "_law_is_order" "_law_is_order" (defArgs Zcm) (defBody Zcm) (defScope Zcm) .none kV9 dc9 pm9 an9 cd9 ct9), sl9⟩) (c9 : PySem.W.codeIn K cd9 "_law_is_order" = true) (k9 : PySem.W.keepIn K (.ref f9) = true)
    (a10 : PySem.W.nsIn K mainGlobals "_law_signs" = some (some (.ref f10))) (l10 : K.lookup f10 = some ⟨oc10, od10, .func (PySem.W.fnOf "_law_signs" "_law_signs" (defArgs Zdt) (defBody Zdt) (defScope Zdt) .none kV10 dc10 pm10 an10 cd10 ct10), sl10⟩) (c10 : PySem.W.codeIn K cd10 "_law_signs" = true) (k10 : PySem.W.keepIn K (.ref f10) = true)
    (a11 : PySem.W.nsIn K mainGlobals "_law_changed" = some (some (.ref f11))) (l11 : K.lookup f11 = some ⟨oc11, od11, .func (PySem.W.fnOf "_law_changed" "_law_changed" (defArgs Zc0) (defBody Zc0) (defScope Zc0) .none kV11 dc11 pm11 an11 cd11 ct11), sl11⟩) (c11 : PySem.W.codeIn K cd11 "_law_changed" = true) (k11 : PySem.W.keepIn K (.ref f11) = true)
    (a12 : PySem.W.nsIn K mainGlobals "_law_number" = some (some (.ref f12))) (l12 : K.lookup f12 = some ⟨oc12, od12, .func (PySem.W.fnOf "_law_number" "_law_number" (defArgs Zdc) (defBody Zdc) (defScope Zdc) .none kV12 dc12 pm12 an12 cd12 ct12), sl12⟩) (c12 : PySem.W.codeIn K cd12 "_law_number" = true) (k12 : PySem.W.keepIn K (.ref f12) = true)
    (a13 : PySem.W.nsIn K mainGlobals "_law_form" = some (some (.ref f13))) (l13 : K.lookup f13 = some ⟨oc13, od13, .func (PySem.W.fnOf "_law_form" "_law_form" (defArgs Ze8) (defBody Ze8) (defScope Ze8) .none kV13 dc13 pm13 an13 cd13 ct13), sl13⟩) (c13 : PySem.W.codeIn K cd13 "_law_form" = true) (k13 : PySem.W.keepIn K (.ref f13) = true)
    (a14 : PySem.W.nsIn K mainGlobals "_law_due" = some (some (.ref f14))) (l14 : K.lookup f14 = some ⟨oc14, od14, .func (PySem.W.fnOf "_law_due" "_law_due" (defArgs Zf4) (defBody Zf4) (defScope Zf4) .none kV14 dc14 pm14 an14 cd14 ct14), sl14⟩) (c14 : PySem.W.codeIn K cd14 "_law_due" = true) (k14 : PySem.W.keepIn K (.ref f14) = true)
    (a15 : PySem.W.nsIn K mainGlobals "law" = some (some (.ref f15))) (l15 : K.lookup f15 = some ⟨oc15, od15, .func (PySem.W.fnOf "law" "law" (defArgs Zr7) (defBody Zr7) (defScope Zr7) .none kV15 dc15 pm15 an15 cd15 ct15), sl15⟩) (c15 : PySem.W.codeIn K cd15 "law" = true) (k15 : PySem.W.keepIn K (.ref f15) = true)
    (z_bool : PySem.W.nsIn K mainGlobals "bool" = some none)
    (z_enumerate : PySem.W.nsIn K mainGlobals "enumerate" = some none)
    (z_int : PySem.W.nsIn K mainGlobals "int" = some none)
    (z_isinstance : PySem.W.nsIn K mainGlobals "isinstance" = some none)
    (z_len : PySem.W.nsIn K mainGlobals "len" = some none)
    (z_str : PySem.W.nsIn K mainGlobals "str" = some none)
    (z_tuple : PySem.W.nsIn K mainGlobals "tuple" = some none)
    (z_zip : PySem.W.nsIn K mainGlobals "zip" = some none)
    (xa_NoOrder : PySem.W.nsIn K mainGlobals "NoOrder" = some (some (.ref e_NoOrder))) (xe_NoOrder : PySem.W.excIn K e_NoOrder [.type "ValueError", .type "Exception", .type "BaseException", .type "object"] "ValueError.__new__" = true) (xk_NoOrder : PySem.W.keepIn K (.ref e_NoOrder) = true) (xb_NoOrder : PySem.W.subIn K (.ref e_NoOrder) (.type "BaseException") = some true) (xt_NoOrder : PySem.W.typeIn K (.ref e_NoOrder) = some (.type "type")) (xi_NoOrder : PySem.W.isClsIn K e_NoOrder = true)
    (xa_FeastError : PySem.W.nsIn K mainGlobals "FeastError" = some (some (.ref e_FeastError)))
    (xa_NoFeast : PySem.W.nsIn K mainGlobals "NoFeast" = some (some (.ref e_NoFeast)))
    (xa_Sealed : PySem.W.nsIn K mainGlobals "Sealed" = some (some (.ref e_Sealed)))
    (z_ValueError : PySem.W.nsIn K mainGlobals "ValueError" = some none)
    (xo0_FeastError : PySem.W.subIn K (.ref e_FeastError) (.type "BaseException") = some true)
    (xo1_FeastError : PySem.W.hasDictIn K e_FeastError = true)
    (xo2_FeastError : PySem.W.typeIn K (.ref e_FeastError) = some (.type "type"))
    (xo3_FeastError : PySem.W.subIn K (.ref e_FeastError) (.ref e_FeastError) = some true)
    (xo0_NoFeast : PySem.W.subIn K (.ref e_NoFeast) (.type "BaseException") = some true)
    (xo1_NoFeast : PySem.W.hasDictIn K e_NoFeast = true)
    (xo2_NoFeast : PySem.W.typeIn K (.ref e_NoFeast) = some (.type "type"))
    (xo3_NoFeast : PySem.W.subIn K (.ref e_NoFeast) (.ref e_NoFeast) = some true)
    (xo0_NoOrder : PySem.W.subIn K (.ref e_NoOrder) (.type "BaseException") = some true)
    (xo1_NoOrder : PySem.W.hasDictIn K e_NoOrder = true)
    (xo2_NoOrder : PySem.W.typeIn K (.ref e_NoOrder) = some (.type "type"))
    (xo3_NoOrder : PySem.W.subIn K (.ref e_NoOrder) (.ref e_NoOrder) = some true)
    (xo0_Sealed : PySem.W.subIn K (.ref e_Sealed) (.type "BaseException") = some true)
    (xo1_Sealed : PySem.W.hasDictIn K e_Sealed = true)
    (xo2_Sealed : PySem.W.typeIn K (.ref e_Sealed) = some (.type "type"))
    (xo3_Sealed : PySem.W.subIn K (.ref e_Sealed) (.ref e_Sealed) = some true)
    (xm_FeastError_NoOrder : PySem.W.subIn K (.ref e_NoOrder) (.ref e_FeastError) = some true)
    (xq0_NoOrder : PySem.W.findIn K (.ref e_NoOrder) "__getattribute__" = some (some (.builtin "BaseException.__getattribute__")))
    (xq1_NoOrder : PySem.W.findIn K (.ref e_NoOrder) "__getattr__" = some none)
    (xq2_NoOrder : PySem.W.subIn K (.ref e_NoOrder) (.type "BaseException") = some true)
    (xq3_NoOrder : PySem.W.hasDictIn K e_NoOrder = true)
    (xq4_NoOrder : PySem.W.findIn K (.ref e_NoOrder) "__class__" = some (some (.builtin "object.__class__")))
    (xq5_NoOrder : PySem.W.specialIn K (.builtin "object.__class__") "__get__" = some (some (.builtin "getset_descriptor.__get__")))
    (xq6_NoOrder : PySem.W.takesIn K (.builtin "object.__class__") = some true)
    (xq7_NoOrder : PySem.W.mroIn K e_NoOrder (.type "object") = some true)
    (xm_NoFeast_NoOrder : PySem.W.subIn K (.ref e_NoOrder) (.ref e_NoFeast) = some false)
    (xm_NoOrder_NoOrder : PySem.W.subIn K (.ref e_NoOrder) (.ref e_NoOrder) = some true)
    (xm_Sealed_NoOrder : PySem.W.subIn K (.ref e_NoOrder) (.ref e_Sealed) = some false)
    (xs_NoOrder_ValueError : PySem.W.subIn K (.ref e_NoOrder) (.type "ValueError") = some true)
    (ga_FORMS : PySem.W.nsIn K mainGlobals "FORMS" = some (some (.ref gd_FORMS))) (gl_FORMS : K.lookup gd_FORMS = some ⟨.type "dict", none, .dict ge_FORMS gn_FORMS, #[]⟩) (gk_FORMS : PySem.W.KeysLit w.params ge_FORMS.toList) (gv_FORMS_0 : PySem.W.nsIn K gd_FORMS "year" = some (some (.str "nn" gt_FORMS_0))) (gv_FORMS_1 : PySem.W.nsIn K gd_FORMS "enter" = some (some (.str "nnwrnnn" gt_FORMS_1))) (gv_FORMS_2 : PySem.W.nsIn K gd_FORMS "strike" = some (some (.str "n" gt_FORMS_2))) (gv_FORMS_3 : PySem.W.nsIn K gd_FORMS "rank" = some (some (.str "nn" gt_FORMS_3))) (gv_FORMS_4 : PySem.W.nsIn K gd_FORMS "shut" = some (some (.str "nnn" gt_FORMS_4))) (gv_FORMS_5 : PySem.W.nsIn K gd_FORMS "anchor" = some (some (.str "nn" gt_FORMS_5))) (gv_FORMS_6 : PySem.W.nsIn K gd_FORMS "seal" = some (some (.str "n" gt_FORMS_6))) (gv_FORMS_7 : PySem.W.nsIn K gd_FORMS "unseal" = some (some (.str "n" gt_FORMS_7)))
    (kk_FORMS : ge_FORMS.toList.map He.keyOf = He.keysIn w.params [PySem.Str.ofString "year", PySem.Str.ofString "enter", PySem.Str.ofString "strike", PySem.Str.ofString "rank", PySem.Str.ofString "shut", PySem.Str.ofString "anchor", PySem.Str.ofString "seal", PySem.Str.ofString "unseal"]) (ks_FORMS : (gd_FORMS == sysModules) = false)
    (ta_RULES : PySem.W.nsIn K mainGlobals "RULES" = some (some (.ref gt_RULES))) (tl_RULES : K.lookup gt_RULES = some go_RULES) (tc_RULES : go_RULES.cls = .type "tuple") (td_RULES : go_RULES.data = .seq gi_RULES gm_RULES) (tz_RULES : gi_RULES.size ≤ sizeLine) (tv_RULES : Vals ([PySem.Str.ofString "fixed", PySem.Str.ofString "anchor"].map V.str) gi_RULES.toList)
    (ta_WAYS : PySem.W.nsIn K mainGlobals "WAYS" = some (some (.ref gt_WAYS))) (tl_WAYS : K.lookup gt_WAYS = some go_WAYS) (tc_WAYS : go_WAYS.cls = .type "tuple") (td_WAYS : go_WAYS.data = .seq gi_WAYS gm_WAYS) (tz_WAYS : gi_WAYS.size ≤ sizeLine) (tv_WAYS : Vals ([PySem.Str.ofString "moves", PySem.Str.ofString "stays", PySem.Str.ofString "lapses"].map V.str) gi_WAYS.toList) : Txt K mg w :=
  { d_is_number := Zdk X G a0 l0 c0 k0 fun us hl => match us, hl with | [_], _ => rfl,
    d_number_of := Zdk X G a1 l1 c1 k1 fun us hl => match us, hl with | [_], _ => rfl,
    d_part_of := Zdk X G a2 l2 c2 k2 fun us hl => match us, hl with | [_, _], _ => rfl,
    d_read := Zdk X G a3 l3 c3 k3 fun us hl => match us, hl with | [_], _ => rfl,
    d_law_cell := Zdk X G a4 l4 c4 k4 fun us hl => match us, hl with | [_, _], _ => rfl,
    d_law_seed := Zdk X G a5 l5 c5 k5 fun us hl => match us, hl with | [_], _ => rfl,
    d_law_digits := Zdk X G a6 l6 c6 k6 fun us hl => match us, hl with | [_, _], _ => rfl,
    d_law_whole := Zdk X G a7 l7 c7 k7 fun us hl => match us, hl with | [_], _ => rfl,
    d_law_order := Zdk X G a8 l8 c8 k8 fun us hl => match us, hl with | [_, _], _ => rfl,
    d_law_is_order := Zdk X G a9 l9 c9 k9 fun us hl => match us, hl with | [_], _ => rfl,
    d_law_signs := Zdk X G a10 l10 c10 k10 fun us hl => match us, hl with | [], _ => rfl,
    d_law_changed := Zdk X G a11 l11 c11 k11 fun us hl => match us, hl with | [_, _], _ => rfl,
    d_law_number := Zdk X G a12 l12 c12 k12 fun us hl => match us, hl with | [_], _ => rfl,
    d_law_form := Zdk X G a13 l13 c13 k13 fun us hl => match us, hl with | [_], _ => rfl,
    d_law_due := Zdk X G a14 l14 c14 k14 fun us hl => match us, hl with | [_], _ => rfl,
    d_law := Zdk X G a15 l15 c15 k15 fun us hl => match us, hl with | [_], _ => rfl,
    n_bool := PySem.W.mg_none_of X G z_bool,
    n_enumerate := PySem.W.mg_none_of X G z_enumerate,
    n_int := PySem.W.mg_none_of X G z_int,
    n_isinstance := PySem.W.mg_none_of X G z_isinstance,
    n_len := PySem.W.mg_none_of X G z_len,
    n_str := PySem.W.mg_none_of X G z_str,
    n_tuple := PySem.W.mg_none_of X G z_tuple,
    n_zip := PySem.W.mg_none_of X G z_zip,
    x_NoOrder := ⟨e_NoOrder, PySem.W.mg_of X G xa_NoOrder, xe_NoOrder, xk_NoOrder, xb_NoOrder, xt_NoOrder, xi_NoOrder⟩,
    y_FeastError := ⟨e_FeastError, PySem.W.mg_of X G xa_FeastError⟩,
    i_FeastError_NoOrder := ⟨e_NoOrder, e_FeastError, PySem.W.mg_of X G xa_NoOrder, PySem.W.mg_of X G xa_FeastError, PySem.W.exm_ref xo0_FeastError xo1_FeastError xo2_FeastError xm_FeastError_NoOrder⟩,
    s_NoOrder_NoFeast := (Zht ⟨e_NoOrder, PySem.W.mg_of X G xa_NoOrder, ⟨xq0_NoOrder, xq1_NoOrder, xq2_NoOrder, xq3_NoOrder, xq4_NoOrder, xq5_NoOrder, xq6_NoOrder, xq7_NoOrder⟩, .inl ⟨e_NoFeast, PySem.W.mg_of X G xa_NoFeast, Zlg xo1_NoFeast xo2_NoFeast xo3_NoFeast xm_NoFeast_NoOrder⟩⟩ Zi4),
    s_NoOrder_NoOrder := (Zht ⟨e_NoOrder, PySem.W.mg_of X G xa_NoOrder, ⟨xq0_NoOrder, xq1_NoOrder, xq2_NoOrder, xq3_NoOrder, xq4_NoOrder, xq5_NoOrder, xq6_NoOrder, xq7_NoOrder⟩, .inl ⟨e_NoOrder, PySem.W.mg_of X G xa_NoOrder, Zlg xo1_NoOrder xo2_NoOrder xo3_NoOrder xm_NoOrder_NoOrder⟩⟩ Zi4),
    s_NoOrder_Sealed := (Zht ⟨e_NoOrder, PySem.W.mg_of X G xa_NoOrder, ⟨xq0_NoOrder, xq1_NoOrder, xq2_NoOrder, xq3_NoOrder, xq4_NoOrder, xq5_NoOrder, xq6_NoOrder, xq7_NoOrder⟩, .inl ⟨e_Sealed, PySem.W.mg_of X G xa_Sealed, Zlg xo1_Sealed xo2_Sealed xo3_Sealed xm_Sealed_NoOrder⟩⟩ Zi4),
    s_NoOrder_ValueError := (Zht ⟨e_NoOrder, PySem.W.mg_of X G xa_NoOrder, ⟨xq0_NoOrder, xq1_NoOrder, xq2_NoOrder, xq3_NoOrder, xq4_NoOrder, xq5_NoOrder, xq6_NoOrder, xq7_NoOrder⟩, .inr ⟨"ValueError", PySem.W.mg_none_of X G z_ValueError, by decide +kernel, by decide, Zwp (by decide +kernel) xs_NoOrder_ValueError⟩⟩ Zi4),
    g_FORMS := Zwa (PySem.W.mg_of X G ga_FORMS) gl_FORMS gk_FORMS fun p hp => (by
      simp only [List.mem_cons, List.not_mem_nil, or_false] at hp
      rcases hp with rfl | rfl | rfl | rfl | rfl | rfl | rfl | rfl
      · exact ⟨_, gv_FORMS_0⟩
      · exact ⟨_, gv_FORMS_1⟩
      · exact ⟨_, gv_FORMS_2⟩
      · exact ⟨_, gv_FORMS_3⟩
      · exact ⟨_, gv_FORMS_4⟩
      · exact ⟨_, gv_FORMS_5⟩
      · exact ⟨_, gv_FORMS_6⟩
      · exact ⟨_, gv_FORMS_7⟩),
    k_FORMS := Zvc (PySem.W.mg_of X G ga_FORMS) gl_FORMS kk_FORMS ks_FORMS,
    t_RULES := Ztd (PySem.W.mg_of X G ta_RULES) tl_RULES tc_RULES td_RULES tz_RULES tv_RULES,
    t_WAYS := Ztd (PySem.W.mg_of X G ta_WAYS) tl_WAYS tc_WAYS td_WAYS tz_WAYS tv_WAYS }
end DL
open PySem PySem.Spec PyProof.Rows L2
set_option maxRecDepth 100000 in
set_option maxHeartbeats 0 in
theorem PySem.Challenge.cw_feastfall_k36_texts_that_write_no_order_holds : PySem.Challenge.rw_feastfall_k36_texts_that_write_no_order.Holds := by
  w_on; o_law; k_head; (case hw => w_witness2)
  k_fill
  refine L2.walk_of (l := PySem.Challenge.rw_feastfall_k36_texts_that_write_no_order) (n := 63) (k := 5) (x := "_law_script") (CX := fun w => L2.CX PySem.Challenge.rw_feastfall_k36_texts_that_write_no_order.prog w) (sp := fun w => DL.spLaw _) rfl (by decide) rfl ⟨rfl, by decide, by decide⟩ (fun w h Y => PySem.W.kIn_of Y) ?F (fun _ _ a ns hl _ hS => ⟨a, ns, rfl, hS, hl, fun _ => rfl⟩) (fun _ _ _ _ _ h => DL.noCX h)
  case F =>
    intro w mg fa h KX G hmg
    refine DL.at_law (?T) hmg
    refine' DL.all_mk KX G ?a0 ?l0 ?c0 ?k0 ?a1 ?l1 ?c1 ?k1 ?a2 ?l2 ?c2 ?k2 ?a3 ?l3 ?c3 ?k3 ?a4 ?l4 ?c4 ?k4 ?a5 ?l5 ?c5 ?k5 ?a6 ?l6 ?c6 ?k6 ?a7 ?l7 ?c7 ?k7 ?a8 ?l8 ?c8 ?k8 ?a9 ?l9 ?c9 ?k9 ?a10 ?l10 ?c10 ?k10 ?a11 ?l11 ?c11 ?k11 ?a12 ?l12 ?c12 ?k12 ?a13 ?l13 ?c13 ?k13 ?a14 ?l14 ?c14 ?k14 ?a15 ?l15 ?c15 ?k15 ?z_bool ?z_enumerate ?z_int ?z_isinstance ?z_len ?z_str ?z_tuple ?z_zip ?xa_NoOrder ?xe_NoOrder ?xk_NoOrder ?xb_NoOrder ?xt_NoOrder ?xi_NoOrder ?xa_FeastError ?xa_NoFeast ?xa_Sealed ?z_ValueError ?xo0_FeastError ?xo1_FeastError ?xo2_FeastError ?xo3_FeastError ?xo0_NoFeast ?xo1_NoFeast ?xo2_NoFeast ?xo3_NoFeast ?xo0_NoOrder ?xo1_NoOrder ?xo2_NoOrder ?xo3_NoOrder ?xo0_Sealed ?xo1_Sealed ?xo2_Sealed ?xo3_Sealed ?xm_FeastError_NoOrder ?xq0_NoOrder ?xq1_NoOrder ?xq2_NoOrder ?xq3_NoOrder ?xq4_NoOrder ?xq5_NoOrder ?xq6_NoOrder ?xq7_NoOrder ?xm_NoFeast_NoOrder ?xm_NoOrder_NoOrder ?xm_Sealed_NoOrder ?xs_NoOrder_ValueError ?ga_FORMS ?gl_FORMS ?gk_FORMS ?gv_FORMS_0 ?gv_FORMS_1 ?gv_FORMS_2 ?gv_FORMS_3 ?gv_FORMS_4 ?gv_FORMS_5 ?gv_FORMS_6 ?gv_FORMS_7 ?kk_FORMS ?ks_FORMS ?ta_RULES ?tl_RULES ?tc_RULES ?td_RULES ?tz_RULES ?tv_RULES ?ta_WAYS ?tl_WAYS ?tc_WAYS ?td_WAYS ?tz_WAYS ?tv_WAYS
    (case a0 => k_is)
    (case l0 => k_is)
    (case c0 => k_is)
    (case k0 => k_is)
    (case a1 => k_is)
    (case l1 => k_is)
    (case c1 => k_is)
    (case k1 => k_is)
    (case a2 => k_is)
    (case l2 => k_is)
    (case c2 => k_is)
    (case k2 => k_is)
    (case a3 => k_is)
    (case l3 => k_is)
    (case c3 => k_is)
    (case k3 => k_is)
    (case a4 => k_is)
    (case l4 => k_is)
    (case c4 => k_is)
    (case k4 => k_is)
    (case a5 => k_is)
    (case l5 => k_is)
    (case c5 => k_is)
    (case k5 => k_is)
    (case a6 => k_is)
    (case l6 => k_is)
    (case c6 => k_is)
    (case k6 => k_is)
    (case a7 => k_is)
    (case l7 => k_is)
    (case c7 => k_is)
    (case k7 => k_is)
    (case a8 => k_is)
    (case l8 => k_is)
    (case c8 => k_is)
    (case k8 => k_is)
    (case a9 => k_is)
    (case l9 => k_is)
    (case c9 => k_is)
    (case k9 => k_is)
    (case a10 => k_is)
    (case l10 => k_is)
    (case c10 => k_is)
    (case k10 => k_is)
    (case a11 => k_is)
    (case l11 => k_is)
    (case c11 => k_is)
    (case k11 => k_is)
    (case a12 => k_is)
    (case l12 => k_is)
    (case c12 => k_is)
    (case k12 => k_is)
    (case a13 => k_is)
    (case l13 => k_is)
    (case c13 => k_is)
    (case k13 => k_is)
    (case a14 => k_is)
    (case l14 => k_is)
    (case c14 => k_is)
    (case k14 => k_is)
    (case a15 => k_is)
    (case l15 => k_is)
    (case c15 => k_is)
    (case k15 => k_is)
    (case z_bool => k_is)
    (case z_enumerate => k_is)
    (case z_int => k_is)
    (case z_isinstance => k_is)
    (case z_len => k_is)
    (case z_str => k_is)
    (case z_tuple => k_is)
    (case z_zip => k_is)
    (case xa_NoOrder => k_is)
    (case xe_NoOrder => k_exc)
    (case xk_NoOrder => k_is)
    (case xb_NoOrder => k_is)
    (case xt_NoOrder => k_is)
    (case xi_NoOrder => k_is)
    (case xa_FeastError => k_is)
    (case xa_NoFeast => k_is)
    (case xa_Sealed => k_is)
    (case z_ValueError => k_is)
    (case xo0_FeastError => k_is)
    (case xo1_FeastError => k_is)
    (case xo2_FeastError => k_is)
    (case xo3_FeastError => k_is)
    (case xo0_NoFeast => k_is)
    (case xo1_NoFeast => k_is)
    (case xo2_NoFeast => k_is)
    (case xo3_NoFeast => k_is)
    (case xo0_NoOrder => k_is)
    (case xo1_NoOrder => k_is)
    (case xo2_NoOrder => k_is)
    (case xo3_NoOrder => k_is)
    (case xo0_Sealed => k_is)
    (case xo1_Sealed => k_is)
    (case xo2_Sealed => k_is)
    (case xo3_Sealed => k_is)
    (case xm_FeastError_NoOrder => k_is)
    (case xq0_NoOrder => k_is)
    (case xq1_NoOrder => k_is)
    (case xq2_NoOrder => k_is)
    (case xq3_NoOrder => k_is)
    (case xq4_NoOrder => k_is)
    (case xq5_NoOrder => k_is)
    (case xq6_NoOrder => k_is)
    (case xq7_NoOrder => k_is)
    (case xm_NoFeast_NoOrder => k_is)
    (case xm_NoOrder_NoOrder => k_is)
    (case xm_Sealed_NoOrder => k_is)
    (case xs_NoOrder_ValueError => k_is)
    (case ga_FORMS => k_is)
    (case gl_FORMS => k_is)
    (case gk_FORMS => exact He.keysLit_of (ks := ["year", "enter", "strike", "rank", "shut", "anchor", "seal", "unseal"]) rfl)
    (case gv_FORMS_0 => k_is)
    (case gv_FORMS_1 => k_is)
    (case gv_FORMS_2 => k_is)
    (case gv_FORMS_3 => k_is)
    (case gv_FORMS_4 => k_is)
    (case gv_FORMS_5 => k_is)
    (case gv_FORMS_6 => k_is)
    (case gv_FORMS_7 => k_is)
    (case kk_FORMS => exact rfl)
    (case ks_FORMS => decide)
    (case ta_RULES => k_is)
    (case tl_RULES => k_is)
    (case tc_RULES => exact rfl)
    (case td_RULES => exact rfl)
    (case tz_RULES => decide)
    (case tv_RULES => exact (.cons ⟨_, rfl⟩ (.cons ⟨_, rfl⟩ .nil)))
    (case ta_WAYS => k_is)
    (case tl_WAYS => k_is)
    (case tc_WAYS => exact rfl)
    (case td_WAYS => exact rfl)
    (case tz_WAYS => decide)
    (case tv_WAYS => exact (.cons ⟨_, rfl⟩ (.cons ⟨_, rfl⟩ (.cons ⟨_, rfl⟩ .nil))))