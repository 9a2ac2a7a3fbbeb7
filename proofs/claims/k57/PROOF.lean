import PyProof.Rows.All
import Wide.All
import OpenK.AllK
import Wide.FinOn
import HandS.ForMost
import HandS.ForExc
import HandS.ExcInit
import HandS.ExcValue
import HandS.Style
import HandS.Wide
import HandS.Flow
import HandS.IsInst
import HandS.Deep
import HandS.More
import HandS.TupLen
import HandS.SortKw
import HandS.SortInts
import HandS.DictComp
import PyProof.Rows.SeqMore
import HandS.HeadHook3
import HandS.ExcIs
import HandS.ExcField
import HandS.FStr
import HandS.Text
import HandS.RaiseMore
import HandS.Zip
import PyProof.StrLoop
import HandS.Conv
import HandS.TupSets
import KE.KEqNest
import HandS.HotCalls
import KE.KIndexOf
import PyProof.Rows.StrLen
import PyProof.StrCalls
import KE.KDictCopyH
import KE.KDictOf
import PySem.Challenge.RW_feastfall_k57_refusals_by_their_classes
set_option Elab.async false
set_option linter.all false
set_option maxRecDepth 100000
namespace DL
open PySem PySem.Spec PyProof.Rows L2
inductive D where
  | non | bl (b : Bool) | int (i : Int) | str (s : Str)
  | tup (ds : List D) | lst (ds : List D)
  | dk (kds : List (L2.Key × D)) | dt (kds : List (List L2.Key × D))
  | obj (C : Str) (ns : List Str) (ds : List D)
  | own (d : D)
  | rf (a : Addr) | fn (x : Str) | lso (ds : List D)
  | exc (c : Str) (fs : List (Str × Int))
noncomputable def ExS (S : Hp) (a Ca : Addr) (fs : List (Str × Int)) : Prop := (fs = [] ∧ S a = some (ExO (.ref Ca) a)) ∨ ∃ dd, S a = some (exo a Ca (some dd)) ∧ S dd = some (exd dd (fs.map fun p => (p.1, V.int p.2)))
mutual
inductive Rep (K : PySem.W.Frag) (S : Hp) : V → D → Prop
  | non : Rep K S .non .non
  | bl {b : Bool} : Rep K S (.bl b) (.bl b)
  | int {i : Int} : Rep K S (.int i) (.int i)
  | str {s : Str} : Rep K S (.str s) (.str s)
  | tup {a : Addr} {vs : List V} {ds : List D} : S a = some (.tup vs) → Reps K S vs ds → Rep K S (.ref a) (.tup ds)
  | lst {a : Addr} {vs : List V} {ds : List D} : SqL K S a vs → Reps K S vs ds → Rep K S (.ref a) (.lst ds)
  | dk {a : Addr} {kvs : List (L2.Key × V)} {kds : List (L2.Key × D)} : Rd S a (.dK kvs) → kvs.map Prod.fst = kds.map Prod.fst →
      Reps K S (kvs.map Prod.snd) (kds.map Prod.snd) → Rep K S (.ref a) (.dk kds)
  | dt {a : Addr} {kvs : List (List L2.Key × V)} {kds : List (List L2.Key × D)} : S a = some (.dT kvs) → kvs.map Prod.fst = kds.map Prod.fst →
      Reps K S (kvs.map Prod.snd) (kds.map Prod.snd) → Rep K S (.ref a) (.dt kds)
  | obj {a Ca dx : Addr} {C : Str} {kvs : List (Str × V)} {ns : List Str} {ds : List D} : S a = some (.ins Ca dx kvs) → PySem.W.nsIn K mainGlobals C = some (some (.ref Ca)) → kvs.map Prod.fst = ns →
      Reps K S (kvs.map Prod.snd) ds → Rep K S (.ref a) (.obj C ns ds)
  | rf {a : Addr} : Rep K S (.ref a) (.rf a)
  | fn {a : Addr} {x : Str} : PySem.W.nsIn K mainGlobals x = some (some (.ref a)) → Rep K S (.ref a) (.fn x)
  | exc {a Ca : Addr} {c : Str} {fs : List (Str × Int)} : PySem.W.nsIn K mainGlobals c = some (some (.ref Ca)) → ExS S a Ca fs → Rep K S (.ref a) (.exc c fs)
inductive Reps (K : PySem.W.Frag) (S : Hp) : List V → List D → Prop
  | nil : Reps K S [] []
  | cons {v : V} {d : D} {vs : List V} {ds : List D} : Rep K S v d → Reps K S vs ds → Reps K S (v :: vs) (d :: ds)
end
section
variable {K : PySem.W.Frag} {S S' H : Hp}
theorem Zhg {a : Addr} {u : HO} (e : Same S S') (h : Rd S a u) : Rd S' a u := by
  rcases h with h | ⟨o, h⟩
  · exact .inl (e _ _ h)
  · exact .inr ⟨o, e _ _ h⟩
theorem Zkj {a : Addr} {xs : List V} (e : Same S S') (h : SqT K S a xs) : SqT K S' a xs := by
  rcases h with h | h
  · exact .inl (Zhg e h)
  · exact .inr h
theorem Zdk {a : Addr} {xs : List V} (e : Same S S') (h : SqL K S a xs) : SqL K S' a xs := e.seq h
theorem ExS.mono (e : Same S S') {a Ca : Addr} {fs : List (Str × Int)} (h : ExS S a Ca fs) : ExS S' a Ca fs := by
  rcases h with ⟨h1, h2⟩ | ⟨dd, h1, h2⟩
  · exact .inl ⟨h1, e _ _ h2⟩
  · exact .inr ⟨dd, e _ _ h1, e _ _ h2⟩
mutual
theorem Rep.mono (e : Same S S') : ∀ {v : V} {d : D}, Rep K S v d → Rep K S' v d
  | _, _, .non => .non
  | _, _, .bl => .bl
  | _, _, .int => .int
  | _, _, .str => .str
  | _, _, .tup h r => .tup (e _ _ h) (Reps.mono e r)
  | _, _, .lst h r => .lst (Zdk e h) (Reps.mono e r)
  | _, _, .dk h k r => .dk (Zhg e h) k (Reps.mono e r)
  | _, _, .dt h k r => .dt (e _ _ h) k (Reps.mono e r)
  | _, _, .obj h n k r => .obj (e _ _ h) n k (Reps.mono e r)
  | _, _, .rf => .rf
  | _, _, .fn h => .fn h
  | _, _, .exc h r => .exc h (r.mono e)
theorem Reps.mono (e : Same S S') : ∀ {vs : List V} {ds : List D}, Reps K S vs ds → Reps K S' vs ds
  | _, _, .nil => .nil
  | _, _, .cons h r => .cons (Rep.mono e h) (Reps.mono e r)
end
theorem Reps.len : ∀ {vs : List V} {ds : List D}, Reps K S vs ds → vs.length = ds.length
  | _, _, .nil => rfl
  | _, _, .cons _ r => congrArg (· + 1) (Reps.len r)
theorem Reps.get : ∀ {vs : List V} {ds : List D} {i : Nat} {d : D}, Reps K S vs ds → ds[i]? = some d → ∃ v, vs[i]? = some v ∧ Rep K S v d
  | _, _, i, d, .nil, h => by simp at h
  | _, _, 0, d, .cons r _, h => by
    simp at h; subst h
    exact ⟨_, rfl, r⟩
  | _, _, i + 1, d, .cons _ r, h => by
    obtain ⟨v, h1, h2⟩ := Reps.get (i := i) (d := d) r (by simpa using h)
    exact ⟨v, by simpa using h1, h2⟩
theorem Reps.getV : ∀ {vs : List V} {ds : List D} {i : Nat} {v : V}, Reps K S vs ds → vs[i]? = some v → ∃ d, ds[i]? = some d ∧ Rep K S v d
  | _, _, i, d, .nil, h => by simp at h
  | _, _, 0, d, .cons r _, h => by
    simp at h; subst h
    exact ⟨_, rfl, r⟩
  | _, _, i + 1, d, .cons _ r, h => by
    obtain ⟨v, h1, h2⟩ := Reps.getV (i := i) (v := d) r (by simpa using h)
    exact ⟨v, by simpa using h1, h2⟩
theorem Reps.app : ∀ {vs ws : List V} {ds es : List D}, Reps K S vs ds → Reps K S ws es → Reps K S (vs ++ ws) (ds ++ es)
  | _, _, _, _, .nil, r => r
  | _, _, _, _, .cons h t, r => .cons h (Reps.app t r)
theorem Reps.take : ∀ {vs : List V} {ds : List D} (n : Nat), Reps K S vs ds → Reps K S (vs.take n) (ds.take n)
  | _, _, 0, _ => by simpa using Reps.nil
  | _, _, _ + 1, .nil => by simpa using Reps.nil
  | _, _, n + 1, .cons h r => .cons h (Reps.take n r)
theorem Reps.drop : ∀ {vs : List V} {ds : List D} (n : Nat), Reps K S vs ds → Reps K S (vs.drop n) (ds.drop n)
  | _, _, 0, r => r
  | _, _, _ + 1, .nil => .nil
  | _, _, n + 1, .cons _ r => Reps.drop n r
theorem Reps.set : ∀ {vs : List V} {ds : List D} {v : V} {d : D} (i : Nat), Reps K S vs ds → Rep K S v d → Reps K S (vs.set i v) (ds.set i d)
  | _, _, _, _, _, .nil, _ => .nil
  | _, _, _, _, 0, .cons _ r, q => .cons q r
  | _, _, _, _, i + 1, .cons h r, q => .cons h (Reps.set i r q)
theorem Reps.ofInts : ∀ (ns : List Int), Reps K S (ns.map V.int) (ns.map D.int)
  | [] => .nil
  | _ :: r => .cons .int (Reps.ofInts r)
end
inductive RX where
  | sh (d : D) | ow (d : D) | nd (d : D)
inductive Slot where
  | un | sh (d : D) | ow (d : D) | bo (d : D) | bt (d : D) | lk (a : Addr) (d : D) | lo (a : Addr) (u : HO) (kds : List (L2.Key × D)) | lt (a : Addr) (u : HO) (kds : List (List L2.Key × D)) | nd (d : D) | nb (d : D) | ln (fp : List Addr) (d : D) | xc (a : Addr) | xe (a dd : Addr) (ns : List (Str × Int)) | na (a : Addr) (d : D) | rt (ms : List (Addr × D)) (x : RX)
noncomputable def Slot.dat : Slot → Option D
  | .un => none
  | .sh d => some d
  | .ow d => some d
  | .bo d => some d
  | .bt d => some d
  | .lk _ d => some d
  | .lo _ _ kds => some (.dk kds)
  | .lt _ _ _ => none
  | .nd _ => none
  | .nb _ => none
  | .ln _ _ => none
  | .xc _ => none
  | .xe _ _ _ => none
  | .na _ _ => none
  | .rt _ _ => none
noncomputable def Slot.env : Slot → Prop
  | .bt _ => False
  | .rt _ _ => False
  | _ => True
noncomputable def Slot.still : Slot → Prop
  | .sh _ => True
  | .bo _ => True
  | .lk _ _ => True
  | .lo _ _ _ => True
  | .lt _ _ _ => True
  | .nb _ => True
  | .ln _ _ => True
  | _ => False
structure Fr where
  K : PySem.W.Frag
  mg : Str → Option Value
  H0 : Hp
  S0 : Hp
noncomputable def KT (o : Option HO) : Prop := ∃ ks : List L2.Key, o = some (.tup (ks.map kV))
structure GS (F : Fr) (S H : Hp) : Prop where
  s0 : Same F.S0 S
  sh : Same S H
  h0 : Same F.H0 H
  fr : ∀ a, S a ≠ none → F.S0 a ≠ none ∨ F.H0 a = none ∨ KT (S a)
noncomputable def RC (K : PySem.W.Frag) (S : Hp) (o : Option HO) : D → Prop
  | .lst ds => ∃ vs, o = some (.lst vs) ∧ Reps K S vs ds
  | .dk kds => ∃ kvs, o = some (.dK kvs) ∧ kvs.map Prod.fst = kds.map Prod.fst ∧ Reps K S (kvs.map Prod.snd) (kds.map Prod.snd)
  | .dt kds => ∃ kvs, o = some (.dT kvs) ∧ kvs.map Prod.fst = kds.map Prod.fst ∧ Reps K S (kvs.map Prod.snd) (kds.map Prod.snd)
  | _ => False
mutual
inductive RCn (K : PySem.W.Frag) (S H : Hp) : Option HO → D → Prop
  | flat {o : Option HO} {d : D} : RC K S o d → RCn K S H o d
  | tup {vs : List V} {ds : List D} : (∃ v ∈ vs, ∀ k : L2.Key, kV k ≠ v) → Itns K S H vs ds → RCn K S H (some (.tup vs)) (.tup ds)
  | obj {Ca dx : Addr} {C : Str} {kvs : List (Str × V)} {ns : List Str} {ds : List D} : PySem.W.nsIn K mainGlobals C = some (some (.ref Ca)) → kvs.map Prod.fst = ns →
      Itns K S H (kvs.map Prod.snd) ds → RCn K S H (some (.ins Ca dx kvs)) (.obj C ns ds)
  | lso {vs : List V} {ds : List D} : Itns K S H vs ds → RCn K S H (some (.lst vs)) (.lso ds)
inductive Itn (K : PySem.W.Frag) (S H : Hp) : V → D → Prop
  | sh {v : V} {d : D} : Rep K S v d → Itn K S H v d
  | ow {b : Addr} {d : D} : RCn K S H (H b) d → Itn K S H (.ref b) (.own d)
inductive Itns (K : PySem.W.Frag) (S H : Hp) : List V → List D → Prop
  | nil : Itns K S H [] []
  | cons {v : V} {d : D} {vs : List V} {ds : List D} : Itn K S H v d → Itns K S H vs ds → Itns K S H (v :: vs) (d :: ds)
end
mutual
noncomputable def D.foot (H : Hp) : D → V → List Addr
  | .own d, .ref a => a :: D.inn H d (H a)
  | _, _ => []
noncomputable def D.inn (H : Hp) : D → Option HO → List Addr
  | .tup ds, some (.tup vs) => D.foots H ds vs
  | .obj _ _ ds, some (.ins _ _ kvs) => D.foots H ds (kvs.map Prod.snd)
  | .lso ds, some (.lst vs) => D.foots H ds vs
  | _, _ => []
noncomputable def D.foots (H : Hp) : List D → List V → List Addr
  | d :: ds, v :: vs => D.foot H d v ++ D.foots H ds vs
  | _, _ => []
end
noncomputable abbrev Cell := Slot × Option V
noncomputable def RL (K : PySem.W.Frag) (S : Hp) (o : Option HO) (kds : List (L2.Key × D)) : Prop := ∃ od kvs, o = some (.frz od (.dK kvs)) ∧ kvs.map Prod.fst = kds.map Prod.fst ∧ Reps K S (kvs.map Prod.snd) (kds.map Prod.snd)
noncomputable def RT (K : PySem.W.Frag) (S : Hp) (o : Option HO) (kds : List (List L2.Key × D)) : Prop := ∃ od kvs, o = some (.frz od (.dT kvs)) ∧ kvs.map Prod.fst = kds.map Prod.fst ∧ Reps K S (kvs.map Prod.snd) (kds.map Prod.snd)
noncomputable def SC (F : Fr) (S H : Hp) : Cell → Prop
  | (.un, _) => True
  | (.sh d, v) => ∃ u, v = some u ∧ Rep F.K S u d
  | (.ow d, v) => ∃ a, v = some (.ref a) ∧ F.H0 a = none ∧ S a = none ∧ RC F.K S (H a) d
  | (.bo d, v) => ∃ a, v = some (.ref a) ∧ F.H0 a ≠ none ∧ RC F.K S (H a) d
  | (.bt d, v) => ∃ a, v = some (.ref a) ∧ RC F.K S (H a) d
  | (.lk a d, v) => v = some (.ref a) ∧ F.H0 a = none ∧ S a = none ∧ RC F.K S (H a) d
  | (.lo a u kds, v) => v = some (.ref a) ∧ F.H0 a = none ∧ S a = none ∧ H a = some u ∧ RL F.K S (some u) kds
  | (.lt a u kds, v) => v = some (.ref a) ∧ F.H0 a = none ∧ S a = none ∧ H a = some u ∧ RT F.K S (some u) kds
  | (.nd d, v) => ∃ a, v = some (.ref a) ∧ RCn F.K S H (H a) d ∧ (a :: D.inn H d (H a)).Nodup ∧ ∀ b ∈ a :: D.inn H d (H a), F.H0 b = none ∧ S b = none
  | (.nb d, v) => ∃ a, v = some (.ref a) ∧ RCn F.K S H (H a) d ∧ ∀ b ∈ a :: D.inn H d (H a), F.H0 b ≠ none
  | (.ln fp d, v) => ∃ a, v = some (.ref a) ∧ RCn F.K S H (H a) d ∧ fp = a :: D.inn H d (H a) ∧ fp.Nodup ∧ ∀ b ∈ fp, F.H0 b = none ∧ S b = none
  | (.xc a, v) => v = some (.ref a)
  | (.xe a dd ns, v) => v = some (.ref a) ∧ (S dd = some (.xd (ns.map fun p => (p.1, V.int p.2))) ∨ F.H0 dd = some (.xd (ns.map fun p => (p.1, V.int p.2))))
  | (.na a d, v) => v = some (.ref a) ∧ RCn F.K S H (H a) d ∧ (a :: D.inn H d (H a)).Nodup ∧ ∀ b ∈ a :: D.inn H d (H a), F.H0 b = none ∧ S b = none
  | (.rt _ _, _) => False
noncomputable def Slot.isOw : Slot → Prop
  | .ow _ => True
  | .nd _ => True
  | .na _ _ => True
  | _ => False
noncomputable def Slot.own : Slot → Prop
  | .ow _ => True
  | .lk _ _ => True
  | .lo _ _ _ => True
  | .lt _ _ _ => True
  | .nd _ => True
  | .na _ _ => True
  | .ln _ _ => True
  | _ => False
noncomputable def fpC (H : Hp) : Cell → List Addr
  | (.ow _, some (.ref a)) => [a]
  | (.lk _ _, some (.ref a)) => [a]
  | (.lo _ _ _, some (.ref a)) => [a]
  | (.lt _ _ _, some (.ref a)) => [a]
  | (.nd d, some (.ref a)) => a :: D.inn H d (H a)
  | (.na _ d, some (.ref a)) => a :: D.inn H d (H a)
  | (.ln fp _, _) => fp
  | _ => []
noncomputable def Dj (H : Hp) (p q : Cell) : Prop := ∀ a ∈ fpC H p, a ∉ fpC H q
noncomputable def Za4 (H : Hp) (p q : Cell) : Prop := (p.1.isOw → q.1.own → Dj H p q) ∧ (p.1.own → q.1.isOw → Dj H p q)
noncomputable def C (F : Fr) (l : List Cell) (H : Hp) : Prop := ∃ S, GS F S H ∧ (∀ p ∈ l, SC F S H p) ∧ l.Pairwise (Za4 H)
section
variable {F : Fr} {S S' H H' : Hp} {l l' : List Cell} {p q : Cell}
mutual
theorem Zij : ∀ (d : D) (v : V), (∀ b ∈ D.foot H d v, H' b = H b) → D.foot H' d v = D.foot H d v
  | .own d, v, h => by
    cases v with
    | ref a =>
      have h1 : H' a = H a := h a (by simp [D.foot])
      have h2 := inn_congr d (H a) fun b hb => h b (by simp [D.foot, hb])
      simp only [D.foot]
      rw [h1, h2]
    | _ => simp [D.foot]
  | .non, v, h => by simp [D.foot]
  | .bl _, v, h => by simp [D.foot]
  | .int _, v, h => by simp [D.foot]
  | .str _, v, h => by simp [D.foot]
  | .tup _, v, h => by simp [D.foot]
  | .lst _, v, h => by simp [D.foot]
  | .dk _, v, h => by simp [D.foot]
  | .dt _, v, h => by simp [D.foot]
  | .obj _ _ _, v, h => by simp [D.foot]
  | .rf _, v, h => by simp [D.foot]
  | .fn _, v, h => by simp [D.foot]
  | .exc _ _, v, h => by simp [D.foot]
  | .lso _, v, h => by simp [D.foot]
theorem inn_congr : ∀ (d : D) (o : Option HO), (∀ b ∈ D.inn H d o, H' b = H b) → D.inn H' d o = D.inn H d o
  | .tup ds, o, h => by
    cases o with
    | none => simp [D.inn]
    | some u => cases u with
      | tup vs =>
        simp only [D.inn] at h ⊢
        exact foots_congr ds vs h
      | _ => simp [D.inn]
  | .obj _ _ ds, o, h => by
    cases o with
    | none => simp [D.inn]
    | some u => cases u with
      | ins _ _ kvs =>
        simp only [D.inn] at h ⊢
        exact foots_congr ds _ h
      | _ => simp [D.inn]
  | .non, o, h => by simp [D.inn]
  | .bl _, o, h => by simp [D.inn]
  | .int _, o, h => by simp [D.inn]
  | .str _, o, h => by simp [D.inn]
  | .lst _, o, h => by simp [D.inn]
  | .dk _, o, h => by simp [D.inn]
  | .dt _, o, h => by simp [D.inn]
  | .own _, o, h => by simp [D.inn]
  | .rf _, o, h => by simp [D.inn]
  | .fn _, o, h => by simp [D.inn]
  | .exc _ _, o, h => by simp [D.inn]
  | .lso ds, o, h => by
    cases o with
    | none => simp [D.inn]
    | some u => cases u with
      | lst vs =>
        simp only [D.inn] at h ⊢
        exact foots_congr ds vs h
      | _ => simp [D.inn]
theorem foots_congr : ∀ (ds : List D) (vs : List V), (∀ b ∈ D.foots H ds vs, H' b = H b) → D.foots H' ds vs = D.foots H ds vs
  | [], vs, h => by simp [D.foots]
  | d :: ds, [], h => by simp [D.foots]
  | d :: ds, v :: vs, h => by
    simp only [D.foots] at h ⊢
    rw [Zij d v fun b hb => h b (List.mem_append_left _ hb), foots_congr ds vs fun b hb => h b (List.mem_append_right _ hb)]
end
theorem RC.mono {K : PySem.W.Frag} {o : Option HO} {d : D} (e : Same S S') (h : RC K S o d) : RC K S' o d := by
  cases d with
  | lst ds => obtain ⟨vs, e1, r⟩ := h; exact ⟨vs, e1, r.mono e⟩
  | dk kds => obtain ⟨vs, e1, k, r⟩ := h; exact ⟨vs, e1, k, r.mono e⟩
  | dt kds => obtain ⟨vs, e1, k, r⟩ := h; exact ⟨vs, e1, k, r.mono e⟩
  | _ => exact h.elim
theorem RC.nn {K : PySem.W.Frag} {o : Option HO} {d : D} (h : RC K S o d) : o ≠ none := by
  cases d with
  | lst ds => obtain ⟨vs, e1, r⟩ := h; rw [e1]; simp
  | dk kds => obtain ⟨vs, e1, k, r⟩ := h; rw [e1]; simp
  | dt kds => obtain ⟨vs, e1, k, r⟩ := h; rw [e1]; simp
  | _ => exact h.elim
theorem RC.inn {K : PySem.W.Frag} {o : Option HO} {d : D} (h : RC K S o d) : D.inn H d o = [] := by
  cases d with
  | lst ds => simp [D.inn]
  | dk kds => simp [D.inn]
  | dt kds => simp [D.inn]
  | _ => exact h.elim
theorem RL.mono {K : PySem.W.Frag} {o : Option HO} {kds : List (L2.Key × D)} (e : Same S S') (h : RL K S o kds) : RL K S' o kds := by
  obtain ⟨od, kvs, e1, k, r⟩ := h
  exact ⟨od, kvs, e1, k, r.mono e⟩
theorem RT.mono {K : PySem.W.Frag} {o : Option HO} {kds : List (List L2.Key × D)} (e : Same S S') (h : RT K S o kds) : RT K S' o kds := by
  obtain ⟨od, kvs, e1, k, r⟩ := h
  exact ⟨od, kvs, e1, k, r.mono e⟩
theorem RL.nn {K : PySem.W.Frag} {o : Option HO} {kds : List (L2.Key × D)} (h : RL K S o kds) : o ≠ none := by
  obtain ⟨od, kvs, e1, k, r⟩ := h
  rw [e1]; simp
theorem RT.nn {K : PySem.W.Frag} {o : Option HO} {kds : List (List L2.Key × D)} (h : RT K S o kds) : o ≠ none := by
  obtain ⟨od, kvs, e1, k, r⟩ := h
  rw [e1]; simp
theorem rep_foot {K : PySem.W.Frag} {v : V} {d : D} (r : Rep K S v d) : D.foot H d v = [] := by cases r <;> simp [D.foot]
mutual
theorem RCn.mono {K : PySem.W.Frag} (e : Same S S') : ∀ {o : Option HO} {d : D}, RCn K S H o d → (∀ b ∈ D.inn H d o, H' b = H b) → RCn K S' H' o d
  | _, _, .flat r, h => .flat (r.mono e)
  | _, _, .tup x r, h => .tup x (Itns.mono e r (by simpa only [D.inn] using h))
  | _, _, .obj n k r, h => .obj n k (Itns.mono e r (by simpa only [D.inn] using h))
  | _, _, .lso r, h => .lso (Itns.mono e r (by simpa only [D.inn] using h))
theorem Itn.mono {K : PySem.W.Frag} (e : Same S S') : ∀ {v : V} {d : D}, Itn K S H v d → (∀ b ∈ D.foot H d v, H' b = H b) → Itn K S' H' v d
  | _, _, .sh r, h => .sh (r.mono e)
  | .ref b, .own d, .ow r, h => by
    have h1 : H' b = H b := h b (by simp [D.foot])
    have r' : RCn K S' H' (H b) d := RCn.mono e r fun c hc => h c (by simp [D.foot, hc])
    exact .ow (by rw [h1]; exact r')
theorem Itns.mono {K : PySem.W.Frag} (e : Same S S') : ∀ {vs : List V} {ds : List D}, Itns K S H vs ds → (∀ b ∈ D.foots H ds vs, H' b = H b) → Itns K S' H' vs ds
  | _, _, .nil, h => .nil
  | _, _, .cons r q, h => .cons (Itn.mono e r fun b hb => h b (by simp only [D.foots]; exact List.mem_append_left _ hb)) (Itns.mono e q fun b hb => h b (by simp only [D.foots]; exact List.mem_append_right _ hb))
end
theorem RCn.nn {K : PySem.W.Frag} {o : Option HO} {d : D} (h : RCn K S H o d) : o ≠ none := by
  cases h with
  | flat r => exact r.nn
  | tup _ _ => simp
  | obj _ _ _ => simp
  | lso _ => simp
mutual
theorem RCn.dom {K : PySem.W.Frag} : ∀ {o : Option HO} {d : D}, RCn K S H o d → ∀ b ∈ D.inn H d o, H b ≠ none
  | _, _, .flat r, b, h => by rw [r.inn] at h; simp at h
  | _, _, .tup _ r, b, h => Itns.dom r b (by simpa only [D.inn] using h)
  | _, _, .obj n k r, b, h => Itns.dom r b (by simpa only [D.inn] using h)
  | _, _, .lso r, b, h => Itns.dom r b (by simpa only [D.inn] using h)
theorem Itn.dom {K : PySem.W.Frag} : ∀ {v : V} {d : D}, Itn K S H v d → ∀ b ∈ D.foot H d v, H b ≠ none
  | _, _, .sh r, b, h => by rw [rep_foot r] at h; simp at h
  | .ref a, .own d, .ow r, b, h => by
    simp only [D.foot, List.mem_cons] at h
    rcases h with rfl | h
    · exact r.nn
    · exact RCn.dom r b h
theorem Itns.dom {K : PySem.W.Frag} : ∀ {vs : List V} {ds : List D}, Itns K S H vs ds → ∀ b ∈ D.foots H ds vs, H b ≠ none
  | _, _, .nil, b, h => by simp [D.foots] at h
  | _, _, .cons r q, b, h => by
    simp only [D.foots, List.mem_append] at h
    rcases h with h | h
    · exact Itn.dom r b h
    · exact Itns.dom q b h
end
theorem Zmk {vs : List V} (h : ∃ v ∈ vs, ∀ k : L2.Key, kV k ≠ v) : ¬ KT (some (.tup vs)) := fun ⟨ks, e⟩ => by
  obtain ⟨b, hb, hn⟩ := h
  cases e
  obtain ⟨k, _, e⟩ := List.mem_map.mp hb
  exact hn k e
theorem RC.nkt {K : PySem.W.Frag} {o : Option HO} {d : D} (h : RC K S o d) : ¬ KT o := fun ⟨ks, e⟩ => by
  cases d with
  | lst ds => obtain ⟨vs, e1, r⟩ := h; rw [e1] at e; cases e
  | dk kds => obtain ⟨vs, e1, k, r⟩ := h; rw [e1] at e; cases e
  | dt kds => obtain ⟨vs, e1, k, r⟩ := h; rw [e1] at e; cases e
  | _ => exact h.elim
theorem RCn.nkt0 {K : PySem.W.Frag} {o : Option HO} {d : D} (h : RCn K S H o d) : ¬ KT o := by
  cases h with
  | flat r => exact r.nkt
  | tup x _ => exact Zmk x
  | obj _ _ _ => rintro ⟨ks, e⟩; cases e
  | lso _ => rintro ⟨ks, e⟩; cases e
mutual
theorem RCn.nkt {K : PySem.W.Frag} : ∀ {o : Option HO} {d : D}, RCn K S H o d → ∀ b ∈ D.inn H d o, ¬ KT (H b)
  | _, _, .flat r, b, h => by rw [r.inn] at h; simp at h
  | _, _, .tup _ r, b, h => Itns.nkt r b (by simpa only [D.inn] using h)
  | _, _, .obj n k r, b, h => Itns.nkt r b (by simpa only [D.inn] using h)
  | _, _, .lso r, b, h => Itns.nkt r b (by simpa only [D.inn] using h)
theorem Itn.nkt {K : PySem.W.Frag} : ∀ {v : V} {d : D}, Itn K S H v d → ∀ b ∈ D.foot H d v, ¬ KT (H b)
  | _, _, .sh r, b, h => by rw [rep_foot r] at h; simp at h
  | .ref a, .own d, .ow r, b, h => by
    simp only [D.foot, List.mem_cons] at h
    rcases h with rfl | h
    · exact r.nkt0
    · exact RCn.nkt r b h
theorem Itns.nkt {K : PySem.W.Frag} : ∀ {vs : List V} {ds : List D}, Itns K S H vs ds → ∀ b ∈ D.foots H ds vs, ¬ KT (H b)
  | _, _, .nil, b, h => by simp [D.foots] at h
  | _, _, .cons r q, b, h => by
    simp only [D.foots, List.mem_append] at h
    rcases h with h | h
    · exact Itn.nkt r b h
    · exact Itns.nkt q b h
end
theorem RCn.nkt1 {K : PySem.W.Frag} {a : Addr} {d : D} (h : RCn K S H (H a) d) : ∀ b ∈ a :: D.inn H d (H a), ¬ KT (H b) := fun b hb => by
  rcases List.mem_cons.mp hb with rfl | hb
  · exact h.nkt0
  · exact h.nkt b hb
theorem RCn.dom1 {K : PySem.W.Frag} {a : Addr} {d : D} (h : RCn K S H (H a) d) : ∀ b ∈ a :: D.inn H d (H a), H b ≠ none := fun b hb => by
  rcases List.mem_cons.mp hb with rfl | hb
  · exact h.nn
  · exact h.dom b hb
theorem RCn.at {K : PySem.W.Frag} {a : Addr} {d : D} (e : Same S S') (h : RCn K S H (H a) d) (q : ∀ b ∈ a :: D.inn H d (H a), H' b = H b) : RCn K S' H' (H' a) d ∧ D.inn H' d (H' a) = D.inn H d (H a) := by
  rw [q a List.mem_cons_self]
  exact ⟨h.mono e fun b hb => q b (List.mem_cons_of_mem _ hb), inn_congr d _ fun b hb => q b (List.mem_cons_of_mem _ hb)⟩
theorem Dj.symm (h : Dj H p q) : Dj H q p := fun a ha hb => h a hb ha
theorem Za4.symm (h : Za4 H p q) : Za4 H q p := ⟨fun a b => (h.2 b a).symm, fun a b => (h.1 b a).symm⟩
theorem C.perm (h : C F l H) (e : l.Perm l') : C F l' H := by
  obtain ⟨S, g, a, b⟩ := h
  refine ⟨S, g, fun p hp => a p (e.mem_iff.mpr hp), ?_⟩
  exact (e.pairwise_iff (R := Za4 H) (fun h => h.symm)).mp b
theorem C.sub (h : C F l H) (e : l'.Sublist l) : C F l' H := by
  obtain ⟨S, g, a, b⟩ := h
  exact ⟨S, g, fun p hp => a p (e.subset hp), b.sublist e⟩
theorem C.tail (h : C F (p :: l) H) : C F l H := h.sub (List.sublist_cons_self _ _)
theorem C.right {a : List Cell} (h : C F (a ++ l) H) : C F l H := h.sub (List.sublist_append_right _ _)
theorem C.left {a : List Cell} (h : C F (a ++ l) H) : C F a H := h.sub (List.sublist_append_left _ _)
theorem C.swap (h : C F (p :: q :: l) H) : C F (q :: p :: l) H := h.perm (List.Perm.swap _ _ _)
theorem C.front {a : List Cell} (h : C F (a ++ p :: l) H) : C F (p :: (a ++ l)) H := h.perm List.perm_middle
theorem C.back {a : List Cell} (h : C F (p :: (a ++ l)) H) : C F (a ++ p :: l) H := h.perm List.perm_middle.symm
theorem C.same (h : C F l H) : Same F.H0 H := by
  obtain ⟨S, g, _⟩ := h
  exact g.h0
theorem Zmr {x : Slot} (h : x.isOw) : x.own := by cases x <;> first | trivial | exact h.elim
theorem Zar (hp : ¬ p.1.own) (h : l.Pairwise (Za4 H)) : (p :: l).Pairwise (Za4 H) := List.pairwise_cons.mpr ⟨fun _ _ => ⟨fun a => (hp (Zmr a)).elim, fun a => (hp a).elim⟩, h⟩
theorem C.put (h : C F l H) (hp : ¬ p.1.own) (hs : ∀ S, GS F S H → (∀ q ∈ l, SC F S H q) → SC F S H p) : C F (p :: l) H := by
  obtain ⟨S, g, a, b⟩ := h
  refine ⟨S, g, fun q hq => ?_, Zar hp b⟩
  rcases List.mem_cons.mp hq with rfl | hq
  · exact hs S g a
  · exact a q hq
theorem C.int (h : C F l H) (i : Int) : C F ((.sh (.int i), some (.int i)) :: l) H := h.put (fun z => z) fun _ _ _ => ⟨_, rfl, .int⟩
theorem C.bl (h : C F l H) (b : Bool) : C F ((.sh (.bl b), some (.bl b)) :: l) H := h.put (fun z => z) fun _ _ _ => ⟨_, rfl, .bl⟩
theorem C.str (h : C F l H) (s : Str) : C F ((.sh (.str s), some (.str s)) :: l) H := h.put (fun z => z) fun _ _ _ => ⟨_, rfl, .str⟩
theorem C.non (h : C F l H) : C F ((.sh .non, some .non) :: l) H := h.put (fun z => z) fun _ _ _ => ⟨_, rfl, .non⟩
theorem C.un (h : C F l H) (v : Option V) : C F ((.un, v) :: l) H := h.put (fun z => z) fun _ _ _ => trivial
theorem C.dup {d : D} {v : Option V} (h : C F l H) (hm : (.sh d, v) ∈ l) : C F ((.sh d, v) :: l) H := h.put (fun z => z) fun _ _ a => a _ hm
theorem C.dupB {d : D} {v : Option V} (h : C F l H) (hm : (.bo d, v) ∈ l) : C F ((.bo d, v) :: l) H := h.put (fun z => z) fun _ _ a => a _ hm
theorem C.dupN {d : D} {v : Option V} (h : C F l H) (hm : (.nb d, v) ∈ l) : C F ((.nb d, v) :: l) H := h.put (fun z => z) fun _ _ a => a _ hm
theorem C.dupO {x : Slot} {v : Option V} (h : C F l H) (hm : (x, v) ∈ l) (hx : ¬ x.isOw) : C F ((x, v) :: l) H := by
  obtain ⟨S, g, c, b⟩ := h
  refine ⟨S, g, fun q hq => ?_, List.pairwise_cons.mpr ⟨fun q hq => ⟨fun z => (hx z).elim, fun ox oq => ?_⟩, b⟩⟩
  · rcases List.mem_cons.mp hq with rfl | hq
    · exact c _ hm
    · exact c q hq
  · obtain ⟨s, t, rfl⟩ := List.append_of_mem hm
    have b' := (List.perm_middle.pairwise_iff (R := Za4 H) (fun h => h.symm)).mp b
    have b1 := (List.pairwise_cons.mp b').1
    have hq' : q ∈ s ++ t := by
      rcases List.mem_append.mp hq with z | z
      · exact List.mem_append_left _ z
      · rcases List.mem_cons.mp z with z | z
        · subst z; exact (hx oq).elim
        · exact List.mem_append_right _ z
    exact (b1 q hq').2 ox oq
theorem C.dupL {a : Addr} {d : D} {v : Option V} (h : C F l H) (hm : (.lk a d, v) ∈ l) : C F ((.lk a d, v) :: l) H := h.dupO hm fun z => z
theorem C.dupK {a : Addr} {u : HO} {d : List (L2.Key × D)} {v : Option V} (h : C F l H) (hm : (.lo a u d, v) ∈ l) : C F ((.lo a u d, v) :: l) H := h.dupO hm fun z => z
theorem C.dupKt {a : Addr} {u : HO} {d : List (List L2.Key × D)} {v : Option V} (h : C F l H) (hm : (.lt a u d, v) ∈ l) : C F ((.lt a u d, v) :: l) H := h.dupO hm fun z => z
theorem C.look {d : D} {v : Option V} (h : C F l H) (hm : (.ow d, v) ∈ l) : C F ((.bt d, v) :: l) H := h.put (fun z => z) fun _ _ a => by
  obtain ⟨a, e, _, _, r⟩ := a _ hm
  exact ⟨a, e, r⟩
noncomputable def Zig : D → Slot
  | .lst ds => .bt (.lst ds)
  | .dk kds => .bt (.dk kds)
  | .dt kds => .bt (.dt kds)
  | _ => .un
theorem Zf1 {K : PySem.W.Frag} {S : Hp} {o : Option HO} {d : D} (r : RCn K S H o d) (h : (∃ ds, d = .lst ds) ∨ (∃ ds, d = .dk ds) ∨ ∃ ds, d = .dt ds) : RC K S o d := by
  cases r with
  | flat r => exact r
  | tup _ _ => rcases h with ⟨_, h⟩ | ⟨_, h⟩ | ⟨_, h⟩ <;> cases h
  | obj _ _ _ => rcases h with ⟨_, h⟩ | ⟨_, h⟩ | ⟨_, h⟩ <;> cases h
  | lso _ => rcases h with ⟨_, h⟩ | ⟨_, h⟩ | ⟨_, h⟩ <;> cases h
theorem Zh2 {S : Hp} {v : Option V} {d : D} (h : ∃ a, v = some (.ref a) ∧ RCn F.K S H (H a) d) : SC F S H (Zig d, v) := by
  obtain ⟨a, e, r⟩ := h
  cases d with
  | lst ds => exact ⟨a, e, Zf1 r (.inl ⟨_, rfl⟩)⟩
  | dk ds => exact ⟨a, e, Zf1 r (.inr (.inl ⟨_, rfl⟩))⟩
  | dt ds => exact ⟨a, e, Zf1 r (.inr (.inr ⟨_, rfl⟩))⟩
  | _ => trivial
theorem Zgb (d : D) : ¬ (Zig d).own := by cases d <;> exact fun z => z
theorem C.lookA {a : Addr} {d : D} {v : Option V} (h : C F l H) (hm : (.na a d, v) ∈ l) : C F ((Zig d, v) :: l) H := h.put (Zgb d) fun _ _ c => by
  obtain ⟨e, r, _⟩ := c _ hm
  exact Zh2 ⟨a, e, r⟩
theorem C.lookD {d : D} {v : Option V} (h : C F l H) (hm : (.nd d, v) ∈ l) : C F ((Zig d, v) :: l) H := h.put (Zgb d) fun _ _ c => by
  obtain ⟨a, e, r, _⟩ := c _ hm
  exact Zh2 ⟨a, e, r⟩
theorem C.val {d : D} {v : Option V} (h : C F ((.sh d, v) :: l) H) : ∃ u, v = some u := by
  obtain ⟨S, g, a, b⟩ := h
  obtain ⟨u, e, _⟩ := a _ List.mem_cons_self
  exact ⟨u, e⟩
theorem GS.new {a : Addr} {o : HO} (g : GS F S H) (ha : H a = none) : GS F (upd S a o) (upd H a o) := by
  have hS : S a = none := g.sh.free ha
  have h0 : F.H0 a = none := g.h0.free ha
  refine ⟨fun b u e => ?_, fun b u e => ?_, fun b u e => ?_, fun b e => ?_⟩
  · rw [upd_ne (ne_of_none (g.s0 b u e) hS)]; exact g.s0 b u e
  · by_cases hb : b = a
    · subst hb; rw [upd_same] at e ⊢; exact e
    · rw [upd_ne hb] at e ⊢; exact g.sh b u e
  · rw [upd_ne (ne_of_none (g.h0 b u e) ha)]; exact g.h0 b u e
  · by_cases hb : b = a
    · subst hb; exact .inr (.inl h0)
    · rw [upd_ne hb] at e ⊢; exact g.fr b e
theorem Zao {a : Addr} {o : HO} (ha : H a = none) : Same H (upd H a o) := fun b u e => by
  rw [upd_ne (ne_of_none e ha)]; exact e
theorem Ze3 {b : Addr} (e : Same H H') (h : H b ≠ none) : H' b = H b := by
  cases q : H b with
  | none => exact (h q).elim
  | some o => exact e b o q
theorem SC.keep (s : SC F S H p) (e : Same S S') (ho : ∀ a, H a ≠ none → (F.H0 a ≠ none → H' a = H a)) (hp : ∀ a ∈ fpC H p, H' a = H a) (n : ∀ a ∈ fpC H p, S' a = none) (ht : p.1.env) : SC F S' H' p := by
  obtain ⟨x, v⟩ := p
  cases x with
  | un => trivial
  | sh d => obtain ⟨u, e1, r⟩ := s; exact ⟨u, e1, r.mono e⟩
  | ow d =>
    obtain ⟨a, rfl, h0, hS, r⟩ := s
    have m : a ∈ fpC H (Slot.ow d, some (V.ref a)) := by simp [fpC]
    exact ⟨a, rfl, h0, n a m, by rw [hp a m]; exact r.mono e⟩
  | bo d => obtain ⟨a, e1, h0, r⟩ := s; exact ⟨a, e1, h0, by rw [ho a r.nn h0]; exact r.mono e⟩
  | bt d => exact ht.elim
  | lk a d =>
    obtain ⟨rfl, h0, hS, r⟩ := s
    have m : a ∈ fpC H (Slot.lk a d, some (V.ref a)) := by simp [fpC]
    exact ⟨rfl, h0, n a m, by rw [hp a m]; exact r.mono e⟩
  | lo a u d =>
    obtain ⟨rfl, h0, hS, eu, r⟩ := s
    have m : a ∈ fpC H (Slot.lo a u d, some (V.ref a)) := by simp [fpC]
    exact ⟨rfl, h0, n a m, by rw [hp a m]; exact eu, r.mono e⟩
  | lt a u d =>
    obtain ⟨rfl, h0, hS, eu, r⟩ := s
    have m : a ∈ fpC H (Slot.lt a u d, some (V.ref a)) := by simp [fpC]
    exact ⟨rfl, h0, n a m, by rw [hp a m]; exact eu, r.mono e⟩
  | nd d =>
    obtain ⟨a, rfl, r, nd, q⟩ := s
    have hp : ∀ b ∈ a :: D.inn H d (H a), H' b = H b := hp
    have n : ∀ b ∈ a :: D.inn H d (H a), S' b = none := n
    obtain ⟨r', ei⟩ := r.at e hp
    refine ⟨a, rfl, r', by rw [ei]; exact nd, fun b hb => ?_⟩
    rw [ei] at hb
    exact ⟨(q b hb).1, n b hb⟩
  | nb d =>
    obtain ⟨a, rfl, r, q⟩ := s
    obtain ⟨r', ei⟩ := r.at (H' := H') e fun b hb => ho b (r.dom1 b hb) (q b hb)
    exact ⟨a, rfl, r', fun b hb => by rw [ei] at hb; exact q b hb⟩
  | ln fp d =>
    obtain ⟨a, rfl, r, ef, nd, q⟩ := s
    have hp : ∀ b ∈ fp, H' b = H b := hp
    have n : ∀ b ∈ fp, S' b = none := n
    obtain ⟨r', ei⟩ := r.at e (by rw [← ef]; exact hp)
    exact ⟨a, rfl, r', by rw [ei]; exact ef, nd, fun b hb => ⟨(q b hb).1, n b hb⟩⟩
  | xc a => exact s
  | xe a dd ns => exact ⟨s.1, s.2.elim (fun z => .inl (e _ _ z)) .inr⟩
  | na a d =>
    obtain ⟨rfl, r, nd, q⟩ := s
    have hp : ∀ b ∈ a :: D.inn H d (H a), H' b = H b := hp
    have n : ∀ b ∈ a :: D.inn H d (H a), S' b = none := n
    obtain ⟨r', ei⟩ := r.at e hp
    refine ⟨rfl, r', by rw [ei]; exact nd, fun b hb => ?_⟩
    rw [ei] at hb
    exact ⟨(q b hb).1, n b hb⟩
  | rt _ _ => exact ht.elim
theorem Zce (s : SC F S H p) : ∀ a ∈ fpC H p, H a ≠ none ∧ F.H0 a = none ∧ S a = none := fun a ha => by
  obtain ⟨x, v⟩ := p
  cases x with
  | ow d =>
    obtain ⟨b, rfl, h0, hS, r⟩ := s
    obtain rfl : a = b := by simpa [fpC] using ha
    exact ⟨r.nn, h0, hS⟩
  | lk b d =>
    obtain ⟨rfl, h0, hS, r⟩ := s
    obtain rfl : a = b := by simpa [fpC] using ha
    exact ⟨r.nn, h0, hS⟩
  | lo b u d =>
    obtain ⟨rfl, h0, hS, eu, r⟩ := s
    obtain rfl : a = b := by simpa [fpC] using ha
    exact ⟨by rw [eu]; simp, h0, hS⟩
  | lt b u d =>
    obtain ⟨rfl, h0, hS, eu, r⟩ := s
    obtain rfl : a = b := by simpa [fpC] using ha
    exact ⟨by rw [eu]; simp, h0, hS⟩
  | nd d =>
    obtain ⟨b, rfl, r, nd, q⟩ := s
    exact ⟨r.dom1 a ha, q a ha⟩
  | na _ d =>
    obtain ⟨rfl, r, nd, q⟩ := s
    exact ⟨r.dom1 a ha, q a ha⟩
  | ln fp d =>
    obtain ⟨b, rfl, r, ef, nd, q⟩ := s
    have ha : a ∈ fp := ha
    exact ⟨r.dom1 a (ef ▸ ha), q a ha⟩
  | _ => simp [fpC] at ha
theorem Zl7 (s : SC F S H p) : ∀ a ∈ fpC H p, ¬ KT (H a) := fun a ha => by
  obtain ⟨x, v⟩ := p
  cases x with
  | ow d =>
    obtain ⟨b, rfl, h0, hS, r⟩ := s
    obtain rfl : a = b := by simpa [fpC] using ha
    exact r.nkt
  | lk b d =>
    obtain ⟨rfl, h0, hS, r⟩ := s
    obtain rfl : a = b := by simpa [fpC] using ha
    exact r.nkt
  | lo b u d =>
    obtain ⟨rfl, h0, hS, eu, od, kvs, e1, _⟩ := s
    obtain rfl : a = b := by simpa [fpC] using ha
    rintro ⟨ks, e⟩
    rw [eu, e1] at e
    cases e
  | lt b u d =>
    obtain ⟨rfl, h0, hS, eu, od, kvs, e1, _⟩ := s
    obtain rfl : a = b := by simpa [fpC] using ha
    rintro ⟨ks, e⟩
    rw [eu, e1] at e
    cases e
  | nd d =>
    obtain ⟨b, rfl, r, nd, q⟩ := s
    exact r.nkt1 a ha
  | na _ d =>
    obtain ⟨rfl, r, nd, q⟩ := s
    exact r.nkt1 a ha
  | ln fp d =>
    obtain ⟨b, rfl, r, ef, nd, q⟩ := s
    have ha : a ∈ fp := ha
    exact r.nkt1 a (ef ▸ ha)
  | _ => simp [fpC] at ha
theorem Zb6 (h : ∀ a ∈ fpC H p, H' a = H a) : fpC H' p = fpC H p := by
  obtain ⟨x, v⟩ := p
  cases x with
  | nd d =>
    cases v with
    | none => rfl
    | some v =>
      cases v with
      | ref a =>
        have h : ∀ b ∈ a :: D.inn H d (H a), H' b = H b := h
        show a :: D.inn H' d (H' a) = a :: D.inn H d (H a)
        rw [h a List.mem_cons_self, inn_congr d _ fun b hb => h b (List.mem_cons_of_mem _ hb)]
      | _ => rfl
  | na _ d =>
    cases v with
    | none => rfl
    | some v =>
      cases v with
      | ref a =>
        have h : ∀ b ∈ a :: D.inn H d (H a), H' b = H b := h
        show a :: D.inn H' d (H' a) = a :: D.inn H d (H a)
        rw [h a List.mem_cons_self, inn_congr d _ fun b hb => h b (List.mem_cons_of_mem _ hb)]
      | _ => rfl
  | ow d => cases v with
    | none => rfl
    | some v => cases v <;> rfl
  | lk b d => cases v with
    | none => rfl
    | some v => cases v <;> rfl
  | lo b u d => cases v with
    | none => rfl
    | some v => cases v <;> rfl
  | lt b u d => cases v with
    | none => rfl
    | some v => cases v <;> rfl
  | _ => rfl
theorem Zdz (s : SC F S H p) (e : Same H H') : fpC H' p = fpC H p := Zb6 fun a ha => Ze3 e (Zce s a ha).1
theorem Za4.grow (h : Za4 H p q) (s : SC F S H p) (t : SC F S H q) (e : Same H H') : Za4 H' p q := by
  unfold Za4 Dj at h ⊢
  rw [Zdz s e, Zdz t e]
  exact h
theorem Zd4 {l : List Cell} (h : l.Pairwise (Za4 H)) (c : ∀ p ∈ l, SC F S H p) (e : Same H H') : l.Pairwise (Za4 H') := by
  induction h with
  | nil => exact .nil
  | cons h1 h2 ih => exact .cons (fun q hq => (h1 q hq).grow (c _ List.mem_cons_self) (c q (List.mem_cons_of_mem _ hq)) e) (ih fun p hp => c p (List.mem_cons_of_mem _ hp))
theorem GS.kt_old {a : Addr} (g : GS F S H) (z : KT (S a)) : F.H0 a = none ∨ KT (F.H0 a) := by
  obtain ⟨ks, e⟩ := z
  cases q : F.H0 a with
  | none => exact .inl rfl
  | some o =>
    have e1 := g.h0 a o q
    rw [g.sh a _ e] at e1
    cases e1
    exact .inr ⟨ks, rfl⟩
theorem SC.grow (s : SC F S H p) (e : Same S S') (e2 : Same H H') (n : ∀ a, S' a ≠ none → S a ≠ none ∨ H a = none ∨ KT (H a)) : SC F S' H' p := by
  by_cases ht : p.1.env
  · refine s.keep e (fun a ha _ => Ze3 e2 ha) (fun a ha => Ze3 e2 (Zce s a ha).1) (fun a ha => ?_) ht
    obtain ⟨h1, _, h3⟩ := Zce s a ha
    cases q : S' a with
    | none => rfl
    | some o =>
      rcases n a (by rw [q]; simp) with z | z | z
      · exact (z h3).elim
      · exact (h1 z).elim
      · exact (Zl7 s a ha z).elim
  · obtain ⟨x, v⟩ := p
    cases x with
    | bt d => obtain ⟨a, e1, r⟩ := s; exact ⟨a, e1, by rw [Ze3 e2 r.nn]; exact r.mono e⟩
    | rt _ _ => exact s.elim
    | _ => exact (ht trivial).elim
theorem Zgj {a : Addr} {d : D} (ha : H a = none) (c : SC F S H q) : Za4 H (.ow d, some (.ref a)) q := by
  have key : Dj H (.ow d, some (.ref a)) q := fun b hb hq => by
    obtain rfl : b = a := by simpa [fpC] using hb
    exact (Zce c _ hq).1 ha
  exact ⟨fun _ _ => key, fun _ _ => key⟩
theorem C.newSh {a : Addr} {o : HO} {d : D} (h : C F l H) (ha : H a = none) (hr : ∀ S, GS F S H → (∀ q ∈ l, SC F S H q) → Rep F.K (upd S a o) (.ref a) d) : C F ((.sh d, some (.ref a)) :: l) (upd H a o) := by
  obtain ⟨S, g, c, b⟩ := h
  have hS : S a = none := g.sh.free ha
  refine ⟨upd S a o, g.new ha, fun q hq => ?_, Zar (fun z => z) (Zd4 b c (Zao ha))⟩
  rcases List.mem_cons.mp hq with rfl | hq
  · exact ⟨_, rfl, hr S g c⟩
  · refine (c q hq).grow (Zao hS) (Zao ha) fun b hb => ?_
    by_cases e : b = a
    · subst e; exact .inr (.inl ha)
    · rw [upd_ne e] at hb; exact .inl hb
theorem C.newOw {a : Addr} {o : HO} {d : D} (h : C F l H) (ha : H a = none) (hr : ∀ S, GS F S H → (∀ q ∈ l, SC F S H q) → RC F.K S (some o) d) : C F ((.ow d, some (.ref a)) :: l) (upd H a o) := by
  obtain ⟨S, g, c, b⟩ := h
  have hS : S a = none := g.sh.free ha
  have g' : GS F S (upd H a o) := ⟨g.s0, g.sh.trans (Zao ha), g.h0.trans (Zao ha), g.fr⟩
  have b' := Zd4 b c (Zao (o := o) ha)
  refine ⟨S, g', fun q hq => ?_, List.pairwise_cons.mpr ⟨fun q hq => ?_, b'⟩⟩
  · rcases List.mem_cons.mp hq with rfl | hq
    · exact ⟨a, rfl, g.h0.free ha, hS, by rw [upd_same]; exact hr S g c⟩
    · exact (c q hq).grow (Same.refl S) (Zao ha) fun b hb => .inl hb
  · have ap := Zgj (d := d) ha (c q hq)
    unfold Za4 Dj at ap ⊢
    rw [Zdz (c q hq) (Zao ha)]
    exact ap
theorem RC.rep {K : PySem.W.Frag} {a : Addr} {o : HO} {d : D} (h : RC K S (some o) d) (ha : S a = none) : Rep K (upd S a o) (.ref a) d := by
  have m : Same S (upd S a o) := Zao ha
  cases d with
  | lst ds => obtain ⟨vs, e1, r⟩ := h; cases e1; exact .lst (SqL.of upd_same) (r.mono m)
  | dk kds => obtain ⟨vs, e1, k, r⟩ := h; cases e1; exact .dk (.inl upd_same) k (r.mono m)
  | dt kds => obtain ⟨vs, e1, k, r⟩ := h; cases e1; exact .dt upd_same k (r.mono m)
  | _ => exact h.elim
theorem GS.frz {a : Addr} {o : HO} (g : GS F S H) (hS : S a = none) (h0 : F.H0 a = none) (q : H a = some o) : GS F (upd S a o) H := by
  refine ⟨g.s0.trans (Zao hS), fun b u e => ?_, g.h0, fun b e => ?_⟩
  · by_cases hb : b = a
    · subst hb; rw [upd_same] at e; cases e; exact q
    · rw [upd_ne hb] at e; exact g.sh b u e
  · by_cases hb : b = a
    · subst hb; exact .inr (.inl h0)
    · rw [upd_ne hb] at e ⊢; exact g.fr b e
theorem SC.frz {a : Addr} {o : HO} (s : SC F S H p) (hS : S a = none) (ap : a ∉ fpC H p) : SC F (upd S a o) H p := by
  have m : Same S (upd S a o) := Zao hS
  by_cases ht : p.1.env
  · refine s.keep m (fun _ _ _ => rfl) (fun _ _ => rfl) (fun b hb => ?_) ht
    have ne : b ≠ a := fun z => ap (z ▸ hb)
    rw [upd_ne ne]
    exact (Zce s b hb).2.2
  · obtain ⟨x, v⟩ := p
    cases x with
    | bt d => obtain ⟨a, e1, r⟩ := s; exact ⟨a, e1, r.mono m⟩
    | rt _ _ => exact s.elim
    | _ => exact (ht trivial).elim
theorem C.frz {d : D} {v : Option V} (h : C F ((.ow d, v) :: l) H) : C F ((.sh d, v) :: l) H := by
  obtain ⟨S, g, c, b⟩ := h
  obtain ⟨a, rfl, h0, hS, r⟩ := c _ List.mem_cons_self
  cases q : H a with
  | none => exact (r.nn q).elim
  | some o =>
    rw [q] at r
    obtain ⟨b1, b2⟩ := List.pairwise_cons.mp b
    refine ⟨upd S a o, g.frz hS h0 q, fun p hp => ?_, Zar (fun z => z) b2⟩
    rcases List.mem_cons.mp hp with rfl | hp
    · exact ⟨_, rfl, r.rep hS⟩
    · refine (c p (List.mem_cons_of_mem _ hp)).frz hS fun ha => ?_
      have ap := b1 p hp
      by_cases op : p.1.own
      · exact ap.1 trivial op a (by simp [fpC]) ha
      · obtain ⟨x, w⟩ := p
        cases x with
        | ow _ => exact op trivial
        | lk _ _ => exact op trivial
        | lo _ _ _ => exact op trivial
        | lt _ _ _ => exact op trivial
        | nd _ => exact op trivial
        | na _ _ => exact op trivial
        | ln _ _ => exact op trivial
        | _ => simp [fpC] at ha
theorem Zkn (op : ¬ p.1.own) : fpC H p = [] := by
  obtain ⟨x, w⟩ := p
  cases x with
  | ow _ => exact (op trivial).elim
  | lk _ _ => exact (op trivial).elim
  | lo _ _ _ => exact (op trivial).elim
  | lt _ _ _ => exact (op trivial).elim
  | nd _ => exact (op trivial).elim
  | na _ _ => exact (op trivial).elim
  | ln _ _ => exact (op trivial).elim
  | _ => rfl
theorem Za4.no {a : Addr} (h : Za4 H p q) (hp : p.1.isOw) (ha : a ∈ fpC H p) : a ∉ fpC H q := fun hq => by
  by_cases oq : q.1.own
  · exact h.1 hp oq a ha hq
  · rw [Zkn oq] at hq; simp at hq
theorem Za4.upd {a : Addr} {o : HO} (h : Za4 H p q) (hp : a ∉ fpC H p) (hq : a ∉ fpC H q) : Za4 (upd H a o) p q := by
  have e1 : fpC (L2.upd H a o) p = fpC H p := Zb6 fun b hb => upd_ne fun z => hp (z ▸ hb)
  have e2 : fpC (L2.upd H a o) q = fpC H q := Zb6 fun b hb => upd_ne fun z => hq (z ▸ hb)
  unfold Za4 Dj at h ⊢
  rw [e1, e2]
  exact h
theorem Zjf {l : List Cell} {a : Addr} {o : HO} (h : l.Pairwise (Za4 H)) (n : ∀ p ∈ l, a ∉ fpC H p) : l.Pairwise (Za4 (upd H a o)) := by
  induction h with
  | nil => exact .nil
  | cons h1 h2 ih => exact .cons (fun q hq => (h1 q hq).upd (n _ List.mem_cons_self) (n q (List.mem_cons_of_mem _ hq))) (ih fun p hp => n p (List.mem_cons_of_mem _ hp))
theorem GS.mut {a : Addr} {o : HO} (g : GS F S H) (hS : S a = none) (h0 : F.H0 a = none) : GS F S (upd H a o) :=
  ⟨g.s0, fun b u e => by rw [upd_ne (ne_of_none e hS)]; exact g.sh b u e, fun b u e => by rw [upd_ne (ne_of_none e h0)]; exact g.h0 b u e, g.fr⟩
theorem SC.mut {a : Addr} {o : HO} (s : SC F S H p) (h0 : F.H0 a = none) (n : a ∉ fpC H p) (ht : p.1.env) : SC F S (upd H a o) p :=
  s.keep (Same.refl S) (fun b _ q => upd_ne fun z => q (z ▸ h0)) (fun b hb => upd_ne fun z => n (z ▸ hb)) (fun b hb => (Zce s b hb).2.2) ht
theorem C.mut {a : Addr} {d : D} (h : C F ((.ow d, some (.ref a)) :: l) H) (nb : ∀ p ∈ l, p.1.env) :
    ∃ S, GS F S H ∧ RC F.K S (H a) d ∧ (∀ p ∈ l, SC F S H p) ∧ ∀ o' d', RC F.K S (some o') d' → C F ((.ow d', some (.ref a)) :: l) (upd H a o') := by
  obtain ⟨S, g, c, b⟩ := h
  obtain ⟨a', e1, h0, hS, r⟩ := c _ List.mem_cons_self
  cases e1
  obtain ⟨b1, b2⟩ := List.pairwise_cons.mp b
  have na : ∀ p ∈ l, a ∉ fpC H p := fun p hp => (b1 p hp).no trivial (by simp [fpC])
  refine ⟨S, g, r, fun p hp => c p (List.mem_cons_of_mem _ hp), fun o' d' r' => ⟨S, g.mut hS h0, fun p hp => ?_, List.pairwise_cons.mpr ⟨fun p hp => ?_, Zjf b2 na⟩⟩⟩
  · rcases List.mem_cons.mp hp with rfl | hp
    · exact ⟨a, rfl, h0, hS, by rw [upd_same]; exact r'⟩
    · exact (c p (List.mem_cons_of_mem _ hp)).mut h0 (na p hp) (nb p hp)
  · have e2 : fpC (upd H a o') p = fpC H p := Zb6 fun b hb => upd_ne fun z => na p hp (z ▸ hb)
    have key : Dj (upd H a o') (.ow d', some (.ref a)) p := fun b hb hq => by
      obtain rfl : b = a := by simpa [fpC] using hb
      rw [e2] at hq
      exact na p hp hq
    exact ⟨fun _ _ => key, fun _ _ => key⟩
mutual
noncomputable def D.fz : D → D
  | .own d => d.fz
  | .tup ds => .tup (D.fzs ds)
  | .obj C ns ds => .obj C ns (D.fzs ds)
  | .lso ds => .lst (D.fzs ds)
  | .non => .non
  | .bl b => .bl b
  | .int i => .int i
  | .str s => .str s
  | .lst ds => .lst ds
  | .dk kds => .dk kds
  | .dt kds => .dt kds
  | .rf a => .rf a
  | .fn x => .fn x
  | .exc c fs => .exc c fs
noncomputable def D.fzs : List D → List D
  | [] => []
  | d :: ds => d.fz :: D.fzs ds
end
mutual
theorem Zk1 {K : PySem.W.Frag} : ∀ {v : V} {d : D}, Rep K S v d → d.fz = d
  | _, _, .non => by simp [D.fz]
  | _, _, .bl => by simp [D.fz]
  | _, _, .int => by simp [D.fz]
  | _, _, .str => by simp [D.fz]
  | _, _, .tup _ r => by simp [D.fz, reps_fz r]
  | _, _, .lst _ _ => by simp [D.fz]
  | _, _, .dk _ _ _ => by simp [D.fz]
  | _, _, .dt _ _ _ => by simp [D.fz]
  | _, _, .obj _ _ _ r => by simp [D.fz, reps_fz r]
  | _, _, .rf => by simp [D.fz]
  | _, _, .fn _ => by simp [D.fz]
  | _, _, .exc _ _ => by simp [D.fz]
theorem reps_fz {K : PySem.W.Frag} : ∀ {vs : List V} {ds : List D}, Reps K S vs ds → D.fzs ds = ds
  | _, _, .nil => rfl
  | _, _, .cons r q => by simp [D.fzs, Zk1 r, reps_fz q]
end
theorem Zob {K : PySem.W.Frag} {o : Option HO} {d : D} (h : RC K S o d) : d.fz = d := by
  cases d with
  | lst ds => simp [D.fz]
  | dk ds => simp [D.fz]
  | dt ds => simp [D.fz]
  | _ => exact h.elim
mutual
theorem RCn.rep {K : PySem.W.Frag} (m : Same S S') : ∀ {o : Option HO} {d : D}, RCn K S H o d → (∀ c ∈ D.inn H d o, S' c = H c) → ∀ a : Addr, S' a = o → Rep K S' (.ref a) d.fz
  | o, d, .flat r, h, a, e => by
    rw [Zob r]
    cases d with
    | lst ds => obtain ⟨vs, rfl, r⟩ := r; exact .lst (SqL.of e) (r.mono m)
    | dk kds => obtain ⟨vs, rfl, k, r⟩ := r; exact .dk (.inl e) k (r.mono m)
    | dt kds => obtain ⟨vs, rfl, k, r⟩ := r; exact .dt e k (r.mono m)
    | _ => exact r.elim
  | _, _, .tup _ r, h, a, e => by
    rw [D.fz]
    exact .tup e (Itns.rep m r (by simpa only [D.inn] using h))
  | _, _, .obj n k r, h, a, e => by
    rw [D.fz]
    exact .obj e n k (Itns.rep m r (by simpa only [D.inn] using h))
  | _, _, .lso r, h, a, e => by
    rw [D.fz]
    exact .lst (SqL.of e) (Itns.rep m r (by simpa only [D.inn] using h))
theorem Itn.rep {K : PySem.W.Frag} (m : Same S S') : ∀ {v : V} {d : D}, Itn K S H v d → (∀ c ∈ D.foot H d v, S' c = H c) → Rep K S' v d.fz
  | _, _, .sh r, h => by rw [Zk1 r]; exact r.mono m
  | .ref b, .own d, .ow r, h => by
    rw [D.fz]
    exact RCn.rep m r (fun c hc => h c (by simp [D.foot, hc])) b (h b (by simp [D.foot]))
theorem Itns.rep {K : PySem.W.Frag} (m : Same S S') : ∀ {vs : List V} {ds : List D}, Itns K S H vs ds → (∀ c ∈ D.foots H ds vs, S' c = H c) → Reps K S' vs (D.fzs ds)
  | _, _, .nil, h => .nil
  | _, _, .cons r q, h => .cons (Itn.rep m r fun b hb => h b (by simp only [D.foots]; exact List.mem_append_left _ hb)) (Itns.rep m q fun b hb => h b (by simp only [D.foots]; exact List.mem_append_right _ hb))
end
theorem SC.frzS {p : Cell} (s : SC F S H p) (m : Same S S') (n : ∀ b ∈ fpC H p, S' b = none) : SC F S' H p := by
  by_cases ht : p.1.env
  · exact s.keep m (fun _ _ _ => rfl) (fun _ _ => rfl) n ht
  · obtain ⟨x, v⟩ := p
    cases x with
    | bt d => obtain ⟨a, e1, r⟩ := s; exact ⟨a, e1, r.mono m⟩
    | rt _ _ => exact s.elim
    | _ => exact (ht trivial).elim
noncomputable def addS (S H : Hp) (fp : List Addr) : Hp := open Classical in fun a => if a ∈ fp then H a else S a
theorem Zf4 {fp : List Addr} {a : Addr} (h : a ∈ fp) : addS S H fp a = H a := by simp [addS, h]
theorem Zeh {fp : List Addr} {a : Addr} (h : a ∉ fp) : addS S H fp a = S a := by simp [addS, h]
theorem Zgr {fp : List Addr} (g : Same S H) : Same S (addS S H fp) := fun a u e => by
  by_cases h : a ∈ fp
  · rw [Zf4 h]; exact g a u e
  · rw [Zeh h]; exact e
theorem GS.add {fp : List Addr} (g : GS F S H) (h : ∀ b ∈ fp, F.H0 b = none) : GS F (addS S H fp) H := by
  refine ⟨g.s0.trans (Zgr g.sh), fun b u e => ?_, g.h0, fun b e => ?_⟩
  · by_cases hb : b ∈ fp
    · rw [Zf4 hb] at e; exact e
    · rw [Zeh hb] at e; exact g.sh b u e
  · by_cases hb : b ∈ fp
    · exact .inr (.inl (h b hb))
    · rw [Zeh hb] at e ⊢; exact g.fr b e
theorem C.fzN {x : Slot} {d : D} {v : Option V} (h : C F ((x, v) :: l) H) (hx : x = .nd d ∨ ∃ a, x = .na a d) : C F ((.sh d.fz, v) :: l) H := by
  obtain ⟨S, g, c, b⟩ := h
  obtain ⟨b1, b2⟩ := List.pairwise_cons.mp b
  have s := c _ List.mem_cons_self
  have key : ∃ a, v = some (.ref a) ∧ RCn F.K S H (H a) d ∧ fpC H (x, v) = a :: D.inn H d (H a) ∧ (∀ b ∈ a :: D.inn H d (H a), F.H0 b = none ∧ S b = none) ∧ x.isOw := by
    rcases hx with rfl | ⟨a, rfl⟩
    · obtain ⟨a, rfl, r, _, q⟩ := s; exact ⟨a, rfl, r, rfl, q, trivial⟩
    · obtain ⟨rfl, r, _, q⟩ := s; exact ⟨a, rfl, r, rfl, q, trivial⟩
  obtain ⟨a, rfl, r, ef, q, ho⟩ := key
  have m : Same S (addS S H (a :: D.inn H d (H a))) := Zgr g.sh
  refine ⟨addS S H (a :: D.inn H d (H a)), g.add fun b hb => (q b hb).1, fun p hp => ?_, Zar (fun z => z) b2⟩
  rcases List.mem_cons.mp hp with rfl | hp
  · exact ⟨_, rfl, r.rep m (fun c hc => Zf4 (List.mem_cons_of_mem _ hc)) a (Zf4 List.mem_cons_self)⟩
  · have sp := c p (List.mem_cons_of_mem _ hp)
    refine sp.frzS m fun b hb => ?_
    have nb : b ∉ a :: D.inn H d (H a) := fun z => (b1 p hp).no ho (ef ▸ z) hb
    rw [Zeh nb]
    exact (Zce sp b hb).2.2
theorem C.seqL {x : Slot} {v : Option V} {ds : List D} (h : C F ((x, v) :: l) H) (hx : x.dat = some (.lst ds)) : ∃ a vs, v = some (.ref a) ∧ SqL F.K H a vs ∧ vs.length = ds.length ∧ ∃ S, GS F S H ∧ Reps F.K S vs ds ∧ (∀ p ∈ (x, v) :: l, SC F S H p) ∧ l.Pairwise (Za4 H) := by
  obtain ⟨S, g, c, b⟩ := h
  have b2 := (List.pairwise_cons.mp b).2
  have s := c _ List.mem_cons_self
  cases x with
  | un => cases hx
  | sh d =>
    cases hx
    obtain ⟨u, e, r⟩ := s
    cases r with
    | lst hq r => exact ⟨_, _, e, Zdk g.sh hq, r.len, S, g, r, c, b2⟩
  | ow d => cases hx; obtain ⟨a, e, _, _, vs, e2, r⟩ := s; exact ⟨a, vs, e, SqL.of e2, r.len, S, g, r, c, b2⟩
  | bo d => cases hx; obtain ⟨a, e, _, vs, e2, r⟩ := s; exact ⟨a, vs, e, SqL.of e2, r.len, S, g, r, c, b2⟩
  | bt d => cases hx; obtain ⟨a, e, vs, e2, r⟩ := s; exact ⟨a, vs, e, SqL.of e2, r.len, S, g, r, c, b2⟩
  | lk a d => cases hx; obtain ⟨e, _, _, vs, e2, r⟩ := s; exact ⟨a, vs, e, SqL.of e2, r.len, S, g, r, c, b2⟩
  | lo a _ d => cases hx
  | lt a _ d => cases hx
  | nd d => cases hx
  | nb d => cases hx
  | ln fp d => cases hx
  | xc _ => cases hx
  | xe _ _ _ => cases hx
  | na _ _ => cases hx
  | rt _ _ => cases hx
theorem C.seqT {x : Slot} {v : Option V} {ds : List D} (h : C F ((x, v) :: l) H) (hx : x.dat = some (.tup ds)) : ∃ a vs, v = some (.ref a) ∧ SqT F.K H a vs ∧ vs.length = ds.length ∧ ∃ S, GS F S H ∧ Reps F.K S vs ds ∧ (∀ p ∈ (x, v) :: l, SC F S H p) ∧ l.Pairwise (Za4 H) := by
  obtain ⟨S, g, c, b⟩ := h
  have b2 := (List.pairwise_cons.mp b).2
  have s := c _ List.mem_cons_self
  cases x with
  | un => cases hx
  | sh d =>
    cases hx
    obtain ⟨u, e, r⟩ := s
    cases r with
    | tup hq r => exact ⟨_, _, e, SqT.of (g.sh _ _ hq), r.len, S, g, r, c, b2⟩
  | ow d => cases hx; obtain ⟨a, e, _, _, r⟩ := s; exact r.elim
  | bo d => cases hx; obtain ⟨a, e, _, r⟩ := s; exact r.elim
  | bt d => cases hx; obtain ⟨a, e, r⟩ := s; exact r.elim
  | lk a d => cases hx; obtain ⟨e, _, _, r⟩ := s; exact r.elim
  | lo a _ d => cases hx
  | lt a _ d => cases hx
  | nd d => cases hx
  | nb d => cases hx
  | ln fp d => cases hx
  | xc _ => cases hx
  | xe _ _ _ => cases hx
  | na _ _ => cases hx
  | rt _ _ => cases hx
theorem C.shInt {v : Option V} {i : Int} (h : C F ((.sh (.int i), v) :: l) H) : v = some (.int i) := by
  obtain ⟨S, g, c, b⟩ := h
  obtain ⟨u, e, r⟩ := c _ List.mem_cons_self
  cases r; exact e
theorem C.shBl {v : Option V} {i : Bool} (h : C F ((.sh (.bl i), v) :: l) H) : v = some (.bl i) := by
  obtain ⟨S, g, c, b⟩ := h
  obtain ⟨u, e, r⟩ := c _ List.mem_cons_self
  cases r; exact e
end
section
variable {α β : Type}
theorem Za1 : ∀ {xs : List α} {ys : List β} {i : Nat} {x : α}, xs.length = ys.length → xs[i]? = some x → ∃ y, ys[i]? = some y ∧ (xs.zip ys)[i]? = some (x, y)
  | [], _, _, _, _, h => by simp at h
  | a :: xs, [], _, _, h, _ => by simp at h
  | a :: xs, b :: ys, 0, x, _, h => by simp at h; subst h; exact ⟨b, rfl, rfl⟩
  | a :: xs, b :: ys, i + 1, x, hl, h => by
    obtain ⟨y, h1, h2⟩ := Za1 (xs := xs) (ys := ys) (i := i) (x := x) (by simpa using hl) (by simpa using h)
    exact ⟨y, by simpa using h1, by simpa using h2⟩
theorem Zd5 : ∀ {xs : List α} {ys : List β} (i : Nat) (x : α) (y : β), (xs.set i x).zip (ys.set i y) = (xs.zip ys).set i (x, y)
  | [], _, i, x, y => by simp
  | a :: xs, [], i, x, y => by cases i <;> simp
  | a :: xs, b :: ys, 0, x, y => rfl
  | a :: xs, b :: ys, i + 1, x, y => by
    show (a, b) :: (xs.set i x).zip (ys.set i y) = (a, b) :: (xs.zip ys).set i (x, y)
    rw [Zd5]
theorem Zci : ∀ {l : List α} {i : Nat} {x : α}, l[i]? = some x → l.Perm (x :: l.eraseIdx i)
  | [], _, _, h => by simp at h
  | a :: l, 0, x, h => by simp at h; subst h; exact List.Perm.refl _
  | a :: l, i + 1, x, h => by
    have ih := Zci (l := l) (i := i) (x := x) (by simpa using h)
    exact (ih.cons a).trans (List.Perm.swap _ _ _)
theorem Zei : ∀ {l : List α} {i : Nat} {x y : α}, l[i]? = some x → (l.set i y).Perm (y :: l.eraseIdx i)
  | [], _, _, _, h => by simp at h
  | a :: l, 0, x, y, h => List.Perm.refl _
  | a :: l, i + 1, x, y, h => by
    have ih := Zei (l := l) (i := i) (x := x) (y := y) (by simpa using h)
    exact (ih.cons a).trans (List.Perm.swap _ _ _)
theorem Zax {l : List α} {i : Nat} {x : α} (h : l[i]? = some x) : x ∈ l := List.mem_of_getElem? h
theorem Zgg {l : List α} {i : Nat} {x : α} (h : x ∈ l.eraseIdx i) : x ∈ l := List.mem_of_mem_eraseIdx h
theorem Zgy {xs : List α} {ys : List β} {p : α × β} (h : p ∈ xs.zip ys) : p.1 ∈ xs := (List.of_mem_zip h).1
end
end DL
set_option Elab.async false
set_option linter.all false
set_option maxRecDepth 100000
set_option maxHeartbeats 4000000
namespace DL
open PySem PySem.Spec PyProof.Rows L2
inductive R (α : Type) where
  | ok (x : α) | ex (c : Str) (fs : List (Str × D))
noncomputable abbrev En := List Slot
noncomputable abbrev WE := En → (R Slot → Prop) → Prop
noncomputable abbrev WA := En → (R (List Slot) → Prop) → Prop
noncomputable abbrev WI := En → (R (List D) → Prop) → Prop
noncomputable def rk {α β : Type} (k : α → Prop) (Q : R β → Prop) : R α → Prop
  | .ok x => k x
  | .ex c fs => Q (.ex c fs)
noncomputable def Mono {α : Type} (w : En → (R α → Prop) → Prop) : Prop := ∀ env Q Q', (∀ r, Q r → Q' r) → w env Q → w env Q'
noncomputable def XF (H : Hp) (d : Option Addr) (fs : List (Str × D)) : Prop :=
  (fs = [] ∧ d = none) ∨ ∃ (a : Addr) (ns : List (Str × Int)), fs = ns.map (fun p => (p.1, D.int p.2)) ∧ ns ≠ [] ∧ d = some a ∧ H a = some (.xd (ns.map fun p => (p.1, V.int p.2)))
structure CE (F : Fr) (l : List Cell) (env : En) (σ : L2.St) (H : Hp) : Prop where
  len : env.length = σ.length
  ok : ∀ x ∈ env, x.env
  c : C F (l ++ env.zip σ) H
noncomputable def LEp (F : Fr) (W : WX) (l : List Cell) (env : En) (σ : L2.St) (Q : VK) : R Slot → Prop
  | .ok x => ∀ v H', C F ((x, some v) :: (l ++ env.zip σ)) H' → Q v H'
  | .ex c fs => ∀ A d H', F.mg c = some (.ref A) → XF H' d fs → C F (l ++ env.zip σ) H' → W (.ref A) d σ H'
noncomputable def LTp (F : Fr) (W : WX) (l : List Cell) (env : En) (σ : L2.St) (Q : Bool → Hp → Prop) : R Slot → Prop
  | .ok x => ∃ b, x = .sh (.bl b) ∧ ∀ H', C F (l ++ env.zip σ) H' → Q b H'
  | .ex c fs => ∀ A d H', F.mg c = some (.ref A) → XF H' d fs → C F (l ++ env.zip σ) H' → W (.ref A) d σ H'
noncomputable def LAp (F : Fr) (W : WX) (l : List Cell) (env : En) (σ : L2.St) (Q : List V → Hp → Prop) : R (List Slot) → Prop
  | .ok xs => ∀ vs H', vs.length = xs.length → C F (xs.zip (vs.map some) ++ (l ++ env.zip σ)) H' → Q vs H'
  | .ex c fs => ∀ A d H', F.mg c = some (.ref A) → XF H' d fs → C F (l ++ env.zip σ) H' → W (.ref A) d σ H'
noncomputable def LE (F : Fr) (W : WX) (w : WE) : TE := fun σ H Q => ∃ l env, CE F l env σ H ∧ w env (LEp F W l env σ Q)
noncomputable def LT (F : Fr) (W : WX) (w : WE) : TT := fun σ H Q => ∃ l env, CE F l env σ H ∧ w env (LTp F W l env σ Q)
noncomputable def LA (F : Fr) (W : WX) (w : WA) : TA := fun σ H Q => ∃ l env, CE F l env σ H ∧ w env (LAp F W l env σ Q)
structure DE (X : Cx) (F : Fr) (W : WX) (e : Expr) (w : WE) : Prop where
  run : PE X e (LE F W w)
  mono : Mono w
structure DT (X : Cx) (F : Fr) (W : WX) (e : Expr) (w : WE) : Prop where
  run : PT X e (LT F W w)
  mono : Mono w
structure DW (X : Cx) (F : Fr) (W : WX) (e : Expr) (w : WE) : Prop where
  run : PW X e (LT F W w)
  mono : Mono w
structure DA (X : Cx) (F : Fr) (W : WX) (es : List Expr) (w : WA) : Prop where
  run : PA X es (LA F W w)
  mono : Mono w
theorem Zbd {X : Cx} {e : Expr} {t t' : TE} (h : PE X e t) (q : ∀ σ H Q, t' σ H Q → t σ H Q) : PE X e t' := ⟨fun pins s σ H Q I z => h.run pins s σ H Q I (q _ _ _ z)⟩
theorem Zj3 {X : Cx} {e : Expr} {t t' : TT} (h : PT X e t) (q : ∀ σ H Q, t' σ H Q → t σ H Q) : PT X e t' := ⟨fun pins s σ H Q I z => h.run pins s σ H Q I (q _ _ _ z)⟩
theorem Zm3 {X : Cx} {e : Expr} {t t' : TT} (h : PW X e t) (q : ∀ σ H Q, t' σ H Q → t σ H Q) : PW X e t' := ⟨fun wh pins s σ H Q I z => h.run wh pins s σ H Q I (q _ _ _ z)⟩
theorem Zk9 {X : Cx} {es : List Expr} {t t' : TA} (h : PA X es t) (q : ∀ σ H Q, t' σ H Q → t σ H Q) : PA X es t' := ⟨fun pos pins s σ H Q I z => h.run pos pins s σ H Q I (q _ _ _ z)⟩
theorem Zdl {X : Cx} {st : Stmt} {t t' : TS} (h : PS X st t) (q : ∀ D σ H, t' D σ H → t D σ H) : PS X st t' := ⟨fun pins s σ H D I z => h.run pins s σ H D I (q _ _ _ z)⟩
theorem Zhb {X : Cx} {st : List Stmt} {t t' : TS} (h : PSs X st t) (q : ∀ D σ H, t' D σ H → t D σ H) : PSs X st t' := ⟨fun pins s σ H D I z => h.run pins s σ H D I (q _ _ _ z)⟩
section
variable {X : Cx} {F : Fr} {W : WX} {a b c e : Expr} {es : List Expr} {wa wb wc w : WE} {wA : WA} {pos : Pos}
theorem CE.to {l : List Cell} {env : En} {σ : L2.St} {H H' : Hp} {l' : List Cell} (k : CE F l env σ H) (h : C F (l' ++ (l ++ env.zip σ)) H') : CE F (l' ++ l) env σ H' := ⟨k.len, k.ok, by rw [List.append_assoc]; exact h⟩
theorem CE.to1 {l : List Cell} {env : En} {σ : L2.St} {H H' : Hp} {p : Cell} (k : CE F l env σ H) (h : C F (p :: (l ++ env.zip σ)) H') : CE F (p :: l) env σ H' := ⟨k.len, k.ok, h⟩
theorem CE.at {l : List Cell} {env : En} {σ : L2.St} {H H' : Hp} (k : CE F l env σ H) (h : C F (l ++ env.zip σ) H') : CE F l env σ H' := ⟨k.len, k.ok, h⟩
theorem Zbi {β : Type} {w : WE} {l : List Cell} {env : En} {σ : L2.St} {k : Slot → Prop} {Q : R β → Prop} {Q' : VK} (m : Mono w) (h : w env (rk k Q))
    (h1 : ∀ x, k x → ∀ v H', C F ((x, some v) :: (l ++ env.zip σ)) H' → Q' v H') (h2 : ∀ c fs, Q (.ex c fs) → LEp F W l env σ Q' (.ex c fs)) : w env (LEp F W l env σ Q') :=
  m env _ _ (fun r q => match r, q with
    | .ok x, q => h1 x q
    | .ex c fs, q => h2 c fs q) h
theorem Zaq {α β : Type} {w : En → (R α → Prop) → Prop} (m : Mono w) {k k' : α → Prop} {Q Q' : R β → Prop} {env : En} (hk : ∀ x, k x → k' x) (hq : ∀ r, Q r → Q' r) (h : w env (rk k Q)) : w env (rk k' Q') :=
  m env _ _ (fun r q => match r, q with
    | .ok x, q => hk x q
    | .ex c fs, q => hq _ q) h
noncomputable def wVar (i : Nat) : WE := fun env Q => match env[i]? with
  | some (.sh d) => Q (.ok (.sh d))
  | some (.bo d) => Q (.ok (.bo d))
  | some (.ow d) => Q (.ok (.bt d))
  | some (.lk a d) => Q (.ok (.lk a d))
  | some (.lo a u d) => Q (.ok (.lo a u d))
  | some (.lt a u d) => Q (.ok (.lt a u d))
  | some (.nb d) => Q (.ok (.nb d))
  | some (.ln fp d) => Q (.ok (.ln fp d))
  | some (.na _ d) => Q (.ok (Zig d))
  | some (.nd d) => Q (.ok (Zig d))
  | _ => False
theorem Zad (i : Nat) {x : Str} (hN : X.N[i]? = some x := by rfl) (hv : Vis X.env.scope x := by first | exact Or.inl rfl | exact Or.inr (Or.inl rfl) | exact Or.inr (Or.inr rfl)) (hd : (x == ("__debug__" : Str)) = false := by decide)
    (hcd : (x == ("__classdict__" : Str)) = false := by decide) : DE X F W (.Name x pos) (wVar i) := by
  refine ⟨Zbd (pe_var hN hv hd hcd) fun σ H Q h => ?_, fun env Q Q' m h => ?_⟩
  · obtain ⟨l, env, k, h⟩ := h
    unfold wVar at h
    split at h
    · rename_i d e
      obtain ⟨v, e1, e2⟩ := Za1 k.len e
      have hm : (Slot.sh d, v) ∈ l ++ env.zip σ := List.mem_append_right _ (Zax e2)
      have c1 := k.c.dup hm
      obtain ⟨u, rfl⟩ := c1.val
      exact ⟨u, e1, h u H c1⟩
    · rename_i d e
      obtain ⟨v, e1, e2⟩ := Za1 k.len e
      have hm : (Slot.bo d, v) ∈ l ++ env.zip σ := List.mem_append_right _ (Zax e2)
      have c1 := k.c.dupB hm
      obtain ⟨S, g, cc, _⟩ := id c1
      obtain ⟨u, e3, _⟩ := cc _ List.mem_cons_self
      subst e3
      exact ⟨_, e1, h _ H c1⟩
    · rename_i d e
      obtain ⟨v, e1, e2⟩ := Za1 k.len e
      have hm : (Slot.ow d, v) ∈ l ++ env.zip σ := List.mem_append_right _ (Zax e2)
      have c1 := k.c.look hm
      obtain ⟨S, g, cc, _⟩ := id c1
      obtain ⟨u, e3, _⟩ := cc _ List.mem_cons_self
      subst e3
      exact ⟨_, e1, h _ H c1⟩
    · rename_i a d e
      obtain ⟨v, e1, e2⟩ := Za1 k.len e
      have hm : (Slot.lk a d, v) ∈ l ++ env.zip σ := List.mem_append_right _ (Zax e2)
      have c1 := k.c.dupL hm
      obtain ⟨S, g, cc, _⟩ := id c1
      obtain ⟨e3, _⟩ := cc _ List.mem_cons_self
      subst e3
      exact ⟨_, e1, h _ H c1⟩
    · rename_i a u d e
      obtain ⟨v, e1, e2⟩ := Za1 k.len e
      have hm : (Slot.lo a u d, v) ∈ l ++ env.zip σ := List.mem_append_right _ (Zax e2)
      have c1 := k.c.dupK hm
      obtain ⟨S, g, cc, _⟩ := id c1
      obtain ⟨e3, _⟩ := cc _ List.mem_cons_self
      subst e3
      exact ⟨_, e1, h _ H c1⟩
    · rename_i a u d e
      obtain ⟨v, e1, e2⟩ := Za1 k.len e
      have hm : (Slot.lt a u d, v) ∈ l ++ env.zip σ := List.mem_append_right _ (Zax e2)
      have c1 := k.c.dupKt hm
      obtain ⟨S, g, cc, _⟩ := id c1
      obtain ⟨e3, _⟩ := cc _ List.mem_cons_self
      subst e3
      exact ⟨_, e1, h _ H c1⟩
    · rename_i d e
      obtain ⟨v, e1, e2⟩ := Za1 k.len e
      have hm : (Slot.nb d, v) ∈ l ++ env.zip σ := List.mem_append_right _ (Zax e2)
      have c1 := k.c.dupN hm
      obtain ⟨S, g, cc, _⟩ := id c1
      obtain ⟨u, e3, _⟩ := cc _ List.mem_cons_self
      subst e3
      exact ⟨_, e1, h _ H c1⟩
    · rename_i fp d e
      obtain ⟨v, e1, e2⟩ := Za1 k.len e
      have hm : (Slot.ln fp d, v) ∈ l ++ env.zip σ := List.mem_append_right _ (Zax e2)
      have c1 := k.c.dupO hm fun z => z
      obtain ⟨S, g, cc, _⟩ := id c1
      obtain ⟨u, e3, _⟩ := cc _ List.mem_cons_self
      subst e3
      exact ⟨_, e1, h _ H c1⟩
    · rename_i a d e
      obtain ⟨v, e1, e2⟩ := Za1 k.len e
      have hm : (Slot.na a d, v) ∈ l ++ env.zip σ := List.mem_append_right _ (Zax e2)
      have c1 := k.c.lookA hm
      obtain ⟨S, g, cc, _⟩ := id c1
      obtain ⟨e3, _⟩ := cc _ (List.mem_cons_of_mem _ hm)
      subst e3
      exact ⟨_, e1, h _ H c1⟩
    · rename_i d e
      obtain ⟨v, e1, e2⟩ := Za1 k.len e
      have hm : (Slot.nd d, v) ∈ l ++ env.zip σ := List.mem_append_right _ (Zax e2)
      have c1 := k.c.lookD hm
      obtain ⟨S, g, cc, _⟩ := id c1
      obtain ⟨u, e3, _⟩ := cc _ (List.mem_cons_of_mem _ hm)
      subst e3
      exact ⟨_, e1, h _ H c1⟩
    · exact h.elim
  · unfold wVar at h ⊢
    split at h
    · exact m _ h
    · exact m _ h
    · exact m _ h
    · exact m _ h
    · exact m _ h
    · exact m _ h
    · exact m _ h
    · exact m _ h
    · exact m _ h
    · exact m _ h
    · exact h.elim
noncomputable def wInt (i : Int) : WE := fun _ Q => Q (.ok (.sh (.int i)))
noncomputable def wBl (b : Bool) : WE := fun _ Q => Q (.ok (.sh (.bl b)))
noncomputable def wStr (s : Str) : WE := fun _ Q => Q (.ok (.sh (.str s)))
theorem Za0 {i : Int} {j : Nat} : DE X F W (.Constant (.int i) j pos) (wInt i) := ⟨Zbd pe_int fun σ H Q ⟨l, env, k, h⟩ => h _ H (k.c.int i), fun _ _ _ m h => m _ h⟩
theorem Zg8 {i : Bool} {j : Nat} : DE X F W (.Constant (.bool i) j pos) (wBl i) := ⟨Zbd pe_bl fun σ H Q ⟨l, env, k, h⟩ => h _ H (k.c.bl i), fun _ _ _ m h => m _ h⟩
theorem Zc1 {i : Str} {j : Nat} : DE X F W (.Constant (.str i) j pos) (wStr i) := ⟨Zbd pe_str fun σ H Q ⟨l, env, k, h⟩ => h _ H (k.c.str i), fun _ _ _ m h => m _ h⟩
noncomputable abbrev O2 := Slot → Slot → (Slot → Prop) → Prop
noncomputable abbrev O1 := Slot → (Slot → Prop) → Prop
noncomputable def Zf2 (o : O2) : Prop := ∀ x y k k', (∀ z, k z → k' z) → o x y k → o x y k'
noncomputable def Zdn (o : O1) : Prop := ∀ x k k', (∀ z, k z → k' z) → o x k → o x k'
noncomputable def wOp (o : O2) (wa wb : WE) : WE := fun env Q => wa env (rk (fun x => wb env (rk (fun y => o x y fun z => Q (.ok z)) Q)) Q)
noncomputable def wUn (o : O1) (wa : WE) : WE := fun env Q => wa env (rk (fun x => o x fun z => Q (.ok z)) Q)
noncomputable def Zem (F : Fr) (r : R2) (o : O2) : Prop := ∀ (l : List Cell) (H : Hp) (x y : Slot) (vx vy : V) (ks : Slot → Prop) (Q : VK),
  C F ((y, some vy) :: (x, some vx) :: l) H → o x y ks → (∀ z v H', ks z → C F ((z, some v) :: l) H' → Q v H') → r vx vy H Q
noncomputable def Zkr (F : Fr) (r : V → Hp → VK → Prop) (o : O1) : Prop := ∀ (l : List Cell) (H : Hp) (x : Slot) (vx : V) (ks : Slot → Prop) (Q : VK),
  C F ((x, some vx) :: l) H → o x ks → (∀ z v H', ks z → C F ((z, some v) :: l) H' → Q v H') → r vx H Q
theorem Zaf {o : O2} (ha : Mono wa) (hb : Mono wb) (ho : Zf2 o) : Mono (wOp o wa wb) := fun env Q Q' m h =>
  Zaq ha (fun x hx => Zaq hb (fun y hy => ho x y _ _ (fun z hz => m _ hz) hy) m hx) m h
theorem Zak {o : O1} (ha : Mono wa) (ho : Zdn o) : Mono (wUn o wa) := fun env Q Q' m h => Zaq ha (fun x hx => ho x _ _ (fun z hz => m _ hz) hx) m h
theorem Zky {r : R2} {o : O2} (sn : Zem F r o) (ha : DE X F W a wa) (hb : DE X F W b wb) {σ : L2.St} {H : Hp} {Q : VK} (h : LE F W (wOp o wa wb) σ H Q) : tOp r (LE F W wa) (LE F W wb) σ H Q := by
  obtain ⟨l, env, k, h⟩ := h
  refine ⟨l, env, k, Zbi ha.mono h (fun x hx v H1 c1 => ?_) fun c fs q => q⟩
  refine ⟨(x, some v) :: l, env, k.to1 c1, Zbi hb.mono hx (fun y hy u H2 c2 => ?_) fun c fs q => ?_⟩
  · exact sn _ H2 x y v u _ Q c2 hy fun z vz H' hz cz => hz vz H' cz
  · exact fun A d H' hA hx c3 => q A d H' hA hx c3.tail
theorem Znm {r : V → Hp → VK → Prop} {o : O1} (sn : Zkr F r o) (ha : DE X F W a wa) {σ : L2.St} {H : Hp} {Q : VK} (h : LE F W (wUn o wa) σ H Q) : tUn r (LE F W wa) σ H Q := by
  obtain ⟨l, env, k, h⟩ := h
  refine ⟨l, env, k, Zbi ha.mono h (fun x hx v H1 c1 => ?_) fun c fs q => q⟩
  exact sn _ H1 x v _ Q c1 hx fun z vz H' hz cz => hz vz H' cz
theorem Zic {op : Operator} {r : R2} {o : O2} (ho : OpR X (binaryOp op) r) (sn : Zem F r o) (om : Zf2 o) (ha : DE X F W a wa) (hb : DE X F W b wb) : DE X F W (.BinOp a op b pos) (wOp o wa wb) :=
  ⟨Zbd (pe_op ho ha.run hb.run) fun _ _ _ h => Zky sn ha hb h, Zaf ha.mono hb.mono om⟩
theorem Zmt {op : CmpOp} {r : R2} {o : O2} (ho : OpR X (compareOp op) r) (sn : Zem F r o) (om : Zf2 o) (ha : DE X F W a wa) (hb : DE X F W b wb) (hm : behindInMarks op b = false) : DE X F W (.Compare a [op] [b] pos) (wOp o wa wb) :=
  ⟨Zbd (pe_cmpR ho ha.run hb.run hm) fun _ _ _ h => Zky sn ha hb h, Zaf ha.mono hb.mono om⟩
theorem Zol {op : UnaryOp} {r : V → Hp → VK → Prop} {o : O1} (ho : UnR X (unaryOp op) r) (sn : Zkr F r o) (om : Zdn o) (ha : DE X F W a wa) : DE X F W (.UnaryOp op a pos) (wUn o wa) :=
  ⟨Zbd (pe_un ho ha.run) fun _ _ _ h => Znm sn ha h, Zak ha.mono om⟩
noncomputable def oI (c : Int → Int → Prop) (g : Int → Int → D) : O2 := fun x y k => match x, y with
  | .sh (.int i), .sh (.int j) => c i j ∧ k (.sh (g i j))
  | _, _ => False
noncomputable def oI0 (g : Int → Int → D) : O2 := fun x y k => match x, y with
  | .sh (.int i), .sh (.int j) => k (.sh (g i j))
  | _, _ => False
theorem Zav {c : Int → Int → Prop} {g : Int → Int → D} : Zf2 (oI c g) := fun x y k k' m h => by
  unfold oI at h ⊢
  split at h
  · exact ⟨h.1, m _ h.2⟩
  · exact h.elim
theorem Zba {g : Int → Int → D} : Zf2 (oI0 g) := fun x y k k' m h => by
  unfold oI0 at h ⊢
  split at h
  · exact m _ h
  · exact h.elim
theorem Zhz {c : Int → Int → Prop} {g : Int → Int → Int} : Zem F (rI c fun i j => .int (g i j)) (oI c fun i j => .int (g i j)) := fun l H x y vx vy ks Q hc ho hq => by
  unfold oI at ho
  split at ho
  · rename_i i j
    have e1 := hc.shInt
    have e2 := hc.tail.shInt
    cases e1; cases e2
    exact ⟨i, j, rfl, rfl, ho.1, hq _ _ H ho.2 (hc.tail.tail.int _)⟩
  · exact ho.elim
theorem Zl0 {g : Int → Int → Int} : Zem F (rI0 fun i j => .int (g i j)) (oI0 fun i j => .int (g i j)) := fun l H x y vx vy ks Q hc ho hq => by
  unfold oI0 at ho
  split at ho
  · rename_i i j
    have e1 := hc.shInt
    have e2 := hc.tail.shInt
    cases e1; cases e2
    exact ⟨i, j, rfl, rfl, hq _ _ H ho (hc.tail.tail.int _)⟩
  · exact ho.elim
theorem Zla {g : Int → Int → Bool} : Zem F (rI0 fun i j => .bl (g i j)) (oI0 fun i j => .bl (g i j)) := fun l H x y vx vy ks Q hc ho hq => by
  unfold oI0 at ho
  split at ho
  · rename_i i j
    have e1 := hc.shInt
    have e2 := hc.tail.shInt
    cases e1; cases e2
    exact ⟨i, j, rfl, rfl, hq _ _ H ho (hc.tail.tail.bl _)⟩
  · exact ho.elim
noncomputable def oAdd : O2 := oI0 fun i j => .int (i + j)
noncomputable def oMul : O2 := oI CMul fun i j => .int (i * j)
noncomputable def oMod : O2 := oI (fun _ j => 0 < j) fun i j => .int (i % j)
noncomputable def oDiv : O2 := oI CDivW fun i j => .int (i / j)
noncomputable def oPow : O2 := oI CPow fun i j => .int (i ^ j.toNat)
theorem Zfi (ha : DE X F W a wa) (hb : DE X F W b wb) : DE X F W (.BinOp a .Mult b pos) (wOp oMul wa wb) := Zic op_mul Zhz Zav ha hb
theorem Ze2 (ha : DE X F W a wa) (hb : DE X F W b wb) : DE X F W (.BinOp a .Mod b pos) (wOp oMod wa wb) := Zic op_mod Zhz Zav ha hb
theorem Znh (ha : DE X F W a wa) (hb : DE X F W b wb) : DE X F W (.BinOp a .FloorDiv b pos) (wOp oDiv wa wb) := Zic op_fdivW Zhz Zav ha hb
theorem Zld (ha : DE X F W a wa) (hb : DE X F W b wb) : DE X F W (.BinOp a .Pow b pos) (wOp oPow wa wb) := Zic op_pow Zhz Zav ha hb
theorem Zgu (ha : DE X F W a wa) (hb : DE X F W b wb) : DE X F W (.BinOp a .Add b pos) (wOp oAdd wa wb) := Zic op_add Zl0 Zba ha hb
noncomputable def oLt : O2 := oI0 fun i j => .bl (decide (i < j))
noncomputable def oGe : O2 := oI0 fun i j => .bl (decide (j ≤ i))
noncomputable def oNeg : O1 := fun x k => match x with
  | .sh (.int i) => k (.sh (.int (-i)))
  | _ => False
theorem Znu (ha : DE X F W a wa) : DE X F W (.UnaryOp .USub a pos) (wUn oNeg wa) := Zol un_neg (fun l H x vx ks Q hc ho hq => by
  unfold oNeg at ho
  split at ho
  · rename_i i
    have e1 := hc.shInt
    cases e1
    exact ⟨i, rfl, hq _ _ H ho (hc.tail.int _)⟩
  · exact ho.elim) (fun x k k' m h => by
  unfold oNeg at h ⊢
  split at h
  · exact m _ h
  · exact h.elim) ha
noncomputable def asB (k : Bool → Prop) : Slot → Prop
  | .sh (.bl b) => k b
  | _ => False
noncomputable def wAnd (wa wb : WE) : WE := fun env Q => wa env (rk (asB fun b => match b with | true => wb env Q | false => Q (.ok (.sh (.bl false)))) Q)
noncomputable def wOr (wa wb : WE) : WE := fun env Q => wa env (rk (asB fun b => match b with | true => Q (.ok (.sh (.bl true))) | false => wb env Q) Q)
noncomputable def wNot (wa : WE) : WE := fun env Q => wa env (rk (asB fun b => Q (.ok (.sh (.bl !b)))) Q)
theorem Zc4 {k k' : Bool → Prop} (m : ∀ b, k b → k' b) {x : Slot} (h : asB k x) : asB k' x := by
  unfold asB at h ⊢
  split at h
  · exact m _ h
  · exact h.elim
theorem Zhl (ha : Mono wa) (hb : Mono wb) : Mono (wAnd wa wb) := fun env Q Q' m h => Zaq ha (fun x hx => Zc4 (fun b q => match b, q with
  | true, q => hb env _ _ m q
  | false, q => m _ q) hx) m h
theorem Zgz (ha : Mono wa) (hb : Mono wb) : Mono (wOr wa wb) := fun env Q Q' m h => Zaq ha (fun x hx => Zc4 (fun b q => match b, q with
  | true, q => m _ q
  | false, q => hb env _ _ m q) hx) m h
theorem Zc9 (ha : Mono wa) : Mono (wNot wa) := fun env Q Q' m h => Zaq ha (fun x hx => Zc4 (fun b q => m _ q) hx) m h
theorem Zh0 {β : Type} {w : WE} {l : List Cell} {env : En} {σ : L2.St} {k : Bool → Prop} {Q : R β → Prop} {Q' : Bool → Hp → Prop} (m : Mono w) (h : w env (rk (asB k) Q))
    (h1 : ∀ b, k b → ∀ H', C F (l ++ env.zip σ) H' → Q' b H') (h2 : ∀ c fs, Q (.ex c fs) → LTp F W l env σ Q' (.ex c fs)) : w env (LTp F W l env σ Q') :=
  m env _ _ (fun r q => match r, q with
    | .ok x, q => by
      show ∃ b, x = .sh (.bl b) ∧ _
      have q : asB k x := q
      unfold asB at q
      split at q
      · exact ⟨_, rfl, fun H' c => h1 _ q H' c⟩
      · exact q.elim
    | .ex c fs, q => h2 c fs q) h
theorem Zgf (h : DE X F W e w) (he : ∀ whole, isTrue e X.env whole = (do let v ← whole; standAt e.pos; holding [v] (truthy v)) := by intro _; rfl) : DT X F W e w := by
  refine ⟨Zj3 (pt_val h.run he) fun σ H Q ⟨l, env, k, q⟩ => ⟨l, env, k, h.mono env _ _ (fun r z => ?_) q⟩, h.mono⟩
  cases r with
  | ok x =>
    obtain ⟨b, rfl, z⟩ := z
    exact fun v H' c => by
      have e := c.shBl
      cases e
      exact ⟨b, rfl, z H' c.tail⟩
  | ex c fs => exact z
theorem Ziy (h : DT X F W a wa) : DT X F W (.UnaryOp .Not a pos) (wNot wa) := ⟨Zj3 (pt_not h.run) fun σ H Q ⟨l, env, k, q⟩ => ⟨l, env, k, Zh0 h.mono q (fun b hb H' c => by
    obtain ⟨b', e, z⟩ := hb
    cases e
    exact z H' c) fun c fs z => z⟩, Zc9 h.mono⟩
theorem Zk3 (h : DT X F W a wa) : DW X F W (.BoolOp .Or [a] pos) wa := ⟨pw_or1 h.run, h.mono⟩
theorem Zmw (h : DT X F W a wa) (h2 : DW X F W (.BoolOp .Or (b :: es) pos) wb) : DW X F W (.BoolOp .Or (a :: b :: es) pos) (wOr wa wb) :=
  ⟨Zm3 (pw_or h.run h2.run) fun σ H Q ⟨l, env, k, q⟩ => ⟨l, env, k, Zh0 h.mono q (fun b hb H' c => by
    cases b with
    | false => exact ⟨l, env, k.at c, hb⟩
    | true =>
      obtain ⟨b', e, z⟩ := hb
      cases e
      exact z H' c) fun c fs z => z⟩, Zgz h.mono h2.mono⟩
theorem Zjc (h : DW X F W e w) : DT X F W e w := ⟨h.run.pt, h.mono⟩
theorem Znr {op : BoolOp} (h : DE X F W a wa) : DE X F W (.BoolOp op [a] pos) wa := ⟨pe_one h.run, h.mono⟩
theorem Zne (h : DE X F W a wa) (h2 : DE X F W (.BoolOp .And (b :: es) pos) wb) : DE X F W (.BoolOp .And (a :: b :: es) pos) (wAnd wa wb) :=
  ⟨Zbd (pe_and h.run h2.run) fun σ H Q ⟨l, env, k, q⟩ => ⟨l, env, k, Zbi h.mono q (fun x hx v H' c => by
    unfold asB at hx
    split at hx
    · rename_i b
      have e := c.shBl
      cases e
      refine ⟨b, rfl, ?_⟩
      cases b with
      | true => exact ⟨l, env, k.at c.tail, hx⟩
      | false => exact hx _ H' c
    · exact hx.elim) fun c fs z => z⟩, Zhl h.mono h2.mono⟩
theorem Zmn (h : DE X F W a wa) : DE X F W (.UnaryOp .Not a pos) (wNot wa) := ⟨Zbd (pe_not h.run) fun σ H Q ⟨l, env, k, q⟩ => ⟨l, env, k, Zbi h.mono q (fun x hx v H' c => by
    unfold asB at hx
    split at hx
    · rename_i b
      have e := c.shBl
      cases e
      exact ⟨b, rfl, hx _ H' (c.tail.bl _)⟩
    · exact hx.elim) fun c fs z => z⟩, Zc9 h.mono⟩
noncomputable def aNil : WA := fun _ Q => Q (.ok [])
noncomputable def Zan (wa : WE) (wr : WA) : WA := fun env Q => wa env (rk (fun x => wr env (rk (fun xs => Q (.ok (x :: xs))) Q)) Q)
theorem Za8 : DA X F W [] aNil := ⟨Zk9 pa_nil fun σ H Q ⟨l, env, k, q⟩ => q [] H rfl k.c, fun _ _ _ m h => m _ h⟩
theorem Zac (h : DE X F W e w) (h2 : DA X F W es wA) (hs : starEach (e :: es) X.env = (false, eval e X.env) :: starEach es X.env := by rfl) : DA X F W (e :: es) (Zan w wA) := by
  refine ⟨Zk9 (pa_cons h.run h2.run hs) fun σ H Q ⟨l, env, k, q⟩ => ⟨l, env, k, Zbi h.mono q (fun x hx v H1 c1 => ?_) fun c fs z => z⟩, fun env Q Q' m q => Zaq h.mono (fun x hx => Zaq h2.mono (fun xs hxs => m _ hxs) m hx) m q⟩
  refine ⟨(x, some v) :: l, env, k.to1 c1, h2.mono env _ _ (fun r z => ?_) hx⟩
  cases r with
  | ok xs =>
    intro vs H' hl c2
    exact z (v :: vs) H' (by simp [hl]) (C.front c2)
  | ex c fs => exact fun A d H' hA hx c3 => z A d H' hA hx c3.tail
noncomputable def Slot.stab : Slot → Option D
  | .sh d => some d
  | .ow d => some d
  | .nd d => some d.fz
  | _ => none
noncomputable def stabs : List Slot → Option (List D)
  | [] => some []
  | x :: xs => match x.stab, stabs xs with
    | some d, some ds => some (d :: ds)
    | _, _ => none
theorem Zeu : ∀ {xs : List Slot} {ds : List D}, stabs xs = some ds → ds.length = xs.length
  | [], ds, h => by cases h; rfl
  | x :: xs, ds, h => by
    unfold stabs at h
    split at h
    · rename_i d ds' e1 e2
      cases h
      simp [Zeu e2]
    · cases h
theorem C.stab {x : Slot} {d : D} {v : Option V} {l : List Cell} {H : Hp} (h : C F ((x, v) :: l) H) (hx : x.stab = some d) : C F ((.sh d, v) :: l) H := by
  cases x with
  | sh d' => cases hx; exact h
  | ow d' => cases hx; exact h.frz
  | un => cases hx
  | bo d' => cases hx
  | bt d' => cases hx
  | lk _ d' => cases hx
  | lo _ _ _ => cases hx
  | lt _ _ _ => cases hx
  | nd _ => cases hx; exact h.fzN (.inl rfl)
  | nb _ => cases hx
  | ln _ _ => cases hx
  | xc _ => cases hx
  | xe _ _ _ => cases hx
  | na _ _ => cases hx
  | rt _ _ => cases hx
theorem C.stabs : ∀ {xs : List Slot} {ds : List D} {vs : List V} {l : List Cell} {H : Hp}, C F (xs.zip (vs.map some) ++ l) H → DL.stabs xs = some ds → vs.length = xs.length → C F ((ds.map Slot.sh).zip (vs.map some) ++ l) H
  | [], ds, vs, l, H, h, e, hl => by cases e; cases vs with
    | nil => exact h
    | cons _ _ => simp at hl
  | x :: xs, ds, [], l, H, h, e, hl => by simp at hl
  | x :: xs, ds, v :: vs, l, H, h, e, hl => by
    unfold DL.stabs at e
    split at e
    · rename_i d ds' e1 e2
      cases e
      have h1 : C F ((Slot.sh d, some v) :: (xs.zip (vs.map some) ++ l)) H := C.stab (h : C F ((x, some v) :: (xs.zip (vs.map some) ++ l)) H) e1
      have h2 := C.stabs (xs := xs) (l := (Slot.sh d, some v) :: l) (h1.back) e2 (by simpa using hl)
      exact C.front h2
    · cases e
theorem C.reps : ∀ {ds : List D} {vs : List V} {l : List Cell} {S H : Hp}, vs.length = ds.length → (∀ q ∈ (ds.map Slot.sh).zip (vs.map some) ++ l, SC F S H q) → Reps F.K S vs ds
  | [], [], _, _, _, _, _ => .nil
  | [], v :: vs, _, _, _, h, _ => by simp at h
  | d :: ds, [], _, _, _, h, _ => by simp at h
  | d :: ds, v :: vs, l, S, H, hl, h => by
    obtain ⟨u, e, r⟩ := h (Slot.sh d, some v) (by simp)
    cases e
    exact .cons r (C.reps (l := l) (by simpa using hl) fun q hq => h q (List.mem_cons_of_mem _ hq))
noncomputable def wTup (wA : WA) : WE := fun env Q => wA env (rk (fun xs => match stabs xs with
  | some ds => ds.length ≤ 16777216 ∧ Q (.ok (.sh (.tup ds)))
  | none => False) Q)
noncomputable def wLst (wA : WA) : WE := fun env Q => wA env (rk (fun xs => match stabs xs with
  | some ds => ds.length ≤ 16777216 ∧ Q (.ok (.ow (.lst ds)))
  | none => False) Q)
theorem Zdx {β : Type} {l : List Cell} {env : En} {σ : L2.St} {k : List Slot → Prop} {Q : R β → Prop} {Q' : List V → Hp → Prop} (m : Mono wA) (h : wA env (rk k Q))
    (h1 : ∀ xs, k xs → ∀ vs H', vs.length = xs.length → C F (xs.zip (vs.map some) ++ (l ++ env.zip σ)) H' → Q' vs H') (h2 : ∀ c fs, Q (.ex c fs) → LAp F W l env σ Q' (.ex c fs)) : wA env (LAp F W l env σ Q') :=
  m env _ _ (fun r q => match r, q with
    | .ok x, q => h1 x q
    | .ex c fs, q => h2 c fs q) h
theorem Znf {k : Nat} (h : DA X F W es wA) : DE X F W (.Tuple es k pos) (wTup wA) := by
  refine ⟨Zbd (pe_tup h.run) fun σ H Q ⟨l, env, k, q⟩ => ⟨l, env, k, Zdx h.mono q (fun xs hx vs H1 hl c1 => ?_) fun c fs z => z⟩, fun env Q Q' m q => Zaq h.mono (fun xs hx => ?_) m q⟩
  · split at hx
    · rename_i ds e
      have hd := Zeu e
      refine ⟨by rw [sizeLine_eq]; omega, fun p hp => hx.2 _ _ ?_⟩
      have c2 := c1.stabs e hl
      exact (c2.newSh (d := .tup ds) hp fun S g a => .tup upd_same ((C.reps (by omega) a).mono (Zao (g.sh.free hp)))).perm ((List.Perm.refl _)) |>.sub (List.Sublist.cons_cons _ (List.sublist_append_right _ _))
    · exact hx.elim
  · split at hx
    · exact ⟨hx.1, m _ hx.2⟩
    · exact hx.elim
theorem Zde (h : DA X F W es wA) : DE X F W (.List es pos) (wLst wA) := by
  refine ⟨Zbd (pe_lst h.run) fun σ H Q ⟨l, env, k, q⟩ => ⟨l, env, k, Zdx h.mono q (fun xs hx vs H1 hl c1 => ?_) fun c fs z => z⟩, fun env Q Q' m q => Zaq h.mono (fun xs hx => ?_) m q⟩
  · split at hx
    · rename_i ds e
      have hd := Zeu e
      refine ⟨by rw [sizeLine_eq]; omega, fun p hp => hx.2 _ _ ?_⟩
      have c2 := c1.stabs e hl
      exact (c2.newOw (d := .lst ds) hp fun S g a => ⟨vs, rfl, C.reps (by omega) a⟩).sub (List.Sublist.cons_cons _ (List.sublist_append_right _ _))
    · exact hx.elim
  · split at hx
    · exact ⟨hx.1, m _ hx.2⟩
    · exact hx.elim
end
end DL
set_option Elab.async false
set_option linter.all false
set_option maxRecDepth 100000
set_option maxHeartbeats 4000000
namespace DL
open PySem PySem.Spec PyProof.Rows L2
mutual
noncomputable def D.py : D → PyData
  | .non => .none
  | .bl b => .bool b
  | .int i => .int i
  | .str s => .str s
  | .tup ds => .tuple (D.pys ds)
  | .lst ds => .list (D.pys ds)
  | .dk _ => .dict []
  | .dt _ => .dict []
  | .obj _ _ _ => .dict []
  | .own d => d.py
  | .rf _ => .dict []
  | .fn _ => .dict []
  | .exc _ _ => .dict []
  | .lso _ => .dict []
noncomputable def D.pys : List D → List PyData
  | [] => []
  | d :: ds => d.py :: D.pys ds
end
noncomputable def eqD (d e : D) : Bool := PyData.eqv d.py e.py
noncomputable def Shp (d : D) : Prop := SeqAt.shaped d.py = true
mutual
theorem Rep.dp {K : PySem.W.Frag} {S : Hp} : ∀ {v : V} {d : D}, Rep K S v d → PyData.canLay0 d.py = true → Dp K S v d.py
  | _, _, .non, _ => .non
  | _, _, .bl, _ => .bl _
  | _, _, .int, _ => .int _
  | _, _, .str, _ => .str _
  | _, _, .tup h r, c => .tup (SqT.of h) (Reps.dp r (by simpa [D.py, PyData.canLay0] using c))
  | _, _, .lst h r, c => .lst h (Reps.dp r (by simpa [D.py, PyData.canLay0] using c))
  | _, _, .dk _ _ _, c => by simp [D.py, PyData.canLay0] at c
  | _, _, .dt _ _ _, c => by simp [D.py, PyData.canLay0] at c
  | _, _, .obj _ _ _ _, c => by simp [D.py, PyData.canLay0] at c
  | _, _, .rf, c => by simp [D.py, PyData.canLay0] at c
  | _, _, .fn _, c => by simp [D.py, PyData.canLay0] at c
  | _, _, .exc _ _, c => by simp [D.py, PyData.canLay0] at c
theorem Reps.dp {K : PySem.W.Frag} {S : Hp} : ∀ {vs : List V} {ds : List D}, Reps K S vs ds → PyData.canLayAll0 (D.pys ds) = true → DpAll K S vs (D.pys ds)
  | _, _, .nil, _ => .nil
  | _, d :: ds, .cons h r, c => by
    have c' : PyData.canLay0 d.py = true ∧ PyData.canLayAll0 (D.pys ds) = true := by simpa [D.pys, PyData.canLayAll0, Bool.and_eq_true] using c
    exact .cons (Rep.dp h c'.1) (Reps.dp r c'.2)
end
mutual
theorem Zjl {K : PySem.W.Frag} {S S' : Hp} (e : Same S S') : ∀ {v : V} {d : PyData}, Dp K S v d → Dp K S' v d
  | _, _, .non => .non
  | _, _, .bl _ => .bl _
  | _, _, .int _ => .int _
  | _, _, .str _ => .str _
  | _, _, .tup h r => .tup (Zkj e h) (dps_mono e r)
  | _, _, .lst h r => .lst (Zdk e h) (dps_mono e r)
theorem dps_mono {K : PySem.W.Frag} {S S' : Hp} (e : Same S S') : ∀ {vs : List V} {ds : List PyData}, DpAll K S vs ds → DpAll K S' vs ds
  | _, _, .nil => .nil
  | _, _, .cons h r => .cons (Zjl e h) (dps_mono e r)
end
section
variable {F : Fr}
theorem C.dp {l : List Cell} {H : Hp} {x : Slot} {v : V} {d : D} (h : C F ((x, some v) :: l) H) (hx : x.dat = some d) (c : PyData.canLay0 d.py = true) : Dp F.K H v d.py := by
  obtain ⟨S, g, cc, _⟩ := h
  have s := cc _ List.mem_cons_self
  have one : ∀ {d : D} {a : Addr}, PyData.canLay0 d.py = true → RC F.K S (H a) d → Dp F.K H (.ref a) d.py := fun {d a} c r => by
    cases d with
    | lst ds => obtain ⟨vs, e2, r⟩ := r; exact .lst (SqL.of e2) (dps_mono g.sh (r.dp (by simpa [D.py, PyData.canLay0] using c)))
    | dk kds => simp [D.py, PyData.canLay0] at c
    | dt kds => simp [D.py, PyData.canLay0] at c
    | _ => exact r.elim
  cases x with
  | un => cases hx
  | sh d' => cases hx; obtain ⟨u, e, r⟩ := s; cases e; exact Zjl g.sh (r.dp c)
  | ow d' => cases hx; obtain ⟨a, e, _, _, r⟩ := s; cases e; exact one c r
  | bo d' => cases hx; obtain ⟨a, e, _, r⟩ := s; cases e; exact one c r
  | bt d' => cases hx; obtain ⟨a, e, r⟩ := s; cases e; exact one c r
  | lk a d' => cases hx; obtain ⟨e, _, _, r⟩ := s; cases e; exact one c r
  | lo a d' => cases hx; simp [D.py, PyData.canLay0] at c
  | lt _ _ _ => cases hx
  | nd d' => cases hx
  | nb d' => cases hx
  | ln _ _ => cases hx
  | xc _ => cases hx
  | xe _ _ _ => cases hx
  | na _ _ => cases hx
  | rt _ _ => cases hx
end
theorem Zda {d : D} (h : Shp d) : PyData.canLay0 d.py = true := SeqAt.canLay_of_shaped h
noncomputable def D.scal : D → D → Bool
  | .non, .non => true
  | .non, .int _ => true
  | .int _, .non => true
  | .non, .bl _ => true
  | .bl _, .non => true
  | .non, .str _ => true
  | .str _, .non => true
  | .int _, .int _ => true
  | .bl _, .bl _ => true
  | .str _, .str _ => true
  | _, _ => false
noncomputable def EqOk (d e : D) : Prop := D.scal d e = true ∨ (Shp d ∧ Shp e)
noncomputable def oEq (neg : Bool) : O2 := fun x y k => match x.dat, y.dat with
  | some d, some e => EqOk d e ∧ k (.sh (.bl (neg ^^ eqD d e)))
  | _, _ => False
theorem Zbq {neg : Bool} : Zf2 (oEq neg) := fun x y k k' m h => by
  unfold oEq at h ⊢
  split at h
  · exact ⟨h.1, m _ h.2⟩
  · exact h.elim
section
variable {X : Cx} {F : Fr} {W : WX} {a b c e o : Expr} {es : List Expr} {wa wb wc w : WE} {wA : WA} {pos : Pos}
theorem Zh9 {K : PySem.W.Frag} {S S' : Hp} {v u : V} {d e : D} (r : Rep K S v d) (q : Rep K S' u e) (h : D.scal d e = true) : L2.scal v u = true ∧ decide (v = u) = eqD d e := by
  cases r <;> cases q <;> first
    | (exfalso; simp [D.scal] at h; done)
    | exact ⟨rfl, by first | rfl | (simp [eqD, D.py, PyData.eqv]; done) | (simp only [eqD, D.py, PyData.eqv]; first | exact dec_int | exact dec_bl | exact dec_str)⟩
theorem Zgt {d e : D} (h : D.scal d e = true) : (∀ K S o, ¬ RC K S o d) ∧ ∀ K S o, ¬ RC K S o e := by
  cases d <;> cases e <;> first
    | (exfalso; simp [D.scal] at h; done)
    | exact ⟨fun _ _ _ z => z, fun _ _ _ z => z⟩
noncomputable def rEqA (K : PySem.W.Frag) : R2 := fun x y H Q => rEq x y H Q ∨ rEqD K x y H Q
noncomputable def rNeA (K : PySem.W.Frag) : R2 := fun x y H Q => rNe x y H Q ∨ rNeD K x y H Q
theorem C.repOf {l : List Cell} {H : Hp} {x : Slot} {v : V} {d : D} (h : C F ((x, some v) :: l) H) (hx : x.dat = some d) (n : ∀ K S o, ¬ RC K S o d) : ∃ S, Rep F.K S v d := by
  obtain ⟨S, g, cc, _⟩ := h
  have s := cc _ List.mem_cons_self
  cases x with
  | un => cases hx
  | sh d' => cases hx; obtain ⟨u, e, r⟩ := s; cases e; exact ⟨S, r⟩
  | ow d' => cases hx; obtain ⟨a, e, _, _, r⟩ := s; exact (n _ _ _ r).elim
  | bo d' => cases hx; obtain ⟨a, e, _, r⟩ := s; exact (n _ _ _ r).elim
  | bt d' => cases hx; obtain ⟨a, e, r⟩ := s; exact (n _ _ _ r).elim
  | lk a d' => cases hx; obtain ⟨e, _, _, r⟩ := s; exact (n _ _ _ r).elim
  | lo a d' => cases hx; obtain ⟨e, _, _, eu, od, kvs, e3, k, r⟩ := s; have e2 := eu.trans e3; exact (n F.K S (some (.dK kvs)) ⟨kvs, rfl, k, r⟩).elim
  | lt _ _ _ => cases hx
  | nd d' => cases hx
  | nb d' => cases hx
  | ln _ _ => cases hx
  | xc _ => cases hx
  | xe _ _ _ => cases hx
  | na _ _ => cases hx
  | rt _ _ => cases hx
theorem Zk4 : Zem F (rEqA F.K) (oEq false) := fun l H x y vx vy ks Q hc ho hq => by
  unfold oEq at ho
  split at ho
  · rename_i d e ed ee
    obtain ⟨ok, ho⟩ := ho
    rw [Bool.false_xor] at ho
    have fin : Q (.bl (eqD d e)) H := hq _ _ H ho (hc.tail.tail.bl _)
    rcases ok with ok | ⟨s1, s2⟩
    · obtain ⟨n1, n2⟩ := Zgt ok
      obtain ⟨S1, r1⟩ := hc.tail.repOf ed n1
      obtain ⟨S2, r2⟩ := hc.repOf ee n2
      obtain ⟨z1, z2⟩ := Zh9 r1 r2 ok
      exact .inl ⟨z1, by rw [z2]; exact fin⟩
    · exact .inr ⟨_, _, hc.tail.dp ed (Zda s1), hc.dp ee (Zda s2), s1, s2, fin⟩
  · exact ho.elim
theorem Zmp : Zem F (rNeA F.K) (oEq true) := fun l H x y vx vy ks Q hc ho hq => by
  unfold oEq at ho
  split at ho
  · rename_i d e ed ee
    obtain ⟨ok, ho⟩ := ho
    rw [Bool.true_xor] at ho
    have fin : Q (.bl (!eqD d e)) H := hq _ _ H ho (hc.tail.tail.bl _)
    rcases ok with ok | ⟨s1, s2⟩
    · obtain ⟨n1, n2⟩ := Zgt ok
      obtain ⟨S1, r1⟩ := hc.tail.repOf ed n1
      obtain ⟨S2, r2⟩ := hc.repOf ee n2
      obtain ⟨z1, z2⟩ := Zh9 r1 r2 ok
      exact .inl ⟨z1, by rw [z2]; exact fin⟩
    · exact .inr ⟨_, _, hc.tail.dp ed (Zda s1), hc.dp ee (Zda s2), s1, s2, fin⟩
  · exact ho.elim
theorem Zon (hu : X.A.units + 65 < cLine) (ha : DE X F W a wa) (hb : DE X F W b wb) (hK : X.K = F.K := by rfl) : DE X F W (.Compare a [.Eq] [b] pos) (wOp (oEq false) wa wb) :=
  Zmt (r := rEqA F.K) (by rw [← hK]; exact op_eq.or (op_eqD (by omega))) Zk4 Zbq ha hb (nomark _)
noncomputable def D.key : D → Option L2.Key
  | .int i => some (.inl i)
  | .str s => some (.inr s)
  | _ => none
noncomputable def D.keys : List D → Option (List L2.Key)
  | [] => some []
  | d :: ds => match d.key, D.keys ds with
    | some k, some ks => some (k :: ks)
    | _, _ => none
noncomputable def D.keyT : D → Option (List L2.Key)
  | .tup ds => D.keys ds
  | _ => none
section
variable {κ α : Type} [DecidableEq κ]
noncomputable def lk (kds : List (κ × α)) (k : κ) : Option α := (kds.find? fun kv => decide (kv.1 = k)).map (·.2)
noncomputable def put (kds : List (κ × α)) (k : κ) (d : α) : List (κ × α) := if (kds.any fun kv => decide (kv.1 = k)) = true then kds.map (fun kv => if kv.1 = k then (kv.1, d) else kv) else kds ++ [(k, d)]
end
theorem lk_valV {κ : Type} [DecidableEq κ] {K : PySem.W.Frag} {S : Hp} (k : κ) : ∀ {kvs : List (κ × V)} {kds : List (κ × D)}, kvs.map Prod.fst = kds.map Prod.fst → Reps K S (kvs.map Prod.snd) (kds.map Prod.snd) →
    (lk kds k = none ∧ valV kvs k = none) ∨ ∃ d v, lk kds k = some d ∧ valV kvs k = some v ∧ Rep K S v d
  | [], [], _, _ => .inl ⟨rfl, rfl⟩
  | [], _ :: _, h, _ => by simp at h
  | _ :: _, [], h, _ => by simp at h
  | (k1, v) :: kvs, (k2, d) :: kds, h, r => by
    have h1 : k1 = k2 := by simpa using congrArg List.head? h
    have h2 : kvs.map Prod.fst = kds.map Prod.fst := by simpa using congrArg List.tail h
    subst h1
    have r' : Reps K S (v :: kvs.map Prod.snd) (d :: kds.map Prod.snd) := r
    cases r' with
    | cons r1 r2 =>
      by_cases e : k1 = k
      · refine .inr ⟨d, v, ?_, ?_, r1⟩
        · simp [lk, List.find?_cons, e]
        · simp [valV, List.find?_cons, e]
      · rcases lk_valV k h2 r2 with ⟨a, b⟩ | ⟨d', v', a, b, c⟩
        · refine .inl ⟨?_, ?_⟩
          · simpa [lk, List.find?_cons, e] using a
          · simpa [valV, List.find?_cons, e] using b
        · refine .inr ⟨d', v', ?_, ?_, c⟩
          · simpa [lk, List.find?_cons, e] using a
          · simpa [valV, List.find?_cons, e] using b
theorem Zjd {K : PySem.W.Frag} {S : Hp} {v : V} {d : D} {k : L2.Key} (r : Rep K S v d) (h : d.key = some k) : v = kV k := by
  cases r <;> first | (cases h; rfl) | cases h
theorem Zgv {K : PySem.W.Frag} {S : Hp} : ∀ {vs : List V} {ds : List D} {ks : List L2.Key}, Reps K S vs ds → D.keys ds = some ks → vs = ks.map kV
  | _, _, _, .nil, h => by cases h; rfl
  | _, _, ks, .cons r rr, h => by
    unfold D.keys at h
    split at h
    · rename_i k ks' e1 e2
      cases h
      rw [List.map_cons, ← Zjd r e1, ← Zgv rr e2]
    · cases h
theorem C.dictK {l : List Cell} {H : Hp} {x : Slot} {v : Option V} {kds : List (L2.Key × D)} (h : C F ((x, v) :: l) H) (hx : x.dat = some (.dk kds)) :
    ∃ a kvs, v = some (.ref a) ∧ Rd H a (.dK kvs) ∧ kvs.map Prod.fst = kds.map Prod.fst ∧ ∃ S, GS F S H ∧ Reps F.K S (kvs.map Prod.snd) (kds.map Prod.snd) ∧ (∀ p ∈ (x, v) :: l, SC F S H p) ∧ ((x, v) :: l).Pairwise (Za4 H) := by
  obtain ⟨S, g, cc, pw⟩ := h
  have s := cc _ List.mem_cons_self
  cases x with
  | un => cases hx
  | sh d' => cases hx; obtain ⟨u, e, r⟩ := s; cases r with
    | dk hr k r => exact ⟨_, _, e, Zhg g.sh hr, k, S, g, r, cc, pw⟩
  | ow d' => cases hx; obtain ⟨a, e, _, _, kvs, e2, k, r⟩ := s; exact ⟨a, kvs, e, .inl e2, k, S, g, r, cc, pw⟩
  | bo d' => cases hx; obtain ⟨a, e, _, kvs, e2, k, r⟩ := s; exact ⟨a, kvs, e, .inl e2, k, S, g, r, cc, pw⟩
  | bt d' => cases hx; obtain ⟨a, e, kvs, e2, k, r⟩ := s; exact ⟨a, kvs, e, .inl e2, k, S, g, r, cc, pw⟩
  | lk a d' => cases hx; obtain ⟨e, _, _, kvs, e2, k, r⟩ := s; exact ⟨a, kvs, e, .inl e2, k, S, g, r, cc, pw⟩
  | lo a d' => cases hx; obtain ⟨e, _, _, eu, od, kvs, e3, k, r⟩ := s; have e2 := eu.trans e3; exact ⟨a, kvs, e, .inr ⟨od, e2⟩, k, S, g, r, cc, pw⟩
  | lt _ _ _ => cases hx
  | nd d' => cases hx
  | nb d' => cases hx
  | ln _ _ => cases hx
  | xc _ => cases hx
  | xe _ _ _ => cases hx
  | na _ _ => cases hx
  | rt _ _ => cases hx
theorem C.dictT {l : List Cell} {H : Hp} {x : Slot} {v : Option V} {kds : List (List L2.Key × D)} (h : C F ((x, v) :: l) H) (hx : x.dat = some (.dt kds)) :
    ∃ a kvs, v = some (.ref a) ∧ H a = some (.dT kvs) ∧ kvs.map Prod.fst = kds.map Prod.fst ∧ ∃ S, GS F S H ∧ Reps F.K S (kvs.map Prod.snd) (kds.map Prod.snd) ∧ (∀ p ∈ (x, v) :: l, SC F S H p) ∧ ((x, v) :: l).Pairwise (Za4 H) := by
  obtain ⟨S, g, cc, pw⟩ := h
  have s := cc _ List.mem_cons_self
  cases x with
  | un => cases hx
  | sh d' => cases hx; obtain ⟨u, e, r⟩ := s; cases r with
    | dt hr k r => exact ⟨_, _, e, g.sh _ _ hr, k, S, g, r, cc, pw⟩
  | ow d' => cases hx; obtain ⟨a, e, _, _, kvs, e2, k, r⟩ := s; exact ⟨a, kvs, e, e2, k, S, g, r, cc, pw⟩
  | bo d' => cases hx; obtain ⟨a, e, _, kvs, e2, k, r⟩ := s; exact ⟨a, kvs, e, e2, k, S, g, r, cc, pw⟩
  | bt d' => cases hx; obtain ⟨a, e, kvs, e2, k, r⟩ := s; exact ⟨a, kvs, e, e2, k, S, g, r, cc, pw⟩
  | lk a d' => cases hx; obtain ⟨e, _, _, kvs, e2, k, r⟩ := s; exact ⟨a, kvs, e, e2, k, S, g, r, cc, pw⟩
  | lo a d' => cases hx
  | lt _ _ _ => cases hx
  | nd d' => cases hx
  | nb d' => cases hx
  | ln _ _ => cases hx
  | xc _ => cases hx
  | xe _ _ _ => cases hx
  | na _ _ => cases hx
  | rt _ _ => cases hx
theorem C.sh0 {l : List Cell} {H : Hp} {v : V} {d : D} (h : C F ((.sh d, some v) :: l) H) : ∃ S, GS F S H ∧ Rep F.K S v d := by
  obtain ⟨S, g, cc, _⟩ := h
  obtain ⟨u, e, r⟩ := cc _ List.mem_cons_self
  cases e
  exact ⟨S, g, r⟩
theorem C.key {l : List Cell} {H : Hp} {v : V} {d : D} {k : L2.Key} (h : C F ((.sh d, some v) :: l) H) (hk : d.key = some k) : v = kV k := by
  obtain ⟨S, _, r⟩ := h.sh0
  exact Zjd r hk
theorem Zko {K : PySem.W.Frag} {S : Hp} {v : V} {ds : List D} {ks : List L2.Key} (r : Rep K S v (.tup ds)) (hk : D.keys ds = some ks) : ∃ a, v = .ref a ∧ S a = some (.tup (ks.map kV)) := by
  cases r with
  | tup hq r =>
    rw [Zgv r hk] at hq
    exact ⟨_, rfl, hq⟩
theorem C.beside {l : List Cell} {H : Hp} {v : V} {d : D} {S : Hp} (g : GS F S H) (cc : ∀ p ∈ l, SC F S H p) (pw : l.Pairwise (Za4 H)) (r : Rep F.K S v d) : C F ((.sh d, some v) :: l) H :=
  ⟨S, g, fun p hp => by
    rcases List.mem_cons.mp hp with rfl | hp
    · exact ⟨v, rfl, r⟩
    · exact cc p hp, Zar (fun z => z) pw⟩
end
end DL
set_option Elab.async false
set_option linter.all false
set_option maxRecDepth 100000
set_option maxHeartbeats 4000000
namespace DL
open PySem PySem.Spec PyProof.Rows L2
section
variable {X : Cx} {F : Fr} {W : WX} {a b c e o : Expr} {es : List Expr} {wa wb wc w : WE} {wA : WA} {pos : Pos}
noncomputable def rIxD : R2 := fun x y H Q => ∃ a v, x = .ref a ∧ DGet H a y (some v) ∧ Q v H
theorem Zlx (hu : X.A.units + 1 < cLine) : IxR X rIxD := by
  intro value slice pins s σ H x y v u Q I rx ry h hs
  obtain ⟨a, z, rfl, g, q⟩ := h
  cases rx
  have hT := dict_typeIs I g
  unfold subscriptTail
  refine wpAny_bind ?_
  rw [getitemInPython_of_ne hT.not_modules]
  refine wpAny_bind (wpAny_specialOf hT PySem.F.slot_dict_getitem.lookup ?_)
  have h₂ : wpAny (model X.prog X.w) X.A (getItem (.ref a) u) (EP X pins σ Q) X.xe s := d_getItem hu I g ry fun w' s3 I3 rw' => ⟨z, H, I3, rw', q⟩
  have fin : wpAny (model X.prog X.w) X.A (subscripted slice false (.ref a) u) (fun r s₃ => wpAny (model X.prog X.w) X.A (letTemporaryGo value (.ref a) r >>= fun _ => pure r) (EP X pins σ Q) X.xe s₃) X.xe s := by
    rw [hs]
    exact wpAny_operating (wpAny_mono h₂ (fun r s₃ h₃ => wpAny_bind (wpAny_letTemporaryGo (wpAny_pure h₃))) fun _ _ x => x)
  first
    | exact wpAny_pure (wpAny_bind fin)
    | exact wpAny_bind (wpAny_pure (wpAny_bind fin))
    | exact wpAny_bind fin
noncomputable def rIxA (K : PySem.W.Frag) : R2 := fun x y H Q => rIx K x y H Q ∨ rIxD x y H Q
noncomputable def Zhj (d e : D) (k : D → Prop) : Prop := match d with
  | .lst ds => ∃ i z, e = .int i ∧ atI ds i = some z ∧ k z
  | .tup ds => ∃ i z, e = .int i ∧ atI ds i = some z ∧ k z
  | .str s => s.length ≤ 16777216 ∧ ∃ i c, e = .int i ∧ atI s.cps.toList i = some c ∧ k (.str ⟨#[c]⟩)
  | .dk kds => ∃ j z, e.key = some j ∧ lk kds j = some z ∧ k z
  | .dt kds => ∃ j z, e.keyT = some j ∧ lk kds j = some z ∧ k z
  | _ => False
noncomputable def oIx : O2 := fun x y k => match x.dat, y with
  | some d, .sh e => Zhj d e fun z => k (.sh z)
  | _, _ => False
theorem Zhe {d e : D} {k k' : D → Prop} (m : ∀ z, k z → k' z) (h : Zhj d e k) : Zhj d e k' := by
  cases d with
  | lst ds => obtain ⟨i, z, h1, h2, h3⟩ := h; exact ⟨i, z, h1, h2, m _ h3⟩
  | tup ds => obtain ⟨i, z, h1, h2, h3⟩ := h; exact ⟨i, z, h1, h2, m _ h3⟩
  | str s => obtain ⟨h0, i, z, h1, h2, h3⟩ := h; exact ⟨h0, i, z, h1, h2, m _ h3⟩
  | dk s => obtain ⟨i, z, h1, h2, h3⟩ := h; exact ⟨i, z, h1, h2, m _ h3⟩
  | dt s => obtain ⟨i, z, h1, h2, h3⟩ := h; exact ⟨i, z, h1, h2, m _ h3⟩
  | _ => exact h.elim
theorem Zhr : Zf2 oIx := fun x y k k' m h => by
  unfold oIx at h ⊢
  split at h
  · exact Zhe (fun z hz => m _ hz) h
  · exact h.elim
theorem Zho {K : PySem.W.Frag} {S : Hp} {vs : List V} {ds : List D} {i : Int} {d : D} (r : Reps K S vs ds) (h : atI ds i = some d) : ∃ (j : Nat) (u : V), ds[j]? = some d ∧ vs[j]? = some u ∧ atI vs i = some u := by
  unfold atI at h ⊢
  rw [r.len]
  cases q : ixN ds.length i with
  | none => rw [q] at h; cases h
  | some j =>
    rw [q] at h
    have h : ds[j]? = some d := h
    obtain ⟨u, hu, _⟩ := r.get h
    exact ⟨j, u, h, hu, hu⟩
theorem Zj9 {l : List Cell} {H : Hp} {x : Slot} {d e : D} {vx vy : V} {k : D → Prop} {Q : VK} (hc : C F ((.sh e, some vy) :: (x, some vx) :: l) H) (hx : x.dat = some d) (h : Zhj d e k)
    (hq : ∀ z v, k z → C F ((.sh z, some v) :: l) H → Q v H) : rIxA F.K vx vy H Q := by
  cases d with
  | lst ds =>
    obtain ⟨i, z, rfl, h2, h3⟩ := h
    have ei := hc.shInt
    cases ei
    obtain ⟨a, vs, ea, hl, hlen, S, g, r, cc, pw⟩ := hc.tail.seqL hx
    cases ea
    obtain ⟨j, u, h4, h5, h6⟩ := Zho r h2
    obtain ⟨d', e4, ru⟩ := r.getV h5
    rw [h4] at e4; cases e4
    exact .inl (.inl ⟨a, vs, i, u, rfl, rfl, hl, h6, hq z u h3 (C.beside g (fun p hp => cc p (List.mem_cons_of_mem _ hp)) pw ru)⟩)
  | tup ds =>
    obtain ⟨i, z, rfl, h2, h3⟩ := h
    have ei := hc.shInt
    cases ei
    obtain ⟨a, vs, ea, hl, hlen, S, g, r, cc, pw⟩ := hc.tail.seqT hx
    cases ea
    obtain ⟨j, u, h4, h5, h6⟩ := Zho r h2
    obtain ⟨d', e4, ru⟩ := r.getV h5
    rw [h4] at e4; cases e4
    exact .inl (.inr (.inl ⟨a, vs, i, u, rfl, rfl, hl, h6, hq z u h3 (C.beside g (fun p hp => cc p (List.mem_cons_of_mem _ hp)) pw ru)⟩))
  | str s =>
    obtain ⟨h0, i, c, rfl, h2, h3⟩ := h
    have ei := hc.shInt
    cases ei
    obtain ⟨S, r⟩ := hc.tail.repOf hx fun _ _ _ z => z
    cases r
    exact .inl (.inr (.inr ⟨s, i, c, rfl, rfl, by rw [sizeLine_eq]; exact h0, h2, hq _ _ h3 (hc.tail.tail.str _)⟩))
  | dk kds =>
    obtain ⟨j, z, h1, h2, h3⟩ := h
    have ek := hc.key h1
    obtain ⟨a, kvs, ea, hr, hk, S, g, r, cc, pw⟩ := hc.tail.dictK hx
    cases ea
    rcases lk_valV j hk r with ⟨n, _⟩ | ⟨d', v', n, m, rr⟩
    · rw [n] at h2; cases h2
    · rw [n] at h2; cases h2
      exact .inr ⟨a, v', rfl, .inl ⟨kvs, j, hr, ek, m.symm⟩, hq _ _ h3 ((C.beside g cc pw rr).swap.tail)⟩
  | dt kds =>
    obtain ⟨j, z, h1, h2, h3⟩ := h
    cases e with
    | tup es =>
      obtain ⟨S0, g0, r0⟩ := hc.sh0
      obtain ⟨ta, et, ht⟩ := Zko r0 h1
      obtain ⟨a, kvs, ea, hr, hk, S, g, r, cc, pw⟩ := hc.tail.dictT hx
      cases ea
      rcases lk_valV j hk r with ⟨n, _⟩ | ⟨d', v', n, m, rr⟩
      · rw [n] at h2; cases h2
      · rw [n] at h2; cases h2
        exact .inr ⟨a, v', rfl, .inr ⟨kvs, j, ta, .inl hr, et, g0.sh _ _ ht, m.symm⟩, hq _ _ h3 ((C.beside g cc pw rr).swap.tail)⟩
    | _ => cases h1
  | _ => exact h.elim
theorem Zmj : Zem F (rIxA F.K) oIx := fun l H x y vx vy ks Q hc ho hq => by
  unfold oIx at ho
  split at ho
  · rename_i d e hd
    exact Zj9 hc hd ho fun z v hz cz => hq _ _ H hz cz
  · exact ho.elim
theorem Zno (hu : X.A.units + 65 < cLine) (ha : DE X F W a wa) (hb : DE X F W b wb) (hs : PlainIx b := by intro _ _; rfl) (hK : X.K = F.K := by rfl) : DE X F W (.Subscript a b pos) (wOp oIx wa wb) :=
  ⟨Zbd (pe_ix (r := rIxA F.K) (by rw [← hK]; exact ix_seq.or (Zlx (by omega))) ha.run hb.run hs) fun _ _ _ h => Zky Zmj ha hb h, Zaf ha.mono hb.mono Zhr⟩
noncomputable def oIxN (n : Nat) : O1 := fun x k => match x.dat with
  | some (.lst ds) => (match ds[n]? with | some d => k (.sh d) | none => False)
  | some (.tup ds) => (match ds[n]? with | some d => k (.sh d) | none => False)
  | some (.str s) => s.length ≤ 16777216 ∧ (match s.cps.toList[n]? with | some c => k (.sh (.str ⟨#[c]⟩)) | none => False)
  | _ => False
theorem Zb1 {n : Nat} : Zdn (oIxN n) := fun x k k' m h => by
  unfold oIxN at h ⊢
  split at h
  · split at h
    · exact m _ h
    · exact h.elim
  · split at h
    · exact m _ h
    · exact h.elim
  · refine ⟨h.1, ?_⟩
    have h := h.2
    split at h
    · exact m _ h
    · exact h.elim
  · exact h.elim
theorem Zlt {n : Nat} {x : Slot} {k : Slot → Prop} (h : oIxN n x k) : oIx x (.sh (.int (n : Int))) k := by
  unfold oIxN at h
  unfold oIx
  split at h
  · rename_i ds e
    rw [e]
    split at h
    · rename_i d e2
      exact ⟨_, d, rfl, atI_nat e2, h⟩
    · exact h.elim
  · rename_i ds e
    rw [e]
    split at h
    · rename_i d e2
      exact ⟨_, d, rfl, atI_nat e2, h⟩
    · exact h.elim
  · rename_i s e
    rw [e]
    obtain ⟨h0, h⟩ := h
    split at h
    · rename_i d e2
      exact ⟨h0, _, d, rfl, atI_nat e2, h⟩
    · exact h.elim
  · exact h.elim
theorem Zfm (n : Nat) {i : Int} {j : Nat} {p : Pos} (hu : X.A.units + 65 < cLine) (ha : DE X F W a wa) (hi : i = (n : Int) := by rfl) (hK : X.K = F.K := by rfl) : DE X F W (.Subscript a (.Constant (.int i) j p) pos) (wUn (oIxN n) wa) := by
  subst hi
  have h := Zno (pos := pos) hu ha (Za0 (X := X) (F := F) (W := W) (i := (n : Int)) (j := j) (pos := p)) (fun _ _ => rfl) hK
  refine ⟨Zbd h.run fun σ H Q ⟨l, env, k, q⟩ => ⟨l, env, k, ?_⟩, Zak ha.mono Zb1⟩
  exact Zaq ha.mono (fun x hx => (show oIx x (.sh (.int (n : Int))) (fun z => LEp F W l env σ Q (R.ok z)) from Zlt hx)) (fun _ z => z) q
noncomputable def D.flat : D → Bool
  | .non => true
  | .bl _ => true
  | .int _ => true
  | .str _ => true
  | _ => false
end
end DL
set_option Elab.async false
set_option linter.all false
set_option maxRecDepth 100000
set_option maxHeartbeats 4000000
namespace DL
open PySem PySem.Spec PyProof.Rows L2
noncomputable def frzS : Slot → Slot
  | .ow d => .sh d
  | x => x
noncomputable abbrev G := List Slot → (R Slot → Prop) → Prop
noncomputable def Zfh (γ : G) : Prop := ∀ xs Q Q', (∀ r, Q r → Q' r) → γ xs Q → γ xs Q'
noncomputable def Slot.arg : Slot → Slot
  | .sh d => .sh d
  | .ow d => .sh d
  | .bo d => .bo d
  | .bt d => .bo d
  | .lk _ d => .bo d
  | .lo _ _ _ => .un
  | .lt _ _ _ => .un
  | .nd _ => .un
  | .nb d => .nb d
  | .ln _ d => .nb d
  | .xc a => .xc a
  | .xe a _ _ => .xc a
  | .na _ _ => .un
  | .rt _ _ => .un
  | .un => .un
noncomputable def outK (Q : R Slot → Prop) : R Slot → Prop
  | .ok (.sh d) => Q (.ok (.sh d))
  | .ok (.ow d) => Q (.ok (.ow d))
  | .ok (.nd d) => Q (.ok (.nd d))
  | .ok _ => False
  | .ex c fs => Q (.ex c fs)
noncomputable def RX.slot : RX → Slot
  | .sh d => .sh d
  | .ow d => .ow d
  | .nd d => .nd d
noncomputable def Zd1 (ms : List (Addr × D)) : List Cell := ms.map fun m => (Slot.na m.1 m.2, some (V.ref m.1))
noncomputable def Zg1 : Slot → Option V → List Cell
  | .rt ms x, v => (x.slot, v) :: Zd1 ms
  | x, v => [(x, v)]
theorem C.cells {F : Fr} {x : Slot} {v : Option V} {l : List Cell} {H : Hp} (h : C F ((x, v) :: l) H) : C F (Zg1 x v ++ l) H := by
  cases x with
  | rt ms y => obtain ⟨S, g, c, _⟩ := h; exact (c _ List.mem_cons_self).elim
  | _ => exact h
noncomputable def msOf : List Slot → List (Addr × D)
  | [] => []
  | .na a d :: xs => (a, d) :: msOf xs
  | _ :: xs => msOf xs
noncomputable def Znj (F : Fr) (ms : List (Addr × D)) (Q : VK) (E : XK) : R Slot → Prop
  | .ok (.sh d) => ∀ v H', C F [(.sh d, some v)] H' → Q v H'
  | .ok (.ow d) => ∀ v H', C F [(.ow d, some v)] H' → Q v H'
  | .ok (.nd d) => ∀ v H', C F [(.nd d, some v)] H' → Q v H'
  | .ok (.rt ms' x) => ∀ v H', C F (Zg1 (.rt ms' x) (some v)) H' → Q v H'
  | .ok _ => False
  | .ex c fs => ∀ A d H', F.mg c = some (.ref A) → XF H' d fs → C F (Zd1 ms) H' → E (.ref A) d H'
noncomputable def spG (K : PySem.W.Frag) (mg : Str → Option Value) (n : Nat) (γ : G) : Sp := fun vs H Q E => vs.length = n ∧ ∃ (xs : List Slot) (S H0 : Hp), xs.length = vs.length ∧ (∀ x ∈ xs, x.env) ∧
  C ⟨K, mg, H0, S⟩ (xs.zip (vs.map some)) H ∧ γ xs (Znj ⟨K, mg, H0, S⟩ (msOf xs) Q E)
noncomputable def Zer (γ : G) (wA : WA) : WE := fun env Q => wA env (rk (fun xs => γ (xs.map Slot.arg) (outK Q)) Q)
theorem Zgw {Q Q' : R Slot → Prop} (m : ∀ r, Q r → Q' r) : ∀ r, outK Q r → outK Q' r
  | .ok (.sh d), h => m _ h
  | .ok (.ow d), h => m _ h
  | .ok (.nd d), h => m _ h
  | .ok .un, h => h
  | .ok (.bo _), h => h
  | .ok (.bt _), h => h
  | .ok (.lk _ _), h => h
  | .ok (.lo _ _ _), h => h
  | .ok (.lt _ _ _), h => h
  | .ok (.nb _), h => h
  | .ok (.ln _ _), h => h
  | .ok (.xc _), h => h
  | .ok (.xe _ _ _), h => h
  | .ok (.na _ _), h => h
  | .ok (.rt _ _), h => h
  | .ex c fs, h => m _ h
section
variable {F : Fr}
theorem C.argF : ∀ {xs : List Slot} {vs : List V} {l : List Cell} {H : Hp}, C F (xs.zip (vs.map some) ++ l) H → vs.length = xs.length →
    C F ((xs.map frzS).zip (vs.map some) ++ l) H
  | [], vs, l, H, h, hl => by cases vs with
    | nil => exact h
    | cons _ _ => simp at hl
  | x :: xs, [], l, H, h, hl => by simp at hl
  | x :: xs, v :: vs, l, H, h, hl => by
    have h0 : C F ((x, some v) :: (xs.zip (vs.map some) ++ l)) H := h
    have h1 : C F ((frzS x, some v) :: (xs.zip (vs.map some) ++ l)) H := by
      cases x with
      | ow d => exact h0.frz
      | sh d => exact h0
      | un => exact h0
      | bo d => exact h0
      | bt d => exact h0
      | lk _ d => exact h0
      | lo _ _ d => exact h0
      | lt _ _ d => exact h0
      | nd d => exact h0
      | nb d => exact h0
      | ln _ _ => exact h0
      | xc _ => exact h0
      | xe _ _ _ => exact h0
      | na _ _ => exact h0
      | rt _ _ => exact h0
    exact C.front (C.argF (xs := xs) h1.back (by simpa using hl))
theorem Zmb : ∀ x : Slot, (x.arg).env := fun x => by cases x <;> trivial
theorem Zj0 : ∀ xs : List Slot, msOf (xs.map Slot.arg) = []
  | [] => rfl
  | x :: xs => by cases x <;> exact Zj0 xs
theorem C.enter {xs : List Slot} {vs : List V} {l : List Cell} {H : Hp} (h : C F (xs.zip (vs.map some) ++ l) H) (hl : vs.length = xs.length) :
    ∃ S, GS F S H ∧ (∀ p ∈ l, SC F S H p) ∧ l.Pairwise (Za4 H) ∧ C ⟨F.K, F.mg, H, S⟩ ((xs.map Slot.arg).zip (vs.map some)) H := by
  obtain ⟨S, g, cc, pw⟩ := h.argF hl
  refine ⟨S, g, fun p hp => cc p (List.mem_append_right _ hp), pw.sublist (List.sublist_append_right _ _), S, ⟨Same.refl S, g.sh, Same.refl H, fun a z => .inl z⟩, fun p hp => ?_, ?_⟩
  · have conv : ∀ (xs : List Slot) (us : List (Option V)), p ∈ (xs.map Slot.arg).zip us → ∃ q ∈ (xs.map frzS).zip us, p = (q.1.arg, q.2) := by
      intro xs
      induction xs with
      | nil => intro us h; simp at h
      | cons x xs ih =>
        intro us h
        cases us with
        | nil => simp at h
        | cons u us =>
          rcases List.mem_cons.mp h with rfl | h
          · refine ⟨(frzS x, u), List.mem_cons_self, ?_⟩
            cases x <;> rfl
          · obtain ⟨q, hq, e⟩ := ih us h
            exact ⟨q, List.mem_cons_of_mem _ hq, e⟩
    obtain ⟨q, hq, rfl⟩ := conv xs _ hp
    have s := cc q (List.mem_append_left _ hq)
    obtain ⟨x, v⟩ := q
    cases x with
    | un => trivial
    | sh d => exact s
    | ow d =>
      exfalso
      have hm : Slot.ow d ∈ xs.map frzS := (List.of_mem_zip hq).1
      obtain ⟨y, _, e⟩ := List.mem_map.mp hm
      cases y <;> cases e
    | bo d => obtain ⟨a, e, _, r⟩ := s; exact ⟨a, e, r.nn, r⟩
    | bt d => obtain ⟨a, e, r⟩ := s; exact ⟨a, e, r.nn, r⟩
    | lk a d => obtain ⟨e, _, _, r⟩ := s; exact ⟨a, e, r.nn, r⟩
    | lo a _ d => trivial
    | lt a _ d => trivial
    | nd d => trivial
    | nb d => obtain ⟨a, e, r, _⟩ := s; exact ⟨a, e, r, r.dom1⟩
    | ln fp d => obtain ⟨a, e, r, _⟩ := s; exact ⟨a, e, r, r.dom1⟩
    | xc a => exact s
    | xe a dd ns => exact s.1
    | na a d => trivial
    | rt _ _ => trivial
  · have : ∀ p ∈ (xs.map Slot.arg).zip (vs.map some), ¬ p.1.own := fun p hp => by
      obtain ⟨y, _, e⟩ := List.mem_map.mp (List.of_mem_zip hp).1
      rw [← e]
      cases y <;> exact fun z => z
    revert this
    generalize (xs.map Slot.arg).zip (vs.map some) = m
    intro this
    induction m with
    | nil => exact .nil
    | cons p m ih => exact Zar (this p List.mem_cons_self) (ih fun q hq => this q (List.mem_cons_of_mem _ hq))
theorem C.leave {l : List Cell} {S H H' : Hp} (g : GS F S H) (cc : ∀ p ∈ l, SC F S H p) (pw : l.Pairwise (Za4 H)) {m : List Cell} (h : C ⟨F.K, F.mg, H, S⟩ m H') (hm : ∀ p ∈ m, (∃ d v, p = (.sh d, v)) ∨ (∃ d v, p = (.ow d, v)) ∨ ∃ d v, p = (.nd d, v)) : C F (m ++ l) H' := by
  obtain ⟨S', g', cc', pw'⟩ := h
  have gr : ∀ p ∈ l, SC F S' H' p := fun p hp => (cc p hp).grow g'.s0 g'.h0 fun a z => by
    rcases g'.fr a z with y | y | y
    · exact .inl y
    · exact .inr (.inl y)
    · exact .inr (g'.kt_old y)
  refine ⟨S', ⟨g.s0.trans g'.s0, g'.sh, g.h0.trans g'.h0, fun a z => ?_⟩, fun p hp => ?_, List.pairwise_append.mpr ⟨pw', Zd4 pw cc g'.h0, fun p hp q hq => ?_⟩⟩
  · rcases g'.fr a z with z | z | z
    · rcases g.fr a z with y | y | y
      · exact .inl y
      · exact .inr (.inl y)
      · exact .inr (.inr (by rw [Ze3 g'.s0 z]; exact y))
    · exact .inr (.inl (g.h0.free z))
    · exact .inr (.inr z)
  · rcases List.mem_append.mp hp with hp | hp
    · have s := cc' p hp
      rcases hm p hp with ⟨d, v, rfl⟩ | ⟨d, v, rfl⟩ | ⟨d, v, rfl⟩
      · exact s
      · obtain ⟨a, e, h0, hS, r⟩ := s
        exact ⟨a, e, g.h0.free h0, hS, r⟩
      · obtain ⟨a, e, r, n, q⟩ := s
        exact ⟨a, e, r, n, fun b hb => ⟨g.h0.free (q b hb).1, (q b hb).2⟩⟩
    · exact gr p hp
  · have key : Dj H' p q := fun a ha hb => by
      rw [Zdz (cc q hq) g'.h0] at hb
      exact (Zce (cc q hq) a hb).1 (Zce (cc' p hp) a ha).2.1
    exact ⟨fun _ _ => key, fun _ _ => key⟩
end
section
variable {X : Cx} {F : Fr} {W : WX} {a b c e o : Expr} {es : List Expr} {wa wb wc w : WE} {wA : WA} {pos : Pos}
theorem Zmf {k n : Nat} {f : Addr} {fd : FuncData} {ps : List Str} {γ : G} {x : Str} {p : Pos} (m : Zfh γ) (Fk : FnOk X.prog X.w X.K X.mg X.base (L2.CX X.prog X.w) k f fd ps (spG F.K F.mg n γ)) (hr : Room k X.A)
    (hm : X.mg x = some (.ref f)) (hk : PySem.W.keepIn X.K (.ref f) = true) (hb : Binds X.K fd ps []) (tk : Takes X W) (hn : (e :: es).length = n) (ha : DA X F W (e :: es) wA) (hnA : ∀ env Q, wA env Q → wA env fun r => Q r ∧ ∀ xs, r = .ok xs → xs.length = n)
    (hg : Gl X x := by rfl) (hdb : (x == ("__debug__" : Str)) = false := by decide) (he : starEach (e :: es) X.env = (false, eval e X.env) :: starEach es X.env := by rfl) (hpl : (backTo pos (starEach es X.env)).any (·.1) = false := by rfl) :
    DE X F W (.Call (.Name x p) (e :: es) [] pos) (Zer γ wA) := by
  refine ⟨Zbd (pe_callS (E := L2.WE W) Fk hr hg hm hk hb (fun σ => passAt tk σ) ha.run hdb he hpl) fun σ H Q ⟨l, env, k, q⟩ => ⟨l, env, k, ?_⟩, fun env Q Q' mm q => Zaq ha.mono (fun xs hx => m _ _ _ (Zgw mm) hx) mm q⟩
  refine ha.mono env _ _ (fun r z => ?_) (hnA env _ q)
  obtain ⟨z, hlen⟩ := z
  cases r with
  | ex c fs => exact z
  | ok xs =>
    intro vs H1 hl c1
    have hx : γ (xs.map Slot.arg) (outK (LEp F W l env σ Q)) := z
    obtain ⟨S, g, cc, pw, ce⟩ := c1.enter hl
    refine ⟨by rw [hl]; exact hlen xs rfl, xs.map Slot.arg, S, H1, by rw [List.length_map]; exact hl.symm, fun x hx => ?_, ce, m _ _ _ (fun r z => ?_) hx⟩
    · obtain ⟨y, _, rfl⟩ := List.mem_map.mp hx
      exact Zmb y
    · cases r with
      | ok x =>
        cases x with
        | sh d => exact fun v H' c2 => z v H' (C.leave g cc pw c2 fun p hp => by
            have e : p = (.sh d, some v) := by simpa using hp
            exact .inl ⟨d, _, e⟩)
        | ow d => exact fun v H' c2 => z v H' (C.leave g cc pw c2 fun p hp => by
            have e : p = (.ow d, some v) := by simpa using hp
            exact .inr (.inl ⟨d, _, e⟩))
        | nd d => exact fun v H' c2 => z v H' (C.leave g cc pw c2 fun p hp => by
            have e : p = (.nd d, some v) := by simpa using hp
            exact .inr (.inr ⟨d, _, e⟩))
        | un => exact z
        | bo d => exact z
        | bt d => exact z
        | lk _ d => exact z
        | lo _ _ _ => exact z
        | lt _ _ _ => exact z
        | nb _ => exact z
        | ln _ _ => exact z
        | xc _ => exact z
        | xe _ _ _ => exact z
        | na _ _ => exact z
        | rt _ _ => exact (show False from z).elim
      | ex c fs => exact fun A d H' hA hx c2 => z A d H' hA hx (C.leave (m := []) g cc pw (by rw [Zj0] at c2; exact c2) fun p hp => by simp at hp)
theorem Zd6 : ∀ env (Q : R (List Slot) → Prop), aNil env Q → aNil env fun r => Q r ∧ ∀ xs, r = .ok xs → xs.length = 0 := fun env Q h => ⟨h, fun xs e => by cases e; rfl⟩
theorem Zca {n : Nat} (m1 : Mono w) (m2 : Mono wA) (h2 : ∀ env Q, wA env Q → wA env fun r => Q r ∧ ∀ xs, r = .ok xs → xs.length = n) : ∀ env Q, Zan w wA env Q → Zan w wA env fun r => Q r ∧ ∀ xs, r = .ok xs → xs.length = n + 1 := fun env Q h =>
  m1 env _ _ (fun r z => match r, z with
    | .ok x, z => m2 env _ _ (fun r' z' => match r', z' with
      | .ok xs, z' => ⟨z'.1, fun ys e => by cases e; simp [z'.2 xs rfl]⟩
      | .ex c fs, z' => ⟨z'.1, fun ys e => nomatch e⟩) (h2 env _ z)
    | .ex c fs, z => ⟨z, fun ys e => nomatch e⟩) h
end
inductive O where
  | nx (env : En) | ret (x : Slot) | bk (env : En) | ct (env : En) | ex (c : Str) (fs : List (Str × D)) (env : En)
noncomputable abbrev WS := En → (O → Prop) → Prop
noncomputable abbrev WG := Slot → En → (En → Prop) → Prop
noncomputable def Za5 (w : WS) : Prop := ∀ env Q Q', (∀ r, Q r → Q' r) → w env Q → w env Q'
noncomputable def Zfw (g : WG) : Prop := ∀ x env k k', (∀ e, k e → k' e) → g x env k → g x env k'
noncomputable def rks {α : Type} (k : α → Prop) (Q : O → Prop) (env : En) : R α → Prop
  | .ok x => k x
  | .ex c fs => Q (.ex c fs env)
theorem Zby {α : Type} {w : En → (R α → Prop) → Prop} (m : Mono w) {k k' : α → Prop} {Q Q' : O → Prop} {env : En} (hk : ∀ x, k x → k' x) (hq : ∀ r, Q r → Q' r) (h : w env (rks k Q env)) : w env (rks k' Q' env) :=
  m env _ _ (fun r q => match r, q with
    | .ok x, q => hk x q
    | .ex c fs, q => hq _ q) h
noncomputable def LSp (F : Fr) (W : WX) (l : List Cell) (D : Ends) : O → Prop
  | .nx env' => ∀ σ' H', CE F l env' σ' H' → D.nx σ' H'
  | .bk env' => ∀ σ' H', CE F l env' σ' H' → D.bk σ' H'
  | .ct env' => ∀ σ' H', CE F l env' σ' H' → D.ct σ' H'
  | .ret x => ∀ v H', C F (Zg1 x (some v) ++ l) H' → D.rt v H'
  | .ex c fs env' => ∀ A d σ' H', F.mg c = some (.ref A) → XF H' d fs → CE F l env' σ' H' → W (.ref A) d σ' H'
noncomputable def LS (F : Fr) (W : WX) (w : WS) : TS := fun D σ H => ∃ l env, CE F l env σ H ∧ (∀ p ∈ l, p.1.env) ∧ w env (LSp F W l D)
structure DS (X : Cx) (F : Fr) (W : WX) (st : Stmt) (w : WS) : Prop where
  run : PS X st (LS F W w)
  mono : Za5 w
structure DSs (X : Cx) (F : Fr) (W : WX) (sts : List Stmt) (w : WS) : Prop where
  run : PSs X sts (LS F W w)
  mono : Za5 w
noncomputable def LG (F : Fr) (g : WG) : TG := fun v σ H Q => ∃ l env x, env.length = σ.length ∧ (∀ y ∈ env, y.env) ∧ C F ((x, some v) :: (l ++ env.zip σ)) H ∧ g x env fun env' => ∀ σ' H', CE F l env' σ' H' → Q σ' H'
structure DG (X : Cx) (F : Fr) (tg : Expr) (g : WG) : Prop where
  run : PG X tg (LG F g)
  mono : Zfw g
section
variable {X : Cx} {F : Fr} {W : WX} {e tg : Expr} {st : Stmt} {sts : List Stmt} {we wc : WE} {w w1 w2 : WS} {g : WG} {pos : Pos}
theorem Zms {l : List Cell} {Dn : Ends} {env : En} {σ : L2.St} {Q : VK} {c : Str} {fs : List (Str × D)} (k : LSp F W l Dn (.ex c fs env)) (hl : env.length = σ.length) (ho : ∀ x ∈ env, x.env) : LEp F W l env σ Q (.ex c fs) :=
  fun A d H' hA hx c2 => k A d σ H' hA hx ⟨hl, ho, c2⟩
theorem Zkd {l : List Cell} {env : En} {σ : L2.St} {H : Hp} {D : Ends} {k : Slot → Prop} {Q : VK} (he : DE X F W e we) (ce : CE F l env σ H) (h : we env (rks k (LSp F W l D) env))
    (h1 : ∀ x, k x → ∀ v H', C F ((x, some v) :: (l ++ env.zip σ)) H' → Q v H') : LE F W we σ H Q :=
  ⟨l, env, ce, he.mono env _ _ (fun r z => match r, z with
    | .ok x, z => h1 x z
    | .ex c fs, z => Zms (Dn := D) z ce.len ce.ok) h⟩
theorem Zoe {l : List Cell} {env : En} {σ : L2.St} {H : Hp} {D : Ends} {k : Bool → Prop} {Q : Bool → Hp → Prop} (he : DT X F W e we) (ce : CE F l env σ H) (h : we env (rks (asB k) (LSp F W l D) env))
    (h1 : ∀ b, k b → ∀ H', C F (l ++ env.zip σ) H' → Q b H') : LT F W we σ H Q :=
  ⟨l, env, ce, he.mono env _ _ (fun r z => match r, z with
    | .ok x, z => by
      have z : asB k x := z
      unfold asB at z
      split at z
      · exact ⟨_, rfl, fun H' c => h1 _ z H' c⟩
      · exact z.elim
    | .ex c fs, z => fun A d H' hA hx c2 => z A d σ H' hA hx ⟨ce.len, ce.ok, c2⟩) h⟩
noncomputable def Zb7 : WS := fun env Q => Q (.nx env)
noncomputable def wSeq (w1 w2 : WS) : WS := fun env Q => w1 env fun o => match o with
  | .nx e => w2 e Q
  | o => Q o
theorem Zbo : DSs X F W [] Zb7 := ⟨Zhb pss_nil fun D σ H ⟨l, env, k, hl, q⟩ => q σ H k, fun _ _ _ m h => m _ h⟩
theorem Zai (h1 : Za5 w1) (h2 : Za5 w2) : Za5 (wSeq w1 w2) := fun env Q Q' m h => h1 env _ _ (fun o z => match o, z with
  | .nx e, z => h2 e _ _ m z
  | .ret _, z => m _ z
  | .bk _, z => m _ z
  | .ct _, z => m _ z
  | .ex _ _ _, z => m _ z) h
theorem Zal (h1 : DS X F W st w1) (h2 : DSs X F W sts w2) : DSs X F W (st :: sts) (wSeq w1 w2) :=
  ⟨Zhb (pss_cons h1.run h2.run) fun D σ H ⟨l, env, k, hl, q⟩ => ⟨l, env, k, hl, h1.mono env _ _ (fun o z => match o, z with
    | .nx e, z => fun σ' H' k' => ⟨l, e, k', hl, z⟩
    | .ret _, z => z
    | .bk _, z => z
    | .ct _, z => z
    | .ex _ _ _, z => z) q⟩, Zai h1.mono h2.mono⟩
theorem Zcb (h1 : DS X F W st w1) : DSs X F W [st] w1 := ⟨pss_one h1.run, h1.mono⟩
noncomputable def wFrz (i : Nat) (w : WS) : WS := fun env Q => match env[i]? with
  | some x => w (env.set i (frzS x)) Q
  | none => False
theorem CE.frz {l : List Cell} {env : En} {σ : L2.St} {H : Hp} {i : Nat} {x : Slot} (k : CE F l env σ H) (hx : env[i]? = some x) : CE F l (env.set i (frzS x)) σ H := by
  obtain ⟨v, h1, h2⟩ := Za1 k.len hx
  refine ⟨by rw [List.length_set]; exact k.len, fun y hy => ?_, ?_⟩
  · rcases List.mem_or_eq_of_mem_set hy with hy | rfl
    · exact k.ok y hy
    · have := k.ok x (Zax hx)
      cases x <;> first | exact this | trivial
  · have e : σ = σ.set i v := by
      apply List.ext_getElem?
      intro j
      rw [List.getElem?_set]
      split
      · subst_vars
        split
        · rw [h1]
        · rename_i hlt
          rw [List.getElem?_eq_none (by omega)]
      · rfl
    rw [e, Zd5]
    have p1 := Zci h2
    have p2 := Zei (y := (frzS x, v)) h2
    have c1 : C F ((x, v) :: (l ++ (env.zip σ).eraseIdx i)) H := (k.c.perm (List.Perm.append_left l p1)).front
    have c2 : C F ((frzS x, v) :: (l ++ (env.zip σ).eraseIdx i)) H := by
      cases x with
      | ow d => exact c1.frz
      | un => exact c1
      | sh d => exact c1
      | bo d => exact c1
      | bt d => exact c1
      | lk _ d => exact c1
      | lo _ _ _ => exact c1
      | lt _ _ _ => exact c1
      | nd _ => exact c1
      | nb _ => exact c1
      | ln _ _ => exact c1
      | xc _ => exact c1
      | xe _ _ _ => exact c1
      | na _ _ => exact c1
      | rt _ _ => exact c1
    exact c2.back.perm (List.Perm.append_left l p2.symm)
theorem Zm7 (i : Nat) (h : DS X F W st w) : DS X F W st (wFrz i w) := by
  refine ⟨Zdl h.run fun D σ H ⟨l, env, k, hl, q⟩ => ?_, fun env Q Q' m q => ?_⟩
  · unfold wFrz at q
    split at q
    · rename_i x e
      exact ⟨l, _, k.frz e, hl, q⟩
    · exact q.elim
  · unfold wFrz at q ⊢
    split at q
    · exact h.mono _ _ _ m q
    · exact q.elim
theorem C.setName {l : List Cell} {env : En} {σ : L2.St} {H : Hp} {i : Nat} {x : Slot} {v : V} (hl : env.length = σ.length) (ho : ∀ y ∈ env, y.env) (hx : x.env) (hi : i < env.length) (c : C F ((x, some v) :: (l ++ env.zip σ)) H) : CE F l (env.set i x) (σ.set i (some v)) H := by
  refine ⟨by simp [hl], fun y hy => ?_, ?_⟩
  · rcases List.mem_or_eq_of_mem_set hy with hy | rfl
    · exact ho y hy
    · exact hx
  · rw [Zd5]
    obtain ⟨w, hw⟩ : ∃ w, (env.zip σ)[i]? = some w := ⟨_, List.getElem?_eq_getElem (by rw [List.length_zip]; omega)⟩
    have p2 := Zei (y := (x, some v)) hw
    have c1 : C F ((x, some v) :: (l ++ (env.zip σ).eraseIdx i)) H := c.sub (List.Sublist.cons_cons _ ((List.eraseIdx_sublist _ _).append_left l))
    exact c1.back.perm (List.Perm.append_left l p2.symm)
noncomputable def gN (i : Nat) : WG := fun x env k => match x with
  | .sh d => i < env.length ∧ k (env.set i (.sh d))
  | .ow d => i < env.length ∧ k (env.set i (.ow d))
  | .nd d => i < env.length ∧ k (env.set i (.nd d))
  | _ => False
theorem Zg4 (i : Nat) {x : Str} (hN : X.N.Nodup) (hi : X.N[i]? = some x := by rfl) (hx : Loc X.env.scope x := by first | exact Or.inl rfl | exact Or.inr rfl) (hf : X.fn x = true ∨ X.env.scope.names.lookup x = some .local := by first | exact .inl rfl | exact .inr rfl) : DG X F (.Name x pos) (gN i) := by
  refine ⟨⟨fun pins s σ H v u Q I r h => ?_⟩, fun x env k k' m h => ?_⟩
  · refine (pg_name hN hi hx hf).run pins s σ H v u Q I r ?_
    obtain ⟨l, env, y, hl, ho, c, h⟩ := h
    unfold gN at h
    split at h
    · exact h.2 _ _ (C.setName hl ho trivial h.1 c)
    · exact h.2 _ _ (C.setName hl ho trivial h.1 c)
    · exact h.2 _ _ (C.setName hl ho trivial h.1 c)
    · exact h.elim
  · unfold gN at h ⊢
    split at h
    · exact ⟨h.1, m _ h.2⟩
    · exact ⟨h.1, m _ h.2⟩
    · exact ⟨h.1, m _ h.2⟩
    · exact h.elim
noncomputable def Zgl : List Nat → List D → En → (En → Prop) → Prop
  | [], [], env, k => k env
  | i :: is, d :: ds, env, k => i < env.length ∧ Zgl is ds (env.set i (.sh d)) k
  | _, _, _, _ => False
noncomputable def gT (is : List Nat) : WG := fun x env k => match x.dat with
  | some (.tup ds) => Zgl is ds env k
  | some (.lst ds) => Zgl is ds env k
  | _ => False
theorem Zch : ∀ {is : List Nat} {ds : List D} {env : En} {k k' : En → Prop}, (∀ e, k e → k' e) → Zgl is ds env k → Zgl is ds env k'
  | [], [], _, _, _, m, h => m _ h
  | _ :: _, _ :: _, _, _, _, m, h => ⟨h.1, Zch m h.2⟩
  | [], _ :: _, _, _, _, _, h => h.elim
  | _ :: _, [], _, _, _, _, h => h.elim
theorem Zfa : ∀ {is : List Nat} {ds : List D} {env : En} {k : En → Prop}, Zgl is ds env k → ds.length = is.length
  | [], [], _, _, _ => rfl
  | _ :: is, _ :: ds, _, _, h => by simp [Zfa h.2]
  | [], _ :: _, _, _, h => h.elim
  | _ :: _, [], _, _, h => h.elim
noncomputable def gNs : List Nat → TGs
  | [] => gNil
  | i :: is => gCons (gName i) (gNs is)
inductive NamesAt (X : Cx) : List Expr → List Nat → Prop
  | nil : NamesAt X [] []
  | cons {x : Str} {p : Pos} {es : List Expr} {i : Nat} {is : List Nat} (hi : X.N[i]? = some x) (hx : Loc X.env.scope x) (hf : X.fn x = true ∨ X.env.scope.names.lookup x = some .local) (r : NamesAt X es is) : NamesAt X (.Name x p :: es) (i :: is)
theorem NamesAt.pgs (hN : X.N.Nodup) : ∀ {es : List Expr} {is : List Nat}, NamesAt X es is → PGs X es (gNs is)
  | _, _, .nil => pgs_nil
  | _, _, .cons hi hx hf r => pgs_cons (pg_name hN hi hx hf) (NamesAt.pgs hN r)
theorem Zhh {l : List Cell} {Q : L2.St → Hp → Prop} {H : Hp} : ∀ {is : List Nat} {ds : List D} {vs : List V} {env : En} {σ : L2.St}, vs.length = ds.length → env.length = σ.length → (∀ y ∈ env, y.env) →
    (C F ((ds.map Slot.sh).zip (vs.map some) ++ (l ++ env.zip σ)) H) → Zgl is ds env (fun env' => ∀ σ' H', CE F l env' σ' H' → Q σ' H') → gNs is vs σ H Q
  | [], [], [], env, σ, _, hl, ho, c, h => ⟨rfl, h σ H ⟨hl, ho, c⟩⟩
  | i :: is, d :: ds, v :: vs, env, σ, hv, hl, ho, c, h => by
    obtain ⟨hi, h⟩ := h
    refine ⟨v, vs, rfl, ?_⟩
    have c1 : C F ((.sh d, some v) :: (((ds.map Slot.sh).zip (vs.map some) ++ l) ++ env.zip σ)) H := by rw [List.append_assoc]; exact c
    have k := C.setName (x := .sh d) hl ho trivial hi c1
    refine Zhh (is := is) (ds := ds) (vs := vs) (by simpa using hv) k.len k.ok ?_ h
    rw [← List.append_assoc]; exact k.c
  | [], _ :: _, _, _, _, _, _, _, _, h => h.elim
  | _ :: _, [], _, _, _, _, _, _, _, h => h.elim
  | _, [], _ :: _, _, _, hv, _, _, _, _ => by simp at hv
  | _, _ :: _, [], _, _, hv, _, _, _, _ => by simp at hv
theorem C.spread {l : List Cell} {vs : List V} {ds : List D} {S H : Hp} (g : GS F S H) (cc : ∀ p ∈ l, SC F S H p) (pw : l.Pairwise (Za4 H)) (r : Reps F.K S vs ds) : C F ((ds.map Slot.sh).zip (vs.map some) ++ l) H := by
  have : ∀ {vs : List V} {ds : List D}, Reps F.K S vs ds → (∀ p ∈ (ds.map Slot.sh).zip (vs.map some), SC F S H p) ∧ ∀ p ∈ (ds.map Slot.sh).zip (vs.map some), ¬ p.1.own := fun {vs ds} r => by
    induction ds generalizing vs with
    | nil => cases r; exact ⟨fun p hp => by simp at hp, fun p hp => by simp at hp⟩
    | cons d ds ih =>
      cases r with
      | cons r1 r2 =>
        obtain ⟨i1, i2⟩ := ih r2
        refine ⟨fun p hp => ?_, fun p hp => ?_⟩
        · rcases List.mem_cons.mp hp with rfl | hp
          · exact ⟨_, rfl, r1⟩
          · exact i1 p hp
        · rcases List.mem_cons.mp hp with rfl | hp
          · exact fun z => z
          · exact i2 p hp
  obtain ⟨i1, i2⟩ := this r
  refine ⟨S, g, fun p hp => (List.mem_append.mp hp).elim (i1 p) (cc p), ?_⟩
  revert i2
  generalize (ds.map Slot.sh).zip (vs.map some) = m
  intro i2
  induction m with
  | nil => exact pw
  | cons p m ih => exact Zar (i2 p List.mem_cons_self) (ih fun q hq => i2 q (List.mem_cons_of_mem _ hq))
theorem Zom {t1 t2 : TG} (h1 : PG X tg t1) (h2 : PG X tg t2) : PG X tg (fun v σ H Q => t1 v σ H Q ∨ t2 v σ H Q) := ⟨fun pins s σ H v u Q I r h => h.elim (h1.run pins s σ H v u Q I r) (h2.run pins s σ H v u Q I r)⟩
theorem Zcw : ∀ {es : List Expr} {is : List Nat}, NamesAt X es is → (assignEach es X.env).length = es.length ∧ (assignEach es X.env).findIdx? (·.1) = none
  | _, _, .nil => ⟨rfl, rfl⟩
  | _, _, .cons (es := es) (x := x) (p := p) _ _ _ r => by
    obtain ⟨a, b⟩ := Zcw r
    have e : assignEach (.Name x p :: es) X.env = (false, assign (.Name x p) X.env) :: assignEach es X.env := rfl
    rw [e]
    refine ⟨by simp [a], ?_⟩
    rw [List.findIdx?_cons, b]
    rfl
theorem Zgh : ∀ {es : List Expr} {is : List Nat}, NamesAt X es is → es.length = is.length
  | _, _, .nil => rfl
  | _, _, .cons _ _ _ r => by simp [Zgh r]
theorem Zis {es : List Expr} {is : List Nat} {k : Nat} (hc : X.calm = true) (hN : X.N.Nodup) (n : NamesAt X es is) (hK : X.K = F.K := by rfl) : DG X F (.Tuple es k pos) (gT is) := by
  obtain ⟨e1, e2⟩ := Zcw n
  have en := Zgh n
  refine ⟨⟨fun pins s σ H v u Q I r h => ?_⟩, fun x env k k' m h => ?_⟩
  · refine (Zom (pg_tup (n := es.length) hc (n.pgs hN) e1 e2) (pg_lst (n := es.length) hc (n.pgs hN) e1 e2)).run pins s σ H v u Q I r ?_
    obtain ⟨l, env, y, hl, ho, c, h⟩ := h
    unfold gT at h
    split at h
    · rename_i ds e
      obtain ⟨a, vs, ea, hq, hlen, S, g, rp, cc, pw⟩ := c.seqT e
      cases ea
      have hn := Zfa h
      refine .inl ⟨a, vs, rfl, by rw [hK]; exact hq, by omega, ?_⟩
      exact Zhh hlen hl ho (C.spread g (fun p hp => cc p (List.mem_cons_of_mem _ hp)) pw rp) h
    · rename_i ds e
      obtain ⟨a, vs, ea, hq, hlen, S, g, rp, cc, pw⟩ := c.seqL e
      cases ea
      have hn := Zfa h
      refine .inr ⟨a, vs, rfl, by rw [hK]; exact hq, by omega, ?_⟩
      exact Zhh hlen hl ho (C.spread g (fun p hp => cc p (List.mem_cons_of_mem _ hp)) pw rp) h
    · exact h.elim
  · unfold gT at h ⊢
    split at h
    · exact Zch m h
    · exact Zch m h
    · exact h.elim
noncomputable def wAsg (g : WG) (we : WE) : WS := fun env Q => we env (rks (fun x => g x env fun env' => Q (.nx env')) Q env)
theorem Zaw (hg : Zfw g) (he : Mono we) : Za5 (wAsg g we) := fun env Q Q' m h => Zby he (fun x hx => hg x env _ _ (fun e z => m _ z) hx) m h
theorem Znx (hg : DG X F tg g) (he : DE X F W e we) (hs : swapsWithSole [tg] e pos.line X.env = pure false := by rfl) (hw : swappedStores [tg] e X.env = pure none := by rfl)
    (h1 : (assignEach [tg] X.env).map (·.2) = [assign tg X.env] := by rfl) : DS X F W (.Assign [tg] e pos) (wAsg g we) :=
  ⟨Zdl (ps_asg he.run hg.run hs hw h1) fun D σ H ⟨l, env, k, hl, q⟩ => Zkd he k q fun x hx v H1 c1 => ⟨l, env, x, k.len, k.ok, c1, hx⟩, Zaw hg.mono he.mono⟩
theorem Zbw (i : Nat) {x : Str} {p : Pos} (hN : X.N.Nodup) (he : DE X F W e we) (hi : X.N[i]? = some x := by rfl) (hx : Loc X.env.scope x := by first | exact Or.inl rfl | exact Or.inr rfl) (hs : swapsWith e (some (.Name x p)) pos.line X.env = pure false := by rfl)
    (hf : X.fn x = true ∨ X.env.scope.names.lookup x = some .local := by first | exact .inl rfl | exact .inr rfl) : DS X F W (.Assign [.Name x p] e pos) (wAsg (gN i) we) := by
  have hg : DG X F (.Name x p) (gN i) := Zg4 i hN hi hx hf
  refine ⟨Zdl (ps_set hN hi hx he.run hs hf) fun D σ H ⟨l, env, k, hl, q⟩ => Zkd he k q fun x hx v H1 c1 => ?_, Zaw hg.mono he.mono⟩
  unfold gN at hx
  split at hx
  · exact hx.2 _ _ (C.setName k.len k.ok trivial hx.1 c1)
  · exact hx.2 _ _ (C.setName k.len k.ok trivial hx.1 c1)
  · exact hx.2 _ _ (C.setName k.len k.ok trivial hx.1 c1)
  · exact hx.elim
noncomputable def wIf (wc : WE) (w1 w2 : WS) : WS := fun env Q => wc env (rks (asB fun b => match b with | true => w1 env Q | false => w2 env Q) Q env)
theorem Ze6 {s1 s2 : List Stmt} (hc : DT X F W e wc) (h1 : DSs X F W s1 w1) (h2 : DSs X F W s2 w2) : DS X F W (.If e s1 s2 pos) (wIf wc w1 w2) :=
  ⟨Zdl (ps_if hc.run h1.run h2.run) fun D σ H ⟨l, env, k, hl, q⟩ => Zoe hc k q fun b hb H1 c1 => by
    cases b with
    | true => exact ⟨l, env, k.at c1, hl, hb⟩
    | false => exact ⟨l, env, k.at c1, hl, hb⟩, fun env Q Q' m h => Zby hc.mono (fun x hx => Zc4 (fun b z => match b, z with
    | true, z => h1.mono env _ _ m z
    | false, z => h2.mono env _ _ m z) hx) m h⟩
noncomputable def wRet (we : WE) : WS := fun env Q => we env (rks (fun x => Q (.ret x)) Q env)
theorem Zcv (he : DE X F W e we) : DS X F W (.Return (some e) pos) (wRet we) :=
  ⟨Zdl (ps_ret he.run) fun D σ H ⟨l, env, k, hl, q⟩ => Zkd he k q fun x hx v H1 c1 => hx v H1 (C.cells (c1.sub (List.Sublist.cons_cons _ (List.sublist_append_left _ _)))), fun env Q Q' m h => Zby he.mono (fun x z => m _ z) m h⟩
noncomputable def Zee (i : Nat) : WS := fun env Q => match env[i]? with
  | some (.sh d) => Q (.ret (.sh d))
  | some (.ow d) => Q (.ret (.ow d))
  | some (.nd d) => Q (.ret (.nd d))
  | _ => False
theorem Zja (i : Nat) {x : Str} {p : Pos} (hN : X.N[i]? = some x := by rfl) (hv : Vis X.env.scope x := by first | exact Or.inl rfl | exact Or.inr (Or.inl rfl) | exact Or.inr (Or.inr rfl)) (hd : (x == ("__debug__" : Str)) = false := by decide)
    (hcd : (x == ("__classdict__" : Str)) = false := by decide) : DS X F W (.Return (some (.Name x p)) pos) (Zee i) := by
  refine ⟨Zdl (ps_ret (pe_var hN hv hd hcd)) fun D σ H ⟨l, env, k, hl, q⟩ => ?_, fun env Q Q' m h => ?_⟩
  · unfold Zee at q
    split at q
    · rename_i d e
      obtain ⟨v, h1, h2⟩ := Za1 k.len e
      have c1 := k.c.dup (List.mem_append_right l (Zax h2))
      obtain ⟨u, rfl⟩ := c1.val
      exact ⟨u, h1, q u H (c1.sub (List.Sublist.cons_cons _ (List.sublist_append_left _ _)))⟩
    · rename_i d e
      obtain ⟨v, h1, h2⟩ := Za1 k.len e
      have c1 : C F ((.ow d, v) :: (l ++ (env.zip σ).eraseIdx i)) H := (k.c.perm (List.Perm.append_left l (Zci h2))).front
      obtain ⟨S, g, cc, _⟩ := id c1
      obtain ⟨a, ea, _⟩ := cc _ List.mem_cons_self
      subst ea
      exact ⟨.ref a, h1, q _ H (c1.sub (List.Sublist.cons_cons _ (List.sublist_append_left _ _)))⟩
    · rename_i d e
      obtain ⟨v, h1, h2⟩ := Za1 k.len e
      have c1 : C F ((.nd d, v) :: (l ++ (env.zip σ).eraseIdx i)) H := (k.c.perm (List.Perm.append_left l (Zci h2))).front
      obtain ⟨S, g, cc, _⟩ := id c1
      obtain ⟨a, ea, _⟩ := cc _ List.mem_cons_self
      subst ea
      exact ⟨.ref a, h1, q _ H (c1.sub (List.Sublist.cons_cons _ (List.sublist_append_left _ _)))⟩
    · exact q.elim
  · unfold Zee at h ⊢
    split at h
    · exact m _ h
    · exact m _ h
    · exact m _ h
    · exact h.elim
end
end DL
set_option Elab.async false
set_option linter.all false
set_option maxRecDepth 100000
set_option maxHeartbeats 4000000
namespace DL
open PySem PySem.Spec PyProof.Rows L2
section
variable {X : Cx} {F : Fr} {W : WX} {e e2 tg : Expr} {es : List Expr} {st : Stmt} {sts : List Stmt} {we we2 wc wk : WE} {wA : WA} {w w1 w2 : WS} {g : WG} {wi : WI} {pos p : Pos}
noncomputable def ItS (F : Fr) (J : It) (ds : List D) (gh : List Cell) : Prop := ∀ (l : List Cell) (H : Hp), C F (gh ++ l) H → ∀ i : Nat,
  (∀ d, ds[i]? = some d → J.go i H ∧ ∀ x H', J.yld i H x H' → C F ((.sh d, some x) :: (gh ++ l)) H') ∧ (ds.length ≤ i → J.stop i H)
noncomputable def LIp (F : Fr) (W : WX) (l : List Cell) (env : En) (σ : L2.St) (Rk : It → Hp → Prop) : R (List D) → Prop
  | .ok ds => ∀ J gh H', (∀ q ∈ gh, q.1.env) → ItS F J ds gh → C F (gh ++ (l ++ env.zip σ)) H' → Rk J H'
  | .ex c fs => ∀ A d H', F.mg c = some (.ref A) → XF H' d fs → C F (l ++ env.zip σ) H' → W (.ref A) d σ H'
noncomputable def LI (F : Fr) (W : WX) (w : WI) : TI := fun σ H Rk => ∃ l env, CE F l env σ H ∧ w env (LIp F W l env σ Rk)
structure DI (X : Cx) (F : Fr) (W : WX) (tg iter : Expr) (w : WI) : Prop where
  run : PI X tg iter (LI F W w)
  mono : Mono w
theorem Zjm {iter : Expr} {t t' : TI} (h : PI X tg iter t) (q : ∀ σ H R, t' σ H R → t σ H R) : PI X tg iter t' := ⟨fun pins s σ H R I z => h.run pins s σ H R I (q _ _ _ z)⟩
noncomputable def iSeq (K : PySem.W.Frag) (tl : TE) : TI := fun σ H Rk => tl σ H fun x H1 => (∃ a, x = .ref a ∧ (∃ xs, SqL K H1 a xs) ∧ Rk (Itl K a) H1) ∨ ∃ a, x = .ref a ∧ (∃ xs, SqT K H1 a xs) ∧ Rk (Itt K a) H1
theorem Zng {l : Expr} {tl : TE} (hl : PE X l tl) : PI X tg l (iSeq X.K tl) := by
  refine ⟨fun pins s σ H R I h => ?_⟩
  refine thn (hl.run pins s σ H _ I h) fun v s1 ⟨x, H1, I1, r1, q1⟩ => ?_
  rcases q1 with ⟨a, e, ⟨xs, hq⟩, q⟩ | ⟨a, e, ⟨xs, hq⟩, q⟩
  · subst e
    cases r1
    obtain ⟨its, rv, p, hz⟩ := I1.list hq
    refine wpAny_pyIter_list p.isList ?_
    refine ⟨s1.heap.objs.size, [s1.heap.objs.size], _, _, H1, rfl, I1.kept (t' := s1.toks) fun b o e => Heap.get?_push_of_some _ e, turn_list a _, ⟨_, Heap.get?_push_size _ rfl, rfl, rfl⟩, fun b hb => ?_, q⟩
    have e : b = s1.heap.objs.size := by simpa using hb
    subst e
    exact I1.fpOk (Nat.le_refl _) (I1.hok.fresh (Nat.le_refl _))
  · subst e
    cases r1
    obtain ⟨its, rv, p, hz⟩ := I1.tuple hq
    refine wpAny_pyIter_tuple (show s1.heap.IsTuple a its.toArray from p) ?_
    refine ⟨s1.heap.objs.size, [s1.heap.objs.size], _, _, H1, rfl, I1.kept (t' := s1.toks) fun b o e => Heap.get?_push_of_some _ e, turn_tuple a _, ⟨_, Heap.get?_push_size _ rfl, rfl, rfl⟩, fun b hb => ?_, q⟩
    have e : b = s1.heap.objs.size := by simpa using hb
    subst e
    exact I1.fpOk (Nat.le_refl _) (I1.hok.fresh (Nat.le_refl _))
noncomputable def Ze8 (k : List D → Prop) : Slot → Prop
  | .sh (.lst ds) => k ds
  | .sh (.tup ds) => k ds
  | .bo (.lst ds) => k ds
  | .ow (.lst ds) => k ds
  | .lk _ (.lst ds) => k ds
  | _ => False
noncomputable def Zkt (we : WE) : WI := fun env Q => we env (rk (Ze8 fun ds => Q (.ok ds)) Q)
theorem Zep {k k' : List D → Prop} (m : ∀ ds, k ds → k' ds) {x : Slot} (h : Ze8 k x) : Ze8 k' x := by
  unfold Ze8 at h ⊢
  split at h
  · exact m _ h
  · exact m _ h
  · exact m _ h
  · exact m _ h
  · exact m _ h
  · exact h.elim
theorem C.ghost {l : List Cell} {H : Hp} {x : Slot} {v : V} {k : List D → Prop} (c : C F ((x, some v) :: l) H) (h : Ze8 k x) : ∃ (ds : List D) (y : D × Slot), k ds ∧ ((x = .ow y.1 ∧ y.2 = Slot.sh y.1) ∨ (x = y.2)) ∧ y.2.still ∧ (y.2.dat = some (.lst ds) ∨ y.2.dat = some (.tup ds)) ∧ C F ((y.2, some v) :: l) H := by
  unfold Ze8 at h
  split at h
  · rename_i ds; exact ⟨ds, (.lst ds, .sh (.lst ds)), h, .inr rfl, trivial, .inl rfl, c⟩
  · rename_i ds; exact ⟨ds, (.tup ds, .sh (.tup ds)), h, .inr rfl, trivial, .inr rfl, c⟩
  · rename_i ds; exact ⟨ds, (.lst ds, .bo (.lst ds)), h, .inr rfl, trivial, .inl rfl, c⟩
  · rename_i ds; exact ⟨ds, (.lst ds, .sh (.lst ds)), h, .inl ⟨rfl, rfl⟩, trivial, .inl rfl, c.frz⟩
  · rename_i a ds; exact ⟨ds, (.lst ds, .lk a (.lst ds)), h, .inr rfl, trivial, .inl rfl, c⟩
  · exact h.elim
theorem Ze9 {x : Slot} (h : x.still) : x.env := by cases x <;> first | trivial | exact h.elim
theorem Zg2 {y : Slot} {v : Option V} (h : y.env) : ∀ q ∈ [(y, v)], (q : Cell).1.env := fun q hq => by
  have e : q = (y, v) := by simpa using hq
  subst e
  exact h
theorem Zoo {a : Addr} {ds : List D} {y : Slot} (hd : y.dat = some (.lst ds)) : ItS F (Itl F.K a) ds [(y, some (.ref a))] := by
  intro l H c i
  obtain ⟨a', vs, ea, hq, hl, S, g, r, cc, pw⟩ := C.seqL (l := l) c hd
  cases ea
  obtain ⟨_, _, _, pw'⟩ := id c
  refine ⟨fun d hd' => ?_, fun hi => ⟨vs, hq, by omega⟩⟩
  obtain ⟨u, hu, ru⟩ := r.get hd'
  refine ⟨⟨vs, u, hq, hu⟩, fun x H' ⟨e1, e2⟩ => ?_⟩
  subst e1
  have := e2 vs hq
  rw [hu] at this
  cases this
  exact C.beside g cc pw' ru
theorem Zoj {a : Addr} {ds : List D} {y : Slot} (hd : y.dat = some (.tup ds)) : ItS F (Itt F.K a) ds [(y, some (.ref a))] := by
  intro l H c i
  obtain ⟨a', vs, ea, hq, hl, S, g, r, cc, pw⟩ := C.seqT (l := l) c hd
  cases ea
  obtain ⟨_, _, _, pw'⟩ := id c
  refine ⟨fun d hd' => ?_, fun hi => ⟨vs, hq, by omega⟩⟩
  obtain ⟨u, hu, ru⟩ := r.get hd'
  refine ⟨⟨vs, u, hq, hu⟩, fun x H' ⟨e1, e2⟩ => ?_⟩
  subst e1
  have := e2 vs hq
  rw [hu] at this
  cases this
  exact C.beside g cc pw' ru
theorem Zmy (he : DE X F W e we) (hK : X.K = F.K := by rfl) : DI X F W tg e (Zkt we) := by
  refine ⟨Zjm (Zng he.run) fun σ H Rk ⟨l, env, k, q⟩ => ⟨l, env, k, Zbi he.mono q (fun x hx v H1 c1 => ?_) fun c fs z => z⟩, fun env Q Q' m h => Zaq he.mono (fun x hx => Zep (fun ds z => m _ z) hx) m h⟩
  obtain ⟨ds, y, hk, _, hs, hd, c2⟩ := C.ghost c1 hx
  rw [hK]
  rcases hd with hd | hd
  · obtain ⟨a, vs, ea, hq, hl, _⟩ := c2.seqL hd
    cases ea
    exact .inl ⟨a, rfl, ⟨vs, hq⟩, hk _ [(y.2, some (.ref a))] H1 (Zg2 (Ze9 hs)) (Zoo hd) c2⟩
  · obtain ⟨a, vs, ea, hq, hl, _⟩ := c2.seqT hd
    cases ea
    exact .inr ⟨a, rfl, ⟨vs, hq⟩, hk _ [(y.2, some (.ref a))] H1 (Zg2 (Ze9 hs)) (Zoj hd) c2⟩
noncomputable def Ze5 (lo : Int) (n : Nat) : List D := (List.range n).map fun (i : Nat) => D.int (lo + (i : Int))
noncomputable def Bd62 (i : Int) : Prop := -(2 ^ 62) ≤ i ∧ i < 2 ^ 62
noncomputable def Zj1 (k : Int → Prop) : List Slot → Prop
  | [.sh (.int j)] => k j
  | _ => False
noncomputable def Zi4 (wA : WA) : WI := fun env Q => wA env (rk (Zj1 fun j => Bd62 j ∧ Q (.ok (Ze5 0 j.toNat))) Q)
theorem Zok {lo : Int} {n : Nat} : ItS F (Itr lo n) (Ze5 lo n) [] := by
  intro l H c i
  refine ⟨fun d hd => ?_, fun hi => by
    have e : (Ze5 lo n).length = n := by simp [Ze5]
    show n ≤ i
    omega⟩
  unfold Ze5 at hd
  rw [List.getElem?_map] at hd
  obtain ⟨j, hj, rfl⟩ := Option.map_eq_some_iff.mp hd
  obtain ⟨h1, h2⟩ := List.getElem?_eq_some_iff.mp hj
  have hi : i < n := by simpa using h1
  have hj' : j = i := by rw [← h2]; simp
  subst hj'
  refine ⟨hi, fun x H' ⟨e1, e2⟩ => ?_⟩
  subst e1 e2
  exact c.int _
theorem Zfu {k k' : Int → Prop} (m : ∀ j, k j → k' j) {xs : List Slot} (h : Zj1 k xs) : Zj1 k' xs := by
  unfold Zj1 at h ⊢
  split at h
  · exact m _ h
  · exact h.elim
theorem Zgi (hm : X.mg "range" = none) (ha : DA X F W [e] wA) (hg : Gl X "range" := by rfl) (hs : starEach [e] X.env = [(false, eval e X.env)] := by rfl) : DI X F W tg (.Call (.Name "range" p) [e] [] pos) (Zi4 wA) := by
  refine ⟨Zjm (pi_range1 hg hm ha.run hs) fun σ H Rk ⟨l, env, k, q⟩ => ⟨l, env, k, Zdx ha.mono q (fun xs hx vs H1 hl c1 => ?_) fun c fs z => z⟩, fun env Q Q' m h => Zaq ha.mono (fun x hx => Zfu (fun j z => ⟨z.1, m _ z.2⟩) hx) m h⟩
  unfold Zj1 at hx
  split at hx
  · rename_i j
    match vs, hl with
    | [v], _ =>
      have e1 := C.shInt (l := l ++ env.zip σ) c1
      cases e1
      exact ⟨j, rfl, hx.1.1, hx.1.2, hx.2 _ [] H1 (fun _ h => by simp at h) Zok (C.tail c1)⟩
  · exact hx.elim
noncomputable def Zg9 (ds : List D) : List D := ds.zipIdx.map fun (d, i) => D.tup [.int (i : Int), d]
noncomputable def lst1 (k : List D → Prop) : List Slot → Prop
  | [.sh (.lst ds)] => k ds
  | [.bo (.lst ds)] => k ds
  | [.ow (.lst ds)] => k ds
  | [.lk _ (.lst ds)] => k ds
  | _ => False
theorem Zgx {k k' : List D → Prop} (m : ∀ j, k j → k' j) {xs : List Slot} (h : lst1 k xs) : lst1 k' xs := by
  unfold lst1 at h ⊢
  split at h
  · exact m _ h
  · exact m _ h
  · exact m _ h
  · exact m _ h
  · exact h.elim
noncomputable def Zju (wA : WA) : WI := fun env Q => wA env (rk (lst1 fun ds => Q (.ok (Zg9 ds))) Q)
theorem Zn2 {a : Addr} {ds : List D} {y : Slot} (hd : y.dat = some (.lst ds)) : ItS F (Ite F.K a) (Zg9 ds) [(y, some (.ref a))] := by
  intro l H c i
  obtain ⟨a', vs, ea, hq, hl, S, g, r, cc, pw⟩ := C.seqL (l := l) c hd
  cases ea
  obtain ⟨_, _, _, pw'⟩ := id c
  refine ⟨fun d hd' => ?_, fun hi => ⟨vs, hq, by
    have e : (Zg9 ds).length = ds.length := by simp [Zg9]
    omega⟩⟩
  unfold Zg9 at hd'
  rw [List.getElem?_map] at hd'
  obtain ⟨⟨d0, j⟩, hj, rfl⟩ := Option.map_eq_some_iff.mp hd'
  rw [List.getElem?_zipIdx] at hj
  obtain ⟨d1, h1, h2⟩ := Option.map_eq_some_iff.mp hj
  cases h2
  obtain ⟨u, hu, ru⟩ := r.get h1
  refine ⟨⟨vs, u, hq, hu⟩, fun x H' ⟨T, z, ex, hT, eH, hz⟩ => ?_⟩
  subst ex eH
  have := hz vs hq
  rw [hu] at this
  cases this
  refine C.newSh (c : C F ([(y, some (V.ref a))] ++ l) H) hT fun S' g' cc' => ?_
  have g2 : Same S' (upd S' T (.tup [.int (i : Int), u])) := Zao (g'.sh.free hT)
  have ru' : Rep F.K S' u d0 := by
    obtain ⟨S2, g3, c3, _⟩ := c
    have s := cc' _ (List.mem_cons_self : (y, some (V.ref a)) ∈ _)
    have : ∃ vs', Reps F.K S' vs' ds ∧ SqL F.K H a vs' := by
      cases y with
      | un => cases hd
      | sh d => cases hd; obtain ⟨w, ew, rw⟩ := s; cases ew; cases rw with
        | lst hq2 r2 => exact ⟨_, r2, Zdk g'.sh hq2⟩
      | ow d => cases hd; obtain ⟨b, eb, _, _, vs', e2, r2⟩ := s; cases eb; exact ⟨vs', r2, SqL.of e2⟩
      | bo d => cases hd; obtain ⟨b, eb, _, vs', e2, r2⟩ := s; cases eb; exact ⟨vs', r2, SqL.of e2⟩
      | bt d => cases hd; obtain ⟨b, eb, vs', e2, r2⟩ := s; cases eb; exact ⟨vs', r2, SqL.of e2⟩
      | lk b d => cases hd; obtain ⟨eb, _, _, vs', e2, r2⟩ := s; cases eb; exact ⟨vs', r2, SqL.of e2⟩
      | lo b _ d => cases hd
      | lt b _ d => cases hd
      | nd d => cases hd
      | nb d => cases hd
      | ln _ _ => cases hd
      | xc _ => cases hd
      | xe _ _ _ => cases hd
      | na _ _ => cases hd
      | rt _ _ => cases hd
    obtain ⟨vs', r2, hq2⟩ := this
    obtain ⟨u', hu', ru'⟩ := r2.get h1
    have := hz vs' hq2
    rw [hu'] at this
    cases this
    exact ru'
  rw [Nat.zero_add]
  exact .tup upd_same (.cons .int (.cons (ru'.mono g2) .nil))
theorem Zie {xs : List Slot} {k : List D → Prop} {vs : List V} {l : List Cell} {H : Hp} (hx : lst1 k xs) (hl : vs.length = xs.length) (c : C F (xs.zip (vs.map some) ++ l) H) : ∃ a ds y, vs = [.ref a] ∧ k ds ∧ y.still ∧ y.dat = some (.lst ds) ∧ C F ((y, some (.ref a)) :: l) H ∧ ∃ us, SqL F.K H a us := by
  have fin : ∀ {y : Slot} {v : V} {ds : List D}, y.still → y.dat = some (.lst ds) → k ds → C F ((y, some v) :: l) H → vs = [v] → ∃ a ds y, vs = [.ref a] ∧ k ds ∧ y.still ∧ y.dat = some (.lst ds) ∧ C F ((y, some (.ref a)) :: l) H ∧ ∃ us, SqL F.K H a us := by
    intro y v ds hs hd hk c e
    obtain ⟨a, us, ea, hq, _⟩ := c.seqL hd
    cases ea
    exact ⟨a, ds, y, e, hk, hs, hd, c, us, hq⟩
  unfold lst1 at hx
  split at hx
  · match vs, hl with
    | [v], _ => exact fin (y := .sh _) trivial rfl hx c rfl
  · match vs, hl with
    | [v], _ => exact fin (y := .bo _) trivial rfl hx c rfl
  · match vs, hl with
    | [v], _ => exact fin (y := .sh _) trivial rfl hx (C.frz c) rfl
  · match vs, hl with
    | [v], _ => exact fin (y := .lk _ _) trivial rfl hx c rfl
  · exact hx.elim
theorem Zit {elts : List Expr} {kk : Nat} {tpos : Pos} (hm : X.mg "enumerate" = none) (ha : DA X F W [e] wA) (hg : Gl X "enumerate" := by rfl) (hs : starEach [e] X.env = [(false, eval e X.env)] := by rfl) (hK : X.K = F.K := by rfl) :
    DI X F W (.Tuple elts kk tpos) (.Call (.Name "enumerate" p) [e] [] pos) (Zju wA) := by
  refine ⟨Zjm (pi_enum hg hm ha.run hs) fun σ H Rk ⟨l, env, k, q⟩ => ⟨l, env, k, Zdx ha.mono q (fun xs hx vs H1 hl c1 => ?_) fun c fs z => z⟩, fun env Q Q' m h => Zaq ha.mono (fun x hx => Zgx (fun j z => m _ z) hx) m h⟩
  obtain ⟨a, ds, y, ev, hk, hst, hd, c2, us, hq⟩ := Zie hx hl c1
  rw [hK]
  exact ⟨a, us, ev, hq, hk _ [(y, some (.ref a))] H1 (Zg2 (Ze9 hst)) (Zn2 hd) c2⟩
noncomputable def Zef (g : WG) (body : WS) : List D → En → (O → Prop) → Prop
  | [], env, Q => Q (.nx env)
  | d :: ds, env, Q => g (.sh d) env fun e1 => body e1 fun o => match o with
    | .nx e => Zef g body ds e Q
    | .ct e => Zef g body ds e Q
    | .bk e => Q (.nx e)
    | .ret x => Q (.ret x)
    | .ex c fs e => Q (.ex c fs e)
noncomputable def wFor (g : WG) (wi : WI) (body : WS) : WS := fun env Q => wi env (rks (fun ds => Zef g body ds env Q) Q env)
theorem Zdu (hg : Zfw g) (hb : Za5 w) : ∀ (ds : List D) (env : En) (Q Q' : O → Prop), (∀ r, Q r → Q' r) → Zef g w ds env Q → Zef g w ds env Q'
  | [], env, Q, Q', m, h => m _ h
  | d :: ds, env, Q, Q', m, h => hg _ _ _ _ (fun e z => hb _ _ _ (fun o z => match o, z with
    | .nx e, z => Zdu hg hb ds e Q Q' m z
    | .ct e, z => Zdu hg hb ds e Q Q' m z
    | .bk e, z => m _ z
    | .ret x, z => m _ z
    | .ex c fs e, z => m _ z) z) h
theorem Zoa {iter : Expr} {l : List Cell} {env : En} {σ : L2.St} {H : Hp} {Dn : Ends} {k : List D → Prop} {Rk : It → Hp → Prop} (hi : DI X F W tg iter wi) (ce : CE F l env σ H) (h : wi env (rks k (LSp F W l Dn) env))
    (h1 : ∀ ds, k ds → ∀ J gh H', (∀ q ∈ gh, q.1.env) → ItS F J ds gh → C F (gh ++ (l ++ env.zip σ)) H' → Rk J H') : LI F W wi σ H Rk :=
  ⟨l, env, ce, hi.mono env _ _ (fun r z => match r, z with
    | .ok x, z => h1 x z
    | .ex c fs, z => fun A d H' hA hx c2 => z A d σ H' hA hx ⟨ce.len, ce.ok, c2⟩) h⟩
theorem Zhd {gh l : List Cell} {env : En} {σ : L2.St} {H : Hp} (k : CE F (gh ++ l) env σ H) : CE F l env σ H := ⟨k.len, k.ok, (by have := k.c; rw [List.append_assoc] at this; exact this.right)⟩
theorem Zh8 {iter : Expr} {body : List Stmt} (hp : PassesOwn (model X.prog X.w) X.A X.env X.xe) (hc : X.calm = true) (hi : DI X F W tg iter wi) (hg : DG X F tg g) (hb : DSs X F W body w)
    (hs : ∀ x, foldedSetIterable iter X.env x = pure x := by intro _; rfl) : DS X F W (.For tg iter body [] pos) (wFor g wi w) := by
  refine ⟨Zdl (ps_for hp hc hi.run hg.run hb.run hs) fun Dn σ H ⟨l, env, k, hl, q⟩ => Zoa hi k q fun ds hds J gh H1 hgh its c1 => ?_, fun env Q Q' m h => Zby hi.mono (fun ds z => Zdu hg.mono hb.mono ds env Q Q' m z) m h⟩
  refine ⟨fun i m σ H => m = ds.length - i ∧ i ≤ ds.length ∧ ∃ env, CE F (gh ++ l) env σ H ∧ Zef g w (ds.drop i) env (LSp F W l Dn), ⟨ds.length, by simp, Nat.zero_le _, env, ⟨k.len, k.ok, by rw [List.append_assoc]; exact c1⟩, by simpa using hds⟩, ?_⟩
  rintro i m σ2 H2 ⟨rfl, hi2, env2, k2, q2⟩
  have c2 : C F (gh ++ (l ++ env2.zip σ2)) H2 := by rw [← List.append_assoc]; exact k2.c
  by_cases hlt : i < ds.length
  · have e1 : ds[i]? = some ds[i] := List.getElem?_eq_getElem hlt
    obtain ⟨go, yl⟩ := (its _ _ c2 i).1 _ e1
    have ed : ds.drop i = ds[i] :: ds.drop (i + 1) := List.drop_eq_getElem_cons hlt
    rw [ed] at q2
    refine .inr ⟨go, fun σ' H' => ∃ env', CE F (gh ++ l) env' σ' H' ∧ Zef g w (ds.drop (i + 1)) env' (LSp F W l Dn), fun σ' H' ⟨env', k', q'⟩ => ⟨ds.length - (i + 1), by omega, rfl, hlt, env', k', q'⟩, fun x H' hy => ?_⟩
    refine ⟨gh ++ l, env2, .sh ds[i], k2.len, k2.ok, ?_, hg.mono _ _ _ _ (fun e1 z σ3 H3 k3 => ?_) q2⟩
    · have := yl x H' hy
      rw [← List.append_assoc] at this
      exact this
    · refine ⟨gh ++ l, e1, k3, fun q hq => (List.mem_append.mp hq).elim (hgh q) (hl q), hb.mono _ _ _ (fun o z => ?_) z⟩
      cases o with
      | nx e => exact fun σ' H' k' => ⟨e, k', z⟩
      | ct e => exact fun σ' H' k' => ⟨e, k', z⟩
      | bk e => exact fun σ' H' k' => z σ' H' (Zhd k')
      | ret x => exact fun v H' c3 => z v H' (by
          exact c3.sub (List.Sublist.append (List.Sublist.refl _) (List.sublist_append_right _ _)))
      | ex c fs e => exact fun A d σ' H' hA hx k' => z A d σ' H' hA hx (Zhd k')
  · have e : i = ds.length := by omega
    subst e
    rw [List.drop_length] at q2
    exact .inl ⟨(its _ _ c2 _).2 (Nat.le_refl _), q2 σ2 H2 (Zhd k2)⟩
theorem CE.own {l : List Cell} {env : En} {σ : L2.St} {H : Hp} {i : Nat} {d : D} (k : CE F l env σ H) (h : env[i]? = some (.ow d)) (hl : ∀ q ∈ l, q.1.env) :
    ∃ a, σ[i]? = some (some (.ref a)) ∧ i < env.length ∧ C F ((.ow d, some (.ref a)) :: (l ++ (env.zip σ).eraseIdx i)) H ∧ (∀ q ∈ l ++ (env.zip σ).eraseIdx i, q.1.env) := by
  obtain ⟨v, h1, h2⟩ := Za1 k.len h
  have c1 : C F ((.ow d, v) :: (l ++ (env.zip σ).eraseIdx i)) H := (k.c.perm (List.Perm.append_left l (Zci h2))).front
  obtain ⟨S, g, cc, _⟩ := id c1
  obtain ⟨a, ea, _⟩ := cc _ List.mem_cons_self
  subst ea
  exact ⟨a, h1, (List.getElem?_eq_some_iff.mp h).1, c1, fun q hq => (List.mem_append.mp hq).elim (hl q) fun hq => k.ok _ (List.of_mem_zip (Zgg hq)).1⟩
theorem CE.ownSet {l : List Cell} {env : En} {σ : L2.St} {H H' : Hp} {i : Nat} {d d' : D} {a : Addr} (k : CE F l env σ H) (h : env[i]? = some (.ow d)) (hs : σ[i]? = some (some (.ref a)))
    (c : C F ((.ow d', some (.ref a)) :: (l ++ (env.zip σ).eraseIdx i)) H') : CE F l (env.set i (.ow d')) σ H' := by
  obtain ⟨v, h1, h2⟩ := Za1 k.len h
  refine ⟨by simp [k.len], fun y hy => ?_, ?_⟩
  · rcases List.mem_or_eq_of_mem_set hy with hy | rfl
    · exact k.ok y hy
    · trivial
  · have e : σ = σ.set i (some (.ref a)) := by
      apply List.ext_getElem?
      intro j
      rw [List.getElem?_set]
      split
      · subst_vars
        split
        · rw [hs]
        · rename_i hlt
          rw [List.getElem?_eq_none (by omega)]
      · rfl
    rw [e, Zd5]
    rw [e] at h2
    rw [e] at c
    have e3 : (env.zip (σ.set i (some (V.ref a)))).eraseIdx i = (env.zip σ).eraseIdx i := by rw [← e]
    have p2 := Zei (y := ((Slot.ow d'), some (V.ref a))) (l := env.zip σ) (i := i) (by rw [← e] at h2; exact h2)
    rw [e3] at c
    exact c.back.perm (List.Perm.append_left l p2.symm)
theorem CE.slot {l : List Cell} {env : En} {σ : L2.St} {H : Hp} {i : Nat} {x : Slot} (k : CE F l env σ H) (h : env[i]? = some x) : ∃ v, σ[i]? = some v ∧ (x, v) ∈ l ++ env.zip σ := by
  obtain ⟨v, h1, h2⟩ := Za1 k.len h
  exact ⟨v, h1, List.mem_append_right _ (Zax h2)⟩
noncomputable def wApp (i : Nat) (we : WE) : WS := fun env Q => match env[i]? with
  | some (.ow (.lst ds)) => we env (rks (fun y => match y.stab with
    | some d => ds.length < 16777216 ∧ Q (.nx (env.set i (.ow (.lst (ds ++ [d])))))
    | none => False) Q env)
  | _ => False
theorem Zgs (i : Nat) {x : Str} {p2 apos cpos : Pos} (he : DE X F W e we) (hN : X.N[i]? = some x := by rfl) (hv : Vis X.env.scope x := by first | exact Or.inl rfl | exact Or.inr (Or.inl rfl) | exact Or.inr (Or.inr rfl)) (hd : (x == ("__debug__" : Str)) = false := by decide)
    (hcd : (x == ("__classdict__" : Str)) = false := by decide) (hs : starEach (e :: []) X.env = (false, eval e X.env) :: starEach [] X.env := by rfl)
    (hpe : ∀ {te : TE}, PE X e te → PE X (.Call (.Attribute (.Name x p2) "append" apos) [e] [] cpos) (tBM X.K "list" rAppend (tVar i) (tCons te tNil)))
    (hsw : swapsWith (.Call (.Attribute (.Name x p2) "append" apos) [e] [] cpos) none pos.line X.env = pure false := by rfl) (hK : X.K = F.K := by rfl) :
    DS X F W (.Expr (.Call (.Attribute (.Name x p2) "append" apos) [e] [] cpos) pos) (wApp i we) := by
  refine ⟨Zdl (ps_expr (hpe he.run) hsw) fun Dn σ H ⟨l, env, k, hl, q⟩ => ?_, fun env Q Q' m h => ?_⟩
  · unfold wApp at q
    split at q
    · rename_i ds en
      obtain ⟨a, hs1, hi, c1, nb⟩ := k.own en hl
      obtain ⟨S, g, rc, cc, up⟩ := c1.mut nb
      obtain ⟨vs, ev, rr⟩ := rc
      refine ⟨.ref a, hs1, .inl ⟨rfl, vs, by rw [hK]; exact SqL.of ev⟩, Zkd he k q fun y hy v H1 c2 => ?_⟩
      split at hy
      · rename_i d ed
        have c3 := c2.stab ed
        have k3 : CE F [] env σ H1 := ⟨k.len, k.ok, c3.tail.right⟩
        have k1 : CE F l env σ H1 := k.at c3.tail
        obtain ⟨a2, hs2, _, c4, nb4⟩ := (⟨k.len, k.ok, c3⟩ : CE F ((.sh d, some v) :: l) env σ H1).own en (fun q hq => by
          rcases List.mem_cons.mp hq with rfl | hq
          · trivial
          · exact hl q hq)
        rw [hs1] at hs2; cases hs2
        obtain ⟨S2, g2, rc2, cc2, up2⟩ := c4.mut nb4
        obtain ⟨vs2, ev2, rr2⟩ := rc2
        obtain ⟨w, ew, rw⟩ := cc2 (Slot.sh d, some v) (by simp)
        cases ew
        refine ⟨a, vs2, v, rfl, rfl, ev2, by rw [rr2.len, sizeLine_eq]; exact hy.1, hy.2 σ _ ?_⟩
        have c5 := up2 (.lst (vs2 ++ [v])) (.lst (ds ++ [d])) ⟨_, rfl, rr2.app (.cons rw .nil)⟩
        exact k1.ownSet en hs1 (c5.sub (List.Sublist.cons_cons _ (List.sublist_cons_self _ _)))
      · exact hy.elim
    · exact q.elim
  · unfold wApp at h ⊢
    split at h
    · exact Zby he.mono (fun y hy => by
        split at hy
        · exact ⟨hy.1, m _ hy.2⟩
        · exact hy.elim) m h
    · exact h.elim
end
end DL
set_option Elab.async false
set_option linter.all false
set_option maxRecDepth 100000
set_option maxHeartbeats 4000000
namespace DL
open PySem PySem.Spec PyProof.Rows L2
section
variable {X : Cx} {F : Fr} {W : WX} {e e2 tg : Expr} {es : List Expr} {we we2 wc wt : WE} {wi : WI} {pos p : Pos}
theorem Zn4 {x : Str} {id : String} {r : List V → Hp → VK → Prop} {o : O1} (hc : CallR X (.builtin id) r) (sn : Zkr F (fun x H Q => r [x] H Q) o) (om : Zdn o) (hm : X.mg x = none) (hv : bootBuiltins x = some (.builtin id)) (he : DE X F W e we)
    (hg : Gl X x := by rfl) (hn : x ≠ "__name__" := by decide) (hdb : (x == ("__debug__" : Str)) = false := by decide) (hs : starEach (e :: []) X.env = (false, eval e X.env) :: starEach [] X.env := by rfl)
    (hpl : (backTo pos (starEach [] X.env)).any (·.1) = false := by rfl) : DE X F W (.Call (.Name x p) [e] [] pos) (wUn o we) :=
  ⟨Zbd (pe_callB hc hg hm hv (pa_cons he.run pa_nil hs) hn hdb hs hpl) fun σ H Q h => Znm sn he h, Zak he.mono om⟩
noncomputable def Zml : D → Option Int
  | .lst ds => some (ds.length : Int)
  | .tup ds => some (ds.length : Int)
  | .str s => if s.length ≤ 16777216 then some (s.length : Int) else none
  | .dk kds => some (kds.length : Int)
  | .dt kds => some (kds.length : Int)
  | _ => none
noncomputable def oLen : O1 := fun x k => match x.dat with
  | some d => (match Zml d with | some n => k (.sh (.int n)) | none => False)
  | none => False
theorem Zgk : Zdn oLen := fun x k k' m h => by
  unfold oLen at h ⊢
  split at h
  · split at h
    · exact m _ h
    · exact h.elim
  · exact h.elim
noncomputable def Zlv (K : PySem.W.Frag) : List V → Hp → VK → Prop := fun xs H Q => (((∃ p ys, xs = [.ref p] ∧ (SqL K H p ys ∨ SqT K H p ys) ∧ Q (.int ys.length) H) ∨ (∃ z, xs = [.str z] ∧ z.length ≤ sizeLine ∧ Q (.int z.length) H)) ∨ (∃ p kvs, xs = [V.ref p] ∧ Rd H p (.dK kvs) ∧ Q (.int (kvs.length : Int)) H)) ∨ rLenT xs H Q
theorem Zix : CallR X (.builtin "len") (Zlv X.K) := by
  refine ((call_len_seq.or call_len_str).or ?_).or call_len_dT
  intro pins s σ H xs us Q I r h
  obtain ⟨a, kvs, rfl, ha, q⟩ := h
  obtain ⟨u, rfl, ru⟩ := vals1 r
  cases ru
  exact d_len I ha fun t s' I' => ⟨.int kvs.length, H, I', ⟨t, rfl⟩, q⟩
theorem Zmg : Zkr F (fun x H Q => Zlv F.K [x] H Q) oLen := fun l H x vx ks Q hc ho hq => by
  unfold oLen at ho
  split at ho
  · rename_i d hd
    cases d with
    | lst ds =>
      obtain ⟨a, vs, ea, hl, hlen, _⟩ := hc.seqL hd
      cases ea
      exact .inl (.inl (.inl ⟨a, vs, rfl, .inl hl, by rw [hlen]; exact hq _ _ H ho (hc.tail.int _)⟩))
    | tup ds =>
      obtain ⟨a, vs, ea, hl, hlen, _⟩ := hc.seqT hd
      cases ea
      exact .inl (.inl (.inl ⟨a, vs, rfl, .inr hl, by rw [hlen]; exact hq _ _ H ho (hc.tail.int _)⟩))
    | str s =>
      obtain ⟨S, r⟩ := hc.repOf hd fun _ _ _ z => z
      cases r
      unfold Zml at ho
      by_cases h : s.length ≤ 16777216
      · simp only [h, if_true] at ho
        exact .inl (.inl (.inr ⟨s, rfl, by rw [sizeLine_eq]; exact h, hq _ _ H ho (hc.tail.int _)⟩))
      · simp only [h, if_false] at ho
    | dk kds =>
      obtain ⟨a, kvs, ea, hr, hk, _⟩ := hc.dictK hd
      cases ea
      have hlen : kvs.length = kds.length := by simpa using congrArg List.length hk
      exact .inl (.inr ⟨a, kvs, rfl, hr, by rw [hlen]; exact hq _ _ H ho (hc.tail.int _)⟩)
    | dt kds =>
      obtain ⟨a, kvs, ea, hr, hk, _⟩ := hc.dictT hd
      cases ea
      have hlen : kvs.length = kds.length := by simpa using congrArg List.length hk
      exact .inr ⟨a, kvs, rfl, hr, by rw [hlen]; exact hq _ _ H ho (hc.tail.int _)⟩
    | _ => exact ho.elim
  · exact ho.elim
theorem Zni (hm : X.mg "len" = none) (he : DE X F W e we) (hg : Gl X "len" := by rfl) (hs : starEach (e :: []) X.env = (false, eval e X.env) :: starEach [] X.env := by rfl) (hpl : (backTo pos (starEach [] X.env)).any (·.1) = false := by rfl) (hK : X.K = F.K := by rfl) : DE X F W (.Call (.Name "len" p) [e] [] pos) (wUn oLen we) :=
  Zn4 (r := Zlv F.K) (by rw [← hK]; exact Zix) Zmg Zgk hm PySem.boot_len he hg (by decide) (by decide) hs hpl
theorem C.newFrom {l : List Cell} {H : Hp} {a : Addr} {vs : List V} {ds : List D} {S : Hp} (g : GS F S H) (cc : ∀ q ∈ l, SC F S H q) (pw : l.Pairwise (Za4 H)) (r : Reps F.K S vs ds) (ha : H a = none) : C F ((.ow (.lst ds), some (.ref a)) :: l) (upd H a (.lst vs)) := by
  have hS : S a = none := g.sh.free ha
  refine ⟨S, ⟨g.s0, g.sh.trans (Zao ha), g.h0.trans (Zao ha), g.fr⟩, fun q hq => ?_, List.pairwise_cons.mpr ⟨fun q hq => ?_, Zd4 pw cc (Zao ha)⟩⟩
  · rcases List.mem_cons.mp hq with rfl | hq
    · exact ⟨a, rfl, g.h0.free ha, hS, by rw [upd_same]; exact ⟨vs, rfl, r⟩⟩
    · exact (cc q hq).grow (Same.refl S) (Zao ha) fun b hb => .inl hb
  · have ap := Zgj (d := .lst ds) ha (cc q hq)
    unfold Za4 Dj at ap ⊢
    rw [Zdz (cc q hq) (Zao ha)]
    exact ap
noncomputable def tyD : D → String
  | .non => "NoneType"
  | .bl _ => "bool"
  | .int _ => "int"
  | .str _ => "str"
  | .tup _ => "tuple"
  | .lst _ => "list"
  | .dk _ => "dict"
  | .dt _ => "dict"
  | .obj _ _ _ => "dict"
  | .own _ => "dict"
  | .rf _ => "dict"
  | .fn _ => "dict"
  | .exc _ _ => "dict"
  | .lso _ => "dict"
noncomputable def D.noObj : D → Bool
  | .obj _ _ _ => false
  | .own _ => false
  | .rf _ => false
  | .fn _ => false
  | .exc _ _ => false
  | .lso _ => false
  | _ => true
noncomputable def isD (d : D) (T : String) : Bool := (tyD d == T) || (tyD d == "bool" && T == "int")
noncomputable def oIsi (T : String) : O1 := fun x k => match x.dat with
  | some d => d.noObj = true ∧ k (.sh (.bl (isD d T)))
  | none => False
theorem C.ty {l : List Cell} {H : Hp} {x : Slot} {v : V} {d : D} (h : C F ((x, some v) :: l) H) (hx : x.dat = some d) (hn : d.noObj = true) : TyX F.K H v (.type (tyD d)) := by
  obtain ⟨S, g, cc, _⟩ := h
  have s := cc _ List.mem_cons_self
  have one : ∀ {d : D} {a : Addr}, RC F.K S (H a) d → TyX F.K H (.ref a) (.type (tyD d)) := fun {d a} r => by
    cases d with
    | lst ds => obtain ⟨vs, e2, r⟩ := r; exact .base (.lst e2)
    | dk kds => obtain ⟨kvs, e2, _⟩ := r; exact .base (.dK e2)
    | dt kds => obtain ⟨kvs, e2, _⟩ := r; exact .base (.dT e2)
    | _ => exact r.elim
  cases x with
  | un => cases hx
  | sh d' =>
    cases hx
    obtain ⟨u, e, r⟩ := s
    cases e
    cases r with
    | non => exact .base .non
    | bl => exact .base (.bl _)
    | int => exact .base (.int _)
    | str => exact .base (.str _)
    | tup hq _ => exact .base (.tup (g.sh _ _ hq))
    | lst hq _ =>
      rcases hq with hq | ⟨o, its, n, hk, hc, _⟩
      · rcases hq with hq | ⟨o, hq⟩
        · exact .base (.lst (g.sh _ _ hq))
        · exact .base (.frz (g.sh _ _ hq))
      · exact .kList hk hc
    | dk hq _ _ =>
      rcases hq with hq | ⟨o, hq⟩
      · exact .base (.dK (g.sh _ _ hq))
      · exact .fDict (g.sh _ _ hq)
    | dt hq _ _ => exact .base (.dT (g.sh _ _ hq))
    | obj _ _ _ _ => cases hn
    | rf => cases hn
    | fn _ => cases hn
    | exc _ _ => cases hn
  | ow d' => cases hx; obtain ⟨a, e, _, _, r⟩ := s; cases e; exact one r
  | bo d' => cases hx; obtain ⟨a, e, _, r⟩ := s; cases e; exact one r
  | bt d' => cases hx; obtain ⟨a, e, r⟩ := s; cases e; exact one r
  | lk a d' => cases hx; obtain ⟨e, _, _, r⟩ := s; cases e; exact one r
  | lo a d' => cases hx; obtain ⟨e, _, _, eu, od, kvs, e3, k, r⟩ := s; have e2 := eu.trans e3; cases e; exact .fDict e2
  | lt _ _ _ => cases hx
  | nd d' => cases hx
  | nb d' => cases hx
  | ln _ _ => cases hx
  | xc _ => cases hx
  | xe _ _ _ => cases hx
  | na _ _ => cases hx
  | rt _ _ => cases hx
noncomputable def Zjh (T : String) : Prop := ∀ t ∈ ["NoneType", "bool", "int", "str", "tuple", "list", "dict"], kitB t T = some ((t == T) || (t == "bool" && T == "int"))
theorem Zl4 (d : D) : tyD d ∈ ["NoneType", "bool", "int", "str", "tuple", "list", "dict"] := by cases d <;> simp [tyD]
theorem Zk7 {T : Str} {U : String} {tp : Pos} (hm : X.mg "isinstance" = none) (hT : X.mg T = none) (hv : bootBuiltins T = some (.type U)) (kit : Zjh U) (he : DE X F W e we) (hcl : ClsV (.ty U) (.type U)) (hg : Gl X "isinstance" := by rfl) (hgT : Gl X T := by rfl) (hn : T ≠ "__name__" := by decide) (hdT : (T == ("__debug__" : Str)) = false := by decide)
    (hs : starEach (e :: [.Name T tp]) X.env = (false, eval e X.env) :: starEach [.Name T tp] X.env := by rfl) (hpl : (backTo pos (starEach [.Name T tp] X.env)).any (·.1) = false := by rfl) (hK : X.K = F.K := by rfl) :
    DE X F W (.Call (.Name "isinstance" p) [e, .Name T tp] [] pos) (wUn (oIsi U) we) := by
  refine ⟨Zbd (pe_callB (r := rIsi X.K) call_isi hg hm (by decide +kernel) (pa_cons he.run (pa_cons (pe_bltn (v := .ty U) hgT hT hv rfl hn hdT) pa_nil) hs) (by decide) (by decide) hs hpl) fun σ H Q ⟨l, env, k, q⟩ => ?_, Zak he.mono fun x k k' m h => ?_⟩
  · refine ⟨l, env, k, Zbi he.mono q (fun x hx v H1 c1 => ?_) fun c fs z => z⟩
    unfold oIsi at hx
    split at hx
    · rename_i d hd
      refine ⟨v, .ty U, .type (tyD d), .type U, isD d U, rfl, hcl, by rw [hK]; exact c1.ty hd hx.1, kit_ty (kit _ (Zl4 d)), hx.2 _ H1 (c1.tail.bl _)⟩
    · exact hx.elim
  · unfold oIsi at h ⊢
    split at h
    · exact ⟨h.1, m _ h.2⟩
    · exact h.elim
noncomputable abbrev WO := En → (R (Option Int) → Prop) → Prop
noncomputable def LOp (F : Fr) (W : WX) (l : List Cell) (env : En) (σ : L2.St) (Q : Option Int → Hp → Prop) : R (Option Int) → Prop
  | .ok o => ∀ H', C F (l ++ env.zip σ) H' → Q o H'
  | .ex c fs => ∀ A d H', F.mg c = some (.ref A) → XF H' d fs → C F (l ++ env.zip σ) H' → W (.ref A) d σ H'
noncomputable def LO (F : Fr) (W : WX) (w : WO) : TO := fun σ H Q => ∃ l env, CE F l env σ H ∧ w env (LOp F W l env σ Q)
structure DO (X : Cx) (F : Fr) (W : WX) (e : Option Expr) (w : WO) : Prop where
  run : PO X e (LO F W w)
  mono : Mono w
end
end DL
set_option Elab.async false
set_option linter.all false
set_option maxRecDepth 100000
set_option maxHeartbeats 4000000
namespace DL
open PySem PySem.Spec PyProof.Rows L2
theorem C.revalue {F : Fr} {H : Hp} : ∀ {l1 l2 : List Cell} {a : List Cell}, l1.length = l2.length → (∀ (i : Nat) p q, l1[i]? = some p → l2[i]? = some q → p = q ∨ q.1 = .un) → C F (a ++ l1) H → C F (a ++ l2) H
  | [], [], a, _, _, h => h
  | [], _ :: _, _, h, _, _ => by simp at h
  | _ :: _, [], _, h, _, _ => by simp at h
  | p :: l1, q :: l2, a, hl, hr, h => by
    have h1 : C F ((a ++ [q]) ++ l1) H := by
      rcases hr 0 p q rfl rfl with rfl | e
      · rw [List.append_assoc]; exact h
      · have h2 : C F (a ++ l1) H := h.front.tail
        have h3 : C F ((.un, q.2) :: (a ++ l1)) H := h2.un _
        rw [List.append_assoc]
        have : q = (.un, q.2) := by rw [← e]
        rw [this]
        exact h3.back
    have h2 := C.revalue (l1 := l1) (l2 := l2) (a := a ++ [q]) (by simpa using hl) (fun i p' q' e1 e2 => hr (i + 1) p' q' (by simpa using e1) (by simpa using e2)) h1
    rw [List.append_assoc] at h2
    exact h2
section
variable {X : Cx} {F : Fr} {W : WX} {e e2 tg : Expr} {es : List Expr} {st : Stmt} {we we2 wc wt : WE} {wi : WI} {w : WS} {pos p : Pos}
theorem CE.un {l : List Cell} {env : En} {σ : L2.St} {H : Hp} (k : CE F l env σ H) (i : Nat) (v : Option V) : CE F l (env.set i .un) (σ.set i v) H := by
  refine ⟨by simp [k.len], fun y hy => ?_, ?_⟩
  · rcases List.mem_or_eq_of_mem_set hy with hy | rfl
    · exact k.ok y hy
    · trivial
  · rw [Zd5]
    refine C.revalue (l1 := env.zip σ) (by simp) (fun j p q h1 h2 => ?_) k.c
    rw [List.getElem?_set] at h2
    split at h2
    · split at h2
      · cases h2; exact .inr rfl
      · cases h2
    · rw [h1] at h2; cases h2; exact .inl rfl
theorem Zf7 {α : Type} {l : List α} {i : Nat} {x : α} (h : l[i]? = some x) : l.set i x = l := by
  apply List.ext_getElem?
  intro j
  rw [List.getElem?_set]
  split
  · subst_vars
    split
    · rw [h]
    · rename_i hlt
      rw [List.getElem?_eq_none (by omega)]
  · rfl
noncomputable def wFgt (i : Nat) (w : WS) : WS := fun env Q => w (env.set i .un) Q
theorem Zm8 (i : Nat) (h : DS X F W st w) : DS X F W st (wFgt i w) := ⟨Zdl h.run fun D σ H ⟨l, env, k, hl, q⟩ => ⟨l, env.set i .un, by
    by_cases hi : i < σ.length
    · have e : σ.set i σ[i] = σ := Zf7 (List.getElem?_eq_getElem hi)
      have := k.un i σ[i]
      rw [e] at this
      exact this
    · have e : env.set i .un = env := List.set_eq_of_length_le (by rw [k.len]; omega)
      rw [e]; exact k, hl, q⟩, fun env Q Q' m q => h.mono _ _ _ m q⟩
noncomputable def rk0 {α : Type} (k : α → Prop) : R α → Prop
  | .ok x => k x
  | .ex _ _ => False
noncomputable def W0 : WX := fun _ _ _ _ => False
noncomputable def lcL (i : Nat) (wt we : WE) : List D → En → List D → (List D → Prop) → Prop
  | [], _, acc, k => k acc
  | d :: ds, env, acc, k => wt (env.set i (.sh d)) (rk0 (asB fun b => match b with
    | true => we (env.set i (.sh d)) (rk0 fun y => match y.stab with
      | some z => acc.length < 16777216 ∧ lcL i wt we ds env (acc ++ [z]) k
      | none => False)
    | false => lcL i wt we ds env acc k))
noncomputable def unAt (env : En) (i : Nat) : Prop := match env[i]? with
  | some .un => True
  | _ => False
noncomputable def wLc (i : Nat) (wi : WI) (wt we : WE) : WE := fun env Q => unAt env i ∧ wi env (rk (fun ds => lcL i wt we ds env [] fun acc => Q (.ok (.ow (.lst acc)))) Q)
theorem Zh1 {α : Type} {w : En → (R α → Prop) → Prop} (m : Mono w) {k k' : α → Prop} {env : En} (hk : ∀ x, k x → k' x) (h : w env (rk0 k)) : w env (rk0 k') :=
  m env _ _ (fun r q => match r, q with
    | .ok x, q => hk x q
    | .ex c fs, q => q) h
theorem Zfz {i : Nat} (mt : Mono wt) (me : Mono we) : ∀ {ds : List D} {env : En} {acc : List D} {k k' : List D → Prop}, (∀ a, k a → k' a) → lcL i wt we ds env acc k → lcL i wt we ds env acc k'
  | [], _, _, _, _, m, h => m _ h
  | d :: ds, env, acc, k, k', m, h => Zh1 mt (fun x hx => Zc4 (fun b z => match b, z with
    | true, z => Zh1 me (fun y hy => by
      split at hy
      · exact ⟨hy.1, Zfz mt me m hy.2⟩
      · exact hy.elim) z
    | false, z => Zfz mt me m z) hx) h
theorem Zj5 {i : Nat} (mi : Mono wi) (mt : Mono wt) (me : Mono we) : Mono (wLc i wi wt we) := fun env Q Q' m h => ⟨h.1, Zaq mi (fun ds z => Zfz mt me (fun a z => m _ z) z) m h.2⟩
theorem Zlu {k : Bool → Prop} {x : Slot} (h : asB k x) : ∃ b, x = .sh (.bl b) ∧ k b := by
  unfold asB at h
  split at h
  · exact ⟨_, rfl, h⟩
  · exact h.elim
theorem Zj8 {iter : Expr} {x : Str} {px : Pos} {i : Nat} {tt : TT} {te : TE} (hi : DI X F W (.Name x px) iter wi) (mt : Mono wt) (me : Mono we) (htt : ∀ σ H Q, LT F W0 wt σ H Q → tt σ H Q) (hte : ∀ σ H Q, LE F W0 we σ H Q → te σ H Q)
    {σ : L2.St} {H : Hp} {Q : VK} {l : List Cell} {env : En} {Qe : R Slot → Prop} (k : CE F l env σ H) (q : wLc i wi wt we env Qe) (h1 : ∀ acc v H', Qe (.ok (.ow (.lst acc))) → C F ((.ow (.lst acc), some v) :: (l ++ env.zip σ)) H' → Q v H') (h2 : ∀ c fs, Qe (.ex c fs) → LIp F W l env σ (fun _ _ => True) (.ex c fs)) :
    tLc (LI F W wi) (gName i) tt te [i] σ H Q := by
  obtain ⟨hu, q⟩ := q
  have hun : env[i]? = some .un := by
    unfold unAt at hu
    split at hu
    · assumption
    · exact hu.elim
  refine ⟨l, env, k, hi.mono env _ _ (fun r z => ?_) q⟩
  cases r with
  | ex c fs => exact h2 c fs z
  | ok ds =>
    intro J gh H1 hgh its c1 Da hD
    have hne : ∀ q ∈ gh ++ (l ++ env.zip σ), ∀ d a, q = (Slot.bt d, some (V.ref a)) → a ≠ Da := fun q hq d a e z => by
      obtain ⟨S, g, cc, _⟩ := c1
      have s := cc q hq
      subst e z
      obtain ⟨b, eb, r⟩ := s
      cases eb
      exact r.nn hD
    have cacc : C F ((.ow (.lst []), some (.ref Da)) :: (gh ++ (l ++ env.zip σ))) (upd H1 Da (.lst [])) := c1.newOw hD fun S g a => ⟨[], rfl, .nil⟩
    refine ⟨fun j m H => m = ds.length - j ∧ j ≤ ds.length ∧ ∃ acc, C F ((.ow (.lst acc), some (.ref Da)) :: (gh ++ (l ++ env.zip σ))) H ∧ lcL i wt we (ds.drop j) env acc fun acc => Qe (.ok (.ow (.lst acc))), ⟨ds.length, by simp, Nat.zero_le _, [], cacc, by rw [List.drop_zero]; exact z⟩, ?_⟩
    rintro j m H2 ⟨rfl, hj, acc, c2, q2⟩
    by_cases hlt : j < ds.length
    · have e1 : ds[j]? = some ds[j] := List.getElem?_eq_getElem hlt
      have c2' : C F (gh ++ ((.ow (.lst acc), some (.ref Da)) :: (l ++ env.zip σ))) H2 := c2.back
      obtain ⟨go, yl⟩ := (its _ _ c2' j).1 _ e1
      have ed : ds.drop j = ds[j] :: ds.drop (j + 1) := List.drop_eq_getElem_cons hlt
      rw [ed] at q2
      refine .inr ⟨go, fun H' => ∃ acc, C F ((.ow (.lst acc), some (.ref Da)) :: (gh ++ (l ++ env.zip σ))) H' ∧ lcL i wt we (ds.drop (j + 1)) env acc fun acc => Qe (.ok (.ow (.lst acc))), fun H' ⟨acc', c', q'⟩ => ⟨ds.length - (j + 1), by omega, rfl, hlt, acc', c', q'⟩, fun y H' hy => ?_⟩
      have c3 := yl y H' hy
      -- the block's state
      have wipe1 : wipe σ [i] = σ.set i none := rfl
      have k0 : CE F ((.sh ds[j], some y) :: (.ow (.lst acc), some (.ref Da)) :: (gh ++ l)) env σ H' := ⟨k.len, k.ok, by
        have : C F ((.sh ds[j], some y) :: (.ow (.lst acc), some (.ref Da)) :: (gh ++ (l ++ env.zip σ))) H' := C.perm c3 (List.Perm.cons _ List.perm_middle)
        show C F ((.sh ds[j], some y) :: (.ow (.lst acc), some (.ref Da)) :: ((gh ++ l) ++ env.zip σ)) H'
        rw [List.append_assoc]; exact this⟩
      have hi2 : i < env.length := (List.getElem?_eq_some_iff.mp hun).1
      have k1 := k0.un i none
      rw [Zf7 hun] at k1
      have k2 : CE F ((.ow (.lst acc), some (.ref Da)) :: (gh ++ l)) (env.set i (.sh ds[j])) ((σ.set i none).set i (some y)) H' := C.setName (x := .sh ds[j]) k1.len k1.ok trivial hi2 k1.c
      -- back to the names ahead of it
      have back : ∀ {a : List Cell} {H5 : Hp}, C F (a ++ ((.ow (.lst acc), some (.ref Da)) :: (gh ++ l) ++ (env.set i (.sh ds[j])).zip ((σ.set i none).set i (some y)))) H5 → C F (a ++ ((.ow (.lst acc), some (.ref Da)) :: (gh ++ (l ++ env.zip σ)))) H5 := fun {a H5} c => by
        have : C F ((a ++ ((.ow (.lst acc), some (.ref Da)) :: (gh ++ l))) ++ env.zip σ) H5 := by
          refine C.revalue (l1 := (env.set i (.sh ds[j])).zip ((σ.set i none).set i (some y))) (by simp) (fun n p q e1 e2 => ?_) (by rw [List.append_assoc]; exact c)
          rw [List.set_set, Zd5, List.getElem?_set] at e1
          split at e1
          · subst_vars
            obtain ⟨v, e3, e4⟩ := Za1 k.len hun
            rw [e4] at e2
            cases e2
            exact .inr rfl
          · rw [e1] at e2; cases e2; exact .inl rfl
        rw [List.append_assoc] at this
        have e : ((Slot.ow (D.lst acc), some (V.ref Da)) :: (gh ++ l)) ++ env.zip σ = (Slot.ow (D.lst acc), some (V.ref Da)) :: (gh ++ (l ++ env.zip σ)) := by rw [List.cons_append, List.append_assoc]
        rw [e] at this
        exact this
      refine ⟨by rw [wipe1]; show (((σ.set i none).set i (some y)).set i none) = σ.set i none; rw [List.set_set, List.set_set], ?_⟩
      rw [wipe1]
      refine htt _ _ _ ⟨_, _, k2, mt _ _ _ (fun r z => ?_) q2⟩
      cases r with
      | ex c fs => exact z.elim
      | ok bx =>
        obtain ⟨b, eb, z⟩ := Zlu (show asB _ bx from z)
        subst eb
        refine ⟨b, rfl, fun H4 c4 => ?_⟩
        cases b with
        | false =>
          rw [if_neg Bool.false_ne_true]
          exact ⟨acc, back (a := []) c4, z⟩
        | true =>
          rw [if_pos rfl]
          refine hte _ _ _ ⟨_, _, k2.at c4, me _ _ _ (fun r z => ?_) z⟩
          cases r with
          | ex c fs => exact z.elim
          | ok yv =>
            intro u H5 c5
            dsimp only [rk0] at z
            split at z
            · rename_i zd ez
              have c6 := c5.stab ez
              have c7 := back (a := [(.sh zd, some u)]) c6
              have c8 : C F ((.ow (.lst acc), some (.ref Da)) :: (.sh zd, some u) :: (gh ++ (l ++ env.zip σ))) H5 := C.swap c7
              obtain ⟨S, g, cc, pw⟩ := id c8
              have so := cc _ List.mem_cons_self
              obtain ⟨a0, ea, h0, hS, vs, ev, rr⟩ := so
              cases ea
              obtain ⟨u', eu, ru⟩ := cc (Slot.sh zd, some u) (by simp)
              cases eu
              refine ⟨vs, ev, by rw [rr.len, sizeLine_eq]; exact z.1, acc ++ [zd], ?_, z.2⟩
              obtain ⟨p1, p2⟩ := List.pairwise_cons.mp pw
              have na : ∀ q ∈ gh ++ (l ++ env.zip σ), Da ∉ fpC H5 q := fun q hq => (p1 q (List.mem_cons_of_mem _ hq)).no trivial (by simp [fpC])
              have p3 : (gh ++ (l ++ env.zip σ)).Pairwise (Za4 H5) := (List.pairwise_cons.mp p2).2
              refine ⟨S, g.mut hS h0, fun q hq => ?_, List.pairwise_cons.mpr ⟨fun q hq => ?_, Zjf p3 na⟩⟩
              · rcases List.mem_cons.mp hq with rfl | hq
                · exact ⟨Da, rfl, h0, hS, by rw [upd_same]; exact ⟨_, rfl, rr.app (.cons ru .nil)⟩⟩
                · have s := cc q (List.mem_cons_of_mem _ (List.mem_cons_of_mem _ hq))
                  have nb := hne q hq
                  by_cases ht : q.1.env
                  · exact s.mut h0 (na q hq) ht
                  · obtain ⟨x, w⟩ := q
                    cases x with
                    | bt d2 =>
                      obtain ⟨a2, e2, r2⟩ := s
                      have ne : a2 ≠ Da := nb d2 a2 (by rw [e2])
                      exact ⟨a2, e2, by rw [upd_ne ne]; exact r2⟩
                    | rt _ _ => exact s.elim
                    | _ => exact (ht trivial).elim
              · have e2 : fpC (upd H5 Da (.lst (vs ++ [u]))) q = fpC H5 q := Zb6 fun b hb => upd_ne fun z => na q hq (z ▸ hb)
                have key : Dj (upd H5 Da (.lst (vs ++ [u]))) (.ow (.lst (acc ++ [zd])), some (.ref Da)) q := fun b hb hq2 => by
                  obtain rfl : b = Da := by simpa [fpC] using hb
                  rw [e2] at hq2
                  exact na q hq hq2
                exact ⟨fun _ _ => key, fun _ _ => key⟩
            · exact z.elim
    · have e : j = ds.length := by omega
      subst e
      rw [List.drop_length] at q2
      have c2' : C F (gh ++ ((.ow (.lst acc), some (.ref Da)) :: (l ++ env.zip σ))) H2 := c2.back
      exact .inl ⟨(its _ _ c2' _).2 (Nat.le_refl _), h1 acc _ H2 q2 (c2'.right)⟩
theorem Zof (i : Nat) {iter elt : Expr} {scope : Scope} {x : Str} {px : Pos} {ifs : List Expr} {tt : TT} (hc : X.calm = true) (hN : X.N.Nodup) (hi : DI X F W (.Name x px) iter wi) (ok : BlkOk X.N X.env.scope scope [(x, i)])
    (hg : ∀ (s : Shared) (H : Hp) (C : Addr) (cl : List (Str × Addr)) (fp : List Addr), PG (X.blk s H scope (compEnvC scope cl C X.env) fp) (.Name x px) (gName i)) (ht : ∀ (s : Shared) (H : Hp) (C : Addr) (cl : List (Str × Addr)) (fp : List Addr), PTs (X.blk s H scope (compEnvC scope cl C X.env) fp) ifs tt)
    (htt : ∀ σ H Q, LT F W0 wt σ H Q → tt σ H Q) (mt : Mono wt) (he : ∀ (s : Shared) (H : Hp) (C : Addr) (cl : List (Str × Addr)) (fp : List Addr), DE (X.blk s H scope (compEnvC scope cl C X.env) fp) F W0 elt we) (me : Mono we) (hs : ∀ x, foldedSetIterable iter X.env x = pure x := by intro _; rfl) :
    DE X F W (.ListComp elt [⟨.Name x px, iter, ifs, 0⟩] scope pos) (wLc i wi wt we) :=
  ⟨Zbd (pe_lc (own := [(x, i)]) hc hN hi.run ok hg ht (fun s H C cl fp => (he s H C cl fp).run) hs) fun σ H Q ⟨l, env, k, q⟩ => Zj8 hi mt me htt (fun _ _ _ z => z) k q (fun acc v H' z c => z v H' c) (fun c fs z => z), Zj5 hi.mono mt me⟩
theorem Zna : ∀ σ H Q, LT F W0 (wBl true) σ H Q → tYes σ H Q := fun σ H Q ⟨l, env, k, q⟩ => by
  obtain ⟨b, e, z⟩ := q
  cases e
  exact z H k.c
end
noncomputable def Zkl (xs : List Slot) (e : En) : Prop := ∀ (j : Nat) (a : Addr) (d : D), xs[j]? = some (.na a d) → e[j]? = some (.na a d)
noncomputable def fin (xs : List Slot) (Q : R Slot → Prop) : O → Prop
  | .ret (.sh d) => Q (.ok (.sh d))
  | .ret (.ow d) => Q (.ok (.ow d))
  | .ret (.nd d) => Q (.ok (.nd d))
  | .ret (.rt ms x) => Q (.ok (.rt ms x))
  | .nx _ => Q (.ok (.sh .non))
  | .ex c fs e => Zkl xs e ∧ Q (.ex c fs)
  | _ => False
noncomputable def gOf (n : Nat) (w : WS) : G := fun xs Q => w (xs ++ List.replicate (n - xs.length) .un) (fin xs Q)
theorem Zkw {xs : List Slot} {Q Q' : R Slot → Prop} (m : ∀ r, Q r → Q' r) : ∀ o, fin xs Q o → fin xs Q' o
  | .ret (.sh _), h => m _ h
  | .ret (.ow _), h => m _ h
  | .ret (.nd _), h => m _ h
  | .ret .un, h => h
  | .ret (.bo _), h => h
  | .ret (.bt _), h => h
  | .ret (.lk _ _), h => h
  | .ret (.lo _ _ _), h => h
  | .ret (.lt _ _ _), h => h
  | .ret (.nb _), h => h
  | .ret (.ln _ _), h => h
  | .ret (.xc _), h => h
  | .ret (.xe _ _ _), h => h
  | .ret (.na _ _), h => h
  | .ret (.rt _ _), h => m _ h
  | .nx _, h => m _ h
  | .bk _, h => h
  | .ct _, h => h
  | .ex _ _ _, h => ⟨h.1, m _ h.2⟩
theorem Zcc {n : Nat} {w : WS} (m : Za5 w) : Zfh (gOf n w) := fun xs Q Q' mm h => m _ _ _ (Zkw mm) h
theorem Zj2 {α β : Type} : ∀ {xs : List α} {us : List β} (ys : List α) (vs : List β), xs.length = us.length → (xs ++ ys).zip (us ++ vs) = xs.zip us ++ ys.zip vs
  | [], [], _, _, _ => rfl
  | x :: xs, u :: us, ys, vs, h => by
    show (x, u) :: (xs ++ ys).zip (us ++ vs) = (x, u) :: (xs.zip us ++ ys.zip vs)
    rw [Zj2 ys vs (by simpa using h)]
  | [], _ :: _, _, _, h => by simp at h
  | _ :: _, [], _, _, h => by simp at h
section
variable {P : Program} {w : World} {K : PySem.W.Frag} {mg : Str → Option Value} {base : Heap}
theorem C.unsR {F : Fr} {H : Hp} (n : Nat) : ∀ {m : Nat} {l : List Cell}, C F l H → C F (l ++ (List.replicate m (Slot.un)).zip (List.replicate m (none : Option V))) H
  | 0, l, h => by simpa using h
  | m + 1, l, h => by
    have : C F (l ++ ((Slot.un, (none : Option V)) :: (List.replicate m (Slot.un)).zip (List.replicate m (none : Option V)))) H := C.back ((C.unsR n (m := m) h).un none)
    rw [List.replicate_succ, List.replicate_succ]
    exact this
theorem Zi0 {F : Fr} {H : Hp} : ∀ {xs : List Slot} {env : En} {σ : L2.St}, C F (env.zip σ) H → env.length = σ.length → Zkl xs env → C F (Zd1 (msOf xs)) H ∧ (Zd1 (msOf xs)).Sublist (env.zip σ)
  | [], env, σ, c, _, _ => ⟨c.sub (List.nil_sublist _), List.nil_sublist _⟩
  | x :: xs, [], σ, c, hl, k => by
    have none : ∀ j a d, (x :: xs)[j]? ≠ some (Slot.na a d) := fun j a d e => by have := k j a d e; simp at this
    have key : ∀ ys : List Slot, (∀ (j : Nat) a d, ys[j]? ≠ some (Slot.na a d)) → msOf ys = [] := fun ys => by
      induction ys with
      | nil => intro _; rfl
      | cons y ys ih =>
        intro h
        have h1 := ih fun j a d e => h (j + 1) a d (by simpa using e)
        cases y with
        | na a d => exact (h 0 a d rfl).elim
        | _ => exact h1
    rw [key _ none]
    exact ⟨c.sub (List.nil_sublist _), List.nil_sublist _⟩
  | x :: xs, y :: env, [], c, hl, k => by simp at hl
  | x :: xs, y :: env, v :: σ, c, hl, k => by
    have c1 : C F ((y, v) :: env.zip σ) H := c
    obtain ⟨_, s2⟩ := Zi0 (xs := xs) c1.tail (by simpa using hl) fun j a d e => by simpa using k (j + 1) a d (by simpa using e)
    have step : (Zd1 (msOf (x :: xs))).Sublist ((y, v) :: env.zip σ) := by
      cases x with
      | na a d =>
        have e0 := k 0 a d rfl
        simp only [List.getElem?_cons_zero, Option.some.injEq] at e0
        subst e0
        obtain ⟨S, g, cc, _⟩ := c1
        obtain ⟨e, _⟩ := cc _ List.mem_cons_self
        subst e
        exact List.Sublist.cons_cons _ s2
      | _ => exact s2.cons _
    exact ⟨c.sub step, step⟩
theorem Zir {F : Fr} {H : Hp} {xs : List Slot} {env : En} {σ : L2.St} (k : CE F [] env σ H) (h : Zkl xs env) (_ : ∀ x ∈ xs, x.env) : C F (Zd1 (msOf xs)) H := (Zi0 (show C F (env.zip σ) H from k.c) k.len h).1
theorem Zkh {xs : List Slot} {e : En} (h : msOf xs = []) : Zkl xs e := by
  have key : ∀ (ys : List Slot) (j : Nat) (a : Addr) (d : D), msOf ys = [] → ys[j]? ≠ some (Slot.na a d) := fun ys => by
    induction ys with
    | nil => intro j a d _ z; simp at z
    | cons y ys ih =>
      intro j a d h z
      cases j with
      | zero => simp only [List.getElem?_cons_zero, Option.some.injEq] at z; subst z; cases h
      | succ j =>
        have h' : msOf ys = [] := by cases y <;> first | exact h | cases h
        exact ih j a d h' (by simpa using z)
  exact fun j a d z => (key xs j a d h z).elim
theorem Znt {x qual : Str} {st : Stmt} {f : Addr} {fd : FuncData} {N ps : List Str} {k : Nat} (Fn : Fun K x qual st f fd) (S : FnScope N ps (defScope st)) (hNP : ps.length ≤ N.length) {ws : WS}
    (hb : ∀ (cdv : Value) (A : Around) (outer : List PySem.Env) (s : Shared) (H H0 S0 : Hp) (E : XK), Room k (A.deeper (envOfC qual (defScope st) s.heap.objs.size f cdv)) →
      DSs (cxOf (L2.CX P w) P w K mg base N qual (defScope st) f cdv A outer s H E) ⟨K, mg, H0, S0⟩ (fun c d _ H' => E c d H') (defBody st) ws) :
    FnOk P w K mg base (L2.CX P w) (k + 1) f fd ps (spG K mg ps.length (gOf N.length ws)) := by
  refine Fn.okX S (fun vs H Q E h => h.1) (fun cdv A outer s H vs Q E hr h => ?_)
  obtain ⟨hl, xs, S0, H0, hx, hst, c, h⟩ := h
  have h : ws (xs ++ List.replicate (N.length - xs.length) .un) (fin xs (Znj ⟨K, mg, H0, S0⟩ (msOf xs) Q E)) := h
  refine ⟨_, (hb cdv A outer s H H0 S0 E hr).run, [], xs ++ List.replicate (N.length - xs.length) .un, ⟨?_, ?_, ?_⟩, fun p hp => by simp at hp, (hb cdv A outer s H H0 S0 E hr).mono _ _ _ (fun o z => ?_) h⟩
  · unfold L2.start; simp [hx]
  · intro y hy
    rcases List.mem_append.mp hy with hy | hy
    · exact hst y hy
    · rw [(List.mem_replicate.mp hy).2]; trivial
  · unfold L2.start
    rw [Zj2 _ _ (by simp [hx]), hx]
    exact C.unsR 0 c
  · cases o with
    | ret y =>
      cases y with
      | sh d => exact z
      | ow d => exact z
      | nd d => exact z
      | rt ms x => exact fun v H' c => z v H' (by rw [List.append_nil] at c; exact c)
      | _ => exact z.elim
    | nx e => exact fun σ' H' k' => z .non H' (C.non (k'.c.sub (List.nil_sublist _)))
    | bk e => exact z.elim
    | ct e => exact z.elim
    | ex cn fs e => exact fun A d σ' H' hA hx k' => z.2 A d H' hA hx (Zir k' z.1 hst)
theorem Zm0 {γ : G} (hγ : ∀ ns : List Int, ns.length ≤ 63 → γ [.sh (.lst (ns.map D.int))] fun r => r = .ok (.sh (.bl true))) (m : Zfh γ) {H : Hp} {a : Addr} {ns : List Int} (hn : ns.length ≤ 63) (hS : SqL K H a (ns.map V.int)) :
    spG K mg 1 γ [.ref a] H (fun v _ => v = .bl true) fun _ _ _ => False := by
  refine ⟨rfl, [.sh (.lst (ns.map D.int))], H, H, rfl, fun x hx => ?_, ?_, m _ _ _ (fun r z => ?_) (hγ ns hn)⟩
  · have e : x = .sh (.lst (ns.map D.int)) := by simpa using hx
    subst e; trivial
  · refine ⟨H, ⟨Same.refl H, Same.refl H, Same.refl H, fun a z => .inl z⟩, fun p hp => ?_, by simp [List.zip]⟩
    have e : p = (Slot.sh (.lst (ns.map D.int)), some (V.ref a)) := by simpa using hp
    subst e
    exact ⟨_, rfl, .lst hS (Reps.ofInts ns)⟩
  · subst z
    intro v H' c
    have e := c.shBl
    cases e
    rfl
theorem noCX {H : Hp} {s : Shared} {e : Value} {s' : Shared} (h : L2.CX P w [] H s (fun _ _ _ => False) e s') : False := by
  obtain ⟨_, _, _, _, _, _, _, _, _, _, _, _, z⟩ := h
  exact z.elim
theorem Zfj {k : Nat} {A : Around} (r : Room k A) : A.units + 65 < cLine := by have := r.un; omega
end
end DL
set_option Elab.async false
set_option linter.all false
set_option maxRecDepth 100000
set_option maxHeartbeats 4000000
namespace DL
open PySem PySem.Spec PyProof.Rows L2
section
variable {we we2 wc wt : WE} {wA : WA} {wi : WI} {wl wh : WO} {g : WG} {w w1 w2 : WS}
theorem Zaj (i : Nat) : Mono (wVar i) := fun env Q Q' m h => by
  unfold wVar at h ⊢
  split at h
  · exact m _ h
  · exact m _ h
  · exact m _ h
  · exact m _ h
  · exact m _ h
  · exact m _ h
  · exact m _ h
  · exact m _ h
  · exact m _ h
  · exact m _ h
  · exact h.elim
theorem Za7 {i : Int} : Mono (wInt i) := fun _ _ _ m h => m _ h
theorem m_bl {i : Bool} : Mono (wBl i) := fun _ _ _ m h => m _ h
theorem Zet {i : Str} : Mono (wStr i) := fun _ _ _ m h => m _ h
theorem Zi8 : Zdn oNeg := fun x k k' m h => by
  unfold oNeg at h ⊢
  split at h
  · exact m _ h
  · exact h.elim
theorem Zgm {T : String} : Zdn (oIsi T) := fun x k k' m h => by
  unfold oIsi at h ⊢
  split at h
  · exact ⟨h.1, m _ h.2⟩
  · exact h.elim
theorem Zbb : Mono aNil := fun _ _ _ m h => m _ h
theorem Zae (h1 : Mono we) (h2 : Mono wA) : Mono (Zan we wA) := fun env Q Q' m q => Zaq h1 (fun x hx => Zaq h2 (fun xs hxs => m _ hxs) m hx) m q
theorem Zn9 (h : Mono wA) : Mono (wTup wA) := fun env Q Q' m q => Zaq h (fun xs hx => by
  split at hx
  · exact ⟨hx.1, m _ hx.2⟩
  · exact hx.elim) m q
theorem Zec (h : Mono wA) : Mono (wLst wA) := fun env Q Q' m q => Zaq h (fun xs hx => by
  split at hx
  · exact ⟨hx.1, m _ hx.2⟩
  · exact hx.elim) m q
theorem Zeq {γ : G} (mg : Zfh γ) (h : Mono wA) : Mono (Zer γ wA) := fun env Q Q' mm q => Zaq h (fun xs hx => mg _ _ _ (Zgw mm) hx) mm q
theorem Zm9 (h : Mono we) : Mono (Zkt we) := fun env Q Q' m q => Zaq h (fun x hx => Zep (fun ds z => m _ z) hx) m q
theorem Zkz (h : Mono wA) : Mono (Zi4 wA) := fun env Q Q' m q => Zaq h (fun x hx => Zfu (fun j z => ⟨z.1, m _ z.2⟩) hx) m q
theorem Zk6 (h : Mono wA) : Mono (Zju wA) := fun env Q Q' m q => Zaq h (fun x hx => Zgx (fun j z => m _ z) hx) m q
theorem Zbp {i : Nat} : Zfw (gN i) := fun x env k k' m h => by
  unfold gN at h ⊢
  split at h
  · exact ⟨h.1, m _ h.2⟩
  · exact ⟨h.1, m _ h.2⟩
  · exact ⟨h.1, m _ h.2⟩
  · exact h.elim
theorem Zl2 {is : List Nat} : Zfw (gT is) := fun x env k k' m h => by
  unfold gT at h ⊢
  split at h
  · exact Zch m h
  · exact Zch m h
  · exact h.elim
theorem Zbn : Za5 Zb7 := fun _ _ _ m h => m _ h
theorem m_if (hc : Mono wc) (h1 : Za5 w1) (h2 : Za5 w2) : Za5 (wIf wc w1 w2) := fun env Q Q' m h => Zby hc (fun x hx => Zc4 (fun b z => match b, z with
    | true, z => h1 env _ _ m z
    | false, z => h2 env _ _ m z) hx) m h
theorem Zeg (h : Mono we) : Za5 (wRet we) := fun env Q Q' m q => Zby h (fun x z => m _ z) m q
theorem Zle {i : Nat} : Za5 (Zee i) := fun env Q Q' m h => by
  unfold Zee at h ⊢
  split at h
  · exact m _ h
  · exact m _ h
  · exact m _ h
  · exact h.elim
theorem Zka (hg : Zfw g) (hi : Mono wi) (hb : Za5 w) : Za5 (wFor g wi w) := fun env Q Q' m h => Zby hi (fun ds z => Zdu hg hb ds env Q Q' m z) m h
theorem Zn0 {i : Nat} (h : Mono we) : Za5 (wApp i we) := fun env Q Q' m q => by
  unfold wApp at q ⊢
  split at q
  · exact Zby h (fun y hy => by
      split at hy
      · exact ⟨hy.1, m _ hy.2⟩
      · exact hy.elim) m q
  · exact q.elim
theorem Zoq {i : Nat} (h : Za5 w) : Za5 (wFrz i w) := fun env Q Q' m q => by
  unfold wFrz at q ⊢
  split at q
  · exact h _ _ _ m q
  · exact q.elim
theorem Zff {i : Nat} (h : Za5 w) : Za5 (wFgt i w) := fun env Q Q' m q => h _ _ _ m q
end
noncomputable def Zf9 (K : PySem.W.Frag) (mg : Str → Option Value) (x : Str) (st : Stmt) (ps : List Str) : Prop := ∃ f fd, Fun K x x st f fd ∧ mg x = some (.ref f) ∧ ∀ (s : Shared) (us : List Value), us.length = ps.length → BindsTo s fd ⟨us, []⟩ (ps.zip us)
noncomputable def FnAt (P : Program) (w : World) (K : PySem.W.Frag) (mg : Str → Option Value) (base : Heap) (x : Str) (k n : Nat) (γ : G) : Prop :=
  (∃ f fd ps, FnOk P w K mg base (L2.CX P w) k f fd ps (spG K mg n γ) ∧ mg x = some (.ref f) ∧ PySem.W.keepIn K (.ref f) = true ∧ Binds K fd ps []) ∧ Zfh γ
section
variable {P : Program} {w : World} {K : PySem.W.Frag} {mg : Str → Option Value} {base : Heap}
theorem Zjq {x : Str} {st : Stmt} {N ps : List Str} {k n : Nat} {ws : WS} (T : Zf9 K mg x st ps) (S : FnScope N ps (defScope st)) (hNP : ps.length ≤ N.length) (hm : Za5 ws) (hn : ps.length = n)
    (hb : ∀ (f : Addr) (cdv : Value) (A : Around) (outer : List PySem.Env) (s : Shared) (H H0 S0 : Hp) (E : XK), Room k (A.deeper (envOfC x (defScope st) s.heap.objs.size f cdv)) →
      DSs (cxOf (L2.CX P w) P w K mg base N x (defScope st) f cdv A outer s H E) ⟨K, mg, H0, S0⟩ (fun c d _ H' => E c d H') (defBody st) ws) :
    FnAt P w K mg base x (k + 1) n (gOf N.length ws) := by
  obtain ⟨f, fd, Fn, hx, bd⟩ := T
  subst hn
  exact ⟨⟨f, fd, ps, Znt Fn S hNP (fun cdv A outer s H H0 S0 E hr => hb f cdv A outer s H H0 S0 E hr), hx, Fn.kp, fun s us _ hl => by rw [List.append_nil] at hl ⊢; exact bd s us hl⟩, Zcc hm⟩
end
section
variable {X : Cx} {F : Fr} {W : WX} {e : Expr} {es : List Expr} {wA : WA} {pos p : Pos}
theorem Zft {k j n : Nat} {γ : G} {x : Str} (A : FnAt X.prog X.w F.K F.mg X.base x k n γ) (hr : Room j X.A) (hj : k ≤ j) (tk : Takes X W) (ha : DA X F W (e :: es) wA) (hnA : ∀ env Q, wA env Q → wA env fun r => Q r ∧ ∀ xs, r = .ok xs → xs.length = n) (hn : (e :: es).length = n)
    (hg : Gl X x := by rfl) (hdb : (x == ("__debug__" : Str)) = false := by decide) (he : starEach (e :: es) X.env = (false, eval e X.env) :: starEach es X.env := by rfl) (hpl : (backTo pos (starEach es X.env)).any (·.1) = false := by rfl) (hK : X.K = F.K := by rfl) (hM : X.mg = F.mg := by rfl) :
    DE X F W (.Call (.Name x p) (e :: es) [] pos) (Zer γ wA) := by
  obtain ⟨⟨f, fd, ps, Fk, hm, hk, hb⟩, m⟩ := A
  refine Zmf m (by rw [hK, hM]; exact Fk) (hr.mono hj) (by rw [hM]; exact hm) (by rw [hK]; exact hk) (by rw [hK]; exact hb) tk hn ha hnA hg hdb he hpl
end
theorem Zfq {K : PySem.W.Frag} {h : Heap} {mg : Str → Option Value} {x : Str} {st : Stmt} {ps : List Str} {f : Addr} {oc : Value} {od an : Option Addr} {osl : Array (Option Value)} {kV doc pm cdv ct : Value} (X : K.In h) (G : h.Ns mainGlobals mg)
    (a : PySem.W.nsIn K mainGlobals x = some (some (.ref f))) (l : K.lookup f = some ⟨oc, od, .func (PySem.W.fnOf x x (defArgs st) (defBody st) (defScope st) .none kV doc pm an cdv ct), osl⟩) (c : PySem.W.codeIn K cdv x = true) (k : PySem.W.keepIn K (.ref f) = true)
    (hb : ∀ us : List Value, us.length = ps.length → bindArgs (PySem.W.fnOf x x (defArgs st) (defBody st) (defScope st) .none kV doc pm an cdv ct) ⟨us, []⟩ = pure (ps.zip us)) : Zf9 K mg x st ps :=
  ⟨f, _, fun_mk l c k, PySem.W.mg_of X G a, fun s us hl => .of_eq (hb us hl)⟩
noncomputable def spLaw (K : PySem.W.Frag) : Sp := fun vs H Q _ => ∃ (a : Addr) (ns : List Int), vs = [.ref a] ∧ SqL K H a (ns.map V.int) ∧ ns.length ≤ 63 ∧ ∀ H', Q (.bl true) H'
theorem Zm6 {P : Program} {w : World} {K : PySem.W.Frag} {mg : Str → Option Value} {st : Stmt} {N : List Str} {x : Str} {k : Nat} {ws : WS} {fa : Addr} (T : Zf9 K mg "law" st [x]) (S : FnScope N [x] (defScope st)) (hNP : 1 ≤ N.length) (hm : Za5 ws) (hfa : mg "law" = some (.ref fa))
    (hγ : ∀ ns : List Int, ns.length ≤ 63 → gOf N.length ws [.sh (.lst (ns.map D.int))] fun r => r = .ok (.sh (.bl true)))
    (hb : ∀ (base : Heap), K.In base → base.Ns mainGlobals mg → ∀ (f : Addr) (cdv : Value) (A : Around) (outer : List PySem.Env) (s : Shared) (H H0 S0 : Hp) (E : XK), Room k (A.deeper (envOfC "law" (defScope st) s.heap.objs.size f cdv)) →
      DSs (cxOf (L2.CX P w) P w K mg base N "law" (defScope st) f cdv A outer s H E) ⟨K, mg, H0, S0⟩ (fun c d _ H' => E c d H') (defBody st) ws) :
    ∃ fd : FuncData, (∀ (s : Shared) (v : Value), BindsTo s fd ⟨[v], []⟩ [(x, v)]) ∧ ∀ base : Heap, K.In base → base.Ns mainGlobals mg → FnOk P w K mg base (L2.CX P w) (k + 1) fa fd [x] (spLaw K) := by
  obtain ⟨f, fd, Fn, hx, bd⟩ := T
  rw [hfa] at hx
  cases hx
  refine ⟨fd, fun s v => bd s [v] rfl, fun base h1 h2 => ?_⟩
  refine (Znt Fn S hNP (fun cdv A outer s H H0 S0 E hr => hb base h1 h2 fa cdv A outer s H H0 S0 E hr)).imp fun vs H Q E ⟨a, ns, ev, hS, hn, hq⟩ => ?_
  subst ev
  have h := Zm0 (K := K) (mg := mg) (H := H) (a := a) hγ (Zcc hm) hn hS
  obtain ⟨hl, xs, S, H0, h1, h2, h3, h4⟩ := h
  have fin : ∀ (v : V) (H' : Hp), v = .bl true → Q v H' := fun v H' e => (e ▸ hq H')
  refine ⟨hl, xs, S, H0, h1, h2, h3, Zcc hm _ _ _ (fun r z => ?_) h4⟩
  cases r with
  | ex c fs => exact fun A d H' hA hx hc => (z A d H' hA hx hc).elim
  | ok y =>
    cases y with
    | sh d => exact fun v H' c => fin v H' (z v H' c)
    | ow d => exact fun v H' c => fin v H' (z v H' c)
    | nd d => exact fun v H' c => fin v H' (z v H' c)
    | rt ms x => exact fun v H' c => fin v H' (z v H' c)
    | _ => exact z
end DL
set_option Elab.async false
set_option linter.all false
set_option maxRecDepth 100000
set_option maxHeartbeats 4000000
namespace DL
open PySem PySem.Spec PyProof.Rows L2
section
variable {X : Cx} {F : Fr} {W : WX} {a b c e o : Expr} {es : List Expr} {is : List Nat} {st : Stmt} {wa wb wc we : WE} {wA : WA} {w : WS} {wi : WI} {pos p apos cpos : Pos} {x : Str}
theorem nac {i : Nat} (r : NamesAt X es is) (hi : X.N[i]? = some x := by rfl) (hx : Loc X.env.scope x := by first | exact Or.inl rfl | exact Or.inr rfl) (hf : X.fn x = true ∨ X.env.scope.names.lookup x = some .local := by first | exact .inl rfl | exact .inr rfl) : NamesAt X (.Name x p :: es) (i :: is) := .cons hi hx hf r
noncomputable def Znc (K : PySem.W.Frag) : R2 := fun x y H Q => ∃ l b xs zs, x = .ref l ∧ y = .ref b ∧ SqL K H l xs ∧ SqL K H b zs ∧ xs.length + zs.length ≤ sizeLine ∧ ∀ p, H p = none → Q (.ref p) (upd H p (.lst (xs ++ zs)))
noncomputable def oCat : O2 := fun x y k => match x.dat, y.dat with
  | some (.lst ds), some (.lst es) => ds.length + es.length ≤ 16777216 ∧ k (.ow (.lst (ds ++ es)))
  | _, _ => False
theorem Zdy : Zf2 oCat := fun x y k k' m h => by
  unfold oCat at h ⊢
  split at h
  · exact ⟨h.1, m _ h.2⟩
  · exact h.elim
noncomputable def Zed (K : PySem.W.Frag) (mg : Str → Option Value) (x : Str) : Prop := ∃ C, mg x = some (.ref C) ∧ PySem.W.excIn K C [.type "ValueError", .type "Exception", .type "BaseException", .type "object"] "ValueError.__new__" = true ∧ PySem.W.keepIn K (.ref C) = true ∧
  PySem.W.subIn K (.ref C) (.type "BaseException") = some true ∧ PySem.W.typeIn K (.ref C) = some (.type "type") ∧ PySem.W.isClsIn K C = true
end
theorem Ziv : bootBuiltins "int" = some (.type "int") := by decide +kernel
theorem Zid : bootBuiltins "bool" = some (.type "bool") := by decide +kernel
theorem Zl5 : Zjh "int" := by unfold Zjh; decide +kernel
theorem Zkc : Zjh "bool" := by unfold Zjh; decide +kernel
theorem Zke : ClsV (.ty "int") (.type "int") := .ty _
theorem Zi9 : ClsV (.ty "bool") (.type "bool") := .ty _
end DL
set_option Elab.async false
set_option linter.all false
set_option maxRecDepth 100000
set_option maxHeartbeats 4000000
namespace DL
open PySem PySem.Spec PyProof.Rows L2
section
variable {X : Cx} {F : Fr} {W : WX} {a b c e o : Expr} {wa wb wc we : WE} {pos p : Pos}
theorem Zor {w : WE} (m : Mono w) {σ : L2.St} {H : Hp} {Q : Bool → Hp → Prop} (h : LT F W w σ H Q) : LE F W w σ H fun x H' => ∃ k, x = .bl k ∧ Q k H' := by
  obtain ⟨l, env, k, q⟩ := h
  refine ⟨l, env, k, m env _ _ (fun r z => ?_) q⟩
  cases r with
  | ok x =>
    obtain ⟨b, rfl, z⟩ := z
    exact fun v H' c => by
      have e := c.shBl
      cases e
      exact ⟨b, rfl, z H' c.tail⟩
  | ex c fs => exact z
theorem Zh6 {op : CmpOp} {r : R2} {o : O2} (ho : OpR X (compareOp op) r) (sn : Zem F r o) (om : Zf2 o) (ha : DE X F W a wa) (hb : DE X F W b wb) (hm : behindInMarks op b = false) : DT X F W (.Compare a [op] [b] pos) (wOp o wa wb) :=
  ⟨Zj3 (pt_cmpR ho ha.run hb.run hm) fun _ _ _ h => Zky sn ha hb (Zor (Zaf ha.mono hb.mono om) h), Zaf ha.mono hb.mono om⟩
theorem Zm1 (ha : DE X F W a wa) (hb : DE X F W b wb) : DT X F W (.Compare a [.Lt] [b] pos) (wOp oLt wa wb) := Zh6 op_lt Zla Zba ha hb (nomark _)
theorem Zn6 (ha : DE X F W a wa) (hb : DE X F W b wb) : DT X F W (.Compare a [.GtE] [b] pos) (wOp oGe wa wb) := Zh6 op_ge Zla Zba ha hb (nomark _)
theorem Zm5 (hu : X.A.units + 65 < cLine) (ha : DE X F W a wa) (hb : DE X F W b wb) (hK : X.K = F.K := by rfl) : DT X F W (.Compare a [.Eq] [b] pos) (wOp (oEq false) wa wb) :=
  Zh6 (r := rEqA F.K) (by rw [← hK]; exact op_eq.or (op_eqD (by omega))) Zk4 Zbq ha hb (nomark _)
theorem Zli (hu : X.A.units + 65 < cLine) (ha : DE X F W a wa) (hb : DE X F W b wb) (hK : X.K = F.K := by rfl) : DT X F W (.Compare a [.NotEq] [b] pos) (wOp (oEq true) wa wb) :=
  Zh6 (r := rNeA F.K) (by rw [← hK]; exact op_ne.or (op_neD (by omega))) Zmp Zbq ha hb (nomark _)
end
end DL
set_option Elab.async false
set_option linter.all false
set_option maxRecDepth 100000
set_option maxHeartbeats 4000000
namespace DL
open PySem PySem.Spec PyProof.Rows L2
structure Slo {α : Type} (lt : α → α → Bool) : Prop where
  irr : ∀ x, lt x x = false
  tri : ∀ x y, lt x y = false → lt y x = false → x = y
  tr : ∀ x y z, lt x y = true → lt y z = true → lt x z = true
inductive KeysAre : List Value → List L2.Key → Prop
  | nil : KeysAre [] []
  | int {i : Int} {t : Tok} {vs : List Value} {ks : List L2.Key} : KeysAre vs ks → KeysAre (.int i t :: vs) (.inl i :: ks)
  | str {x : Str} {t : Tok} {vs : List Value} {ks : List L2.Key} : KeysAre vs ks → KeysAre (.str x t :: vs) (.inr x :: ks)
theorem KeysAre.len : ∀ {vs : List Value} {ks : List L2.Key}, KeysAre vs ks → vs.length = ks.length
  | _, _, .nil => rfl
  | _, _, .int h => congrArg (· + 1) h.len
  | _, _, .str h => congrArg (· + 1) h.len
noncomputable def Zi5 (h : Heap) (v : Value) (ks : List L2.Key) : Prop := ∃ a o arr n, v = .ref a ∧ h.get? a = some o ∧ o.cls = .type "tuple" ∧ o.data = .seq arr n ∧ KeysAre arr.toList ks
theorem Zi5.keeps {h h' : Heap} {v : Value} {ks : List L2.Key} (p : Zi5 h v ks) (k : ∀ b o, h.get? b = some o → o.cls = .type "tuple" → h'.get? b = some o) : Zi5 h' v ks := by
  obtain ⟨a, o, arr, n, e, ho, hc, hd, q⟩ := p
  exact ⟨a, o, arr, n, e, k _ _ ho hc, hc, hd, q⟩
section
variable {prog : Program} {w : World} {A : Around} {E : Value → Shared → Prop} {s : Shared}
end
section
variable {X : Cx}
end
end DL
set_option Elab.async false
set_option linter.all false
set_option maxRecDepth 100000
set_option maxHeartbeats 4000000
namespace DL
open PySem PySem.Spec PyProof.Rows L2
section
variable {X : Cx}
theorem Vals.at {i : Nat} {v : V} {vs : List V} {us : List Value} (r : Vals vs us) (h : vs[i]? = some v) : ∃ u, us[i]? = some u ∧ RelV v u := by
  induction r generalizing i with
  | nil => simp at h
  | @cons x u xs us h1 r ih =>
    cases i with
    | zero => simp at h; subst h; exact ⟨u, rfl, h1⟩
    | succ i => exact ih (by simpa using h)
end
end DL
set_option Elab.async false
set_option linter.all false
set_option maxRecDepth 100000
set_option maxHeartbeats 4000000
namespace DL
open PySem PySem.Spec PyProof.Rows L2
section
variable {K : PySem.W.Frag} {S : Hp}
end
section
variable {X : Cx} {F : Fr} {W : WX} {e a : Expr} {we wa : WE} {pos p : Pos}
end
end DL
set_option Elab.async false
set_option linter.all false
set_option maxRecDepth 100000
set_option maxHeartbeats 4000000
namespace DL
open PySem PySem.Spec PyProof.Rows L2
section
variable {X : Cx} {F : Fr} {W : WX} {sts : List Stmt} {w : WS}
theorem Zcq (i : Nat) (h : DSs X F W sts w) : DSs X F W sts (wFgt i w) := ⟨Zhb h.run fun D σ H ⟨l, env, k, hl, q⟩ => ⟨l, env.set i .un, by
    by_cases hi : i < σ.length
    · have e : σ.set i σ[i] = σ := Zf7 (List.getElem?_eq_getElem hi)
      have := k.un i σ[i]
      rw [e] at this
      exact this
    · have e : env.set i .un = env := List.set_eq_of_length_le (by rw [k.len]; omega)
      rw [e]; exact k, hl, q⟩, fun env Q Q' m q => h.mono _ _ _ m q⟩
end
end DL
set_option Elab.async false
set_option linter.all false
set_option maxRecDepth 100000
set_option maxHeartbeats 4000000
namespace DL
open PySem PySem.Spec PyProof.Rows L2
noncomputable def Slot.free : Slot → Prop
  | .lo _ _ _ => False
  | .lt _ _ _ => False
  | _ => True
section
variable {X : Cx} {F : Fr} {W : WX} {a b : Expr} {wa wb : WE} {pos : Pos}
theorem Zn7 {H : Hp} {a : Addr} {k1 k2 : List (L2.Key × V)} (h1 : Rd H a (.dK k1)) (h2 : Rd H a (.dK k2)) : k1 = k2 := by
  rcases h1 with h1 | ⟨_, h1⟩ <;> rcases h2 with h2 | ⟨_, h2⟩ <;> (rw [h1] at h2; cases h2) <;> rfl
end
end DL
set_option Elab.async false
set_option linter.all false
set_option maxRecDepth 100000
set_option maxHeartbeats 4000000
namespace DL
open PySem PySem.Spec PyProof.Rows L2
section
variable {X : Cx} {F : Fr} {W : WX} {a b : Expr} {wa wb : WE} {pos : Pos}
theorem Zln : OpR X (binaryOp .Add) (Znc X.K) := by
  intro pins s σ H x y v u Q I rx ry h
  obtain ⟨l, b, xs, zs, rfl, rfl, hH, hB, hz, q⟩ := h
  cases rx
  cases ry
  obtain ⟨vs, r, ht, h1⟩ := I.list hH
  obtain ⟨ws, r2, ht2, h2⟩ := I.list hB
  have el := r.length
  have el2 := r2.length
  obtain ⟨⟨cls, dd, data, sl⟩, ho, hc, n, hd⟩ := ht.isList
  obtain ⟨⟨cls2, dd2, data2, sl2⟩, ho2, hc2, n2, hd2⟩ := ht2.isList
  simp only at hc hd hc2 hd2
  subst hc hd hc2 hd2
  have e : vs.toArray ++ ws.toArray = (vs ++ ws).toArray := by simp
  refine concat_meets ⟨_, ho, rfl⟩ ⟨_, ho2, rfl⟩ noFill_list_add seq_list_add PySem.F.slot_list_add PySem.F.entry_list_add (PySem.F.args_list_add_2 _ _) (list_addW l b vs.toArray ws.toArray n n2 dd dd2 sl sl2 (by simp; omega)) ⟨ho, ho2, ?_⟩
  rw [e]
  exact ⟨.ref _, _, I.lnew (t' := s.toks) (r.append r2) (by rw [List.length_append]; omega), rfl, q _ I.fresh⟩
theorem Zmi {l : List Cell} {H : Hp} {x : Slot} {a : Addr} {ds : List D} (h : C F ((x, some (.ref a)) :: l) H) (hx : x.dat = some (.lst ds)) : ∀ S, GS F S H → (∀ q ∈ (x, some (V.ref a)) :: l, SC F S H q) → ∃ us, SqL F.K H a us ∧ Reps F.K S us ds := by
  obtain ⟨b, us, ea, hl, hlen, _⟩ := h.seqL hx
  cases ea
  intro S g cc
  have s := cc _ List.mem_cons_self
  cases x with
  | un => cases hx
  | sh d => cases hx; obtain ⟨w, ew, rw⟩ := s; cases ew; cases rw with
    | lst hq2 r2 => exact ⟨_, Zdk g.sh hq2, r2⟩
  | ow d => cases hx; obtain ⟨b, eb, _, _, vs', e2, r2⟩ := s; cases eb; exact ⟨vs', SqL.of e2, r2⟩
  | bo d => cases hx; obtain ⟨b, eb, _, vs', e2, r2⟩ := s; cases eb; exact ⟨vs', SqL.of e2, r2⟩
  | bt d => cases hx; obtain ⟨b, eb, vs', e2, r2⟩ := s; cases eb; exact ⟨vs', SqL.of e2, r2⟩
  | lk b d => cases hx; obtain ⟨eb, _, _, vs', e2, r2⟩ := s; cases eb; exact ⟨vs', SqL.of e2, r2⟩
  | lo b _ d => cases hx
  | lt b _ d => cases hx
  | nd d => cases hx
  | nb d => cases hx
  | ln _ _ => cases hx
  | xc _ => cases hx
  | xe _ _ _ => cases hx
  | na _ _ => cases hx
  | rt _ _ => cases hx
theorem Zib {K : PySem.W.Frag} {S : Hp} : ∀ {vs : List V} {ds : List D}, Reps K S vs ds → vs.length = ds.length
  | [], [], _ => rfl
  | _ :: _, _ :: _, .cons _ r => congrArg (· + 1) (Zib r)
theorem Zhk {K : PySem.W.Frag} {S : Hp} : ∀ {vs : List V} {ds : List D} {us : List V} {es : List D}, Reps K S vs ds → Reps K S us es → Reps K S (vs ++ us) (ds ++ es)
  | [], [], _, _, _, q => q
  | _ :: _, _ :: _, _, _, .cons h r, q => .cons h (Zhk r q)
theorem Zl9 : Zem F (Znc F.K) oCat := fun l H x y vx vy ks Q hc ho hq => by
  unfold oCat at ho
  split at ho
  · rename_i ds es hd he
    obtain ⟨b, us, eb, hb, hlen, _⟩ := hc.seqL he
    have hc' := hc.swap
    obtain ⟨a, vs, ea, ha, hlen2, S, g, r, cc, pw⟩ := hc'.seqL hd
    cases ea
    cases eb
    have pwl : l.Pairwise (Za4 H) := (List.pairwise_cons.mp pw).2
    obtain ⟨us2, hs2, r2⟩ := Zmi hc he S g (fun q hq => cc q ((List.Perm.swap _ _ _).mem_iff.mp hq))
    have l2 := Zib r2
    exact ⟨a, b, vs, us2, rfl, rfl, ha, hs2, by rw [sizeLine_eq]; omega, fun p hp => hq _ _ _ ho.2 (C.newFrom g (fun q hq => cc q (List.mem_cons_of_mem _ (List.mem_cons_of_mem _ hq))) pwl (Zhk r r2) hp)⟩
  · exact ho.elim
theorem Zje (ha : DE X F W a wa) (hb : DE X F W b wb) (hK : X.K = F.K := by rfl) : DE X F W (.BinOp a .Add b pos) (wOp oCat wa wb) :=
  Zic (by rw [← hK]; exact Zln) Zl9 Zdy ha hb
end
end DL
set_option Elab.async false
set_option linter.all false
set_option maxRecDepth 100000
set_option maxHeartbeats 4000000
namespace DL
open PySem PySem.Spec PyProof.Rows L2
section
variable {F : Fr} {H : Hp} {l : List Cell}
noncomputable def Slot.pl : Slot → List Addr
  | .lk a _ => [a]
  | .lo a _ _ => [a]
  | .lt a _ _ => [a]
  | .ln fp _ => fp
  | _ => []
theorem Zoc {S : Hp} {p : Cell} (s : SC F S H p) : ∀ a ∈ p.1.pl, a ∈ fpC H p := fun a ha => by
  obtain ⟨x, v⟩ := p
  cases x with
  | lk b d => obtain ⟨rfl, _⟩ := s; simpa [fpC, Slot.pl] using ha
  | lo b _ d => obtain ⟨rfl, _⟩ := s; simpa [fpC, Slot.pl] using ha
  | lt b _ d => obtain ⟨rfl, _⟩ := s; simpa [fpC, Slot.pl] using ha
  | ln fp d => exact ha
  | _ => simp [Slot.pl] at ha
end
end DL
set_option Elab.async false
set_option linter.all false
set_option maxRecDepth 100000
set_option maxHeartbeats 4000000
namespace DL
open PySem PySem.Spec PyProof.Rows L2
section
variable {X : Cx} {F : Fr} {W : WX} {a b : Expr} {wa wb : WE} {pos : Pos}
end
end DL
set_option Elab.async false
set_option linter.all false
set_option maxRecDepth 100000
set_option maxHeartbeats 4000000
namespace DL
open PySem PySem.Spec PyProof.Rows L2
section
variable {X : Cx} {F : Fr} {W : WX} {sts : List Stmt} {w : WS}
end
end DL
set_option Elab.async false
set_option linter.all false
set_option maxRecDepth 100000
set_option maxHeartbeats 4000000
namespace DL
open PySem PySem.Spec PyProof.Rows L2
section
variable {F : Fr} {H : Hp} {l : List Cell}
theorem C.lock {kds : List (L2.Key × D)} {v : Option V} (h : C F ((.ow (.dk kds), v) :: l) H) (hl : ∀ p ∈ l, p.1.env) : ∃ a kvs, v = some (.ref a) ∧ H a = some (.dK kvs) ∧ (∀ p ∈ l, a ∉ p.1.pl) ∧ ∀ od, C F ((.lo a (.frz od (.dK kvs)) kds, v) :: l) (upd H a (.frz od (.dK kvs))) := by
  obtain ⟨S, g, c, pw⟩ := h
  obtain ⟨a, rfl, h0, hS, kvs, ev, ek, r⟩ := c _ List.mem_cons_self
  obtain ⟨p1, p2⟩ := List.pairwise_cons.mp pw
  have na : ∀ p ∈ l, a ∉ fpC H p := fun p hp => (p1 p hp).no trivial (by simp [fpC])
  refine ⟨a, kvs, rfl, ev, fun p hp z => na p hp (Zoc (c p (List.mem_cons_of_mem _ hp)) a z), fun od => ⟨S, g.mut hS h0, fun p hp => ?_, List.pairwise_cons.mpr ⟨fun p hp => ?_, Zjf p2 na⟩⟩⟩
  · rcases List.mem_cons.mp hp with rfl | hp
    · exact ⟨rfl, h0, hS, upd_same, od, kvs, rfl, ek, r⟩
    · exact (c p (List.mem_cons_of_mem _ hp)).mut h0 (na p hp) (hl p hp)
  · have e2 : fpC (upd H a (.frz od (.dK kvs))) p = fpC H p := Zb6 fun b hb => upd_ne fun z => na p hp (z ▸ hb)
    have key : Dj (upd H a (.frz od (.dK kvs))) (.lo a (.frz od (.dK kvs)) kds, some (.ref a)) p := fun b hb hq => by
      obtain rfl : b = a := by simpa [fpC] using hb
      rw [e2] at hq
      exact na p hp hq
    exact ⟨fun _ _ => key, fun _ _ => key⟩
end
section
variable {F : Fr} {S H : Hp} {l : List Cell}
end
noncomputable def D.slot : D → Slot
  | .own (.tup ds) => .nd (.tup ds)
  | .own (.obj c ns ds) => .nd (.obj c ns ds)
  | .own (.lso ds) => .nd (.lso ds)
  | .own d => .ow d
  | d => .sh d
section
variable {F : Fr} {S H : Hp} {l : List Cell}
end
end DL
set_option Elab.async false
set_option linter.all false
set_option maxRecDepth 100000
set_option maxHeartbeats 4000000
namespace DL
open PySem PySem.Spec PyProof.Rows L2
structure GDict (K : PySem.W.Frag) (w : World) (mg : Str → Option Value) (x : Str) (tab : List (Str × Str)) : Prop where
  ex : ∃ a, mg x = some (.ref a) ∧ ∀ p ∈ tab, KDct K w a p.1 (.str p.2)
end DL
set_option Elab.async false
set_option linter.all false
set_option maxRecDepth 100000
set_option maxHeartbeats 4000000
namespace DL
open PySem PySem.Spec PyProof.Rows L2
section
variable {X : Cx} {F : Fr} {W : WX} {e : Expr} {we : WE} {p pos : Pos}
end
end DL
set_option Elab.async false
set_option linter.all false
set_option maxRecDepth 100000
set_option maxHeartbeats 4000000
namespace DL
open PySem PySem.Spec PyProof.Rows L2
noncomputable def Zl8 (K : PySem.W.Frag) (mg : Str → Option Value) (x c : Str) (b : Bool) : Prop := ∃ A C, mg c = some (.ref A) ∧ mg x = some (.ref C) ∧ PySem.W.exmOne K (.ref A) (.ref C) = some b
noncomputable def IsE (K : PySem.W.Frag) (mg : Str → Option Value) (c T : Str) (b : Bool) : Prop := ∃ A, mg c = some (.ref A) ∧ ExcC K A ∧
  ((∃ C, mg T = some (.ref C) ∧ PySem.W.kitOne K (.ref A) (.ref C) = some b) ∨ ∃ U, mg T = none ∧ bootBuiltins T = some (.type U) ∧ T ≠ "__name__" ∧ PySem.W.kitOne K (.ref A) (.type U) = some b)
section
variable {X : Cx} {F : Fr} {W : WX} {x n : Str} {body suite : List Stmt} {b₀ : Stmt} {np pos pos' : Pos} {wb : WS}
theorem CE.xc {l : List Cell} {env : En} {σ : L2.St} {H : Hp} {i : Nat} {a : Addr} (k : CE F l env σ H) (hi : i < env.length) : CE F l (env.set i (.xc a)) (σ.set i (some (.ref a))) H :=
  C.setName k.len k.ok trivial hi (k.c.put (fun z => z) fun _ _ _ => rfl)
end
theorem Zab {K : PySem.W.Frag} {t : Value} {C : Addr} {b : Bool} (hd : PySem.W.hasDictIn K C = true) (ht : PySem.W.typeIn K (.ref C) = some (.type "type")) (h0 : PySem.W.subIn K (.ref C) (.ref C) = some true) (h : PySem.W.subIn K t (.ref C) = some b) : PySem.W.kitOne K t (.ref C) = some b := by
  unfold PySem.W.kitOne
  split
  · rename_i e
    have e : t = .ref C := eq_of_beq e
    subst e
    rw [h0] at h
    exact h
  · unfold PySem.W.kitCls
    obtain ⟨cd, hc, _⟩ := PySem.W.any_some hd
    have e2 : ((PySem.W.clsIn K C).isSome && PySem.W.typeIn K (.ref C) == some (.type "type")) = true := by rw [hc, ht] <;> rfl
    dsimp only
    rw [if_pos e2]
    exact h
theorem Zag {K : PySem.W.Frag} {A : Addr} {U : String} {b : Bool} (hm : PySem.W.kitMeta U = true) (h : PySem.W.subIn K (.ref A) (.type U) = some b) : PySem.W.kitOne K (.ref A) (.type U) = some b := by
  unfold PySem.W.kitOne
  rw [if_neg (by simp)]
  unfold PySem.W.kitCls
  dsimp only
  rw [if_pos hm]
  exact h
section
variable {X : Cx} {F : Fr} {W : WX} {e : Expr} {we : WE} {p tp pos : Pos} {a A : Addr} {oe : Obj} {pn : List (Addr × Obj)} {c T : Str} {b : Bool}
end
end DL
namespace DL
open PySem PySem.Spec PyProof.Rows L2
section
variable {K : PySem.W.Frag} {mg : Str → Option Value} {x c T : Str} {b : Bool} {l : List (Str × Bool)}
variable {g : Str → Bool}
theorem Zaz : ∀ c, (c, true) ∈ ([] : List (Str × Bool)) → IsE K mg c T (g c) := fun p hp => by cases hp
theorem Zaa (h : IsE K mg c T (g c)) (r : ∀ c, (c, true) ∈ l → IsE K mg c T (g c)) : ∀ d, (d, true) ∈ (c, b) :: l → IsE K mg d T (g d) := fun p hp => by
  rcases List.mem_cons.mp hp with e | hp
  · cases e; exact h
  · exact r p hp
end
end DL
set_option Elab.async false
set_option linter.all false
set_option maxRecDepth 100000
set_option maxHeartbeats 4000000
namespace DL
open PySem PySem.Spec PyProof.Rows L2
section
variable {F : Fr} {S S' H H' : Hp} {l : List Cell} {K : PySem.W.Frag}
end
section
variable {X : Cx} {F : Fr} {W : WX} {e : Expr} {we : WE} {x : Str} {apos cpos pos p2 p3 p4 : Pos}
noncomputable def D.part (nb : Bool) : D → Option Slot
  | .own (.lst ds) => some (cond nb (.bo (.lst ds)) (.bt (.lst ds)))
  | .own _ => none
  | d => some (.sh d)
end
end DL
set_option Elab.async false
set_option linter.all false
set_option maxRecDepth 100000
set_option maxHeartbeats 4000000
namespace DL
open PySem PySem.Spec PyProof.Rows L2
section
variable {F : Fr} {S H : Hp} {l : List Cell} {K : PySem.W.Frag}
end
section
variable {X : Cx} {F : Fr} {W : WX} {a b e : Expr} {we wa wb : WE} {p pos : Pos}
end
section
variable {F : Fr} {H : Hp} {l : List Cell}
end
section
variable {X : Cx} {F : Fr} {W : WX} {a b : Expr} {wa wb : WE} {pos : Pos}
end
section
variable {F : Fr} {S S' H : Hp} {l : List Cell}
end
section
variable {X : Cx} {F : Fr} {W : WX} {e : Expr} {x : Str} {apos cpos pos p2 p3 p4 : Pos}
end
end DL
set_option Elab.async false
set_option linter.all false
set_option maxRecDepth 100000
set_option maxHeartbeats 4000000
namespace DL
open PySem PySem.Spec PyProof.Rows L2
inductive JMono : List WE → Prop
  | nil : JMono []
  | cons {w : WE} {ws : List WE} : Mono w → JMono ws → JMono (w :: ws)
section
variable {X : Cx} {F : Fr} {W : WX} {a b e : Expr} {we wa wb : WE} {p pos : Pos}
inductive DJ (X : Cx) (F : Fr) (W : WX) : List Expr → List WE → Prop
  | nil : DJ X F W [] []
  | fmt {e : Expr} {we : WE} {es : List Expr} {ws : List WE} {pos : Pos} : DE X F W e we → DJ X F W es ws → DJ X F W (.FormattedValue e (-1) none pos :: es) (we :: ws)
  | str {s : Str} {j : Nat} {es : List Expr} {ws : List WE} {pos : Pos} : DJ X F W es ws → DJ X F W (.Constant (.str s) j pos :: es) (wStr s :: ws)
end
end DL
set_option Elab.async false
set_option linter.all false
set_option maxRecDepth 100000
set_option maxHeartbeats 4000000
namespace DL
open PySem PySem.Spec PyProof.Rows L2
section
variable {prog : Program} {w : World}
structure ZApart (z TI TO i1 i2 : Addr) : Prop where
  tz : TI ≠ z
  oz : TO ≠ z
  az : i1 ≠ z
  bz : i2 ≠ z
  to : TI ≠ TO
  ta : TI ≠ i1
  tb : TI ≠ i2
  oa : TO ≠ i1
  ob : TO ≠ i2
  ab : i1 ≠ i2
variable {A : Around} {E : Value → Shared → Prop} {s : Shared}
end
end DL
set_option Elab.async false
set_option linter.all false
set_option maxRecDepth 100000
set_option maxHeartbeats 4000000
namespace DL
open PySem PySem.Spec PyProof.Rows L2
section
variable {X : Cx} {F : Fr} {W : WX} {a b : Expr} {wA : WA} {pos p : Pos}
noncomputable def sl2 (k : Str → List D → Prop) : List Slot → Prop
  | [.sh (.str x), y] => lst1 (k x) [y]
  | _ => False
end
end DL
set_option Elab.async false
set_option linter.all false
set_option maxRecDepth 100000
set_option maxHeartbeats 4000000
namespace DL
open PySem PySem.Spec PyProof.Rows L2
section
variable {X : Cx} {F : Fr} {W : WX} {e tg : Expr} {we : WE} {pos p : Pos}
end
end DL
set_option Elab.async false
set_option linter.all false
set_option maxRecDepth 100000
set_option maxHeartbeats 4000000
namespace DL
open PySem PySem.Spec PyProof.Rows L2
section
variable {X : Cx} {F : Fr} {W : WX} {e : Expr} {we : WE} {pos p : Pos}
end
end DL
set_option Elab.async false
set_option linter.all false
set_option maxRecDepth 100000
set_option maxHeartbeats 4000000
namespace DL
open PySem PySem.Spec PyProof.Rows L2
section
variable {X : Cx} {F : Fr} {W : WX} {e : Expr} {we : WE} {pos p : Pos}
end
end DL
set_option Elab.async false
set_option linter.all false
set_option maxRecDepth 100000
set_option maxHeartbeats 4000000
namespace DL
open PySem PySem.Spec PyProof.Rows L2
section
variable {X : Cx} {F : Fr} {W : WX} {e : Expr} {we : WE} {pos p : Pos}
end
end DL
set_option Elab.async false
set_option linter.all false
set_option maxRecDepth 100000
set_option maxHeartbeats 4000000
namespace DL
open PySem PySem.Spec PyProof.Rows L2
section
variable {F : Fr} {S S' H H' : Hp} {l : List Cell}
noncomputable def less (H : Hp) (fp : List Addr) : Hp := open Classical in fun a => if a ∈ fp then none else H a
noncomputable abbrev Fr.sub (F : Fr) (S H : Hp) (fp : List Addr) : Fr := ⟨F.K, F.mg, less H fp, S⟩
end
inductive M1 where
  | ok (x : Slot) (env : En) | ex (c : Str) (fs : List (Str × D)) (env : En)
noncomputable abbrev WM := En → (M1 → Prop) → Prop
noncomputable def Zmc (w : WM) : Prop := ∀ env Q Q', (∀ r, Q r → Q' r) → w env Q → w env Q'
noncomputable def LMp (F : Fr) (W : WX) (l : List Cell) (σ : L2.St) (Q : VK) : M1 → Prop
  | .ok x env' => ∀ v H', env'.length = σ.length → (∀ y ∈ env', y.env) → C F ((x, some v) :: (l ++ env'.zip σ)) H' → Q v H'
  | .ex c fs env' => ∀ A d H', F.mg c = some (.ref A) → XF H' d fs → CE F l env' σ H' → W (.ref A) d σ H'
noncomputable def LMTp (F : Fr) (W : WX) (l : List Cell) (σ : L2.St) (Q : Bool → Hp → Prop) : M1 → Prop
  | .ok x env' => ∃ b, x = .sh (.bl b) ∧ ∀ H', CE F l env' σ H' → Q b H'
  | .ex c fs env' => ∀ A d H', F.mg c = some (.ref A) → XF H' d fs → CE F l env' σ H' → W (.ref A) d σ H'
noncomputable def LM (F : Fr) (W : WX) (w : WM) : TE := fun σ H Q => ∃ l env, CE F l env σ H ∧ (∀ p ∈ l, p.1.env) ∧ w env (LMp F W l σ Q)
noncomputable def LMT (F : Fr) (W : WX) (w : WM) : TT := fun σ H Q => ∃ l env, CE F l env σ H ∧ (∀ p ∈ l, p.1.env) ∧ w env (LMTp F W l σ Q)
structure DM (X : Cx) (F : Fr) (W : WX) (e : Expr) (w : WM) : Prop where
  run : PE X e (LM F W w)
  mono : Zmc w
structure DMT (X : Cx) (F : Fr) (W : WX) (e : Expr) (w : WM) : Prop where
  run : PT X e (LMT F W w)
  mono : Zmc w
structure DMW (X : Cx) (F : Fr) (W : WX) (e : Expr) (w : WM) : Prop where
  run : PW X e (LMT F W w)
  mono : Zmc w
noncomputable def mk1 (k : Slot → En → Prop) (Q : M1 → Prop) : M1 → Prop
  | .ok x env => k x env
  | .ex c fs env => Q (.ex c fs env)
section
variable {X : Cx} {F : Fr} {W : WX} {a b e : Expr} {es : List Expr} {we : WE} {wa wb wm : WM} {wA : WA} {pos : Pos}
end
end DL
set_option Elab.async false
set_option linter.all false
set_option maxRecDepth 100000
set_option maxHeartbeats 4000000
namespace DL
open PySem PySem.Spec PyProof.Rows L2
inductive TK : List Nat → En → List Slot → List (Addr × D) → List Slot → En → Prop
  | nil {env : En} {xs : List Slot} : TK [] env xs [] xs env
  | cons {j : Nat} {js : List Nat} {env : En} {a : Addr} {d : D} {xs : List Slot} {ms : List (Addr × D)} {ys : List Slot} {e : En} : env[j]? = some (.na a d) → TK js (env.set j .un) xs ms ys e → TK (j :: js) env (.xc a :: xs) ((a, d) :: ms) ys e
section
variable {F : Fr} {H : Hp} {σ : L2.St}
end
section
variable {F : Fr} {H : Hp} {l : List Cell}
end
section
variable {X : Cx} {F : Fr} {W : WX} {a b c e o : Expr} {es : List Expr} {wa wb wc w : WE} {wA : WA} {pos p : Pos}
end
end DL
set_option Elab.async false
set_option linter.all false
set_option maxRecDepth 100000
set_option maxHeartbeats 4000000
namespace DL
open PySem PySem.Spec PyProof.Rows L2
noncomputable def Zjx : List Str → Str → Option Nat
  | [], _ => none
  | n :: ns, f => if n = f then some 0 else (Zjx ns f).map (· + 1)
noncomputable def Zou : Slot → Option (Str × List Str × List D)
  | .sh (.obj C ns ds) => some (C, ns, ds)
  | .nb (.obj C ns ds) => some (C, ns, ds)
  | .ln _ (.obj C ns ds) => some (C, ns, ds)
  | _ => none
section
variable {F : Fr} {S H : Hp} {l : List Cell}
theorem Zlr {K : PySem.W.Frag} {o : Option HO} {C : Str} {ns : List Str} {ds : List D} (r : RCn K S H o (.obj C ns ds)) : ∃ Ca dx kvs, o = some (.ins Ca dx kvs) ∧ PySem.W.nsIn K mainGlobals C = some (some (.ref Ca)) ∧ kvs.map Prod.fst = ns ∧ Itns K S H (kvs.map Prod.snd) ds := by
  cases r with
  | flat r => exact r.elim
  | obj n k i => exact ⟨_, _, _, rfl, n, k, i⟩
end
section
variable {X : Cx} {F : Fr} {W : WX} {a b c e o : Expr} {es : List Expr} {wa wb wc w we wo : WE} {wA : WA} {pos p apos : Pos}
end
end DL
set_option Elab.async false
set_option linter.all false
set_option maxRecDepth 100000
set_option maxHeartbeats 4000000
namespace DL
open PySem PySem.Spec PyProof.Rows L2
section
variable {F : Fr} {S S' H H' : Hp} {l : List Cell}
end
section
variable {F : Fr} {H : Hp} {l : List Cell} {env : En} {σ : L2.St} {i : Nat}
theorem CE.rest (k : CE F l env σ H) (hl : ∀ p ∈ l, p.1.env) : ∀ p ∈ l ++ (env.zip σ).eraseIdx i, p.1.env := fun p hp => by
  rcases List.mem_append.mp hp with hp | hp
  · exact hl p hp
  · exact k.ok _ (Zgy (Zgg hp))
end
section
variable {X : Cx} {F : Fr} {W : WX} {a b c e o : Expr} {es : List Expr} {st : Stmt} {sts : List Stmt} {w : WS} {we wo wa : WE} {wA : WA} {wm : WM} {pos p apos : Pos}
end
end DL
set_option Elab.async false
set_option linter.all false
set_option maxRecDepth 100000
set_option maxHeartbeats 4000000
namespace DL
open PySem PySem.Spec PyProof.Rows L2
noncomputable def D.isFlat : D → Prop
  | .lst _ => True
  | .dk _ => True
  | .dt _ => True
  | _ => False
section
variable {F : Fr} {S S' H H' : Hp} {l : List Cell}
end
end DL
set_option Elab.async false
set_option linter.all false
set_option maxRecDepth 100000
set_option maxHeartbeats 4000000
namespace DL
open PySem PySem.Spec PyProof.Rows L2
section
variable {F : Fr} {H : Hp} {l P : List Cell} {env : En} {σ : L2.St} {i j n : Nat}
end
inductive BK where
  | nm (i : Nat) | fl (i : Nat) (C f : Str)
noncomputable def bGet (B : BK) (env : En) (k : D → (Addr → En) → (D → En) → Prop) : Prop := match B with
  | .nm i => (match env[i]? with
    | some (.na a c) => c.isFlat ∧ k c (fun _ => env.set i .un) fun c' => env.set i (.na a c')
    | _ => False)
  | .fl i C f => (match env[i]? with
    | some (.na a (.obj C' ns ds)) => C' = C ∧ (match Zjx ns f with
      | some n => (match ds[n]? with
        | some (.own c) => c.isFlat ∧ k c (fun b => env.set i (.na a (.obj C' ns (ds.set n (.rf b))))) fun c' => env.set i (.na a (.obj C' ns (ds.set n (.own c'))))
        | _ => False)
      | none => False)
    | _ => False)
structure BaseOk (F : Fr) (tB : TE) (B : BK) : Prop where
  run : ∀ {l : List Cell} {env : En} {σ : L2.St} {H : Hp} {k : D → (Addr → En) → (D → En) → Prop}, CE F l env σ H → (∀ p ∈ l, p.1.env) → bGet B env k → ∃ c out back b, k c out back ∧ c.isFlat ∧ (∀ (l' : List Cell) (H1 : Hp) (Q : VK), CE F l' (out b) σ H1 → Q (.ref b) H1 → tB σ H1 Q) ∧
    CE F ((.na b c, some (.ref b)) :: l) (out b) σ H ∧ ∀ l' c' H', (∀ p ∈ l', p.1.env) → CE F ((.na b c', some (.ref b)) :: l') (out b) σ H' → CE F l' (back c') σ H'
section
variable {B : BK} {we wk : WE}
end
section
variable {X : Cx} {F : Fr} {W : WX} {e e2 o : Expr} {we wk : WE} {B : BK} {tB : TE} {x : Str} {pos p2 apos cpos tpos : Pos}
end
end DL
set_option Elab.async false
set_option linter.all false
set_option maxRecDepth 100000
set_option maxHeartbeats 4000000
namespace DL
open PySem PySem.Spec PyProof.Rows L2
section
variable {X : Cx} {F : Fr} {W : WX} {a b c e o tg : Expr} {es : List Expr} {s1 s2 : List Stmt} {w1 w2 : WS} {we wo : WE} {wA : WA} {wm : WM} {g : WG} {x : Str} {pos p p2 apos : Pos}
theorem C.gr {a : Addr} {o : HO} {l : List Cell} {H : Hp} (h : C F l H) (ha : H a = none) : C F l (upd H a o) := by
  obtain ⟨S, g, c, b⟩ := h
  exact ⟨S, ⟨g.s0, g.sh.trans (Zao ha), g.h0.trans (Zao ha), g.fr⟩, fun q hq => (c q hq).grow (Same.refl S) (Zao ha) fun b hb => .inl hb, Zd4 b c (Zao ha)⟩
theorem Zmh {P : Program} {w : World} {st : List PySem.Env} {H : Hp} {s : Shared} {e : Value} {s' : Shared} (h : L2.CX P w st H s (fun _ _ _ => False) e s') : False := by
  obtain ⟨_, _, _, _, _, _, _, _, _, _, _, _, z⟩ := h
  exact z.elim
end
end DL
set_option Elab.async false
set_option linter.all false
set_option maxRecDepth 100000
set_option maxHeartbeats 4000000
namespace DL
open PySem PySem.Spec PyProof.Rows L2
section
variable {P : Program} {w : World} {K : PySem.W.Frag} {mg : Str → Option Value} {base : Heap}
end
end DL
set_option Elab.async false
set_option linter.all false
set_option maxRecDepth 100000
set_option maxHeartbeats 4000000
namespace DL
open PySem PySem.Spec PyProof.Rows L2
structure LkE (S S' : Hp) (d : Addr) (kvs : List (L2.Key × V)) : Prop where
  other : ∀ a, a ≠ d → S' a = S a
  l : S d = some (.dK kvs) ∨ ∃ o, S d = some (.frz o (.dK kvs))
  r : S' d = some (.dK kvs) ∨ ∃ o, S' d = some (.frz o (.dK kvs))
section
variable {K : PySem.W.Frag} {S S' : Hp} {d : Addr} {kvs : List (L2.Key × V)}
theorem LkE.symm (h : LkE S S' d kvs) : LkE S' S d kvs := ⟨fun a n => (h.other a n).symm, h.r, h.l⟩
theorem LkE.eq {a : Addr} {u : HO} (h : LkE S S' d kvs) (e : S a = some u) (n1 : ∀ k, u ≠ .dK k) (n2 : ∀ o k, u ≠ .frz o (.dK k)) : S' a = some u := by
  by_cases ha : a = d
  · subst ha
    rcases h.l with z | ⟨o, z⟩
    · rw [z] at e; cases e; exact (n1 _ rfl).elim
    · rw [z] at e; cases e; exact (n2 _ _ rfl).elim
  · rw [h.other a ha]; exact e
theorem LkE.rd {a : Addr} {u : HO} (h : LkE S S' d kvs) (n1 : ∀ k, u ≠ .dK k) (n2 : ∀ o k, u ≠ .frz o (.dK k)) (e : Rd S a u) : Rd S' a u := by
  rcases e with e | ⟨o, e⟩
  · exact .inl (h.eq e n1 n2)
  · exact .inr ⟨o, h.eq e (fun k z => by cases z) (fun o k z => by cases z; exact n1 _ rfl)⟩
theorem LkE.rdK {a : Addr} {k2 : List (L2.Key × V)} (h : LkE S S' d kvs) (e : Rd S a (.dK k2)) : Rd S' a (.dK k2) := by
  by_cases ha : a = d
  · subst ha
    have : k2 = kvs := Zn7 e h.l
    rw [this]
    exact h.r
  · rcases e with e | ⟨o, e⟩
    · exact .inl (by rw [h.other a ha]; exact e)
    · exact .inr ⟨o, by rw [h.other a ha]; exact e⟩
theorem LkE.sqL {a : Addr} {vs : List V} (h : LkE S S' d kvs) (e : SqL K S a vs) : SqL K S' a vs := by
  rcases e with e | e
  · exact .inl (h.rd (fun k z => by cases z) (fun o k z => by cases z) e)
  · exact .inr e
theorem ExS.lk (h : LkE S S' d kvs) {a Ca : Addr} {fs : List (Str × Int)} (r : ExS S a Ca fs) : ExS S' a Ca fs := by
  have k1 : ∀ {φ : Heap → Prop} {k : List (L2.Key × V)}, HO.ext φ ≠ .dK k := fun z => by cases z
  have k2 : ∀ {φ : Heap → Prop} {o : Obj} {k : List (L2.Key × V)}, HO.ext φ ≠ .frz o (.dK k) := fun z => by cases z
  rcases r with ⟨h1, h2⟩ | ⟨dd, h1, h2⟩
  · exact .inl ⟨h1, h.eq h2 (fun _ => k1) (fun _ _ => k2)⟩
  · exact .inr ⟨dd, h.eq h1 (fun _ => k1) (fun _ _ => k2), h.eq h2 (fun _ => k1) (fun _ _ => k2)⟩
mutual
theorem Rep.lk (h : LkE S S' d kvs) : ∀ {v : V} {t : D}, Rep K S v t → Rep K S' v t
  | _, _, .non => .non
  | _, _, .bl => .bl
  | _, _, .int => .int
  | _, _, .str => .str
  | _, _, .tup e r => .tup (h.eq e (fun k z => by cases z) (fun o k z => by cases z)) (Reps.lk h r)
  | _, _, .lst e r => .lst (h.sqL e) (Reps.lk h r)
  | _, _, .dk e k r => .dk (h.rdK e) k (Reps.lk h r)
  | _, _, .dt e k r => .dt (h.eq e (fun k z => by cases z) (fun o k z => by cases z)) k (Reps.lk h r)
  | _, _, .obj e n k r => .obj (h.eq e (fun k z => by cases z) (fun o k z => by cases z)) n k (Reps.lk h r)
  | _, _, .rf => .rf
  | _, _, .fn e => .fn e
  | _, _, .exc e r => .exc e (r.lk h)
theorem Reps.lk (h : LkE S S' d kvs) : ∀ {vs : List V} {ts : List D}, Reps K S vs ts → Reps K S' vs ts
  | _, _, .nil => .nil
  | _, _, .cons r q => .cons (Rep.lk h r) (Reps.lk h q)
end
theorem RC.lk {o : Option HO} {t : D} (h : LkE S S' d kvs) (r : RC K S o t) : RC K S' o t := by
  cases t with
  | lst ds => obtain ⟨vs, e, r⟩ := r; exact ⟨vs, e, r.lk h⟩
  | dk ds => obtain ⟨vs, e, k, r⟩ := r; exact ⟨vs, e, k, r.lk h⟩
  | dt ds => obtain ⟨vs, e, k, r⟩ := r; exact ⟨vs, e, k, r.lk h⟩
  | _ => exact r.elim
mutual
theorem RCn.lk {H H' : Hp} (h : LkE S S' d kvs) (hH : ∀ a, a ≠ d → H' a = H a) : ∀ {o : Option HO} {t : D}, RCn K S H o t → (∀ b ∈ D.inn H t o, b ≠ d) → RCn K S' H' o t
  | _, _, .flat r, _ => .flat (r.lk h)
  | _, _, .tup x r, n => .tup x (Itns.lk h hH r (by simpa only [D.inn] using n))
  | _, _, .obj a k r, n => .obj a k (Itns.lk h hH r (by simpa only [D.inn] using n))
  | _, _, .lso r, n => .lso (Itns.lk h hH r (by simpa only [D.inn] using n))
theorem Itn.lk {H H' : Hp} (h : LkE S S' d kvs) (hH : ∀ a, a ≠ d → H' a = H a) : ∀ {v : V} {t : D}, Itn K S H v t → (∀ b ∈ D.foot H t v, b ≠ d) → Itn K S' H' v t
  | _, _, .sh r, _ => .sh (r.lk h)
  | .ref b, .own t, .ow r, n => by
    have nb : b ≠ d := n b (by simp [D.foot])
    refine .ow ?_
    rw [hH b nb]
    exact RCn.lk h hH r fun c hc => n c (by simp [D.foot, hc])
theorem Itns.lk {H H' : Hp} (h : LkE S S' d kvs) (hH : ∀ a, a ≠ d → H' a = H a) : ∀ {vs : List V} {ts : List D}, Itns K S H vs ts → (∀ b ∈ D.foots H ts vs, b ≠ d) → Itns K S' H' vs ts
  | _, _, .nil, _ => .nil
  | _, _, .cons r q, n => .cons (Itn.lk h hH r fun b hb => n b (by simp only [D.foots]; exact List.mem_append_left _ hb)) (Itns.lk h hH q fun b hb => n b (by simp only [D.foots]; exact List.mem_append_right _ hb))
end
end
noncomputable def D.noOwn : D → Bool
  | .own _ => false
  | _ => true
noncomputable def Zn1 : Slot → Prop
  | .bo (.lst _) => True
  | .bo _ => False
  | .nb (.obj _ _ ds) => ds.all D.noOwn = true
  | .nb _ => False
  | .bt _ => False
  | .rt _ _ => False
  | .xe _ _ _ => False
  | _ => True
section
variable {F F' : Fr} {S S' H H' : Hp} {d : Addr} {kvs : List (L2.Key × V)} {l : List Cell}
theorem Ze0 {K : PySem.W.Frag} : ∀ {vs : List V} {ds : List D}, Itns K S H vs ds → ds.all D.noOwn = true → D.foots H ds vs = []
  | _, _, .nil, _ => by simp [D.foots]
  | v :: vs, t :: ds, .cons i is, h => by
    simp only [List.all_cons, Bool.and_eq_true] at h
    simp only [D.foots, Ze0 is h.2, List.append_nil]
    cases i with
    | sh r => exact rep_foot r
    | ow r => cases h.1
theorem SC.lk {p : Cell} (s : SC F S H p) (h : LkE S S' d kvs) (h2 : LkE H H' d kvs) (ok : Zn1 p.1) (hK : F'.K = F.K) (h0 : ∀ a, F'.H0 a = none ↔ F.H0 a = none) : SC F' S' H' p ∧ fpC H' p = fpC H p := by
  have nS : ∀ b, S b = none → b ≠ d := fun b e z => by
    subst z
    rcases h.l with z | ⟨o, z⟩ <;> (rw [z] at e; cases e)
  have nS' : ∀ b, S b = none → S' b = none := fun b e => by rw [h.other b (nS b e)]; exact e
  have fpd : ∀ b ∈ fpC H p, b ≠ d := fun b hb => nS b (Zce s b hb).2.2
  have ef : fpC H' p = fpC H p := Zb6 fun a ha => h2.other a (fpd a ha)
  refine ⟨?_, ef⟩
  obtain ⟨x, v⟩ := p
  cases x with
  | un => trivial
  | sh t => obtain ⟨u, e, r⟩ := s; exact ⟨u, e, by rw [hK]; exact r.lk h⟩
  | ow t =>
    obtain ⟨a, rfl, q0, qS, r⟩ := s
    exact ⟨a, rfl, (h0 a).mpr q0, nS' a qS, by rw [hK, h2.other a (nS a qS)]; exact r.lk h⟩
  | bo t =>
    cases t with
    | lst ds =>
      obtain ⟨a, rfl, q0, r⟩ := s
      have na : a ≠ d := fun z => by
        subst z
        obtain ⟨vs, e, _⟩ := r
        rcases h2.l with z | ⟨o, z⟩ <;> (rw [z] at e; cases e)
      exact ⟨a, rfl, fun z => q0 ((h0 a).mp z), by rw [hK, h2.other a na]; exact r.lk h⟩
    | _ => exact ok.elim
  | bt t => exact ok.elim
  | lk a t =>
    obtain ⟨rfl, q0, qS, r⟩ := s
    exact ⟨rfl, (h0 a).mpr q0, nS' a qS, by rw [hK, h2.other a (nS a qS)]; exact r.lk h⟩
  | lo a u t =>
    obtain ⟨rfl, q0, qS, eu, od, k2, e3, k, r⟩ := s
    exact ⟨rfl, (h0 a).mpr q0, nS' a qS, by rw [h2.other a (nS a qS)]; exact eu, od, k2, e3, k, by rw [hK]; exact r.lk h⟩
  | lt a u t =>
    obtain ⟨rfl, q0, qS, eu, od, k2, e3, k, r⟩ := s
    exact ⟨rfl, (h0 a).mpr q0, nS' a qS, by rw [h2.other a (nS a qS)]; exact eu, od, k2, e3, k, by rw [hK]; exact r.lk h⟩
  | nd t =>
    obtain ⟨a, rfl, r, n, q⟩ := s
    have na : a ≠ d := nS a (q a List.mem_cons_self).2
    have e2 : a :: D.inn H' t (H' a) = a :: D.inn H t (H a) := ef
    exact ⟨a, rfl, by rw [hK, h2.other a na]; exact r.lk h h2.other fun b hb => nS b (q b (List.mem_cons_of_mem _ hb)).2, by rw [e2]; exact n, fun b hb => by rw [e2] at hb; exact ⟨(h0 b).mpr (q b hb).1, nS' b (q b hb).2⟩⟩
  | na a t =>
    obtain ⟨rfl, r, n, q⟩ := s
    have na : a ≠ d := nS a (q a List.mem_cons_self).2
    have e2 : a :: D.inn H' t (H' a) = a :: D.inn H t (H a) := ef
    exact ⟨rfl, by rw [hK, h2.other a na]; exact r.lk h h2.other fun b hb => nS b (q b (List.mem_cons_of_mem _ hb)).2, by rw [e2]; exact n, fun b hb => by rw [e2] at hb; exact ⟨(h0 b).mpr (q b hb).1, nS' b (q b hb).2⟩⟩
  | nb t =>
    cases t with
    | obj C ns ds =>
      obtain ⟨a, rfl, r, q⟩ := s
      obtain ⟨Ca, dx, kv2, eo, nc, k, i⟩ := Zlr r
      have na : a ≠ d := fun z => by
        subst z
        rcases h2.l with z | ⟨o, z⟩ <;> (rw [z] at eo; cases eo)
      have e1 : D.inn H (.obj C ns ds) (H a) = [] := by rw [eo]; simp only [D.inn]; exact Ze0 i ok
      have eH : H' a = H a := h2.other a na
      have e2 : D.inn H' (.obj C ns ds) (H' a) = [] := by
        rw [eH, inn_congr _ _ fun b hb => ?_]
        · exact e1
        · rw [e1] at hb; simp at hb
      refine ⟨a, rfl, by rw [hK, eH]; exact r.lk h h2.other fun b hb => by rw [e1] at hb; simp at hb, fun b hb => ?_⟩
      rw [e2] at hb
      have eb : b = a := by simpa using hb
      rw [eb]
      exact fun z => q a List.mem_cons_self ((h0 a).mp z)
    | _ => exact ok.elim
  | ln fp t =>
    obtain ⟨a, rfl, r, efp, n, q⟩ := s
    have q' : ∀ b ∈ a :: D.inn H t (H a), F.H0 b = none ∧ S b = none := by rw [← efp]; exact q
    have na : a ≠ d := nS a (q' a List.mem_cons_self).2
    have e2 : D.inn H' t (H' a) = D.inn H t (H a) := by rw [h2.other a na]; exact inn_congr _ _ fun b hb => h2.other b (nS b (q' b (List.mem_cons_of_mem _ hb)).2)
    exact ⟨a, rfl, by rw [hK, h2.other a na]; exact r.lk h h2.other fun b hb => nS b (q' b (List.mem_cons_of_mem _ hb)).2, by rw [e2]; exact efp, n, fun b hb => ⟨(h0 b).mpr (q b hb).1, nS' b (q b hb).2⟩⟩
  | xc a => exact s
  | xe _ _ _ => exact ok.elim
  | rt _ _ => exact ok.elim
noncomputable def lkAt (H : Hp) (d : Addr) (u : HO) : Hp := open Classical in fun a => if a = d ∧ H a ≠ none then some u else H a
noncomputable abbrev Fr.lock (F : Fr) (S : Hp) (d : Addr) (u : HO) : Fr := ⟨F.K, F.mg, lkAt F.H0 d u, lkAt S d u⟩
end
end DL
set_option Elab.async false
set_option linter.all false
set_option maxRecDepth 100000
set_option maxHeartbeats 4000000
namespace DL
open PySem PySem.Spec PyProof.Rows L2
noncomputable def LS0 (F : Fr) (W : WX) (w : WS) : TS := fun D σ H => ∃ env, CE F [] env σ H ∧ w env (LSp F W [] D)
structure DS0 (X : Cx) (F : Fr) (W : WX) (st : Stmt) (w : WS) : Prop where
  run : PS X st (LS0 F W w)
  mono : Za5 w
structure DSs0 (X : Cx) (F : Fr) (W : WX) (sts : List Stmt) (w : WS) : Prop where
  run : PSs X sts (LS0 F W w)
  mono : Za5 w
section
variable {X : Cx} {F : Fr} {W : WX} {st : Stmt} {sts : List Stmt} {w w1 w2 : WS} {e tg : Expr} {pos : Pos} {g : WG}
end
inductive PathK where
  | fl (i : Nat) (C f : Str) | it (i n : Nat)
noncomputable def Zn8 (P : PathK) (env : En) (k : List (L2.Key × D) → Prop) : Prop := match P with
  | .fl i C f => (match env[i]? with
    | some x => (match Zou x with
      | some (C', ns, ds) => C' = C ∧ (match Zjx ns f with
        | some n => (match ds[n]? with
          | some (.dk kds) => k kds
          | _ => False)
        | none => False)
      | none => False)
    | none => False)
  | .it i n => (match env[i]? with
    | some (.sh (.tup ds)) => (match ds[n]? with
      | some (.dk kds) => k kds
      | _ => False)
    | _ => False)
structure PathOk (F : Fr) (td : TE) (P : PathK) : Prop where
  run : ∀ {env : En} {σ : L2.St} {H : Hp} {k : List (L2.Key × D) → Prop}, CE F [] env σ H → Zn8 P env k → ∃ kds d kvs, k kds ∧ Rd H d (.dK kvs) ∧ kvs.map Prod.fst = kds.map Prod.fst ∧
    (∀ S, GS F S H → (∀ p ∈ env.zip σ, SC F S H p) → Rd S d (.dK kvs) ∧ Reps F.K S (kvs.map Prod.snd) (kds.map Prod.snd)) ∧ ∀ H' (Q : VK), LkE H H' d kvs → Q (.ref d) H' → td σ H' Q
section
variable {F : Fr} {d : Addr} {od : Obj} {kvs : List (L2.Key × V)} {kds : List (L2.Key × D)}
end
section
variable {X : Cx} {F : Fr} {W : WX} {e tg iter : Expr} {body : List Stmt} {w : WS} {g : WG} {pos : Pos}
end
section
variable {P : Program} {w : World} {K : PySem.W.Frag} {mg : Str → Option Value} {base : Heap}
end
end DL
set_option Elab.async false
set_option linter.all false
set_option maxRecDepth 100000
set_option maxHeartbeats 4000000
namespace DL
open PySem PySem.Spec PyProof.Rows L2
structure GDictF (K : PySem.W.Frag) (w : World) (mg : Str → Option Value) (x : Str) (tab : List (Str × Str)) : Prop where
  ex : ∃ a, mg x = some (.ref a) ∧ ∀ p ∈ tab, ∃ f, KDct K w a p.1 (.ref f) ∧ PySem.W.nsIn K mainGlobals p.2 = some (some (.ref f))
section
variable {X : Cx} {F : Fr} {W : WX} {e : Expr} {es : List Expr} {wA : WA} {x : Str} {pos p : Pos}
end
end DL
set_option Elab.async false
set_option linter.all false
set_option maxRecDepth 100000
set_option maxHeartbeats 4000000
namespace DL
open PySem PySem.Spec PyProof.Rows L2
noncomputable abbrev Zhq := Value × Option Nat × (Addr → Value → Option Addr → TS)
inductive MixOk (X : Cx) : List ExceptHandler → List Zhq → Prop
  | nil : MixOk X [] []
  | plain {x : Str} {c : Value} {ts : Addr → Value → Option Addr → TS} {st : Stmt} {sts : List Stmt} {np ps : Pos} {hds : List ExceptHandler} {l : List Zhq} (hc : Names X x c)
      (hsu : ∀ (a : Addr) (oe : Obj) (cls : Value) (d : Option Addr) (pn : List (Addr × Obj)), Zc cls d oe → (∃ vs, oe.data = .fields vs) → PSs (X.suite a ((a, oe) :: pn)) (st :: sts) (ts a cls d)) (r : MixOk X hds l) :
      MixOk X (.ExceptHandler (some (.Name x np)) none (st :: sts) ps :: hds) ((c, none, ts) :: l)
  | named {x n : Str} {i : Nat} {c : Value} {ts : Addr → Value → Option Addr → TS} {st : Stmt} {sts : List Stmt} {np ps : Pos} {hds : List ExceptHandler} {l : List Zhq} (hc : Names X x c) (hi : X.N[i]? = some n) (hln : X.env.kindOf n = some .local)
      (hsu : ∀ (a : Addr) (oe : Obj) (cls : Value) (d : Option Addr) (pn : List (Addr × Obj)), Zc cls d oe → (∃ vs, oe.data = .fields vs) → PSs (X.suite a ((a, oe) :: pn)) (st :: sts) (ts a cls d)) (r : MixOk X hds l) :
      MixOk X (.ExceptHandler (some (.Name x np)) (some n) (st :: sts) ps :: hds) ((c, some i, ts) :: l)
section
variable {X : Cx} {body : List Stmt} {hd0 : ExceptHandler} {hds : List ExceptHandler} {l : List Zhq} {pos : Pos} {tb : WX → TS} {Wout : WX}
end
end DL
set_option Elab.async false
set_option linter.all false
set_option maxRecDepth 100000
set_option maxHeartbeats 4000000
namespace DL
open PySem PySem.Spec PyProof.Rows L2
section
variable {F : Fr} {H : Hp} {l : List Cell}
theorem Zn3 {S : Hp} {p : Cell} {dd : Addr} {fs : List (Str × V)} (s : SC F S H p) (h : H dd = some (.xd fs)) : dd ∉ fpC H p := fun hb => by
  have rc : ∀ {K : PySem.W.Frag} {d : D}, ¬ RC K S (H dd) d := fun {K d} r => by
    rw [h] at r
    cases d with
    | lst ds => obtain ⟨_, e, _⟩ := r; cases e
    | dk ds => obtain ⟨_, e, _⟩ := r; cases e
    | dt ds => obtain ⟨_, e, _⟩ := r; cases e
    | _ => exact r
  have rcn : ∀ {K : PySem.W.Frag} {d : D}, ¬ RCn K S H (H dd) d := fun {K d} r => by
    generalize e : H dd = o at r
    cases r with
    | flat r => exact rc (by rw [e]; exact r)
    | tup _ _ => rw [h] at e; cases e
    | obj _ _ _ => rw [h] at e; cases e
    | lso _ => rw [h] at e; cases e
  -- no place of an own thing holds an exception's fields
  have inn : (∀ {K : PySem.W.Frag} {o : Option HO} {d : D}, RCn K S H o d → dd ∉ D.inn H d o) := by
    intro K o d r
    refine @RCn.rec K S H (fun o d _ => dd ∉ D.inn H d o) (fun v d _ => dd ∉ D.foot H d v) (fun vs ds _ => dd ∉ D.foots H ds vs) ?_ ?_ ?_ ?_ ?_ ?_ ?_ ?_ o d r
    · intro o d r; rw [r.inn]; simp
    · intro vs ds _ _ ih; simpa only [D.inn] using ih
    · intro Ca dx C kvs ns ds _ _ _ ih; simpa only [D.inn] using ih
    · intro vs ds _ ih; simpa only [D.inn] using ih
    · intro v d r; rw [rep_foot r]; simp
    · intro b d r ih hm
      simp only [D.foot, List.mem_cons] at hm
      rcases hm with rfl | hm
      · exact rcn r
      · exact ih hm
    · simp [D.foots]
    · intro v d vs ds _ _ h1 h2 hm
      simp only [D.foots, List.mem_append] at hm
      exact hm.elim h1 h2
  obtain ⟨x, v⟩ := p
  cases x with
  | ow d =>
    obtain ⟨a, rfl, _, _, r⟩ := s
    obtain rfl : dd = a := by simpa [fpC] using hb
    exact rc r
  | lk a d =>
    obtain ⟨rfl, _, _, r⟩ := s
    obtain rfl : dd = a := by simpa [fpC] using hb
    exact rc r
  | lo a u d =>
    obtain ⟨rfl, _, _, eu, od, k, e3, _⟩ := s
    obtain rfl : dd = a := by simpa [fpC] using hb
    have e4 : u = .frz od (.dK k) := by simpa using e3
    rw [eu, e4] at h; cases h
  | lt a u d =>
    obtain ⟨rfl, _, _, eu, od, k, e3, _⟩ := s
    obtain rfl : dd = a := by simpa [fpC] using hb
    have e4 : u = .frz od (.dT k) := by simpa using e3
    rw [eu, e4] at h; cases h
  | nd d =>
    obtain ⟨a, rfl, r, _⟩ := s
    rcases List.mem_cons.mp (show dd ∈ a :: D.inn H d (H a) from hb) with rfl | hb
    · exact rcn r
    · exact inn r hb
  | na a d =>
    obtain ⟨rfl, r, _⟩ := s
    rcases List.mem_cons.mp (show dd ∈ a :: D.inn H d (H a) from hb) with rfl | hb
    · exact rcn r
    · exact inn r hb
  | ln fp d =>
    obtain ⟨a, rfl, r, ef, _⟩ := s
    have hb : dd ∈ fp := hb
    rw [ef] at hb
    rcases List.mem_cons.mp hb with rfl | hb
    · exact rcn r
    · exact inn r hb
  | _ => simp [fpC] at hb
theorem C.xe {a dd : Addr} {ns : List (Str × Int)} (h : C F l H) (hd : H dd = some (.xd (ns.map fun p => (p.1, V.int p.2)))) : C F ((.xe a dd ns, some (.ref a)) :: l) H := by
  obtain ⟨S, g, cc, pw⟩ := h
  by_cases h0 : F.H0 dd = none
  · cases hS : S dd with
    | some u =>
      have := g.sh _ _ hS
      rw [hd] at this
      cases this
      refine ⟨S, g, fun p hp => ?_, Zar (fun z => z) pw⟩
      rcases List.mem_cons.mp hp with rfl | hp
      · exact ⟨rfl, .inl hS⟩
      · exact cc p hp
    | none =>
      refine ⟨upd S dd _, g.frz hS h0 hd, fun p hp => ?_, Zar (fun z => z) pw⟩
      rcases List.mem_cons.mp hp with rfl | hp
      · exact ⟨rfl, .inl upd_same⟩
      · exact (cc p hp).frz hS (Zn3 (cc p hp) hd)
  · refine ⟨S, g, fun p hp => ?_, Zar (fun z => z) pw⟩
    rcases List.mem_cons.mp hp with rfl | hp
    · refine ⟨rfl, .inr ?_⟩
      cases e : F.H0 dd with
      | none => exact (h0 e).elim
      | some u =>
        have := g.h0 _ _ e
        rw [hd] at this
        exact this.symm
    · exact cc p hp
end
inductive HK where
  | pl (ws : WS) | nm (i : Nat) (ws : Addr → Str → WS) | nf (i : Nat) (ws : Addr → Addr → Str → List (Str × Int) → WS)
noncomputable def HK.mono : HK → Prop
  | .pl ws => Za5 ws
  | .nm _ ws => ∀ a c, Za5 (ws a c)
  | .nf _ ws => ∀ a dd c ns, Za5 (ws a dd c ns)
inductive HksOk (X : Cx) (F : Fr) : List ExceptHandler → List (List (Str × Bool) × HK) → Prop
  | nil : HksOk X F [] []
  | pl {x : Str} {tab : List (Str × Bool)} {ws : WS} {st : Stmt} {sts : List Stmt} {np ps : Pos} {hds : List ExceptHandler} {r : List (List (Str × Bool) × HK)} (hx : ∃ C, F.mg x = some (.ref C)) (ht : ∀ p ∈ tab, Zl8 F.K F.mg x p.1 p.2) (hg : Gl X x) (hd : (x == ("__debug__" : Str)) = false)
      (hsu : ∀ (a : Addr) (pn : List (Addr × Obj)), DSs (X.suite a pn) F W0 (st :: sts) ws) (ms : Za5 ws) (rest : HksOk X F hds r) : HksOk X F (.ExceptHandler (some (.Name x np)) none (st :: sts) ps :: hds) ((tab, .pl ws) :: r)
  | nm {x n : Str} {i : Nat} {tab : List (Str × Bool)} {ws : Addr → Str → WS} {st : Stmt} {sts : List Stmt} {np ps : Pos} {hds : List ExceptHandler} {r : List (List (Str × Bool) × HK)} (hx : ∃ C, F.mg x = some (.ref C)) (ht : ∀ p ∈ tab, Zl8 F.K F.mg x p.1 p.2) (hg : Gl X x) (hd : (x == ("__debug__" : Str)) = false)
      (hi : X.N[i]? = some n) (hln : X.env.kindOf n = some .local)
      (hsu : ∀ (a A : Addr) (d : Option Addr) (oe : Obj) (c : Str) (pn : List (Addr × Obj)), F.mg c = some (.ref A) → (c, true) ∈ tab → Zc (.ref A) d oe → (∃ vs, oe.data = .fields vs) → DSs (X.suite a ((a, oe) :: pn)) F W0 (st :: sts) (ws a c)) (ms : ∀ a c, Za5 (ws a c)) (rest : HksOk X F hds r) :
      HksOk X F (.ExceptHandler (some (.Name x np)) (some n) (st :: sts) ps :: hds) ((tab, .nm i ws) :: r)
  | nf {x n : Str} {i : Nat} {tab : List (Str × Bool)} {ws : Addr → Addr → Str → List (Str × Int) → WS} {st : Stmt} {sts : List Stmt} {np ps : Pos} {hds : List ExceptHandler} {r : List (List (Str × Bool) × HK)} (hx : ∃ C, F.mg x = some (.ref C)) (ht : ∀ p ∈ tab, Zl8 F.K F.mg x p.1 p.2) (hg : Gl X x) (hd : (x == ("__debug__" : Str)) = false)
      (hi : X.N[i]? = some n) (hln : X.env.kindOf n = some .local)
      (hsu : ∀ (a A dd : Addr) (oe : Obj) (c : Str) (ns : List (Str × Int)) (pn : List (Addr × Obj)), F.mg c = some (.ref A) → (c, true) ∈ tab → Zc (.ref A) (some dd) oe → (∃ vs, oe.data = .fields vs) → DSs (X.suite a ((a, oe) :: pn)) F W0 (st :: sts) (ws a dd c ns)) (ms : ∀ a dd c ns, Za5 (ws a dd c ns)) (rest : HksOk X F hds r) :
      HksOk X F (.ExceptHandler (some (.Name x np)) (some n) (st :: sts) ps :: hds) ((tab, .nf i ws) :: r)
section
variable {X : Cx} {F : Fr} {W : WX} {body : List Stmt} {hd0 : ExceptHandler} {hds : List ExceptHandler} {r : List (List (Str × Bool) × HK)} {pos : Pos} {wb : WS}
theorem HksOk.mono : ∀ {hds : List ExceptHandler} {r : List (List (Str × Bool) × HK)}, HksOk X F hds r → ∀ q ∈ r, q.2.mono
  | _, _, .nil, q, h => by simp at h
  | _, _, .pl _ _ _ _ _ ms rest, q, h => (List.mem_cons.mp h).elim (fun e => by rw [e]; exact ms) (rest.mono q)
  | _, _, .nm _ _ _ _ _ _ _ ms rest, q, h => (List.mem_cons.mp h).elim (fun e => by rw [e]; exact ms) (rest.mono q)
  | _, _, .nf _ _ _ _ _ _ _ ms rest, q, h => (List.mem_cons.mp h).elim (fun e => by rw [e]; exact ms) (rest.mono q)
end
end DL
set_option Elab.async false
set_option linter.all false
set_option maxRecDepth 100000
set_option maxHeartbeats 4000000
namespace DL
open PySem PySem.Spec PyProof.Rows L2
noncomputable def Zg0 (K : PySem.W.Frag) (C : Addr) (f1 f2 f3 : Str) : Sp := fun vs H Q _ => ∃ (a : Addr) (i j k : Int), vs = [.ref a, .int i, .int j, .int k] ∧ H a = some (exo a C none) ∧
  ∀ (H' : Hp) (d : Addr), H' a = some (exo a C (some d)) → H' d = some (exd d [(f3, .int k), (f2, .int j), (f1, .int i)]) → H d = none → d ≠ a → (∀ b o, b ≠ a → H b = some o → H' b = some o) → Q .non H'
structure Init3 (K : PySem.W.Frag) (C : Addr) (f1 f2 f3 : Str) : Prop where
  oex : OexC K C
  n1 : PySem.W.findIn K (.ref C) f1 = some none
  n2 : PySem.W.findIn K (.ref C) f2 = some none
  n3 : PySem.W.findIn K (.ref C) f3 = some none
theorem Zin {K : PySem.W.Frag} {C : Addr} {f1 f2 f3 : Str} (T : Init3 K C f1 f2 f3) {a : Addr} {i j k : Int} {σ : L2.St} {H : Hp} {Q : VK} (h0 : σ[0]? = some (some (.ref a))) (h1 : σ[1]? = some (some (.int i))) (h2 : σ[2]? = some (some (.int j))) (h3 : σ[3]? = some (some (.int k)))
    (hH : H a = some (exo a C none)) (hq : ∀ (H' : Hp) (d : Addr), H' a = some (exo a C (some d)) → H' d = some (exd d [(f3, .int k), (f2, .int j), (f1, .int i)]) → H d = none → d ≠ a → (∀ b o, b ≠ a → H b = some o → H' b = some o) → Q .non H') :
    tSeq (tOst K f1 (tVar 0) (tVar 1)) (tSeq (tOst K f2 (tVar 0) (tVar 2)) (tOst K f3 (tVar 0) (tVar 3))) { nx := fun _ H' => Q .non H', rt := Q } σ H := by
  refine ⟨_, h1, _, h0, a, C, rfl, T.oex, T.n1, .inl ⟨hH, fun dx hdx ne => ?_⟩⟩
  refine ⟨_, h2, _, h0, a, C, rfl, T.oex, T.n2, .inr ⟨dx, _, upd_same, by rw [upd_ne ne, upd_same], by simp, ?_⟩⟩
  refine ⟨_, h3, _, h0, a, C, rfl, T.oex, T.n3, .inr ⟨dx, _, by rw [upd_ne fun z => ne z.symm, upd_same], upd_same, by simp, ?_⟩⟩
  refine hq _ dx (by rw [upd_ne fun z => ne z.symm, upd_ne fun z => ne z.symm, upd_same]) upd_same hdx ne fun b o hb e => ?_
  have nb : b ≠ dx := fun z => by subst z; rw [hdx] at e; cases e
  rw [upd_ne nb, upd_ne nb, upd_ne hb, upd_ne nb]
  exact e
theorem Zkf {P : Program} {w : World} {K : PySem.W.Frag} {mg : Str → Option Value} {base : Heap} {qual f1 f2 f3 : Str} {st : Stmt} {f C : Addr} {fd : FuncData} {N ps : List Str} (Fn : Fun K "__init__" qual st f fd) (S : FnScope N ps (defScope st)) (T : Init3 K C f1 f2 f3) (hps : ps.length = 4) (hN : N.length = 4)
    (hb : ∀ (cdv : Value) (A : Around) (outer : List PySem.Env) (s : Shared) (H : Hp) (E : XK), PSs (cxOf (L2.CX P w) P w K mg base N qual (defScope st) f cdv A outer s H E) (defBody st) (tSeq (tOst K f1 (tVar 0) (tVar 1)) (tSeq (tOst K f2 (tVar 0) (tVar 2)) (tOst K f3 (tVar 0) (tVar 3))))) :
    FnOk P w K mg base (L2.CX P w) 1 f fd ps (Zg0 K C f1 f2 f3) := by
  refine Fn.okX S (fun vs H Q E ⟨a, i, j, k, e, _⟩ => by rw [e, hps]; rfl) (fun cdv A outer s H vs Q E hr ⟨a, i, j, k, e, hH, hq⟩ => ⟨_, hb cdv A outer s H E, ?_⟩)
  subst e
  refine Zin T (a := a) (i := i) (j := j) (k := k) ?_ ?_ ?_ ?_ hH hq <;> (unfold L2.start; simp [hN])
noncomputable def Zlf (P : Program) (w : World) (K : PySem.W.Frag) (mg : Str → Option Value) (base : Heap) (x f1 f2 f3 : Str) : Prop := ∃ C fI fd ps, mg x = some (.ref C) ∧ Init3 K C f1 f2 f3 ∧ PySem.W.findIn K (.ref C) "__init__" = some (some (.ref fI)) ∧ PySem.W.typeIn K (.ref fI) = some (.type "function") ∧
  FnOk P w K mg base (L2.CX P w) 1 fI fd ps (Zg0 K C f1 f2 f3) ∧ Binds K fd ps []
noncomputable def Zi1 (k : Int → Int → Int → Prop) : List Slot → Prop
  | [.sh (.int a), .sh (.int b), .sh (.int c)] => k a b c
  | _ => False
theorem Zil {k k' : Int → Int → Int → Prop} (m : ∀ a b c, k a b c → k' a b c) {xs : List Slot} (h : Zi1 k xs) : Zi1 k' xs := by
  unfold Zi1 at h ⊢
  split at h
  · exact m _ _ _ h
  · exact h.elim
section
variable {X : Cx} {F : Fr} {W : WX} {e : Expr} {es : List Expr} {wA : WA} {x f1 f2 f3 : Str} {p pos pos2 : Pos}
end
end DL
set_option Elab.async false
set_option linter.all false
set_option maxRecDepth 100000
set_option maxHeartbeats 4000000
namespace DL
open PySem PySem.Spec PyProof.Rows L2
noncomputable def it5 : Nat → Nat → Nat
  | 0, x => x
  | n + 1, x => it5 n (5 * x + 1)
theorem Zf6 : ∀ (a b x : Nat), it5 (a + b) x = it5 b (it5 a x)
  | 0, b, x => by rw [Nat.zero_add]; rfl
  | a + 1, b, x => by
    rw [Nat.succ_add]
    exact Zf6 a b (5 * x + 1)
theorem Zkk (n x : Nat) : it5 (n + 1) x = 5 * it5 n x + 1 := Zf6 n 1 x
theorem Zi6 : ∀ k : Nat, ∃ c e, ∀ x, it5 (2 ^ k) x = x + 2 ^ k * (1 + (c + c)) + 4 * (2 ^ k * (e * x))
  | 0 => ⟨0, 1, fun x => by
    show 5 * x + 1 = _
    rw [Nat.pow_zero]
    omega⟩
  | k + 1 => by
    obtain ⟨c, e, h⟩ := Zi6 k
    refine ⟨c + (e * 2 ^ k + 2 * (e * 2 ^ k * c)), e + 2 * (2 ^ k * (e * e)), fun x => ?_⟩
    have e1 : (2 : Nat) ^ (k + 1) = 2 ^ k + 2 ^ k := by rw [Nat.pow_succ]; omega
    rw [e1, Zf6, h, h]
    generalize 2 ^ k = P
    have two : ∀ a : Nat, 2 * a = a + a := fun a => by omega
    have four : ∀ a : Nat, 4 * a = a + a + (a + a) := fun a => by omega
    simp only [two, four, Nat.mul_add, Nat.add_mul, Nat.mul_one, Nat.one_mul]
    simp only [Nat.mul_comm, Nat.mul_left_comm, Nat.mul_assoc]
    omega
theorem Zga {P q r : Nat} (hr : r < P) : (P * q + r) % (P * 2) = P * (q % 2) + r := by
  have e : P * q + r = P * (q % 2) + r + P * 2 * (q / 2) := by
    have h := Nat.mod_add_div q 2
    have h2 : P * q = P * (q % 2 + 2 * (q / 2)) := by rw [h]
    rw [h2, Nat.mul_add, Nat.mul_assoc]
    omega
  rw [e, Nat.add_mul_mod_self_left]
  refine Nat.mod_eq_of_lt ?_
  have h2 : q % 2 < 2 := Nat.mod_lt _ (by decide)
  rcases Nat.lt_or_ge (q % 2) 1 with c | c
  · have z : q % 2 = 0 := by omega
    rw [z]; omega
  · have z : q % 2 = 1 := by omega
    rw [z]; omega
theorem Ziw : ∀ (k x j : Nat), ∃ n, n < 2 ^ k ∧ it5 n x % 2 ^ k = j % 2 ^ k
  | 0, x, j => ⟨0, by decide, by rw [Nat.pow_zero, Nat.mod_one, Nat.mod_one]⟩
  | k + 1, x, j => by
    obtain ⟨n, hn, e⟩ := Ziw k x j
    obtain ⟨c, d, hc⟩ := Zi6 k
    have hc' := hc (it5 n x)
    rw [← Zf6] at hc'
    rw [Nat.pow_succ]
    generalize hP : 2 ^ k = P at hn e hc' ⊢
    have P0 : 0 < P := by rw [← hP]; exact Nat.pow_pos (by decide)
    generalize hyy : it5 n x = y at e hc'
    have hy := Nat.div_add_mod y P
    have hj := Nat.div_add_mod j P
    have hr := Nat.mod_lt j P0
    rw [e] at hy
    have my : y % (P * 2) = P * (y / P % 2) + j % P := by
      have z := Zga (q := y / P) hr
      rw [hy] at z
      exact z
    have mj : j % (P * 2) = P * (j / P % 2) + j % P := by
      have z := Zga (q := j / P) hr
      rw [hj] at z
      exact z
    by_cases s : y / P % 2 = j / P % 2
    · exact ⟨n, by omega, by rw [hyy, my, mj, s]⟩
    · refine ⟨n + P, by omega, ?_⟩
      have q : it5 (n + P) x = P * (y / P + 1 + 2 * (c + 2 * (d * y))) + j % P := by
        rw [hc']
        have z : P * (y / P + 1 + 2 * (c + 2 * (d * y))) = P * (y / P) + P * (1 + (c + c)) + 4 * (P * (d * y)) := by
          have two : ∀ a : Nat, 2 * a = a + a := fun a => by omega
          have four : ∀ a : Nat, 4 * a = a + a + (a + a) := fun a => by omega
          simp only [two, four, Nat.mul_add, Nat.mul_one]
          omega
        rw [z]
        omega
      rw [q, Zga hr, mj]
      have z : (y / P + 1 + 2 * (c + 2 * (d * y))) % 2 = j / P % 2 := by omega
      rw [z]
noncomputable def Rnd (m : Nat) : Prop := ∃ k, m + 1 = 2 ^ (k + 1)
theorem Rnd.odd {m : Nat} (R : Rnd m) : m % 2 = 1 := by
  obtain ⟨k, e⟩ := R
  rw [Nat.pow_succ] at e
  omega
theorem Zhu (m i : Nat) (hi : i ≤ m) : ∀ n, lcgI m i n = it5 n i % (m + 1)
  | 0 => (Nat.mod_eq_of_lt (Nat.lt_succ_of_le hi)).symm
  | n + 1 => by
    show (lcgI m i n * 5 + 1) % (m + 1) = _
    rw [Zhu m i hi n, Zkk, Nat.mul_comm 5]
    rw [Nat.add_mod, Nat.mul_mod, Nat.mod_mod, ← Nat.mul_mod, ← Nat.add_mod]
theorem Rnd.all {m : Nat} (R : Rnd m) {i j : Nat} (hi : i ≤ m) (hj : j ≤ m) : ∃ k, k ≤ m ∧ lcgI m i k = j := by
  obtain ⟨k, e⟩ := R
  obtain ⟨n, hn, z⟩ := Ziw (k + 1) i j
  rw [← e] at hn z
  exact ⟨n, Nat.le_of_lt_succ hn, by rw [Zhu m i hi, z]; exact Nat.mod_eq_of_lt (Nat.lt_succ_of_le hj)⟩
theorem Rnd.meets {m : Nat} (R : Rnd m) (h : Int) {j : Nat} (hj : j ≤ m) : ∃ n, n ≤ m + 12 ∧ runI m (SetTable.bits h) n = j := by
  obtain ⟨k, hk, e⟩ := R.all (runI_le m (SetTable.bits h) 12) hj
  refine ⟨12 + k, by omega, ?_⟩
  rw [← e]
  exact runI_tail (bits_lt h) k
noncomputable abbrev prb (m : Nat) (h : Int) (c : Nat) : SetTable.Probe := nth m (runAt m (SetTable.bits h % (m + 1)) (SetTable.bits h)) c
theorem Zjb (m : Nat) (h : Int) (a b : Nat) : nth m (prb m h a) b = prb m h (a + b) := (nth_add m a _ b).symm
theorem Zg5 (m : Nat) (h : Int) (c : Nat) : way m h c ≤ m := by
  have i0 : SetTable.bits h % (m + 1) ≤ m := Nat.le_of_lt_succ (Nat.mod_lt _ (Nat.succ_pos _))
  have b := runEnd_bd i0
  have z : (prb m h c).j + (prb m h c).more ≤ m := nth_in c _ (by
    show SetTable.bits h % (m + 1) + (SetTable.runEnd m (SetTable.bits h % (m + 1)) - SetTable.bits h % (m + 1)) ≤ m
    omega)
  exact Nat.le_trans (Nat.le_add_right _ _) z
theorem Rnd.first {m : Nat} (R : Rnd m) (h : Int) {js : List Nat} (hl : js.length ≤ m) : ∃ K, K < 10 * SetTable.turns m ∧ way m h K ∉ js ∧ ∀ c, c < K → way m h c ∈ js := by
  obtain ⟨j, hj, hn⟩ := st_missing js (m + 1) (Nat.lt_succ_of_le hl)
  obtain ⟨n, n1, n2⟩ := R.meets h (Nat.le_of_lt_succ hj)
  obtain ⟨k, k1, k2⟩ := run_nth m (SetTable.bits h) n
  have hk : way m h k ∉ js := by
    show (prb m h k).j ∉ js
    have z : (prb m h k).j = runI m (SetTable.bits h) n := congrArg SetTable.Probe.j k2
    rw [z, n2]
    exact hn
  obtain ⟨K, a1, a2, a3⟩ := st_least (p := fun c => way m h c ∉ js) k hk
  refine ⟨K, ?_, a2, fun c hc => Classical.byContradiction fun z => a3 c hc z⟩
  unfold SetTable.turns
  omega
structure Tb (t : SetTable) (hs : List Int) : Prop where
  asc : Ris t.place.toList
  cl : t.dummies = #[]
  len : t.place.toList.length = hs.length
  rnd : Rnd t.mask
  top : ∀ x ∈ t.place.toList, x ≤ t.mask
  found : ∀ (i : Nat) (h : Int) (j : Nat), hs[i]? = some h → t.place.toList[i]? = some j → ∃ c, way t.mask h c = j ∧ ∀ c', c' < c → way t.mask h c' ∈ t.place.toList
theorem Tb.ahead {t : SetTable} {hs : List Int} (T : Tb t hs) {h : Int} {K i : Nat} (hK : way t.mask h K ∉ t.place.toList) (hi : hs[i]? = some h) : ∃ c, c < K ∧ t.place.toList[i]? = some (way t.mask h c) := by
  have il : i < t.place.toList.length := by
    rw [T.len]
    exact (List.getElem?_eq_some_iff.mp hi).1
  have e := List.getElem?_eq_getElem il
  obtain ⟨c, c1, c2⟩ := T.found i h _ hi e
  refine ⟨c, ?_, by rw [e, c1]⟩
  have nk : c ≠ K := fun z => hK (by rw [← z, c1]; exact List.getElem_mem il)
  rcases Nat.lt_or_ge K c with z | z
  · exact absurd (c2 K z) hK
  · omega
theorem Tb.put {t : SetTable} {hs : List Int} (T : Tb t hs) {h : Int} {K p : Nat} (hp : SetTable.below t.place (way t.mask h K) = p) (hK : way t.mask h K ∉ t.place.toList) (hb : ∀ c, c < K → way t.mask h c ∈ t.place.toList) :
    p ≤ hs.length ∧ Tb (t.put (way t.mask h K)).1 (hs.take p ++ h :: hs.drop p) ∧ (t.put (way t.mask h K)).1.fill = hs.length + 1 := by
  obtain ⟨b1, -, -⟩ := below_cut T.asc (way t.mask h K)
  rw [hp] at b1
  have pl : p ≤ t.place.toList.length := by rw [Array.length_toList]; exact b1
  have ph : p ≤ hs.length := by rw [← T.len]; exact pl
  have new := put_place t (way t.mask h K)
  rw [hp] at new
  have cl2 := put_dm T.cl (way t.mask h K)
  have np : t.place[SetTable.below t.place (way t.mask h K)]? ≠ some (way t.mask h K) := fun z => hK (List.mem_of_getElem? (by rw [Array.getElem?_toList]; exact z))
  have grow : ∀ x, x ∈ t.place.toList → x ∈ (t.put (way t.mask h K)).1.place.toList := fun x hx => by rw [new]; exact mem_ins.2 (.inr hx)
  have ln : (t.put (way t.mask h K)).1.place.toList.length = hs.length + 1 := by rw [new, len_ins _ pl, T.len]
  refine ⟨ph, { asc := ris_insert T.asc np, cl := cl2, len := by rw [ln, len_ins _ ph], rnd := T.rnd, top := fun x hx => ?_, found := fun i h' j' e1 e2 => ?_ }, ?_⟩
  · rw [new] at hx
    rcases mem_ins.1 hx with z | z
    · subst z
      exact Zg5 _ _ _
    · exact T.top x z
  · rw [tins_get hs ph] at e1
    rw [new, tins_get _ pl] at e2
    have old : ∀ i, hs[i]? = some h' → t.place.toList[i]? = some j' → ∃ c, way t.mask h' c = j' ∧ ∀ c', c' < c → way t.mask h' c' ∈ (t.put (way t.mask h K)).1.place.toList := fun i a b => by
      obtain ⟨c, c1, c2⟩ := T.found i h' j' a b
      exact ⟨c, c1, fun c' l => grow _ (c2 c' l)⟩
    rcases Nat.lt_trichotomy i p with z | z | z
    · rw [if_pos z] at e1 e2
      exact old i e1 e2
    · rw [if_neg (by omega), if_pos z] at e1 e2
      cases e1
      cases e2
      exact ⟨K, rfl, fun c l => grow _ (hb c l)⟩
    · rw [if_neg (by omega), if_neg (by omega)] at e1 e2
      exact old (i - 1) e1 e2
  · show (t.put (way t.mask h K)).1.place.size + (t.put (way t.mask h K)).1.dummies.size = hs.length + 1
    rw [cl2, ← Array.length_toList, ln]
    rfl
end DL
set_option Elab.async false
set_option linter.all false
set_option maxRecDepth 100000
set_option maxHeartbeats 4000000
namespace DL
open PySem PySem.Spec PyProof.Rows L2
theorem Zlb {n : Nat} : ∀ (f k : Nat), n < 2 ^ (k + f) → ∃ k', k ≤ k' ∧ SetTable.sizeAbove.go n f (2 ^ k) = 2 ^ k' ∧ n < 2 ^ k' ∧ (k' = k ∨ 2 ^ k' ≤ 2 * n)
  | 0, k, h => ⟨k, Nat.le_refl _, rfl, h, .inl rfl⟩
  | f + 1, k, h => by
    unfold SetTable.sizeAbove.go
    by_cases c : 2 ^ k ≤ n
    · rw [if_pos c, ← Nat.pow_succ]
      obtain ⟨k', a, b, d, e⟩ := Zlb (n := n) f (k + 1) (by
        have z : k + 1 + f = k + (f + 1) := by omega
        rw [z]
        exact h)
      refine ⟨k', by omega, b, d, .inr ?_⟩
      rcases e with e | e
      · rw [e, Nat.pow_succ]
        omega
      · exact e
    · rw [if_neg c]
      exact ⟨k, Nat.le_refl _, rfl, by omega, .inl rfl⟩
theorem Zkx {n : Nat} (h : n < 100000) : ∃ M, SetTable.sizeAbove n = M + 1 ∧ Rnd M ∧ n ≤ M ∧ M ≤ 2 * n + 7 := by
  obtain ⟨k, a, b, c, d⟩ := Zlb (n := n) 64 3 (Nat.lt_of_lt_of_le h (by decide))
  have p : 0 < 2 ^ k := Nat.pow_pos (by decide)
  obtain ⟨q, rfl⟩ : ∃ q, k = q + 1 := ⟨k - 1, by omega⟩
  refine ⟨2 ^ (q + 1) - 1, ?_, ⟨q, by omega⟩, by omega, ?_⟩
  · show SetTable.sizeAbove.go n 64 8 = _
    rw [show (8 : Nat) = 2 ^ 3 from rfl, b]
    omega
  · rcases d with d | d
    · rw [d]
      have z : (2 : Nat) ^ 3 = 8 := rfl
      omega
    · omega
theorem Rnd.free {m : Nat} (R : Rnd m) (owner : Array (Option Nat)) (h : Int) {j : Nat} (hj : j ≤ m) (hf : oAt owner j = none) :
    ∃ K, SetTable.layClean.free m owner (SetTable.turns m) (SetTable.bits h % (m + 1)) (SetTable.bits h) = some (way m h K) ∧ oAt owner (way m h K) = none ∧ ∀ c, c < K → oAt owner (way m h c) ≠ none := by
  obtain ⟨n, n1, n2⟩ := R.meets h hj
  have e : way m h (off m (SetTable.bits h % (m + 1)) (SetTable.bits h) n) = j := by
    have z := congrArg SetTable.Probe.j (nth_off m n (SetTable.bits h % (m + 1)) (SetTable.bits h))
    rw [itL_run, n2] at z
    exact z
  obtain ⟨K, a1, a2, a3⟩ := st_least (p := fun c => oAt owner (way m h c) = none) _ (by rw [← e] at hf; exact hf)
  refine ⟨K, free_spec m owner _ n _ _ K ?_ a1 (fun c l => ?_) ?_, a2, a3⟩
  · unfold SetTable.turns
    omega
  · cases z : oAt owner (prb m h c).j with
    | none => exact absurd z (a3 c l)
    | some v => rfl
  · exact (congrArg Option.isNone a2).trans rfl
theorem Zki {m : Nat} (R : Rnd m) {done : List Int} {owner : Array (Option Nat)} (W : Own m done owner) (hl : done.length ≤ m) (h : Int) :
    ∃ j, SetTable.layClean.free m owner (SetTable.turns m) (SetTable.bits h % (m + 1)) (SetTable.bits h) = some j ∧ Own m (done ++ [h]) (owner.setIfInBounds j (some done.length)) := by
  obtain ⟨js, l1, l2⟩ := W.ps
  obtain ⟨j0, b0, n0⟩ := st_missing js (m + 1) (by omega)
  have f0 : oAt owner j0 = none := Classical.byContradiction fun z => n0 (l2 j0 (Nat.le_of_lt_succ b0) z)
  obtain ⟨K, e, fr, occ⟩ := R.free owner h (Nat.le_of_lt_succ b0) f0
  have top := Zg5 m h K
  refine ⟨_, e, ?_⟩
  generalize hs : way m h K = S at fr top
  have here : oAt (owner.setIfInBounds S (some done.length)) S = some done.length := oAt_set_self _ (by rw [W.sz]; omega)
  have else_ : ∀ i, i ≠ S → oAt (owner.setIfInBounds S (some done.length)) i = oAt owner i := fun i z => oAt_set_ne _ z
  have still : ∀ i, oAt owner i ≠ none → oAt (owner.setIfInBounds S (some done.length)) i ≠ none := fun i z => by
    rw [else_ i fun y => z (by rw [y]; exact fr)]
    exact z
  constructor
  · rw [Array.size_setIfInBounds]
    exact W.sz
  · intro j k hj hk
    by_cases c : j = S
    · subst c
      rw [here] at hk
      cases hk
      exact ⟨h, K, by simp, hs, fun c' l => still _ (occ c' l)⟩
    · rw [else_ j c] at hk
      obtain ⟨h', K', x1, x2, x3⟩ := W.at_ j k hj hk
      refine ⟨h', K', ?_, x2, fun c' l => still _ (x3 c' l)⟩
      rw [List.getElem?_append_left (List.getElem?_eq_some_iff.mp x1).1, x1]
  · intro k hk
    rw [List.length_append, List.length_singleton] at hk
    rcases Nat.lt_or_ge k done.length with c | c
    · obtain ⟨j, j1, j2⟩ := W.all k c
      exact ⟨j, j1, by rw [else_ j fun y => by rw [y, fr] at j2; cases j2]; exact j2⟩
    · have z : k = done.length := by omega
      exact ⟨S, top, by rw [z]; exact here⟩
  · refine ⟨S :: js, by simp [l1], fun j hj z => ?_⟩
    by_cases c : j = S
    · exact c ▸ List.mem_cons_self
    · rw [else_ j c] at z
      exact List.mem_cons_of_mem _ (l2 j hj z)
theorem Zhx {m : Nat} (R : Rnd m) : ∀ (rest done : List Int) (owner : Array (Option Nat)), Own m done owner → done.length + rest.length ≤ m →
    ∃ o', rest.foldl (stepF m) (some (owner, done.length)) = some (o', done.length + rest.length) ∧ Own m (done ++ rest) o'
  | [], done, owner, W, _ => ⟨owner, rfl, by rw [List.append_nil]; exact W⟩
  | h :: rest, done, owner, W, hl => by
    rw [List.length_cons] at hl
    obtain ⟨j, e, W1⟩ := Zki R W (by omega) h
    have ln : (done ++ [h]).length = done.length + 1 := by simp
    obtain ⟨o', f, W2⟩ := Zhx R rest (done ++ [h]) _ W1 (by omega)
    refine ⟨o', ?_, by rw [List.append_assoc] at W2; exact W2⟩
    rw [List.foldl_cons, stepF_some e, ← ln, f, ln, List.length_cons]
    congr 2
    omega
theorem Zj6 {m : Nat} (R : Rnd m) {hs : Array Int} (hn : hs.size ≤ m) : ∃ owner, SetTable.layClean m hs = some owner ∧ Own m hs.toList owner := by
  have l0 : hs.toList.length = hs.size := Array.length_toList
  obtain ⟨o', f, W⟩ := Zhx R hs.toList [] _ (Own.init m) (by rw [l0]; show 0 + hs.size ≤ m; omega)
  refine ⟨o', ?_, W⟩
  rw [layClean_eq]
  have f' : hs.toList.foldl (stepF m) (some (Array.replicate (m + 1) none, 0)) = _ := f
  rw [f']
  rfl
theorem anew {m : Nat} (R : Rnd m) {hs : Array Int} (t : SetTable) {wanted : Nat} (hw : SetTable.sizeAbove wanted = m + 1) (hn : hs.size ≤ m) :
    ∃ t' order, t.relaid hs wanted = some (t', order) ∧ order.toList.Perm (List.range hs.size) ∧ Tb t' (order.toList.map fun i => hs.getD i 0) ∧ t'.mask = m ∧ t'.led = t.led ∧ t'.plain = t.plain := by
  obtain ⟨owner, e, W⟩ := Zj6 R hn
  have ml : ∀ j k, (j, k) ∈ liveOf m owner ↔ j ≤ m ∧ oAt owner j = some k := fun j k => mem_live W.sz
  have rise := ris_live (fun j => owner.getD j none) (List.range (m + 1)) (by unfold Ris; first | exact List.pairwise_lt_range | exact List.pairwise_lt_range _)
  have rise1 : Ris ((liveOf m owner).map (·.1)) := rise.1
  have apart : ((liveOf m owner).map (·.1)).Nodup := List.Pairwise.imp (fun h => Nat.ne_of_lt h) rise1
  have len : (liveOf m owner).length = hs.size := by
    refine Nat.le_antisymm ?_ ?_
    · obtain ⟨js, l1, l2⟩ := W.ps
      have z := nat_nodup_len _ js apart fun x hx => by
        obtain ⟨⟨j, k⟩, m1, rfl⟩ := List.mem_map.mp hx
        obtain ⟨z1, z2⟩ := (ml j k).1 m1
        exact l2 j z1 (by rw [z2]; simp)
      rw [List.length_map, l1, Array.length_toList] at z
      exact z
    · have z := nat_nodup_len (List.range hs.size) ((liveOf m owner).map (·.2)) List.nodup_range fun k hk => by
        obtain ⟨j, z1, z2⟩ := W.all k (by rw [Array.length_toList]; exact List.mem_range.mp hk)
        exact List.mem_map.mpr ⟨(j, k), (ml j k).2 ⟨z1, z2⟩, rfl⟩
      rw [List.length_range, List.length_map] at z
      exact z
  refine ⟨tabOf t m owner, ((liveOf m owner).map (·.2)).toArray, ?_, ?_, ?_, rfl, rfl, rfl⟩
  · rw [relaid_eq, hw, Nat.add_sub_cancel, e]
    rfl
  · refine perm_range hs.size _ (by rw [← len]; exact List.length_map ..) fun k hk => ?_
    obtain ⟨j, z1, z2⟩ := W.all k (by rw [Array.length_toList]; exact hk)
    exact List.mem_map.mpr ⟨(j, k), (ml j k).2 ⟨z1, z2⟩, rfl⟩
  · have pl : (tabOf t m owner).place.toList = (liveOf m owner).map (·.1) := rfl
    refine { asc := rise1, cl := rfl, len := by rw [pl]; simp, rnd := R, top := fun x hx => ?_, found := fun i h j e1 e2 => ?_ }
    · rw [pl] at hx
      obtain ⟨⟨j, k⟩, m1, rfl⟩ := List.mem_map.mp hx
      exact ((ml j k).1 m1).1
    · rw [pl, List.getElem?_map] at e2
      have e1' : (((liveOf m owner).map (·.2)).map fun i => hs.getD i 0)[i]? = some h := e1
      rw [List.getElem?_map, List.getElem?_map] at e1'
      obtain ⟨⟨j', k⟩, q, rfl⟩ := Option.map_eq_some_iff.mp e2
      rw [q] at e1'
      have e3 : hs.getD k 0 = h := Option.some.inj e1'
      obtain ⟨z1, z2⟩ := (ml j' k).1 (List.mem_of_getElem? q)
      obtain ⟨h0, K, a1, a2, a3⟩ := W.at_ j' k z1 z2
      have e4 : hs.getD k 0 = h0 := by
        rw [Array.getElem?_toList] at a1
        rw [Array.getD_eq_getD_getElem?, a1]
        rfl
      rw [← e3, e4]
      refine ⟨K, a2, fun c l => ?_⟩
      rw [pl]
      cases y : oAt owner (way m h0 c) with
      | none => exact absurd y (a3 c l)
      | some v => exact List.mem_map.mpr ⟨(way m h0 c, v), (ml _ _).2 ⟨Zg5 _ _ _, y⟩, rfl⟩
end DL
set_option Elab.async false
set_option linter.all false
set_option maxRecDepth 100000
set_option maxHeartbeats 4000000
namespace DL
open PySem PySem.Spec PyProof.Rows L2
structure Sb (P : Program) (w : World) (h : Heap) (a : Addr) (L : List (Addr × List Int)) (es : Array (Int × Value)) (ep : Nat) (t : SetTable) : Prop where
  obj : ∃ o, h.get? a = some o ∧ o.ExactSet ∧ o.data = .set es ep t
  rws : es.toList = rowsOf P w L
  tb : Tb t (L.map fun p => thash P w p.2)
  one : (L.map (·.2)).Nodup
  tp : ∀ p ∈ L, IsT P w h p.2 p.1
  pla : t.plain = true
  ord : w.params.followText "set-order" = true ∨ t.led = true
  rm : L.length * 5 < t.mask * 3
  cap : t.mask ≤ 8 * L.length + 7
  few : L.length < 1000
section
variable {P : Program} {w : World} {A : Around} {E : Value → Shared → Prop} {s : Shared} {a : Addr} {L : List (Addr × List Int)} {es : Array (Int × Value)} {ep : Nat} {t : SetTable}
theorem Zc8 {L : List (Addr × List Int)} {es : Array (Int × Value)} (h : es.toList = rowsOf P w L) : es.size = L.length := by
  rw [← Array.length_toList, h]
  exact List.length_map ..
theorem fit {hs : List Int} {n : Nat} (T : Tb t hs) (hn : n = hs.length) (hm : n ≤ t.mask) : t.fits n = true := by
  have e : t.place.size = n := by rw [hn, ← T.len, Array.length_toList]
  unfold SetTable.fits SetTable.fill
  rw [T.cl]
  simp only [Bool.and_eq_true, beq_iff_eq, decide_eq_true_eq]
  exact ⟨e, by rw [e]; exact hm⟩
theorem Sb.fit (R : Sb P w s.heap a L es ep t) : t.fits es.size = true := by
  have r := R.rm
  refine DL.fit R.tb ?_ ?_
  · rw [List.length_map, Zc8 R.rws]
  · rw [Zc8 R.rws]; omega
theorem Sb.row (R : Sb P w s.heap a L es ep t) {i : Nat} {p : Addr × List Int} (h : L[i]? = some p) : es[i]? = some (thash P w p.2, Value.ref p.1) := by
  rw [← Array.getElem?_toList, R.rws]
  show (L.map _)[i]? = _
  rw [List.getElem?_map, h]
  rfl
theorem Ziu (hm : Rnd t.mask) : ¬ t.gaveWay = true := fun z => by
  unfold SetTable.gaveWay at z
  rw [hm.odd] at z
  exact absurd z (by decide)
theorem Zjp (m : Nat) (h : Int) (c : Nat) : (prb m h c).dummy = none := by
  have step : ∀ p : SetTable.Probe, p.dummy = none → (adv m p).dummy = none := fun p z => by
    unfold adv
    split <;> exact z
  have all : ∀ c p, SetTable.Probe.dummy p = none → (nth m p c).dummy = none := by
    intro c
    induction c with
    | zero => exact fun p z => z
    | succ c ih => exact fun p z => ih _ (step p z)
  exact all c _ rfl
theorem Sb.look (R : Sb P w s.heap a L es ep t) {x : Addr} {k : List Int} (hx : IsT P w s.heap k x) (hu : A.units < cLine) {K : Nat} (hKf : K < 10 * SetTable.turns t.mask)
    (hK : way t.mask (thash P w k) K ∉ t.place.toList) (hKb : ∀ c, c < K → way t.mask (thash P w k) c ∈ t.place.toList) {Q : SetFound → Shared → Prop}
    (yes : k ∈ L.map (·.2) → Q (.there none) s) (no : k ∉ L.map (·.2) → Q (.free (way t.mask (thash P w k) K) false) s) (f : Nat) :
    ∀ (c : Nat) (at_ : Option SetTable.Probe), at_.getD (t.probeStart (thash P w k)) = prb t.mask (thash P w k) c → c ≤ K → K - c < f →
      (∀ (i : Nat) p, L[i]? = some p → p.2 = k → ∃ c', c ≤ c' ∧ c' < K ∧ t.place.toList[i]? = some (way t.mask (thash P w k) c')) →
      wpAny (model P w) A (setSearchFrom a (.ref x) (thash P w k) true f at_) Q E s := by
  induction f with
  | zero => exact fun c _ _ _ l _ => absurd l (Nat.not_lt_zero _)
  | succ f ih =>
    intro c at_ e0 hc hf left
    obtain ⟨o, ho, -, hd⟩ := R.obj
    generalize hH : thash P w k = H at hK hKb no e0 left ih ⊢
    have wj : ∀ q, (nth t.mask (prb t.mask H c) q).j = way t.mask H (c + q) := fun q => congrArg SetTable.Probe.j (Zjb t.mask H c q)
    have met := go_spec t R.tb.asc R.tb.cl (fun i => (es[i]?.map (·.1)).getD 0) H (10 * SetTable.turns t.mask) (K - c) (prb t.mask H c) (Zjp _ _ _) (by omega)
      (fun q l => by rw [wj]; exact hKb _ (by omega)) (by rw [wj, Nat.add_sub_cancel' hc]; exact hK)
    have hashAt : ∀ (i : Nat) p, L[i]? = some p → (es[i]?.map (·.1)).getD 0 = thash P w p.2 := fun i p z => by rw [R.row z]; rfl
    rw [setSearchFrom_succ]
    refine wpAny_bind (wpAny_setState_of ho hd R.fit ?_)
    dsimp only
    refine wp_if_neg (Ziu R.tb.rnd) ?_
    try refine wpAny_bind (wpAny_pure ?_)
    rcases met with ⟨q, i, hq, hi, hh, before, go⟩ | ⟨before, go⟩
    · have probe : t.probe (fun i => (es[i]?.map (·.1)).getD 0) H (at_.getD (t.probeStart H)) = some (.candidate (way t.mask H (c + q)) i (prb t.mask H (c + (q + 1)))) := by
        rw [e0, ← wj, ← Zjb]
        exact go
      rw [wj] at hi
      rw [probe]
      dsimp only
      obtain ⟨p, hp⟩ : ∃ p, L[i]? = some p := by
        have z := (List.getElem?_eq_some_iff.mp hi).1
        rw [R.tb.len, List.length_map] at z
        exact ⟨_, List.getElem?_eq_getElem z⟩
      have pm : p ∈ L := List.mem_of_getElem? hp
      have live : t.slot (way t.mask H (c + q)) = .live i := slot_live R.tb.asc hi
      have rest : wpAny (model P w) A (searchRest a (.ref x) H true f es t (way t.mask H (c + q)) i (prb t.mask H (c + (q + 1)))) Q E s := by
        unfold searchRest
        rw [R.row hp]
        dsimp only
        refine wpAny_bind (wpAny_holding (wpAny_eqBool_tuple hu (R.tp p pm) hx ?_))
        refine wpAny_bind (wpAny_setState_of ho hd R.fit ?_)
        dsimp only
        by_cases same : p.2 = k
        · exact wp_if_pos (by simp [same]) (wpAny_pure (yes (List.mem_map.mpr ⟨p, pm, same⟩)))
        · refine wp_if_neg (by simp [same]) ?_
          try refine wpAny_bind (wpAny_pure ?_)
          rw [sameMem]
          simp only [if_true, live, R.row hp]
          refine wpAny_bind (wpAny_isSame_ref_self (wpAny_bind (wpAny_pure ?_)))
          simp only [if_true]
          refine wp_if_neg (by simp [same]) (ih (c + (q + 1)) _ rfl (by omega) (by omega) fun i0 p0 z0 k0 => ?_)
          obtain ⟨c', l1, l2, l3⟩ := left i0 p0 z0 k0
          refine ⟨c', ?_, l2, l3⟩
          have ne1 : ¬ c' < c + q := fun l => before (c' - c) i0 (by omega) (by rw [wj, Nat.add_sub_cancel' l1]; exact l3) (by rw [hashAt i0 p0 z0, k0]; exact hH)
          have ne2 : c' ≠ c + q := fun l => by
            rw [l] at l3
            have z := slot_live R.tb.asc l3
            rw [live] at z
            cases z
            rw [hp] at z0
            cases z0
            exact same k0
          omega
      by_cases hl : t.led = true
      · refine wp_if_neg (by simp [hl]) ?_
        try refine wpAny_bind (wpAny_pure ?_)
        exact rest
      · refine wp_if_pos (by simp [hl]) (wpAny_bind (seen_tup hx (fun y hy => ?_) (wp_if_neg (by decide) ?_)))
        · obtain ⟨e, m1, m2⟩ := List.mem_map.mp hy
          have m3 : e ∈ es ∧ e.1 = H := by simpa using m1
          have m4 : e ∈ es.toList := by simpa using m3.1
          rw [R.rws] at m4
          obtain ⟨p2, n1, n2⟩ := List.mem_map.mp m4
          subst n2
          exact ⟨p2.2, p2.1, m2.symm, R.tp p2 n1⟩
        · try refine wpAny_bind (wpAny_pure ?_)
          exact rest
    · have probe : t.probe (fun i => (es[i]?.map (·.1)).getD 0) H (at_.getD (t.probeStart H)) = some (.empty (way t.mask H K) none) := by
        have z := wj (K - c)
        rw [Nat.add_sub_cancel' hc] at z
        rw [e0, ← z]
        exact go
      rw [probe]
      dsimp only
      refine wpAny_pure (no fun m => ?_)
      obtain ⟨p0, m0, k0⟩ := List.mem_map.mp m
      obtain ⟨i0, b0, z0⟩ := List.getElem_of_mem m0
      have z1 : L[i0]? = some p0 := by rw [List.getElem?_eq_getElem b0, z0]
      obtain ⟨c', l1, l2, l3⟩ := left i0 p0 z1 k0
      exact before (c' - c) i0 (by omega) (by rw [wj, Nat.add_sub_cancel' l1]; exact l3) (by rw [hashAt i0 p0 z1, k0]; exact hH)
theorem Sb.search (R : Sb P w s.heap a L es ep t) {x : Addr} {k : List Int} (hx : IsT P w s.heap k x) (hu : A.units < cLine) {Q : SetFound → Shared → Prop}
    (yes : k ∈ L.map (·.2) → Q (.there none) s)
    (no : ∀ K, k ∉ L.map (·.2) → way t.mask (thash P w k) K ∉ t.place.toList → (∀ c, c < K → way t.mask (thash P w k) c ∈ t.place.toList) → Q (.free (way t.mask (thash P w k) K) false) s) :
    wpAny (model P w) A (setSearch a (.ref x) (thash P w k) true) Q E s := by
  have r := R.rm
  have c := R.cap
  have fw := R.few
  obtain ⟨K, k1, k2, k3⟩ := R.tb.rnd.first (thash P w k) (js := t.place.toList) (by rw [R.tb.len, List.length_map]; omega)
  unfold setSearch
  refine R.look hx hu k1 k2 k3 yes (fun z => no K z k2 k3) 100000 0 none rfl (Nat.zero_le _) ?_ fun i p z e => ?_
  · unfold SetTable.turns at k1
    omega
  · obtain ⟨c', l1, l2⟩ := R.tb.ahead k2 (i := i) (by rw [List.getElem?_map, z]; exact congrArg (fun y => some (thash P w y)) e)
    exact ⟨c', Nat.zero_le _, l1, l2⟩
theorem Zjv {o : Obj} {hs : List Int} (ho : s.heap.get? a = some o) (hex : o.ExactSet) (hd : o.data = .set es ep t) (hr : es.toList = rowsOf P w L) (T : Tb t hs) (hl : hs.length = L.length) (hm : L.length ≤ t.mask)
    (one : (L.map (·.2)).Nodup) (tp : ∀ p ∈ L, IsT P w s.heap p.2 p.1) (pl : t.plain = true) (ld : w.params.followText "set-order" = true ∨ t.led = true) (few : L.length < 1000) (ne : 0 < L.length) {Q : Unit → Shared → Prop}
    (hQ : ∀ h' L' es' ep' t', Heap.SameBut a s.heap h' → Sb P w h' a L' es' ep' t' → L'.Perm L → Q () { s with heap := h' }) : wpAny (model P w) A (setRelay a (SetTable.grown L.length)) Q E s := by
  have sz := Zc8 hr
  have g : SetTable.grown L.length = L.length * 4 := by
    unfold SetTable.grown
    rw [if_neg (by omega)]
  obtain ⟨M, m1, m2, m3, m4⟩ := Zkx (n := L.length * 4) (by omega)
  obtain ⟨t', order, e, pm, T2, em, el, epl⟩ := anew m2 t (hs := es.map (·.1)) m1 (by rw [Array.size_map, sz]; omega)
  rw [Array.size_map, sz] at pm
  obtain ⟨L2, r1, r2, r3⟩ := order_rows L es order hr pm
  rw [← r3] at T2
  have sz2 : (order.filterMap (es[·]?)).size = es.size := by rw [Zc8 r1, r2.length_eq, sz]
  rw [g, setRelay_eq]
  refine wpAny_bind (wpAny_setState_of ho hd (fit T (by rw [sz, hl]) (by rw [sz]; exact hm)) ?_)
  dsimp only
  refine wp_if_neg (by rw [m1, sizeLine_eq]; omega) ?_
  try refine wpAny_bind (wpAny_pure ?_)
  rw [e]
  dsimp only
  refine wpAny_bind (wp_if_neg (by rw [sz2]; simp) ?_)
  try refine wpAny_bind (wpAny_pure ?_)
  refine wpAny_pure (wpAny_storeSet_of ho hd ?_ (by rw [sz2, sz, sizeLine_eq]; omega))
  have sb : Heap.SameBut a s.heap (s.heap.update a (Obj.putSet (order.filterMap (es[·]?)) t')) := Heap.SameBut.update ..
  refine hQ _ L2 _ _ t' sb { obj := ⟨_, store_at ho hd, ⟨hex.1, hex.2.1, hex.2.2⟩, rfl⟩, rws := r1, tb := T2, one := (r2.map (·.2)).nodup_iff.mpr one, tp := fun p z => isT_same (tp p (r2.mem_iff.mp z)) ho hd sb, pla := epl.trans pl, ord := ?_, rm := ?_, cap := ?_, few := ?_ } r2
  · rw [el]; exact ld
  · rw [r2.length_eq, em]; omega
  · rw [r2.length_eq, em]; omega
  · rw [r2.length_eq]; exact few
theorem Sb.add (R : Sb P w s.heap a L es ep t) {x : Addr} {k : List Int} (hx : IsT P w s.heap k x) (hu : A.units < cLine) (few : L.length + 1 < 1000) {Q : Bool → Shared → Prop}
    (hQ : ∀ b h' L' es' ep' t', Heap.SameBut a s.heap h' → Sb P w h' a L' es' ep' t' → (k ∈ L.map (·.2) → L' = L) → (k ∉ L.map (·.2) → L'.Perm ((x, k) :: L)) → Q b { s with heap := h' }) :
    wpAny (model P w) A (setAddHashed a (.ref x) (thash P w k)) Q E s := by
  obtain ⟨o, ho, hex, hd⟩ := R.obj
  have sz := Zc8 R.rws
  have rm := R.rm
  unfold setAddHashed
  refine wpAny_holding ?_
  rw [show (100000 : Nat) = 99999 + 1 from rfl, setAddHashedIn_succ]
  refine wpAny_bind (wpAny_setState_of ho hd R.fit ?_)
  dsimp only
  refine wp_if_neg (by simp [byScan, Value.scannable]) ?_
  try refine wpAny_bind (wpAny_pure ?_)
  refine wpAny_bind (R.search hx hu (fun m => ?_) fun K m hK hb => ?_)
  · exact wpAny_pure (hQ false s.heap L es ep t (Heap.SameBut.refl a s.heap) R (fun _ => rfl) fun z => absurd m z)
  · dsimp only
    refine wpAny_bind (wpAny_setState_of ho hd R.fit ?_)
    dsimp only
    generalize hp : SetTable.below t.place (way t.mask (thash P w k) K) = p
    obtain ⟨p1, T1, fl⟩ := R.tb.put hp hK hb
    have e2 : (t.put (way t.mask (thash P w k) K)).2 = p := hp
    have pl1 : (t.put (way t.mask (thash P w k) K)).1.plain = true := R.pla
    have ld1 : w.params.followText "set-order" = true ∨ (t.put (way t.mask (thash P w k) K)).1.led = true := R.ord
    have mk1 : (t.put (way t.mask (thash P w k) K)).1.mask = t.mask := rfl
    generalize t.put (way t.mask (thash P w k) K) = tp at T1 fl e2 pl1 ld1 mk1 ⊢
    obtain ⟨t1, p'⟩ := tp
    dsimp only at T1 fl e2 pl1 ld1 mk1 ⊢
    subst e2
    first
      | (refine wpAny_bind ?_; refine wp_if_pos pl1 ?_; refine hashBy_tup hx ?_)
      | refine wp_if_pos pl1 (wpAny_bind (hashBy_tup hx ?_))
    simp only [if_true]
    have rw1 : (SetTable.insertAt es p' (thash P w k, Value.ref x)).toList = rowsOf P w (L.take p' ++ (x, k) :: L.drop p') := by rw [SetTable.toList_insertAt, rows_put, R.rws]
    have pm := put_perm L p' (x, k)
    have hh : (L.map fun p => thash P w p.2).take p' ++ thash P w k :: (L.map fun p => thash P w p.2).drop p' = (L.take p' ++ (x, k) :: L.drop p').map fun p => thash P w p.2 := by simp
    rw [hh] at T1
    rw [List.length_map] at fl
    generalize SetTable.insertAt es p' (thash P w k, Value.ref x) = es1 at rw1 ⊢
    generalize L.take p' ++ (x, k) :: L.drop p' = L1 at pm T1 rw1
    have len1 : L1.length = L.length + 1 := pm.length_eq
    have sz1 : es1.size = L.length + 1 := (Zc8 rw1).trans len1
    have one1 : (L1.map (·.2)).Nodup := (pm.map (·.2)).nodup_iff.mpr (List.nodup_cons.mpr ⟨m, R.one⟩)
    refine wpAny_bind (wpAny_storeSet_of ho hd ?_ (by rw [sz1, sizeLine_eq]; omega))
    have sb : Heap.SameBut a s.heap (s.heap.update a (Obj.putSet es1 t1)) := Heap.SameBut.update ..
    have ho1 := store_at (es' := es1) (t' := t1) ho hd
    generalize s.heap.update a (Obj.putSet es1 t1) = h1 at sb ho1 ⊢
    have tp1 : ∀ p ∈ L1, IsT P w h1 p.2 p.1 := fun p z => by
      rcases List.mem_cons.mp (pm.mem_iff.mp z) with z | z
      · subst z
        exact isT_same hx ho hd sb
      · exact isT_same (R.tp p z) ho hd sb
    have full : t1.tooFull = decide ((L.length + 1) * 5 ≥ t.mask * 3) := by
      unfold SetTable.tooFull
      rw [fl, mk1]
    by_cases hf : t1.tooFull = true
    · rw [sz]
      have relay : wpAny (model P w) A (setRelay a (SetTable.grown (L.length + 1))) (fun _ s' => wpAny (model P w) A (pure true) Q E s') E { s with heap := h1 } := by
        rw [← len1]
        refine Zjv (s := { s with heap := h1 }) ho1 ⟨hex.1, hex.2.1, hex.2.2⟩ rfl rw1 T1 (by rw [List.length_map]) (by rw [len1, mk1]; omega) one1 tp1 pl1 ld1 (by omega) (by omega) fun h2 L2 es2 ep2 t2 sb2 R2 pm2 => ?_
        exact wpAny_pure (hQ true h2 L2 es2 ep2 t2 (sb.trans sb2) R2 (fun z => absurd z m) fun _ => pm2.trans pm)
      first
        | (refine wpAny_bind ?_; refine wp_if_pos (by simp [hf]) ?_; exact relay)
        | (refine wp_if_pos (by simp [hf]) ?_; refine wpAny_bind ?_; exact relay)
    · have lt : (L.length + 1) * 5 < t.mask * 3 := by
        rw [full, decide_eq_true_eq] at hf
        omega
      have cp := R.cap
      have done : wpAny (model P w) A (pure true) Q E { s with heap := h1 } := wpAny_pure (hQ true h1 L1 es1 (ep + 1) t1 sb { obj := ⟨_, ho1, ⟨hex.1, hex.2.1, hex.2.2⟩, rfl⟩, rws := rw1, tb := T1, one := one1, tp := tp1, pla := pl1, ord := ld1, rm := by rw [len1, mk1]; exact lt, cap := by rw [len1, mk1]; omega, few := by omega } (fun z => absurd z m) fun _ => pm)
      first
        | exact wp_if_neg (by simp [hf]) done
        | (refine wpAny_bind ?_; refine wp_if_neg (by simp [hf]) ?_; exact wpAny_pure done)
end
end DL
set_option Elab.async false
set_option linter.all false
set_option maxRecDepth 100000
set_option maxHeartbeats 4000000
namespace DL
open PySem PySem.Spec PyProof.Rows L2
theorem Sb.keeps {P : Program} {w : World} {h h' : Heap} {a : Addr} {L : List (Addr × List Int)} {es : Array (Int × Value)} {ep : Nat} {t : SetTable} (R : Sb P w h a L es ep t) (ka : ∀ o, h.get? a = some o → h'.get? a = some o) (kt : ∀ p ∈ L, IsT P w h' p.2 p.1) : Sb P w h' a L es ep t := by
  obtain ⟨o, e, r⟩ := R.obj
  exact { R with obj := ⟨o, ka o e, r⟩, tp := kt }
theorem Sb.new {P : Program} {w : World} {h : Heap} {a : Addr} (ho : h.get? a = some { cls := .type "set", dict := none, data := .set #[] 0 (.fresh 0 0 (!w.params.followText "set-order")) }) :
    Sb P w h a [] #[] 0 (.fresh 0 0 (!w.params.followText "set-order")) := by
  refine { obj := ⟨_, ho, ⟨rfl, rfl, rfl⟩, rfl⟩, rws := rfl, tb := ?_, one := List.nodup_nil, tp := fun p z => (by cases z), pla := rfl, ord := ?_, rm := (by show 0 * 5 < 7 * 3; decide), cap := (by show 7 ≤ 8 * 0 + 7; decide), few := (by show 0 < 1000; decide) }
  · exact { asc := List.Pairwise.nil, cl := rfl, len := rfl, rnd := ⟨2, rfl⟩, top := fun x z => (by cases z), found := fun i h j z => (by simp at z) }
  · cases h : w.params.followText "set-order" with
    | true => exact .inl rfl
    | false => exact .inr (by show (!false) = true; rfl)
section
variable {P : Program} {w : World} {A : Around} {E : Value → Shared → Prop} {s : Shared}
end
end DL
set_option Elab.async false
set_option linter.all false
set_option maxRecDepth 100000
set_option maxHeartbeats 4000000
namespace DL
open PySem PySem.Spec PyProof.Rows L2
section
variable {P : Program} {w : World} {A : Around} {E : Value → Shared → Prop} {s : Shared} {a : Addr} {L : List (Addr × List Int)} {es : Array (Int × Value)} {ep : Nat} {t : SetTable}
end
noncomputable def SbO (P : Program) (w : World) (a : Addr) (L : List (Addr × List Int)) : HO := .ext fun h => ∃ es ep t, (∃ o, h.get? a = some o ∧ o.ExactSet ∧ o.data = .set es ep t) ∧ ∀ h', (∃ o, h'.get? a = some o ∧ o.ExactSet ∧ o.data = .set es ep t) → (∀ p ∈ L, IsT P w h' p.2 p.1) → Sb P w h' a L es ep t
theorem Sb.ho {P : Program} {w : World} {H : Hp} {h : Heap} {a : Addr} {L : List (Addr × List Int)} {es : Array (Int × Value)} {ep : Nat} {t : SetTable} (R : Sb P w h a L es ep t) : ObjOk P w H h a (SbO P w a L) := by
  obtain ⟨o, ho, r⟩ := R.obj
  have r0 : ∃ o, h.get? a = some o ∧ o.ExactSet ∧ o.data = .set es ep t := ⟨o, ho, r⟩
  refine ⟨⟨es, ep, t, r0, fun h' ob tp => { R with obj := ob, tp := tp }⟩, ⟨o, ho⟩, fun h1 h2 p k => ?_⟩
  obtain ⟨es', ep', t', ⟨o', ho', r'⟩, q⟩ := p
  exact ⟨es', ep', t', ⟨o', k o' ho', r'⟩, q⟩
section
variable {X : Cx} {F : Fr} {W : WX} {e : Expr} {we : WE} {pos p pos2 p2 : Pos}
end
end DL
set_option Elab.async false
set_option linter.all false
set_option maxRecDepth 100000
set_option maxHeartbeats 4000000
namespace DL
open PySem PySem.Spec PyProof.Rows L2
section
variable {F : Fr} {S S' H H' : Hp} {l : List Cell} {p : Cell}
variable {X : Cx} {W : WX} {e : Expr} {we : WE} {pos q : Pos}
end
end DL
set_option Elab.async false
set_option linter.all false
set_option maxRecDepth 100000
set_option maxHeartbeats 4000000
namespace DL
open PySem PySem.Spec PyProof.Rows L2
section
variable {X : Cx} {F : Fr} {W : WX} {a b : Expr} {wa wb : WE} {pos : Pos}
end
end DL
set_option Elab.async false
set_option linter.all false
set_option maxRecDepth 100000
set_option maxHeartbeats 4000000
namespace DL
open PySem PySem.Spec PyProof.Rows L2
section
variable {X : Cx} {F : Fr} {W : WX} {e : Expr} {we : WE} {pos p : Pos}
end
end DL
set_option Elab.async false
set_option linter.all false
set_option maxRecDepth 100000
set_option maxHeartbeats 4000000
namespace DL
open PySem PySem.Spec PyProof.Rows L2
structure GKeys (K : PySem.W.Frag) (w : World) (mg : Str → Option Value) (x : Str) (ks : List Str) : Prop where
  ex : ∃ a es n, mg x = some (.ref a) ∧ KDict K w a es n ∧ es.toList.map He.keyOf = He.keysIn w.params ks
theorem Zgo {P : Params} (s : Str) : ∀ {l : List DictEntry} {ks : List Str}, l.map He.keyOf = He.keysIn P ks → (l.find? (·.key.isStr s)).isSome = decide (s ∈ ks) ∧ l.any (·.refKey) = false
  | [], [], _ => ⟨by simp, rfl⟩
  | [], _ :: _, h => by cases h
  | _ :: _, [], h => by cases h
  | e :: r, k :: ks, h => by
    have h1 : He.keyOf e :: r.map He.keyOf = some (k, PyData.keyHash P k) :: He.keysIn P ks := h
    injection h1 with h2 h3
    obtain ⟨i1, i2⟩ := Zgo s h3
    obtain ⟨hash, key, val⟩ := e
    unfold He.keyOf at h2
    dsimp only at h2
    cases key with
    | str x t =>
      cases h2
      refine ⟨?_, ?_⟩
      · rw [List.find?_cons]
        by_cases c : k = s
        · have z : (Value.str k t).isStr s = true := by show (k == s) = true; simpa using c
          simp only [z]
          simp [c]
        · have z : (Value.str k t).isStr s = false := by show (k == s) = false; simpa using c
          have c' : ¬ s = k := fun e => c e.symm
          simp only [z, List.mem_cons, c', false_or]
          exact i1
      · rw [List.any_cons, i2]
        rfl
    | _ => cases h2
theorem GKeys.at {K : PySem.W.Frag} {w : World} {mg : Str → Option Value} {x : Str} {ks : List Str} (G : GKeys K w mg x ks) (s : Str) : ∃ a es n r, mg x = some (.ref a) ∧ KDict K w a es n ∧ PySem.W.nsIn K a s = some r ∧ r.isSome = decide (s ∈ ks) := by
  obtain ⟨a, es, n, hm, D, hk⟩ := G.ex
  obtain ⟨h1, h2⟩ := Zgo s hk
  refine ⟨a, es, n, (es.toList.find? (·.key.isStr s)).map (·.val), hm, D, ?_, by rw [Option.isSome_map, h1]⟩
  unfold PySem.W.nsIn
  rw [D.at_]
  dsimp only
  cases q : es.toList.find? (·.key.isStr s) with
  | some e => rfl
  | none =>
    dsimp only
    rw [h2]
    rfl
section
variable {X : Cx} {F : Fr} {W : WX} {x : Str} {p pos : Pos} {e : Expr} {we : WE} {ks : List Str}
end
structure GTup (K : PySem.W.Frag) (mg : Str → Option Value) (x : Str) (ks : List Str) : Prop where
  ex : ∃ a, mg x = some (.ref a) ∧ ∀ H : Hp, SqT K H a (ks.map V.str)
section
variable {X : Cx} {F : Fr} {W : WX} {x : Str} {p pos : Pos} {e : Expr} {we : WE} {ks : List Str}
end
end DL
set_option Elab.async false
set_option linter.all false
set_option maxRecDepth 100000
set_option maxHeartbeats 4000000
namespace DL
open PySem PySem.Spec PyProof.Rows L2
section
variable {F : Fr} {S H : Hp} {l : List Cell}
end
section
variable {X : Cx} {F : Fr} {W : WX} {e : Expr} {we : WE}
end
end DL
set_option Elab.async false
set_option linter.all false
set_option maxRecDepth 100000
set_option maxHeartbeats 4000000
namespace DL
open PySem PySem.Spec PyProof.Rows L2
section
variable {X : Cx} {F : Fr} {W : WX} {a b : Expr} {wa wb : WM} {pos : Pos}
end
section
variable {X : Cx} {F : Fr} {W : WX} {e : Expr} {we : WE} {pos p : Pos}
end
end DL
set_option Elab.async false
set_option linter.all false
set_option maxRecDepth 100000
namespace DL
open PySem PySem.Spec PyProof.Rows L2
variable {F : Fr}
variable {X : Cx} {W : WX} {e : Expr} {we : WE} {pos p p2 q : Pos}
end DL
set_option Elab.async false
set_option linter.all false
set_option maxRecDepth 100000
set_option maxHeartbeats 4000000
namespace DLQ
open Lean Elab Tactic Meta PySem PySem.Calls PyProof.Rows PyProof.V PySem.Spec PySem.SeqAt
open AutoSeq1 (wpAny_loadPart')
open MeetsSeq MeetsSeq2 MeetsSeq3 SeqRoads2
section
variable {prog : Program} {w : World}
end
end DLQ
namespace DL
open PySem PySem.Spec PyProof.Rows L2
section
variable {X : Cx} {F : Fr} {W : WX} {a b : Expr} {wa wb : WE} {pos : Pos}
end
end DL
set_option Elab.async false
set_option linter.all false
set_option maxRecDepth 100000
set_option maxHeartbeats 4000000
namespace DL
open PySem PySem.Spec PyProof.Rows L2
section
variable {F : Fr} {H : Hp} {l : List Cell} {env : En} {σ : L2.St} {i : Nat}
end
section
variable {X : Cx} {F : Fr} {W : WX} {e o : Expr} {es : List Expr} {wm : WM} {i : Nat} {apos cpos pos p : Pos}
end
end DL
set_option Elab.async false
set_option linter.all false
set_option maxRecDepth 100000
set_option maxHeartbeats 4000000
namespace DLQ
open PySem PySem.Spec PySem.Calls PyProof.Rows PySem.W Builtin Builtin.ObjectAttr Builtin.Getset_descriptor
section
structure AtX (h : Heap) (x : Addr) (ox : Obj) (C : Addr) : Prop where
  at_ : h.get? x = some ox
  cls : ox.cls = .ref C
theorem AtX.type {M : Model} {h : Heap} {x C : Addr} {ox : Obj} (I : AtX h x ox C) : Looks M h (typeOf (.ref x)) (.ref C) := I.cls ▸ (Looks.ld I.at_).andThen .now
variable {prog : Program} {w : World} {A : Around} {E : Value → Shared → Prop} {s : Shared} {K : Frag} {x D : Addr} {ox : Obj}
theorem Zhf {M : Model} {h : Heap} (X : K.In h) {x C : Addr} {name : Str} {a g : Value} (ha : findIn K (.ref C) name = some (some a)) (hg : specialIn K a "__get__" = some (some g)) (ht : takesIn K a = some true) : Looks M h (find (.ref x) (.ref C) name) (.bind g a) := by
  have L1 := looks_findIn (M := M) X ha
  have L3 := looks_takesIn (M := M) X ht
  refine L1.andThen (Looks.andThen (looks_specialIn X hg) ?_)
  exact (show Looks M h (dataDescriptor? (some a) (some g)) (some (g, a)) from L3.andThen .now).andThen (Looks.tag .now)
theorem Zik {R : Result → Shared → Prop} {C : Addr} {ox : Obj} {tp : Value} (X : K.In s.heap) (I : AtX s.heap x ox C) (hm : mroIn K C (.type "object") = some true)
    (h : R (.ok (.ret (.ref C))) s) : codeAny (model prog w) A (.call (.builtin "getset_descriptor.__get__") ⟨[.builtin "object.__class__", .ref x, tp], []⟩) R s := by
  obtain ⟨hh, g, dr, t, os⟩ := s
  have L0 := I.type (M := model prog w)
  have L1 := looks_mroIn (M := model prog w) X hm
  refine codeAny_call_builtin KF.slot_gs.plain KF.entry_gs (KF.slot_gs.check _ _ _ _ _ _ _ _ KF.type_class (KF.args_gs _ _ _) ?_)
  unfold Builtin.«getset_descriptor.__get__» descrGet
  rw [dga_obj]
  refine wpAny_bind (wpAny_pure ?_)
  unfold descrGetter descrCheckInstance descrNameAndClass isInstance
  simp only [KF.owner_class]
  repeat lk
  refine ⟨Code.quiet_builtin _ (by decide +kernel), codeAny_builtin KF.entry_class ?_⟩
  unfold Builtin.«object.__class__» shownTypeOf
  repeat lk
  exact h
theorem Zif {Q : Option Value → Shared → Prop} (hga : findIn K (.ref D) "__getattribute__" = some (some (.builtin "BaseException.__getattribute__"))) (hgt : findIn K (.ref D) "__getattr__" = some none) (hsub : subIn K (.ref D) (.type "BaseException") = some true)
    (hdct : hasDictIn K D = true) (ha : findIn K (.ref D) "__class__" = some (some (.builtin "object.__class__")))
    (hn : specialIn K (.builtin "object.__class__") "__get__" = some (some (.builtin "getset_descriptor.__get__"))) (htk : takesIn K (.builtin "object.__class__") = some true) (hm : mroIn K D (.type "object") = some true)
    (X : K.In s.heap) (I : AtX s.heap x ox D) (h : Q (some (.ref D)) { s with toks := s.toks + 1 }) : wpAny (model prog w) A (getAttr? (.ref x) "__class__") Q E s := by
  obtain ⟨hp, g, d, t, os⟩ := s
  have L0 := I.type (M := model prog w)
  have L1 := looks_findIn (M := model prog w) X hga
  have L2 := looks_findIn (M := model prog w) X hgt
  have L3 := Zhf (M := model prog w) (x := x) X ha hn htk
  have sub : Looks (model prog w) hp (isInstance (.ref x) (.type "BaseException")) true := L0.andThen (looks_subIn X hsub)
  have hx0 : (false && onTheHeap (Value.builtin "BaseException.__getattribute__")) = false := rfl
  have hx2 : (Value.builtin "BaseException.__getattribute__" == Value.builtin "object.__getattribute__") = false := by decide +kernel
  have hx1 : (onTheHeap (Value.ref D) && Value.builtin "BaseException.__getattribute__" == Value.builtin "object.__getattribute__") = false := by rw [hx2]; rfl
  unfold getAttr? getAttrBy? getAttrBy
  refine wpAny_bind (wpAny_mkText (wpAny_bind (wpAny_attempt (wpAny_holding (wpAny_bind (L0.at (wpAny_bind (L1.at ?_))))))))
  show wpAny _ _ (if (onTheHeap (Value.ref D) && Value.builtin "BaseException.__getattribute__" == Value.builtin "object.__getattribute__") = true then _ else _) _ _ _
  rw [hx1, if_neg Bool.false_ne_true]
  unfold getAttrByItsOwn hookBefore
  refine wpAny_bind ?_
  rw [if_pos (show onTheHeap (Value.ref D) = true from rfl)]
  refine L2.at ?_
  refine wpAny_bind (wpAny_attempt (wpAny_holding ?_))
  unfold callGetattribute
  rw [hx0, if_neg Bool.false_ne_true]
  unfold boundAndCalled
  rw [PySem.F.excAttr_ValueError.ga.bind (.ref x)]
  refine wpAny_bind (wpAny_pure ?_)
  show wpAny _ _ (call (.builtin "BaseException.__getattribute__") [.ref x, .str "__class__" t]) _ _ _
  refine wpAny_call (codeAny_call_builtin PySem.F.excAttr_ValueError.ga.plain PySem.F.entry_bexc_ga ?_)
  refine @check_slot (model prog w) _ _ ⟨hp, g, d, t + 1, os⟩ "BaseException.__getattribute__" "BaseException" "__getattribute__" (.ref x) [.str "__class__" t] [] _ (by decide +kernel) (by decide +kernel) sub (PySem.F.args_bexc_ga (.ref x) (.str "__class__" t)) ?_
  unfold Builtin.«object.__getattribute__»
  refine wpAny_bind (wpAny_of_eq (a := ((Value.ref x : Value), [Value.str "__class__" t])) (by first | rfl | (simp only [slotArgs]; rfl)) ?_)
  refine wpAny_bind (wpAny_pure (wpAny_bind (L0.at (wpAny_bind (L3.at ?_)))))
  show wpAny _ _ (holding [Value.builtin "object.__class__"] (call (.builtin "getset_descriptor.__get__") [.builtin "object.__class__", .ref x, .ref D]) >>= ret) _ _ _
  refine wpAny_bind (wpAny_holding (wpAny_call (Zik (s := ⟨hp, g, d, t + 1, os⟩) (ox := ox) X I hm ?_)))
  refine wpAny_pure ?_
  show wpAny _ _ (handedOut (.ref D)) _ _ _
  rw [handedOut_of (v := .ref D) rfl]
  first
    | exact wpAny_pure (wpAny_pure h)
    | exact wpAny_pure h
    | exact wpAny_pure (wpAny_bind (wpAny_pure (wpAny_pure h)))
theorem kitx_excX (hga : findIn K (.ref D) "__getattribute__" = some (some (.builtin "BaseException.__getattribute__"))) (hgt : findIn K (.ref D) "__getattr__" = some none) (hsub : subIn K (.ref D) (.type "BaseException") = some true) (hdct : hasDictIn K D = true) (ha : findIn K (.ref D) "__class__" = some (some (.builtin "object.__class__")))
    (hn : specialIn K (.builtin "object.__class__") "__get__" = some (some (.builtin "getset_descriptor.__get__"))) (htk : takesIn K (.builtin "object.__class__") = some true) (hm : mroIn K D (.type "object") = some true) :
    KitX K (.ref x) (.ref D) (fun h => AtX h x ox D) where
  ty := fun _ _ _ I => I.type
  it := fun _ _ X _ => by
    obtain ⟨cdD, hcD, _⟩ := any_some hdct
    unfold clsIn at hcD
    split at hcD
    · rename_i c' d' cd' sl' ho
      intro A' Q' E' s' k q
      unfold isType loadHead
      exact wpAny_bind (wpAny_loadPart (k _ _ (X _ _ ho)) (wpAny_pure q))
    · cases hcD
  ne := fun h tp dd its n sl X htp => by
    obtain ⟨cdD, hcD, _⟩ := any_some hdct
    refine Bool.eq_false_iff.mpr fun q => ?_
    have e : D = tp := Value.ref.inj (beq_iff_eq.mp q)
    subst e
    unfold clsIn at hcD
    split at hcD
    · rename_i c' d' cd' sl' ho
      have z := (X _ _ ho).symm.trans htp
      cases z
    · cases hcD
  ca := fun X I k => Zif hga hgt hsub hdct ha hn htk hm X I k
end
end DLQ
namespace DL
open PySem PySem.Spec PyProof.Rows L2
section
variable {X : Cx} {F : Fr} {W : WX} {e : Expr} {we : WE} {p tp pos : Pos} {a A : Addr} {oe : Obj} {dd : Option Addr} {pn : List (Addr × Obj)} {c T : Str} {b : Bool}
end
end DL
set_option Elab.async false
set_option linter.all false
set_option maxRecDepth 100000
set_option maxHeartbeats 4000000
namespace DL
open PySem PySem.Spec PyProof.Rows L2
section
variable {X : Cx} {F : Fr} {W : WX} {e : Expr} {we : WE} {k : Nat} {p1 p2 p3 pos : Pos}
end
end DL
set_option Elab.async false
set_option linter.all false
set_option maxRecDepth 100000
set_option maxHeartbeats 4000000
namespace DL
open PySem PySem.Spec PyProof.Rows L2
section
variable {X : Cx} {F : Fr} {W : WX} {a : Expr} {x : Str} {pos p1 : Pos} {i : Nat}
end
end DL
set_option Elab.async false
set_option linter.all false
set_option maxRecDepth 100000
set_option maxHeartbeats 4000000
namespace DL
open PySem PySem.Spec PyProof.Rows L2
section
variable {X : Cx} {F : Fr} {W : WX} {e o : Expr} {wm : WM} {i : Nat} {pos apos cpos : Pos}
end
end DL
set_option Elab.async false
set_option linter.all false
set_option maxRecDepth 100000
set_option maxHeartbeats 4000000
namespace DL
open PySem PySem.Spec PyProof.Rows L2
section
variable {X : Cx} {F : Fr} {W : WX} {e : Expr} {we : WE} {x : Str} {apos cpos pos p2 p3 p4 : Pos}
end
end DL
set_option Elab.async false
set_option linter.all false
set_option maxRecDepth 100000
set_option maxHeartbeats 4000000
namespace DL
open PySem PySem.Spec PyProof.Rows L2
structure FnHot (P : Program) (w : World) (K : PySem.W.Frag) (mg : Str → Option Value) (base : Heap) (k : Nat) (f : Addr) (fd : FuncData) (ps : List Str) (po : Addr × Obj) (sp : Sp) : Prop where
  len : ∀ vs H Q E, sp vs H Q E → vs.length = ps.length
  run : ∀ (A : Around) (outer : List PySem.Env) (s : Shared) (H : Hp) (args : Args) (us : List Value) (vs : List V) (Q : VK) (E : XK), L2H.RoomH k A → L2H.PinOk outer H s po → Env0 P w K mg base A outer s H → BindsTo s fd args (ps.zip us) → Vals vs us → sp vs H Q E →
    codeAny (model P w) A (.call (.ref f) args) (CR (L2.CX P w) outer P w H s Q E) s
section
variable {P : Program} {w : World} {K : PySem.W.Frag} {mg : Str → Option Value} {base : Heap}
end
section
variable {P : Program} {w : World} {K : PySem.W.Frag} {mg : Str → Option Value} {base : Heap}
end
section
variable {X : Cx} {F : Fr} {W : WX} {e : Expr} {we : WE} {p tp pos : Pos} {a A : Addr} {oe : Obj} {dd : Option Addr} {c T : Str} {b : Bool}
end
section
variable {X : Cx} {F : Fr} {W : WX} {x y : Str} {p p2 pos : Pos} {a : Addr} {oe : Obj} {pn : List (Addr × Obj)} {i : Nat}
end
end DL
set_option Elab.async false
set_option linter.all false
set_option maxRecDepth 100000
set_option maxHeartbeats 4000000
namespace DL
open PySem PySem.Spec PyProof.Rows L2
section
variable {F : Fr} {H : Hp} {l : List Cell} {env : En} {σ : L2.St} {i n : Nat}
end
section
variable {X : Cx} {F : Fr} {W : WX} {es : List Expr} {wA : WA} {pos p p2 p3 : Pos}
end
end DL
set_option Elab.async false
set_option linter.all false
set_option maxRecDepth 100000
set_option maxHeartbeats 4000000
namespace DL
open PySem PySem.Spec PyProof.Rows L2
section
variable {X : Cx} {F : Fr} {W : WX} {a b : Expr} {wa wb : WE} {apos cpos : Pos}
end
section
variable {X : Cx} {F : Fr} {W : WX} {x : Str} {pos p : Pos}
end
end DL
set_option Elab.async false
set_option linter.all false
set_option maxRecDepth 100000
set_option maxHeartbeats 4000000
namespace DL
open PySem PySem.Spec PyProof.Rows L2
section
variable {X : Cx} {F : Fr} {W : WX} {a b : Expr} {wa wb : WE} {apos cpos : Pos}
end
end DL
set_option Elab.async false
set_option linter.all false
set_option maxRecDepth 100000
set_option maxHeartbeats 4000000
namespace DL
open PySem PySem.Spec PyProof.Rows L2
section
variable {F : Fr} {H : Hp} {l : List Cell}
end
section
variable {X : Cx} {F : Fr} {W : WX} {a b : Expr} {wa wb : WE} {pos : Pos}
end
end DL
set_option Elab.async false
set_option linter.all false
set_option maxRecDepth 100000
set_option maxHeartbeats 4000000
namespace DL
open PySem PySem.Spec PyProof.Rows L2
section
variable {prog : Program} {w : World} {A : Around} {E : Value → Shared → Prop} {s : Shared}
end
section
variable {X : Cx}
end
section
variable {F : Fr} {H : Hp} {l : List Cell}
variable {X : Cx} {W : WX} {e : Expr} {we : WE} {pos q : Pos}
end
end DL
set_option Elab.async false
set_option linter.all false
set_option maxRecDepth 100000
set_option maxHeartbeats 4000000
namespace DL
open PySem PySem.Spec PyProof.Rows L2
section
variable {F : Fr} {S H : Hp} {l : List Cell}
end
section
variable {X : Cx} {F : Fr} {W : WX} {a b e o : Expr} {wa wb we : WE} {wA : WA} {es : List Expr} {i : Nat} {pos apos cpos : Pos}
end
end DL
set_option Elab.async false
set_option linter.all false
set_option maxRecDepth 100000
set_option maxHeartbeats 4000000
namespace DL
open PySem PySem.Spec PyProof.Rows L2
section
variable {F : Fr} {H : Hp} {l : List Cell} {env : En} {σ : L2.St} {i n : Nat}
end
section
variable {X : Cx} {F : Fr} {W : WX} {es : List Expr} {idx : Expr} {wi : WE} {wA : WA} {pos p p2 p3 : Pos}
end
end DL
set_option Elab.async false
set_option linter.all false
set_option maxRecDepth 100000
set_option maxHeartbeats 4000000
namespace DL
open PySem PySem.Spec PyProof.Rows L2
noncomputable def tMkV (C : Addr) (sp : Sp) (dvs : List V) (ta : TA) : TE := fun σ H Q => ta σ H fun vs H1 => vs.length ≤ 1000 ∧ ∀ a, H1 a = none → sp (.ref a :: (vs ++ dvs)) (upd H1 a (exo a C none)) (fun v H2 => v = .non ∧ Q (.ref a) H2) (fun _ _ _ => False)
theorem Znp {X : Cx} {e : Expr} {es : List Expr} {ta : TA} {p pos : Pos} {CX : CXT} {x : Str} {C fI : Addr} {k : Nat} {fd : FuncData} {ps : List Str} {sp : Sp} {ds : List Value} {dvs : List V} (T : OexC X.K C) (iC : PySem.W.findIn X.K (.ref C) "__init__" = some (some (.ref fI))) (tI : PySem.W.typeIn X.K (.ref fI) = some (.type "function"))
    (F1 : FnOk X.prog X.w X.K X.mg X.base CX k fI fd ps sp) (hr : L2.Room (k + 1) X.A) (hb : Binds X.K fd ps ds) (hd : Vals dvs ds) (hx : Passes CX X (fun _ _ _ => False)) (hg : Gl X x) (hm : X.mg x = some (.ref C)) (ha : PA X (e :: es) ta)
    (hdb : (x == ("__debug__" : Str)) = false := by decide) (he : starEach (e :: es) X.env = (false, eval e X.env) :: starEach es X.env := by rfl) (hpl : (backTo pos (starEach es X.env)).any (·.1) = false := by rfl) :
    PE X (.Call (.Name x p) (e :: es) [] pos) (tMkV C sp dvs ta) := by
  refine ⟨fun pins s σ H Q I h => ?_⟩
  obtain ⟨nm, q, N, bs, bm, sn, sub, ab, col, dd, k0, k1, k2, k3, k5, hC, hbm⟩ := T.cls
  refine wpAny_Call_Name_kw (ld_glob I hg hm ?_ hdb)
  refine PySem.W.callWith_K (h₀ := X.base) I.ok.mod.kin T.kC (thn (ha.run pos pins s σ H _ I h) fun us s1 ⟨vs, H1, I1, r1, hz, q1⟩ => ⟨I1.kIn, ?_⟩) he hpl
  show wpAny _ _ (call (.ref C) us) _ _ _
  obtain ⟨hp, g, dr, tk, os⟩ := s1
  have hsz : hp.objs.size ≤ hp.objs.size + 1 := Nat.le_succ _
  have hn : H1 (hp.objs.size + 1) = none := I1.hok.fresh hsz
  have hq := q1 (hp.objs.size + 1) hn
  have kk : ∀ b o, hp.get? b = some o → ((hp.push (PySem.W.kdv_tup us)).push (PySem.HandSPX.excO C hp.objs.size)).get? b = some o := fun b o e => Heap.get?_push_of_some _ (Heap.get?_push_of_some _ e)
  have hget : ((hp.push (PySem.W.kdv_tup us)).push (PySem.HandSPX.excO C hp.objs.size)).get? (hp.objs.size + 1) = some (PySem.HandSPX.excO C hp.objs.size) := by heap_get
  have I2 : Inv X pins σ (upd H1 (hp.objs.size + 1) (exo (hp.objs.size + 1) C none)) ⟨(hp.push (PySem.W.kdv_tup us)).push (PySem.HandSPX.excO C hp.objs.size), g, dr, tk, os⟩ :=
    I1.laid (t' := tk) (a := hp.objs.size + 1) (o := exo (hp.objs.size + 1) C none) (h' := (hp.push (PySem.W.kdv_tup us)).push (PySem.HandSPX.excO C hp.objs.size)) kk hsz (exo_ok hget)
  have r2 : Vals (V.ref (hp.objs.size + 1) :: (vs ++ dvs)) (Value.ref (hp.objs.size + 1) :: (us ++ ds)) := .cons rfl (r1.append hd)
  have hl : (Value.ref (hp.objs.size + 1) :: us ++ ds).length = ps.length := by
    have e := r2.length
    rw [F1.len _ _ _ _ hq] at e
    exact e.symm
  have hus : us.length ≤ sizeLine := by
    rw [← Paired.length r1, sizeLine_eq]
    omega
  refine wpAny_call (PySem.HandSPX.call_own F.excBase_ValueError (fun Y => PySem.HandSPX.refsVE_contains Y bm hbm) (I1.kIn _ _ hC) (PySem.W.looks_findIn I1.kIn iC) (fun self => PySem.W.bind_fn I1.kIn self tI) hus
    (codeAny_mono (F1.run _ X.stack _ _ ⟨Value.ref (hp.objs.size + 1) :: us, []⟩ (Value.ref (hp.objs.size + 1) :: (us ++ ds)) _ _ (fun _ _ _ => False) (hr.make C us []) (I2.env0.make C us []) (hb _ (Value.ref (hp.objs.size + 1) :: us) I2.kIn hl) r2 hq) fun r s' hq' => ?_))
  cases r with
  | error er => exact hx pins σ _ _ er s' I2 hq'
  | ok fl =>
    cases fl with
    | ret u =>
      obtain ⟨v, H2, os2, bare2, un2, hok2, rv, ev, q2⟩ := hq'
      subst ev
      obtain ⟨h2, g2, d2, t2, os'⟩ := s'
      exact ⟨rv, .ref (hp.objs.size + 1), H2, I2.call' (ch := []) os2 un2 hok2 bare2 (fun b z => absurd z (by simp)), rfl, q2⟩
    | next => exact False.elim hq'
    | brk => exact False.elim hq'
    | cont => exact False.elim hq'
noncomputable def NsMg (K : PySem.W.Frag) (mg : Str → Option Value) (c : Str) : Prop := ∃ A, mg c = some (.ref A) ∧ PySem.W.nsIn K mainGlobals c = some (some (.ref A))
section
variable {X : Cx} {F : Fr} {W : WX} {e : Expr} {es : List Expr} {we : WE} {wA : WA} {c x f f1 f2 f3 T : Str} {p pos tp : Pos}
theorem Zlm {K : PySem.W.Frag} {mg : Str → Option Value} : ∀ c, (c, true) ∈ ([] : List (Str × Bool)) → NsMg K mg c := fun _ h => by cases h
theorem Zbe {K : PySem.W.Frag} {mg : Str → Option Value} {c0 : Str} {tab : List (Str × Bool)} (h : NsMg K mg c0) (r : ∀ c, (c, true) ∈ tab → NsMg K mg c) : ∀ c, (c, true) ∈ (c0, true) :: tab → NsMg K mg c := fun c hc => by
  rcases List.mem_cons.mp hc with e | hc
  · rw [(Prod.mk.inj e).1]; exact h
  · exact r c hc
noncomputable def wMkX (c : Str) (we : WE) : WE := fun env Q => we env (rk (fun _ => Q (.ok (.sh (.exc c [])))) Q)
theorem Zeb (h : Mono we) : Mono (wMkX c we) := fun env Q Q' m q => Zaq h (fun x hx => m _ hx) m q
theorem Zc3 (E : Zed F.K F.mg c) (N : NsMg F.K F.mg c) (he : DE X F W e we) (hg : Gl X c := by rfl) (hdb : (c == ("__debug__" : Str)) = false := by decide) (hs : starEach [e] X.env = (false, eval e X.env) :: starEach [] X.env := by rfl) (hK : X.K = F.K := by rfl) (hM : X.mg = F.mg := by rfl) :
    DE X F W (.Call (.Name c p) [e] [] pos) (wMkX c we) := by
  obtain ⟨C, gC, q, kC, _⟩ := E
  obtain ⟨A, nA, nN⟩ := N
  rw [gC] at nA
  cases nA
  refine ⟨Zbd (pe_exc1 PySem.F.excBase_ValueError (by rw [hK]; exact q) (by rw [hM]; exact gC) (by rw [hK]; exact kC) hg he.run hs hdb) fun σ H Q ⟨l, env, k, q⟩ => ⟨l, env, k, Zbi he.mono q (fun y hy v H1 c1 a ha => ?_) fun c fs z => z⟩, Zeb he.mono⟩
  exact hy _ _ (c1.tail.newSh ha fun S g cc => .exc nN (.inl ⟨rfl, upd_same⟩))
noncomputable def Zim (c f1 f2 f3 : Str) (wA : WA) : WE := fun env Q => wA env (rk (Zi1 fun i j k => Q (.ok (.sh (.exc c [(f3, k), (f2, j), (f1, i)])))) Q)
theorem Zjg (h : Mono wA) : Mono (Zim c f1 f2 f3 wA) := fun env Q Q' m q => Zaq h (fun x hx => Zil (fun _ _ _ z => m _ z) hx) m q
theorem C.grow2 {l : List Cell} {H H' : Hp} {a d : Addr} {o u : HO} (h : C F l H) (e : Same H H') (ha : H a = none) (hd : H d = none) (ea : H' a = some o) (ed : H' d = some u) : ∃ S, GS F S H' ∧ S a = some o ∧ S d = some u ∧ (∀ q ∈ l, SC F S H' q) ∧ l.Pairwise (Za4 H') := by
  obtain ⟨S, g, c, b⟩ := h
  have sa : S a = none := g.sh.free ha
  have sd : S d = none := g.sh.free hd
  refine ⟨fun b => if b = a then some o else if b = d then some u else S b, ⟨fun b v z => ?_, fun b v z => ?_, g.h0.trans e, fun b z => ?_⟩, by simp, ?_, fun q hq => ?_, Zd4 b c e⟩
  · have zz := g.s0 _ _ z
    have n1 : b ≠ a := fun w => by rw [w, sa] at zz; cases zz
    have n2 : b ≠ d := fun w => by rw [w, sd] at zz; cases zz
    simp only [n1, n2, if_false]
    exact zz
  · skip
    by_cases n1 : b = a
    · rw [if_pos n1] at z; rw [n1, ea]; exact z
    · rw [if_neg n1] at z
      by_cases n2 : b = d
      · rw [if_pos n2] at z; rw [n2, ed]; exact z
      · rw [if_neg n2] at z; exact e _ _ (g.sh _ _ z)
  · skip
    by_cases n1 : b = a
    · exact .inr (.inl (n1 ▸ g.h0.free ha))
    · by_cases n2 : b = d
      · exact .inr (.inl (n2 ▸ g.h0.free hd))
      · rw [if_neg n1, if_neg n2] at z ⊢
        exact g.fr b z
  · by_cases n : d = a
    · subst n; simp; rw [ea] at ed; exact Option.some.inj ed
    · simp [n]
  · refine (c q hq).grow (fun b v z => ?_) e fun b z => ?_
    · have n1 : b ≠ a := fun w => by rw [w, sa] at z; cases z
      have n2 : b ≠ d := fun w => by rw [w, sd] at z; cases z
      simp only [n1, n2, if_false]
      exact z
    · skip
      by_cases n1 : b = a
      · exact .inr (.inl (n1 ▸ ha))
      · by_cases n2 : b = d
        · exact .inr (.inl (n2 ▸ hd))
        · rw [if_neg n1, if_neg n2] at z
          exact .inl z
theorem Zjn {j : Nat} (A : Zlf X.prog X.w F.K F.mg X.base x f1 f2 f3) (N : NsMg F.K F.mg x) (hr : L2.Room j X.A) (hj : 2 ≤ j) (ha : DA X F W (e :: es) wA) (hg : Gl X x := by rfl) (hdb : (x == ("__debug__" : Str)) = false := by decide)
    (he : starEach (e :: es) X.env = (false, eval e X.env) :: starEach es X.env := by rfl) (hpl : (backTo pos (starEach es X.env)).any (·.1) = false := by rfl) (hK : X.K = F.K := by rfl) (hM : X.mg = F.mg := by rfl) :
    DE X F W (.Call (.Name x p) (e :: es) [] pos) (Zim x f1 f2 f3 wA) := by
  obtain ⟨C0, fI, fd, ps, hm, T, iC, tI, Fk, hb⟩ := A
  obtain ⟨A', nA, nN⟩ := N
  rw [hm] at nA
  cases nA
  refine ⟨Zbd (Znp (sp := Zg0 F.K C0 f1 f2 f3) (k := 1) (by rw [hK]; exact T.oex) (by rw [hK]; exact iC) (by rw [hK]; exact tI) (by rw [hK, hM]; exact Fk) (hr.mono hj) (by rw [hK]; exact hb) .nil (fun _ _ _ _ _ _ _ h => (Zmh h).elim) hg (by rw [hM]; exact hm) ha.run hdb he hpl) fun σ H Q ⟨l, env, k, q⟩ => ⟨l, env, k, Zdx ha.mono q (fun xs z vs H1 hl1 c1 => ?_) fun c fs z => z⟩, Zjg ha.mono⟩
  unfold Zi1 at z
  split at z
  · rename_i i j' k'
    match vs, hl1 with
    | [v1, v2, v3], _ =>
      have c1' : C F ((.sh (.int i), some v1) :: (.sh (.int j'), some v2) :: (.sh (.int k'), some v3) :: (l ++ env.zip σ)) H1 := c1
      have e1 := c1'.shInt
      have e2 := c1'.tail.shInt
      have e3 := c1'.tail.tail.shInt
      cases e1; cases e2; cases e3
      refine ⟨by simp, fun a ha => ⟨a, i, j', k', rfl, upd_same, fun H' d h1 h2 h3 ne keep => ⟨rfl, ?_⟩⟩⟩
      have hd : H1 d = none := by rw [upd_ne ne] at h3; exact h3
      have same : Same H1 H' := fun b u eb => by
        have na : b ≠ a := fun z => by subst z; rw [ha] at eb; cases eb
        exact keep b u na (by rw [upd_ne na]; exact eb)
      obtain ⟨S, g, sa, sd, cc, pw⟩ := c1'.tail.tail.tail.grow2 same ha hd h1 h2
      refine z _ H' ⟨S, g, fun q hq => ?_, Zar (fun z => z) pw⟩
      rcases List.mem_cons.mp hq with rfl | hq
      · exact ⟨_, rfl, .exc nN (.inr ⟨d, sa, sd⟩)⟩
      · exact cc q hq
  · exact z.elim
noncomputable abbrev Zbc : List (Str × Bool) := [(PySem.Str.ofString "BadDay", true), (PySem.Str.ofString "BadFeast", true), (PySem.Str.ofString "BadYear", true), (PySem.Str.ofString "NoBack", true), (PySem.Str.ofString "NoDay", true), (PySem.Str.ofString "NoFeast", true), (PySem.Str.ofString "NoForth", true), (PySem.Str.ofString "NoOrder", true), (PySem.Str.ofString "NoStand", true), (PySem.Str.ofString "NoYear", true), (PySem.Str.ofString "Sealed", true), (PySem.Str.ofString "Taken", true)]
theorem Zdc : (PySem.Str.ofString "BadDay", true) ∈ Zbc := List.mem_cons_self
noncomputable def oIsE (tab : List (Str × Bool)) (T : Str) (isa : Str → Str → Bool) : O1 := fun x k => match x with
  | .sh (.exc c _) => (c, true) ∈ tab ∧ k (.sh (.bl (isa c T)))
  | _ => False
theorem Zap {tab : List (Str × Bool)} {isa : Str → Str → Bool} : Zdn (oIsE tab T isa) := fun x k k' m h => by
  unfold oIsE at h ⊢
  split at h
  · exact ⟨h.1, m _ h.2⟩
  · exact h.elim
theorem Znv {P : Program} {w : World} {H S : Hp} {h : Heap} {a Ca : Addr} {fs : List (Str × Int)} (hok : HOk P w H h) (sh : Same S H) (r : ExS S a Ca fs) : ∃ oe vs, h.get? a = some oe ∧ oe.cls = .ref Ca ∧ oe.data = .fields vs := by
  rcases r with ⟨_, e⟩ | ⟨dd, e, _⟩
  · obtain ⟨⟨oe, vs, g, z, d, _⟩, _⟩ := (show ObjOk P w H h a (ExO (.ref Ca) a) from hok a _ (sh _ _ e))
    exact ⟨oe, vs, g, z.1, d⟩
  · obtain ⟨t, g⟩ := exo_at hok (sh _ _ e)
    exact ⟨_, _, g, rfl, rfl⟩
noncomputable def rIsV (K : PySem.W.Frag) (D : Addr) : List V → Hp → VK → Prop := fun xs H Q => ∃ (a : Addr) (S : Hp) (fs : List (Str × Int)) (cv : V) (cu : Value) (b : Bool), xs = [.ref a, cv] ∧ Same S H ∧ ExS S a D fs ∧ (∀ u, RelV cv u → u = cu) ∧ PySem.W.kitOne K (.ref D) cu = some b ∧ Q (.bl b) H
theorem Zks {D : Addr} (C : ExcC X.K D) : CallR X (.builtin "isinstance") (rIsV X.K D) := by
  intro pins s σ H xs us Q I r h
  obtain ⟨a, S, fs, cv, cu, b, rfl, sh, ex, hcv, e, q⟩ := h
  cases r with
  | cons rx rr =>
    cases rr with
    | cons rt rr =>
      cases rr
      cases rx
      have ec := hcv _ rt
      subst ec
      obtain ⟨oe, vs, g, hc, _⟩ := Znv I.hok sh ex
      have J : DLQ.AtX s.heap a oe D := ⟨g, hc⟩
      exact PySem.W.kia_one (DLQ.kitx_excX C.hg C.hk C.hs C.hd C.ha C.hn C.ht C.hm) I.kIn J e (fun z => nomatch z) fun tk => ⟨.bl b, H, I.kept (t' := tk) fun _ _ z => z, rfl, q⟩
theorem Zbv {tab : List (Str × Bool)} {isa : Str → Str → Bool} {c0 : Str} (I : ∀ c, (c, true) ∈ tab → IsE F.K F.mg c T (isa c T)) (N : ∀ c, (c, true) ∈ tab → NsMg F.K F.mg c) (h0 : (c0, true) ∈ tab) (hm : X.mg "isinstance" = none) (he : DE X F W e we) (hg : Gl X "isinstance" := by rfl) (hgT : Gl X T := by rfl) (hdT : (T == ("__debug__" : Str)) = false := by decide)
    (hs : starEach (e :: [.Name T tp]) X.env = (false, eval e X.env) :: starEach [.Name T tp] X.env := by rfl) (hpl : (backTo pos (starEach [.Name T tp] X.env)).any (·.1) = false := by rfl) (hK : X.K = F.K := by rfl) (hM : X.mg = F.mg := by rfl) :
    DE X F W (.Call (.Name "isinstance" p) [e, .Name T tp] [] pos) (wUn (oIsE tab T isa) we) := by
  have go : ∀ {cv : V} {cu : Value}, (∀ u, RelV cv u → u = cu) → (∀ c A b, F.mg c = some (.ref A) → IsE F.K F.mg c T b → ExcC F.K A ∧ PySem.W.kitOne F.K (.ref A) cu = some b) → PE X (.Name T tp) (tC cv) → DE X F W (.Call (.Name "isinstance" p) [e, .Name T tp] [] pos) (wUn (oIsE tab T isa) we) := fun {cv cu} h1 h2 h3 => by
    refine ⟨Zbd (pe_callB (r := fun xs H Q => ∃ D, ExcC X.K D ∧ rIsV X.K D xs H Q) (fun pins s σ H xs us Q I r ⟨D, C, h⟩ => Zks C pins s σ H xs us Q I r h) hg hm (by decide +kernel) (pa_cons he.run (pa_cons h3 pa_nil) hs) (by decide) (by decide) hs hpl) fun σ H Q ⟨l, env, k, q⟩ => ?_, Zak he.mono Zap⟩
    refine ⟨l, env, k, Zbi he.mono q (fun x hx v H1 c1 => ?_) fun c fs z => z⟩
    unfold oIsE at hx
    split at hx
    · rename_i c fs
      obtain ⟨ht, hx⟩ := hx
      obtain ⟨S, g, cc, _⟩ := id c1
      obtain ⟨u, eu, r⟩ := cc _ List.mem_cons_self
      cases eu
      obtain ⟨A, mA, nA⟩ := N c ht
      have i1 := I c ht
      cases r with
      | @exc a Ca _ _ nN ex =>
        rw [nA] at nN
        cases nN
        obtain ⟨EC, ko⟩ := h2 c A _ mA i1
        exact ⟨A, by rw [hK]; exact EC, a, S, fs, cv, cu, isa c T, rfl, g.sh, ex, h1, by rw [hK]; exact ko, hx _ H1 (c1.tail.bl _)⟩
    · exact hx.elim
  have hT : (∃ C, F.mg T = some (.ref C)) ∨ ∃ U, F.mg T = none ∧ bootBuiltins T = some (.type U) ∧ T ≠ "__name__" := by
    obtain ⟨_, _, _, i⟩ := I c0 h0
    rcases i with ⟨C, g, _⟩ | ⟨U, g, g2, g3, _⟩
    · exact .inl ⟨C, g⟩
    · exact .inr ⟨U, g, g2, g3⟩
  rcases hT with ⟨C, h1⟩ | ⟨U, h1, h2, h3⟩
  · refine go (cv := .ref C) (fun u r => r) (fun c A b mA i => ?_) (pe_glob hgT (by rw [← hM] at h1; exact h1) rfl hdT)
    obtain ⟨A', mA', EC, i⟩ := i
    rw [mA] at mA'
    cases mA'
    rcases i with ⟨C', g1, g2⟩ | ⟨U, g1, _⟩
    · rw [h1] at g1; cases g1; exact ⟨EC, g2⟩
    · rw [h1] at g1; cases g1
  · refine go (cv := .ty U) (fun u r => r) (fun c A b mA i => ?_) (pe_bltn hgT (by rw [← hM] at h1; exact h1) h2 rfl h3 hdT)
    obtain ⟨A', mA', EC, i⟩ := i
    rw [mA] at mA'
    cases mA'
    rcases i with ⟨C', g1, g2⟩ | ⟨U', g1, g2, _, g4⟩
    · rw [h1] at g1; cases g1
    · rw [h2] at g2; cases g2; exact ⟨EC, g4⟩
noncomputable def Zdt (c f : Str) : O1 := fun x k => match x with
  | .sh (.exc c' fs) => c' = c ∧ (match fs.lookup f with | some i => k (.sh (.int i)) | none => False)
  | _ => False
theorem Za3 : Zdn (Zdt c f) := fun x k k' m h => by
  unfold Zdt at h ⊢
  split at h
  · refine ⟨h.1, ?_⟩
    have h := h.2
    split at h
    · exact m _ h
    · exact h.elim
  · exact h.elim
noncomputable def XfAt (K : PySem.W.Frag) (mg : Str → Option Value) (c f : Str) : Prop := ∃ A, PySem.W.nsIn K mainGlobals c = some (some (.ref A)) ∧ XfC K A ∧ PySem.W.findIn K (.ref A) f = some none
noncomputable def tXv (K : PySem.W.Frag) (f : Str) (te : TE) : TE := fun σ H Q => te σ H fun x H1 => ∃ (a A dd : Addr) (fs : List (Str × V)) (v : V), x = .ref a ∧ XfC K A ∧ PySem.W.findIn K (.ref A) f = some none ∧ H1 a = some (exo a A (some dd)) ∧ H1 dd = some (exd dd fs) ∧ fs.lookup f = some v ∧ Q v H1
theorem Zn5 {te : TE} (he : PE X e te) (hb : attributeBase e f X.env (eval e X.env) = eval e X.env := by rfl) : PE X (.Attribute e f pos) (tXv X.K f te) := by
  refine ⟨fun pins s σ H Q I h => ?_⟩
  refine attr_of hb (thn (he.run pins s σ H _ I h) fun u s1 hh => ?_)
  obtain ⟨x, H1, I1, rx, a, A, dd, fs, v, ex, T, hno, ea, ed, l, q⟩ := hh
  subst ex
  obtain rfl : u = Value.ref a := rx
  obtain ⟨t, ha⟩ := exo_at I1.hok ea
  obtain ⟨mA, hns, hr⟩ := exd_at I1.hok ed
  obtain ⟨od, ho, hl⟩ := lookIn_ns hns
  obtain ⟨u, hu, ru⟩ := RelO.some_of (v := v) (o := mA f) (by rw [← l]; exact hr f)
  have J : PySem.W.InstAt s1.heap a _ A (some od) := ⟨ha, rfl, by unfold PySem.W.notCls; rfl, ho⟩
  exact HandSPX.exc_get I1.kIn J T.ga T.gg T.exC (PySem.W.findObj_own T.hdC hno rfl (by rw [hl, hu])) (handed_of ru) ⟨v, H1, I1.tok _, ru, q⟩
theorem Zfp : ∀ (fs : List (Str × Int)) (f : Str) (i : Int), fs.lookup f = some i → (fs.map fun p => (p.1, V.int p.2)).lookup f = some (.int i)
  | [], _, _, h => by cases h
  | (g, j) :: fs, f, i, h => by
    rw [List.map_cons]
    rw [List.lookup_cons] at h ⊢
    cases hb : (f == g) with
    | true => rw [hb] at h; dsimp only at h ⊢; cases h; rfl
    | false => rw [hb] at h; dsimp only at h ⊢; exact Zfp fs f i h
theorem Zcp (A : XfAt F.K F.mg c f) (he : DE X F W e we) (hb : attributeBase e f X.env (eval e X.env) = eval e X.env := by rfl) (hK : X.K = F.K := by rfl) : DE X F W (.Attribute e f pos) (wUn (Zdt c f) we) := by
  obtain ⟨A, nA, T, hno⟩ := A
  refine ⟨Zbd (Zn5 he.run hb) fun σ H Q ⟨l, env, k, q⟩ => ⟨l, env, k, Zbi he.mono q (fun x hx v H1 c1 => ?_) fun c fs z => z⟩, Zak he.mono Za3⟩
  unfold Zdt at hx
  split at hx
  · rename_i c' fs
    obtain ⟨rfl, hx⟩ := hx
    split at hx
    · rename_i i hi
      obtain ⟨S, g, cc, _⟩ := id c1
      obtain ⟨u, eu, r⟩ := cc _ List.mem_cons_self
      cases eu
      cases r with
      | @exc a Ca _ _ nN ex =>
        rw [nA] at nN
        cases nN
        rcases ex with ⟨rfl, _⟩ | ⟨dd, e1, e2⟩
        · cases hi
        · exact ⟨a, A, dd, _, .int i, rfl, by rw [hK]; exact T, by rw [hK]; exact hno, g.sh _ _ e1, g.sh _ _ e2, Zfp fs f i hi, hx _ H1 (c1.tail.int _)⟩
    · exact hx.elim
  · exact hx.elim
end
end DL
set_option Elab.async false
set_option linter.all false
set_option maxRecDepth 100000
set_option maxHeartbeats 4000000
namespace DL
open PySem PySem.Spec PyProof.Rows L2
inductive Fault where
  | stuck | exc (c : Str) (fs : List (Str × D))
noncomputable abbrev P := Except Fault
@[reducible] noncomputable def stuck {α : Type} : P α := .error .stuck
@[reducible] noncomputable def Zow {α : Type} (c : String) : P α := .error (.exc (PySem.Str.ofString c) [])
noncomputable def Zfc {α β : Type} (a : α) (f : α → β) : β := f a
noncomputable def bd {α β : Type} (m : P α) (f : α → P β) : P β := match m with
  | .ok a => f a
  | .error e => .error e
theorem Za6 {α β : Type} {a : α} {f : α → P β} : bd (.ok a) f = f a := rfl
inductive Out (σ ρ : Type) where
  | nx (s : σ) | ct (s : σ) | bk (s : σ) | ret (r : ρ)
noncomputable def Zdo {α σ ρ : Type} (step : σ → α → P (Out σ ρ)) : List α → σ → P (Out σ ρ)
  | [], s => .ok (.nx s)
  | x :: xs, s => bd (step s x) fun o => match o with
    | .nx s' => Zdo step xs s'
    | .ct s' => Zdo step xs s'
    | .bk s' => .ok (.nx s')
    | .ret r => .ok (.ret r)
noncomputable def Ze4 {α σ : Type} (step : σ → α → P σ) : List α → σ → P σ
  | [], s => .ok s
  | x :: xs, s => bd (step s x) fun s' => Ze4 step xs s'
noncomputable def aft {σ ρ τ : Type} (m : P (Out σ ρ)) (ret : ρ → P τ) (nx : σ → P τ) : P τ := bd m fun o => match o with
  | .nx s => nx s
  | .ct s => nx s
  | .bk s => nx s
  | .ret r => ret r
noncomputable def Ze7 {α : Type} (m : P α) (f : α → Slot) (Q : R Slot → Prop) : Prop := match m with
  | .ok a => Q (.ok (f a))
  | .error (.exc c fs) => Q (.ex c fs)
  | .error .stuck => False
noncomputable def Zcx {α : Type} (m : P α) (cv : α → O) (K : O → Prop) : Prop := match m with
  | .ok a => K (cv a)
  | .error (.exc c fs) => ∀ e, K (.ex c fs e)
  | .error .stuck => False
noncomputable def EvP (env : En) (w : WE) (s : Slot) : Prop := ∀ Q : R Slot → Prop, Q (.ok s) → w env Q
noncomputable def EvM {α : Type} (env : En) (w : WE) (f : α → Slot) (m : P α) : Prop := ∀ Q : R Slot → Prop, Ze7 m f Q → w env Q
noncomputable def EvA (env : En) (w : WA) (xs : List Slot) : Prop := ∀ Q : R (List Slot) → Prop, Q (.ok xs) → w env Q
noncomputable def EvI (env : En) (w : WI) (ds : List D) : Prop := ∀ Q : R (List D) → Prop, Q (.ok ds) → w env Q
noncomputable def OpP (o : O2) (x y z : Slot) : Prop := ∀ k : Slot → Prop, k z → o x y k
noncomputable def UnP (o : O1) (x z : Slot) : Prop := ∀ k : Slot → Prop, k z → o x k
noncomputable def ofO {α : Type} : Option α → P α
  | some a => .ok a
  | none => stuck
noncomputable def OpM {α : Type} (o : O2) (x y : Slot) (f : α → Slot) (m : Option α) : Prop := ∀ (k : Slot → Prop) (a : α), m = some a → k (f a) → o x y k
noncomputable def UnM {α : Type} (o : O1) (x : Slot) (f : α → Slot) (m : Option α) : Prop := ∀ (k : Slot → Prop) (a : α), m = some a → k (f a) → o x k
noncomputable def Sim {α : Type} (γ : G) (xs : List Slot) (f : α → Slot) (m : P α) : Prop := ∀ Q : R Slot → Prop, Ze7 m f Q → γ xs Q
noncomputable def B {τ : Type} (env : En) (w : WS) (cv : τ → O) (m : P τ) : Prop := ∀ K : O → Prop, Zcx m cv K → w env K
noncomputable def BT {τ : Type} (env : En) (g : WG) (v : Slot) (w : WS) (cv : τ → O) (m : P τ) : Prop := ∀ K : O → Prop, Zcx m cv K → g v env fun e => w e K
@[reducible] noncomputable def shE {α : Type} (enc : α → D) : α → Slot := fun a => .sh (enc a)
@[reducible] noncomputable def owE {α : Type} (enc : α → D) : α → Slot := fun a => .ow (enc a)
@[reducible] noncomputable def blE : Bool → Slot := fun b => .sh (.bl b)
theorem specE_bd {α β : Type} {m : P α} {mm : α → P β} {g : β → Slot} {Q : R Slot → Prop} (h : Ze7 (bd m mm) g Q) : (∃ a, m = .ok a ∧ Ze7 (mm a) g Q) ∨ ∃ c fs, m = .error (.exc c fs) ∧ Q (.ex c fs) := by
  cases m with
  | ok a => exact .inl ⟨a, rfl, h⟩
  | error e => cases e with
    | stuck => exact h.elim
    | exc c fs => exact .inr ⟨c, fs, rfl, h⟩
theorem specO_bd {α β : Type} {m : P α} {mm : α → P β} {cv : β → O} {K : O → Prop} (h : Zcx (bd m mm) cv K) : (∃ a, m = .ok a ∧ Zcx (mm a) cv K) ∨ ∃ c fs, m = .error (.exc c fs) ∧ ∀ e, K (.ex c fs e) := by
  cases m with
  | ok a => exact .inl ⟨a, rfl, h⟩
  | error e => cases e with
    | stuck => exact h.elim
    | exc c fs => exact .inr ⟨c, fs, rfl, h⟩
section
variable {env : En} {w wa wb wc : WE} {wA : WA} {wi : WI} {α β δ : Type}
theorem EvP.m {f : α → Slot} {v : α} (h : EvP env w (f v)) : EvM env w f (.ok v) := fun Q q => h Q q
theorem Zes {m : Option α} {f : α → Slot} {Q : R Slot → Prop} (q : Ze7 (ofO m) f Q) : ∃ a, m = some a ∧ Q (.ok (f a)) := by
  cases m with
  | some a => exact ⟨a, rfl, q⟩
  | none => exact q.elim
theorem Zh5 {o : O1} {x z : Slot} (h : EvP env wa x) (ho : UnP o x z) : EvP env (wUn o wa) z := fun Q q => h _ (ho _ q)
theorem Zay {o : O1} {x : Slot} {f : α → Slot} {m : Option α} (h : EvP env wa x) (ho : UnM o x f m) : EvM env (wUn o wa) f (ofO m) := fun Q q => h _ (by
  obtain ⟨a, e, q⟩ := Zes q
  exact ho _ a e q)
theorem Zg3 {k : Slot → Prop} {fa : α → Slot} {ma : P α} {mm : α → P β} {f : β → Slot} {Q : R Slot → Prop} (h : EvM env wa fa ma) (q : Ze7 (bd ma mm) f Q) (hk : ∀ a, Ze7 (mm a) f Q → k (fa a)) : wa env (rk k Q) := h _ (by
  rcases specE_bd q with ⟨a, e, q⟩ | ⟨c, fs, e, q⟩
  · rw [e]; exact hk a q
  · rw [e]; exact q)
theorem Za2 {o : O2} {x y z : Slot} (h : EvP env wa x) (h2 : EvP env wb y) (ho : OpP o x y z) : EvP env (wOp o wa wb) z := fun Q q => h _ (h2 _ (ho _ q))
theorem Zgd {o : O2} {x y : Slot} {f : α → Slot} {m : Option α} (h : EvP env wa x) (h2 : EvP env wb y) (ho : OpM o x y f m) : EvM env (wOp o wa wb) f (ofO m) := fun Q q => h _ (h2 _ (by
  obtain ⟨a, e, q⟩ := Zes q
  exact ho _ a e q))
theorem Zgc {o : O2} {y : Slot} {fa : α → Slot} {ma : P α} {f : β → Slot} {mm : α → β} (h : EvM env wa fa ma) (h2 : EvP env wb y) (ho : ∀ a, OpP o (fa a) y (f (mm a))) : EvM env (wOp o wa wb) f (bd ma fun a => .ok (mm a)) := fun Q q => Zg3 h q fun a q => h2 _ (ho a _ q)
theorem Zjk {o : O2} {y : Slot} {fa : α → Slot} {ma : P α} {f : β → Slot} {mm : α → Option β} (h : EvM env wa fa ma) (h2 : EvP env wb y) (ho : ∀ a, OpM o (fa a) y f (mm a)) : EvM env (wOp o wa wb) f (bd ma fun a => ofO (mm a)) := fun Q q => Zg3 h q fun a q => h2 _ (by
    obtain ⟨b, e, q⟩ := Zes q
    exact ho a _ b e q)
theorem Zio {o : O2} {fa : α → Slot} {ma : P α} {fb : δ → Slot} {mb : P δ} {f : β → Slot} {mm : α → δ → β} (h : EvM env wa fa ma) (h2 : EvM env wb fb mb) (ho : ∀ a b, OpP o (fa a) (fb b) (f (mm a b))) : EvM env (wOp o wa wb) f (bd ma fun a => bd mb fun b => .ok (mm a b)) := fun Q q => Zg3 h q fun a q => Zg3 h2 q fun b q => ho a b _ q
theorem Zah {i : Nat} {d : D} (h : env[i]? = some (.sh d)) : EvP env (wVar i) (.sh d) := fun Q q => by
  unfold wVar; rw [h]; exact q
theorem Zcu {i : Nat} {d : D} (h : env[i]? = some (.ow d)) : EvP env (wVar i) (.bt d) := fun Q q => by
  unfold wVar; rw [h]; exact q
theorem Zat {i : Int} : EvP env (wInt i) (.sh (.int i)) := fun Q q => q
theorem Zea {i : Bool} : EvP env (wBl i) (.sh (.bl i)) := fun Q q => q
theorem Zb4 {i : Str} : EvP env (wStr i) (.sh (.str i)) := fun Q q => q
theorem Zlk {b : Bool} (h : EvP env wa (.sh (.bl b))) : EvP env (wNot wa) (.sh (.bl !b)) := fun Q q => h _ q
theorem Zha {m : P Bool} (h : EvM env wa blE m) : EvM env (wNot wa) blE (bd m fun b => .ok !b) := fun Q q => Zg3 h q fun a q => q
theorem Zl3 {a b : Bool} (h : EvP env wa (.sh (.bl a))) (h2 : EvP env wb (.sh (.bl b))) : EvP env (wAnd wa wb) (.sh (.bl (a && b))) := fun Q q => h _ (by
  cases a
  · exact q
  · exact h2 _ q)
theorem Zhp {n m : P Bool} (h : EvM env wa blE n) (h2 : EvM env wb blE m) : EvM env (wOr wa wb) blE (bd n fun a => cond a (.ok true) m) := fun Q q => Zg3 h q fun a q => by
  cases a
  · exact h2 _ q
  · exact q
theorem op_add {a b : Int} : OpP oAdd (.sh (.int a)) (.sh (.int b)) (.sh (.int (a + b))) := fun k q => q
theorem op_mul {a b : Int} (h : CMul a b) : OpP oMul (.sh (.int a)) (.sh (.int b)) (.sh (.int (a * b))) := fun k q => ⟨h, q⟩
theorem op_mod {a b : Int} (h : 0 < b) : OpP oMod (.sh (.int a)) (.sh (.int b)) (.sh (.int (a % b))) := fun k q => ⟨h, q⟩
theorem op_pow {a b c : Int} (h : CPow a b) (e : a ^ b.toNat = c) : OpP oPow (.sh (.int a)) (.sh (.int b)) (.sh (.int c)) := fun k q => ⟨h, by subst e; exact q⟩
noncomputable def modO (a b : Int) : Option Int := if 0 < b then some (a % b) else none
noncomputable def divO (a b : Int) : Option Int := if 0 < b ∧ b ≤ 1000000000000000000000000000000 then some (a / b) else none
theorem Zjz {i j : Int} (h : 0 ≤ j ∧ j < 2 ^ 64) : CMul i j := .inr ⟨by omega, h.2⟩
theorem Zos {i j : Int} (h : 0 ≤ i ∧ i < 2 ^ 64) : CMul i j := .inl ⟨by omega, h.2⟩
theorem Zl1 {a s : Int} (h : 0 < s ∧ s ≤ 1000000000000000000000000000000) : CDivW a s := by
  refine ⟨h.1, ?_⟩
  have h1 : s.natAbs < 2 ^ 100 := by have := h.2; omega
  have h2 : s.natAbs ≠ 0 := by omega
  exact Nat.lt_trans ((Nat.log2_lt h2).mpr h1) (by decide)
theorem Zlg {a b : Int} : OpM oMod (.sh (.int a)) (.sh (.int b)) (shE D.int) (modO a b) := fun k c e q => by
  unfold modO at e
  split at e
  · rename_i h
    cases e
    exact ⟨h, q⟩
  · cases e
theorem Zlo {a b : Int} : OpM oDiv (.sh (.int a)) (.sh (.int b)) (shE D.int) (divO a b) := fun k c e q => by
  unfold divO at e
  split at e
  · rename_i h
    cases e
    exact ⟨Zl1 h, q⟩
  · cases e
theorem un_neg {a : Int} : UnP oNeg (.sh (.int a)) (.sh (.int (-a))) := fun k q => q
theorem op_lt {a b : Int} : OpP oLt (.sh (.int a)) (.sh (.int b)) (.sh (.bl (decide (a < b)))) := fun k q => q
theorem op_ge {a b : Int} : OpP oGe (.sh (.int a)) (.sh (.int b)) (.sh (.bl (decide (b ≤ a)))) := fun k q => q
noncomputable def encL (f : α → D) (xs : List α) : D := .lst (xs.map f)
end
structure Tx where
  s : Str
  ok : PyData.canLay0 (.str s) = true
noncomputable def encS (t : Tx) : D := .str t.s
noncomputable instance : DecidableEq Tx := fun a b => if h : a.s = b.s then isTrue (by cases a; cases b; cases h; rfl) else isFalse fun e => h (by rw [e])
structure T2 (a b : Type) where
  (x1 : a) (x2 : b)
  deriving DecidableEq
structure T3 (a b c : Type) where
  (x1 : a) (x2 : b) (x3 : c)
  deriving DecidableEq
structure T4 (a b c d : Type) where
  (x1 : a) (x2 : b) (x3 : c) (x4 : d)
  deriving DecidableEq
structure T5 (a b c d e : Type) where
  (x1 : a) (x2 : b) (x3 : c) (x4 : d) (x5 : e)
  deriving DecidableEq
structure T6 (a b c d e f : Type) where
  (x1 : a) (x2 : b) (x3 : c) (x4 : d) (x5 : e) (x6 : f)
  deriving DecidableEq
section
variable {a b c d e f : Type}
noncomputable def enc2 (fa : a → D) (fb : b → D) (t : T2 a b) : D := .tup [fa t.x1, fb t.x2]
noncomputable def enc3 (fa : a → D) (fb : b → D) (fc : c → D) (t : T3 a b c) : D := .tup [fa t.x1, fb t.x2, fc t.x3]
noncomputable def enc4 (fa : a → D) (fb : b → D) (fc : c → D) (fd : d → D) (t : T4 a b c d) : D := .tup [fa t.x1, fb t.x2, fc t.x3, fd t.x4]
end
structure Dct (κ α : Type) where
  l : List (κ × α)
section
variable {κ α : Type} [DecidableEq κ]
noncomputable def Dct.get (m : Dct κ α) (k : κ) : Option α := lk m.l k
noncomputable def Dct.has (m : Dct κ α) (k : κ) : Bool := (m.get k).isSome
noncomputable def Dct.put (m : Dct κ α) (k : κ) (a : α) : Dct κ α := ⟨DL.put m.l k a⟩
end
noncomputable def Dct.keys {κ α : Type} (m : Dct κ α) : List κ := m.l.map (·.1)
structure EqE {α : Type} [DecidableEq α] (n : Nat) (f : α → D) : Prop where
  lay : ∀ a, PyData.canLay0 (f a).py = true
  eq : ∀ a b, PyData.eqv (f a).py (f b).py = decide (a = b)
  dep : ∀ a, (f a).py.depth ≤ n
section
variable {a b c d e f : Type} [DecidableEq a] [DecidableEq b] [DecidableEq c] [DecidableEq d] [DecidableEq e] [DecidableEq f] {n m : Nat}
variable {fa : a → D} {fb : b → D} {fc : c → D} {fd : d → D} {fe : e → D} {ff : f → D}
theorem EqE.up (h : EqE n fa) (hm : n ≤ m) : EqE m fa := ⟨h.lay, h.eq, fun x => Nat.le_trans (h.dep x) hm⟩
theorem Zej : EqE 1 D.int := ⟨fun _ => rfl, fun i j => by
  show PyData.eqv (.int i) (.int j) = _
  unfold PyData.eqv; rfl, fun i => by show PyData.depth (.int i) ≤ _; unfold PyData.depth; omega⟩
theorem Zmq : EqE 1 D.bl := ⟨fun _ => rfl, fun i j => by
  show PyData.eqv (.bool i) (.bool j) = _
  unfold PyData.eqv; cases i <;> cases j <;> rfl, fun i => by show PyData.depth (.bool i) ≤ _; unfold PyData.depth; omega⟩
theorem Zfo (h : ∀ x y : a, PyData.eqv (fa x).py (fa y).py = decide (x = y)) : ∀ xs ys : List a, PyData.eqvAll (D.pys (xs.map fa)) (D.pys (ys.map fa)) = decide (xs = ys)
  | [], [] => by show PyData.eqvAll [] [] = _; unfold PyData.eqvAll; rfl
  | [], y :: ys => by show PyData.eqvAll [] (_ :: _) = _; unfold PyData.eqvAll; rfl
  | x :: xs, [] => by show PyData.eqvAll (_ :: _) [] = _; unfold PyData.eqvAll; rfl
  | x :: xs, y :: ys => by
    show PyData.eqvAll ((fa x).py :: D.pys (xs.map fa)) ((fa y).py :: D.pys (ys.map fa)) = _
    unfold PyData.eqvAll
    rw [h, Zfo h xs ys, ← Bool.decide_and]
    exact decide_eq_decide.mpr ⟨fun z => by rw [z.1, z.2], fun z => by injection z with z1 z2; exact ⟨z1, z2⟩⟩
theorem Zfl (h : ∀ x : a, PyData.canLay0 (fa x).py = true) : ∀ xs : List a, PyData.canLayAll0 (D.pys (xs.map fa)) = true
  | [] => rfl
  | x :: xs => by
    show PyData.canLayAll0 ((fa x).py :: D.pys (xs.map fa)) = true
    unfold PyData.canLayAll0
    rw [h, Zfl h xs]; rfl
theorem Zfr (h : ∀ x : a, (fa x).py.depth ≤ n) : ∀ xs : List a, PyData.depthAll (D.pys (xs.map fa)) ≤ n
  | [] => by show PyData.depthAll [] ≤ _; unfold PyData.depthAll; omega
  | x :: xs => by
    show PyData.depthAll ((fa x).py :: D.pys (xs.map fa)) ≤ n
    unfold PyData.depthAll
    have := h x
    have := Zfr h xs
    omega
theorem Zlw (h : EqE n fa) : EqE (n + 1) (encL fa) := ⟨fun xs => Zfl h.lay xs, fun xs ys => by
  show PyData.eqv (.list (D.pys (xs.map fa))) (.list (D.pys (ys.map fa))) = _
  rw [PyData.eqv, Zfo h.eq], fun xs => by
  show PyData.depth (.list (D.pys (xs.map fa))) ≤ _
  unfold PyData.depth
  have := Zfr h.dep xs
  omega⟩
theorem EqE.okq (h : EqE n fa) (hn : n ≤ 60) (x y : a) : EqOk (fa x) (fa y) := .inr ⟨by
  show SeqAt.shaped (fa x).py = true
  unfold SeqAt.shaped
  rw [h.lay, Bool.true_and]
  have := h.dep x
  exact decide_eq_true (by omega), by
  show SeqAt.shaped (fa y).py = true
  unfold SeqAt.shaped
  rw [h.lay, Bool.true_and]
  have := h.dep y
  exact decide_eq_true (by omega)⟩
theorem op_eq {x y : a} {u v : Slot} (h : EqE n fa) (hu : u.dat = some (fa x)) (hv : v.dat = some (fa y)) (hn : n ≤ 60 := by decide) : OpP (oEq false) u v (.sh (.bl (decide (x = y)))) := fun k q => by
  unfold oEq
  rw [hu, hv]
  refine ⟨h.okq hn x y, ?_⟩
  rw [Bool.false_xor]
  unfold eqD
  rw [h.eq]
  exact q
theorem op_ne {x y : a} {u v : Slot} (h : EqE n fa) (hu : u.dat = some (fa x)) (hv : v.dat = some (fa y)) (hn : n ≤ 60 := by decide) : OpP (oEq true) u v (.sh (.bl (!decide (x = y)))) := fun k q => by
  unfold oEq
  rw [hu, hv]
  refine ⟨h.okq hn x y, ?_⟩
  rw [Bool.true_xor]
  unfold eqD
  rw [h.eq]
  exact q
end
end DL
set_option Elab.async false
set_option linter.all false
set_option maxRecDepth 100000
set_option maxHeartbeats 4000000
namespace DL
open PySem PySem.Spec PyProof.Rows L2
section
variable {env : En} {w wa wb wc we : WE} {wA : WA} {wi : WI} {wl wh : WO} {α β δ : Type}
theorem Zbl : EvA env aNil [] := fun Q q => q
theorem Zam {x : Slot} {xs : List Slot} (h : EvP env we x) (h2 : EvA env wA xs) : EvA env (Zan we wA) (x :: xs) := fun Q q => h _ (h2 _ q)
noncomputable def EvK {β : Type} (env : En) (wA : WA) (f : β → Slot) (Φ : List Slot → P β → Prop) (m : P β) : Prop := ∀ (Q : R Slot → Prop) (k : List Slot → Prop), (∀ xs mm, Φ xs mm → Ze7 mm f Q → k xs) → Ze7 m f Q → wA env (rk k Q)
theorem Zcn {f : β → Slot} {Φ : List Slot → P β → Prop} {m : P β} (h : Φ [] m) : EvK env aNil f Φ m := fun Q k hk q => hk _ _ h q
theorem Zod {f : β → Slot} {Φ : List Slot → P β → Prop} {m : P β} {x : Slot} (h : EvP env we x) (h2 : EvK env wA f (fun xs mm => Φ (x :: xs) mm) m) : EvK env (Zan we wA) f Φ m := fun Q k hk q =>
  h _ (h2 Q (fun xs => k (x :: xs)) (fun xs mm hp q => hk _ _ hp q) q)
theorem Zbm {f : β → Slot} {Φ : List Slot → P β → Prop} {fa : α → Slot} {ma : P α} {mm : α → P β} (h : EvM env we fa ma) (h2 : ∀ a, EvK env wA f (fun xs mm => Φ (fa a :: xs) mm) (mm a)) : EvK env (Zan we wA) f Φ (bd ma mm) := fun Q k hk q =>
  Zg3 h q fun a q => h2 a Q (fun xs => k (fa a :: xs)) (fun xs mm hp q => hk _ _ hp q) q
theorem Zex {xs : List Slot} {ds : List D} (h : EvA env wA xs) (hs : stabs xs = some ds) (hl : ds.length ≤ 16777216) : EvP env (wLst wA) (.ow (.lst ds)) := fun Q q => h _ (by
  show (match stabs xs with | some ds => ds.length ≤ 16777216 ∧ Q (.ok (.ow (.lst ds))) | none => False)
  rw [hs]; exact ⟨hl, q⟩)
theorem Zlj {f : β → Slot} {m : P β} (h : EvK env wA f (fun xs mm => ∃ v ds, stabs xs = some ds ∧ ds.length ≤ 16777216 ∧ f v = .sh (.tup ds) ∧ mm = .ok v) m) : EvM env (wTup wA) f m := fun Q q => h Q _ (fun xs mm ⟨v, ds, e1, hl, e2, e3⟩ q => by
  subst e3
  show (match stabs xs with | some ds => ds.length ≤ 16777216 ∧ Q (.ok (.sh (.tup ds))) | none => False)
  rw [e1]
  have q' : Q (.ok (f v)) := q
  rw [e2] at q'
  exact ⟨hl, q'⟩) q
theorem Zew {f : β → Slot} {m : P β} (h : EvK env wA f (fun xs mm => ∃ v ds, stabs xs = some ds ∧ ds.length ≤ 16777216 ∧ f v = .ow (.lst ds) ∧ mm = .ok v) m) : EvM env (wLst wA) f m := fun Q q => h Q _ (fun xs mm ⟨v, ds, e1, hl, e2, e3⟩ q => by
  subst e3
  show (match stabs xs with | some ds => ds.length ≤ 16777216 ∧ Q (.ok (.ow (.lst ds))) | none => False)
  rw [e1]
  have q' : Q (.ok (f v)) := q
  rw [e2] at q'
  exact ⟨hl, q'⟩) q
noncomputable def Zdq (x : Slot) : Prop := (∃ d, x = .sh d) ∨ (∃ d, x = .ow d) ∨ ∃ d, x = .nd d
theorem Zbg {d : D} : Zdq (.sh d) := .inl ⟨d, rfl⟩
theorem Zct {d : D} : Zdq (.ow d) := .inr (.inl ⟨d, rfl⟩)
theorem Zll {x : Slot} {Q : R Slot → Prop} (h : Zdq x) (q : Q (.ok x)) : outK Q (.ok x) := by
  rcases h with ⟨d, rfl⟩ | ⟨d, rfl⟩ | ⟨d, rfl⟩ <;> exact q
theorem Zh7 {m : P α} {f : α → Slot} {Q : R Slot → Prop} (hf : ∀ a, Zdq (f a)) (q : Ze7 m f Q) : Ze7 m f (outK Q) := by
  cases m with
  | ok a => exact Zll (hf a) q
  | error e => cases e with
    | stuck => exact q
    | exc c fs => exact q
theorem Zdr {γ : G} {xs : List Slot} {f : α → Slot} {m : P α} (h : EvA env wA xs) (hs : Sim γ (xs.map Slot.arg) f m) (hf : ∀ a, Zdq (f a)) : EvM env (Zer γ wA) f m := fun Q q => h _ (hs _ (Zh7 hf q))
theorem Zjj {γ : G} {f : α → Slot} {m : P α} (hf : ∀ a, Zdq (f a)) (h : EvK env wA f (fun xs mm => Sim γ (xs.map Slot.arg) f mm) m) : EvM env (Zer γ wA) f m := fun Q q => h Q _ (fun xs mm hs q => hs _ (Zh7 hf q)) q
theorem Zme (f : α → β) (xs : List α) (i : Int) : atI (xs.map f) i = (atI xs i).map f := by
  unfold atI
  rw [List.length_map]
  cases ixN xs.length i with
  | none => rfl
  | some j => exact List.getElem?_map
theorem Zm4 {x : Slot} {f : α → D} {xs : List α} (h : x.dat = some (encL f xs)) : UnP oLen x (.sh (.int (xs.length : Int))) := fun k q => by
  unfold oLen; rw [h]
  show k (.sh (.int ((xs.map f).length : Int)))
  rw [List.length_map]; exact q
theorem Zk2 {T : String} {x : Slot} {d : D} {b : Bool} (h : x.dat = some d) (hb : isD d T = b) (hn : d.noObj = true := by rfl) : UnP (oIsi T) x (.sh (.bl b)) := fun k q => by
  unfold oIsi; rw [h]; subst hb; exact ⟨hn, q⟩
theorem Zfs {n : Nat} {x : Slot} {f : α → D} {xs : List α} (h : x.dat = some (encL f xs)) : UnM (oIxN n) x (shE f) (xs[n]?) := fun k a e q => by
  unfold oIxN; rw [h]
  show (match (xs.map f)[n]? with | some d => k (.sh d) | none => False)
  rw [List.getElem?_map, e]; exact q
theorem Znq {x : Slot} {f : α → D} {xs : List α} {i : Int} (h : x.dat = some (encL f xs)) : OpM oIx x (.sh (.int i)) (shE f) (atI xs i) := fun k a e q => by
  unfold oIx; rw [h]
  show ∃ j z, D.int i = .int j ∧ atI (xs.map f) j = some z ∧ k (.sh z)
  exact ⟨i, f a, rfl, by rw [Zme, e]; rfl, q⟩
section
variable {κ : Type} [DecidableEq κ]
end
theorem Zjs {x y : Slot} {f : α → D} {xs ys : List α} (h : x.dat = some (encL f xs)) (h2 : y.dat = some (encL f ys)) : OpM oCat x y (owE (encL f)) (if xs.length + ys.length ≤ 16777216 then some (xs ++ ys) else none) := fun k a e q => by
  unfold oCat; rw [h, h2]
  split at e
  · rename_i hl
    cases e
    refine ⟨by rw [List.length_map, List.length_map]; exact hl, ?_⟩
    show k (.ow (.lst (xs.map f ++ ys.map f)))
    rw [← List.map_append]; exact q
  · cases e
noncomputable def Zev (lo : Int) (n : Nat) : List Int := (List.range n).map fun (i : Nat) => lo + (i : Int)
theorem Zj4 (lo : Int) (n : Nat) : Ze5 lo n = (Zev lo n).map D.int := by unfold Ze5 Zev; rw [List.map_map]; rfl
noncomputable def Zf8 (xs : List α) : List (T2 Int α) := xs.zipIdx.map fun p => ⟨(p.2 : Int), p.1⟩
theorem Zhv {j : Int} (h : EvA env wA [.sh (.int j)]) (hb : Bd62 j) : EvI env (Zi4 wA) ((Zev 0 j.toNat).map D.int) := fun Q q => h _ ⟨hb, by rw [Zj4]; exact q⟩
noncomputable def Zm2 : Slot → Option D
  | .sh d => some d
  | .bo d => some d
  | .ow d => some d
  | .lk _ d => some d
  | _ => none
theorem Zma {x : Slot} {ds : List D} {k : List D → Prop} (h : Zm2 x = some (.lst ds)) (q : k ds) : lst1 k [x] := by
  cases x with
  | sh d => cases h; exact q
  | bo d => cases h; exact q
  | ow d => cases h; exact q
  | un => cases h
  | bt d => cases h
  | lk a d => cases h; exact q
  | lo a _ d => cases h
  | lt a _ d => cases h
  | nd d => cases h
  | nb d => cases h
  | ln _ _ => cases h
  | xc _ => cases h
  | xe _ _ _ => cases h
  | na _ _ => cases h
  | rt _ _ => cases h
theorem Zht {x : Slot} {f : α → D} {xs : List α} (h : EvA env wA [x]) (hx : Zm2 x = some (encL f xs)) : EvI env (Zju wA) ((Zf8 xs).map (enc2 D.int f)) := fun Q q => h _ (by
  refine Zma hx ?_
  have e : Zg9 (xs.map f) = (Zf8 xs).map (enc2 D.int f) := by
    unfold Zg9 Zf8
    rw [List.zipIdx_map, List.map_map, List.map_map]; rfl
  rw [e]; exact q)
end
end DL
set_option Elab.async false
set_option linter.all false
set_option maxRecDepth 100000
set_option maxHeartbeats 4000000
namespace DL
open PySem PySem.Spec PyProof.Rows L2
section
variable {env : En} {w w1 w2 w3 rest body : WS} {wa wb wc we wk : WE} {wA : WA} {wi : WI} {α β δ τ σ ρ : Type} {cv : τ → O} {g : WG}
noncomputable def sq (rest : WS) (K : O → Prop) : O → Prop := fun o => match o with
  | .nx e => rest e K
  | o => K o
theorem wseq {K : O → Prop} (h : w1 env (sq rest K)) : wSeq w1 rest env K := h
theorem wasg {K : O → Prop} {s : Slot} (h : EvP env we s) (q : g s env fun e => K (.nx e)) : wAsg g we env K := h _ q
theorem Znb {K : O → Prop} {f : α → Slot} {m : P α} (h : EvM env we f m) (q : (∃ a, m = .ok a ∧ g (f a) env fun e => K (.nx e)) ∨ ∃ c fs, m = .error (.exc c fs) ∧ ∀ e, K (.ex c fs e)) : wAsg g we env K := h _ (by
  rcases q with ⟨a, e, q⟩ | ⟨c, fs, e, q⟩
  · rw [e]; exact q
  · rw [e]; exact q env)
theorem Zd8 {m : P τ} (h : B env rest cv m) : B env (wSeq Zb7 rest) cv m := fun K q => h K q
theorem Zfd {t : τ} (h : cv t = .nx env) : B env Zb7 cv (.ok t) := fun K q => by
  have q' : K (cv t) := q
  rw [h] at q'; exact q'
theorem Zot {i : Nat} {x : Slot} {env' : En} {m : P τ} (hx : env[i]? = some x) (he : env.set i (frzS x) = env') (h : B env' (wSeq w1 rest) cv m) : B env (wSeq (wFrz i w1) rest) cv m := fun K q => by
  have := h K q
  subst he
  show (match env[i]? with | some x => w1 (env.set i (frzS x)) _ | none => False)
  rw [hx]
  exact this
theorem Zoh {i : Nat} {env' : En} {m : P τ} (he : env.set i .un = env') (h : B env' (wSeq w1 rest) cv m) : B env (wSeq (wFgt i w1) rest) cv m := fun K q => by
  subst he; exact h K q
theorem Zdw {i : Nat} {env' : En} {m : P τ} (he : env.set i .un = env') (h : B env' w1 cv m) : B env (wFgt i w1) cv m := fun K q => by
  subst he; exact h K q
theorem Zkp {s : Slot} {t : τ} (h : EvP env we s) (ht : cv t = .ret s) : B env (wRet we) cv (.ok t) := fun K q => h _ (by
  have q' : K (cv t) := q
  rw [ht] at q'; exact q')
theorem Znl {f : α → Slot} {m : P α} {t : α → τ} (h : EvM env we f m) (ht : ∀ a, cv (t a) = .ret (f a)) : B env (wRet we) cv (bd m fun a => .ok (t a)) := fun K q => h _ (by
  rcases specO_bd q with ⟨a, e, q⟩ | ⟨c, fs, e, q⟩
  · rw [e]
    have q' : K (cv (t a)) := q
    rw [ht] at q'; exact q'
  · rw [e]; exact q env)
theorem Zmv {i : Nat} {s : Slot} {t : τ} (hi : env[i]? = some s) (hs : Zdq s) (ht : cv t = .ret s) : B env (Zee i) cv (.ok t) := fun K q => by
  have q' : K (cv t) := q
  rw [ht] at q'
  unfold Zee
  rw [hi]
  rcases hs with ⟨d, rfl⟩ | ⟨d, rfl⟩ | ⟨d, rfl⟩ <;> exact q'
theorem Zfn {s : Slot} {t : τ} (h : EvP env we s) (ht : cv t = .ret s) : B env (wSeq (wRet we) rest) cv (.ok t) := fun K q => h _ (by
  have q' : K (cv t) := q
  rw [ht] at q'; exact q')
theorem Zlp {f : α → Slot} {m : P α} {t : α → τ} (h : EvM env we f m) (ht : ∀ a, cv (t a) = .ret (f a)) : B env (wSeq (wRet we) rest) cv (bd m fun a => .ok (t a)) := fun K q => h _ (by
  rcases specO_bd q with ⟨a, e, q⟩ | ⟨c, fs, e, q⟩
  · rw [e]
    have q' : K (cv (t a)) := q
    rw [ht] at q'; exact q'
  · rw [e]; exact q env)
theorem Zls {i : Nat} {s : Slot} {t : τ} (hi : env[i]? = some s) (hs : Zdq s) (ht : cv t = .ret s) : B env (wSeq (Zee i) rest) cv (.ok t) := fun K q => by
  have q' : K (cv t) := q
  rw [ht] at q'
  show Zee i env _
  unfold Zee
  rw [hi]
  rcases hs with ⟨d, rfl⟩ | ⟨d, rfl⟩ | ⟨d, rfl⟩ <;> exact q'
theorem Zku {i : Nat} {x : Slot} {k : En → Prop} (hx : Zdq x) (hi : i < env.length) (q : k (env.set i x)) : gN i x env k := by
  rcases hx with ⟨d, rfl⟩ | ⟨d, rfl⟩ | ⟨d, rfl⟩ <;> exact ⟨hi, q⟩
theorem Zmd {i : Nat} {v : α} {mm : α → P τ} (sl : α → Slot) (e : α → En) (h : EvP env we (sl v)) (ho : ∀ x, Zdq (sl x)) (hi : i < env.length) (hs : ∀ x, env.set i (sl x) = e x) (hr : ∀ x, B (e x) rest cv (mm x)) : B env (wSeq (wAsg (gN i) we) rest) cv (Zfc v mm) := fun K q => wseq (wasg h (Zku (ho v) hi (by
  rw [hs]; exact hr v K q)))
theorem Zhy {i : Nat} {s : Slot} {env' : En} {m : P τ} (h : EvP env we s) (ho : Zdq s) (hi : i < env.length) (hs : env.set i s = env') (hr : B env' rest cv m) : B env (wSeq (wAsg (gN i) we) rest) cv m := fun K q => wseq (wasg h (Zku ho hi (by
  rw [hs]; exact hr K q)))
theorem Zdm {i : Nat} {f : α → Slot} {m : P α} {mm : α → P τ} (e : α → En) (h : EvM env we f m) (ho : ∀ x, Zdq (f x)) (hi : i < env.length) (hs : ∀ x, env.set i (f x) = e x) (hr : ∀ x, B (e x) rest cv (mm x)) : B env (wSeq (wAsg (gN i) we) rest) cv (bd m mm) := fun K q => wseq (Znb h (by
  rcases specO_bd q with ⟨a, e1, q⟩ | ⟨c, fs, e1, q⟩
  · exact .inl ⟨a, e1, Zku (ho a) hi (by rw [hs]; exact hr a K q)⟩
  · exact .inr ⟨c, fs, e1, q⟩))
noncomputable def Zg6 : List Nat → List D → En → Option En
  | [], [], env => some env
  | i :: is, d :: ds, env => cond (Nat.blt i env.length) (Zg6 is ds (env.set i (.sh d))) none
  | _, _, _ => none
theorem wSets_of {k : En → Prop} : ∀ {is : List Nat} {ds : List D} {env e : En}, Zg6 is ds env = some e → k e → Zgl is ds env k
  | [], [], env, e, h, q => by cases h; exact q
  | i :: is, d :: ds, env, e, h, q => by
    unfold Zg6 at h
    cases hb : Nat.blt i env.length with
    | true =>
      rw [hb] at h
      exact ⟨Nat.lt_of_succ_le (by simpa [Nat.blt] using hb), wSets_of h q⟩
    | false => rw [hb] at h; cases h
  | [], _ :: _, _, _, h, _ => by cases h
  | _ :: _, [], _, _, h, _ => by cases h
theorem Zmz {is : List Nat} {x : Slot} {ds : List D} {e : En} {k : En → Prop} (hx : x.dat = some (.tup ds) ∨ x.dat = some (.lst ds)) (hs : Zg6 is ds env = some e) (q : k e) : gT is x env k := by
  unfold gT
  rcases hx with hx | hx <;> (rw [hx]; exact wSets_of hs q)
noncomputable def un2 (xs : List α) (k : α → α → P τ) : P τ := match xs with
  | [a, b] => k a b
  | _ => stuck
noncomputable def un3 (xs : List α) (k : α → α → α → P τ) : P τ := match xs with
  | [a, b, c] => k a b c
  | _ => stuck
theorem Zoi {is : List Nat} {f : α → D} {xs : List α} {s : Slot} {m : P τ} (hx : s.dat = some (encL f xs)) (hr : ∀ K, Zcx m cv K → ∃ e, Zg6 is (xs.map f) env = some e ∧ rest e K) : BT env (gT is) s rest cv m := fun K q => by
  obtain ⟨e, h1, h2⟩ := hr K q
  exact Zmz (.inr hx) h1 h2
theorem Zmm {is : List Nat} {f : α → D} {xs : List α} {s : Slot} {k : α → α → α → P τ} (e : α → α → α → En) (hx : s.dat = some (encL f xs)) (hs : ∀ a b c, Zg6 is [f a, f b, f c] env = some (e a b c)) (hr : ∀ a b c, B (e a b c) rest cv (k a b c)) : BT env (gT is) s rest cv (un3 xs k) := Zoi hx fun K q => by
  unfold un3 at q; split at q
  · exact ⟨_, hs _ _ _, hr _ _ _ K q⟩
  · exact q.elim
theorem Zlq {f : α → Slot} {m : P α} {mm : α → P τ} (h : EvM env we f m) (hr : ∀ a, BT env g (f a) rest cv (mm a)) : B env (wSeq (wAsg g we) rest) cv (bd m mm) := fun K q => wseq (Znb h (by
  rcases specO_bd q with ⟨a, e1, q⟩ | ⟨c, fs, e1, q⟩
  · exact .inl ⟨a, e1, hr a K q⟩
  · exact .inr ⟨c, fs, e1, q⟩))
theorem Zi2 {i : Nat} {s : Slot} {e : En} {m : P τ} (ho : Zdq s) (hi : i < env.length) (hs : env.set i s = e) (hr : B e rest cv m) : BT env (gN i) s rest cv m := fun K q => Zku ho hi (by rw [hs]; exact hr K q)
theorem Zk0 {is : List Nat} {s : Slot} {ds : List D} {e : En} {m : P τ} (hx : s.dat = some (.tup ds)) (hs : Zg6 is ds env = some e) (hr : B e rest cv m) : BT env (gT is) s rest cv m := fun K q => Zmz (.inl hx) hs (hr K q)
noncomputable def appO (xs : List α) (x : α) : Option (List α) := if xs.length < 16777216 then some (xs ++ [x]) else none
theorem Zgq {m : Option α} {mm : α → P τ} {K : O → Prop} (q : Zcx (bd (ofO m) mm) cv K) : ∃ a, m = some a ∧ Zcx (mm a) cv K := by
  cases m with
  | some a => exact ⟨a, rfl, q⟩
  | none => exact q.elim
theorem Zov {i : Nat} {f : α → D} {xs : List α} {x : α} {s : Slot} {mm : List α → P τ} (e : List α → En) (hx : env[i]? = some (.ow (encL f xs))) (h : EvP env we s) (hs : s.stab = some (f x)) (he : ∀ ys, env.set i (.ow (encL f ys)) = e ys) (hr : ∀ ys, B (e ys) rest cv (mm ys)) : B env (wSeq (wApp i we) rest) cv (bd (ofO (appO xs x)) mm) := fun K q => by
  obtain ⟨ys, e1, q⟩ := Zgq q
  unfold appO at e1
  split at e1
  · rename_i hl
    cases e1
    show wApp i we env _
    unfold wApp
    rw [hx]
    refine h _ ?_
    show (match s.stab with | some d => (xs.map f).length < 16777216 ∧ _ | none => False)
    rw [hs]
    refine ⟨by rw [List.length_map]; exact hl, ?_⟩
    have e2 : env.set i (.ow (.lst (xs.map f ++ [f x]))) = e (xs ++ [x]) := by
      rw [← he]; unfold encL; rw [List.map_append]; rfl
    show rest (env.set i (.ow (.lst (xs.map f ++ [f x])))) K
    rw [e2]; exact hr _ K q
  · cases e1
theorem Zmx {i : Nat} {f : α → D} {xs : List α} {sf : α → Slot} {m : P α} {mm : List α → P τ} (e : List α → En) (hx : env[i]? = some (.ow (encL f xs))) (h : EvM env we sf m) (hs : ∀ x, (sf x).stab = some (f x)) (he : ∀ ys, env.set i (.ow (encL f ys)) = e ys) (hr : ∀ ys, B (e ys) rest cv (mm ys)) : B env (wSeq (wApp i we) rest) cv (bd m fun x => bd (ofO (appO xs x)) mm) := fun K q => by
  show wApp i we env _
  unfold wApp
  rw [hx]
  refine h _ ?_
  rcases specO_bd q with ⟨x, e0, q⟩ | ⟨c, fs, e0, q⟩
  · rw [e0]
    obtain ⟨ys, e1, q⟩ := Zgq q
    unfold appO at e1
    split at e1
    · rename_i hl
      cases e1
      show (match (sf x).stab with | some d => (xs.map f).length < 16777216 ∧ _ | none => False)
      rw [hs]
      refine ⟨by rw [List.length_map]; exact hl, ?_⟩
      have e2 : env.set i (.ow (.lst (xs.map f ++ [f x]))) = e (xs ++ [x]) := by
        rw [← he]; unfold encL; rw [List.map_append]; rfl
      show rest (env.set i (.ow (.lst (xs.map f ++ [f x])))) K
      rw [e2]; exact hr _ K q
    · cases e1
  · rw [e0]; exact q env
theorem b_if {b : Bool} {m1 m2 : P τ} (h : EvP env wc (.sh (.bl b))) (h1 : B env (wSeq w1 rest) cv m1) (h2 : B env (wSeq w2 rest) cv m2) : B env (wSeq (wIf wc w1 w2) rest) cv (cond b m1 m2) := fun K q => h _ (by
  cases b
  · exact h2 K q
  · exact h1 K q)
theorem Ziq {n : P Bool} {m1 m2 : P τ} (h : EvM env wc blE n) (h1 : B env (wSeq w1 rest) cv m1) (h2 : B env (wSeq w2 rest) cv m2) : B env (wSeq (wIf wc w1 w2) rest) cv (bd n fun b => cond b m1 m2) := fun K q => h _ (by
  rcases specO_bd q with ⟨b, e1, q⟩ | ⟨c, fs, e1, q⟩
  · rw [e1]
    cases b
    · exact h2 K q
    · exact h1 K q
  · rw [e1]; exact q env)
theorem Zcz {m : P σ} {mm : σ → P τ} {e : σ → En} {K : O → Prop} (q : Zcx (bd m mm) cv K) (hr : ∀ s, B (e s) rest cv (mm s)) : Zcx m (fun s => O.nx (e s)) (sq rest K) := by
  rcases specO_bd q with ⟨a, e1, q⟩ | ⟨c, fs, e1, q⟩
  · rw [e1]; exact hr a K q
  · rw [e1]; exact q
theorem Zop {b : Bool} {m1 m2 : P σ} {mm : σ → P τ} (e : σ → En) (h : EvP env wc (.sh (.bl b))) (h1 : B env w1 (fun s => .nx (e s)) m1) (h2 : B env w2 (fun s => .nx (e s)) m2) (hr : ∀ s, B (e s) rest cv (mm s)) : B env (wSeq (wIf wc w1 w2) rest) cv (bd (cond b m1 m2) mm) := fun K q => h _ (by
  cases b
  · exact h2 _ (Zcz q hr)
  · exact h1 _ (Zcz q hr))
theorem Znk {b : Bool} {x y : α} {mm : α → P τ} (e : α → En) (h : EvP env wc (.sh (.bl b))) (h1 : B env w1 (fun s => .nx (e s)) (.ok x)) (h2 : B env w2 (fun s => .nx (e s)) (.ok y)) (hr : ∀ s, B (e s) rest cv (mm s)) : B env (wSeq (wIf wc w1 w2) rest) cv (Zfc (cond b x y) mm) := fun K q => h _ (by
  cases b
  · exact h2 _ (Zcz (m := .ok y) q hr)
  · exact h1 _ (Zcz (m := .ok x) q hr))
theorem Zjt {f : α → D} {e : σ → En} {step : σ → α → P σ} (hb : ∀ s x, BT (e s) g (.sh (f x)) body (fun s' => .nx (e s')) (step s x)) {K : O → Prop} : ∀ (xs : List α) (s : σ), Zcx (Ze4 step xs s) (fun s => O.nx (e s)) K → Zef g body (xs.map f) (e s) K
  | [], s, q => q
  | x :: xs, s, q => hb s x _ (by
    have q : Zcx (bd (step s x) fun s' => Ze4 step xs s') (fun s => O.nx (e s)) K := q
    rcases specO_bd q with ⟨a, e1, q⟩ | ⟨c, fs, e1, q⟩
    · rw [e1]; exact Zjt hb xs a q
    · rw [e1]; exact q)
theorem Zlc {f : α → D} {xs : List α} {s0 : σ} {step : σ → α → P σ} {mm : σ → P τ} (e : σ → En) (hi : EvI env wi (xs.map f)) (h0 : env = e s0) (hb : ∀ s x, BT (e s) g (.sh (f x)) body (fun s' => .nx (e s')) (step s x)) (hr : ∀ s, B (e s) rest cv (mm s)) : B env (wSeq (wFor g wi body) rest) cv (bd (Ze4 step xs s0) mm) := fun K q => hi _ (by
  show Zef g body (xs.map f) env _
  rw [h0]
  exact Zjt hb xs s0 (Zcz q hr))
noncomputable def cvX (e : σ → En) (f : ρ → Slot) : Out σ ρ → O
  | .nx s => .nx (e s)
  | .ct s => .ct (e s)
  | .bk s => .bk (e s)
  | .ret r => .ret (f r)
theorem Zf5 {f : α → D} {e : σ → En} {fr : ρ → Slot} {step : σ → α → P (Out σ ρ)} (hb : ∀ s x, BT (e s) g (.sh (f x)) body (cvX e fr) (step s x)) {K : O → Prop} : ∀ (xs : List α) (s : σ), Zcx (Zdo step xs s) (cvX e fr) K → Zef g body (xs.map f) (e s) K
  | [], s, q => q
  | x :: xs, s, q => hb s x _ (by
    have q : Zcx (bd (step s x) fun o => match o with
      | .nx s' => Zdo step xs s'
      | .ct s' => Zdo step xs s'
      | .bk s' => .ok (.nx s')
      | .ret r => .ok (.ret r)) (cvX e fr) K := q
    rcases specO_bd q with ⟨a, e1, q⟩ | ⟨c, fs, e1, q⟩
    · rw [e1]
      cases a with
      | nx s' => exact Zf5 hb xs s' q
      | ct s' => exact Zf5 hb xs s' q
      | bk s' => exact q
      | ret r => exact q
    · rw [e1]; exact q)
theorem Zhm {m : P (Out σ ρ)} {ret : ρ → P τ} {nx : σ → P τ} {e : σ → En} {fr : ρ → Slot} {K : O → Prop} (q : Zcx (aft m ret nx) cv K) (hret : ∀ r, ∃ t, ret r = .ok t ∧ cv t = .ret (fr r)) (hr : ∀ s, B (e s) rest cv (nx s)) (hc : ∀ s, m ≠ .ok (.ct s) ∧ m ≠ .ok (.bk s)) : Zcx m (cvX e fr) (sq rest K) := by
  rcases specO_bd q with ⟨a, e1, q⟩ | ⟨c, fs, e1, q⟩
  · rw [e1]
    cases a with
    | nx s => exact hr s K q
    | ct s => exact ((hc s).1 e1).elim
    | bk s => exact ((hc s).2 e1).elim
    | ret r =>
      obtain ⟨t, e2, e3⟩ := hret r
      have q : Zcx (ret r) cv K := q
      rw [e2] at q
      have q' : K (cv t) := q
      rw [e3] at q'; exact q'
  · rw [e1]; exact q
theorem Zd0 {step : σ → α → P (Out σ ρ)} : ∀ (xs : List α) (s s' : σ), Zdo step xs s ≠ .ok (.ct s') ∧ Zdo step xs s ≠ .ok (.bk s')
  | [], s, s' => ⟨(fun h => nomatch h), (fun h => nomatch h)⟩
  | x :: xs, s, s' => by
    rw [Zdo]
    cases hs : step s x with
    | error e => exact ⟨(fun h => nomatch h), (fun h => nomatch h)⟩
    | ok o => cases o with
      | nx t => exact Zd0 xs t s'
      | ct t => exact Zd0 xs t s'
      | bk t => exact ⟨(fun h => nomatch h), (fun h => nomatch h)⟩
      | ret r => exact ⟨(fun h => nomatch h), (fun h => nomatch h)⟩
theorem Znd {f : α → D} {xs : List α} {s0 : σ} {step : σ → α → P (Out σ ρ)} {ret : ρ → P τ} {nx : σ → P τ} (e : σ → En) (fr : ρ → Slot) (hi : EvI env wi (xs.map f)) (h0 : env = e s0) (hb : ∀ s x, BT (e s) g (.sh (f x)) body (cvX e fr) (step s x)) (hret : ∀ r, ∃ t, ret r = .ok t ∧ cv t = .ret (fr r)) (hr : ∀ s, B (e s) rest cv (nx s)) : B env (wSeq (wFor g wi body) rest) cv (aft (Zdo step xs s0) ret nx) := fun K q => hi _ (by
  show Zef g body (xs.map f) env _
  rw [h0]
  exact Zf5 hb xs s0 (Zhm q hret hr fun s' => Zd0 xs s0 s'))
theorem Zfv {γ : G} {n : Nat} {w : WS} {xs : List Slot} {f : α → Slot} {m : P α} {env : En} (hg : γ = gOf n w) (he : xs ++ List.replicate (n - xs.length) .un = env) (hf : ∀ a, Zdq (f a)) (h : B env w (fun a => .ret (f a)) m) (hna : msOf xs = [] := by rfl) : Sim γ xs f m := fun Q q => by
  subst hg he
  refine h (fin xs Q) ?_
  cases m with
  | ok a =>
    have q' : Q (.ok (f a)) := q
    show fin xs Q (.ret (f a))
    rcases hf a with ⟨d, e⟩ | ⟨d, e⟩ | ⟨d, e⟩ <;> (rw [e] at q' ⊢; exact q')
  | error e => cases e with
    | stuck => exact q
    | exc c fs => exact fun e => ⟨Zkh hna, q⟩
end
end DL
set_option Elab.async false
set_option linter.all false
set_option maxRecDepth 100000
set_option maxHeartbeats 4000000
namespace DL
open PySem PySem.Spec PyProof.Rows L2
noncomputable instance (i : Int) : Decidable (Bd62 i) := by unfold Bd62; exact inferInstance
section
variable {env : En} {w w1 w2 w3 rest body : WS} {wa wb wc we wk wt : WE} {wA : WA} {wi : WI} {α β δ τ σ ρ : Type} {cv : τ → O} {g : WG}
noncomputable def EvIM {α : Type} (env : En) (wi : WI) (f : α → D) (m : P (List α)) : Prop := ∀ (Q : R (List D) → Prop), (match m with
  | .ok xs => Q (.ok (xs.map f))
  | .error (.exc c fs) => Q (.ex c fs)
  | .error .stuck => False) → wi env Q
theorem bd_I {f : α → D} {m : P (List α)} {mm : List α → P τ} {K : O → Prop} {k : List D → Prop} (h : EvIM env wi f m) (q : Zcx (bd m mm) cv K) (hk : ∀ xs, Zcx (mm xs) cv K → k (xs.map f)) : wi env (rks k (sq rest K) env) := h _ (by
  rcases specO_bd q with ⟨a, e1, q⟩ | ⟨c, fs, e1, q⟩
  · rw [e1]; exact hk a q
  · rw [e1]; exact q env)
theorem Zlh {f : α → D} {m : P (List α)} {s0 : σ} {step : σ → α → P (Out σ ρ)} {ret : ρ → P τ} {nx : σ → P τ} (e : σ → En) (fr : ρ → Slot) (hi : EvIM env wi f m) (h0 : env = e s0) (hb : ∀ s x, BT (e s) g (.sh (f x)) body (cvX e fr) (step s x)) (hret : ∀ r, ∃ t, ret r = .ok t ∧ cv t = .ret (fr r)) (hr : ∀ s, B (e s) rest cv (nx s)) : B env (wSeq (wFor g wi body) rest) cv (bd m fun xs => aft (Zdo step xs s0) ret nx) := fun K q => wseq (bd_I hi q fun xs q => by
  show Zef g body (xs.map f) env _
  rw [h0]
  exact Zf5 hb xs s0 (Zhm q hret hr fun s' => Zd0 xs s0 s'))
noncomputable def lcP (t : α → P Bool) (e : α → P β) : List α → List β → P (List β)
  | [], acc => .ok acc
  | x :: xs, acc => match t x with
    | .ok true => (match e x with
      | .ok y => if acc.length < 16777216 then lcP t e xs (acc ++ [y]) else stuck
      | .error _ => stuck)
    | .ok false => lcP t e xs acc
    | .error _ => stuck
theorem Zi7 {i : Nat} {f : α → D} {fb : β → D} {sb : β → Slot} {t : α → P Bool} {e : α → P β} (ht : ∀ x, EvM (env.set i (.sh (f x))) wt blE (t x)) (he : ∀ x, EvM (env.set i (.sh (f x))) we sb (e x)) (hsb : ∀ y, (sb y).stab = some (fb y)) {k : List D → Prop} : ∀ (xs : List α) (acc : List β), (match lcP t e xs acc with | .ok ys => k (ys.map fb) | .error _ => False) → lcL i wt we (xs.map f) env (acc.map fb) k
  | [], acc, q => q
  | x :: xs, acc, q => by
    rw [lcP] at q
    refine ht x _ ?_
    cases h1 : t x with
    | error z => rw [h1] at q; exact q.elim
    | ok b =>
      rw [h1] at q
      cases b with
      | false => exact Zi7 ht he hsb xs acc q
      | true =>
        refine he x _ ?_
        cases h2 : e x with
        | error z => rw [h2] at q; exact q.elim
        | ok y =>
          rw [h2] at q
          dsimp only at q
          by_cases hl : acc.length < 16777216
          · rw [if_pos hl] at q
            show (match (sb y).stab with | some z => (acc.map fb).length < 16777216 ∧ lcL i wt we (xs.map f) env (acc.map fb ++ [z]) k | none => False)
            rw [hsb]
            refine ⟨by rw [List.length_map]; exact hl, ?_⟩
            have := Zi7 ht he hsb xs (acc ++ [y]) q
            rw [List.map_append] at this
            exact this
          · rw [if_neg hl] at q
            exact q.elim
theorem Zns {i : Nat} {f : α → D} {fb : β → D} (sb : β → Slot) {xs : List α} {t : α → P Bool} {e : α → P β} (hu : env[i]? = some .un) (hi : EvI env wi (xs.map f)) (ht : ∀ x, EvM (env.set i (.sh (f x))) wt blE (t x)) (he : ∀ x, EvM (env.set i (.sh (f x))) we sb (e x)) (hsb : ∀ y, (sb y).stab = some (fb y)) : EvM env (wLc i wi wt we) (owE (encL fb)) (lcP t e xs []) := fun Q q => by
  refine ⟨by unfold unAt; rw [hu]; trivial, hi _ ?_⟩
  refine Zi7 ht he hsb xs [] ?_
  cases h : lcP t e xs [] with
  | ok ys => rw [h] at q; exact q
  | error z =>
    rw [h] at q
    have : ∀ (xs : List α) (acc : List β) c fs, lcP t e xs acc ≠ .error (.exc c fs) := by
      intro xs
      induction xs with
      | nil => intro acc c fs h; cases h
      | cons x xs ih =>
        intro acc c fs h
        rw [lcP] at h
        split at h
        · split at h
          · split at h
            · exact ih _ _ _ h
            · cases h
          · cases h
        · exact ih _ _ _ h
        · cases h
    cases z with
    | stuck => exact q.elim
    | exc c fs => exact (this xs [] c fs h).elim
end
end DL
set_option Elab.async false
set_option linter.all false
set_option maxRecDepth 100000
set_option maxHeartbeats 4000000
namespace DL
open PySem PySem.Spec PyProof.Rows L2
section
variable {env : En} {wa wb wc we : WE} {α β δ : Type}
noncomputable def Dct.same [DecidableEq α] (a b : Dct Int α) : Bool := decide (a.l.length = b.l.length) && a.l.all fun p => decide (b.get p.1 = some p.2)
end
end DL
set_option Elab.async false
set_option linter.all false
set_option maxRecDepth 100000
set_option maxHeartbeats 4000000
namespace DL
open PySem PySem.Spec PyProof.Rows L2
section
variable {env : En} {w w1 w2 w3 rest body : WS} {τ : Type} {cv : τ → O}
end
end DL
set_option Elab.async false
set_option linter.all false
set_option maxRecDepth 100000
set_option maxHeartbeats 4000000
namespace DL
open PySem PySem.Spec PyProof.Rows L2
section
variable {env : En} {we : WE} {wl wh : WO}
end
end DL
set_option Elab.async false
set_option linter.all false
set_option maxRecDepth 100000
set_option maxHeartbeats 4000000
namespace DL
open PySem PySem.Spec PyProof.Rows L2
section
variable {env : En} {we : WE} {w1 rest body : WS} {g : WG} {wA : WA} {σ τ ρ α : Type} {cv : τ → O}
end
end DL
set_option Elab.async false
set_option linter.all false
set_option maxRecDepth 100000
set_option maxHeartbeats 1000000
namespace DL
open PySem PySem.Spec PyProof.Rows L2
section
variable {env : En} {wc : WE} {rest body : WS} {σ τ ρ : Type} {cv : τ → O}
end
end DL
set_option Elab.async false
set_option linter.all false
set_option maxRecDepth 100000
set_option maxHeartbeats 1000000
namespace DL
open PySem PySem.Spec PyProof.Rows L2
section
variable {env : En} {wi : WI} {rest body : WS} {g : WG} {σ τ ρ α : Type} {cv : τ → O}
end
end DL
set_option Elab.async false
set_option linter.all false
set_option maxRecDepth 100000
set_option maxHeartbeats 1000000
namespace DL
open PySem PySem.Spec PyProof.Rows L2
noncomputable def isaX (c T : Str) : Bool := c == T || T == ("FeastError" : Str) || T == ("ValueError" : Str)
section
variable {α σ τ : Type}
variable {env : En} {we : WE} {rest : WS} {cv : τ → O} {tab : List (Str × Bool)}
end
section
variable {σ τ ρ : Type} {env : En} {wc : WE} {w1 w2 rest : WS} {cv : τ → O}
end
end DL
set_option Elab.async false
set_option linter.all false
set_option maxRecDepth 100000
set_option maxHeartbeats 1000000
namespace DL
open PySem PySem.Spec PyProof.Rows L2
section
variable {α β γ : Type} {f : α → D} {g : β → D} {x : Slot} {o : α ⊕ β}
end
end DL
namespace DL
open PySem PySem.Spec PyProof.Rows L2
section
variable {α β : Type} {f : α → D} {g : β → D} {env : En} {we : WE}
end
section
variable {a b c d e f' g' : Type} {fa : a → D} {fb : b → D} {fc : c → D} {fd : d → D} {ga : e → D} {gb : f' → D} {gc : g' → D}
end
end DL
set_option Elab.async false
set_option linter.all false
set_option maxRecDepth 100000
set_option maxHeartbeats 1000000
namespace DL
open PySem PySem.Spec PyProof.Rows L2
section
variable {α β τ : Type} {env : En} {we : WE} {w1 rest : WS} {cv : τ → O}
end
end DL
set_option Elab.async false
set_option linter.all false
set_option maxRecDepth 100000
set_option maxHeartbeats 1000000
namespace DL
open PySem PySem.Spec PyProof.Rows L2
section
variable {α : Type} {env : En} {w we : WE} {ws : List WE} {wl wh : WO} {f : α → Slot}
end
end DL
namespace DL
open PySem PySem.Spec PyProof.Rows L2
end DL
set_option Elab.async false
set_option linter.all false
set_option maxRecDepth 100000
namespace DL
open PySem PySem.Spec PyProof.Rows L2
end DL
set_option Elab.async false
set_option linter.all false
set_option maxRecDepth 100000
set_option maxHeartbeats 4000000
namespace DL
open PySem PySem.Spec PyProof.Rows L2
section
variable {α β γ : Type} {f : α → D} {env : En} {we wb : WE} {wA : WA}
end
section
variable {α τ : Type} {env : En} {rest : WS} {cv : τ → O}
end
section
variable {α : Type} {f : α → D} {env : En} {we : WE}
end
end DL
set_option Elab.async false
set_option linter.all false
set_option maxRecDepth 100000
set_option maxHeartbeats 4000000
namespace DL
open PySem PySem.Spec PyProof.Rows L2
section
variable {α β : Type} {g : β → D} {env : En} {we wk : WE} {wA : WA} {sep : Str}
end
section
variable {α : Type} {f : α → D} {env : En} {we : WE}
end
end DL
set_option Elab.async false
set_option linter.all false
set_option maxRecDepth 100000
set_option maxHeartbeats 4000000
namespace DL
open PySem PySem.Spec PyProof.Rows L2
section
variable {env : En} {w w1 w2 w3 rest body : WS} {wa wb wc we wk : WE} {wm wm2 : WM} {wA : WA} {wi : WI} {α β δ τ σ ρ : Type} {cv : τ → O → Prop} {cf : τ → O} {g : WG} {I : En → Prop}
theorem set_set {i : Nat} {x y : Slot} : (env.set i x).set i y = env.set i y := List.set_set ..
end
end DL
set_option Elab.async false
set_option linter.all false
set_option maxRecDepth 100000
set_option maxHeartbeats 4000000
namespace DL
open PySem PySem.Spec PyProof.Rows L2
section
variable {env : En} {w w1 w2 w3 rest body : WS} {wa wb wc we wk wo : WE} {wm wm2 : WM} {wA : WA} {wi : WI} {α β δ τ σ ρ κ : Type} {cv : τ → O → Prop} {cf : τ → O} {g : WG} {I : En → Prop}
end
end DL
set_option Elab.async false
set_option linter.all false
set_option maxRecDepth 100000
set_option maxHeartbeats 4000000
namespace DL
open PySem PySem.Spec PyProof.Rows L2
section
variable {env : En} {w w1 w2 w3 rest body wb : WS} {wc we wk wo : WE} {wm wa wm2 : WM} {wA : WA} {wi : WI} {α β δ τ σ ρ κ : Type} {cv : τ → O → Prop} {cf : τ → O} {g : WG} {I : En → Prop}
noncomputable def Dct.items {κ α : Type} (m : Dct κ α) : List (T2 κ α) := m.l.map fun p => ⟨p.1, p.2⟩
end
end DL
set_option Elab.async false
set_option linter.all false
set_option maxRecDepth 100000
set_option maxHeartbeats 4000000
namespace DL
open PySem PySem.Spec PyProof.Rows L2
section
variable {env : En} {w w1 w2 w3 rest body : WS} {wa wb wc we wk wo : WE} {wm wm2 : WM} {wA : WA} {wi : WI} {α β δ τ σ ρ κ : Type} {cv : τ → O → Prop} {cf : τ → O} {g : WG} {I : En → Prop}
end
noncomputable def IT : List (Option Int) → List D → Prop
  | [], [] => True
  | none :: l, _ :: ds => IT l ds
  | some n :: l, d :: ds => d = .int n ∧ IT l ds
  | _, _ => False
theorem IT.get : ∀ {l : List (Option Int)} {ds : List D}, IT l ds → l.length = ds.length ∧ ∀ (j : Nat) (n : Int), l[j]? = some (some n) → ds[j]? = some (.int n)
  | [], [], _ => ⟨rfl, fun _ _ h => by simp at h⟩
  | none :: l, d :: ds, h => by
    obtain ⟨h1, h2⟩ := IT.get (l := l) (ds := ds) h
    refine ⟨congrArg (· + 1) h1, fun j n e => ?_⟩
    cases j with
    | zero => simp at e
    | succ j => exact h2 j n e
  | some m :: l, d :: ds, h => by
    obtain ⟨h1, h2⟩ := IT.get (l := l) (ds := ds) h.2
    refine ⟨congrArg (· + 1) h1, fun j n e => ?_⟩
    cases j with
    | zero =>
      have e : some (some m) = some (some n) := e
      cases e
      show some d = _
      rw [h.1]
    | succ j => exact h2 j n e
  | [], _ :: _, h => h.elim
  | none :: _, [], h => h.elim
  | some _ :: _, [], h => h.elim
theorem Znz {f : α → D} {m : P β} {fb : β → D} {xs : β → List α} (h : EvM env we (shE fb) m) (hx : ∀ b, fb b = .tup ((xs b).map f)) : EvIM env (Zkt we) f (bd m fun b => .ok (xs b)) := fun Q q => h _ (by
  cases m with
  | ok b =>
    have q : Q (.ok ((xs b).map f)) := q
    show Ze8 (fun ds => Q (R.ok ds)) (.sh (fb b))
    rw [hx]
    exact q
  | error e => cases e with
    | stuck => exact q
    | exc c fs => exact q)
noncomputable abbrev Ft : Type := T6 Int Tx Tx Int Int Int
structure Bk where
  (years : List (T2 Int Int)) (feasts : Dct Int Ft) (closes : Dct Int Int) (seals : Dct Int Bool) (kept : List (T4 Int Int Tx Int))
noncomputable abbrev Zmu : T4 Int Int Tx Int → D := enc4 D.int D.int encS D.int
@[reducible] noncomputable def dK (b : Bk) : D := encL Zmu b.kept
structure Lg where
  (books undone : List Bk)
end DL
set_option Elab.async false
set_option linter.all false
set_option maxRecDepth 100000
set_option maxHeartbeats 4000000
namespace DL
open PySem PySem.Spec PyProof.Rows L2
end DL
set_option Elab.async false
set_option linter.all false
set_option maxRecDepth 100000
set_option maxHeartbeats 4000000
namespace DL
open PySem PySem.Spec PyProof.Rows L2
section
variable {τ : Type} {I : En → Prop} {env : En} {w rest : WS} {cv : τ → O → Prop}
end
end DL
set_option Elab.async false
set_option linter.all false
set_option maxRecDepth 100000
set_option maxHeartbeats 4000000
namespace DL
open PySem PySem.Spec PyProof.Rows L2
section
variable {α β : Type} {env : En} {we wlo : WE} {wh : WO}
end
section
variable {α : Type} {env : En} {w we : WE} {ws : List WE} {f : α → Slot}
end
end DL
set_option Elab.async false
set_option linter.all false
set_option maxRecDepth 100000
set_option maxHeartbeats 4000000
namespace DL
open PySem PySem.Spec PyProof.Rows L2
section
variable {τ α : Type} {I : En → Prop} {env : En} {we : WE} {cv : τ → O → Prop}
end
end DL
set_option Elab.async false
set_option linter.all false
set_option maxRecDepth 100000
set_option maxHeartbeats 4000000
namespace DL
open PySem PySem.Spec PyProof.Rows L2
section
variable {a b c d e f : Type} [DecidableEq a] [DecidableEq b] [DecidableEq c] [DecidableEq d] [DecidableEq e] [DecidableEq f] {n : Nat}
variable {fa : a → D} {fb : b → D} {fc : c → D} {fd : d → D} {fe : e → D} {ff : f → D}
end
end DL
set_option Elab.async false
set_option linter.all false
set_option maxRecDepth 100000
set_option maxHeartbeats 4000000
namespace DL
open PySem PySem.Spec PyProof.Rows L2
section
variable {env : En} {we : WE} {wm : WM} {α β δ : Type}
end
end DL
set_option Elab.async false
set_option linter.all false
set_option maxRecDepth 100000
set_option maxHeartbeats 4000000
namespace DL
open PySem PySem.Spec PyProof.Rows L2
section
variable {env : En} {w : WS} {α τ : Type} {cv : τ → O}
end
end DL
set_option Elab.async false
set_option linter.all false
set_option maxRecDepth 100000
set_option maxHeartbeats 4000000
namespace DL
open PySem PySem.Spec PyProof.Rows L2
section
variable {env : En} {w rest : WS} {we wk : WE} {wm : WM} {wA : WA} {α β τ σ1 σ2 : Type} {cv : τ → O → Prop} {I : En → Prop}
end
end DL
set_option Elab.async false
set_option linter.all false
set_option maxRecDepth 100000
set_option maxHeartbeats 4000000
namespace DL
open PySem PySem.Spec PyProof.Rows L2
section
variable {α β τ σ : Type} {env : En} {we : WE} {w w1 rest : WS} {wA : WA} {cv : τ → O → Prop} {cf : τ → O} {I : En → Prop} {f : α → D}
end
end DL
set_option Elab.async false
set_option linter.all false
set_option maxRecDepth 100000
set_option maxHeartbeats 4000000
namespace DL
open PySem PySem.Spec PyProof.Rows L2
section
variable {env : En} {w w1 rest wb : WS} {wA : WA} {α β τ σ : Type} {cv : τ → O → Prop} {cf : τ → O} {I : En → Prop}
end
end DL
set_option Elab.async false
set_option linter.all false
set_option maxRecDepth 100000
set_option maxHeartbeats 4000000
namespace DL
open PySem PySem.Spec PyProof.Rows L2
section
variable {env : En} {wa wb : WE}
end
end DL
set_option Elab.async false
set_option linter.all false
set_option maxRecDepth 100000
set_option maxHeartbeats 4000000
namespace DL
open PySem PySem.Spec PyProof.Rows L2
section
variable {env : En} {wa wb : WE}
end
end DL
set_option Elab.async false
set_option linter.all false
set_option maxRecDepth 100000
set_option maxHeartbeats 4000000
namespace DL
open PySem PySem.Spec PyProof.Rows L2
section
variable {env : En} {wi : WI} {rest body : WS} {g : WG} {σ τ ρ β : Type} {cv : τ → O}
end
end DL
set_option Elab.async false
set_option linter.all false
set_option maxRecDepth 100000
set_option maxHeartbeats 4000000
namespace DL
open PySem PySem.Spec PyProof.Rows L2
end DL
set_option Elab.async false
set_option linter.all false
set_option maxRecDepth 100000
set_option maxHeartbeats 4000000
namespace DL
open PySem PySem.Spec PyProof.Rows L2
section
variable {env : En} {w w1 w2 w3 rest body : WS} {wa wb wc we wk wo : WE} {wm wm2 : WM} {wA : WA} {wi : WE} {α β δ τ σ ρ : Type} {cv : τ → O → Prop} {g : WG} {I : En → Prop}
end
end DL
set_option Elab.async false
set_option linter.all false
set_option maxRecDepth 100000
set_option maxHeartbeats 4000000
namespace DL
open PySem PySem.Spec PyProof.Rows L2
structure XV where
  c : Str
  fs : List (Str × Int)
noncomputable def Zau (v : XV) : D := .exc v.c v.fs
section
variable {env : En} {we : WE} {wA : WA} {c f f1 f2 f3 T : Str}
theorem Zb2 {s : Slot} (h : EvP env we s) : EvP env (wMkX c we) (.sh (Zau ⟨c, []⟩)) := fun Q q => by
  unfold wMkX
  exact h _ q
theorem Zhs {m : P XV} (h : EvK env wA (shE Zau) (fun xs mm => ∃ i j k, xs = [.sh (.int i), .sh (.int j), .sh (.int k)] ∧ mm = .ok ⟨c, [(f3, k), (f2, j), (f1, i)]⟩) m) : EvM env (Zim c f1 f2 f3 wA) (shE Zau) m := fun Q q => by
  unfold Zim
  refine h Q _ (fun xs mm ⟨i, j, k, ex, em⟩ q => ?_) q
  subst ex
  subst em
  exact q
noncomputable def isEO (tab : List (Str × Bool)) (v : XV) (T : Str) : Option Bool := if (v.c, true) ∈ tab then some (isaX v.c T) else none
theorem Zbu {tab : List (Str × Bool)} {v : XV} : UnM (oIsE tab T isaX) (.sh (Zau v)) (fun b => .sh (.bl b)) (isEO tab v T) := fun k b e q => by
  unfold isEO at e
  split at e
  · rename_i h
    cases e
    exact ⟨h, q⟩
  · cases e
noncomputable def Zdv (v : XV) (c f : Str) : Option Int := if v.c = c then v.fs.lookup f else none
theorem Zcr {v : XV} : UnM (Zdt c f) (.sh (Zau v)) (fun i => .sh (.int i)) (Zdv v c f) := fun k i e q => by
  unfold Zdv at e
  split at e
  · rename_i h
    show v.c = c ∧ _
    refine ⟨h, ?_⟩
    rw [e]
    exact q
  · cases e
end
end DL
set_option Elab.async false
set_option linter.all false
set_option maxRecDepth 100000
set_option maxHeartbeats 1000000
set_option synthInstance.maxSize 2000
set_option synthInstance.maxHeartbeats 400000
namespace DL
open PySem PySem.Spec PyProof.Rows L2
end DL
namespace DL
end DL
set_option Elab.async false
set_option linter.all false
set_option maxRecDepth 100000
set_option maxHeartbeats 1000000
set_option synthInstance.maxSize 2000
set_option synthInstance.maxHeartbeats 400000
namespace DL
open PySem PySem.Spec PyProof.Rows L2
noncomputable def Zc5 : WS :=
 (wSeq (wIf (wOp oLt (wVar 1) (wUn oLen (wVar 0)))
 (wRet (wOp oIx (wVar 0) (wVar 1)))
 Zb7)
 (wRet (wInt 0)))
theorem Zen : Za5 Zc5 := (Zai (m_if (Zaf (Zaj 1) (Zak (Zaj 0) Zgk) Zba) (Zeg (Zaf (Zaj 0) (Zaj 1) Zhr)) Zbn) (Zeg Za7))
@[irreducible] noncomputable def Zcg : G := gOf 2 Zc5
theorem Zdh : Zcg = gOf 2 Zc5 := by with_unfolding_all rfl
theorem Zek : Zfh Zcg := Zdh ▸ Zcc Zen
noncomputable def Zcf (law_script : (List Int)) (law_place : Int) : P Int :=
  (cond (decide (law_place < (law_script.length : Int)))
  (bd (ofO (atI law_script law_place)) fun r1 => .ok r1)
  (.ok (0 : Int)))
theorem Zel (law_script : (List Int)) (law_place : Int) : Sim Zcg [.sh ((encL D.int) law_script), .sh (D.int law_place)] (shE D.int) (Zcf law_script law_place) :=
 Zfv Zdh (env := ([.sh ((encL D.int) law_script), .sh (D.int law_place)] : En)) rfl (fun _ => Zbg) (by
  unfold Zcf Zc5
  exact (b_if (Za2 (Zah (i := 1) rfl) (Zh5 (Zah (i := 0) rfl) (Zm4 (xs := law_script) rfl)) op_lt)
 (Zlp (f := (shE D.int)) (t := fun r1 => r1) (Zgd (Zah (i := 0) rfl) (Zah (i := 1) rfl) (Znq (xs := law_script) rfl)) fun _ => rfl)
 (Zd8 (Zkp Zat rfl))))
noncomputable def Zdb : WS :=
 (wSeq (wIf (wOp oGe (wVar 0) (wOp oPow (wInt 10) (wInt 18)))
 (Zee 0)
 Zb7)
 (wSeq (wAsg (gN 1) (wOp oMod (wOp oMul (wOp oMod (wOp oAdd (wOp oMul (wVar 0) (wInt 48271)) (wInt 7919)) (wInt 2147483647)) (wInt 16807)) (wInt 2147483629)))
 (wSeq (wAsg (gN 2) (wOp oMod (wOp oMul (wOp oMod (wOp oAdd (wOp oMul (wVar 0) (wInt 69621)) (wInt 104729)) (wInt 2147483587)) (wInt 40692)) (wInt 2147483399)))
 (wRet (wOp oAdd (wOp oMul (wVar 1) (wInt 2147483399)) (wVar 2))))))
theorem Ze1 : Za5 Zdb := (Zai (m_if (Zaf (Zaj 0) (Zaf Za7 Za7 Zav) Zba) Zle Zbn) (Zai (Zaw Zbp (Zaf (Zaf (Zaf (Zaf (Zaf (Zaj 0) Za7 Zav) Za7 Zba) Za7 Zav) Za7 Zav) Za7 Zav)) (Zai (Zaw Zbp (Zaf (Zaf (Zaf (Zaf (Zaf (Zaj 0) Za7 Zav) Za7 Zba) Za7 Zav) Za7 Zav) Za7 Zav)) (Zeg (Zaf (Zaf (Zaj 1) Za7 Zav) (Zaj 2) Zba)))))
@[irreducible] noncomputable def Zb0 : G := gOf 3 Zdb
theorem Zdg : Zb0 = gOf 3 Zdb := by with_unfolding_all rfl
theorem Zez : Zfh Zb0 := Zdg ▸ Zcc Ze1
noncomputable def Zbz (law_cell_here : Int) : P Int :=
  (cond (decide ((1000000000000000000 : Int) ≤ law_cell_here))
  (.ok law_cell_here)
  (Zfc (((((law_cell_here * (48271 : Int)) + (7919 : Int)) % (2147483647 : Int)) * (16807 : Int)) % (2147483629 : Int)) fun (law_one : Int) =>
  (Zfc (((((law_cell_here * (69621 : Int)) + (104729 : Int)) % (2147483587 : Int)) * (40692 : Int)) % (2147483399 : Int)) fun (law_two : Int) =>
  (.ok ((law_one * (2147483399 : Int)) + law_two)))))
theorem Zdf (law_cell_here : Int) : Sim Zb0 [.sh (D.int law_cell_here)] (shE D.int) (Zbz law_cell_here) :=
 Zfv Zdg (env := ([.sh (D.int law_cell_here), .un, .un] : En)) rfl (fun _ => Zbg) (by
  unfold Zbz Zdb
  exact (b_if (Za2 (Zah (i := 0) rfl) (Za2 Zat Zat (op_pow (c := 1000000000000000000) ⟨by decide, by decide, by decide⟩ (by decide +kernel))) op_ge)
 (Zls (i := 0) (s := .sh (D.int law_cell_here)) rfl Zbg rfl)
 (Zd8 (Zmd (shE D.int) (fun law_one => ([.sh (D.int law_cell_here), .sh (D.int law_one), .un] : En)) (Za2 (Za2 (Za2 (Za2 (Za2 (Zah (i := 0) rfl) Zat (op_mul (Zjz (by decide)))) Zat op_add) Zat (op_mod (by decide))) Zat (op_mul (Zjz (by decide)))) Zat (op_mod (by decide))) (fun _ => Zbg) (Nat.le_of_ble_eq_true rfl) (fun _ => rfl) fun law_one =>
 (Zmd (shE D.int) (fun law_two => ([.sh (D.int law_cell_here), .sh (D.int law_one), .sh (D.int law_two)] : En)) (Za2 (Za2 (Za2 (Za2 (Za2 (Zah (i := 0) rfl) Zat (op_mul (Zjz (by decide)))) Zat op_add) Zat (op_mod (by decide))) Zat (op_mul (Zjz (by decide)))) Zat (op_mod (by decide))) (fun _ => Zbg) (Nat.le_of_ble_eq_true rfl) (fun _ => rfl) fun law_two =>
 (Zkp (Za2 (Za2 (Zah (i := 1) rfl) Zat (op_mul (Zjz (by decide)))) (Zah (i := 2) rfl) op_add) rfl))))))
noncomputable def Zb9 : WS :=
 (wSeq (wAsg (gN 2) (Zer Zb0 (Zan (wVar 0) aNil)))
 (wSeq (wAsg (gN 3) (wLst aNil))
 (wSeq (wFor (gT [4, 5]) (Zju (Zan (wVar 1) aNil))
 (wSeq (wIf (wOp oLt (wVar 2) (wVar 5))
 (wSeq (wAsg (gN 2) (Zer Zb0 (Zan (wOp oAdd (wOp oAdd (wVar 2) (wOp oMul (wInt 131) (wVar 4))) (wOp oMod (wVar 0) (wInt 1009))) aNil)))
 Zb7)
 Zb7)
 (wSeq (wApp 3 (wOp oMod (wVar 2) (wVar 5)))
 (wSeq (wAsg (gN 2) (wOp oDiv (wVar 2) (wVar 5)))
 (wFgt 4 (wFgt 5 Zb7))))))
 (Zee 3))))
theorem Zds : Za5 Zb9 := (Zai (Zaw Zbp (Zeq Zez (Zae (Zaj 0) Zbb))) (Zai (Zaw Zbp (Zec Zbb)) (Zai (Zka Zl2 (Zk6 (Zae (Zaj 1) Zbb)) (Zai (m_if (Zaf (Zaj 2) (Zaj 5) Zba) (Zai (Zaw Zbp (Zeq Zez (Zae (Zaf (Zaf (Zaj 2) (Zaf Za7 (Zaj 4) Zav) Zba) (Zaf (Zaj 0) Za7 Zav) Zba) Zbb))) Zbn) Zbn) (Zai (Zn0 (Zaf (Zaj 2) (Zaj 5) Zav)) (Zai (Zaw Zbp (Zaf (Zaj 2) (Zaj 5) Zav)) (Zff (Zff Zbn)))))) Zle)))
@[irreducible] noncomputable def Zbs : G := gOf 6 Zb9
theorem Zcl : Zbs = gOf 6 Zb9 := by with_unfolding_all rfl
theorem Zf3 : Zfh Zbs := Zcl ▸ Zcc Zds
noncomputable def Zc0 (law_cell_here : Int) (s1 : Int × (List Int)) (x2 : (T2 Int Int)) : P (Int) :=
  (cond (decide (s1.1 < x2.x2)) (bd (Zbz ((s1.1 + ((131 : Int) * x2.x1)) + (law_cell_here % (1009 : Int)))) fun (law_rest' : Int) =>
  (.ok law_rest')) (.ok s1.1))
noncomputable def Zbk (law_cell_here : Int) (s1 : Int × (List Int)) (x2 : (T2 Int Int)) : P (Int × (List Int)) :=
  (bd (Zc0 law_cell_here s1 x2) fun (law_rest'' : Int) =>
  (bd (ofO (modO law_rest'' x2.x2)) fun t3 => (bd (ofO (appO s1.2 t3)) fun (law_found' : (List Int)) =>
  (bd (ofO (divO law_rest'' x2.x2)) fun (law_rest''' : Int) =>
  (.ok (law_rest''', law_found'))))))
noncomputable def Zbf (law_cell_here : Int) (law_sizes : (List Int)) : P (List Int) :=
  (bd (Zbz law_cell_here) fun (law_rest : Int) =>
  (bd (Ze4 (Zbk law_cell_here) (Zf8 law_sizes) (law_rest, ([] : List Int))) fun (s4 : Int × (List Int)) =>
  (.ok s4.2)))
theorem Zd3 (law_cell_here : Int) (law_sizes : (List Int)) : Sim Zbs [.sh (D.int law_cell_here), .sh ((encL D.int) law_sizes)] (owE (encL D.int)) (Zbf law_cell_here law_sizes) :=
 Zfv Zcl (env := ([.sh (D.int law_cell_here), .sh ((encL D.int) law_sizes), .un, .un, .un, .un] : En)) rfl (fun _ => Zct) (by
  unfold Zbf Zb9
  exact (Zdm (f := (shE D.int)) (fun law_rest => ([.sh (D.int law_cell_here), .sh ((encL D.int) law_sizes), .sh (D.int law_rest), .un, .un, .un] : En)) (Zdr (Zam (Zah (i := 0) rfl) Zbl) (Zdf law_cell_here) (fun _ => Zbg)) (fun _ => Zbg) (Nat.le_of_ble_eq_true rfl) (fun _ => rfl) fun law_rest =>
 (Zhy (s := .ow ((encL D.int) ([] : List Int))) (env' := ([.sh (D.int law_cell_here), .sh ((encL D.int) law_sizes), .sh (D.int law_rest), .ow ((encL D.int) ([] : List Int)), .un, .un] : En)) (Zex Zbl rfl (Nat.le_of_ble_eq_true rfl)) Zct (Nat.le_of_ble_eq_true rfl) rfl (Zlc (f := (enc2 D.int D.int)) (xs := (Zf8 law_sizes)) (s0 := (law_rest, ([] : List Int))) (fun (s1 : Int × (List Int)) => ([.sh (D.int law_cell_here), .sh ((encL D.int) law_sizes), .sh (D.int s1.1), .ow ((encL D.int) s1.2), .un, .un] : En)) (Zht (xs := law_sizes) (Zam (Zah (i := 1) rfl) Zbl) rfl) rfl
 (fun s1 x2 => (Zk0 (e := ([.sh (D.int law_cell_here), .sh ((encL D.int) law_sizes), .sh (D.int s1.1), .ow ((encL D.int) s1.2), .sh (D.int x2.x1), .sh (D.int x2.x2)] : En)) rfl rfl (Zop (fun (law_rest'' : Int) => ([.sh (D.int law_cell_here), .sh ((encL D.int) law_sizes), .sh (D.int law_rest''), .ow ((encL D.int) s1.2), .sh (D.int x2.x1), .sh (D.int x2.x2)] : En)) (Za2 (Zah (i := 2) rfl) (Zah (i := 5) rfl) op_lt)
 (Zdm (f := (shE D.int)) (fun law_rest' => ([.sh (D.int law_cell_here), .sh ((encL D.int) law_sizes), .sh (D.int law_rest'), .ow ((encL D.int) s1.2), .sh (D.int x2.x1), .sh (D.int x2.x2)] : En)) (Zdr (Zam (Za2 (Za2 (Zah (i := 2) rfl) (Za2 Zat (Zah (i := 4) rfl) (op_mul (Zos (by decide)))) op_add) (Za2 (Zah (i := 0) rfl) Zat (op_mod (by decide))) op_add) Zbl) (Zdf ((s1.1 + ((131 : Int) * x2.x1)) + (law_cell_here % (1009 : Int)))) (fun _ => Zbg)) (fun _ => Zbg) (Nat.le_of_ble_eq_true rfl) (fun _ => rfl) fun law_rest' =>
 (Zfd rfl))
 (Zfd rfl)
 fun law_rest'' => (Zmx (f := D.int) (xs := s1.2) (fun law_found' => ([.sh (D.int law_cell_here), .sh ((encL D.int) law_sizes), .sh (D.int law_rest''), .ow ((encL D.int) law_found'), .sh (D.int x2.x1), .sh (D.int x2.x2)] : En)) rfl (Zgd (Zah (i := 2) rfl) (Zah (i := 5) rfl) Zlg) (fun _ => rfl) (fun _ => rfl) fun law_found' =>
 (Zdm (f := (shE D.int)) (fun law_rest''' => ([.sh (D.int law_cell_here), .sh ((encL D.int) law_sizes), .sh (D.int law_rest'''), .ow ((encL D.int) law_found'), .sh (D.int x2.x1), .sh (D.int x2.x2)] : En)) (Zgd (Zah (i := 2) rfl) (Zah (i := 5) rfl) Zlo) (fun _ => Zbg) (Nat.le_of_ble_eq_true rfl) (fun _ => rfl) fun law_rest''' =>
 (Zdw (env' := ([.sh (D.int law_cell_here), .sh ((encL D.int) law_sizes), .sh (D.int law_rest'''), .ow ((encL D.int) law_found'), .un, .sh (D.int x2.x2)] : En)) rfl (Zdw (env' := ([.sh (D.int law_cell_here), .sh ((encL D.int) law_sizes), .sh (D.int law_rest'''), .ow ((encL D.int) law_found'), .un, .un] : En)) rfl (Zfd rfl))))))))
 fun s4 => (Zmv (i := 3) (s := .ow ((encL D.int) s4.2)) rfl Zct rfl)))))
noncomputable def Zcm : WS :=
 (wRet (wAnd (wUn (oIsi "int") (wVar 0)) (wNot (wUn (oIsi "bool") (wVar 0)))))
theorem Zd9 : Za5 Zcm := (Zeg (Zhl (Zak (Zaj 0) Zgm) (Zc9 (Zak (Zaj 0) Zgm))))
@[irreducible] noncomputable def Zb3 : G := gOf 1 Zcm
theorem Zc2 : Zb3 = gOf 1 Zcm := by with_unfolding_all rfl
theorem Zge : Zfh Zb3 := Zc2 ▸ Zcc Zd9
noncomputable def Zdi (law_thing : Int) : P Bool :=
  (.ok (true && (!false)))
theorem Zey (law_thing : Int) : Sim Zb3 [.sh (D.int law_thing)] blE (Zdi law_thing) :=
 Zfv Zc2 (env := ([.sh (D.int law_thing)] : En)) rfl (fun _ => Zbg) (by
  unfold Zdi Zcm
  exact (Zkp (Zl3 (Zh5 (Zah (i := 0) rfl) (Zk2 (b := true) rfl rfl)) (Zlk (Zh5 (Zah (i := 0) rfl) (Zk2 (b := false) rfl rfl)))) rfl))
theorem Zas {α : Type} {a : α} : ofO (some a) = .ok a := rfl
theorem Zk8 {σ ρ τ : Type} {s : σ} {ret : ρ → P τ} {nx : σ → P τ} : aft (.ok (.nx s)) ret nx = nx s := rfl
theorem atI_nat {α : Type} {xs : List α} {i : Nat} : atI xs (i : Int) = xs[i]? := by
  unfold atI ixN
  by_cases h : i < xs.length
  · simp [h]
  · simp [h]
theorem Zny {α : Type} {xs : List α} {i : Int} {n : Nat} (hi : i = n) (h : n < xs.length) : atI xs i = some xs[n] := by
  subst hi
  rw [atI_nat, List.getElem?_eq_getElem h]
theorem Znn {α : Type} {xs : List α} {i : Int} (h0 : 0 ≤ i) (h : i < xs.length) : ∃ x, atI xs i = some x ∧ x ∈ xs := by
  obtain ⟨n, rfl⟩ := Int.eq_ofNat_of_zero_le h0
  have h' : n < xs.length := by omega
  exact ⟨xs[n], Zny rfl h', List.getElem_mem h'⟩
theorem Zhc {α : Type} {xs : List α} {x : α} (h : xs.length < 16777216) : appO xs x = some (xs ++ [x]) := if_pos h
theorem Zjr {a b : Int} (h : 0 < b) : modO a b = some (a % b) := if_pos h
theorem Zji {a b : Int} (h : 0 < b ∧ b ≤ 1000000000000000000000000000000) : divO a b = some (a / b) := if_pos h
theorem Zlz (ns : List Int) {i : Int} (h : 0 ≤ i) : ∃ c, Zcf ns i = .ok c := by
  unfold Zcf
  by_cases hi : i < (ns.length : Int)
  · obtain ⟨x, e, _⟩ := Znn h hi
    exact ⟨x, by simp only [hi, e, decide_true, cond_true, Zas, Za6]⟩
  · exact ⟨0, by simp only [hi, decide_false, cond_false]⟩
theorem Zjo (c : Int) : ∃ r, Zbz c = .ok r := by
  unfold Zbz
  by_cases h : (1000000000000000000 : Int) ≤ c
  · exact ⟨_, by simp only [h, decide_true, cond_true]; rfl⟩
  · exact ⟨_, by simp only [h, decide_false, cond_false, Zfc]; rfl⟩
noncomputable def Dig : List Int → List Int → Prop
  | [], [] => True
  | s :: ss, d :: ds => (0 ≤ d ∧ d < s) ∧ Dig ss ds
  | _, _ => False
noncomputable def Szs (ss : List Int) : Prop := ∀ s ∈ ss, 0 < s ∧ s ≤ 1000000000000000000000000000000
theorem Szs.nil : Szs [] := fun _ h => by cases h
theorem Szs.cons {s : Int} {ss : List Int} (h1 : 0 < s) (h2 : s ≤ 1000000000000000000000000000000) (h : Szs ss) : Szs (s :: ss) := fun x hx => by
  rcases List.mem_cons.mp hx with rfl | hx
  · exact ⟨h1, h2⟩
  · exact h x hx
theorem Dig.len : ∀ {ss ds : List Int}, Dig ss ds → ds.length = ss.length
  | [], [], _ => rfl
  | _ :: _, _ :: _, h => congrArg (· + 1) (Dig.len h.2)
theorem Zc6 {α σ : Type} {step : σ → α → P σ} {x : α} {xs : List α} {s : σ} : Ze4 step (x :: xs) s = bd (step s x) fun s' => Ze4 step xs s' := rfl
theorem Zhn (c : Int) : ∀ (ss : List Int) (k : Nat) (r : Int) (acc : List Int), Szs ss → acc.length + ss.length ≤ 16777216 → ∃ r' ds, Dig ss ds ∧ Ze4 (Zbk c) ((ss.zipIdx k).map fun p => (⟨(p.2 : Int), p.1⟩ : T2 Int Int)) (r, acc) = .ok (r', acc ++ ds)
  | [], k, r, acc, _, _ => ⟨r, [], trivial, by rw [List.append_nil]; rfl⟩
  | s :: ss, k, r, acc, hs, hl => by
    have h1 := hs s List.mem_cons_self
    have hl' : acc.length + (ss.length + 1) ≤ 16777216 := by simpa using hl
    have main : ∃ q, Zbk c (r, acc) ⟨(k : Int), s⟩ = .ok (q / s, acc ++ [q % s]) := by
      unfold Zbk Zc0
      dsimp only
      by_cases hr : r < s
      · obtain ⟨q, hq⟩ := Zjo ((r + ((131 : Int) * (k : Int))) + (c % (1009 : Int)))
        exact ⟨q, by simp only [hr, decide_true, cond_true, hq, Za6, Zjr h1.1, Zhc (show acc.length < 16777216 by omega), Zji h1, Zas]⟩
      · exact ⟨r, by simp only [hr, decide_false, cond_false, Za6, Zjr h1.1, Zhc (show acc.length < 16777216 by omega), Zji h1, Zas]⟩
    obtain ⟨q, hq⟩ := main
    obtain ⟨r', ds, hd, e⟩ := Zhn c ss (k + 1) (q / s) (acc ++ [q % s]) (fun z hz => hs z (List.mem_cons_of_mem _ hz)) (by simp; omega)
    refine ⟨r', q % s :: ds, ⟨⟨Int.emod_nonneg _ (by omega), Int.emod_lt_of_pos _ h1.1⟩, hd⟩, ?_⟩
    rw [List.zipIdx_cons, List.map_cons, Zc6, hq, Za6, e, List.append_assoc]
    rfl
theorem Ziz (c : Int) (ss : List Int) (hs : Szs ss) (hl : ss.length ≤ 16777216) : ∃ ds, Zbf c ss = .ok ds ∧ Dig ss ds := by
  obtain ⟨r, hr⟩ := Zjo c
  obtain ⟨r', ds, hd, e⟩ := Zhn c ss 0 r [] hs (by simpa using hl)
  refine ⟨ds, ?_, hd⟩
  unfold Zbf
  simp only [hr, Za6]
  unfold Zf8
  rw [e]
  rfl
theorem Dig.d1 {a : Int} {ds : List Int} (h : Dig [a] ds) : ∃ x, ds = [x] ∧ (0 ≤ x ∧ x < a) := by
  match ds, h with
  | [x], h => exact ⟨x, rfl, h.1⟩
theorem Dig.d2 {a b : Int} {ds : List Int} (h : Dig [a, b] ds) : ∃ x y, ds = [x, y] ∧ (0 ≤ x ∧ x < a) ∧ (0 ≤ y ∧ y < b) := by
  match ds, h with
  | [x, y], h => exact ⟨x, y, rfl, h.1, h.2.1⟩
theorem Dig.d3 {a b c : Int} {ds : List Int} (h : Dig [a, b, c] ds) : ∃ x y z, ds = [x, y, z] ∧ (0 ≤ x ∧ x < a) ∧ (0 ≤ y ∧ y < b) ∧ (0 ≤ z ∧ z < c) := by
  match ds, h with
  | [x, y, z], h => exact ⟨x, y, z, rfl, h.1, h.2.1, h.2.2.1⟩
theorem Zog (c : Int) {a b d : Int} (hs : Szs [a, b, d]) : ∃ x y z, Zbf c [a, b, d] = .ok [x, y, z] ∧ (0 ≤ x ∧ x < a) ∧ (0 ≤ y ∧ y < b) ∧ (0 ≤ z ∧ z < d) := by
  obtain ⟨ds, e, h⟩ := Ziz c [a, b, d] hs (by simp)
  obtain ⟨x, y, z, rfl, h'⟩ := h.d3
  exact ⟨x, y, z, e, h'⟩
end DL
set_option Elab.async false
set_option linter.all false
set_option maxRecDepth 100000
set_option maxHeartbeats 1000000
set_option synthInstance.maxSize 2000
set_option synthInstance.maxHeartbeats 400000
namespace DL
open PySem PySem.Spec PyProof.Rows L2
noncomputable def Zbx : WS :=
 (wSeq (wAsg (gN 1) (wLst (Zan (wUn (oIsE Zbc (PySem.Str.ofString "NoDay") isaX) (wVar 0)) (Zan (wUn (oIsE Zbc (PySem.Str.ofString "NoYear") isaX) (wVar 0)) (Zan (wUn (oIsE Zbc (PySem.Str.ofString "BadYear") isaX) (wVar 0)) (Zan (wUn (oIsE Zbc (PySem.Str.ofString "BadDay") isaX) (wVar 0)) aNil))))))
 (wSeq (wAsg (gN 2) (wLst (Zan (wUn (oIsE Zbc (PySem.Str.ofString "BadFeast") isaX) (wVar 0)) (Zan (wUn (oIsE Zbc (PySem.Str.ofString "Taken") isaX) (wVar 0)) (Zan (wUn (oIsE Zbc (PySem.Str.ofString "NoFeast") isaX) (wVar 0)) (Zan (wUn (oIsE Zbc (PySem.Str.ofString "NoOrder") isaX) (wVar 0)) aNil))))))
 (wSeq (wAsg (gN 3) (wLst (Zan (wUn (oIsE Zbc (PySem.Str.ofString "NoBack") isaX) (wVar 0)) (Zan (wUn (oIsE Zbc (PySem.Str.ofString "NoForth") isaX) (wVar 0)) (Zan (wUn (oIsE Zbc (PySem.Str.ofString "NoStand") isaX) (wVar 0)) (Zan (wUn (oIsE Zbc (PySem.Str.ofString "Sealed") isaX) (wVar 0)) aNil))))))
 (wRet (wOp oCat (wOp oCat (wVar 1) (wVar 2)) (wVar 3))))))
theorem Zdd : Za5 Zbx := (Zai (Zaw Zbp (Zec (Zae (Zak (Zaj 0) Zap) (Zae (Zak (Zaj 0) Zap) (Zae (Zak (Zaj 0) Zap) (Zae (Zak (Zaj 0) Zap) Zbb)))))) (Zai (Zaw Zbp (Zec (Zae (Zak (Zaj 0) Zap) (Zae (Zak (Zaj 0) Zap) (Zae (Zak (Zaj 0) Zap) (Zae (Zak (Zaj 0) Zap) Zbb)))))) (Zai (Zaw Zbp (Zec (Zae (Zak (Zaj 0) Zap) (Zae (Zak (Zaj 0) Zap) (Zae (Zak (Zaj 0) Zap) (Zae (Zak (Zaj 0) Zap) Zbb)))))) (Zeg (Zaf (Zaf (Zaj 1) (Zaj 2) Zdy) (Zaj 3) Zdy)))))
@[irreducible] noncomputable def Zbj : G := gOf 4 Zbx
theorem Zcd : Zbj = gOf 4 Zbx := by with_unfolding_all rfl
theorem Zfg : Zfh Zbj := Zcd ▸ Zcc Zdd
noncomputable def Zco (law_e : XV) : P (List Bool) :=
  (bd (bd (ofO (isEO Zbc law_e (PySem.Str.ofString "NoDay"))) fun t1 => bd (ofO (isEO Zbc law_e (PySem.Str.ofString "NoYear"))) fun t2 => bd (ofO (isEO Zbc law_e (PySem.Str.ofString "BadYear"))) fun t3 => bd (ofO (isEO Zbc law_e (PySem.Str.ofString "BadDay"))) fun t4 => .ok [t1, t2, t3, t4]) fun (law_first : (List Bool)) =>
  (bd (bd (ofO (isEO Zbc law_e (PySem.Str.ofString "BadFeast"))) fun t5 => bd (ofO (isEO Zbc law_e (PySem.Str.ofString "Taken"))) fun t6 => bd (ofO (isEO Zbc law_e (PySem.Str.ofString "NoFeast"))) fun t7 => bd (ofO (isEO Zbc law_e (PySem.Str.ofString "NoOrder"))) fun t8 => .ok [t5, t6, t7, t8]) fun (law_second : (List Bool)) =>
  (bd (bd (ofO (isEO Zbc law_e (PySem.Str.ofString "NoBack"))) fun t9 => bd (ofO (isEO Zbc law_e (PySem.Str.ofString "NoForth"))) fun t10 => bd (ofO (isEO Zbc law_e (PySem.Str.ofString "NoStand"))) fun t11 => bd (ofO (isEO Zbc law_e (PySem.Str.ofString "Sealed"))) fun t12 => .ok [t9, t10, t11, t12]) fun (law_third : (List Bool)) =>
  (bd (bd (ofO (if law_first.length + law_second.length ≤ 16777216 then some (law_first ++ law_second) else none)) fun t14 => ofO (if t14.length + law_third.length ≤ 16777216 then some (t14 ++ law_third) else none)) fun r15 => .ok r15))))
theorem Zd2 (law_e : XV) : Sim Zbj [.sh (Zau law_e)] (owE (encL D.bl)) (Zco law_e) :=
 Zfv Zcd (env := ([.sh (Zau law_e), .un, .un, .un] : En)) rfl (fun _ => Zct) (by
  unfold Zco Zbx
  exact (Zdm (f := (owE (encL D.bl))) (fun law_first => ([.sh (Zau law_e), .ow ((encL D.bl) law_first), .un, .un] : En)) (Zew (f := owE (encL D.bl)) (Zbm (Zay (Zah (i := 0) rfl) (Zbu (v := law_e))) fun t1 => (Zbm (Zay (Zah (i := 0) rfl) (Zbu (v := law_e))) fun t2 => (Zbm (Zay (Zah (i := 0) rfl) (Zbu (v := law_e))) fun t3 => (Zbm (Zay (Zah (i := 0) rfl) (Zbu (v := law_e))) fun t4 => (Zcn ⟨[t1, t2, t3, t4], _, rfl, Nat.le_of_ble_eq_true rfl, rfl, rfl⟩)))))) (fun _ => Zct) (Nat.le_of_ble_eq_true rfl) (fun _ => rfl) fun law_first =>
 (Zdm (f := (owE (encL D.bl))) (fun law_second => ([.sh (Zau law_e), .ow ((encL D.bl) law_first), .ow ((encL D.bl) law_second), .un] : En)) (Zew (f := owE (encL D.bl)) (Zbm (Zay (Zah (i := 0) rfl) (Zbu (v := law_e))) fun t5 => (Zbm (Zay (Zah (i := 0) rfl) (Zbu (v := law_e))) fun t6 => (Zbm (Zay (Zah (i := 0) rfl) (Zbu (v := law_e))) fun t7 => (Zbm (Zay (Zah (i := 0) rfl) (Zbu (v := law_e))) fun t8 => (Zcn ⟨[t5, t6, t7, t8], _, rfl, Nat.le_of_ble_eq_true rfl, rfl, rfl⟩)))))) (fun _ => Zct) (Nat.le_of_ble_eq_true rfl) (fun _ => rfl) fun law_second =>
 (Zdm (f := (owE (encL D.bl))) (fun law_third => ([.sh (Zau law_e), .ow ((encL D.bl) law_first), .ow ((encL D.bl) law_second), .ow ((encL D.bl) law_third)] : En)) (Zew (f := owE (encL D.bl)) (Zbm (Zay (Zah (i := 0) rfl) (Zbu (v := law_e))) fun t9 => (Zbm (Zay (Zah (i := 0) rfl) (Zbu (v := law_e))) fun t10 => (Zbm (Zay (Zah (i := 0) rfl) (Zbu (v := law_e))) fun t11 => (Zbm (Zay (Zah (i := 0) rfl) (Zbu (v := law_e))) fun t12 => (Zcn ⟨[t9, t10, t11, t12], _, rfl, Nat.le_of_ble_eq_true rfl, rfl, rfl⟩)))))) (fun _ => Zct) (Nat.le_of_ble_eq_true rfl) (fun _ => rfl) fun law_third =>
 (Znl (f := (owE (encL D.bl))) (t := fun r15 => r15) (Zjk (Zgd (Zcu (i := 1) rfl) (Zcu (i := 2) rfl) (Zjs (xs := law_first) (ys := law_second) rfl rfl)) (Zcu (i := 3) rfl) fun t14 => (Zjs (xs := t14) (ys := law_third) rfl rfl)) fun _ => rfl)))))
noncomputable def Zkq : WS :=
 (wSeq (wAsg (gN 1) (wLst aNil))
 (wSeq (wFor (gN 2) (Zi4 (Zan (wInt 3) aNil))
 (wSeq (wAsg (gT [3, 4, 5]) (Zer Zbs (Zan (Zer Zcg (Zan (wVar 0) (Zan (wVar 2) aNil))) (Zan (wLst (Zan (wInt 4) (Zan (wInt 2) (Zan (wOp oPow (wInt 10) (wInt 12)) aNil)))) aNil))))
 (wSeq (wIf (wOp (oEq false) (wVar 4) (wInt 1))
 (wSeq (wAsg (gN 5) (wOp oMod (wVar 5) (wInt 20)))
 Zb7)
 Zb7)
 (wSeq (wIf (wOp (oEq false) (wVar 3) (wInt 0))
 (wSeq (wAsg (gN 5) (wUn oNeg (wVar 5)))
 Zb7)
 Zb7)
 (wSeq (wApp 1 (wVar 5))
 (wFgt 2 (wFgt 3 (wFgt 4 (wFgt 5 Zb7)))))))))
 (wSeq (wAsg (gN 6) (Zim (PySem.Str.ofString "Sealed") (PySem.Str.ofString "number") (PySem.Str.ofString "year") (PySem.Str.ofString "day") (Zan (wUn (oIxN 0) (wVar 1)) (Zan (wUn (oIxN 1) (wVar 1)) (Zan (wUn (oIxN 2) (wVar 1)) aNil)))))
 (wSeq (wAsg (gN 7) (Zim (PySem.Str.ofString "Sealed") (PySem.Str.ofString "number") (PySem.Str.ofString "year") (PySem.Str.ofString "day") (Zan (wUn (oIxN 2) (wVar 1)) (Zan (wUn (oIxN 0) (wVar 1)) (Zan (wUn (oIxN 1) (wVar 1)) aNil)))))
 (wSeq (wFor (gN 8) (Zkt (wTup (Zan (wUn (Zdt (PySem.Str.ofString "Sealed") (PySem.Str.ofString "number")) (wVar 6)) (Zan (wUn (Zdt (PySem.Str.ofString "Sealed") (PySem.Str.ofString "year")) (wVar 6)) (Zan (wUn (Zdt (PySem.Str.ofString "Sealed") (PySem.Str.ofString "day")) (wVar 6)) aNil)))))
 (wSeq (wIf (wNot (Zer Zb3 (Zan (wVar 8) aNil)))
 (wRet (wBl false))
 Zb7)
 (wFgt 8 Zb7)))
 (wSeq (wIf (wOp (oEq true) (wLst (Zan (wUn (Zdt (PySem.Str.ofString "Sealed") (PySem.Str.ofString "number")) (wVar 6)) (Zan (wUn (Zdt (PySem.Str.ofString "Sealed") (PySem.Str.ofString "year")) (wVar 6)) (Zan (wUn (Zdt (PySem.Str.ofString "Sealed") (PySem.Str.ofString "day")) (wVar 6)) aNil)))) (wVar 1))
 (wRet (wBl false))
 Zb7)
 (wSeq (wIf (wOp (oEq true) (wLst (Zan (wUn (Zdt (PySem.Str.ofString "Sealed") (PySem.Str.ofString "year")) (wVar 7)) (Zan (wUn (Zdt (PySem.Str.ofString "Sealed") (PySem.Str.ofString "day")) (wVar 7)) (Zan (wUn (Zdt (PySem.Str.ofString "Sealed") (PySem.Str.ofString "number")) (wVar 7)) aNil)))) (wVar 1))
 (wRet (wBl false))
 Zb7)
 (wSeq (wAsg (gN 9) (wLst (Zan (wMkX (PySem.Str.ofString "NoDay") (wStr (PySem.Str.ofString "a"))) (Zan (wMkX (PySem.Str.ofString "NoYear") (wStr (PySem.Str.ofString "a"))) (Zan (wMkX (PySem.Str.ofString "BadYear") (wStr (PySem.Str.ofString "a"))) (Zan (wMkX (PySem.Str.ofString "BadDay") (wStr (PySem.Str.ofString "a"))) (Zan (wMkX (PySem.Str.ofString "BadFeast") (wStr (PySem.Str.ofString "a"))) (Zan (wMkX (PySem.Str.ofString "Taken") (wStr (PySem.Str.ofString "a"))) aNil))))))))
 (wSeq (wAsg (gN 9) (wOp oCat (wVar 9) (wLst (Zan (wMkX (PySem.Str.ofString "NoFeast") (wStr (PySem.Str.ofString "a"))) (Zan (wMkX (PySem.Str.ofString "NoOrder") (wStr (PySem.Str.ofString "a"))) (Zan (wMkX (PySem.Str.ofString "NoBack") (wStr (PySem.Str.ofString "a"))) (Zan (wMkX (PySem.Str.ofString "NoForth") (wStr (PySem.Str.ofString "a"))) (Zan (wMkX (PySem.Str.ofString "NoStand") (wStr (PySem.Str.ofString "a"))) (Zan (wVar 6) aNil)))))))))
 (wSeq (wFrz 9 (wFor (gT [10, 11]) (Zju (Zan (wVar 9) aNil))
 (wSeq (wIf (wOr (wNot (wUn (oIsE Zbc (PySem.Str.ofString "FeastError") isaX) (wVar 11))) (wNot (wUn (oIsE Zbc (PySem.Str.ofString "ValueError") isaX) (wVar 11))))
 (wRet (wBl false))
 Zb7)
 (wSeq (wIf (wOr (wUn (oIsE Zbc (PySem.Str.ofString "IndexError") isaX) (wVar 11)) (wUn (oIsE Zbc (PySem.Str.ofString "KeyError") isaX) (wVar 11)))
 (wRet (wBl false))
 Zb7)
 (wSeq (wFgt 2 (wIf (wOp (oEq true) (Zer Zbj (Zan (wVar 11) aNil)) (wLc 2 (Zi4 (Zan (wInt 12) aNil)) (wBl true) (wOp (oEq false) (wVar 2) (wVar 10))))
 (wRet (wBl false))
 Zb7))
 (wFgt 10 (wFgt 11 Zb7)))))))
 (wRet (wBl true))))))))))))
theorem Znw : Za5 Zkq := (Zai (Zaw Zbp (Zec Zbb)) (Zai (Zka Zbp (Zkz (Zae Za7 Zbb)) (Zai (Zaw Zl2 (Zeq Zf3 (Zae (Zeq Zek (Zae (Zaj 0) (Zae (Zaj 2) Zbb))) (Zae (Zec (Zae Za7 (Zae Za7 (Zae (Zaf Za7 Za7 Zav) Zbb)))) Zbb)))) (Zai (m_if (Zaf (Zaj 4) Za7 Zbq) (Zai (Zaw Zbp (Zaf (Zaj 5) Za7 Zav)) Zbn) Zbn) (Zai (m_if (Zaf (Zaj 3) Za7 Zbq) (Zai (Zaw Zbp (Zak (Zaj 5) Zi8)) Zbn) Zbn) (Zai (Zn0 (Zaj 5)) (Zff (Zff (Zff (Zff Zbn))))))))) (Zai (Zaw Zbp (Zjg (Zae (Zak (Zaj 1) Zb1) (Zae (Zak (Zaj 1) Zb1) (Zae (Zak (Zaj 1) Zb1) Zbb))))) (Zai (Zaw Zbp (Zjg (Zae (Zak (Zaj 1) Zb1) (Zae (Zak (Zaj 1) Zb1) (Zae (Zak (Zaj 1) Zb1) Zbb))))) (Zai (Zka Zbp (Zm9 (Zn9 (Zae (Zak (Zaj 6) Za3) (Zae (Zak (Zaj 6) Za3) (Zae (Zak (Zaj 6) Za3) Zbb))))) (Zai (m_if (Zc9 (Zeq Zge (Zae (Zaj 8) Zbb))) (Zeg m_bl) Zbn) (Zff Zbn))) (Zai (m_if (Zaf (Zec (Zae (Zak (Zaj 6) Za3) (Zae (Zak (Zaj 6) Za3) (Zae (Zak (Zaj 6) Za3) Zbb)))) (Zaj 1) Zbq) (Zeg m_bl) Zbn) (Zai (m_if (Zaf (Zec (Zae (Zak (Zaj 7) Za3) (Zae (Zak (Zaj 7) Za3) (Zae (Zak (Zaj 7) Za3) Zbb)))) (Zaj 1) Zbq) (Zeg m_bl) Zbn) (Zai (Zaw Zbp (Zec (Zae (Zeb Zet) (Zae (Zeb Zet) (Zae (Zeb Zet) (Zae (Zeb Zet) (Zae (Zeb Zet) (Zae (Zeb Zet) Zbb)))))))) (Zai (Zaw Zbp (Zaf (Zaj 9) (Zec (Zae (Zeb Zet) (Zae (Zeb Zet) (Zae (Zeb Zet) (Zae (Zeb Zet) (Zae (Zeb Zet) (Zae (Zaj 6) Zbb))))))) Zdy)) (Zai (Zoq (Zka Zl2 (Zk6 (Zae (Zaj 9) Zbb)) (Zai (m_if (Zgz (Zc9 (Zak (Zaj 11) Zap)) (Zc9 (Zak (Zaj 11) Zap))) (Zeg m_bl) Zbn) (Zai (m_if (Zgz (Zak (Zaj 11) Zap) (Zak (Zaj 11) Zap)) (Zeg m_bl) Zbn) (Zai (Zff (m_if (Zaf (Zeq Zfg (Zae (Zaj 11) Zbb)) (Zj5 (Zkz (Zae Za7 Zbb)) m_bl (Zaf (Zaj 2) (Zaj 10) Zbq)) Zbq) (Zeg m_bl) Zbn)) (Zff (Zff Zbn))))))) (Zeg m_bl)))))))))))
@[irreducible] noncomputable def Zly : G := gOf 12 Zkq
theorem Zk5 : Zly = gOf 12 Zkq := by with_unfolding_all rfl
noncomputable def Zcs (law_script : (List Int)) (s1 : (List Int)) (law_place : Int) : P ((List Int)) :=
  (bd (bd (Zcf law_script law_place) fun t2 => Zbf t2 ([(4 : Int), (2 : Int), (1000000000000 : Int)])) fun (t3 : (List Int)) => un3 t3 fun law_sign law_small law_far =>
  (Zfc (cond (decide (law_small = (1 : Int))) (law_far % (20 : Int)) law_far) fun (law_far'' : Int) =>
  (Zfc (cond (decide (law_sign = (0 : Int))) (-law_far'') law_far'') fun (law_far'4 : Int) =>
  (bd (ofO (appO s1 law_far'4)) fun (law_parts' : (List Int)) =>
  (.ok law_parts')))))
noncomputable def Zhw (s15 : Unit) (law_one : Int) : P (Out (Unit) Bool) :=
  (bd (bd (Zdi law_one) fun b => .ok (!b)) fun c => cond c
  (.ok (Out.ret false))
  (.ok (.nx ())))
noncomputable def Zkg (x26 : (T2 Int XV)) : P Bool :=
  (bd (Zco x26.x2) fun t27 => bd (lcP (fun (law_place : Int) => (.ok true)) (fun (law_place : Int) => (.ok (decide (law_place = x26.x1)))) (Zev 0 (12 : Int).toNat) []) fun t28 => .ok (!decide (t27 = t28)))
noncomputable def Zj7 (x26 : (T2 Int XV)) : P Bool :=
  (bd (ofO (isEO Zbc x26.x2 (PySem.Str.ofString "IndexError"))) fun c => cond c (.ok true) (ofO (isEO Zbc x26.x2 (PySem.Str.ofString "KeyError"))))
noncomputable def Zkb (x26 : (T2 Int XV)) : P Bool :=
  (bd (bd (ofO (isEO Zbc x26.x2 (PySem.Str.ofString "FeastError"))) fun b => .ok (!b)) fun c => cond c (.ok true) (bd (ofO (isEO Zbc x26.x2 (PySem.Str.ofString "ValueError"))) fun b => .ok (!b)))
noncomputable def Zh3 (s25 : Unit) (x26 : (T2 Int XV)) : P (Out (Unit) Bool) :=
  (bd (Zkb x26) fun c => cond c
  (.ok (Out.ret false))
  (bd (Zj7 x26) fun c => cond c
  (.ok (Out.ret false))
  (bd (Zkg x26) fun c => cond c
  (.ok (Out.ret false))
  (.ok (.nx ())))))
noncomputable def Zh4 (s4 : (List Int)) (law_other : XV) : P Bool :=
  (bd (bd (ofO (Zdv law_other (PySem.Str.ofString "Sealed") (PySem.Str.ofString "year"))) fun t21 => bd (ofO (Zdv law_other (PySem.Str.ofString "Sealed") (PySem.Str.ofString "day"))) fun t22 => bd (ofO (Zdv law_other (PySem.Str.ofString "Sealed") (PySem.Str.ofString "number"))) fun t23 => .ok [t21, t22, t23]) fun t24 => .ok (!decide (t24 = s4)))
noncomputable def Zia (s4 : (List Int)) (law_kept : XV) : P Bool :=
  (bd (bd (ofO (Zdv law_kept (PySem.Str.ofString "Sealed") (PySem.Str.ofString "number"))) fun t17 => bd (ofO (Zdv law_kept (PySem.Str.ofString "Sealed") (PySem.Str.ofString "year"))) fun t18 => bd (ofO (Zdv law_kept (PySem.Str.ofString "Sealed") (PySem.Str.ofString "day"))) fun t19 => .ok [t17, t18, t19]) fun t20 => .ok (!decide (t20 = s4)))
noncomputable def Zkm (law_script : (List Int)) : P Bool :=
  (bd (Ze4 (Zcs law_script) (Zev 0 (3 : Int).toNat) ([] : List Int)) fun (s4 : (List Int)) =>
  (bd (bd (ofO (s4[0]?)) fun t5 => bd (ofO (s4[1]?)) fun t6 => bd (ofO (s4[2]?)) fun t7 => (.ok (XV.mk (PySem.Str.ofString "Sealed") [((PySem.Str.ofString "day"), t7), ((PySem.Str.ofString "year"), t6), ((PySem.Str.ofString "number"), t5)]))) fun (law_kept : XV) =>
  (bd (bd (ofO (s4[2]?)) fun t8 => bd (ofO (s4[0]?)) fun t9 => bd (ofO (s4[1]?)) fun t10 => (.ok (XV.mk (PySem.Str.ofString "Sealed") [((PySem.Str.ofString "day"), t10), ((PySem.Str.ofString "year"), t9), ((PySem.Str.ofString "number"), t8)]))) fun (law_other : XV) =>
  (bd (bd (bd (ofO (Zdv law_kept (PySem.Str.ofString "Sealed") (PySem.Str.ofString "number"))) fun t11 => bd (ofO (Zdv law_kept (PySem.Str.ofString "Sealed") (PySem.Str.ofString "year"))) fun t12 => bd (ofO (Zdv law_kept (PySem.Str.ofString "Sealed") (PySem.Str.ofString "day"))) fun t13 => .ok (T3.mk t11 t12 t13)) fun t14 => .ok [t14.x1, t14.x2, t14.x3]) fun l32 => aft (Zdo (ρ := Bool) Zhw l32 ()) (fun (r31 : Bool) => .ok r31) fun (s16 : Unit) =>
  (bd (Zia s4 law_kept) fun c => cond c
  (.ok false)
  (bd (Zh4 s4 law_other) fun c => cond c
  (.ok false)
  (Zfc ([(XV.mk (PySem.Str.ofString "NoDay") []), (XV.mk (PySem.Str.ofString "NoYear") []), (XV.mk (PySem.Str.ofString "BadYear") []), (XV.mk (PySem.Str.ofString "BadDay") []), (XV.mk (PySem.Str.ofString "BadFeast") []), (XV.mk (PySem.Str.ofString "Taken") [])]) fun (law_some : (List XV)) =>
  (bd (ofO (if law_some.length + ([(XV.mk (PySem.Str.ofString "NoFeast") []), (XV.mk (PySem.Str.ofString "NoOrder") []), (XV.mk (PySem.Str.ofString "NoBack") []), (XV.mk (PySem.Str.ofString "NoForth") []), (XV.mk (PySem.Str.ofString "NoStand") []), law_kept]).length ≤ 16777216 then some (law_some ++ ([(XV.mk (PySem.Str.ofString "NoFeast") []), (XV.mk (PySem.Str.ofString "NoOrder") []), (XV.mk (PySem.Str.ofString "NoBack") []), (XV.mk (PySem.Str.ofString "NoForth") []), (XV.mk (PySem.Str.ofString "NoStand") []), law_kept])) else none)) fun (law_some' : (List XV)) =>
  (aft (Zdo (ρ := Bool) Zh3 (Zf8 law_some') ()) (fun (r30 : Bool) => .ok r30) fun (s29 : Unit) =>
  (.ok true))))))))))
theorem Zjy (law_script : (List Int)) : Sim Zly [.sh ((encL D.int) law_script)] blE (Zkm law_script) :=
 Zfv Zk5 (env := ([.sh ((encL D.int) law_script), .un, .un, .un, .un, .un, .un, .un, .un, .un, .un, .un] : En)) rfl (fun _ => Zbg) (by
  unfold Zkm Zkq
  exact (Zhy (s := .ow ((encL D.int) ([] : List Int))) (env' := ([.sh ((encL D.int) law_script), .ow ((encL D.int) ([] : List Int)), .un, .un, .un, .un, .un, .un, .un, .un, .un, .un] : En)) (Zex Zbl rfl (Nat.le_of_ble_eq_true rfl)) Zct (Nat.le_of_ble_eq_true rfl) rfl (Zlc (f := D.int) (xs := (Zev 0 (3 : Int).toNat)) (s0 := ([] : List Int)) (fun (s1 : (List Int)) => ([.sh ((encL D.int) law_script), .ow ((encL D.int) s1), .un, .un, .un, .un, .un, .un, .un, .un, .un, .un] : En)) (Zhv (Zam Zat Zbl) (by decide)) rfl
 (fun s1 law_place => (Zi2 (e := ([.sh ((encL D.int) law_script), .ow ((encL D.int) s1), .sh (D.int law_place), .un, .un, .un, .un, .un, .un, .un, .un, .un] : En)) Zbg (Nat.le_of_ble_eq_true rfl) rfl (Zlq (Zjj (fun _ => Zct) (Zbm (Zdr (Zam (Zah (i := 0) rfl) (Zam (Zah (i := 2) rfl) Zbl)) (Zel law_script law_place) (fun _ => Zbg)) fun t2 => (Zod (Zex (Zam Zat (Zam Zat (Zam (Za2 Zat Zat (op_pow (c := 1000000000000) ⟨by decide, by decide, by decide⟩ (by decide +kernel))) Zbl))) rfl (Nat.le_of_ble_eq_true rfl)) (Zcn (Zd3 t2 ([(4 : Int), (2 : Int), (1000000000000 : Int)])))))) fun t3 => Zmm (xs := t3) (fun law_sign law_small law_far => ([.sh ((encL D.int) law_script), .ow ((encL D.int) s1), .sh (D.int law_place), .sh (D.int law_sign), .sh (D.int law_small), .sh (D.int law_far), .un, .un, .un, .un, .un, .un] : En)) rfl (fun _ _ _ => rfl) fun law_sign law_small law_far =>
 (Znk (fun (law_far'' : Int) => ([.sh ((encL D.int) law_script), .ow ((encL D.int) s1), .sh (D.int law_place), .sh (D.int law_sign), .sh (D.int law_small), .sh (D.int law_far''), .un, .un, .un, .un, .un, .un] : En)) (Za2 (Zah (i := 4) rfl) Zat (op_eq (x := law_small) (y := (1 : Int)) Zej rfl rfl))
 (Zhy (s := .sh (D.int (law_far % (20 : Int)))) (env' := ([.sh ((encL D.int) law_script), .ow ((encL D.int) s1), .sh (D.int law_place), .sh (D.int law_sign), .sh (D.int law_small), .sh (D.int (law_far % (20 : Int))), .un, .un, .un, .un, .un, .un] : En)) (Za2 (Zah (i := 5) rfl) Zat (op_mod (by decide))) Zbg (Nat.le_of_ble_eq_true rfl) rfl (Zfd rfl))
 (Zfd rfl)
 fun law_far'' => (Znk (fun (law_far'4 : Int) => ([.sh ((encL D.int) law_script), .ow ((encL D.int) s1), .sh (D.int law_place), .sh (D.int law_sign), .sh (D.int law_small), .sh (D.int law_far'4), .un, .un, .un, .un, .un, .un] : En)) (Za2 (Zah (i := 3) rfl) Zat (op_eq (x := law_sign) (y := (0 : Int)) Zej rfl rfl))
 (Zhy (s := .sh (D.int (-law_far''))) (env' := ([.sh ((encL D.int) law_script), .ow ((encL D.int) s1), .sh (D.int law_place), .sh (D.int law_sign), .sh (D.int law_small), .sh (D.int (-law_far'')), .un, .un, .un, .un, .un, .un] : En)) (Zh5 (Zah (i := 5) rfl) un_neg) Zbg (Nat.le_of_ble_eq_true rfl) rfl (Zfd rfl))
 (Zfd rfl)
 fun law_far'4 => (Zov (f := D.int) (xs := s1) (x := law_far'4) (fun law_parts' => ([.sh ((encL D.int) law_script), .ow ((encL D.int) law_parts'), .sh (D.int law_place), .sh (D.int law_sign), .sh (D.int law_small), .sh (D.int law_far'4), .un, .un, .un, .un, .un, .un] : En)) rfl (Zah (i := 5) rfl) rfl (fun _ => rfl) fun law_parts' =>
 (Zdw (env' := ([.sh ((encL D.int) law_script), .ow ((encL D.int) law_parts'), .un, .sh (D.int law_sign), .sh (D.int law_small), .sh (D.int law_far'4), .un, .un, .un, .un, .un, .un] : En)) rfl (Zdw (env' := ([.sh ((encL D.int) law_script), .ow ((encL D.int) law_parts'), .un, .un, .sh (D.int law_small), .sh (D.int law_far'4), .un, .un, .un, .un, .un, .un] : En)) rfl (Zdw (env' := ([.sh ((encL D.int) law_script), .ow ((encL D.int) law_parts'), .un, .un, .un, .sh (D.int law_far'4), .un, .un, .un, .un, .un, .un] : En)) rfl (Zdw (env' := ([.sh ((encL D.int) law_script), .ow ((encL D.int) law_parts'), .un, .un, .un, .un, .un, .un, .un, .un, .un, .un] : En)) rfl (Zfd rfl)))))))))))
 fun s4 => (Zdm (f := (shE Zau)) (fun law_kept => ([.sh ((encL D.int) law_script), .ow ((encL D.int) s4), .un, .un, .un, .un, .sh (Zau law_kept), .un, .un, .un, .un, .un] : En)) (Zhs (Zbm (Zay (Zcu (i := 1) rfl) (Zfs (xs := s4) rfl)) fun t5 => (Zbm (Zay (Zcu (i := 1) rfl) (Zfs (xs := s4) rfl)) fun t6 => (Zbm (Zay (Zcu (i := 1) rfl) (Zfs (xs := s4) rfl)) fun t7 => (Zcn ⟨_, _, _, rfl, rfl⟩))))) (fun _ => Zbg) (Nat.le_of_ble_eq_true rfl) (fun _ => rfl) fun law_kept =>
 (Zdm (f := (shE Zau)) (fun law_other => ([.sh ((encL D.int) law_script), .ow ((encL D.int) s4), .un, .un, .un, .un, .sh (Zau law_kept), .sh (Zau law_other), .un, .un, .un, .un] : En)) (Zhs (Zbm (Zay (Zcu (i := 1) rfl) (Zfs (xs := s4) rfl)) fun t8 => (Zbm (Zay (Zcu (i := 1) rfl) (Zfs (xs := s4) rfl)) fun t9 => (Zbm (Zay (Zcu (i := 1) rfl) (Zfs (xs := s4) rfl)) fun t10 => (Zcn ⟨_, _, _, rfl, rfl⟩))))) (fun _ => Zbg) (Nat.le_of_ble_eq_true rfl) (fun _ => rfl) fun law_other =>
 (Zlh (f := D.int) (s0 := ()) (fun (s15 : Unit) => ([.sh ((encL D.int) law_script), .ow ((encL D.int) s4), .un, .un, .un, .un, .sh (Zau law_kept), .sh (Zau law_other), .un, .un, .un, .un] : En)) blE (Znz (f := D.int) (fb := (enc3 D.int D.int D.int)) (xs := fun t14 => [t14.x1, t14.x2, t14.x3]) (Zlj (f := shE (enc3 D.int D.int D.int)) (Zbm (Zay (Zah (i := 6) rfl) (Zcr (v := law_kept))) fun t11 => (Zbm (Zay (Zah (i := 6) rfl) (Zcr (v := law_kept))) fun t12 => (Zbm (Zay (Zah (i := 6) rfl) (Zcr (v := law_kept))) fun t13 => (Zcn ⟨(T3.mk t11 t12 t13), _, rfl, Nat.le_of_ble_eq_true rfl, rfl, rfl⟩))))) (fun _ => rfl)) rfl
 (fun s15 law_one => (Zi2 (e := ([.sh ((encL D.int) law_script), .ow ((encL D.int) s4), .un, .un, .un, .un, .sh (Zau law_kept), .sh (Zau law_other), .sh (D.int law_one), .un, .un, .un] : En)) Zbg (Nat.le_of_ble_eq_true rfl) rfl (Ziq (Zha (Zdr (Zam (Zah (i := 8) rfl) Zbl) (Zey law_one) (fun _ => Zbg)))
 (Zfn Zea rfl)
 (Zd8 (Zdw (env' := ([.sh ((encL D.int) law_script), .ow ((encL D.int) s4), .un, .un, .un, .un, .sh (Zau law_kept), .sh (Zau law_other), .un, .un, .un, .un] : En)) rfl (Zfd rfl))))))
 (fun _ => ⟨_, rfl, rfl⟩)
 fun s16 => (Ziq (Zgc (f := blE) (mm := fun t20 => (!decide (t20 = s4))) (Zew (f := owE (encL D.int)) (Zbm (Zay (Zah (i := 6) rfl) (Zcr (v := law_kept))) fun t17 => (Zbm (Zay (Zah (i := 6) rfl) (Zcr (v := law_kept))) fun t18 => (Zbm (Zay (Zah (i := 6) rfl) (Zcr (v := law_kept))) fun t19 => (Zcn ⟨[t17, t18, t19], _, rfl, Nat.le_of_ble_eq_true rfl, rfl, rfl⟩))))) (Zcu (i := 1) rfl) fun t20 => (op_ne (x := t20) (y := s4) (Zlw Zej) rfl rfl))
 (Zfn Zea rfl)
 (Zd8 (Ziq (Zgc (f := blE) (mm := fun t24 => (!decide (t24 = s4))) (Zew (f := owE (encL D.int)) (Zbm (Zay (Zah (i := 7) rfl) (Zcr (v := law_other))) fun t21 => (Zbm (Zay (Zah (i := 7) rfl) (Zcr (v := law_other))) fun t22 => (Zbm (Zay (Zah (i := 7) rfl) (Zcr (v := law_other))) fun t23 => (Zcn ⟨[t21, t22, t23], _, rfl, Nat.le_of_ble_eq_true rfl, rfl, rfl⟩))))) (Zcu (i := 1) rfl) fun t24 => (op_ne (x := t24) (y := s4) (Zlw Zej) rfl rfl))
 (Zfn Zea rfl)
 (Zd8 (Zmd (owE (encL Zau)) (fun law_some => ([.sh ((encL D.int) law_script), .ow ((encL D.int) s4), .un, .un, .un, .un, .sh (Zau law_kept), .sh (Zau law_other), .un, .ow ((encL Zau) law_some), .un, .un] : En)) (Zex (Zam (Zb2 (c := (PySem.Str.ofString "NoDay")) Zb4) (Zam (Zb2 (c := (PySem.Str.ofString "NoYear")) Zb4) (Zam (Zb2 (c := (PySem.Str.ofString "BadYear")) Zb4) (Zam (Zb2 (c := (PySem.Str.ofString "BadDay")) Zb4) (Zam (Zb2 (c := (PySem.Str.ofString "BadFeast")) Zb4) (Zam (Zb2 (c := (PySem.Str.ofString "Taken")) Zb4) Zbl)))))) rfl (Nat.le_of_ble_eq_true rfl)) (fun _ => Zct) (Nat.le_of_ble_eq_true rfl) (fun _ => rfl) fun law_some =>
 (Zdm (f := (owE (encL Zau))) (fun law_some' => ([.sh ((encL D.int) law_script), .ow ((encL D.int) s4), .un, .un, .un, .un, .sh (Zau law_kept), .sh (Zau law_other), .un, .ow ((encL Zau) law_some'), .un, .un] : En)) (Zgd (Zcu (i := 9) rfl) (Zex (Zam (Zb2 (c := (PySem.Str.ofString "NoFeast")) Zb4) (Zam (Zb2 (c := (PySem.Str.ofString "NoOrder")) Zb4) (Zam (Zb2 (c := (PySem.Str.ofString "NoBack")) Zb4) (Zam (Zb2 (c := (PySem.Str.ofString "NoForth")) Zb4) (Zam (Zb2 (c := (PySem.Str.ofString "NoStand")) Zb4) (Zam (Zah (i := 6) rfl) Zbl)))))) rfl (Nat.le_of_ble_eq_true rfl)) (Zjs (xs := law_some) (ys := ([(XV.mk (PySem.Str.ofString "NoFeast") []), (XV.mk (PySem.Str.ofString "NoOrder") []), (XV.mk (PySem.Str.ofString "NoBack") []), (XV.mk (PySem.Str.ofString "NoForth") []), (XV.mk (PySem.Str.ofString "NoStand") []), law_kept])) rfl rfl)) (fun _ => Zct) (Nat.le_of_ble_eq_true rfl) (fun _ => rfl) fun law_some' =>
 (Zot (env' := ([.sh ((encL D.int) law_script), .ow ((encL D.int) s4), .un, .un, .un, .un, .sh (Zau law_kept), .sh (Zau law_other), .un, .sh ((encL Zau) law_some'), .un, .un] : En)) rfl rfl (Znd (f := (enc2 D.int Zau)) (xs := (Zf8 law_some')) (s0 := ()) (fun (s25 : Unit) => ([.sh ((encL D.int) law_script), .ow ((encL D.int) s4), .un, .un, .un, .un, .sh (Zau law_kept), .sh (Zau law_other), .un, .sh ((encL Zau) law_some'), .un, .un] : En)) blE (Zht (xs := law_some') (Zam (Zah (i := 9) rfl) Zbl) rfl) rfl
 (fun s25 x26 => (Zk0 (e := ([.sh ((encL D.int) law_script), .ow ((encL D.int) s4), .un, .un, .un, .un, .sh (Zau law_kept), .sh (Zau law_other), .un, .sh ((encL Zau) law_some'), .sh (D.int x26.x1), .sh (Zau x26.x2)] : En)) rfl rfl (Ziq (Zhp (Zha (Zay (Zah (i := 11) rfl) (Zbu (v := x26.x2)))) (Zha (Zay (Zah (i := 11) rfl) (Zbu (v := x26.x2)))))
 (Zfn Zea rfl)
 (Zd8 (Ziq (Zhp (Zay (Zah (i := 11) rfl) (Zbu (v := x26.x2))) (Zay (Zah (i := 11) rfl) (Zbu (v := x26.x2))))
 (Zfn Zea rfl)
 (Zd8 (Zoh (env' := ([.sh ((encL D.int) law_script), .ow ((encL D.int) s4), .un, .un, .un, .un, .sh (Zau law_kept), .sh (Zau law_other), .un, .sh ((encL Zau) law_some'), .sh (D.int x26.x1), .sh (Zau x26.x2)] : En)) rfl (Ziq (Zio (f := blE) (mm := fun t27 t28 => (!decide (t27 = t28))) (Zdr (Zam (Zah (i := 11) rfl) Zbl) (Zd2 x26.x2) (fun _ => Zct)) (Zns (i := 2) blE (fb := D.bl) rfl (Zhv (Zam Zat Zbl) (by decide)) (fun (law_place : Int) => (EvP.m (f := blE) Zea)) (fun (law_place : Int) => (EvP.m (f := blE) (Za2 (Zah (i := 2) rfl) (Zah (i := 10) rfl) (op_eq (x := law_place) (y := x26.x1) Zej rfl rfl)))) (fun _ => rfl)) fun t27 t28 => (op_ne (x := t27) (y := t28) (Zlw Zmq) rfl rfl))
 (Zfn Zea rfl)
 (Zd8 (Zdw (env' := ([.sh ((encL D.int) law_script), .ow ((encL D.int) s4), .un, .un, .un, .un, .sh (Zau law_kept), .sh (Zau law_other), .un, .sh ((encL Zau) law_some'), .un, .sh (Zau x26.x2)] : En)) rfl (Zdw (env' := ([.sh ((encL D.int) law_script), .ow ((encL D.int) s4), .un, .un, .un, .un, .sh (Zau law_kept), .sh (Zau law_other), .un, .sh ((encL Zau) law_some'), .un, .un] : En)) rfl (Zfd rfl))))))))))))
 (fun _ => ⟨_, rfl, rfl⟩)
 fun s29 => (Zkp Zea rfl)))))))))))))))
noncomputable abbrev Zc7 (a b c : Int) : XV := XV.mk (PySem.Str.ofString "Sealed") [((PySem.Str.ofString "day"), c), ((PySem.Str.ofString "year"), b), ((PySem.Str.ofString "number"), a)]
theorem f57n (a b c : Int) : Zdv (Zc7 a b c) (PySem.Str.ofString "Sealed") (PySem.Str.ofString "number") = some a := by kernel_rfl
theorem f57y (a b c : Int) : Zdv (Zc7 a b c) (PySem.Str.ofString "Sealed") (PySem.Str.ofString "year") = some b := by kernel_rfl
theorem f57d (a b c : Int) : Zdv (Zc7 a b c) (PySem.Str.ofString "Sealed") (PySem.Str.ofString "day") = some c := by kernel_rfl
theorem Zmo (a b c : Int) : Zdo (ρ := Bool) Zh3 (Zf8 ([(XV.mk (PySem.Str.ofString "NoDay") []), (XV.mk (PySem.Str.ofString "NoYear") []), (XV.mk (PySem.Str.ofString "BadYear") []), (XV.mk (PySem.Str.ofString "BadDay") []), (XV.mk (PySem.Str.ofString "BadFeast") []), (XV.mk (PySem.Str.ofString "Taken") [])] ++ [(XV.mk (PySem.Str.ofString "NoFeast") []), (XV.mk (PySem.Str.ofString "NoOrder") []), (XV.mk (PySem.Str.ofString "NoBack") []), (XV.mk (PySem.Str.ofString "NoForth") []), (XV.mk (PySem.Str.ofString "NoStand") []), Zc7 a b c])) () = .ok (.nx ()) := by kernel_rfl
theorem Zjw (ns : List Int) (acc : List Int) (hl : acc.length < 16777216) {k : Int} (hk : 0 ≤ k) : ∃ x, Zcs ns acc k = .ok (acc ++ [x]) := by
  obtain ⟨c, ec⟩ := Zlz ns (i := k) hk
  obtain ⟨x, y, z, ed, _⟩ := Zog c (a := 4) (b := 2) (d := 1000000000000) (.cons (by omega) (by omega) (.cons (by omega) (by omega) (.cons (by omega) (by omega) .nil)))
  unfold Zcs Zfc
  dsimp only
  rw [ec, Za6, ed, Za6]
  simp only [un3]
  rw [Zhc hl, Zas, Za6]
  exact ⟨_, rfl⟩
theorem Zkv (ns : List Int) (hn : ns.length ≤ 63) : Zkm ns = .ok true := by
  unfold Zkm Zfc
  obtain ⟨a, ea⟩ := Zjw ns [] (by decide) (k := 0) (by omega)
  obtain ⟨b, eb⟩ := Zjw ns [a] (by simp) (k := 1) (by omega)
  obtain ⟨c, ec⟩ := Zjw ns [a, b] (by simp) (k := 2) (by omega)
  have el : Ze4 (Zcs ns) (Zev 0 (3 : Int).toNat) ([] : List Int) = .ok [a, b, c] := by
    show Ze4 (Zcs ns) [0, 1, 2] [] = _
    rw [Zc6, ea, Za6, Zc6]
    show bd (Zcs ns [a] 1) _ = _
    rw [eb, Za6, Zc6]
    show bd (Zcs ns [a, b] 2) _ = _
    rw [ec, Za6]
    rfl
  rw [el, Za6]
  show (bd (bd (ofO (some a)) fun t5 => bd (ofO (some b)) fun t6 => bd (ofO (some c)) fun t7 => (.ok (Zc7 t5 t6 t7))) _ : P Bool) = _
  rw [Zas, Za6, Zas, Za6, Zas, Za6, Za6]
  show (bd (bd (ofO (some c)) fun t8 => bd (ofO (some a)) fun t9 => bd (ofO (some b)) fun t10 => (.ok (Zc7 t8 t9 t10))) _ : P Bool) = _
  rw [Zas, Za6, Zas, Za6, Zas, Za6, Za6, f57n, Zas, Za6, f57y, Zas, Za6, f57d, Zas, Za6, Za6]
  have e2 : Zdo (ρ := Bool) Zhw [(T3.mk a b c).x1, (T3.mk a b c).x2, (T3.mk a b c).x3] () = .ok (.nx ()) := rfl
  rw [Za6, e2, Zk8]
  unfold Zia Zh4
  rw [f57n, Zas, Za6, f57y, Zas, Za6, f57d, Zas, Za6, Za6, decide_eq_true rfl, Bool.not_true, Za6, cond_false]
  rw [f57y, Zas, Za6, f57d, Zas, Za6, f57n, Zas, Za6, Za6, decide_eq_true rfl, Bool.not_true, Za6, cond_false]
  dsimp only
  rw [if_pos (Nat.le_of_ble_eq_true rfl), Zas, Za6, Zmo, Zk8]
theorem Zi3 : ∀ ns : List Int, ns.length ≤ 63 → Zly [.sh (.lst (ns.map D.int))] fun r => r = .ok (.sh (.bl true)) := fun ns hn => Zjy ns _ (by rw [Zkv ns hn]; exact rfl)
end DL
set_option Elab.async false
set_option linter.all false
set_option maxRecDepth 100000
set_option maxHeartbeats 1000000
set_option synthInstance.maxSize 2000
set_option synthInstance.maxHeartbeats 400000
namespace DL
open PySem PySem.Spec PyProof.Rows L2
noncomputable def topS (i : Nat) : Stmt := PySem.Challenge.pw_feastfall_k57_refusals_by_their_classes.main.body.getD i (.Pass ⟨0, 0, 0, 0⟩)
noncomputable abbrev Zck : Stmt := topS 15
noncomputable abbrev Zfk : List Str := ["_law_script", "_law_place"]
theorem Zhi : FnScope Zfk ["_law_script", "_law_place"] (defScope Zck) := ⟨rfl, rfl, rfl, by decide +kernel, rfl, by decide +kernel, by decide +kernel⟩
noncomputable abbrev Zcj : Stmt := topS 16
noncomputable abbrev Zfy : List Str := ["_law_cell_here", "_law_one", "_law_two"]
theorem Zdj : FnScope Zfy ["_law_cell_here"] (defScope Zcj) := ⟨rfl, rfl, rfl, by decide +kernel, rfl, by decide +kernel, by decide +kernel⟩
noncomputable abbrev Zbt : Stmt := topS 17
noncomputable abbrev Zd7 : List Str := ["_law_cell_here", "_law_sizes", "_law_rest", "_law_found", "_law_k", "_law_size"]
theorem Za9 : FnScope Zd7 ["_law_cell_here", "_law_sizes"] (defScope Zbt) := ⟨rfl, rfl, rfl, by decide +kernel, rfl, by decide +kernel, by decide +kernel⟩
noncomputable abbrev Zb5 : Stmt := topS 18
noncomputable abbrev Zeo : List Str := ["_law_thing"]
theorem Zgn : FnScope Zeo ["_law_thing"] (defScope Zb5) := ⟨rfl, rfl, rfl, by decide +kernel, rfl, by decide +kernel, by decide +kernel⟩
noncomputable abbrev Zbh : Stmt := topS 19
noncomputable abbrev Zdp : List Str := ["_law_e", "_law_first", "_law_second", "_law_third"]
theorem Zbr : FnScope Zdp ["_law_e"] (defScope Zbh) := ⟨rfl, rfl, rfl, by decide +kernel, rfl, by decide +kernel, by decide +kernel⟩
noncomputable abbrev Zih : Stmt := topS 20
noncomputable abbrev Zl6 : List Str := ["_law_script", "_law_parts", "_law_place", "_law_sign", "_law_small", "_law_far", "_law_kept", "_law_other", "_law_one", "_law_some", "_law_k", "_law_e"]
theorem Zb8 : FnScope Zl6 ["_law_script"] (defScope Zih) := ⟨rfl, rfl, rfl, by decide +kernel, rfl, by decide +kernel, by decide +kernel⟩
noncomputable abbrev Zcy : Stmt := L2.inClass (topS 13) 0
theorem Zii : FnScope ["self", "number", "year", "day"] ["self", "number", "year", "day"] (defScope Zcy) := ⟨rfl, rfl, rfl, by decide +kernel, rfl, by decide +kernel, by decide +kernel⟩
structure Txt (K : PySem.W.Frag) (mg : Str → Option Value) (w : World) : Prop where
  d_law_cell : Zf9 K mg "_law_cell" Zck ["_law_script", "_law_place"]
  d_law_seed : Zf9 K mg "_law_seed" Zcj ["_law_cell_here"]
  d_law_digits : Zf9 K mg "_law_digits" Zbt ["_law_cell_here", "_law_sizes"]
  d_law_whole : Zf9 K mg "_law_whole" Zb5 ["_law_thing"]
  d_law_classes : Zf9 K mg "_law_classes" Zbh ["_law_e"]
  d_law : Zf9 K mg "law" Zih ["_law_script"]
  n_bool : mg "bool" = none
  n_enumerate : mg "enumerate" = none
  n_int : mg "int" = none
  n_isinstance : mg "isinstance" = none
  n_len : mg "len" = none
  n_range : mg "range" = none
  x_BadDay : Zed K mg "BadDay"
  x_BadFeast : Zed K mg "BadFeast"
  x_BadYear : Zed K mg "BadYear"
  x_NoBack : Zed K mg "NoBack"
  x_NoDay : Zed K mg "NoDay"
  x_NoFeast : Zed K mg "NoFeast"
  x_NoForth : Zed K mg "NoForth"
  x_NoOrder : Zed K mg "NoOrder"
  x_NoStand : Zed K mg "NoStand"
  x_NoYear : Zed K mg "NoYear"
  x_Taken : Zed K mg "Taken"
  ns_BadDay : NsMg K mg "BadDay"
  ns_BadFeast : NsMg K mg "BadFeast"
  ns_BadYear : NsMg K mg "BadYear"
  ns_NoBack : NsMg K mg "NoBack"
  ns_NoDay : NsMg K mg "NoDay"
  ns_NoFeast : NsMg K mg "NoFeast"
  ns_NoForth : NsMg K mg "NoForth"
  ns_NoOrder : NsMg K mg "NoOrder"
  ns_NoStand : NsMg K mg "NoStand"
  ns_NoYear : NsMg K mg "NoYear"
  ns_Sealed : NsMg K mg "Sealed"
  ns_Taken : NsMg K mg "Taken"
  xv_Sealed_day : XfAt K mg "Sealed" "day"
  xv_Sealed_number : XfAt K mg "Sealed" "number"
  xv_Sealed_year : XfAt K mg "Sealed" "year"
  nm_BadDay_BadFeast_BadYear_NoBack_NoDay_NoFeast_NoForth_NoOrder_NoStand_NoYear_Sealed_Taken : ∀ c, (c, true) ∈ ([(PySem.Str.ofString "BadDay", true), (PySem.Str.ofString "BadFeast", true), (PySem.Str.ofString "BadYear", true), (PySem.Str.ofString "NoBack", true), (PySem.Str.ofString "NoDay", true), (PySem.Str.ofString "NoFeast", true), (PySem.Str.ofString "NoForth", true), (PySem.Str.ofString "NoOrder", true), (PySem.Str.ofString "NoStand", true), (PySem.Str.ofString "NoYear", true), (PySem.Str.ofString "Sealed", true), (PySem.Str.ofString "Taken", true)] : List (Str × Bool)) → NsMg K mg c
  s_BadDay_BadFeast_BadYear_NoBack_NoDay_NoFeast_NoForth_NoOrder_NoStand_NoYear_Sealed_Taken_BadDay : ∀ c, (c, true) ∈ ([(PySem.Str.ofString "BadDay", true), (PySem.Str.ofString "BadFeast", true), (PySem.Str.ofString "BadYear", true), (PySem.Str.ofString "NoBack", true), (PySem.Str.ofString "NoDay", true), (PySem.Str.ofString "NoFeast", true), (PySem.Str.ofString "NoForth", true), (PySem.Str.ofString "NoOrder", true), (PySem.Str.ofString "NoStand", true), (PySem.Str.ofString "NoYear", true), (PySem.Str.ofString "Sealed", true), (PySem.Str.ofString "Taken", true)] : List (Str × Bool)) → IsE K mg c "BadDay" (isaX c (PySem.Str.ofString "BadDay"))
  s_BadDay_BadFeast_BadYear_NoBack_NoDay_NoFeast_NoForth_NoOrder_NoStand_NoYear_Sealed_Taken_BadFeast : ∀ c, (c, true) ∈ ([(PySem.Str.ofString "BadDay", true), (PySem.Str.ofString "BadFeast", true), (PySem.Str.ofString "BadYear", true), (PySem.Str.ofString "NoBack", true), (PySem.Str.ofString "NoDay", true), (PySem.Str.ofString "NoFeast", true), (PySem.Str.ofString "NoForth", true), (PySem.Str.ofString "NoOrder", true), (PySem.Str.ofString "NoStand", true), (PySem.Str.ofString "NoYear", true), (PySem.Str.ofString "Sealed", true), (PySem.Str.ofString "Taken", true)] : List (Str × Bool)) → IsE K mg c "BadFeast" (isaX c (PySem.Str.ofString "BadFeast"))
  s_BadDay_BadFeast_BadYear_NoBack_NoDay_NoFeast_NoForth_NoOrder_NoStand_NoYear_Sealed_Taken_BadYear : ∀ c, (c, true) ∈ ([(PySem.Str.ofString "BadDay", true), (PySem.Str.ofString "BadFeast", true), (PySem.Str.ofString "BadYear", true), (PySem.Str.ofString "NoBack", true), (PySem.Str.ofString "NoDay", true), (PySem.Str.ofString "NoFeast", true), (PySem.Str.ofString "NoForth", true), (PySem.Str.ofString "NoOrder", true), (PySem.Str.ofString "NoStand", true), (PySem.Str.ofString "NoYear", true), (PySem.Str.ofString "Sealed", true), (PySem.Str.ofString "Taken", true)] : List (Str × Bool)) → IsE K mg c "BadYear" (isaX c (PySem.Str.ofString "BadYear"))
  s_BadDay_BadFeast_BadYear_NoBack_NoDay_NoFeast_NoForth_NoOrder_NoStand_NoYear_Sealed_Taken_FeastError : ∀ c, (c, true) ∈ ([(PySem.Str.ofString "BadDay", true), (PySem.Str.ofString "BadFeast", true), (PySem.Str.ofString "BadYear", true), (PySem.Str.ofString "NoBack", true), (PySem.Str.ofString "NoDay", true), (PySem.Str.ofString "NoFeast", true), (PySem.Str.ofString "NoForth", true), (PySem.Str.ofString "NoOrder", true), (PySem.Str.ofString "NoStand", true), (PySem.Str.ofString "NoYear", true), (PySem.Str.ofString "Sealed", true), (PySem.Str.ofString "Taken", true)] : List (Str × Bool)) → IsE K mg c "FeastError" (isaX c (PySem.Str.ofString "FeastError"))
  s_BadDay_BadFeast_BadYear_NoBack_NoDay_NoFeast_NoForth_NoOrder_NoStand_NoYear_Sealed_Taken_IndexError : ∀ c, (c, true) ∈ ([(PySem.Str.ofString "BadDay", true), (PySem.Str.ofString "BadFeast", true), (PySem.Str.ofString "BadYear", true), (PySem.Str.ofString "NoBack", true), (PySem.Str.ofString "NoDay", true), (PySem.Str.ofString "NoFeast", true), (PySem.Str.ofString "NoForth", true), (PySem.Str.ofString "NoOrder", true), (PySem.Str.ofString "NoStand", true), (PySem.Str.ofString "NoYear", true), (PySem.Str.ofString "Sealed", true), (PySem.Str.ofString "Taken", true)] : List (Str × Bool)) → IsE K mg c "IndexError" (isaX c (PySem.Str.ofString "IndexError"))
  s_BadDay_BadFeast_BadYear_NoBack_NoDay_NoFeast_NoForth_NoOrder_NoStand_NoYear_Sealed_Taken_KeyError : ∀ c, (c, true) ∈ ([(PySem.Str.ofString "BadDay", true), (PySem.Str.ofString "BadFeast", true), (PySem.Str.ofString "BadYear", true), (PySem.Str.ofString "NoBack", true), (PySem.Str.ofString "NoDay", true), (PySem.Str.ofString "NoFeast", true), (PySem.Str.ofString "NoForth", true), (PySem.Str.ofString "NoOrder", true), (PySem.Str.ofString "NoStand", true), (PySem.Str.ofString "NoYear", true), (PySem.Str.ofString "Sealed", true), (PySem.Str.ofString "Taken", true)] : List (Str × Bool)) → IsE K mg c "KeyError" (isaX c (PySem.Str.ofString "KeyError"))
  s_BadDay_BadFeast_BadYear_NoBack_NoDay_NoFeast_NoForth_NoOrder_NoStand_NoYear_Sealed_Taken_NoBack : ∀ c, (c, true) ∈ ([(PySem.Str.ofString "BadDay", true), (PySem.Str.ofString "BadFeast", true), (PySem.Str.ofString "BadYear", true), (PySem.Str.ofString "NoBack", true), (PySem.Str.ofString "NoDay", true), (PySem.Str.ofString "NoFeast", true), (PySem.Str.ofString "NoForth", true), (PySem.Str.ofString "NoOrder", true), (PySem.Str.ofString "NoStand", true), (PySem.Str.ofString "NoYear", true), (PySem.Str.ofString "Sealed", true), (PySem.Str.ofString "Taken", true)] : List (Str × Bool)) → IsE K mg c "NoBack" (isaX c (PySem.Str.ofString "NoBack"))
  s_BadDay_BadFeast_BadYear_NoBack_NoDay_NoFeast_NoForth_NoOrder_NoStand_NoYear_Sealed_Taken_NoDay : ∀ c, (c, true) ∈ ([(PySem.Str.ofString "BadDay", true), (PySem.Str.ofString "BadFeast", true), (PySem.Str.ofString "BadYear", true), (PySem.Str.ofString "NoBack", true), (PySem.Str.ofString "NoDay", true), (PySem.Str.ofString "NoFeast", true), (PySem.Str.ofString "NoForth", true), (PySem.Str.ofString "NoOrder", true), (PySem.Str.ofString "NoStand", true), (PySem.Str.ofString "NoYear", true), (PySem.Str.ofString "Sealed", true), (PySem.Str.ofString "Taken", true)] : List (Str × Bool)) → IsE K mg c "NoDay" (isaX c (PySem.Str.ofString "NoDay"))
  s_BadDay_BadFeast_BadYear_NoBack_NoDay_NoFeast_NoForth_NoOrder_NoStand_NoYear_Sealed_Taken_NoFeast : ∀ c, (c, true) ∈ ([(PySem.Str.ofString "BadDay", true), (PySem.Str.ofString "BadFeast", true), (PySem.Str.ofString "BadYear", true), (PySem.Str.ofString "NoBack", true), (PySem.Str.ofString "NoDay", true), (PySem.Str.ofString "NoFeast", true), (PySem.Str.ofString "NoForth", true), (PySem.Str.ofString "NoOrder", true), (PySem.Str.ofString "NoStand", true), (PySem.Str.ofString "NoYear", true), (PySem.Str.ofString "Sealed", true), (PySem.Str.ofString "Taken", true)] : List (Str × Bool)) → IsE K mg c "NoFeast" (isaX c (PySem.Str.ofString "NoFeast"))
  s_BadDay_BadFeast_BadYear_NoBack_NoDay_NoFeast_NoForth_NoOrder_NoStand_NoYear_Sealed_Taken_NoForth : ∀ c, (c, true) ∈ ([(PySem.Str.ofString "BadDay", true), (PySem.Str.ofString "BadFeast", true), (PySem.Str.ofString "BadYear", true), (PySem.Str.ofString "NoBack", true), (PySem.Str.ofString "NoDay", true), (PySem.Str.ofString "NoFeast", true), (PySem.Str.ofString "NoForth", true), (PySem.Str.ofString "NoOrder", true), (PySem.Str.ofString "NoStand", true), (PySem.Str.ofString "NoYear", true), (PySem.Str.ofString "Sealed", true), (PySem.Str.ofString "Taken", true)] : List (Str × Bool)) → IsE K mg c "NoForth" (isaX c (PySem.Str.ofString "NoForth"))
  s_BadDay_BadFeast_BadYear_NoBack_NoDay_NoFeast_NoForth_NoOrder_NoStand_NoYear_Sealed_Taken_NoOrder : ∀ c, (c, true) ∈ ([(PySem.Str.ofString "BadDay", true), (PySem.Str.ofString "BadFeast", true), (PySem.Str.ofString "BadYear", true), (PySem.Str.ofString "NoBack", true), (PySem.Str.ofString "NoDay", true), (PySem.Str.ofString "NoFeast", true), (PySem.Str.ofString "NoForth", true), (PySem.Str.ofString "NoOrder", true), (PySem.Str.ofString "NoStand", true), (PySem.Str.ofString "NoYear", true), (PySem.Str.ofString "Sealed", true), (PySem.Str.ofString "Taken", true)] : List (Str × Bool)) → IsE K mg c "NoOrder" (isaX c (PySem.Str.ofString "NoOrder"))
  s_BadDay_BadFeast_BadYear_NoBack_NoDay_NoFeast_NoForth_NoOrder_NoStand_NoYear_Sealed_Taken_NoStand : ∀ c, (c, true) ∈ ([(PySem.Str.ofString "BadDay", true), (PySem.Str.ofString "BadFeast", true), (PySem.Str.ofString "BadYear", true), (PySem.Str.ofString "NoBack", true), (PySem.Str.ofString "NoDay", true), (PySem.Str.ofString "NoFeast", true), (PySem.Str.ofString "NoForth", true), (PySem.Str.ofString "NoOrder", true), (PySem.Str.ofString "NoStand", true), (PySem.Str.ofString "NoYear", true), (PySem.Str.ofString "Sealed", true), (PySem.Str.ofString "Taken", true)] : List (Str × Bool)) → IsE K mg c "NoStand" (isaX c (PySem.Str.ofString "NoStand"))
  s_BadDay_BadFeast_BadYear_NoBack_NoDay_NoFeast_NoForth_NoOrder_NoStand_NoYear_Sealed_Taken_NoYear : ∀ c, (c, true) ∈ ([(PySem.Str.ofString "BadDay", true), (PySem.Str.ofString "BadFeast", true), (PySem.Str.ofString "BadYear", true), (PySem.Str.ofString "NoBack", true), (PySem.Str.ofString "NoDay", true), (PySem.Str.ofString "NoFeast", true), (PySem.Str.ofString "NoForth", true), (PySem.Str.ofString "NoOrder", true), (PySem.Str.ofString "NoStand", true), (PySem.Str.ofString "NoYear", true), (PySem.Str.ofString "Sealed", true), (PySem.Str.ofString "Taken", true)] : List (Str × Bool)) → IsE K mg c "NoYear" (isaX c (PySem.Str.ofString "NoYear"))
  s_BadDay_BadFeast_BadYear_NoBack_NoDay_NoFeast_NoForth_NoOrder_NoStand_NoYear_Sealed_Taken_Sealed : ∀ c, (c, true) ∈ ([(PySem.Str.ofString "BadDay", true), (PySem.Str.ofString "BadFeast", true), (PySem.Str.ofString "BadYear", true), (PySem.Str.ofString "NoBack", true), (PySem.Str.ofString "NoDay", true), (PySem.Str.ofString "NoFeast", true), (PySem.Str.ofString "NoForth", true), (PySem.Str.ofString "NoOrder", true), (PySem.Str.ofString "NoStand", true), (PySem.Str.ofString "NoYear", true), (PySem.Str.ofString "Sealed", true), (PySem.Str.ofString "Taken", true)] : List (Str × Bool)) → IsE K mg c "Sealed" (isaX c (PySem.Str.ofString "Sealed"))
  s_BadDay_BadFeast_BadYear_NoBack_NoDay_NoFeast_NoForth_NoOrder_NoStand_NoYear_Sealed_Taken_Taken : ∀ c, (c, true) ∈ ([(PySem.Str.ofString "BadDay", true), (PySem.Str.ofString "BadFeast", true), (PySem.Str.ofString "BadYear", true), (PySem.Str.ofString "NoBack", true), (PySem.Str.ofString "NoDay", true), (PySem.Str.ofString "NoFeast", true), (PySem.Str.ofString "NoForth", true), (PySem.Str.ofString "NoOrder", true), (PySem.Str.ofString "NoStand", true), (PySem.Str.ofString "NoYear", true), (PySem.Str.ofString "Sealed", true), (PySem.Str.ofString "Taken", true)] : List (Str × Bool)) → IsE K mg c "Taken" (isaX c (PySem.Str.ofString "Taken"))
  s_BadDay_BadFeast_BadYear_NoBack_NoDay_NoFeast_NoForth_NoOrder_NoStand_NoYear_Sealed_Taken_ValueError : ∀ c, (c, true) ∈ ([(PySem.Str.ofString "BadDay", true), (PySem.Str.ofString "BadFeast", true), (PySem.Str.ofString "BadYear", true), (PySem.Str.ofString "NoBack", true), (PySem.Str.ofString "NoDay", true), (PySem.Str.ofString "NoFeast", true), (PySem.Str.ofString "NoForth", true), (PySem.Str.ofString "NoOrder", true), (PySem.Str.ofString "NoStand", true), (PySem.Str.ofString "NoYear", true), (PySem.Str.ofString "Sealed", true), (PySem.Str.ofString "Taken", true)] : List (Str × Bool)) → IsE K mg c "ValueError" (isaX c (PySem.Str.ofString "ValueError"))
  r_Sealed : ∃ C fI fd, mg "Sealed" = some (.ref C) ∧ Init3 K C "number" "year" "day" ∧ PySem.W.findIn K (.ref C) "__init__" = some (some (.ref fI)) ∧ PySem.W.typeIn K (.ref fI) = some (.type "function") ∧ Fun K "__init__" "Sealed.__init__" Zcy fI fd ∧ ∀ (s : Shared) (us : List Value), us.length = 4 → BindsTo s fd ⟨us, []⟩ ((["self", "number", "year", "day"] : List Str).zip us)
section
variable {P : Program} {w : World} {K : PySem.W.Frag} {mg : Str → Option Value} {base : Heap}
theorem Zfx (T : Txt K mg w) : Zlf P w K mg base "Sealed" "number" "year" "day" := by
  obtain ⟨C, fI, fd, h1, h2, h3, h4, h5, h6⟩ := T.r_Sealed
  exact ⟨C, fI, fd, ["self", "number", "year", "day"], h1, h2, h3, h4, Zkf h5 Zii h2 rfl rfl (fun cdv A outer s H E => pss_cons (ps_ost (pv 0) (pv 1)) (pss_cons (ps_ost (pv 0) (pv 2)) (pss_one (ps_ost (pv 0) (pv 3))))), fun s us _ hl => by rw [List.append_nil] at hl ⊢; exact h6 s us hl⟩
theorem Zg7 (T : Txt K mg w) : FnAt P w K mg base "_law_cell" 1 2 Zcg :=
  Zdh ▸ Zjq (N := Zfk) T.d_law_cell Zhi (by decide) Zen rfl fun f cdv A outer s H H0 S0 E hr => by
    have hu := Zfj hr
    exact (Zal (Ze6 (Zm1 (Zad 1) (Zni T.n_len (Zad 0)))
 (Zcb (Zcv (Zno hu (Zad 0) (Zad 1))))
 Zbo)
 (Zcb (Zcv Za0)))
theorem Zfb (T : Txt K mg w) : FnAt P w K mg base "_law_seed" 1 1 Zb0 :=
  Zdg ▸ Zjq (N := Zfy) T.d_law_seed Zdj (by decide) Ze1 rfl fun f cdv A outer s H H0 S0 E hr => by
    have hu := Zfj hr
    exact (Zal (Ze6 (Zn6 (Zad 0) (Zld Za0 Za0))
 (Zcb (Zja 0))
 Zbo)
 (Zal (Zbw 1 Zdj.nd (Ze2 (Zfi (Ze2 (Zgu (Zfi (Zad 0) Za0) Za0) Za0) Za0) Za0))
 (Zal (Zbw 2 Zdj.nd (Ze2 (Zfi (Ze2 (Zgu (Zfi (Zad 0) Za0) Za0) Za0) Za0) Za0))
 (Zcb (Zcv (Zgu (Zfi (Zad 1) Za0) (Zad 2)))))))
theorem Zf0 (T : Txt K mg w) : FnAt P w K mg base "_law_digits" 2 2 Zbs :=
  Zcl ▸ Zjq (N := Zd7) T.d_law_digits Za9 (by decide) Zds rfl fun f cdv A outer s H H0 S0 E hr => by
    have hu := Zfj hr
    exact (Zal (Zbw 2 Za9.nd (Zft (Zfb T) hr (by decide) (takes_of rfl rfl rfl rfl) (Zac (Zad 0) Za8) (Zca (Zaj 0) Zbb Zd6) rfl))
 (Zal (Zbw 3 Za9.nd (Zde Za8))
 (Zal (Zh8 (passes_of rfl) rfl (Zit T.n_enumerate (Zac (Zad 1) Za8)) (Zis rfl Za9.nd (nac (nac NamesAt.nil)))
 (Zal (Ze6 (Zm1 (Zad 2) (Zad 5))
 (Zal (Zbw 2 Za9.nd (Zft (Zfb T) hr (by decide) (takes_of rfl rfl rfl rfl) (Zac (Zgu (Zgu (Zad 2) (Zfi Za0 (Zad 4))) (Ze2 (Zad 0) Za0)) Za8) (Zca (Zaf (Zaf (Zaj 2) (Zaf Za7 (Zaj 4) Zav) Zba) (Zaf (Zaj 0) Za7 Zav) Zba) Zbb Zd6) rfl))
 Zbo)
 Zbo)
 (Zal (Zgs 3 (Ze2 (Zad 2) (Zad 5)) (hpe := fun h => pe_bm PySem.F.plainAttrs_list PySem.F.slot_list_append PySem.F.type_list_append mt_append (pv 3) (pa_cons h pa_nil)))
 (Zal (Zbw 2 Za9.nd (Znh (Zad 2) (Zad 5)))
 (Zcq 4 (Zcq 5 Zbo))))))
 (Zcb (Zja 3)))))
theorem Zgp (T : Txt K mg w) : FnAt P w K mg base "_law_whole" 1 1 Zb3 :=
  Zc2 ▸ Zjq (N := Zeo) T.d_law_whole Zgn (by decide) Zd9 rfl fun f cdv A outer s H H0 S0 E hr => by
    have hu := Zfj hr
    exact (Zcb (Zcv (Zne (Zk7 T.n_isinstance T.n_int Ziv Zl5 (Zad 0) (Zke)) (Znr (Zmn (Zk7 T.n_isinstance T.n_bool Zid Zkc (Zad 0) (Zi9)))))))
theorem Zfe (T : Txt K mg w) : FnAt P w K mg base "_law_classes" 1 1 Zbj :=
  Zcd ▸ Zjq (N := Zdp) T.d_law_classes Zbr (by decide) Zdd rfl fun f cdv A outer s H H0 S0 E hr => by
    have hu := Zfj hr
    exact (Zal (Zbw 1 Zbr.nd (Zde (Zac (Zbv T.s_BadDay_BadFeast_BadYear_NoBack_NoDay_NoFeast_NoForth_NoOrder_NoStand_NoYear_Sealed_Taken_NoDay T.nm_BadDay_BadFeast_BadYear_NoBack_NoDay_NoFeast_NoForth_NoOrder_NoStand_NoYear_Sealed_Taken Zdc T.n_isinstance (Zad 0)) (Zac (Zbv T.s_BadDay_BadFeast_BadYear_NoBack_NoDay_NoFeast_NoForth_NoOrder_NoStand_NoYear_Sealed_Taken_NoYear T.nm_BadDay_BadFeast_BadYear_NoBack_NoDay_NoFeast_NoForth_NoOrder_NoStand_NoYear_Sealed_Taken Zdc T.n_isinstance (Zad 0)) (Zac (Zbv T.s_BadDay_BadFeast_BadYear_NoBack_NoDay_NoFeast_NoForth_NoOrder_NoStand_NoYear_Sealed_Taken_BadYear T.nm_BadDay_BadFeast_BadYear_NoBack_NoDay_NoFeast_NoForth_NoOrder_NoStand_NoYear_Sealed_Taken Zdc T.n_isinstance (Zad 0)) (Zac (Zbv T.s_BadDay_BadFeast_BadYear_NoBack_NoDay_NoFeast_NoForth_NoOrder_NoStand_NoYear_Sealed_Taken_BadDay T.nm_BadDay_BadFeast_BadYear_NoBack_NoDay_NoFeast_NoForth_NoOrder_NoStand_NoYear_Sealed_Taken Zdc T.n_isinstance (Zad 0)) Za8))))))
 (Zal (Zbw 2 Zbr.nd (Zde (Zac (Zbv T.s_BadDay_BadFeast_BadYear_NoBack_NoDay_NoFeast_NoForth_NoOrder_NoStand_NoYear_Sealed_Taken_BadFeast T.nm_BadDay_BadFeast_BadYear_NoBack_NoDay_NoFeast_NoForth_NoOrder_NoStand_NoYear_Sealed_Taken Zdc T.n_isinstance (Zad 0)) (Zac (Zbv T.s_BadDay_BadFeast_BadYear_NoBack_NoDay_NoFeast_NoForth_NoOrder_NoStand_NoYear_Sealed_Taken_Taken T.nm_BadDay_BadFeast_BadYear_NoBack_NoDay_NoFeast_NoForth_NoOrder_NoStand_NoYear_Sealed_Taken Zdc T.n_isinstance (Zad 0)) (Zac (Zbv T.s_BadDay_BadFeast_BadYear_NoBack_NoDay_NoFeast_NoForth_NoOrder_NoStand_NoYear_Sealed_Taken_NoFeast T.nm_BadDay_BadFeast_BadYear_NoBack_NoDay_NoFeast_NoForth_NoOrder_NoStand_NoYear_Sealed_Taken Zdc T.n_isinstance (Zad 0)) (Zac (Zbv T.s_BadDay_BadFeast_BadYear_NoBack_NoDay_NoFeast_NoForth_NoOrder_NoStand_NoYear_Sealed_Taken_NoOrder T.nm_BadDay_BadFeast_BadYear_NoBack_NoDay_NoFeast_NoForth_NoOrder_NoStand_NoYear_Sealed_Taken Zdc T.n_isinstance (Zad 0)) Za8))))))
 (Zal (Zbw 3 Zbr.nd (Zde (Zac (Zbv T.s_BadDay_BadFeast_BadYear_NoBack_NoDay_NoFeast_NoForth_NoOrder_NoStand_NoYear_Sealed_Taken_NoBack T.nm_BadDay_BadFeast_BadYear_NoBack_NoDay_NoFeast_NoForth_NoOrder_NoStand_NoYear_Sealed_Taken Zdc T.n_isinstance (Zad 0)) (Zac (Zbv T.s_BadDay_BadFeast_BadYear_NoBack_NoDay_NoFeast_NoForth_NoOrder_NoStand_NoYear_Sealed_Taken_NoForth T.nm_BadDay_BadFeast_BadYear_NoBack_NoDay_NoFeast_NoForth_NoOrder_NoStand_NoYear_Sealed_Taken Zdc T.n_isinstance (Zad 0)) (Zac (Zbv T.s_BadDay_BadFeast_BadYear_NoBack_NoDay_NoFeast_NoForth_NoOrder_NoStand_NoYear_Sealed_Taken_NoStand T.nm_BadDay_BadFeast_BadYear_NoBack_NoDay_NoFeast_NoForth_NoOrder_NoStand_NoYear_Sealed_Taken Zdc T.n_isinstance (Zad 0)) (Zac (Zbv T.s_BadDay_BadFeast_BadYear_NoBack_NoDay_NoFeast_NoForth_NoOrder_NoStand_NoYear_Sealed_Taken_Sealed T.nm_BadDay_BadFeast_BadYear_NoBack_NoDay_NoFeast_NoForth_NoOrder_NoStand_NoYear_Sealed_Taken Zdc T.n_isinstance (Zad 0)) Za8))))))
 (Zcb (Zcv (Zje (Zje (Zad 1) (Zad 2)) (Zad 3)))))))
theorem at_law (T : Txt K mg w) {fa : Addr} (hfa : mg "law" = some (.ref fa)) : ∃ fd : FuncData, (∀ (s : Shared) (v : Value), BindsTo s fd ⟨[v], []⟩ [("_law_script", v)]) ∧ ∀ base : Heap, K.In base → base.Ns mainGlobals mg → FnOk P w K mg base (L2.CX P w) 3 fa fd ["_law_script"] (spLaw K) :=
  Zm6 (N := Zl6) T.d_law Zb8 (by decide) Znw hfa (fun ns hn => by have := Zi3 ns hn; rw [Zk5] at this; exact this) fun base _ _ f cdv A outer s H H0 S0 E hr => by
    have hu := Zfj hr
    exact (Zal (Zbw 1 Zb8.nd (Zde Za8))
 (Zal (Zh8 (passes_of rfl) rfl (Zgi T.n_range (Zac Za0 Za8)) (Zg4 2 Zb8.nd)
 (Zal (Znx (Zis rfl Zb8.nd (nac (nac (nac NamesAt.nil)))) (Zft (Zf0 T) hr (by decide) (takes_of rfl rfl rfl rfl) (Zac (Zft (Zg7 T) hr (by decide) (takes_of rfl rfl rfl rfl) (Zac (Zad 0) (Zac (Zad 2) Za8)) (Zca (Zaj 0) (Zae (Zaj 2) Zbb) (Zca (Zaj 2) Zbb Zd6)) rfl) (Zac (Zde (Zac Za0 (Zac Za0 (Zac (Zld Za0 Za0) Za8)))) Za8)) (Zca (Zeq Zek (Zae (Zaj 0) (Zae (Zaj 2) Zbb))) (Zae (Zec (Zae Za7 (Zae Za7 (Zae (Zaf Za7 Za7 Zav) Zbb)))) Zbb) (Zca (Zec (Zae Za7 (Zae Za7 (Zae (Zaf Za7 Za7 Zav) Zbb)))) Zbb Zd6)) rfl))
 (Zal (Ze6 (Zm5 hu (Zad 4) Za0)
 (Zal (Zbw 5 Zb8.nd (Ze2 (Zad 5) Za0))
 Zbo)
 Zbo)
 (Zal (Ze6 (Zm5 hu (Zad 3) Za0)
 (Zal (Zbw 5 Zb8.nd (Znu (Zad 5)))
 Zbo)
 Zbo)
 (Zal (Zgs 1 (Zad 5) (hpe := fun h => pe_bm PySem.F.plainAttrs_list PySem.F.slot_list_append PySem.F.type_list_append mt_append (pv 1) (pa_cons h pa_nil)))
 (Zcq 2 (Zcq 3 (Zcq 4 (Zcq 5 Zbo)))))))))
 (Zal (Zbw 6 Zb8.nd (Zjn (Zfx T) T.ns_Sealed hr (by decide) (Zac (Zfm 0 hu (Zad 1)) (Zac (Zfm 1 hu (Zad 1)) (Zac (Zfm 2 hu (Zad 1)) Za8)))))
 (Zal (Zbw 7 Zb8.nd (Zjn (Zfx T) T.ns_Sealed hr (by decide) (Zac (Zfm 2 hu (Zad 1)) (Zac (Zfm 0 hu (Zad 1)) (Zac (Zfm 1 hu (Zad 1)) Za8)))))
 (Zal (Zh8 (passes_of rfl) rfl (Zmy (Znf (Zac (Zcp T.xv_Sealed_number (Zad 6)) (Zac (Zcp T.xv_Sealed_year (Zad 6)) (Zac (Zcp T.xv_Sealed_day (Zad 6)) Za8))))) (Zg4 8 Zb8.nd)
 (Zal (Ze6 (Ziy (Zgf (Zft (Zgp T) hr (by decide) (takes_of rfl rfl rfl rfl) (Zac (Zad 8) Za8) (Zca (Zaj 8) Zbb Zd6) rfl)))
 (Zcb (Zcv Zg8))
 Zbo)
 (Zcq 8 Zbo)))
 (Zal (Ze6 (Zli hu (Zde (Zac (Zcp T.xv_Sealed_number (Zad 6)) (Zac (Zcp T.xv_Sealed_year (Zad 6)) (Zac (Zcp T.xv_Sealed_day (Zad 6)) Za8)))) (Zad 1))
 (Zcb (Zcv Zg8))
 Zbo)
 (Zal (Ze6 (Zli hu (Zde (Zac (Zcp T.xv_Sealed_year (Zad 7)) (Zac (Zcp T.xv_Sealed_day (Zad 7)) (Zac (Zcp T.xv_Sealed_number (Zad 7)) Za8)))) (Zad 1))
 (Zcb (Zcv Zg8))
 Zbo)
 (Zal (Zbw 9 Zb8.nd (Zde (Zac (Zc3 T.x_NoDay T.ns_NoDay Zc1) (Zac (Zc3 T.x_NoYear T.ns_NoYear Zc1) (Zac (Zc3 T.x_BadYear T.ns_BadYear Zc1) (Zac (Zc3 T.x_BadDay T.ns_BadDay Zc1) (Zac (Zc3 T.x_BadFeast T.ns_BadFeast Zc1) (Zac (Zc3 T.x_Taken T.ns_Taken Zc1) Za8))))))))
 (Zal (Zbw 9 Zb8.nd (Zje (Zad 9) (Zde (Zac (Zc3 T.x_NoFeast T.ns_NoFeast Zc1) (Zac (Zc3 T.x_NoOrder T.ns_NoOrder Zc1) (Zac (Zc3 T.x_NoBack T.ns_NoBack Zc1) (Zac (Zc3 T.x_NoForth T.ns_NoForth Zc1) (Zac (Zc3 T.x_NoStand T.ns_NoStand Zc1) (Zac (Zad 6) Za8)))))))))
 (Zal (Zm7 9 (Zh8 (passes_of rfl) rfl (Zit T.n_enumerate (Zac (Zad 9) Za8)) (Zis rfl Zb8.nd (nac (nac NamesAt.nil)))
 (Zal (Ze6 (Zjc (Zmw (Ziy (Zgf (Zbv T.s_BadDay_BadFeast_BadYear_NoBack_NoDay_NoFeast_NoForth_NoOrder_NoStand_NoYear_Sealed_Taken_FeastError T.nm_BadDay_BadFeast_BadYear_NoBack_NoDay_NoFeast_NoForth_NoOrder_NoStand_NoYear_Sealed_Taken Zdc T.n_isinstance (Zad 11)))) (Zk3 (Ziy (Zgf (Zbv T.s_BadDay_BadFeast_BadYear_NoBack_NoDay_NoFeast_NoForth_NoOrder_NoStand_NoYear_Sealed_Taken_ValueError T.nm_BadDay_BadFeast_BadYear_NoBack_NoDay_NoFeast_NoForth_NoOrder_NoStand_NoYear_Sealed_Taken Zdc T.n_isinstance (Zad 11)))))))
 (Zcb (Zcv Zg8))
 Zbo)
 (Zal (Ze6 (Zjc (Zmw (Zgf (Zbv T.s_BadDay_BadFeast_BadYear_NoBack_NoDay_NoFeast_NoForth_NoOrder_NoStand_NoYear_Sealed_Taken_IndexError T.nm_BadDay_BadFeast_BadYear_NoBack_NoDay_NoFeast_NoForth_NoOrder_NoStand_NoYear_Sealed_Taken Zdc T.n_isinstance (Zad 11))) (Zk3 (Zgf (Zbv T.s_BadDay_BadFeast_BadYear_NoBack_NoDay_NoFeast_NoForth_NoOrder_NoStand_NoYear_Sealed_Taken_KeyError T.nm_BadDay_BadFeast_BadYear_NoBack_NoDay_NoFeast_NoForth_NoOrder_NoStand_NoYear_Sealed_Taken Zdc T.n_isinstance (Zad 11))))))
 (Zcb (Zcv Zg8))
 Zbo)
 (Zal (Zm8 2 (Ze6 (Zli hu (Zft (Zfe T) hr (by decide) (takes_of rfl rfl rfl rfl) (Zac (Zad 11) Za8) (Zca (Zaj 11) Zbb Zd6) rfl) (Zof 2 rfl Zb8.nd (Zgi T.n_range (Zac Za0 Za8)) (blkOk_by (N := Zl6) (sc := defScope Zih) (by decide +kernel)) (fun s H C cl fp => pg_name Zb8.nd rfl (Or.inl rfl)) (fun s H C cl fp => pts_nil) Zna m_bl (fun s H C cl fp => (Zon hu (Zad 2) (Zad 10))) (Zaf (Zaj 2) (Zaj 10) Zbq)))
 (Zcb (Zcv Zg8))
 Zbo))
 (Zcq 10 (Zcq 11 Zbo)))))))
 (Zcb (Zcv Zg8))))))))))))
end
theorem all_mk {K : PySem.W.Frag} {w : World} {h : Heap} {mg : Str → Option Value} (X : K.In h) (G : h.Ns mainGlobals mg)
    {f0 f1 f2 f3 f4 f5 : Addr} {od0 an0 od1 an1 od2 an2 od3 an3 od4 an4 od5 an5 : Option Addr} {sl0 sl1 sl2 sl3 sl4 sl5 : Array (Option Value)} {oc0 kV0 dc0 pm0 cd0 ct0 oc1 kV1 dc1 pm1 cd1 ct1 oc2 kV2 dc2 pm2 cd2 ct2 oc3 kV3 dc3 pm3 cd3 ct3 oc4 kV4 dc4 pm4 cd4 ct4 oc5 kV5 dc5 pm5 cd5 ct5 : Value} {e_BadDay : Addr} {e_BadFeast : Addr} {e_BadYear : Addr} {e_NoBack : Addr} {e_NoDay : Addr} {e_NoFeast : Addr} {e_NoForth : Addr} {e_NoOrder : Addr} {e_NoStand : Addr} {e_NoYear : Addr} {e_Taken : Addr} {e_FeastError : Addr} {e_Sealed : Addr} {nm_Sealed q_Sealed : Str} {N_Sealed : Addr} {bs_Sealed : List Value} {sn_Sealed : List Str} {sub_Sealed : List Value} {ab_Sealed : Bool} {col_Sealed : Option Bool} {dd_Sealed : Option Addr} {m0_Sealed m1_Sealed m2_Sealed m3_Sealed m5_Sealed : Option Value} {fe_Sealed : Addr} {fi_Sealed : Addr} {oco_Sealed kVo_Sealed dco_Sealed pmo_Sealed cdo_Sealed cto_Sealed : Value} {odo_Sealed ano_Sealed : Option Addr} {slo_Sealed : Array (Option Value)}
    (a0 : PySem.W.nsIn K mainGlobals "_law_cell" = some (some (.ref f0))) (l0 : K.lookup f0 = some ⟨oc0, od0, .func (PySem.W.fnOf "_law_cell" "_law_cell" (defArgs Zck) (defBody Zck) (defScope Zck) .none kV0 dc0 pm0 an0 cd0 ct0), sl0⟩) (c0 : PySem.W.codeIn K cd0 "_law_cell" = true) (k0 : PySem.W.keepIn K (.ref f0) = true)
    (a1 : PySem.W.nsIn K mainGlobals "_law_seed" = some (some (.ref f1))) (l1 : K.lookup f1 = some ⟨oc1, od1, .func (PySem.W.fnOf "_law_seed" "_law_seed" (defArgs Zcj) (defBody Zcj) (defScope Zcj) .none kV1 dc1 pm1 an1 cd1 ct1), sl1⟩) (c1 : PySem.W.codeIn K cd1 "_law_seed" = true) (k1 : PySem.W.keepIn K (.ref f1) = true)
    (a2 : PySem.W.nsIn K mainGlobals "_law_digits" = some (some (.ref f2))) (l2 : K.lookup f2 = some ⟨oc2, od2, .func (PySem.W.fnOf "_law_digits" "_law_digits" (defArgs Zbt) (defBody Zbt) (defScope Zbt) .none kV2 dc2 pm2 an2 cd2 ct2), sl2⟩) (c2 : PySem.W.codeIn K cd2 "_law_digits" = true) (k2 : PySem.W.keepIn K (.ref f2) = true)
    (a3 : PySem.W.nsIn K mainGlobals "_law_whole" = some (some (.ref f3))) (l3 : K.lookup f3 = some ⟨oc3, od3, .func (PySem.W.fnOf "_law_whole" "_law_whole" (defArgs Zb5) (defBody Zb5) (defScope Zb5) .none kV3 dc3 pm3 an3 cd3 ct3), sl3⟩) (c3 : PySem.W.codeIn K cd3 "_law_whole" = true) (k3 : PySem.W.keepIn K (.ref f3) = true)
    (a4 : PySem.W.nsIn K mainGlobals "_law_classes" = some (some (.ref f4))) (l4 : K.lookup f4 = some ⟨oc4, od4, .func (PySem.W.fnOf "_law_classes" "_law_classes" (defArgs Zbh) (defBody Zbh) (defScope Zbh) .none kV4 dc4 pm4 an4 cd4 ct4), sl4⟩) (c4 : PySem.W.codeIn K cd4 "_law_classes" = true) (k4 : PySem.W.keepIn K (.ref f4) = true)
    (a5 : PySem.W.nsIn K mainGlobals "law" = some (some (.ref f5))) (l5 : K.lookup f5 = some ⟨oc5, od5, .func (PySem.W.fnOf "law" "law" (defArgs Zih) (defBody Zih) (defScope Zih) .none kV5 dc5 pm5 an5 cd5 ct5), sl5⟩) (c5 : PySem.W.codeIn K cd5 "law" = true) (k5 : PySem.W.keepIn K (.ref f5) = true)
    (z_bool : PySem.W.nsIn K mainGlobals "bool" = some none)
    (z_enumerate : PySem.W.nsIn K mainGlobals "enumerate" = some none)
    (z_int : PySem.W.nsIn K mainGlobals "int" = some none)
    (z_isinstance : PySem.W.nsIn K mainGlobals "isinstance" = some none)
    (z_len : PySem.W.nsIn K mainGlobals "len" = some none)
    (z_range : PySem.W.nsIn K mainGlobals "range" = some none)
    (xa_BadDay : PySem.W.nsIn K mainGlobals "BadDay" = some (some (.ref e_BadDay))) (xe_BadDay : PySem.W.excIn K e_BadDay [.type "ValueError", .type "Exception", .type "BaseException", .type "object"] "ValueError.__new__" = true) (xk_BadDay : PySem.W.keepIn K (.ref e_BadDay) = true) (xb_BadDay : PySem.W.subIn K (.ref e_BadDay) (.type "BaseException") = some true) (xt_BadDay : PySem.W.typeIn K (.ref e_BadDay) = some (.type "type")) (xi_BadDay : PySem.W.isClsIn K e_BadDay = true)
    (xa_BadFeast : PySem.W.nsIn K mainGlobals "BadFeast" = some (some (.ref e_BadFeast))) (xe_BadFeast : PySem.W.excIn K e_BadFeast [.type "ValueError", .type "Exception", .type "BaseException", .type "object"] "ValueError.__new__" = true) (xk_BadFeast : PySem.W.keepIn K (.ref e_BadFeast) = true) (xb_BadFeast : PySem.W.subIn K (.ref e_BadFeast) (.type "BaseException") = some true) (xt_BadFeast : PySem.W.typeIn K (.ref e_BadFeast) = some (.type "type")) (xi_BadFeast : PySem.W.isClsIn K e_BadFeast = true)
    (xa_BadYear : PySem.W.nsIn K mainGlobals "BadYear" = some (some (.ref e_BadYear))) (xe_BadYear : PySem.W.excIn K e_BadYear [.type "ValueError", .type "Exception", .type "BaseException", .type "object"] "ValueError.__new__" = true) (xk_BadYear : PySem.W.keepIn K (.ref e_BadYear) = true) (xb_BadYear : PySem.W.subIn K (.ref e_BadYear) (.type "BaseException") = some true) (xt_BadYear : PySem.W.typeIn K (.ref e_BadYear) = some (.type "type")) (xi_BadYear : PySem.W.isClsIn K e_BadYear = true)
    (xa_NoBack : PySem.W.nsIn K mainGlobals "NoBack" = some (some (.ref e_NoBack))) (xe_NoBack : PySem.W.excIn K e_NoBack [.type "ValueError", .type "Exception", .type "BaseException", .type "object"] "ValueError.__new__" = true) (xk_NoBack : PySem.W.keepIn K (.ref e_NoBack) = true) (xb_NoBack : PySem.W.subIn K (.ref e_NoBack) (.type "BaseException") = some true) (xt_NoBack : PySem.W.typeIn K (.ref e_NoBack) = some (.type "type")) (xi_NoBack : PySem.W.isClsIn K e_NoBack = true)
    (xa_NoDay : PySem.W.nsIn K mainGlobals "NoDay" = some (some (.ref e_NoDay))) (xe_NoDay : PySem.W.excIn K e_NoDay [.type "ValueError", .type "Exception", .type "BaseException", .type "object"] "ValueError.__new__" = true) (xk_NoDay : PySem.W.keepIn K (.ref e_NoDay) = true) (xb_NoDay : PySem.W.subIn K (.ref e_NoDay) (.type "BaseException") = some true) (xt_NoDay : PySem.W.typeIn K (.ref e_NoDay) = some (.type "type")) (xi_NoDay : PySem.W.isClsIn K e_NoDay = true)
    (xa_NoFeast : PySem.W.nsIn K mainGlobals "NoFeast" = some (some (.ref e_NoFeast))) (xe_NoFeast : PySem.W.excIn K e_NoFeast [.type "ValueError", .type "Exception", .type "BaseException", .type "object"] "ValueError.__new__" = true) (xk_NoFeast : PySem.W.keepIn K (.ref e_NoFeast) = true) (xb_NoFeast : PySem.W.subIn K (.ref e_NoFeast) (.type "BaseException") = some true) (xt_NoFeast : PySem.W.typeIn K (.ref e_NoFeast) = some (.type "type")) (xi_NoFeast : PySem.W.isClsIn K e_NoFeast = true)
    (xa_NoForth : PySem.W.nsIn K mainGlobals "NoForth" = some (some (.ref e_NoForth))) (xe_NoForth : PySem.W.excIn K e_NoForth [.type "ValueError", .type "Exception", .type "BaseException", .type "object"] "ValueError.__new__" = true) (xk_NoForth : PySem.W.keepIn K (.ref e_NoForth) = true) (xb_NoForth : PySem.W.subIn K (.ref e_NoForth) (.type "BaseException") = some true) (xt_NoForth : PySem.W.typeIn K (.ref e_NoForth) = some (.type "type")) (xi_NoForth : PySem.W.isClsIn K e_NoForth = true)
    (xa_NoOrder : PySem.W.nsIn K mainGlobals "NoOrder" = some (some (.ref e_NoOrder))) (xe_NoOrder : PySem.W.excIn K e_NoOrder [.type "ValueError", .type "Exception", .type "BaseException", .type "object"] "ValueError.__new__" = true) (xk_NoOrder : PySem.W.keepIn K (.ref e_NoOrder) = true) (xb_NoOrder : PySem.W.subIn K (.ref e_NoOrder) (.type "BaseException") = some true) (xt_NoOrder : PySem.W.typeIn K (.ref e_NoOrder) = some (.type "type")) (xi_NoOrder : PySem.W.isClsIn K e_NoOrder = true)
    (xa_NoStand : PySem.W.nsIn K mainGlobals "NoStand" = some (some (.ref e_NoStand))) (xe_NoStand : PySem.W.excIn K e_NoStand [.type "ValueError", .type "Exception", .type "BaseException", .type "object"] "ValueError.__new__" = true) (xk_NoStand : PySem.W.keepIn K (.ref e_NoStand) = true) (xb_NoStand : PySem.W.subIn K (.ref e_NoStand) (.type "BaseException") = some true) (xt_NoStand : PySem.W.typeIn K (.ref e_NoStand) = some (.type "type")) (xi_NoStand : PySem.W.isClsIn K e_NoStand = true)
    (xa_NoYear : PySem.W.nsIn K mainGlobals "NoYear" = some (some (.ref e_NoYear))) (xe_NoYear : PySem.W.excIn K e_NoYear [.type "ValueError", .type "Exception", .type "BaseException", .type "object"] "ValueError.__new__" = true) (xk_NoYear : PySem.W.keepIn K (.ref e_NoYear) = true) (xb_NoYear : PySem.W.subIn K (.ref e_NoYear) (.type "BaseException") = some true) (xt_NoYear : PySem.W.typeIn K (.ref e_NoYear) = some (.type "type")) (xi_NoYear : PySem.W.isClsIn K e_NoYear = true)
    (xa_Taken : PySem.W.nsIn K mainGlobals "Taken" = some (some (.ref e_Taken))) (xe_Taken : PySem.W.excIn K e_Taken [.type "ValueError", .type "Exception", .type "BaseException", .type "object"] "ValueError.__new__" = true) (xk_Taken : PySem.W.keepIn K (.ref e_Taken) = true) (xb_Taken : PySem.W.subIn K (.ref e_Taken) (.type "BaseException") = some true) (xt_Taken : PySem.W.typeIn K (.ref e_Taken) = some (.type "type")) (xi_Taken : PySem.W.isClsIn K e_Taken = true)
    (xa_FeastError : PySem.W.nsIn K mainGlobals "FeastError" = some (some (.ref e_FeastError)))
    (xa_Sealed : PySem.W.nsIn K mainGlobals "Sealed" = some (some (.ref e_Sealed)))
    (z_IndexError : PySem.W.nsIn K mainGlobals "IndexError" = some none)
    (z_KeyError : PySem.W.nsIn K mainGlobals "KeyError" = some none)
    (z_ValueError : PySem.W.nsIn K mainGlobals "ValueError" = some none)
    (xo0_BadDay : PySem.W.subIn K (.ref e_BadDay) (.type "BaseException") = some true)
    (xo1_BadDay : PySem.W.hasDictIn K e_BadDay = true)
    (xo2_BadDay : PySem.W.typeIn K (.ref e_BadDay) = some (.type "type"))
    (xo3_BadDay : PySem.W.subIn K (.ref e_BadDay) (.ref e_BadDay) = some true)
    (xo0_BadFeast : PySem.W.subIn K (.ref e_BadFeast) (.type "BaseException") = some true)
    (xo1_BadFeast : PySem.W.hasDictIn K e_BadFeast = true)
    (xo2_BadFeast : PySem.W.typeIn K (.ref e_BadFeast) = some (.type "type"))
    (xo3_BadFeast : PySem.W.subIn K (.ref e_BadFeast) (.ref e_BadFeast) = some true)
    (xo0_BadYear : PySem.W.subIn K (.ref e_BadYear) (.type "BaseException") = some true)
    (xo1_BadYear : PySem.W.hasDictIn K e_BadYear = true)
    (xo2_BadYear : PySem.W.typeIn K (.ref e_BadYear) = some (.type "type"))
    (xo3_BadYear : PySem.W.subIn K (.ref e_BadYear) (.ref e_BadYear) = some true)
    (xo0_FeastError : PySem.W.subIn K (.ref e_FeastError) (.type "BaseException") = some true)
    (xo1_FeastError : PySem.W.hasDictIn K e_FeastError = true)
    (xo2_FeastError : PySem.W.typeIn K (.ref e_FeastError) = some (.type "type"))
    (xo3_FeastError : PySem.W.subIn K (.ref e_FeastError) (.ref e_FeastError) = some true)
    (xo0_NoBack : PySem.W.subIn K (.ref e_NoBack) (.type "BaseException") = some true)
    (xo1_NoBack : PySem.W.hasDictIn K e_NoBack = true)
    (xo2_NoBack : PySem.W.typeIn K (.ref e_NoBack) = some (.type "type"))
    (xo3_NoBack : PySem.W.subIn K (.ref e_NoBack) (.ref e_NoBack) = some true)
    (xo0_NoDay : PySem.W.subIn K (.ref e_NoDay) (.type "BaseException") = some true)
    (xo1_NoDay : PySem.W.hasDictIn K e_NoDay = true)
    (xo2_NoDay : PySem.W.typeIn K (.ref e_NoDay) = some (.type "type"))
    (xo3_NoDay : PySem.W.subIn K (.ref e_NoDay) (.ref e_NoDay) = some true)
    (xo0_NoFeast : PySem.W.subIn K (.ref e_NoFeast) (.type "BaseException") = some true)
    (xo1_NoFeast : PySem.W.hasDictIn K e_NoFeast = true)
    (xo2_NoFeast : PySem.W.typeIn K (.ref e_NoFeast) = some (.type "type"))
    (xo3_NoFeast : PySem.W.subIn K (.ref e_NoFeast) (.ref e_NoFeast) = some true)
    (xo0_NoForth : PySem.W.subIn K (.ref e_NoForth) (.type "BaseException") = some true)
    (xo1_NoForth : PySem.W.hasDictIn K e_NoForth = true)
    (xo2_NoForth : PySem.W.typeIn K (.ref e_NoForth) = some (.type "type"))
    (xo3_NoForth : PySem.W.subIn K (.ref e_NoForth) (.ref e_NoForth) = some true)
    (xo0_NoOrder : PySem.W.subIn K (.ref e_NoOrder) (.type "BaseException") = some true)
    (xo1_NoOrder : PySem.W.hasDictIn K e_NoOrder = true)
    (xo2_NoOrder : PySem.W.typeIn K (.ref e_NoOrder) = some (.type "type"))
    (xo3_NoOrder : PySem.W.subIn K (.ref e_NoOrder) (.ref e_NoOrder) = some true)
    (xo0_NoStand : PySem.W.subIn K (.ref e_NoStand) (.type "BaseException") = some true)
    (xo1_NoStand : PySem.W.hasDictIn K e_NoStand = true)
    (xo2_NoStand : PySem.W.typeIn K (.ref e_NoStand) = some (.type "type"))
    (xo3_NoStand : PySem.W.subIn K (.ref e_NoStand) (.ref e_NoStand) = some true)
    (xo0_NoYear : PySem.W.subIn K (.ref e_NoYear) (.type "BaseException") = some true)
    (xo1_NoYear : PySem.W.hasDictIn K e_NoYear = true)
    (xo2_NoYear : PySem.W.typeIn K (.ref e_NoYear) = some (.type "type"))
    (xo3_NoYear : PySem.W.subIn K (.ref e_NoYear) (.ref e_NoYear) = some true)
    (xo0_Sealed : PySem.W.subIn K (.ref e_Sealed) (.type "BaseException") = some true)
    (xo1_Sealed : PySem.W.hasDictIn K e_Sealed = true)
    (xo2_Sealed : PySem.W.typeIn K (.ref e_Sealed) = some (.type "type"))
    (xo3_Sealed : PySem.W.subIn K (.ref e_Sealed) (.ref e_Sealed) = some true)
    (xo0_Taken : PySem.W.subIn K (.ref e_Taken) (.type "BaseException") = some true)
    (xo1_Taken : PySem.W.hasDictIn K e_Taken = true)
    (xo2_Taken : PySem.W.typeIn K (.ref e_Taken) = some (.type "type"))
    (xo3_Taken : PySem.W.subIn K (.ref e_Taken) (.ref e_Taken) = some true)
    (xq0_BadDay : PySem.W.findIn K (.ref e_BadDay) "__getattribute__" = some (some (.builtin "BaseException.__getattribute__")))
    (xq1_BadDay : PySem.W.findIn K (.ref e_BadDay) "__getattr__" = some none)
    (xq2_BadDay : PySem.W.subIn K (.ref e_BadDay) (.type "BaseException") = some true)
    (xq3_BadDay : PySem.W.hasDictIn K e_BadDay = true)
    (xq4_BadDay : PySem.W.findIn K (.ref e_BadDay) "__class__" = some (some (.builtin "object.__class__")))
    (xq5_BadDay : PySem.W.specialIn K (.builtin "object.__class__") "__get__" = some (some (.builtin "getset_descriptor.__get__")))
    (xq6_BadDay : PySem.W.takesIn K (.builtin "object.__class__") = some true)
    (xq7_BadDay : PySem.W.mroIn K e_BadDay (.type "object") = some true)
    (xq0_BadFeast : PySem.W.findIn K (.ref e_BadFeast) "__getattribute__" = some (some (.builtin "BaseException.__getattribute__")))
    (xq1_BadFeast : PySem.W.findIn K (.ref e_BadFeast) "__getattr__" = some none)
    (xq2_BadFeast : PySem.W.subIn K (.ref e_BadFeast) (.type "BaseException") = some true)
    (xq3_BadFeast : PySem.W.hasDictIn K e_BadFeast = true)
    (xq4_BadFeast : PySem.W.findIn K (.ref e_BadFeast) "__class__" = some (some (.builtin "object.__class__")))
    (xq5_BadFeast : PySem.W.specialIn K (.builtin "object.__class__") "__get__" = some (some (.builtin "getset_descriptor.__get__")))
    (xq6_BadFeast : PySem.W.takesIn K (.builtin "object.__class__") = some true)
    (xq7_BadFeast : PySem.W.mroIn K e_BadFeast (.type "object") = some true)
    (xq0_BadYear : PySem.W.findIn K (.ref e_BadYear) "__getattribute__" = some (some (.builtin "BaseException.__getattribute__")))
    (xq1_BadYear : PySem.W.findIn K (.ref e_BadYear) "__getattr__" = some none)
    (xq2_BadYear : PySem.W.subIn K (.ref e_BadYear) (.type "BaseException") = some true)
    (xq3_BadYear : PySem.W.hasDictIn K e_BadYear = true)
    (xq4_BadYear : PySem.W.findIn K (.ref e_BadYear) "__class__" = some (some (.builtin "object.__class__")))
    (xq5_BadYear : PySem.W.specialIn K (.builtin "object.__class__") "__get__" = some (some (.builtin "getset_descriptor.__get__")))
    (xq6_BadYear : PySem.W.takesIn K (.builtin "object.__class__") = some true)
    (xq7_BadYear : PySem.W.mroIn K e_BadYear (.type "object") = some true)
    (xq0_NoBack : PySem.W.findIn K (.ref e_NoBack) "__getattribute__" = some (some (.builtin "BaseException.__getattribute__")))
    (xq1_NoBack : PySem.W.findIn K (.ref e_NoBack) "__getattr__" = some none)
    (xq2_NoBack : PySem.W.subIn K (.ref e_NoBack) (.type "BaseException") = some true)
    (xq3_NoBack : PySem.W.hasDictIn K e_NoBack = true)
    (xq4_NoBack : PySem.W.findIn K (.ref e_NoBack) "__class__" = some (some (.builtin "object.__class__")))
    (xq5_NoBack : PySem.W.specialIn K (.builtin "object.__class__") "__get__" = some (some (.builtin "getset_descriptor.__get__")))
    (xq6_NoBack : PySem.W.takesIn K (.builtin "object.__class__") = some true)
    (xq7_NoBack : PySem.W.mroIn K e_NoBack (.type "object") = some true)
    (xq0_NoDay : PySem.W.findIn K (.ref e_NoDay) "__getattribute__" = some (some (.builtin "BaseException.__getattribute__")))
    (xq1_NoDay : PySem.W.findIn K (.ref e_NoDay) "__getattr__" = some none)
    (xq2_NoDay : PySem.W.subIn K (.ref e_NoDay) (.type "BaseException") = some true)
    (xq3_NoDay : PySem.W.hasDictIn K e_NoDay = true)
    (xq4_NoDay : PySem.W.findIn K (.ref e_NoDay) "__class__" = some (some (.builtin "object.__class__")))
    (xq5_NoDay : PySem.W.specialIn K (.builtin "object.__class__") "__get__" = some (some (.builtin "getset_descriptor.__get__")))
    (xq6_NoDay : PySem.W.takesIn K (.builtin "object.__class__") = some true)
    (xq7_NoDay : PySem.W.mroIn K e_NoDay (.type "object") = some true)
    (xq0_NoFeast : PySem.W.findIn K (.ref e_NoFeast) "__getattribute__" = some (some (.builtin "BaseException.__getattribute__")))
    (xq1_NoFeast : PySem.W.findIn K (.ref e_NoFeast) "__getattr__" = some none)
    (xq2_NoFeast : PySem.W.subIn K (.ref e_NoFeast) (.type "BaseException") = some true)
    (xq3_NoFeast : PySem.W.hasDictIn K e_NoFeast = true)
    (xq4_NoFeast : PySem.W.findIn K (.ref e_NoFeast) "__class__" = some (some (.builtin "object.__class__")))
    (xq5_NoFeast : PySem.W.specialIn K (.builtin "object.__class__") "__get__" = some (some (.builtin "getset_descriptor.__get__")))
    (xq6_NoFeast : PySem.W.takesIn K (.builtin "object.__class__") = some true)
    (xq7_NoFeast : PySem.W.mroIn K e_NoFeast (.type "object") = some true)
    (xq0_NoForth : PySem.W.findIn K (.ref e_NoForth) "__getattribute__" = some (some (.builtin "BaseException.__getattribute__")))
    (xq1_NoForth : PySem.W.findIn K (.ref e_NoForth) "__getattr__" = some none)
    (xq2_NoForth : PySem.W.subIn K (.ref e_NoForth) (.type "BaseException") = some true)
    (xq3_NoForth : PySem.W.hasDictIn K e_NoForth = true)
    (xq4_NoForth : PySem.W.findIn K (.ref e_NoForth) "__class__" = some (some (.builtin "object.__class__")))
    (xq5_NoForth : PySem.W.specialIn K (.builtin "object.__class__") "__get__" = some (some (.builtin "getset_descriptor.__get__")))
    (xq6_NoForth : PySem.W.takesIn K (.builtin "object.__class__") = some true)
    (xq7_NoForth : PySem.W.mroIn K e_NoForth (.type "object") = some true)
    (xq0_NoOrder : PySem.W.findIn K (.ref e_NoOrder) "__getattribute__" = some (some (.builtin "BaseException.__getattribute__")))
    (xq1_NoOrder : PySem.W.findIn K (.ref e_NoOrder) "__getattr__" = some none)
    (xq2_NoOrder : PySem.W.subIn K (.ref e_NoOrder) (.type "BaseException") = some true)
    (xq3_NoOrder : PySem.W.hasDictIn K e_NoOrder = true)
    (xq4_NoOrder : PySem.W.findIn K (.ref e_NoOrder) "__class__" = some (some (.builtin "object.__class__")))
    (xq5_NoOrder : PySem.W.specialIn K (.builtin "object.__class__") "__get__" = some (some (.builtin "getset_descriptor.__get__")))
    (xq6_NoOrder : PySem.W.takesIn K (.builtin "object.__class__") = some true)
    (xq7_NoOrder : PySem.W.mroIn K e_NoOrder (.type "object") = some true)
    (xq0_NoStand : PySem.W.findIn K (.ref e_NoStand) "__getattribute__" = some (some (.builtin "BaseException.__getattribute__")))
    (xq1_NoStand : PySem.W.findIn K (.ref e_NoStand) "__getattr__" = some none)
    (xq2_NoStand : PySem.W.subIn K (.ref e_NoStand) (.type "BaseException") = some true)
    (xq3_NoStand : PySem.W.hasDictIn K e_NoStand = true)
    (xq4_NoStand : PySem.W.findIn K (.ref e_NoStand) "__class__" = some (some (.builtin "object.__class__")))
    (xq5_NoStand : PySem.W.specialIn K (.builtin "object.__class__") "__get__" = some (some (.builtin "getset_descriptor.__get__")))
    (xq6_NoStand : PySem.W.takesIn K (.builtin "object.__class__") = some true)
    (xq7_NoStand : PySem.W.mroIn K e_NoStand (.type "object") = some true)
    (xq0_NoYear : PySem.W.findIn K (.ref e_NoYear) "__getattribute__" = some (some (.builtin "BaseException.__getattribute__")))
    (xq1_NoYear : PySem.W.findIn K (.ref e_NoYear) "__getattr__" = some none)
    (xq2_NoYear : PySem.W.subIn K (.ref e_NoYear) (.type "BaseException") = some true)
    (xq3_NoYear : PySem.W.hasDictIn K e_NoYear = true)
    (xq4_NoYear : PySem.W.findIn K (.ref e_NoYear) "__class__" = some (some (.builtin "object.__class__")))
    (xq5_NoYear : PySem.W.specialIn K (.builtin "object.__class__") "__get__" = some (some (.builtin "getset_descriptor.__get__")))
    (xq6_NoYear : PySem.W.takesIn K (.builtin "object.__class__") = some true)
    (xq7_NoYear : PySem.W.mroIn K e_NoYear (.type "object") = some true)
    (xq0_Sealed : PySem.W.findIn K (.ref e_Sealed) "__getattribute__" = some (some (.builtin "BaseException.__getattribute__")))
    (xq1_Sealed : PySem.W.findIn K (.ref e_Sealed) "__getattr__" = some none)
    (xq2_Sealed : PySem.W.subIn K (.ref e_Sealed) (.type "BaseException") = some true)
    (xq3_Sealed : PySem.W.hasDictIn K e_Sealed = true)
    (xq4_Sealed : PySem.W.findIn K (.ref e_Sealed) "__class__" = some (some (.builtin "object.__class__")))
    (xq5_Sealed : PySem.W.specialIn K (.builtin "object.__class__") "__get__" = some (some (.builtin "getset_descriptor.__get__")))
    (xq6_Sealed : PySem.W.takesIn K (.builtin "object.__class__") = some true)
    (xq7_Sealed : PySem.W.mroIn K e_Sealed (.type "object") = some true)
    (xq0_Taken : PySem.W.findIn K (.ref e_Taken) "__getattribute__" = some (some (.builtin "BaseException.__getattribute__")))
    (xq1_Taken : PySem.W.findIn K (.ref e_Taken) "__getattr__" = some none)
    (xq2_Taken : PySem.W.subIn K (.ref e_Taken) (.type "BaseException") = some true)
    (xq3_Taken : PySem.W.hasDictIn K e_Taken = true)
    (xq4_Taken : PySem.W.findIn K (.ref e_Taken) "__class__" = some (some (.builtin "object.__class__")))
    (xq5_Taken : PySem.W.specialIn K (.builtin "object.__class__") "__get__" = some (some (.builtin "getset_descriptor.__get__")))
    (xq6_Taken : PySem.W.takesIn K (.builtin "object.__class__") = some true)
    (xq7_Taken : PySem.W.mroIn K e_Taken (.type "object") = some true)
    (xm_BadDay_BadDay : PySem.W.subIn K (.ref e_BadDay) (.ref e_BadDay) = some true)
    (xm_BadFeast_BadDay : PySem.W.subIn K (.ref e_BadDay) (.ref e_BadFeast) = some false)
    (xm_BadYear_BadDay : PySem.W.subIn K (.ref e_BadDay) (.ref e_BadYear) = some false)
    (xm_FeastError_BadDay : PySem.W.subIn K (.ref e_BadDay) (.ref e_FeastError) = some true)
    (xs_BadDay_IndexError : PySem.W.subIn K (.ref e_BadDay) (.type "IndexError") = some false)
    (xs_BadDay_KeyError : PySem.W.subIn K (.ref e_BadDay) (.type "KeyError") = some false)
    (xm_NoBack_BadDay : PySem.W.subIn K (.ref e_BadDay) (.ref e_NoBack) = some false)
    (xm_NoDay_BadDay : PySem.W.subIn K (.ref e_BadDay) (.ref e_NoDay) = some false)
    (xm_NoFeast_BadDay : PySem.W.subIn K (.ref e_BadDay) (.ref e_NoFeast) = some false)
    (xm_NoForth_BadDay : PySem.W.subIn K (.ref e_BadDay) (.ref e_NoForth) = some false)
    (xm_NoOrder_BadDay : PySem.W.subIn K (.ref e_BadDay) (.ref e_NoOrder) = some false)
    (xm_NoStand_BadDay : PySem.W.subIn K (.ref e_BadDay) (.ref e_NoStand) = some false)
    (xm_NoYear_BadDay : PySem.W.subIn K (.ref e_BadDay) (.ref e_NoYear) = some false)
    (xm_Sealed_BadDay : PySem.W.subIn K (.ref e_BadDay) (.ref e_Sealed) = some false)
    (xm_Taken_BadDay : PySem.W.subIn K (.ref e_BadDay) (.ref e_Taken) = some false)
    (xs_BadDay_ValueError : PySem.W.subIn K (.ref e_BadDay) (.type "ValueError") = some true)
    (xm_BadDay_BadFeast : PySem.W.subIn K (.ref e_BadFeast) (.ref e_BadDay) = some false)
    (xm_BadFeast_BadFeast : PySem.W.subIn K (.ref e_BadFeast) (.ref e_BadFeast) = some true)
    (xm_BadYear_BadFeast : PySem.W.subIn K (.ref e_BadFeast) (.ref e_BadYear) = some false)
    (xm_FeastError_BadFeast : PySem.W.subIn K (.ref e_BadFeast) (.ref e_FeastError) = some true)
    (xs_BadFeast_IndexError : PySem.W.subIn K (.ref e_BadFeast) (.type "IndexError") = some false)
    (xs_BadFeast_KeyError : PySem.W.subIn K (.ref e_BadFeast) (.type "KeyError") = some false)
    (xm_NoBack_BadFeast : PySem.W.subIn K (.ref e_BadFeast) (.ref e_NoBack) = some false)
    (xm_NoDay_BadFeast : PySem.W.subIn K (.ref e_BadFeast) (.ref e_NoDay) = some false)
    (xm_NoFeast_BadFeast : PySem.W.subIn K (.ref e_BadFeast) (.ref e_NoFeast) = some false)
    (xm_NoForth_BadFeast : PySem.W.subIn K (.ref e_BadFeast) (.ref e_NoForth) = some false)
    (xm_NoOrder_BadFeast : PySem.W.subIn K (.ref e_BadFeast) (.ref e_NoOrder) = some false)
    (xm_NoStand_BadFeast : PySem.W.subIn K (.ref e_BadFeast) (.ref e_NoStand) = some false)
    (xm_NoYear_BadFeast : PySem.W.subIn K (.ref e_BadFeast) (.ref e_NoYear) = some false)
    (xm_Sealed_BadFeast : PySem.W.subIn K (.ref e_BadFeast) (.ref e_Sealed) = some false)
    (xm_Taken_BadFeast : PySem.W.subIn K (.ref e_BadFeast) (.ref e_Taken) = some false)
    (xs_BadFeast_ValueError : PySem.W.subIn K (.ref e_BadFeast) (.type "ValueError") = some true)
    (xm_BadDay_BadYear : PySem.W.subIn K (.ref e_BadYear) (.ref e_BadDay) = some false)
    (xm_BadFeast_BadYear : PySem.W.subIn K (.ref e_BadYear) (.ref e_BadFeast) = some false)
    (xm_BadYear_BadYear : PySem.W.subIn K (.ref e_BadYear) (.ref e_BadYear) = some true)
    (xm_FeastError_BadYear : PySem.W.subIn K (.ref e_BadYear) (.ref e_FeastError) = some true)
    (xs_BadYear_IndexError : PySem.W.subIn K (.ref e_BadYear) (.type "IndexError") = some false)
    (xs_BadYear_KeyError : PySem.W.subIn K (.ref e_BadYear) (.type "KeyError") = some false)
    (xm_NoBack_BadYear : PySem.W.subIn K (.ref e_BadYear) (.ref e_NoBack) = some false)
    (xm_NoDay_BadYear : PySem.W.subIn K (.ref e_BadYear) (.ref e_NoDay) = some false)
    (xm_NoFeast_BadYear : PySem.W.subIn K (.ref e_BadYear) (.ref e_NoFeast) = some false)
    (xm_NoForth_BadYear : PySem.W.subIn K (.ref e_BadYear) (.ref e_NoForth) = some false)
    (xm_NoOrder_BadYear : PySem.W.subIn K (.ref e_BadYear) (.ref e_NoOrder) = some false)
    (xm_NoStand_BadYear : PySem.W.subIn K (.ref e_BadYear) (.ref e_NoStand) = some false)
    (xm_NoYear_BadYear : PySem.W.subIn K (.ref e_BadYear) (.ref e_NoYear) = some false)
    (xm_Sealed_BadYear : PySem.W.subIn K (.ref e_BadYear) (.ref e_Sealed) = some false)
    (xm_Taken_BadYear : PySem.W.subIn K (.ref e_BadYear) (.ref e_Taken) = some false)
    (xs_BadYear_ValueError : PySem.W.subIn K (.ref e_BadYear) (.type "ValueError") = some true)
    (xm_BadDay_NoBack : PySem.W.subIn K (.ref e_NoBack) (.ref e_BadDay) = some false)
    (xm_BadFeast_NoBack : PySem.W.subIn K (.ref e_NoBack) (.ref e_BadFeast) = some false)
    (xm_BadYear_NoBack : PySem.W.subIn K (.ref e_NoBack) (.ref e_BadYear) = some false)
    (xm_FeastError_NoBack : PySem.W.subIn K (.ref e_NoBack) (.ref e_FeastError) = some true)
    (xs_NoBack_IndexError : PySem.W.subIn K (.ref e_NoBack) (.type "IndexError") = some false)
    (xs_NoBack_KeyError : PySem.W.subIn K (.ref e_NoBack) (.type "KeyError") = some false)
    (xm_NoBack_NoBack : PySem.W.subIn K (.ref e_NoBack) (.ref e_NoBack) = some true)
    (xm_NoDay_NoBack : PySem.W.subIn K (.ref e_NoBack) (.ref e_NoDay) = some false)
    (xm_NoFeast_NoBack : PySem.W.subIn K (.ref e_NoBack) (.ref e_NoFeast) = some false)
    (xm_NoForth_NoBack : PySem.W.subIn K (.ref e_NoBack) (.ref e_NoForth) = some false)
    (xm_NoOrder_NoBack : PySem.W.subIn K (.ref e_NoBack) (.ref e_NoOrder) = some false)
    (xm_NoStand_NoBack : PySem.W.subIn K (.ref e_NoBack) (.ref e_NoStand) = some false)
    (xm_NoYear_NoBack : PySem.W.subIn K (.ref e_NoBack) (.ref e_NoYear) = some false)
    (xm_Sealed_NoBack : PySem.W.subIn K (.ref e_NoBack) (.ref e_Sealed) = some false)
    (xm_Taken_NoBack : PySem.W.subIn K (.ref e_NoBack) (.ref e_Taken) = some false)
    (xs_NoBack_ValueError : PySem.W.subIn K (.ref e_NoBack) (.type "ValueError") = some true)
    (xm_BadDay_NoDay : PySem.W.subIn K (.ref e_NoDay) (.ref e_BadDay) = some false)
    (xm_BadFeast_NoDay : PySem.W.subIn K (.ref e_NoDay) (.ref e_BadFeast) = some false)
    (xm_BadYear_NoDay : PySem.W.subIn K (.ref e_NoDay) (.ref e_BadYear) = some false)
    (xm_FeastError_NoDay : PySem.W.subIn K (.ref e_NoDay) (.ref e_FeastError) = some true)
    (xs_NoDay_IndexError : PySem.W.subIn K (.ref e_NoDay) (.type "IndexError") = some false)
    (xs_NoDay_KeyError : PySem.W.subIn K (.ref e_NoDay) (.type "KeyError") = some false)
    (xm_NoBack_NoDay : PySem.W.subIn K (.ref e_NoDay) (.ref e_NoBack) = some false)
    (xm_NoDay_NoDay : PySem.W.subIn K (.ref e_NoDay) (.ref e_NoDay) = some true)
    (xm_NoFeast_NoDay : PySem.W.subIn K (.ref e_NoDay) (.ref e_NoFeast) = some false)
    (xm_NoForth_NoDay : PySem.W.subIn K (.ref e_NoDay) (.ref e_NoForth) = some false)
    (xm_NoOrder_NoDay : PySem.W.subIn K (.ref e_NoDay) (.ref e_NoOrder) = some false)
    (xm_NoStand_NoDay : PySem.W.subIn K (.ref e_NoDay) (.ref e_NoStand) = some false)
    (xm_NoYear_NoDay : PySem.W.subIn K (.ref e_NoDay) (.ref e_NoYear) = some false)
    (xm_Sealed_NoDay : PySem.W.subIn K (.ref e_NoDay) (.ref e_Sealed) = some false)
    (xm_Taken_NoDay : PySem.W.subIn K (.ref e_NoDay) (.ref e_Taken) = some false)
    (xs_NoDay_ValueError : PySem.W.subIn K (.ref e_NoDay) (.type "ValueError") = some true)
    (xm_BadDay_NoFeast : PySem.W.subIn K (.ref e_NoFeast) (.ref e_BadDay) = some false)
    (xm_BadFeast_NoFeast : PySem.W.subIn K (.ref e_NoFeast) (.ref e_BadFeast) = some false)
    (xm_BadYear_NoFeast : PySem.W.subIn K (.ref e_NoFeast) (.ref e_BadYear) = some false)
    (xm_FeastError_NoFeast : PySem.W.subIn K (.ref e_NoFeast) (.ref e_FeastError) = some true)
    (xs_NoFeast_IndexError : PySem.W.subIn K (.ref e_NoFeast) (.type "IndexError") = some false)
    (xs_NoFeast_KeyError : PySem.W.subIn K (.ref e_NoFeast) (.type "KeyError") = some false)
    (xm_NoBack_NoFeast : PySem.W.subIn K (.ref e_NoFeast) (.ref e_NoBack) = some false)
    (xm_NoDay_NoFeast : PySem.W.subIn K (.ref e_NoFeast) (.ref e_NoDay) = some false)
    (xm_NoFeast_NoFeast : PySem.W.subIn K (.ref e_NoFeast) (.ref e_NoFeast) = some true)
    (xm_NoForth_NoFeast : PySem.W.subIn K (.ref e_NoFeast) (.ref e_NoForth) = some false)
    (xm_NoOrder_NoFeast : PySem.W.subIn K (.ref e_NoFeast) (.ref e_NoOrder) = some false)
    (xm_NoStand_NoFeast : PySem.W.subIn K (.ref e_NoFeast) (.ref e_NoStand) = some false)
    (xm_NoYear_NoFeast : PySem.W.subIn K (.ref e_NoFeast) (.ref e_NoYear) = some false)
    (xm_Sealed_NoFeast : PySem.W.subIn K (.ref e_NoFeast) (.ref e_Sealed) = some false)
    (xm_Taken_NoFeast : PySem.W.subIn K (.ref e_NoFeast) (.ref e_Taken) = some false)
    (xs_NoFeast_ValueError : PySem.W.subIn K (.ref e_NoFeast) (.type "ValueError") = some true)
    (xm_BadDay_NoForth : PySem.W.subIn K (.ref e_NoForth) (.ref e_BadDay) = some false)
    (xm_BadFeast_NoForth : PySem.W.subIn K (.ref e_NoForth) (.ref e_BadFeast) = some false)
    (xm_BadYear_NoForth : PySem.W.subIn K (.ref e_NoForth) (.ref e_BadYear) = some false)
    (xm_FeastError_NoForth : PySem.W.subIn K (.ref e_NoForth) (.ref e_FeastError) = some true)
    (xs_NoForth_IndexError : PySem.W.subIn K (.ref e_NoForth) (.type "IndexError") = some false)
    (xs_NoForth_KeyError : PySem.W.subIn K (.ref e_NoForth) (.type "KeyError") = some false)
    (xm_NoBack_NoForth : PySem.W.subIn K (.ref e_NoForth) (.ref e_NoBack) = some false)
    (xm_NoDay_NoForth : PySem.W.subIn K (.ref e_NoForth) (.ref e_NoDay) = some false)
    (xm_NoFeast_NoForth : PySem.W.subIn K (.ref e_NoForth) (.ref e_NoFeast) = some false)
    (xm_NoForth_NoForth : PySem.W.subIn K (.ref e_NoForth) (.ref e_NoForth) = some true)
    (xm_NoOrder_NoForth : PySem.W.subIn K (.ref e_NoForth) (.ref e_NoOrder) = some false)
    (xm_NoStand_NoForth : PySem.W.subIn K (.ref e_NoForth) (.ref e_NoStand) = some false)
    (xm_NoYear_NoForth : PySem.W.subIn K (.ref e_NoForth) (.ref e_NoYear) = some false)
    (xm_Sealed_NoForth : PySem.W.subIn K (.ref e_NoForth) (.ref e_Sealed) = some false)
    (xm_Taken_NoForth : PySem.W.subIn K (.ref e_NoForth) (.ref e_Taken) = some false)
    (xs_NoForth_ValueError : PySem.W.subIn K (.ref e_NoForth) (.type "ValueError") = some true)
    (xm_BadDay_NoOrder : PySem.W.subIn K (.ref e_NoOrder) (.ref e_BadDay) = some false)
    (xm_BadFeast_NoOrder : PySem.W.subIn K (.ref e_NoOrder) (.ref e_BadFeast) = some false)
    (xm_BadYear_NoOrder : PySem.W.subIn K (.ref e_NoOrder) (.ref e_BadYear) = some false)
    (xm_FeastError_NoOrder : PySem.W.subIn K (.ref e_NoOrder) (.ref e_FeastError) = some true)
    (xs_NoOrder_IndexError : PySem.W.subIn K (.ref e_NoOrder) (.type "IndexError") = some false)
    (xs_NoOrder_KeyError : PySem.W.subIn K (.ref e_NoOrder) (.type "KeyError") = some false)
    (xm_NoBack_NoOrder : PySem.W.subIn K (.ref e_NoOrder) (.ref e_NoBack) = some false)
    (xm_NoDay_NoOrder : PySem.W.subIn K (.ref e_NoOrder) (.ref e_NoDay) = some false)
    (xm_NoFeast_NoOrder : PySem.W.subIn K (.ref e_NoOrder) (.ref e_NoFeast) = some false)
    (xm_NoForth_NoOrder : PySem.W.subIn K (.ref e_NoOrder) (.ref e_NoForth) = some false)
    (xm_NoOrder_NoOrder : PySem.W.subIn K (.ref e_NoOrder) (.ref e_NoOrder) = some true)
    (xm_NoStand_NoOrder : PySem.W.subIn K (.ref e_NoOrder) (.ref e_NoStand) = some false)
    (xm_NoYear_NoOrder : PySem.W.subIn K (.ref e_NoOrder) (.ref e_NoYear) = some false)
    (xm_Sealed_NoOrder : PySem.W.subIn K (.ref e_NoOrder) (.ref e_Sealed) = some false)
    (xm_Taken_NoOrder : PySem.W.subIn K (.ref e_NoOrder) (.ref e_Taken) = some false)
    (xs_NoOrder_ValueError : PySem.W.subIn K (.ref e_NoOrder) (.type "ValueError") = some true)
    (xm_BadDay_NoStand : PySem.W.subIn K (.ref e_NoStand) (.ref e_BadDay) = some false)
    (xm_BadFeast_NoStand : PySem.W.subIn K (.ref e_NoStand) (.ref e_BadFeast) = some false)
    (xm_BadYear_NoStand : PySem.W.subIn K (.ref e_NoStand) (.ref e_BadYear) = some false)
    (xm_FeastError_NoStand : PySem.W.subIn K (.ref e_NoStand) (.ref e_FeastError) = some true)
    (xs_NoStand_IndexError : PySem.W.subIn K (.ref e_NoStand) (.type "IndexError") = some false)
    (xs_NoStand_KeyError : PySem.W.subIn K (.ref e_NoStand) (.type "KeyError") = some false)
    (xm_NoBack_NoStand : PySem.W.subIn K (.ref e_NoStand) (.ref e_NoBack) = some false)
    (xm_NoDay_NoStand : PySem.W.subIn K (.ref e_NoStand) (.ref e_NoDay) = some false)
    (xm_NoFeast_NoStand : PySem.W.subIn K (.ref e_NoStand) (.ref e_NoFeast) = some false)
    (xm_NoForth_NoStand : PySem.W.subIn K (.ref e_NoStand) (.ref e_NoForth) = some false)
    (xm_NoOrder_NoStand : PySem.W.subIn K (.ref e_NoStand) (.ref e_NoOrder) = some false)
    (xm_NoStand_NoStand : PySem.W.subIn K (.ref e_NoStand) (.ref e_NoStand) = some true)
    (xm_NoYear_NoStand : PySem.W.subIn K (.ref e_NoStand) (.ref e_NoYear) = some false)
    (xm_Sealed_NoStand : PySem.W.subIn K (.ref e_NoStand) (.ref e_Sealed) = some false)
    (xm_Taken_NoStand : PySem.W.subIn K (.ref e_NoStand) (.ref e_Taken) = some false)
    (xs_NoStand_ValueError : PySem.W.subIn K (.ref e_NoStand) (.type "ValueError") = some true)
    (xm_BadDay_NoYear : PySem.W.subIn K (.ref e_NoYear) (.ref e_BadDay) = some false)
    (xm_BadFeast_NoYear : PySem.W.subIn K (.ref e_NoYear) (.ref e_BadFeast) = some false)
    (xm_BadYear_NoYear : PySem.W.subIn K (.ref e_NoYear) (.ref e_BadYear) = some false)
    (xm_FeastError_NoYear : PySem.W.subIn K (.ref e_NoYear) (.ref e_FeastError) = some true)
    (xs_NoYear_IndexError : PySem.W.subIn K (.ref e_NoYear) (.type "IndexError") = some false)
    (xs_NoYear_KeyError : PySem.W.subIn K (.ref e_NoYear) (.type "KeyError") = some false)
    (xm_NoBack_NoYear : PySem.W.subIn K (.ref e_NoYear) (.ref e_NoBack) = some false)
    (xm_NoDay_NoYear : PySem.W.subIn K (.ref e_NoYear) (.ref e_NoDay) = some false)
    (xm_NoFeast_NoYear : PySem.W.subIn K (.ref e_NoYear) (.ref e_NoFeast) = some false)
    (xm_NoForth_NoYear : PySem.W.subIn K (.ref e_NoYear) (.ref e_NoForth) = some false)
    (xm_NoOrder_NoYear : PySem.W.subIn K (.ref e_NoYear) (.ref e_NoOrder) = some false)
    (xm_NoStand_NoYear : PySem.W.subIn K (.ref e_NoYear) (.ref e_NoStand) = some false)
    (xm_NoYear_NoYear : PySem.W.subIn K (.ref e_NoYear) (.ref e_NoYear) = some true)
    (xm_Sealed_NoYear : PySem.W.subIn K (.ref e_NoYear) (.ref e_Sealed) = some false)
    (xm_Taken_NoYear : PySem.W.subIn K (.ref e_NoYear) (.ref e_Taken) = some false)
    (xs_NoYear_ValueError : PySem.W.subIn K (.ref e_NoYear) (.type "ValueError") = some true)
    (xm_BadDay_Sealed : PySem.W.subIn K (.ref e_Sealed) (.ref e_BadDay) = some false)
    (xm_BadFeast_Sealed : PySem.W.subIn K (.ref e_Sealed) (.ref e_BadFeast) = some false)
    (xm_BadYear_Sealed : PySem.W.subIn K (.ref e_Sealed) (.ref e_BadYear) = some false)
    (xm_FeastError_Sealed : PySem.W.subIn K (.ref e_Sealed) (.ref e_FeastError) = some true)
    (xs_Sealed_IndexError : PySem.W.subIn K (.ref e_Sealed) (.type "IndexError") = some false)
    (xs_Sealed_KeyError : PySem.W.subIn K (.ref e_Sealed) (.type "KeyError") = some false)
    (xm_NoBack_Sealed : PySem.W.subIn K (.ref e_Sealed) (.ref e_NoBack) = some false)
    (xm_NoDay_Sealed : PySem.W.subIn K (.ref e_Sealed) (.ref e_NoDay) = some false)
    (xm_NoFeast_Sealed : PySem.W.subIn K (.ref e_Sealed) (.ref e_NoFeast) = some false)
    (xm_NoForth_Sealed : PySem.W.subIn K (.ref e_Sealed) (.ref e_NoForth) = some false)
    (xm_NoOrder_Sealed : PySem.W.subIn K (.ref e_Sealed) (.ref e_NoOrder) = some false)
    (xm_NoStand_Sealed : PySem.W.subIn K (.ref e_Sealed) (.ref e_NoStand) = some false)
    (xm_NoYear_Sealed : PySem.W.subIn K (.ref e_Sealed) (.ref e_NoYear) = some false)
    (xm_Sealed_Sealed : PySem.W.subIn K (.ref e_Sealed) (.ref e_Sealed) = some true)
    (xm_Taken_Sealed : PySem.W.subIn K (.ref e_Sealed) (.ref e_Taken) = some false)
    (xs_Sealed_ValueError : PySem.W.subIn K (.ref e_Sealed) (.type "ValueError") = some true)
    (xm_BadDay_Taken : PySem.W.subIn K (.ref e_Taken) (.ref e_BadDay) = some false)
    (xm_BadFeast_Taken : PySem.W.subIn K (.ref e_Taken) (.ref e_BadFeast) = some false)
    (xm_BadYear_Taken : PySem.W.subIn K (.ref e_Taken) (.ref e_BadYear) = some false)
    (xm_FeastError_Taken : PySem.W.subIn K (.ref e_Taken) (.ref e_FeastError) = some true)
    (xs_Taken_IndexError : PySem.W.subIn K (.ref e_Taken) (.type "IndexError") = some false)
    (xs_Taken_KeyError : PySem.W.subIn K (.ref e_Taken) (.type "KeyError") = some false)
    (xm_NoBack_Taken : PySem.W.subIn K (.ref e_Taken) (.ref e_NoBack) = some false)
    (xm_NoDay_Taken : PySem.W.subIn K (.ref e_Taken) (.ref e_NoDay) = some false)
    (xm_NoFeast_Taken : PySem.W.subIn K (.ref e_Taken) (.ref e_NoFeast) = some false)
    (xm_NoForth_Taken : PySem.W.subIn K (.ref e_Taken) (.ref e_NoForth) = some false)
    (xm_NoOrder_Taken : PySem.W.subIn K (.ref e_Taken) (.ref e_NoOrder) = some false)
    (xm_NoStand_Taken : PySem.W.subIn K (.ref e_Taken) (.ref e_NoStand) = some false)
    (xm_NoYear_Taken : PySem.W.subIn K (.ref e_Taken) (.ref e_NoYear) = some false)
    (xm_Sealed_Taken : PySem.W.subIn K (.ref e_Taken) (.ref e_Sealed) = some false)
    (xm_Taken_Taken : PySem.W.subIn K (.ref e_Taken) (.ref e_Taken) = some true)
    (xs_Taken_ValueError : PySem.W.subIn K (.ref e_Taken) (.type "ValueError") = some true)
    (xn_Sealed_day : PySem.W.findIn K (.ref e_Sealed) "day" = some none)
    (xn_Sealed_number : PySem.W.findIn K (.ref e_Sealed) "number" = some none)
    (xn_Sealed_year : PySem.W.findIn K (.ref e_Sealed) "year" = some none)
    (oc_Sealed : K.lookup e_Sealed = some (excClassObj nm_Sealed q_Sealed e_Sealed N_Sealed bs_Sealed (.ref fe_Sealed :: [.type "ValueError", .type "Exception", .type "BaseException", .type "object"]) true sn_Sealed sub_Sealed ab_Sealed col_Sealed dd_Sealed m0_Sealed m1_Sealed m2_Sealed m3_Sealed m5_Sealed "ValueError.__new__")) (os_Sealed : PySem.W.findIn K (.ref e_Sealed) "__setattr__" = some (some (.builtin "object.__setattr__"))) (oe_Sealed : PySem.W.subIn K (.ref e_Sealed) (.type "BaseException") = some true) (ot_Sealed : PySem.W.typeIn K (.ref e_Sealed) = some (.type "type")) (ok_Sealed : PySem.W.keepIn K (.ref e_Sealed) = true) (oi_Sealed : PySem.W.findIn K (.ref e_Sealed) "__init__" = some (some (.ref fi_Sealed))) (of_Sealed : PySem.W.typeIn K (.ref fi_Sealed) = some (.type "function")) (ol_Sealed : K.lookup fi_Sealed = some ⟨oco_Sealed, odo_Sealed, .func (PySem.W.fnOf "__init__" "Sealed.__init__" (defArgs Zcy) (defBody Zcy) (defScope Zcy) .none kVo_Sealed dco_Sealed pmo_Sealed ano_Sealed cdo_Sealed cto_Sealed), slo_Sealed⟩) (oo_Sealed : PySem.W.codeIn K cdo_Sealed "Sealed.__init__" = true) (op_Sealed : PySem.W.keepIn K (.ref fi_Sealed) = true) : Txt K mg w :=
  { d_law_cell := Zfq X G a0 l0 c0 k0 fun us hl => match us, hl with | [_, _], _ => rfl,
    d_law_seed := Zfq X G a1 l1 c1 k1 fun us hl => match us, hl with | [_], _ => rfl,
    d_law_digits := Zfq X G a2 l2 c2 k2 fun us hl => match us, hl with | [_, _], _ => rfl,
    d_law_whole := Zfq X G a3 l3 c3 k3 fun us hl => match us, hl with | [_], _ => rfl,
    d_law_classes := Zfq X G a4 l4 c4 k4 fun us hl => match us, hl with | [_], _ => rfl,
    d_law := Zfq X G a5 l5 c5 k5 fun us hl => match us, hl with | [_], _ => rfl,
    n_bool := PySem.W.mg_none_of X G z_bool,
    n_enumerate := PySem.W.mg_none_of X G z_enumerate,
    n_int := PySem.W.mg_none_of X G z_int,
    n_isinstance := PySem.W.mg_none_of X G z_isinstance,
    n_len := PySem.W.mg_none_of X G z_len,
    n_range := PySem.W.mg_none_of X G z_range,
    x_BadDay := ⟨e_BadDay, PySem.W.mg_of X G xa_BadDay, xe_BadDay, xk_BadDay, xb_BadDay, xt_BadDay, xi_BadDay⟩,
    x_BadFeast := ⟨e_BadFeast, PySem.W.mg_of X G xa_BadFeast, xe_BadFeast, xk_BadFeast, xb_BadFeast, xt_BadFeast, xi_BadFeast⟩,
    x_BadYear := ⟨e_BadYear, PySem.W.mg_of X G xa_BadYear, xe_BadYear, xk_BadYear, xb_BadYear, xt_BadYear, xi_BadYear⟩,
    x_NoBack := ⟨e_NoBack, PySem.W.mg_of X G xa_NoBack, xe_NoBack, xk_NoBack, xb_NoBack, xt_NoBack, xi_NoBack⟩,
    x_NoDay := ⟨e_NoDay, PySem.W.mg_of X G xa_NoDay, xe_NoDay, xk_NoDay, xb_NoDay, xt_NoDay, xi_NoDay⟩,
    x_NoFeast := ⟨e_NoFeast, PySem.W.mg_of X G xa_NoFeast, xe_NoFeast, xk_NoFeast, xb_NoFeast, xt_NoFeast, xi_NoFeast⟩,
    x_NoForth := ⟨e_NoForth, PySem.W.mg_of X G xa_NoForth, xe_NoForth, xk_NoForth, xb_NoForth, xt_NoForth, xi_NoForth⟩,
    x_NoOrder := ⟨e_NoOrder, PySem.W.mg_of X G xa_NoOrder, xe_NoOrder, xk_NoOrder, xb_NoOrder, xt_NoOrder, xi_NoOrder⟩,
    x_NoStand := ⟨e_NoStand, PySem.W.mg_of X G xa_NoStand, xe_NoStand, xk_NoStand, xb_NoStand, xt_NoStand, xi_NoStand⟩,
    x_NoYear := ⟨e_NoYear, PySem.W.mg_of X G xa_NoYear, xe_NoYear, xk_NoYear, xb_NoYear, xt_NoYear, xi_NoYear⟩,
    x_Taken := ⟨e_Taken, PySem.W.mg_of X G xa_Taken, xe_Taken, xk_Taken, xb_Taken, xt_Taken, xi_Taken⟩,
    s_BadDay_BadFeast_BadYear_NoBack_NoDay_NoFeast_NoForth_NoOrder_NoStand_NoYear_Sealed_Taken_BadDay := (Zaa ⟨e_BadDay, PySem.W.mg_of X G xa_BadDay, ⟨xq0_BadDay, xq1_BadDay, xq2_BadDay, xq3_BadDay, xq4_BadDay, xq5_BadDay, xq6_BadDay, xq7_BadDay⟩, .inl ⟨e_BadDay, PySem.W.mg_of X G xa_BadDay, Zab xo1_BadDay xo2_BadDay xo3_BadDay xm_BadDay_BadDay⟩⟩ (Zaa ⟨e_BadFeast, PySem.W.mg_of X G xa_BadFeast, ⟨xq0_BadFeast, xq1_BadFeast, xq2_BadFeast, xq3_BadFeast, xq4_BadFeast, xq5_BadFeast, xq6_BadFeast, xq7_BadFeast⟩, .inl ⟨e_BadDay, PySem.W.mg_of X G xa_BadDay, Zab xo1_BadDay xo2_BadDay xo3_BadDay xm_BadDay_BadFeast⟩⟩ (Zaa ⟨e_BadYear, PySem.W.mg_of X G xa_BadYear, ⟨xq0_BadYear, xq1_BadYear, xq2_BadYear, xq3_BadYear, xq4_BadYear, xq5_BadYear, xq6_BadYear, xq7_BadYear⟩, .inl ⟨e_BadDay, PySem.W.mg_of X G xa_BadDay, Zab xo1_BadDay xo2_BadDay xo3_BadDay xm_BadDay_BadYear⟩⟩ (Zaa ⟨e_NoBack, PySem.W.mg_of X G xa_NoBack, ⟨xq0_NoBack, xq1_NoBack, xq2_NoBack, xq3_NoBack, xq4_NoBack, xq5_NoBack, xq6_NoBack, xq7_NoBack⟩, .inl ⟨e_BadDay, PySem.W.mg_of X G xa_BadDay, Zab xo1_BadDay xo2_BadDay xo3_BadDay xm_BadDay_NoBack⟩⟩ (Zaa ⟨e_NoDay, PySem.W.mg_of X G xa_NoDay, ⟨xq0_NoDay, xq1_NoDay, xq2_NoDay, xq3_NoDay, xq4_NoDay, xq5_NoDay, xq6_NoDay, xq7_NoDay⟩, .inl ⟨e_BadDay, PySem.W.mg_of X G xa_BadDay, Zab xo1_BadDay xo2_BadDay xo3_BadDay xm_BadDay_NoDay⟩⟩ (Zaa ⟨e_NoFeast, PySem.W.mg_of X G xa_NoFeast, ⟨xq0_NoFeast, xq1_NoFeast, xq2_NoFeast, xq3_NoFeast, xq4_NoFeast, xq5_NoFeast, xq6_NoFeast, xq7_NoFeast⟩, .inl ⟨e_BadDay, PySem.W.mg_of X G xa_BadDay, Zab xo1_BadDay xo2_BadDay xo3_BadDay xm_BadDay_NoFeast⟩⟩ (Zaa ⟨e_NoForth, PySem.W.mg_of X G xa_NoForth, ⟨xq0_NoForth, xq1_NoForth, xq2_NoForth, xq3_NoForth, xq4_NoForth, xq5_NoForth, xq6_NoForth, xq7_NoForth⟩, .inl ⟨e_BadDay, PySem.W.mg_of X G xa_BadDay, Zab xo1_BadDay xo2_BadDay xo3_BadDay xm_BadDay_NoForth⟩⟩ (Zaa ⟨e_NoOrder, PySem.W.mg_of X G xa_NoOrder, ⟨xq0_NoOrder, xq1_NoOrder, xq2_NoOrder, xq3_NoOrder, xq4_NoOrder, xq5_NoOrder, xq6_NoOrder, xq7_NoOrder⟩, .inl ⟨e_BadDay, PySem.W.mg_of X G xa_BadDay, Zab xo1_BadDay xo2_BadDay xo3_BadDay xm_BadDay_NoOrder⟩⟩ (Zaa ⟨e_NoStand, PySem.W.mg_of X G xa_NoStand, ⟨xq0_NoStand, xq1_NoStand, xq2_NoStand, xq3_NoStand, xq4_NoStand, xq5_NoStand, xq6_NoStand, xq7_NoStand⟩, .inl ⟨e_BadDay, PySem.W.mg_of X G xa_BadDay, Zab xo1_BadDay xo2_BadDay xo3_BadDay xm_BadDay_NoStand⟩⟩ (Zaa ⟨e_NoYear, PySem.W.mg_of X G xa_NoYear, ⟨xq0_NoYear, xq1_NoYear, xq2_NoYear, xq3_NoYear, xq4_NoYear, xq5_NoYear, xq6_NoYear, xq7_NoYear⟩, .inl ⟨e_BadDay, PySem.W.mg_of X G xa_BadDay, Zab xo1_BadDay xo2_BadDay xo3_BadDay xm_BadDay_NoYear⟩⟩ (Zaa ⟨e_Sealed, PySem.W.mg_of X G xa_Sealed, ⟨xq0_Sealed, xq1_Sealed, xq2_Sealed, xq3_Sealed, xq4_Sealed, xq5_Sealed, xq6_Sealed, xq7_Sealed⟩, .inl ⟨e_BadDay, PySem.W.mg_of X G xa_BadDay, Zab xo1_BadDay xo2_BadDay xo3_BadDay xm_BadDay_Sealed⟩⟩ (Zaa ⟨e_Taken, PySem.W.mg_of X G xa_Taken, ⟨xq0_Taken, xq1_Taken, xq2_Taken, xq3_Taken, xq4_Taken, xq5_Taken, xq6_Taken, xq7_Taken⟩, .inl ⟨e_BadDay, PySem.W.mg_of X G xa_BadDay, Zab xo1_BadDay xo2_BadDay xo3_BadDay xm_BadDay_Taken⟩⟩ Zaz)))))))))))),
    s_BadDay_BadFeast_BadYear_NoBack_NoDay_NoFeast_NoForth_NoOrder_NoStand_NoYear_Sealed_Taken_BadFeast := (Zaa ⟨e_BadDay, PySem.W.mg_of X G xa_BadDay, ⟨xq0_BadDay, xq1_BadDay, xq2_BadDay, xq3_BadDay, xq4_BadDay, xq5_BadDay, xq6_BadDay, xq7_BadDay⟩, .inl ⟨e_BadFeast, PySem.W.mg_of X G xa_BadFeast, Zab xo1_BadFeast xo2_BadFeast xo3_BadFeast xm_BadFeast_BadDay⟩⟩ (Zaa ⟨e_BadFeast, PySem.W.mg_of X G xa_BadFeast, ⟨xq0_BadFeast, xq1_BadFeast, xq2_BadFeast, xq3_BadFeast, xq4_BadFeast, xq5_BadFeast, xq6_BadFeast, xq7_BadFeast⟩, .inl ⟨e_BadFeast, PySem.W.mg_of X G xa_BadFeast, Zab xo1_BadFeast xo2_BadFeast xo3_BadFeast xm_BadFeast_BadFeast⟩⟩ (Zaa ⟨e_BadYear, PySem.W.mg_of X G xa_BadYear, ⟨xq0_BadYear, xq1_BadYear, xq2_BadYear, xq3_BadYear, xq4_BadYear, xq5_BadYear, xq6_BadYear, xq7_BadYear⟩, .inl ⟨e_BadFeast, PySem.W.mg_of X G xa_BadFeast, Zab xo1_BadFeast xo2_BadFeast xo3_BadFeast xm_BadFeast_BadYear⟩⟩ (Zaa ⟨e_NoBack, PySem.W.mg_of X G xa_NoBack, ⟨xq0_NoBack, xq1_NoBack, xq2_NoBack, xq3_NoBack, xq4_NoBack, xq5_NoBack, xq6_NoBack, xq7_NoBack⟩, .inl ⟨e_BadFeast, PySem.W.mg_of X G xa_BadFeast, Zab xo1_BadFeast xo2_BadFeast xo3_BadFeast xm_BadFeast_NoBack⟩⟩ (Zaa ⟨e_NoDay, PySem.W.mg_of X G xa_NoDay, ⟨xq0_NoDay, xq1_NoDay, xq2_NoDay, xq3_NoDay, xq4_NoDay, xq5_NoDay, xq6_NoDay, xq7_NoDay⟩, .inl ⟨e_BadFeast, PySem.W.mg_of X G xa_BadFeast, Zab xo1_BadFeast xo2_BadFeast xo3_BadFeast xm_BadFeast_NoDay⟩⟩ (Zaa ⟨e_NoFeast, PySem.W.mg_of X G xa_NoFeast, ⟨xq0_NoFeast, xq1_NoFeast, xq2_NoFeast, xq3_NoFeast, xq4_NoFeast, xq5_NoFeast, xq6_NoFeast, xq7_NoFeast⟩, .inl ⟨e_BadFeast, PySem.W.mg_of X G xa_BadFeast, Zab xo1_BadFeast xo2_BadFeast xo3_BadFeast xm_BadFeast_NoFeast⟩⟩ (Zaa ⟨e_NoForth, PySem.W.mg_of X G xa_NoForth, ⟨xq0_NoForth, xq1_NoForth, xq2_NoForth, xq3_NoForth, xq4_NoForth, xq5_NoForth, xq6_NoForth, xq7_NoForth⟩, .inl ⟨e_BadFeast, PySem.W.mg_of X G xa_BadFeast, Zab xo1_BadFeast xo2_BadFeast xo3_BadFeast xm_BadFeast_NoForth⟩⟩ (Zaa ⟨e_NoOrder, PySem.W.mg_of X G xa_NoOrder, ⟨xq0_NoOrder, xq1_NoOrder, xq2_NoOrder, xq3_NoOrder, xq4_NoOrder, xq5_NoOrder, xq6_NoOrder, xq7_NoOrder⟩, .inl ⟨e_BadFeast, PySem.W.mg_of X G xa_BadFeast, Zab xo1_BadFeast xo2_BadFeast xo3_BadFeast xm_BadFeast_NoOrder⟩⟩ (Zaa ⟨e_NoStand, PySem.W.mg_of X G xa_NoStand, ⟨xq0_NoStand, xq1_NoStand, xq2_NoStand, xq3_NoStand, xq4_NoStand, xq5_NoStand, xq6_NoStand, xq7_NoStand⟩, .inl ⟨e_BadFeast, PySem.W.mg_of X G xa_BadFeast, Zab xo1_BadFeast xo2_BadFeast xo3_BadFeast xm_BadFeast_NoStand⟩⟩ (Zaa ⟨e_NoYear, PySem.W.mg_of X G xa_NoYear, ⟨xq0_NoYear, xq1_NoYear, xq2_NoYear, xq3_NoYear, xq4_NoYear, xq5_NoYear, xq6_NoYear, xq7_NoYear⟩, .inl ⟨e_BadFeast, PySem.W.mg_of X G xa_BadFeast, Zab xo1_BadFeast xo2_BadFeast xo3_BadFeast xm_BadFeast_NoYear⟩⟩ (Zaa ⟨e_Sealed, PySem.W.mg_of X G xa_Sealed, ⟨xq0_Sealed, xq1_Sealed, xq2_Sealed, xq3_Sealed, xq4_Sealed, xq5_Sealed, xq6_Sealed, xq7_Sealed⟩, .inl ⟨e_BadFeast, PySem.W.mg_of X G xa_BadFeast, Zab xo1_BadFeast xo2_BadFeast xo3_BadFeast xm_BadFeast_Sealed⟩⟩ (Zaa ⟨e_Taken, PySem.W.mg_of X G xa_Taken, ⟨xq0_Taken, xq1_Taken, xq2_Taken, xq3_Taken, xq4_Taken, xq5_Taken, xq6_Taken, xq7_Taken⟩, .inl ⟨e_BadFeast, PySem.W.mg_of X G xa_BadFeast, Zab xo1_BadFeast xo2_BadFeast xo3_BadFeast xm_BadFeast_Taken⟩⟩ Zaz)))))))))))),
    s_BadDay_BadFeast_BadYear_NoBack_NoDay_NoFeast_NoForth_NoOrder_NoStand_NoYear_Sealed_Taken_BadYear := (Zaa ⟨e_BadDay, PySem.W.mg_of X G xa_BadDay, ⟨xq0_BadDay, xq1_BadDay, xq2_BadDay, xq3_BadDay, xq4_BadDay, xq5_BadDay, xq6_BadDay, xq7_BadDay⟩, .inl ⟨e_BadYear, PySem.W.mg_of X G xa_BadYear, Zab xo1_BadYear xo2_BadYear xo3_BadYear xm_BadYear_BadDay⟩⟩ (Zaa ⟨e_BadFeast, PySem.W.mg_of X G xa_BadFeast, ⟨xq0_BadFeast, xq1_BadFeast, xq2_BadFeast, xq3_BadFeast, xq4_BadFeast, xq5_BadFeast, xq6_BadFeast, xq7_BadFeast⟩, .inl ⟨e_BadYear, PySem.W.mg_of X G xa_BadYear, Zab xo1_BadYear xo2_BadYear xo3_BadYear xm_BadYear_BadFeast⟩⟩ (Zaa ⟨e_BadYear, PySem.W.mg_of X G xa_BadYear, ⟨xq0_BadYear, xq1_BadYear, xq2_BadYear, xq3_BadYear, xq4_BadYear, xq5_BadYear, xq6_BadYear, xq7_BadYear⟩, .inl ⟨e_BadYear, PySem.W.mg_of X G xa_BadYear, Zab xo1_BadYear xo2_BadYear xo3_BadYear xm_BadYear_BadYear⟩⟩ (Zaa ⟨e_NoBack, PySem.W.mg_of X G xa_NoBack, ⟨xq0_NoBack, xq1_NoBack, xq2_NoBack, xq3_NoBack, xq4_NoBack, xq5_NoBack, xq6_NoBack, xq7_NoBack⟩, .inl ⟨e_BadYear, PySem.W.mg_of X G xa_BadYear, Zab xo1_BadYear xo2_BadYear xo3_BadYear xm_BadYear_NoBack⟩⟩ (Zaa ⟨e_NoDay, PySem.W.mg_of X G xa_NoDay, ⟨xq0_NoDay, xq1_NoDay, xq2_NoDay, xq3_NoDay, xq4_NoDay, xq5_NoDay, xq6_NoDay, xq7_NoDay⟩, .inl ⟨e_BadYear, PySem.W.mg_of X G xa_BadYear, Zab xo1_BadYear xo2_BadYear xo3_BadYear xm_BadYear_NoDay⟩⟩ (Zaa ⟨e_NoFeast, PySem.W.mg_of X G xa_NoFeast, ⟨xq0_NoFeast, xq1_NoFeast, xq2_NoFeast, xq3_NoFeast, xq4_NoFeast, xq5_NoFeast, xq6_NoFeast, xq7_NoFeast⟩, .inl ⟨e_BadYear, PySem.W.mg_of X G xa_BadYear, Zab xo1_BadYear xo2_BadYear xo3_BadYear xm_BadYear_NoFeast⟩⟩ (Zaa ⟨e_NoForth, PySem.W.mg_of X G xa_NoForth, ⟨xq0_NoForth, xq1_NoForth, xq2_NoForth, xq3_NoForth, xq4_NoForth, xq5_NoForth, xq6_NoForth, xq7_NoForth⟩, .inl ⟨e_BadYear, PySem.W.mg_of X G xa_BadYear, Zab xo1_BadYear xo2_BadYear xo3_BadYear xm_BadYear_NoForth⟩⟩ (Zaa ⟨e_NoOrder, PySem.W.mg_of X G xa_NoOrder, ⟨xq0_NoOrder, xq1_NoOrder, xq2_NoOrder, xq3_NoOrder, xq4_NoOrder, xq5_NoOrder, xq6_NoOrder, xq7_NoOrder⟩, .inl ⟨e_BadYear, PySem.W.mg_of X G xa_BadYear, Zab xo1_BadYear xo2_BadYear xo3_BadYear xm_BadYear_NoOrder⟩⟩ (Zaa ⟨e_NoStand, PySem.W.mg_of X G xa_NoStand, ⟨xq0_NoStand, xq1_NoStand, xq2_NoStand, xq3_NoStand, xq4_NoStand, xq5_NoStand, xq6_NoStand, xq7_NoStand⟩, .inl ⟨e_BadYear, PySem.W.mg_of X G xa_BadYear, Zab xo1_BadYear xo2_BadYear xo3_BadYear xm_BadYear_NoStand⟩⟩ (Zaa ⟨e_NoYear, PySem.W.mg_of X G xa_NoYear, ⟨xq0_NoYear, xq1_NoYear, xq2_NoYear, xq3_NoYear, xq4_NoYear, xq5_NoYear, xq6_NoYear, xq7_NoYear⟩, .inl ⟨e_BadYear, PySem.W.mg_of X G xa_BadYear, Zab xo1_BadYear xo2_BadYear xo3_BadYear xm_BadYear_NoYear⟩⟩ (Zaa ⟨e_Sealed, PySem.W.mg_of X G xa_Sealed, ⟨xq0_Sealed, xq1_Sealed, xq2_Sealed, xq3_Sealed, xq4_Sealed, xq5_Sealed, xq6_Sealed, xq7_Sealed⟩, .inl ⟨e_BadYear, PySem.W.mg_of X G xa_BadYear, Zab xo1_BadYear xo2_BadYear xo3_BadYear xm_BadYear_Sealed⟩⟩ (Zaa ⟨e_Taken, PySem.W.mg_of X G xa_Taken, ⟨xq0_Taken, xq1_Taken, xq2_Taken, xq3_Taken, xq4_Taken, xq5_Taken, xq6_Taken, xq7_Taken⟩, .inl ⟨e_BadYear, PySem.W.mg_of X G xa_BadYear, Zab xo1_BadYear xo2_BadYear xo3_BadYear xm_BadYear_Taken⟩⟩ Zaz)))))))))))),
    s_BadDay_BadFeast_BadYear_NoBack_NoDay_NoFeast_NoForth_NoOrder_NoStand_NoYear_Sealed_Taken_FeastError := (Zaa ⟨e_BadDay, PySem.W.mg_of X G xa_BadDay, ⟨xq0_BadDay, xq1_BadDay, xq2_BadDay, xq3_BadDay, xq4_BadDay, xq5_BadDay, xq6_BadDay, xq7_BadDay⟩, .inl ⟨e_FeastError, PySem.W.mg_of X G xa_FeastError, Zab xo1_FeastError xo2_FeastError xo3_FeastError xm_FeastError_BadDay⟩⟩ (Zaa ⟨e_BadFeast, PySem.W.mg_of X G xa_BadFeast, ⟨xq0_BadFeast, xq1_BadFeast, xq2_BadFeast, xq3_BadFeast, xq4_BadFeast, xq5_BadFeast, xq6_BadFeast, xq7_BadFeast⟩, .inl ⟨e_FeastError, PySem.W.mg_of X G xa_FeastError, Zab xo1_FeastError xo2_FeastError xo3_FeastError xm_FeastError_BadFeast⟩⟩ (Zaa ⟨e_BadYear, PySem.W.mg_of X G xa_BadYear, ⟨xq0_BadYear, xq1_BadYear, xq2_BadYear, xq3_BadYear, xq4_BadYear, xq5_BadYear, xq6_BadYear, xq7_BadYear⟩, .inl ⟨e_FeastError, PySem.W.mg_of X G xa_FeastError, Zab xo1_FeastError xo2_FeastError xo3_FeastError xm_FeastError_BadYear⟩⟩ (Zaa ⟨e_NoBack, PySem.W.mg_of X G xa_NoBack, ⟨xq0_NoBack, xq1_NoBack, xq2_NoBack, xq3_NoBack, xq4_NoBack, xq5_NoBack, xq6_NoBack, xq7_NoBack⟩, .inl ⟨e_FeastError, PySem.W.mg_of X G xa_FeastError, Zab xo1_FeastError xo2_FeastError xo3_FeastError xm_FeastError_NoBack⟩⟩ (Zaa ⟨e_NoDay, PySem.W.mg_of X G xa_NoDay, ⟨xq0_NoDay, xq1_NoDay, xq2_NoDay, xq3_NoDay, xq4_NoDay, xq5_NoDay, xq6_NoDay, xq7_NoDay⟩, .inl ⟨e_FeastError, PySem.W.mg_of X G xa_FeastError, Zab xo1_FeastError xo2_FeastError xo3_FeastError xm_FeastError_NoDay⟩⟩ (Zaa ⟨e_NoFeast, PySem.W.mg_of X G xa_NoFeast, ⟨xq0_NoFeast, xq1_NoFeast, xq2_NoFeast, xq3_NoFeast, xq4_NoFeast, xq5_NoFeast, xq6_NoFeast, xq7_NoFeast⟩, .inl ⟨e_FeastError, PySem.W.mg_of X G xa_FeastError, Zab xo1_FeastError xo2_FeastError xo3_FeastError xm_FeastError_NoFeast⟩⟩ (Zaa ⟨e_NoForth, PySem.W.mg_of X G xa_NoForth, ⟨xq0_NoForth, xq1_NoForth, xq2_NoForth, xq3_NoForth, xq4_NoForth, xq5_NoForth, xq6_NoForth, xq7_NoForth⟩, .inl ⟨e_FeastError, PySem.W.mg_of X G xa_FeastError, Zab xo1_FeastError xo2_FeastError xo3_FeastError xm_FeastError_NoForth⟩⟩ (Zaa ⟨e_NoOrder, PySem.W.mg_of X G xa_NoOrder, ⟨xq0_NoOrder, xq1_NoOrder, xq2_NoOrder, xq3_NoOrder, xq4_NoOrder, xq5_NoOrder, xq6_NoOrder, xq7_NoOrder⟩, .inl ⟨e_FeastError, PySem.W.mg_of X G xa_FeastError, Zab xo1_FeastError xo2_FeastError xo3_FeastError xm_FeastError_NoOrder⟩⟩ (Zaa ⟨e_NoStand, PySem.W.mg_of X G xa_NoStand, ⟨xq0_NoStand, xq1_NoStand, xq2_NoStand, xq3_NoStand, xq4_NoStand, xq5_NoStand, xq6_NoStand, xq7_NoStand⟩, .inl ⟨e_FeastError, PySem.W.mg_of X G xa_FeastError, Zab xo1_FeastError xo2_FeastError xo3_FeastError xm_FeastError_NoStand⟩⟩ (Zaa ⟨e_NoYear, PySem.W.mg_of X G xa_NoYear, ⟨xq0_NoYear, xq1_NoYear, xq2_NoYear, xq3_NoYear, xq4_NoYear, xq5_NoYear, xq6_NoYear, xq7_NoYear⟩, .inl ⟨e_FeastError, PySem.W.mg_of X G xa_FeastError, Zab xo1_FeastError xo2_FeastError xo3_FeastError xm_FeastError_NoYear⟩⟩ (Zaa ⟨e_Sealed, PySem.W.mg_of X G xa_Sealed, ⟨xq0_Sealed, xq1_Sealed, xq2_Sealed, xq3_Sealed, xq4_Sealed, xq5_Sealed, xq6_Sealed, xq7_Sealed⟩, .inl ⟨e_FeastError, PySem.W.mg_of X G xa_FeastError, Zab xo1_FeastError xo2_FeastError xo3_FeastError xm_FeastError_Sealed⟩⟩ (Zaa ⟨e_Taken, PySem.W.mg_of X G xa_Taken, ⟨xq0_Taken, xq1_Taken, xq2_Taken, xq3_Taken, xq4_Taken, xq5_Taken, xq6_Taken, xq7_Taken⟩, .inl ⟨e_FeastError, PySem.W.mg_of X G xa_FeastError, Zab xo1_FeastError xo2_FeastError xo3_FeastError xm_FeastError_Taken⟩⟩ Zaz)))))))))))),
    s_BadDay_BadFeast_BadYear_NoBack_NoDay_NoFeast_NoForth_NoOrder_NoStand_NoYear_Sealed_Taken_IndexError := (Zaa ⟨e_BadDay, PySem.W.mg_of X G xa_BadDay, ⟨xq0_BadDay, xq1_BadDay, xq2_BadDay, xq3_BadDay, xq4_BadDay, xq5_BadDay, xq6_BadDay, xq7_BadDay⟩, .inr ⟨"IndexError", PySem.W.mg_none_of X G z_IndexError, by decide +kernel, by decide, Zag (by decide +kernel) xs_BadDay_IndexError⟩⟩ (Zaa ⟨e_BadFeast, PySem.W.mg_of X G xa_BadFeast, ⟨xq0_BadFeast, xq1_BadFeast, xq2_BadFeast, xq3_BadFeast, xq4_BadFeast, xq5_BadFeast, xq6_BadFeast, xq7_BadFeast⟩, .inr ⟨"IndexError", PySem.W.mg_none_of X G z_IndexError, by decide +kernel, by decide, Zag (by decide +kernel) xs_BadFeast_IndexError⟩⟩ (Zaa ⟨e_BadYear, PySem.W.mg_of X G xa_BadYear, ⟨xq0_BadYear, xq1_BadYear, xq2_BadYear, xq3_BadYear, xq4_BadYear, xq5_BadYear, xq6_BadYear, xq7_BadYear⟩, .inr ⟨"IndexError", PySem.W.mg_none_of X G z_IndexError, by decide +kernel, by decide, Zag (by decide +kernel) xs_BadYear_IndexError⟩⟩ (Zaa ⟨e_NoBack, PySem.W.mg_of X G xa_NoBack, ⟨xq0_NoBack, xq1_NoBack, xq2_NoBack, xq3_NoBack, xq4_NoBack, xq5_NoBack, xq6_NoBack, xq7_NoBack⟩, .inr ⟨"IndexError", PySem.W.mg_none_of X G z_IndexError, by decide +kernel, by decide, Zag (by decide +kernel) xs_NoBack_IndexError⟩⟩ (Zaa ⟨e_NoDay, PySem.W.mg_of X G xa_NoDay, ⟨xq0_NoDay, xq1_NoDay, xq2_NoDay, xq3_NoDay, xq4_NoDay, xq5_NoDay, xq6_NoDay, xq7_NoDay⟩, .inr ⟨"IndexError", PySem.W.mg_none_of X G z_IndexError, by decide +kernel, by decide, Zag (by decide +kernel) xs_NoDay_IndexError⟩⟩ (Zaa ⟨e_NoFeast, PySem.W.mg_of X G xa_NoFeast, ⟨xq0_NoFeast, xq1_NoFeast, xq2_NoFeast, xq3_NoFeast, xq4_NoFeast, xq5_NoFeast, xq6_NoFeast, xq7_NoFeast⟩, .inr ⟨"IndexError", PySem.W.mg_none_of X G z_IndexError, by decide +kernel, by decide, Zag (by decide +kernel) xs_NoFeast_IndexError⟩⟩ (Zaa ⟨e_NoForth, PySem.W.mg_of X G xa_NoForth, ⟨xq0_NoForth, xq1_NoForth, xq2_NoForth, xq3_NoForth, xq4_NoForth, xq5_NoForth, xq6_NoForth, xq7_NoForth⟩, .inr ⟨"IndexError", PySem.W.mg_none_of X G z_IndexError, by decide +kernel, by decide, Zag (by decide +kernel) xs_NoForth_IndexError⟩⟩ (Zaa ⟨e_NoOrder, PySem.W.mg_of X G xa_NoOrder, ⟨xq0_NoOrder, xq1_NoOrder, xq2_NoOrder, xq3_NoOrder, xq4_NoOrder, xq5_NoOrder, xq6_NoOrder, xq7_NoOrder⟩, .inr ⟨"IndexError", PySem.W.mg_none_of X G z_IndexError, by decide +kernel, by decide, Zag (by decide +kernel) xs_NoOrder_IndexError⟩⟩ (Zaa ⟨e_NoStand, PySem.W.mg_of X G xa_NoStand, ⟨xq0_NoStand, xq1_NoStand, xq2_NoStand, xq3_NoStand, xq4_NoStand, xq5_NoStand, xq6_NoStand, xq7_NoStand⟩, .inr ⟨"IndexError", PySem.W.mg_none_of X G z_IndexError, by decide +kernel, by decide, Zag (by decide +kernel) xs_NoStand_IndexError⟩⟩ (Zaa ⟨e_NoYear, PySem.W.mg_of X G xa_NoYear, ⟨xq0_NoYear, xq1_NoYear, xq2_NoYear, xq3_NoYear, xq4_NoYear, xq5_NoYear, xq6_NoYear, xq7_NoYear⟩, .inr ⟨"IndexError", PySem.W.mg_none_of X G z_IndexError, by decide +kernel, by decide, Zag (by decide +kernel) xs_NoYear_IndexError⟩⟩ (Zaa ⟨e_Sealed, PySem.W.mg_of X G xa_Sealed, ⟨xq0_Sealed, xq1_Sealed, xq2_Sealed, xq3_Sealed, xq4_Sealed, xq5_Sealed, xq6_Sealed, xq7_Sealed⟩, .inr ⟨"IndexError", PySem.W.mg_none_of X G z_IndexError, by decide +kernel, by decide, Zag (by decide +kernel) xs_Sealed_IndexError⟩⟩ (Zaa ⟨e_Taken, PySem.W.mg_of X G xa_Taken, ⟨xq0_Taken, xq1_Taken, xq2_Taken, xq3_Taken, xq4_Taken, xq5_Taken, xq6_Taken, xq7_Taken⟩, .inr ⟨"IndexError", PySem.W.mg_none_of X G z_IndexError, by decide +kernel, by decide, Zag (by decide +kernel) xs_Taken_IndexError⟩⟩ Zaz)))))))))))),
    s_BadDay_BadFeast_BadYear_NoBack_NoDay_NoFeast_NoForth_NoOrder_NoStand_NoYear_Sealed_Taken_KeyError := (Zaa ⟨e_BadDay, PySem.W.mg_of X G xa_BadDay, ⟨xq0_BadDay, xq1_BadDay, xq2_BadDay, xq3_BadDay, xq4_BadDay, xq5_BadDay, xq6_BadDay, xq7_BadDay⟩, .inr ⟨"KeyError", PySem.W.mg_none_of X G z_KeyError, by decide +kernel, by decide, Zag (by decide +kernel) xs_BadDay_KeyError⟩⟩ (Zaa ⟨e_BadFeast, PySem.W.mg_of X G xa_BadFeast, ⟨xq0_BadFeast, xq1_BadFeast, xq2_BadFeast, xq3_BadFeast, xq4_BadFeast, xq5_BadFeast, xq6_BadFeast, xq7_BadFeast⟩, .inr ⟨"KeyError", PySem.W.mg_none_of X G z_KeyError, by decide +kernel, by decide, Zag (by decide +kernel) xs_BadFeast_KeyError⟩⟩ (Zaa ⟨e_BadYear, PySem.W.mg_of X G xa_BadYear, ⟨xq0_BadYear, xq1_BadYear, xq2_BadYear, xq3_BadYear, xq4_BadYear, xq5_BadYear, xq6_BadYear, xq7_BadYear⟩, .inr ⟨"KeyError", PySem.W.mg_none_of X G z_KeyError, by decide +kernel, by decide, Zag (by decide +kernel) xs_BadYear_KeyError⟩⟩ (Zaa ⟨e_NoBack, PySem.W.mg_of X G xa_NoBack, ⟨xq0_NoBack, xq1_NoBack, xq2_NoBack, xq3_NoBack, xq4_NoBack, xq5_NoBack, xq6_NoBack, xq7_NoBack⟩, .inr ⟨"KeyError", PySem.W.mg_none_of X G z_KeyError, by decide +kernel, by decide, Zag (by decide +kernel) xs_NoBack_KeyError⟩⟩ (Zaa ⟨e_NoDay, PySem.W.mg_of X G xa_NoDay, ⟨xq0_NoDay, xq1_NoDay, xq2_NoDay, xq3_NoDay, xq4_NoDay, xq5_NoDay, xq6_NoDay, xq7_NoDay⟩, .inr ⟨"KeyError", PySem.W.mg_none_of X G z_KeyError, by decide +kernel, by decide, Zag (by decide +kernel) xs_NoDay_KeyError⟩⟩ (Zaa ⟨e_NoFeast, PySem.W.mg_of X G xa_NoFeast, ⟨xq0_NoFeast, xq1_NoFeast, xq2_NoFeast, xq3_NoFeast, xq4_NoFeast, xq5_NoFeast, xq6_NoFeast, xq7_NoFeast⟩, .inr ⟨"KeyError", PySem.W.mg_none_of X G z_KeyError, by decide +kernel, by decide, Zag (by decide +kernel) xs_NoFeast_KeyError⟩⟩ (Zaa ⟨e_NoForth, PySem.W.mg_of X G xa_NoForth, ⟨xq0_NoForth, xq1_NoForth, xq2_NoForth, xq3_NoForth, xq4_NoForth, xq5_NoForth, xq6_NoForth, xq7_NoForth⟩, .inr ⟨"KeyError", PySem.W.mg_none_of X G z_KeyError, by decide +kernel, by decide, Zag (by decide +kernel) xs_NoForth_KeyError⟩⟩ (Zaa ⟨e_NoOrder, PySem.W.mg_of X G xa_NoOrder, ⟨xq0_NoOrder, xq1_NoOrder, xq2_NoOrder, xq3_NoOrder, xq4_NoOrder, xq5_NoOrder, xq6_NoOrder, xq7_NoOrder⟩, .inr ⟨"KeyError", PySem.W.mg_none_of X G z_KeyError, by decide +kernel, by decide, Zag (by decide +kernel) xs_NoOrder_KeyError⟩⟩ (Zaa ⟨e_NoStand, PySem.W.mg_of X G xa_NoStand, ⟨xq0_NoStand, xq1_NoStand, xq2_NoStand, xq3_NoStand, xq4_NoStand, xq5_NoStand, xq6_NoStand, xq7_NoStand⟩, .inr ⟨"KeyError", PySem.W.mg_none_of X G z_KeyError, by decide +kernel, by decide, Zag (by decide +kernel) xs_NoStand_KeyError⟩⟩ (Zaa ⟨e_NoYear, PySem.W.mg_of X G xa_NoYear, ⟨xq0_NoYear, xq1_NoYear, xq2_NoYear, xq3_NoYear, xq4_NoYear, xq5_NoYear, xq6_NoYear, xq7_NoYear⟩, .inr ⟨"KeyError", PySem.W.mg_none_of X G z_KeyError, by decide +kernel, by decide, Zag (by decide +kernel) xs_NoYear_KeyError⟩⟩ (Zaa ⟨e_Sealed, PySem.W.mg_of X G xa_Sealed, ⟨xq0_Sealed, xq1_Sealed, xq2_Sealed, xq3_Sealed, xq4_Sealed, xq5_Sealed, xq6_Sealed, xq7_Sealed⟩, .inr ⟨"KeyError", PySem.W.mg_none_of X G z_KeyError, by decide +kernel, by decide, Zag (by decide +kernel) xs_Sealed_KeyError⟩⟩ (Zaa ⟨e_Taken, PySem.W.mg_of X G xa_Taken, ⟨xq0_Taken, xq1_Taken, xq2_Taken, xq3_Taken, xq4_Taken, xq5_Taken, xq6_Taken, xq7_Taken⟩, .inr ⟨"KeyError", PySem.W.mg_none_of X G z_KeyError, by decide +kernel, by decide, Zag (by decide +kernel) xs_Taken_KeyError⟩⟩ Zaz)))))))))))),
    s_BadDay_BadFeast_BadYear_NoBack_NoDay_NoFeast_NoForth_NoOrder_NoStand_NoYear_Sealed_Taken_NoBack := (Zaa ⟨e_BadDay, PySem.W.mg_of X G xa_BadDay, ⟨xq0_BadDay, xq1_BadDay, xq2_BadDay, xq3_BadDay, xq4_BadDay, xq5_BadDay, xq6_BadDay, xq7_BadDay⟩, .inl ⟨e_NoBack, PySem.W.mg_of X G xa_NoBack, Zab xo1_NoBack xo2_NoBack xo3_NoBack xm_NoBack_BadDay⟩⟩ (Zaa ⟨e_BadFeast, PySem.W.mg_of X G xa_BadFeast, ⟨xq0_BadFeast, xq1_BadFeast, xq2_BadFeast, xq3_BadFeast, xq4_BadFeast, xq5_BadFeast, xq6_BadFeast, xq7_BadFeast⟩, .inl ⟨e_NoBack, PySem.W.mg_of X G xa_NoBack, Zab xo1_NoBack xo2_NoBack xo3_NoBack xm_NoBack_BadFeast⟩⟩ (Zaa ⟨e_BadYear, PySem.W.mg_of X G xa_BadYear, ⟨xq0_BadYear, xq1_BadYear, xq2_BadYear, xq3_BadYear, xq4_BadYear, xq5_BadYear, xq6_BadYear, xq7_BadYear⟩, .inl ⟨e_NoBack, PySem.W.mg_of X G xa_NoBack, Zab xo1_NoBack xo2_NoBack xo3_NoBack xm_NoBack_BadYear⟩⟩ (Zaa ⟨e_NoBack, PySem.W.mg_of X G xa_NoBack, ⟨xq0_NoBack, xq1_NoBack, xq2_NoBack, xq3_NoBack, xq4_NoBack, xq5_NoBack, xq6_NoBack, xq7_NoBack⟩, .inl ⟨e_NoBack, PySem.W.mg_of X G xa_NoBack, Zab xo1_NoBack xo2_NoBack xo3_NoBack xm_NoBack_NoBack⟩⟩ (Zaa ⟨e_NoDay, PySem.W.mg_of X G xa_NoDay, ⟨xq0_NoDay, xq1_NoDay, xq2_NoDay, xq3_NoDay, xq4_NoDay, xq5_NoDay, xq6_NoDay, xq7_NoDay⟩, .inl ⟨e_NoBack, PySem.W.mg_of X G xa_NoBack, Zab xo1_NoBack xo2_NoBack xo3_NoBack xm_NoBack_NoDay⟩⟩ (Zaa ⟨e_NoFeast, PySem.W.mg_of X G xa_NoFeast, ⟨xq0_NoFeast, xq1_NoFeast, xq2_NoFeast, xq3_NoFeast, xq4_NoFeast, xq5_NoFeast, xq6_NoFeast, xq7_NoFeast⟩, .inl ⟨e_NoBack, PySem.W.mg_of X G xa_NoBack, Zab xo1_NoBack xo2_NoBack xo3_NoBack xm_NoBack_NoFeast⟩⟩ (Zaa ⟨e_NoForth, PySem.W.mg_of X G xa_NoForth, ⟨xq0_NoForth, xq1_NoForth, xq2_NoForth, xq3_NoForth, xq4_NoForth, xq5_NoForth, xq6_NoForth, xq7_NoForth⟩, .inl ⟨e_NoBack, PySem.W.mg_of X G xa_NoBack, Zab xo1_NoBack xo2_NoBack xo3_NoBack xm_NoBack_NoForth⟩⟩ (Zaa ⟨e_NoOrder, PySem.W.mg_of X G xa_NoOrder, ⟨xq0_NoOrder, xq1_NoOrder, xq2_NoOrder, xq3_NoOrder, xq4_NoOrder, xq5_NoOrder, xq6_NoOrder, xq7_NoOrder⟩, .inl ⟨e_NoBack, PySem.W.mg_of X G xa_NoBack, Zab xo1_NoBack xo2_NoBack xo3_NoBack xm_NoBack_NoOrder⟩⟩ (Zaa ⟨e_NoStand, PySem.W.mg_of X G xa_NoStand, ⟨xq0_NoStand, xq1_NoStand, xq2_NoStand, xq3_NoStand, xq4_NoStand, xq5_NoStand, xq6_NoStand, xq7_NoStand⟩, .inl ⟨e_NoBack, PySem.W.mg_of X G xa_NoBack, Zab xo1_NoBack xo2_NoBack xo3_NoBack xm_NoBack_NoStand⟩⟩ (Zaa ⟨e_NoYear, PySem.W.mg_of X G xa_NoYear, ⟨xq0_NoYear, xq1_NoYear, xq2_NoYear, xq3_NoYear, xq4_NoYear, xq5_NoYear, xq6_NoYear, xq7_NoYear⟩, .inl ⟨e_NoBack, PySem.W.mg_of X G xa_NoBack, Zab xo1_NoBack xo2_NoBack xo3_NoBack xm_NoBack_NoYear⟩⟩ (Zaa ⟨e_Sealed, PySem.W.mg_of X G xa_Sealed, ⟨xq0_Sealed, xq1_Sealed, xq2_Sealed, xq3_Sealed, xq4_Sealed, xq5_Sealed, xq6_Sealed, xq7_Sealed⟩, .inl ⟨e_NoBack, PySem.W.mg_of X G xa_NoBack, Zab xo1_NoBack xo2_NoBack xo3_NoBack xm_NoBack_Sealed⟩⟩ (Zaa ⟨e_Taken, PySem.W.mg_of X G xa_Taken, ⟨xq0_Taken, xq1_Taken, xq2_Taken, xq3_Taken, xq4_Taken, xq5_Taken, xq6_Taken, xq7_Taken⟩, .inl ⟨e_NoBack, PySem.W.mg_of X G xa_NoBack, Zab xo1_NoBack xo2_NoBack xo3_NoBack xm_NoBack_Taken⟩⟩ Zaz)))))))))))),
    s_BadDay_BadFeast_BadYear_NoBack_NoDay_NoFeast_NoForth_NoOrder_NoStand_NoYear_Sealed_Taken_NoDay := (Zaa ⟨e_BadDay, PySem.W.mg_of X G xa_BadDay, ⟨xq0_BadDay, xq1_BadDay, xq2_BadDay, xq3_BadDay, xq4_BadDay, xq5_BadDay, xq6_BadDay, xq7_BadDay⟩, .inl ⟨e_NoDay, PySem.W.mg_of X G xa_NoDay, Zab xo1_NoDay xo2_NoDay xo3_NoDay xm_NoDay_BadDay⟩⟩ (Zaa ⟨e_BadFeast, PySem.W.mg_of X G xa_BadFeast, ⟨xq0_BadFeast, xq1_BadFeast, xq2_BadFeast, xq3_BadFeast, xq4_BadFeast, xq5_BadFeast, xq6_BadFeast, xq7_BadFeast⟩, .inl ⟨e_NoDay, PySem.W.mg_of X G xa_NoDay, Zab xo1_NoDay xo2_NoDay xo3_NoDay xm_NoDay_BadFeast⟩⟩ (Zaa ⟨e_BadYear, PySem.W.mg_of X G xa_BadYear, ⟨xq0_BadYear, xq1_BadYear, xq2_BadYear, xq3_BadYear, xq4_BadYear, xq5_BadYear, xq6_BadYear, xq7_BadYear⟩, .inl ⟨e_NoDay, PySem.W.mg_of X G xa_NoDay, Zab xo1_NoDay xo2_NoDay xo3_NoDay xm_NoDay_BadYear⟩⟩ (Zaa ⟨e_NoBack, PySem.W.mg_of X G xa_NoBack, ⟨xq0_NoBack, xq1_NoBack, xq2_NoBack, xq3_NoBack, xq4_NoBack, xq5_NoBack, xq6_NoBack, xq7_NoBack⟩, .inl ⟨e_NoDay, PySem.W.mg_of X G xa_NoDay, Zab xo1_NoDay xo2_NoDay xo3_NoDay xm_NoDay_NoBack⟩⟩ (Zaa ⟨e_NoDay, PySem.W.mg_of X G xa_NoDay, ⟨xq0_NoDay, xq1_NoDay, xq2_NoDay, xq3_NoDay, xq4_NoDay, xq5_NoDay, xq6_NoDay, xq7_NoDay⟩, .inl ⟨e_NoDay, PySem.W.mg_of X G xa_NoDay, Zab xo1_NoDay xo2_NoDay xo3_NoDay xm_NoDay_NoDay⟩⟩ (Zaa ⟨e_NoFeast, PySem.W.mg_of X G xa_NoFeast, ⟨xq0_NoFeast, xq1_NoFeast, xq2_NoFeast, xq3_NoFeast, xq4_NoFeast, xq5_NoFeast, xq6_NoFeast, xq7_NoFeast⟩, .inl ⟨e_NoDay, PySem.W.mg_of X G xa_NoDay, Zab xo1_NoDay xo2_NoDay xo3_NoDay xm_NoDay_NoFeast⟩⟩ (Zaa ⟨e_NoForth, PySem.W.mg_of X G xa_NoForth, ⟨xq0_NoForth, xq1_NoForth, xq2_NoForth, xq3_NoForth, xq4_NoForth, xq5_NoForth, xq6_NoForth, xq7_NoForth⟩, .inl ⟨e_NoDay, PySem.W.mg_of X G xa_NoDay, Zab xo1_NoDay xo2_NoDay xo3_NoDay xm_NoDay_NoForth⟩⟩ (Zaa ⟨e_NoOrder, PySem.W.mg_of X G xa_NoOrder, ⟨xq0_NoOrder, xq1_NoOrder, xq2_NoOrder, xq3_NoOrder, xq4_NoOrder, xq5_NoOrder, xq6_NoOrder, xq7_NoOrder⟩, .inl ⟨e_NoDay, PySem.W.mg_of X G xa_NoDay, Zab xo1_NoDay xo2_NoDay xo3_NoDay xm_NoDay_NoOrder⟩⟩ (Zaa ⟨e_NoStand, PySem.W.mg_of X G xa_NoStand, ⟨xq0_NoStand, xq1_NoStand, xq2_NoStand, xq3_NoStand, xq4_NoStand, xq5_NoStand, xq6_NoStand, xq7_NoStand⟩, .inl ⟨e_NoDay, PySem.W.mg_of X G xa_NoDay, Zab xo1_NoDay xo2_NoDay xo3_NoDay xm_NoDay_NoStand⟩⟩ (Zaa ⟨e_NoYear, PySem.W.mg_of X G xa_NoYear, ⟨xq0_NoYear, xq1_NoYear, xq2_NoYear, xq3_NoYear, xq4_NoYear, xq5_NoYear, xq6_NoYear, xq7_NoYear⟩, .inl ⟨e_NoDay, PySem.W.mg_of X G xa_NoDay, Zab xo1_NoDay xo2_NoDay xo3_NoDay xm_NoDay_NoYear⟩⟩ (Zaa ⟨e_Sealed, PySem.W.mg_of X G xa_Sealed, ⟨xq0_Sealed, xq1_Sealed, xq2_Sealed, xq3_Sealed, xq4_Sealed, xq5_Sealed, xq6_Sealed, xq7_Sealed⟩, .inl ⟨e_NoDay, PySem.W.mg_of X G xa_NoDay, Zab xo1_NoDay xo2_NoDay xo3_NoDay xm_NoDay_Sealed⟩⟩ (Zaa ⟨e_Taken, PySem.W.mg_of X G xa_Taken, ⟨xq0_Taken, xq1_Taken, xq2_Taken, xq3_Taken, xq4_Taken, xq5_Taken, xq6_Taken, xq7_Taken⟩, .inl ⟨e_NoDay, PySem.W.mg_of X G xa_NoDay, Zab xo1_NoDay xo2_NoDay xo3_NoDay xm_NoDay_Taken⟩⟩ Zaz)))))))))))),
    s_BadDay_BadFeast_BadYear_NoBack_NoDay_NoFeast_NoForth_NoOrder_NoStand_NoYear_Sealed_Taken_NoFeast := (Zaa ⟨e_BadDay, PySem.W.mg_of X G xa_BadDay, ⟨xq0_BadDay, xq1_BadDay, xq2_BadDay, xq3_BadDay, xq4_BadDay, xq5_BadDay, xq6_BadDay, xq7_BadDay⟩, .inl ⟨e_NoFeast, PySem.W.mg_of X G xa_NoFeast, Zab xo1_NoFeast xo2_NoFeast xo3_NoFeast xm_NoFeast_BadDay⟩⟩ (Zaa ⟨e_BadFeast, PySem.W.mg_of X G xa_BadFeast, ⟨xq0_BadFeast, xq1_BadFeast, xq2_BadFeast, xq3_BadFeast, xq4_BadFeast, xq5_BadFeast, xq6_BadFeast, xq7_BadFeast⟩, .inl ⟨e_NoFeast, PySem.W.mg_of X G xa_NoFeast, Zab xo1_NoFeast xo2_NoFeast xo3_NoFeast xm_NoFeast_BadFeast⟩⟩ (Zaa ⟨e_BadYear, PySem.W.mg_of X G xa_BadYear, ⟨xq0_BadYear, xq1_BadYear, xq2_BadYear, xq3_BadYear, xq4_BadYear, xq5_BadYear, xq6_BadYear, xq7_BadYear⟩, .inl ⟨e_NoFeast, PySem.W.mg_of X G xa_NoFeast, Zab xo1_NoFeast xo2_NoFeast xo3_NoFeast xm_NoFeast_BadYear⟩⟩ (Zaa ⟨e_NoBack, PySem.W.mg_of X G xa_NoBack, ⟨xq0_NoBack, xq1_NoBack, xq2_NoBack, xq3_NoBack, xq4_NoBack, xq5_NoBack, xq6_NoBack, xq7_NoBack⟩, .inl ⟨e_NoFeast, PySem.W.mg_of X G xa_NoFeast, Zab xo1_NoFeast xo2_NoFeast xo3_NoFeast xm_NoFeast_NoBack⟩⟩ (Zaa ⟨e_NoDay, PySem.W.mg_of X G xa_NoDay, ⟨xq0_NoDay, xq1_NoDay, xq2_NoDay, xq3_NoDay, xq4_NoDay, xq5_NoDay, xq6_NoDay, xq7_NoDay⟩, .inl ⟨e_NoFeast, PySem.W.mg_of X G xa_NoFeast, Zab xo1_NoFeast xo2_NoFeast xo3_NoFeast xm_NoFeast_NoDay⟩⟩ (Zaa ⟨e_NoFeast, PySem.W.mg_of X G xa_NoFeast, ⟨xq0_NoFeast, xq1_NoFeast, xq2_NoFeast, xq3_NoFeast, xq4_NoFeast, xq5_NoFeast, xq6_NoFeast, xq7_NoFeast⟩, .inl ⟨e_NoFeast, PySem.W.mg_of X G xa_NoFeast, Zab xo1_NoFeast xo2_NoFeast xo3_NoFeast xm_NoFeast_NoFeast⟩⟩ (Zaa ⟨e_NoForth, PySem.W.mg_of X G xa_NoForth, ⟨xq0_NoForth, xq1_NoForth, xq2_NoForth, xq3_NoForth, xq4_NoForth, xq5_NoForth, xq6_NoForth, xq7_NoForth⟩, .inl ⟨e_NoFeast, PySem.W.mg_of X G xa_NoFeast, Zab xo1_NoFeast xo2_NoFeast xo3_NoFeast xm_NoFeast_NoForth⟩⟩ (Zaa ⟨e_NoOrder, PySem.W.mg_of X G xa_NoOrder, ⟨xq0_NoOrder, xq1_NoOrder, xq2_NoOrder, xq3_NoOrder, xq4_NoOrder, xq5_NoOrder, xq6_NoOrder, xq7_NoOrder⟩, .inl ⟨e_NoFeast, PySem.W.mg_of X G xa_NoFeast, Zab xo1_NoFeast xo2_NoFeast xo3_NoFeast xm_NoFeast_NoOrder⟩⟩ (Zaa ⟨e_NoStand, PySem.W.mg_of X G xa_NoStand, ⟨xq0_NoStand, xq1_NoStand, xq2_NoStand, xq3_NoStand, xq4_NoStand, xq5_NoStand, xq6_NoStand, xq7_NoStand⟩, .inl ⟨e_NoFeast, PySem.W.mg_of X G xa_NoFeast, Zab xo1_NoFeast xo2_NoFeast xo3_NoFeast xm_NoFeast_NoStand⟩⟩ (Zaa ⟨e_NoYear, PySem.W.mg_of X G xa_NoYear, ⟨xq0_NoYear, xq1_NoYear, xq2_NoYear, xq3_NoYear, xq4_NoYear, xq5_NoYear, xq6_NoYear, xq7_NoYear⟩, .inl ⟨e_NoFeast, PySem.W.mg_of X G xa_NoFeast, Zab xo1_NoFeast xo2_NoFeast xo3_NoFeast xm_NoFeast_NoYear⟩⟩ (Zaa ⟨e_Sealed, PySem.W.mg_of X G xa_Sealed, ⟨xq0_Sealed, xq1_Sealed, xq2_Sealed, xq3_Sealed, xq4_Sealed, xq5_Sealed, xq6_Sealed, xq7_Sealed⟩, .inl ⟨e_NoFeast, PySem.W.mg_of X G xa_NoFeast, Zab xo1_NoFeast xo2_NoFeast xo3_NoFeast xm_NoFeast_Sealed⟩⟩ (Zaa ⟨e_Taken, PySem.W.mg_of X G xa_Taken, ⟨xq0_Taken, xq1_Taken, xq2_Taken, xq3_Taken, xq4_Taken, xq5_Taken, xq6_Taken, xq7_Taken⟩, .inl ⟨e_NoFeast, PySem.W.mg_of X G xa_NoFeast, Zab xo1_NoFeast xo2_NoFeast xo3_NoFeast xm_NoFeast_Taken⟩⟩ Zaz)))))))))))),
    s_BadDay_BadFeast_BadYear_NoBack_NoDay_NoFeast_NoForth_NoOrder_NoStand_NoYear_Sealed_Taken_NoForth := (Zaa ⟨e_BadDay, PySem.W.mg_of X G xa_BadDay, ⟨xq0_BadDay, xq1_BadDay, xq2_BadDay, xq3_BadDay, xq4_BadDay, xq5_BadDay, xq6_BadDay, xq7_BadDay⟩, .inl ⟨e_NoForth, PySem.W.mg_of X G xa_NoForth, Zab xo1_NoForth xo2_NoForth xo3_NoForth xm_NoForth_BadDay⟩⟩ (Zaa ⟨e_BadFeast, PySem.W.mg_of X G xa_BadFeast, ⟨xq0_BadFeast, xq1_BadFeast, xq2_BadFeast, xq3_BadFeast, xq4_BadFeast, xq5_BadFeast, xq6_BadFeast, xq7_BadFeast⟩, .inl ⟨e_NoForth, PySem.W.mg_of X G xa_NoForth, Zab xo1_NoForth xo2_NoForth xo3_NoForth xm_NoForth_BadFeast⟩⟩ (Zaa ⟨e_BadYear, PySem.W.mg_of X G xa_BadYear, ⟨xq0_BadYear, xq1_BadYear, xq2_BadYear, xq3_BadYear, xq4_BadYear, xq5_BadYear, xq6_BadYear, xq7_BadYear⟩, .inl ⟨e_NoForth, PySem.W.mg_of X G xa_NoForth, Zab xo1_NoForth xo2_NoForth xo3_NoForth xm_NoForth_BadYear⟩⟩ (Zaa ⟨e_NoBack, PySem.W.mg_of X G xa_NoBack, ⟨xq0_NoBack, xq1_NoBack, xq2_NoBack, xq3_NoBack, xq4_NoBack, xq5_NoBack, xq6_NoBack, xq7_NoBack⟩, .inl ⟨e_NoForth, PySem.W.mg_of X G xa_NoForth, Zab xo1_NoForth xo2_NoForth xo3_NoForth xm_NoForth_NoBack⟩⟩ (Zaa ⟨e_NoDay, PySem.W.mg_of X G xa_NoDay, ⟨xq0_NoDay, xq1_NoDay, xq2_NoDay, xq3_NoDay, xq4_NoDay, xq5_NoDay, xq6_NoDay, xq7_NoDay⟩, .inl ⟨e_NoForth, PySem.W.mg_of X G xa_NoForth, Zab xo1_NoForth xo2_NoForth xo3_NoForth xm_NoForth_NoDay⟩⟩ (Zaa ⟨e_NoFeast, PySem.W.mg_of X G xa_NoFeast, ⟨xq0_NoFeast, xq1_NoFeast, xq2_NoFeast, xq3_NoFeast, xq4_NoFeast, xq5_NoFeast, xq6_NoFeast, xq7_NoFeast⟩, .inl ⟨e_NoForth, PySem.W.mg_of X G xa_NoForth, Zab xo1_NoForth xo2_NoForth xo3_NoForth xm_NoForth_NoFeast⟩⟩ (Zaa ⟨e_NoForth, PySem.W.mg_of X G xa_NoForth, ⟨xq0_NoForth, xq1_NoForth, xq2_NoForth, xq3_NoForth, xq4_NoForth, xq5_NoForth, xq6_NoForth, xq7_NoForth⟩, .inl ⟨e_NoForth, PySem.W.mg_of X G xa_NoForth, Zab xo1_NoForth xo2_NoForth xo3_NoForth xm_NoForth_NoForth⟩⟩ (Zaa ⟨e_NoOrder, PySem.W.mg_of X G xa_NoOrder, ⟨xq0_NoOrder, xq1_NoOrder, xq2_NoOrder, xq3_NoOrder, xq4_NoOrder, xq5_NoOrder, xq6_NoOrder, xq7_NoOrder⟩, .inl ⟨e_NoForth, PySem.W.mg_of X G xa_NoForth, Zab xo1_NoForth xo2_NoForth xo3_NoForth xm_NoForth_NoOrder⟩⟩ (Zaa ⟨e_NoStand, PySem.W.mg_of X G xa_NoStand, ⟨xq0_NoStand, xq1_NoStand, xq2_NoStand, xq3_NoStand, xq4_NoStand, xq5_NoStand, xq6_NoStand, xq7_NoStand⟩, .inl ⟨e_NoForth, PySem.W.mg_of X G xa_NoForth, Zab xo1_NoForth xo2_NoForth xo3_NoForth xm_NoForth_NoStand⟩⟩ (Zaa ⟨e_NoYear, PySem.W.mg_of X G xa_NoYear, ⟨xq0_NoYear, xq1_NoYear, xq2_NoYear, xq3_NoYear, xq4_NoYear, xq5_NoYear, xq6_NoYear, xq7_NoYear⟩, .inl ⟨e_NoForth, PySem.W.mg_of X G xa_NoForth, Zab xo1_NoForth xo2_NoForth xo3_NoForth xm_NoForth_NoYear⟩⟩ (Zaa ⟨e_Sealed, PySem.W.mg_of X G xa_Sealed, ⟨xq0_Sealed, xq1_Sealed, xq2_Sealed, xq3_Sealed, xq4_Sealed, xq5_Sealed, xq6_Sealed, xq7_Sealed⟩, .inl ⟨e_NoForth, PySem.W.mg_of X G xa_NoForth, Zab xo1_NoForth xo2_NoForth xo3_NoForth xm_NoForth_Sealed⟩⟩ (Zaa ⟨e_Taken, PySem.W.mg_of X G xa_Taken, ⟨xq0_Taken, xq1_Taken, xq2_Taken, xq3_Taken, xq4_Taken, xq5_Taken, xq6_Taken, xq7_Taken⟩, .inl ⟨e_NoForth, PySem.W.mg_of X G xa_NoForth, Zab xo1_NoForth xo2_NoForth xo3_NoForth xm_NoForth_Taken⟩⟩ Zaz)))))))))))),
    s_BadDay_BadFeast_BadYear_NoBack_NoDay_NoFeast_NoForth_NoOrder_NoStand_NoYear_Sealed_Taken_NoOrder := (Zaa ⟨e_BadDay, PySem.W.mg_of X G xa_BadDay, ⟨xq0_BadDay, xq1_BadDay, xq2_BadDay, xq3_BadDay, xq4_BadDay, xq5_BadDay, xq6_BadDay, xq7_BadDay⟩, .inl ⟨e_NoOrder, PySem.W.mg_of X G xa_NoOrder, Zab xo1_NoOrder xo2_NoOrder xo3_NoOrder xm_NoOrder_BadDay⟩⟩ (Zaa ⟨e_BadFeast, PySem.W.mg_of X G xa_BadFeast, ⟨xq0_BadFeast, xq1_BadFeast, xq2_BadFeast, xq3_BadFeast, xq4_BadFeast, xq5_BadFeast, xq6_BadFeast, xq7_BadFeast⟩, .inl ⟨e_NoOrder, PySem.W.mg_of X G xa_NoOrder, Zab xo1_NoOrder xo2_NoOrder xo3_NoOrder xm_NoOrder_BadFeast⟩⟩ (Zaa ⟨e_BadYear, PySem.W.mg_of X G xa_BadYear, ⟨xq0_BadYear, xq1_BadYear, xq2_BadYear, xq3_BadYear, xq4_BadYear, xq5_BadYear, xq6_BadYear, xq7_BadYear⟩, .inl ⟨e_NoOrder, PySem.W.mg_of X G xa_NoOrder, Zab xo1_NoOrder xo2_NoOrder xo3_NoOrder xm_NoOrder_BadYear⟩⟩ (Zaa ⟨e_NoBack, PySem.W.mg_of X G xa_NoBack, ⟨xq0_NoBack, xq1_NoBack, xq2_NoBack, xq3_NoBack, xq4_NoBack, xq5_NoBack, xq6_NoBack, xq7_NoBack⟩, .inl ⟨e_NoOrder, PySem.W.mg_of X G xa_NoOrder, Zab xo1_NoOrder xo2_NoOrder xo3_NoOrder xm_NoOrder_NoBack⟩⟩ (Zaa ⟨e_NoDay, PySem.W.mg_of X G xa_NoDay, ⟨xq0_NoDay, xq1_NoDay, xq2_NoDay, xq3_NoDay, xq4_NoDay, xq5_NoDay, xq6_NoDay, xq7_NoDay⟩, .inl ⟨e_NoOrder, PySem.W.mg_of X G xa_NoOrder, Zab xo1_NoOrder xo2_NoOrder xo3_NoOrder xm_NoOrder_NoDay⟩⟩ (Zaa ⟨e_NoFeast, PySem.W.mg_of X G xa_NoFeast, ⟨xq0_NoFeast, xq1_NoFeast, xq2_NoFeast, xq3_NoFeast, xq4_NoFeast, xq5_NoFeast, xq6_NoFeast, xq7_NoFeast⟩, .inl ⟨e_NoOrder, PySem.W.mg_of X G xa_NoOrder, Zab xo1_NoOrder xo2_NoOrder xo3_NoOrder xm_NoOrder_NoFeast⟩⟩ (Zaa ⟨e_NoForth, PySem.W.mg_of X G xa_NoForth, ⟨xq0_NoForth, xq1_NoForth, xq2_NoForth, xq3_NoForth, xq4_NoForth, xq5_NoForth, xq6_NoForth, xq7_NoForth⟩, .inl ⟨e_NoOrder, PySem.W.mg_of X G xa_NoOrder, Zab xo1_NoOrder xo2_NoOrder xo3_NoOrder xm_NoOrder_NoForth⟩⟩ (Zaa ⟨e_NoOrder, PySem.W.mg_of X G xa_NoOrder, ⟨xq0_NoOrder, xq1_NoOrder, xq2_NoOrder, xq3_NoOrder, xq4_NoOrder, xq5_NoOrder, xq6_NoOrder, xq7_NoOrder⟩, .inl ⟨e_NoOrder, PySem.W.mg_of X G xa_NoOrder, Zab xo1_NoOrder xo2_NoOrder xo3_NoOrder xm_NoOrder_NoOrder⟩⟩ (Zaa ⟨e_NoStand, PySem.W.mg_of X G xa_NoStand, ⟨xq0_NoStand, xq1_NoStand, xq2_NoStand, xq3_NoStand, xq4_NoStand, xq5_NoStand, xq6_NoStand, xq7_NoStand⟩, .inl ⟨e_NoOrder, PySem.W.mg_of X G xa_NoOrder, Zab xo1_NoOrder xo2_NoOrder xo3_NoOrder xm_NoOrder_NoStand⟩⟩ (Zaa ⟨e_NoYear, PySem.W.mg_of X G xa_NoYear, ⟨xq0_NoYear, xq1_NoYear, xq2_NoYear, xq3_NoYear, xq4_NoYear, xq5_NoYear, xq6_NoYear, xq7_NoYear⟩, .inl ⟨e_NoOrder, PySem.W.mg_of X G xa_NoOrder, Zab xo1_NoOrder xo2_NoOrder xo3_NoOrder xm_NoOrder_NoYear⟩⟩ (Zaa ⟨e_Sealed, PySem.W.mg_of X G xa_Sealed, ⟨xq0_Sealed, xq1_Sealed, xq2_Sealed, xq3_Sealed, xq4_Sealed, xq5_Sealed, xq6_Sealed, xq7_Sealed⟩, .inl ⟨e_NoOrder, PySem.W.mg_of X G xa_NoOrder, Zab xo1_NoOrder xo2_NoOrder xo3_NoOrder xm_NoOrder_Sealed⟩⟩ (Zaa ⟨e_Taken, PySem.W.mg_of X G xa_Taken, ⟨xq0_Taken, xq1_Taken, xq2_Taken, xq3_Taken, xq4_Taken, xq5_Taken, xq6_Taken, xq7_Taken⟩, .inl ⟨e_NoOrder, PySem.W.mg_of X G xa_NoOrder, Zab xo1_NoOrder xo2_NoOrder xo3_NoOrder xm_NoOrder_Taken⟩⟩ Zaz)))))))))))),
    s_BadDay_BadFeast_BadYear_NoBack_NoDay_NoFeast_NoForth_NoOrder_NoStand_NoYear_Sealed_Taken_NoStand := (Zaa ⟨e_BadDay, PySem.W.mg_of X G xa_BadDay, ⟨xq0_BadDay, xq1_BadDay, xq2_BadDay, xq3_BadDay, xq4_BadDay, xq5_BadDay, xq6_BadDay, xq7_BadDay⟩, .inl ⟨e_NoStand, PySem.W.mg_of X G xa_NoStand, Zab xo1_NoStand xo2_NoStand xo3_NoStand xm_NoStand_BadDay⟩⟩ (Zaa ⟨e_BadFeast, PySem.W.mg_of X G xa_BadFeast, ⟨xq0_BadFeast, xq1_BadFeast, xq2_BadFeast, xq3_BadFeast, xq4_BadFeast, xq5_BadFeast, xq6_BadFeast, xq7_BadFeast⟩, .inl ⟨e_NoStand, PySem.W.mg_of X G xa_NoStand, Zab xo1_NoStand xo2_NoStand xo3_NoStand xm_NoStand_BadFeast⟩⟩ (Zaa ⟨e_BadYear, PySem.W.mg_of X G xa_BadYear, ⟨xq0_BadYear, xq1_BadYear, xq2_BadYear, xq3_BadYear, xq4_BadYear, xq5_BadYear, xq6_BadYear, xq7_BadYear⟩, .inl ⟨e_NoStand, PySem.W.mg_of X G xa_NoStand, Zab xo1_NoStand xo2_NoStand xo3_NoStand xm_NoStand_BadYear⟩⟩ (Zaa ⟨e_NoBack, PySem.W.mg_of X G xa_NoBack, ⟨xq0_NoBack, xq1_NoBack, xq2_NoBack, xq3_NoBack, xq4_NoBack, xq5_NoBack, xq6_NoBack, xq7_NoBack⟩, .inl ⟨e_NoStand, PySem.W.mg_of X G xa_NoStand, Zab xo1_NoStand xo2_NoStand xo3_NoStand xm_NoStand_NoBack⟩⟩ (Zaa ⟨e_NoDay, PySem.W.mg_of X G xa_NoDay, ⟨xq0_NoDay, xq1_NoDay, xq2_NoDay, xq3_NoDay, xq4_NoDay, xq5_NoDay, xq6_NoDay, xq7_NoDay⟩, .inl ⟨e_NoStand, PySem.W.mg_of X G xa_NoStand, Zab xo1_NoStand xo2_NoStand xo3_NoStand xm_NoStand_NoDay⟩⟩ (Zaa ⟨e_NoFeast, PySem.W.mg_of X G xa_NoFeast, ⟨xq0_NoFeast, xq1_NoFeast, xq2_NoFeast, xq3_NoFeast, xq4_NoFeast, xq5_NoFeast, xq6_NoFeast, xq7_NoFeast⟩, .inl ⟨e_NoStand, PySem.W.mg_of X G xa_NoStand, Zab xo1_NoStand xo2_NoStand xo3_NoStand xm_NoStand_NoFeast⟩⟩ (Zaa ⟨e_NoForth, PySem.W.mg_of X G xa_NoForth, ⟨xq0_NoForth, xq1_NoForth, xq2_NoForth, xq3_NoForth, xq4_NoForth, xq5_NoForth, xq6_NoForth, xq7_NoForth⟩, .inl ⟨e_NoStand, PySem.W.mg_of X G xa_NoStand, Zab xo1_NoStand xo2_NoStand xo3_NoStand xm_NoStand_NoForth⟩⟩ (Zaa ⟨e_NoOrder, PySem.W.mg_of X G xa_NoOrder, ⟨xq0_NoOrder, xq1_NoOrder, xq2_NoOrder, xq3_NoOrder, xq4_NoOrder, xq5_NoOrder, xq6_NoOrder, xq7_NoOrder⟩, .inl ⟨e_NoStand, PySem.W.mg_of X G xa_NoStand, Zab xo1_NoStand xo2_NoStand xo3_NoStand xm_NoStand_NoOrder⟩⟩ (Zaa ⟨e_NoStand, PySem.W.mg_of X G xa_NoStand, ⟨xq0_NoStand, xq1_NoStand, xq2_NoStand, xq3_NoStand, xq4_NoStand, xq5_NoStand, xq6_NoStand, xq7_NoStand⟩, .inl ⟨e_NoStand, PySem.W.mg_of X G xa_NoStand, Zab xo1_NoStand xo2_NoStand xo3_NoStand xm_NoStand_NoStand⟩⟩ (Zaa ⟨e_NoYear, PySem.W.mg_of X G xa_NoYear, ⟨xq0_NoYear, xq1_NoYear, xq2_NoYear, xq3_NoYear, xq4_NoYear, xq5_NoYear, xq6_NoYear, xq7_NoYear⟩, .inl ⟨e_NoStand, PySem.W.mg_of X G xa_NoStand, Zab xo1_NoStand xo2_NoStand xo3_NoStand xm_NoStand_NoYear⟩⟩ (Zaa ⟨e_Sealed, PySem.W.mg_of X G xa_Sealed, ⟨xq0_Sealed, xq1_Sealed, xq2_Sealed, xq3_Sealed, xq4_Sealed, xq5_Sealed, xq6_Sealed, xq7_Sealed⟩, .inl ⟨e_NoStand, PySem.W.mg_of X G xa_NoStand, Zab xo1_NoStand xo2_NoStand xo3_NoStand xm_NoStand_Sealed⟩⟩ (Zaa ⟨e_Taken, PySem.W.mg_of X G xa_Taken, ⟨xq0_Taken, xq1_Taken, xq2_Taken, xq3_Taken, xq4_Taken, xq5_Taken, xq6_Taken, xq7_Taken⟩, .inl ⟨e_NoStand, PySem.W.mg_of X G xa_NoStand, Zab xo1_NoStand xo2_NoStand xo3_NoStand xm_NoStand_Taken⟩⟩ Zaz)))))))))))),
    s_BadDay_BadFeast_BadYear_NoBack_NoDay_NoFeast_NoForth_NoOrder_NoStand_NoYear_Sealed_Taken_NoYear := (Zaa ⟨e_BadDay, PySem.W.mg_of X G xa_BadDay, ⟨xq0_BadDay, xq1_BadDay, xq2_BadDay, xq3_BadDay, xq4_BadDay, xq5_BadDay, xq6_BadDay, xq7_BadDay⟩, .inl ⟨e_NoYear, PySem.W.mg_of X G xa_NoYear, Zab xo1_NoYear xo2_NoYear xo3_NoYear xm_NoYear_BadDay⟩⟩ (Zaa ⟨e_BadFeast, PySem.W.mg_of X G xa_BadFeast, ⟨xq0_BadFeast, xq1_BadFeast, xq2_BadFeast, xq3_BadFeast, xq4_BadFeast, xq5_BadFeast, xq6_BadFeast, xq7_BadFeast⟩, .inl ⟨e_NoYear, PySem.W.mg_of X G xa_NoYear, Zab xo1_NoYear xo2_NoYear xo3_NoYear xm_NoYear_BadFeast⟩⟩ (Zaa ⟨e_BadYear, PySem.W.mg_of X G xa_BadYear, ⟨xq0_BadYear, xq1_BadYear, xq2_BadYear, xq3_BadYear, xq4_BadYear, xq5_BadYear, xq6_BadYear, xq7_BadYear⟩, .inl ⟨e_NoYear, PySem.W.mg_of X G xa_NoYear, Zab xo1_NoYear xo2_NoYear xo3_NoYear xm_NoYear_BadYear⟩⟩ (Zaa ⟨e_NoBack, PySem.W.mg_of X G xa_NoBack, ⟨xq0_NoBack, xq1_NoBack, xq2_NoBack, xq3_NoBack, xq4_NoBack, xq5_NoBack, xq6_NoBack, xq7_NoBack⟩, .inl ⟨e_NoYear, PySem.W.mg_of X G xa_NoYear, Zab xo1_NoYear xo2_NoYear xo3_NoYear xm_NoYear_NoBack⟩⟩ (Zaa ⟨e_NoDay, PySem.W.mg_of X G xa_NoDay, ⟨xq0_NoDay, xq1_NoDay, xq2_NoDay, xq3_NoDay, xq4_NoDay, xq5_NoDay, xq6_NoDay, xq7_NoDay⟩, .inl ⟨e_NoYear, PySem.W.mg_of X G xa_NoYear, Zab xo1_NoYear xo2_NoYear xo3_NoYear xm_NoYear_NoDay⟩⟩ (Zaa ⟨e_NoFeast, PySem.W.mg_of X G xa_NoFeast, ⟨xq0_NoFeast, xq1_NoFeast, xq2_NoFeast, xq3_NoFeast, xq4_NoFeast, xq5_NoFeast, xq6_NoFeast, xq7_NoFeast⟩, .inl ⟨e_NoYear, PySem.W.mg_of X G xa_NoYear, Zab xo1_NoYear xo2_NoYear xo3_NoYear xm_NoYear_NoFeast⟩⟩ (Zaa ⟨e_NoForth, PySem.W.mg_of X G xa_NoForth, ⟨xq0_NoForth, xq1_NoForth, xq2_NoForth, xq3_NoForth, xq4_NoForth, xq5_NoForth, xq6_NoForth, xq7_NoForth⟩, .inl ⟨e_NoYear, PySem.W.mg_of X G xa_NoYear, Zab xo1_NoYear xo2_NoYear xo3_NoYear xm_NoYear_NoForth⟩⟩ (Zaa ⟨e_NoOrder, PySem.W.mg_of X G xa_NoOrder, ⟨xq0_NoOrder, xq1_NoOrder, xq2_NoOrder, xq3_NoOrder, xq4_NoOrder, xq5_NoOrder, xq6_NoOrder, xq7_NoOrder⟩, .inl ⟨e_NoYear, PySem.W.mg_of X G xa_NoYear, Zab xo1_NoYear xo2_NoYear xo3_NoYear xm_NoYear_NoOrder⟩⟩ (Zaa ⟨e_NoStand, PySem.W.mg_of X G xa_NoStand, ⟨xq0_NoStand, xq1_NoStand, xq2_NoStand, xq3_NoStand, xq4_NoStand, xq5_NoStand, xq6_NoStand, xq7_NoStand⟩, .inl ⟨e_NoYear, PySem.W.mg_of X G xa_NoYear, Zab xo1_NoYear xo2_NoYear xo3_NoYear xm_NoYear_NoStand⟩⟩ (Zaa ⟨e_NoYear, PySem.W.mg_of X G xa_NoYear, ⟨xq0_NoYear, xq1_NoYear, xq2_NoYear, xq3_NoYear, xq4_NoYear, xq5_NoYear, xq6_NoYear, xq7_NoYear⟩, .inl ⟨e_NoYear, PySem.W.mg_of X G xa_NoYear, Zab xo1_NoYear xo2_NoYear xo3_NoYear xm_NoYear_NoYear⟩⟩ (Zaa ⟨e_Sealed, PySem.W.mg_of X G xa_Sealed, ⟨xq0_Sealed, xq1_Sealed, xq2_Sealed, xq3_Sealed, xq4_Sealed, xq5_Sealed, xq6_Sealed, xq7_Sealed⟩, .inl ⟨e_NoYear, PySem.W.mg_of X G xa_NoYear, Zab xo1_NoYear xo2_NoYear xo3_NoYear xm_NoYear_Sealed⟩⟩ (Zaa ⟨e_Taken, PySem.W.mg_of X G xa_Taken, ⟨xq0_Taken, xq1_Taken, xq2_Taken, xq3_Taken, xq4_Taken, xq5_Taken, xq6_Taken, xq7_Taken⟩, .inl ⟨e_NoYear, PySem.W.mg_of X G xa_NoYear, Zab xo1_NoYear xo2_NoYear xo3_NoYear xm_NoYear_Taken⟩⟩ Zaz)))))))))))),
    s_BadDay_BadFeast_BadYear_NoBack_NoDay_NoFeast_NoForth_NoOrder_NoStand_NoYear_Sealed_Taken_Sealed := (Zaa ⟨e_BadDay, PySem.W.mg_of X G xa_BadDay, ⟨xq0_BadDay, xq1_BadDay, xq2_BadDay, xq3_BadDay, xq4_BadDay, xq5_BadDay, xq6_BadDay, xq7_BadDay⟩, .inl ⟨e_Sealed, PySem.W.mg_of X G xa_Sealed, Zab xo1_Sealed xo2_Sealed xo3_Sealed xm_Sealed_BadDay⟩⟩ (Zaa ⟨e_BadFeast, PySem.W.mg_of X G xa_BadFeast, ⟨xq0_BadFeast, xq1_BadFeast, xq2_BadFeast, xq3_BadFeast, xq4_BadFeast, xq5_BadFeast, xq6_BadFeast, xq7_BadFeast⟩, .inl ⟨e_Sealed, PySem.W.mg_of X G xa_Sealed, Zab xo1_Sealed xo2_Sealed xo3_Sealed xm_Sealed_BadFeast⟩⟩ (Zaa ⟨e_BadYear, PySem.W.mg_of X G xa_BadYear, ⟨xq0_BadYear, xq1_BadYear, xq2_BadYear, xq3_BadYear, xq4_BadYear, xq5_BadYear, xq6_BadYear, xq7_BadYear⟩, .inl ⟨e_Sealed, PySem.W.mg_of X G xa_Sealed, Zab xo1_Sealed xo2_Sealed xo3_Sealed xm_Sealed_BadYear⟩⟩ (Zaa ⟨e_NoBack, PySem.W.mg_of X G xa_NoBack, ⟨xq0_NoBack, xq1_NoBack, xq2_NoBack, xq3_NoBack, xq4_NoBack, xq5_NoBack, xq6_NoBack, xq7_NoBack⟩, .inl ⟨e_Sealed, PySem.W.mg_of X G xa_Sealed, Zab xo1_Sealed xo2_Sealed xo3_Sealed xm_Sealed_NoBack⟩⟩ (Zaa ⟨e_NoDay, PySem.W.mg_of X G xa_NoDay, ⟨xq0_NoDay, xq1_NoDay, xq2_NoDay, xq3_NoDay, xq4_NoDay, xq5_NoDay, xq6_NoDay, xq7_NoDay⟩, .inl ⟨e_Sealed, PySem.W.mg_of X G xa_Sealed, Zab xo1_Sealed xo2_Sealed xo3_Sealed xm_Sealed_NoDay⟩⟩ (Zaa ⟨e_NoFeast, PySem.W.mg_of X G xa_NoFeast, ⟨xq0_NoFeast, xq1_NoFeast, xq2_NoFeast, xq3_NoFeast, xq4_NoFeast, xq5_NoFeast, xq6_NoFeast, xq7_NoFeast⟩, .inl ⟨e_Sealed, PySem.W.mg_of X G xa_Sealed, Zab xo1_Sealed xo2_Sealed xo3_Sealed xm_Sealed_NoFeast⟩⟩ (Zaa ⟨e_NoForth, PySem.W.mg_of X G xa_NoForth, ⟨xq0_NoForth, xq1_NoForth, xq2_NoForth, xq3_NoForth, xq4_NoForth, xq5_NoForth, xq6_NoForth, xq7_NoForth⟩, .inl ⟨e_Sealed, PySem.W.mg_of X G xa_Sealed, Zab xo1_Sealed xo2_Sealed xo3_Sealed xm_Sealed_NoForth⟩⟩ (Zaa ⟨e_NoOrder, PySem.W.mg_of X G xa_NoOrder, ⟨xq0_NoOrder, xq1_NoOrder, xq2_NoOrder, xq3_NoOrder, xq4_NoOrder, xq5_NoOrder, xq6_NoOrder, xq7_NoOrder⟩, .inl ⟨e_Sealed, PySem.W.mg_of X G xa_Sealed, Zab xo1_Sealed xo2_Sealed xo3_Sealed xm_Sealed_NoOrder⟩⟩ (Zaa ⟨e_NoStand, PySem.W.mg_of X G xa_NoStand, ⟨xq0_NoStand, xq1_NoStand, xq2_NoStand, xq3_NoStand, xq4_NoStand, xq5_NoStand, xq6_NoStand, xq7_NoStand⟩, .inl ⟨e_Sealed, PySem.W.mg_of X G xa_Sealed, Zab xo1_Sealed xo2_Sealed xo3_Sealed xm_Sealed_NoStand⟩⟩ (Zaa ⟨e_NoYear, PySem.W.mg_of X G xa_NoYear, ⟨xq0_NoYear, xq1_NoYear, xq2_NoYear, xq3_NoYear, xq4_NoYear, xq5_NoYear, xq6_NoYear, xq7_NoYear⟩, .inl ⟨e_Sealed, PySem.W.mg_of X G xa_Sealed, Zab xo1_Sealed xo2_Sealed xo3_Sealed xm_Sealed_NoYear⟩⟩ (Zaa ⟨e_Sealed, PySem.W.mg_of X G xa_Sealed, ⟨xq0_Sealed, xq1_Sealed, xq2_Sealed, xq3_Sealed, xq4_Sealed, xq5_Sealed, xq6_Sealed, xq7_Sealed⟩, .inl ⟨e_Sealed, PySem.W.mg_of X G xa_Sealed, Zab xo1_Sealed xo2_Sealed xo3_Sealed xm_Sealed_Sealed⟩⟩ (Zaa ⟨e_Taken, PySem.W.mg_of X G xa_Taken, ⟨xq0_Taken, xq1_Taken, xq2_Taken, xq3_Taken, xq4_Taken, xq5_Taken, xq6_Taken, xq7_Taken⟩, .inl ⟨e_Sealed, PySem.W.mg_of X G xa_Sealed, Zab xo1_Sealed xo2_Sealed xo3_Sealed xm_Sealed_Taken⟩⟩ Zaz)))))))))))),
    s_BadDay_BadFeast_BadYear_NoBack_NoDay_NoFeast_NoForth_NoOrder_NoStand_NoYear_Sealed_Taken_Taken := (Zaa ⟨e_BadDay, PySem.W.mg_of X G xa_BadDay, ⟨xq0_BadDay, xq1_BadDay, xq2_BadDay, xq3_BadDay, xq4_BadDay, xq5_BadDay, xq6_BadDay, xq7_BadDay⟩, .inl ⟨e_Taken, PySem.W.mg_of X G xa_Taken, Zab xo1_Taken xo2_Taken xo3_Taken xm_Taken_BadDay⟩⟩ (Zaa ⟨e_BadFeast, PySem.W.mg_of X G xa_BadFeast, ⟨xq0_BadFeast, xq1_BadFeast, xq2_BadFeast, xq3_BadFeast, xq4_BadFeast, xq5_BadFeast, xq6_BadFeast, xq7_BadFeast⟩, .inl ⟨e_Taken, PySem.W.mg_of X G xa_Taken, Zab xo1_Taken xo2_Taken xo3_Taken xm_Taken_BadFeast⟩⟩ (Zaa ⟨e_BadYear, PySem.W.mg_of X G xa_BadYear, ⟨xq0_BadYear, xq1_BadYear, xq2_BadYear, xq3_BadYear, xq4_BadYear, xq5_BadYear, xq6_BadYear, xq7_BadYear⟩, .inl ⟨e_Taken, PySem.W.mg_of X G xa_Taken, Zab xo1_Taken xo2_Taken xo3_Taken xm_Taken_BadYear⟩⟩ (Zaa ⟨e_NoBack, PySem.W.mg_of X G xa_NoBack, ⟨xq0_NoBack, xq1_NoBack, xq2_NoBack, xq3_NoBack, xq4_NoBack, xq5_NoBack, xq6_NoBack, xq7_NoBack⟩, .inl ⟨e_Taken, PySem.W.mg_of X G xa_Taken, Zab xo1_Taken xo2_Taken xo3_Taken xm_Taken_NoBack⟩⟩ (Zaa ⟨e_NoDay, PySem.W.mg_of X G xa_NoDay, ⟨xq0_NoDay, xq1_NoDay, xq2_NoDay, xq3_NoDay, xq4_NoDay, xq5_NoDay, xq6_NoDay, xq7_NoDay⟩, .inl ⟨e_Taken, PySem.W.mg_of X G xa_Taken, Zab xo1_Taken xo2_Taken xo3_Taken xm_Taken_NoDay⟩⟩ (Zaa ⟨e_NoFeast, PySem.W.mg_of X G xa_NoFeast, ⟨xq0_NoFeast, xq1_NoFeast, xq2_NoFeast, xq3_NoFeast, xq4_NoFeast, xq5_NoFeast, xq6_NoFeast, xq7_NoFeast⟩, .inl ⟨e_Taken, PySem.W.mg_of X G xa_Taken, Zab xo1_Taken xo2_Taken xo3_Taken xm_Taken_NoFeast⟩⟩ (Zaa ⟨e_NoForth, PySem.W.mg_of X G xa_NoForth, ⟨xq0_NoForth, xq1_NoForth, xq2_NoForth, xq3_NoForth, xq4_NoForth, xq5_NoForth, xq6_NoForth, xq7_NoForth⟩, .inl ⟨e_Taken, PySem.W.mg_of X G xa_Taken, Zab xo1_Taken xo2_Taken xo3_Taken xm_Taken_NoForth⟩⟩ (Zaa ⟨e_NoOrder, PySem.W.mg_of X G xa_NoOrder, ⟨xq0_NoOrder, xq1_NoOrder, xq2_NoOrder, xq3_NoOrder, xq4_NoOrder, xq5_NoOrder, xq6_NoOrder, xq7_NoOrder⟩, .inl ⟨e_Taken, PySem.W.mg_of X G xa_Taken, Zab xo1_Taken xo2_Taken xo3_Taken xm_Taken_NoOrder⟩⟩ (Zaa ⟨e_NoStand, PySem.W.mg_of X G xa_NoStand, ⟨xq0_NoStand, xq1_NoStand, xq2_NoStand, xq3_NoStand, xq4_NoStand, xq5_NoStand, xq6_NoStand, xq7_NoStand⟩, .inl ⟨e_Taken, PySem.W.mg_of X G xa_Taken, Zab xo1_Taken xo2_Taken xo3_Taken xm_Taken_NoStand⟩⟩ (Zaa ⟨e_NoYear, PySem.W.mg_of X G xa_NoYear, ⟨xq0_NoYear, xq1_NoYear, xq2_NoYear, xq3_NoYear, xq4_NoYear, xq5_NoYear, xq6_NoYear, xq7_NoYear⟩, .inl ⟨e_Taken, PySem.W.mg_of X G xa_Taken, Zab xo1_Taken xo2_Taken xo3_Taken xm_Taken_NoYear⟩⟩ (Zaa ⟨e_Sealed, PySem.W.mg_of X G xa_Sealed, ⟨xq0_Sealed, xq1_Sealed, xq2_Sealed, xq3_Sealed, xq4_Sealed, xq5_Sealed, xq6_Sealed, xq7_Sealed⟩, .inl ⟨e_Taken, PySem.W.mg_of X G xa_Taken, Zab xo1_Taken xo2_Taken xo3_Taken xm_Taken_Sealed⟩⟩ (Zaa ⟨e_Taken, PySem.W.mg_of X G xa_Taken, ⟨xq0_Taken, xq1_Taken, xq2_Taken, xq3_Taken, xq4_Taken, xq5_Taken, xq6_Taken, xq7_Taken⟩, .inl ⟨e_Taken, PySem.W.mg_of X G xa_Taken, Zab xo1_Taken xo2_Taken xo3_Taken xm_Taken_Taken⟩⟩ Zaz)))))))))))),
    s_BadDay_BadFeast_BadYear_NoBack_NoDay_NoFeast_NoForth_NoOrder_NoStand_NoYear_Sealed_Taken_ValueError := (Zaa ⟨e_BadDay, PySem.W.mg_of X G xa_BadDay, ⟨xq0_BadDay, xq1_BadDay, xq2_BadDay, xq3_BadDay, xq4_BadDay, xq5_BadDay, xq6_BadDay, xq7_BadDay⟩, .inr ⟨"ValueError", PySem.W.mg_none_of X G z_ValueError, by decide +kernel, by decide, Zag (by decide +kernel) xs_BadDay_ValueError⟩⟩ (Zaa ⟨e_BadFeast, PySem.W.mg_of X G xa_BadFeast, ⟨xq0_BadFeast, xq1_BadFeast, xq2_BadFeast, xq3_BadFeast, xq4_BadFeast, xq5_BadFeast, xq6_BadFeast, xq7_BadFeast⟩, .inr ⟨"ValueError", PySem.W.mg_none_of X G z_ValueError, by decide +kernel, by decide, Zag (by decide +kernel) xs_BadFeast_ValueError⟩⟩ (Zaa ⟨e_BadYear, PySem.W.mg_of X G xa_BadYear, ⟨xq0_BadYear, xq1_BadYear, xq2_BadYear, xq3_BadYear, xq4_BadYear, xq5_BadYear, xq6_BadYear, xq7_BadYear⟩, .inr ⟨"ValueError", PySem.W.mg_none_of X G z_ValueError, by decide +kernel, by decide, Zag (by decide +kernel) xs_BadYear_ValueError⟩⟩ (Zaa ⟨e_NoBack, PySem.W.mg_of X G xa_NoBack, ⟨xq0_NoBack, xq1_NoBack, xq2_NoBack, xq3_NoBack, xq4_NoBack, xq5_NoBack, xq6_NoBack, xq7_NoBack⟩, .inr ⟨"ValueError", PySem.W.mg_none_of X G z_ValueError, by decide +kernel, by decide, Zag (by decide +kernel) xs_NoBack_ValueError⟩⟩ (Zaa ⟨e_NoDay, PySem.W.mg_of X G xa_NoDay, ⟨xq0_NoDay, xq1_NoDay, xq2_NoDay, xq3_NoDay, xq4_NoDay, xq5_NoDay, xq6_NoDay, xq7_NoDay⟩, .inr ⟨"ValueError", PySem.W.mg_none_of X G z_ValueError, by decide +kernel, by decide, Zag (by decide +kernel) xs_NoDay_ValueError⟩⟩ (Zaa ⟨e_NoFeast, PySem.W.mg_of X G xa_NoFeast, ⟨xq0_NoFeast, xq1_NoFeast, xq2_NoFeast, xq3_NoFeast, xq4_NoFeast, xq5_NoFeast, xq6_NoFeast, xq7_NoFeast⟩, .inr ⟨"ValueError", PySem.W.mg_none_of X G z_ValueError, by decide +kernel, by decide, Zag (by decide +kernel) xs_NoFeast_ValueError⟩⟩ (Zaa ⟨e_NoForth, PySem.W.mg_of X G xa_NoForth, ⟨xq0_NoForth, xq1_NoForth, xq2_NoForth, xq3_NoForth, xq4_NoForth, xq5_NoForth, xq6_NoForth, xq7_NoForth⟩, .inr ⟨"ValueError", PySem.W.mg_none_of X G z_ValueError, by decide +kernel, by decide, Zag (by decide +kernel) xs_NoForth_ValueError⟩⟩ (Zaa ⟨e_NoOrder, PySem.W.mg_of X G xa_NoOrder, ⟨xq0_NoOrder, xq1_NoOrder, xq2_NoOrder, xq3_NoOrder, xq4_NoOrder, xq5_NoOrder, xq6_NoOrder, xq7_NoOrder⟩, .inr ⟨"ValueError", PySem.W.mg_none_of X G z_ValueError, by decide +kernel, by decide, Zag (by decide +kernel) xs_NoOrder_ValueError⟩⟩ (Zaa ⟨e_NoStand, PySem.W.mg_of X G xa_NoStand, ⟨xq0_NoStand, xq1_NoStand, xq2_NoStand, xq3_NoStand, xq4_NoStand, xq5_NoStand, xq6_NoStand, xq7_NoStand⟩, .inr ⟨"ValueError", PySem.W.mg_none_of X G z_ValueError, by decide +kernel, by decide, Zag (by decide +kernel) xs_NoStand_ValueError⟩⟩ (Zaa ⟨e_NoYear, PySem.W.mg_of X G xa_NoYear, ⟨xq0_NoYear, xq1_NoYear, xq2_NoYear, xq3_NoYear, xq4_NoYear, xq5_NoYear, xq6_NoYear, xq7_NoYear⟩, .inr ⟨"ValueError", PySem.W.mg_none_of X G z_ValueError, by decide +kernel, by decide, Zag (by decide +kernel) xs_NoYear_ValueError⟩⟩ (Zaa ⟨e_Sealed, PySem.W.mg_of X G xa_Sealed, ⟨xq0_Sealed, xq1_Sealed, xq2_Sealed, xq3_Sealed, xq4_Sealed, xq5_Sealed, xq6_Sealed, xq7_Sealed⟩, .inr ⟨"ValueError", PySem.W.mg_none_of X G z_ValueError, by decide +kernel, by decide, Zag (by decide +kernel) xs_Sealed_ValueError⟩⟩ (Zaa ⟨e_Taken, PySem.W.mg_of X G xa_Taken, ⟨xq0_Taken, xq1_Taken, xq2_Taken, xq3_Taken, xq4_Taken, xq5_Taken, xq6_Taken, xq7_Taken⟩, .inr ⟨"ValueError", PySem.W.mg_none_of X G z_ValueError, by decide +kernel, by decide, Zag (by decide +kernel) xs_Taken_ValueError⟩⟩ Zaz)))))))))))),
    ns_BadDay := ⟨e_BadDay, PySem.W.mg_of X G xa_BadDay, xa_BadDay⟩,
    ns_BadFeast := ⟨e_BadFeast, PySem.W.mg_of X G xa_BadFeast, xa_BadFeast⟩,
    ns_BadYear := ⟨e_BadYear, PySem.W.mg_of X G xa_BadYear, xa_BadYear⟩,
    ns_NoBack := ⟨e_NoBack, PySem.W.mg_of X G xa_NoBack, xa_NoBack⟩,
    ns_NoDay := ⟨e_NoDay, PySem.W.mg_of X G xa_NoDay, xa_NoDay⟩,
    ns_NoFeast := ⟨e_NoFeast, PySem.W.mg_of X G xa_NoFeast, xa_NoFeast⟩,
    ns_NoForth := ⟨e_NoForth, PySem.W.mg_of X G xa_NoForth, xa_NoForth⟩,
    ns_NoOrder := ⟨e_NoOrder, PySem.W.mg_of X G xa_NoOrder, xa_NoOrder⟩,
    ns_NoStand := ⟨e_NoStand, PySem.W.mg_of X G xa_NoStand, xa_NoStand⟩,
    ns_NoYear := ⟨e_NoYear, PySem.W.mg_of X G xa_NoYear, xa_NoYear⟩,
    ns_Sealed := ⟨e_Sealed, PySem.W.mg_of X G xa_Sealed, xa_Sealed⟩,
    ns_Taken := ⟨e_Taken, PySem.W.mg_of X G xa_Taken, xa_Taken⟩,
    xv_Sealed_day := ⟨e_Sealed, xa_Sealed, ⟨xq0_Sealed, xq1_Sealed, xq2_Sealed, xq3_Sealed⟩, xn_Sealed_day⟩,
    xv_Sealed_number := ⟨e_Sealed, xa_Sealed, ⟨xq0_Sealed, xq1_Sealed, xq2_Sealed, xq3_Sealed⟩, xn_Sealed_number⟩,
    xv_Sealed_year := ⟨e_Sealed, xa_Sealed, ⟨xq0_Sealed, xq1_Sealed, xq2_Sealed, xq3_Sealed⟩, xn_Sealed_year⟩,
    nm_BadDay_BadFeast_BadYear_NoBack_NoDay_NoFeast_NoForth_NoOrder_NoStand_NoYear_Sealed_Taken := (Zbe ⟨e_BadDay, PySem.W.mg_of X G xa_BadDay, xa_BadDay⟩ (Zbe ⟨e_BadFeast, PySem.W.mg_of X G xa_BadFeast, xa_BadFeast⟩ (Zbe ⟨e_BadYear, PySem.W.mg_of X G xa_BadYear, xa_BadYear⟩ (Zbe ⟨e_NoBack, PySem.W.mg_of X G xa_NoBack, xa_NoBack⟩ (Zbe ⟨e_NoDay, PySem.W.mg_of X G xa_NoDay, xa_NoDay⟩ (Zbe ⟨e_NoFeast, PySem.W.mg_of X G xa_NoFeast, xa_NoFeast⟩ (Zbe ⟨e_NoForth, PySem.W.mg_of X G xa_NoForth, xa_NoForth⟩ (Zbe ⟨e_NoOrder, PySem.W.mg_of X G xa_NoOrder, xa_NoOrder⟩ (Zbe ⟨e_NoStand, PySem.W.mg_of X G xa_NoStand, xa_NoStand⟩ (Zbe ⟨e_NoYear, PySem.W.mg_of X G xa_NoYear, xa_NoYear⟩ (Zbe ⟨e_Sealed, PySem.W.mg_of X G xa_Sealed, xa_Sealed⟩ (Zbe ⟨e_Taken, PySem.W.mg_of X G xa_Taken, xa_Taken⟩ Zlm)))))))))))),
    r_Sealed := ⟨e_Sealed, fi_Sealed, _, PySem.W.mg_of X G xa_Sealed, ⟨⟨⟨nm_Sealed, q_Sealed, N_Sealed, bs_Sealed, _, sn_Sealed, sub_Sealed, ab_Sealed, col_Sealed, dd_Sealed, m0_Sealed, m1_Sealed, m2_Sealed, m3_Sealed, m5_Sealed, oc_Sealed, rfl⟩, os_Sealed, oe_Sealed, ot_Sealed, ok_Sealed⟩, xn_Sealed_number, xn_Sealed_year, xn_Sealed_day⟩, oi_Sealed, of_Sealed, fun_mk ol_Sealed oo_Sealed op_Sealed, fun s us hl => match us, hl with | [_, _, _, _], _ => .of_eq rfl⟩ }
end DL
open PySem PySem.Spec PyProof.Rows L2
set_option maxRecDepth 100000 in
set_option maxHeartbeats 0 in
theorem PySem.Challenge.cw_feastfall_k57_refusals_by_their_classes_holds : PySem.Challenge.rw_feastfall_k57_refusals_by_their_classes.Holds := by
  w_on; o_law; k_head; (case hw => w_witness2)
  k_fill
  refine L2.walk_of (l := PySem.Challenge.rw_feastfall_k57_refusals_by_their_classes) (n := 63) (k := 3) (x := "_law_script") (CX := fun w => L2.CX PySem.Challenge.rw_feastfall_k57_refusals_by_their_classes.prog w) (sp := fun w => DL.spLaw _) rfl (by decide) rfl ⟨rfl, by decide, by decide⟩ (fun w h Y => PySem.W.kIn_of Y) ?F (fun _ _ a ns hl _ hS => ⟨a, ns, rfl, hS, hl, fun _ => rfl⟩) (fun _ _ _ _ _ h => DL.noCX h)
  case F =>
    intro w mg fa h KX G hmg
    refine DL.at_law (?T) hmg
    refine' DL.all_mk KX G ?a0 ?l0 ?c0 ?k0 ?a1 ?l1 ?c1 ?k1 ?a2 ?l2 ?c2 ?k2 ?a3 ?l3 ?c3 ?k3 ?a4 ?l4 ?c4 ?k4 ?a5 ?l5 ?c5 ?k5 ?z_bool ?z_enumerate ?z_int ?z_isinstance ?z_len ?z_range ?xa_BadDay ?xe_BadDay ?xk_BadDay ?xb_BadDay ?xt_BadDay ?xi_BadDay ?xa_BadFeast ?xe_BadFeast ?xk_BadFeast ?xb_BadFeast ?xt_BadFeast ?xi_BadFeast ?xa_BadYear ?xe_BadYear ?xk_BadYear ?xb_BadYear ?xt_BadYear ?xi_BadYear ?xa_NoBack ?xe_NoBack ?xk_NoBack ?xb_NoBack ?xt_NoBack ?xi_NoBack ?xa_NoDay ?xe_NoDay ?xk_NoDay ?xb_NoDay ?xt_NoDay ?xi_NoDay ?xa_NoFeast ?xe_NoFeast ?xk_NoFeast ?xb_NoFeast ?xt_NoFeast ?xi_NoFeast ?xa_NoForth ?xe_NoForth ?xk_NoForth ?xb_NoForth ?xt_NoForth ?xi_NoForth ?xa_NoOrder ?xe_NoOrder ?xk_NoOrder ?xb_NoOrder ?xt_NoOrder ?xi_NoOrder ?xa_NoStand ?xe_NoStand ?xk_NoStand ?xb_NoStand ?xt_NoStand ?xi_NoStand ?xa_NoYear ?xe_NoYear ?xk_NoYear ?xb_NoYear ?xt_NoYear ?xi_NoYear ?xa_Taken ?xe_Taken ?xk_Taken ?xb_Taken ?xt_Taken ?xi_Taken ?xa_FeastError ?xa_Sealed ?z_IndexError ?z_KeyError ?z_ValueError ?xo0_BadDay ?xo1_BadDay ?xo2_BadDay ?xo3_BadDay ?xo0_BadFeast ?xo1_BadFeast ?xo2_BadFeast ?xo3_BadFeast ?xo0_BadYear ?xo1_BadYear ?xo2_BadYear ?xo3_BadYear ?xo0_FeastError ?xo1_FeastError ?xo2_FeastError ?xo3_FeastError ?xo0_NoBack ?xo1_NoBack ?xo2_NoBack ?xo3_NoBack ?xo0_NoDay ?xo1_NoDay ?xo2_NoDay ?xo3_NoDay ?xo0_NoFeast ?xo1_NoFeast ?xo2_NoFeast ?xo3_NoFeast ?xo0_NoForth ?xo1_NoForth ?xo2_NoForth ?xo3_NoForth ?xo0_NoOrder ?xo1_NoOrder ?xo2_NoOrder ?xo3_NoOrder ?xo0_NoStand ?xo1_NoStand ?xo2_NoStand ?xo3_NoStand ?xo0_NoYear ?xo1_NoYear ?xo2_NoYear ?xo3_NoYear ?xo0_Sealed ?xo1_Sealed ?xo2_Sealed ?xo3_Sealed ?xo0_Taken ?xo1_Taken ?xo2_Taken ?xo3_Taken ?xq0_BadDay ?xq1_BadDay ?xq2_BadDay ?xq3_BadDay ?xq4_BadDay ?xq5_BadDay ?xq6_BadDay ?xq7_BadDay ?xq0_BadFeast ?xq1_BadFeast ?xq2_BadFeast ?xq3_BadFeast ?xq4_BadFeast ?xq5_BadFeast ?xq6_BadFeast ?xq7_BadFeast ?xq0_BadYear ?xq1_BadYear ?xq2_BadYear ?xq3_BadYear ?xq4_BadYear ?xq5_BadYear ?xq6_BadYear ?xq7_BadYear ?xq0_NoBack ?xq1_NoBack ?xq2_NoBack ?xq3_NoBack ?xq4_NoBack ?xq5_NoBack ?xq6_NoBack ?xq7_NoBack ?xq0_NoDay ?xq1_NoDay ?xq2_NoDay ?xq3_NoDay ?xq4_NoDay ?xq5_NoDay ?xq6_NoDay ?xq7_NoDay ?xq0_NoFeast ?xq1_NoFeast ?xq2_NoFeast ?xq3_NoFeast ?xq4_NoFeast ?xq5_NoFeast ?xq6_NoFeast ?xq7_NoFeast ?xq0_NoForth ?xq1_NoForth ?xq2_NoForth ?xq3_NoForth ?xq4_NoForth ?xq5_NoForth ?xq6_NoForth ?xq7_NoForth ?xq0_NoOrder ?xq1_NoOrder ?xq2_NoOrder ?xq3_NoOrder ?xq4_NoOrder ?xq5_NoOrder ?xq6_NoOrder ?xq7_NoOrder ?xq0_NoStand ?xq1_NoStand ?xq2_NoStand ?xq3_NoStand ?xq4_NoStand ?xq5_NoStand ?xq6_NoStand ?xq7_NoStand ?xq0_NoYear ?xq1_NoYear ?xq2_NoYear ?xq3_NoYear ?xq4_NoYear ?xq5_NoYear ?xq6_NoYear ?xq7_NoYear ?xq0_Sealed ?xq1_Sealed ?xq2_Sealed ?xq3_Sealed ?xq4_Sealed ?xq5_Sealed ?xq6_Sealed ?xq7_Sealed ?xq0_Taken ?xq1_Taken ?xq2_Taken ?xq3_Taken ?xq4_Taken ?xq5_Taken ?xq6_Taken ?xq7_Taken ?xm_BadDay_BadDay ?xm_BadFeast_BadDay ?xm_BadYear_BadDay ?xm_FeastError_BadDay ?xs_BadDay_IndexError ?xs_BadDay_KeyError ?xm_NoBack_BadDay ?xm_NoDay_BadDay ?xm_NoFeast_BadDay ?xm_NoForth_BadDay ?xm_NoOrder_BadDay ?xm_NoStand_BadDay ?xm_NoYear_BadDay ?xm_Sealed_BadDay ?xm_Taken_BadDay ?xs_BadDay_ValueError ?xm_BadDay_BadFeast ?xm_BadFeast_BadFeast ?xm_BadYear_BadFeast ?xm_FeastError_BadFeast ?xs_BadFeast_IndexError ?xs_BadFeast_KeyError ?xm_NoBack_BadFeast ?xm_NoDay_BadFeast ?xm_NoFeast_BadFeast ?xm_NoForth_BadFeast ?xm_NoOrder_BadFeast ?xm_NoStand_BadFeast ?xm_NoYear_BadFeast ?xm_Sealed_BadFeast ?xm_Taken_BadFeast ?xs_BadFeast_ValueError ?xm_BadDay_BadYear ?xm_BadFeast_BadYear ?xm_BadYear_BadYear ?xm_FeastError_BadYear ?xs_BadYear_IndexError ?xs_BadYear_KeyError ?xm_NoBack_BadYear ?xm_NoDay_BadYear ?xm_NoFeast_BadYear ?xm_NoForth_BadYear ?xm_NoOrder_BadYear ?xm_NoStand_BadYear ?xm_NoYear_BadYear ?xm_Sealed_BadYear ?xm_Taken_BadYear ?xs_BadYear_ValueError ?xm_BadDay_NoBack ?xm_BadFeast_NoBack ?xm_BadYear_NoBack ?xm_FeastError_NoBack ?xs_NoBack_IndexError ?xs_NoBack_KeyError ?xm_NoBack_NoBack ?xm_NoDay_NoBack ?xm_NoFeast_NoBack ?xm_NoForth_NoBack ?xm_NoOrder_NoBack ?xm_NoStand_NoBack ?xm_NoYear_NoBack ?xm_Sealed_NoBack ?xm_Taken_NoBack ?xs_NoBack_ValueError ?xm_BadDay_NoDay ?xm_BadFeast_NoDay ?xm_BadYear_NoDay ?xm_FeastError_NoDay ?xs_NoDay_IndexError ?xs_NoDay_KeyError ?xm_NoBack_NoDay ?xm_NoDay_NoDay ?xm_NoFeast_NoDay ?xm_NoForth_NoDay ?xm_NoOrder_NoDay ?xm_NoStand_NoDay ?xm_NoYear_NoDay ?xm_Sealed_NoDay ?xm_Taken_NoDay ?xs_NoDay_ValueError ?xm_BadDay_NoFeast ?xm_BadFeast_NoFeast ?xm_BadYear_NoFeast ?xm_FeastError_NoFeast ?xs_NoFeast_IndexError ?xs_NoFeast_KeyError ?xm_NoBack_NoFeast ?xm_NoDay_NoFeast ?xm_NoFeast_NoFeast ?xm_NoForth_NoFeast ?xm_NoOrder_NoFeast ?xm_NoStand_NoFeast ?xm_NoYear_NoFeast ?xm_Sealed_NoFeast ?xm_Taken_NoFeast ?xs_NoFeast_ValueError ?xm_BadDay_NoForth ?xm_BadFeast_NoForth ?xm_BadYear_NoForth ?xm_FeastError_NoForth ?xs_NoForth_IndexError ?xs_NoForth_KeyError ?xm_NoBack_NoForth ?xm_NoDay_NoForth ?xm_NoFeast_NoForth ?xm_NoForth_NoForth ?xm_NoOrder_NoForth ?xm_NoStand_NoForth ?xm_NoYear_NoForth ?xm_Sealed_NoForth ?xm_Taken_NoForth ?xs_NoForth_ValueError ?xm_BadDay_NoOrder ?xm_BadFeast_NoOrder ?xm_BadYear_NoOrder ?xm_FeastError_NoOrder ?xs_NoOrder_IndexError ?xs_NoOrder_KeyError ?xm_NoBack_NoOrder ?xm_NoDay_NoOrder ?xm_NoFeast_NoOrder ?xm_NoForth_NoOrder ?xm_NoOrder_NoOrder ?xm_NoStand_NoOrder ?xm_NoYear_NoOrder ?xm_Sealed_NoOrder ?xm_Taken_NoOrder ?xs_NoOrder_ValueError ?xm_BadDay_NoStand ?xm_BadFeast_NoStand ?xm_BadYear_NoStand ?xm_FeastError_NoStand ?xs_NoStand_IndexError ?xs_NoStand_KeyError ?xm_NoBack_NoStand ?xm_NoDay_NoStand ?xm_NoFeast_NoStand ?xm_NoForth_NoStand ?xm_NoOrder_NoStand ?xm_NoStand_NoStand ?xm_NoYear_NoStand ?xm_Sealed_NoStand ?xm_Taken_NoStand ?xs_NoStand_ValueError ?xm_BadDay_NoYear ?xm_BadFeast_NoYear ?xm_BadYear_NoYear ?xm_FeastError_NoYear ?xs_NoYear_IndexError ?xs_NoYear_KeyError ?xm_NoBack_NoYear ?xm_NoDay_NoYear ?xm_NoFeast_NoYear ?xm_NoForth_NoYear ?xm_NoOrder_NoYear ?xm_NoStand_NoYear ?xm_NoYear_NoYear ?xm_Sealed_NoYear ?xm_Taken_NoYear ?xs_NoYear_ValueError ?xm_BadDay_Sealed ?xm_BadFeast_Sealed ?xm_BadYear_Sealed ?xm_FeastError_Sealed ?xs_Sealed_IndexError ?xs_Sealed_KeyError ?xm_NoBack_Sealed ?xm_NoDay_Sealed ?xm_NoFeast_Sealed ?xm_NoForth_Sealed ?xm_NoOrder_Sealed ?xm_NoStand_Sealed ?xm_NoYear_Sealed ?xm_Sealed_Sealed ?xm_Taken_Sealed ?xs_Sealed_ValueError ?xm_BadDay_Taken ?xm_BadFeast_Taken ?xm_BadYear_Taken ?xm_FeastError_Taken ?xs_Taken_IndexError ?xs_Taken_KeyError ?xm_NoBack_Taken ?xm_NoDay_Taken ?xm_NoFeast_Taken ?xm_NoForth_Taken ?xm_NoOrder_Taken ?xm_NoStand_Taken ?xm_NoYear_Taken ?xm_Sealed_Taken ?xm_Taken_Taken ?xs_Taken_ValueError ?xn_Sealed_day ?xn_Sealed_number ?xn_Sealed_year ?oc_Sealed ?os_Sealed ?oe_Sealed ?ot_Sealed ?ok_Sealed ?oi_Sealed ?of_Sealed ?ol_Sealed ?oo_Sealed ?op_Sealed
    (case a0 => k_is)
    (case l0 => k_is)
    (case c0 => k_is)
    (case k0 => k_is)
    (case a1 => k_is)
    (case l1 => k_is)
    (case c1 => k_is)
    (case k1 => k_is)
    (case a2 => k_is)
    (case l2 => k_is)
    (case c2 => k_is)
    (case k2 => k_is)
    (case a3 => k_is)
    (case l3 => k_is)
    (case c3 => k_is)
    (case k3 => k_is)
    (case a4 => k_is)
    (case l4 => k_is)
    (case c4 => k_is)
    (case k4 => k_is)
    (case a5 => k_is)
    (case l5 => k_is)
    (case c5 => k_is)
    (case k5 => k_is)
    (case z_bool => k_is)
    (case z_enumerate => k_is)
    (case z_int => k_is)
    (case z_isinstance => k_is)
    (case z_len => k_is)
    (case z_range => k_is)
    (case xa_BadDay => k_is)
    (case xe_BadDay => k_exc)
    (case xk_BadDay => k_is)
    (case xb_BadDay => k_is)
    (case xt_BadDay => k_is)
    (case xi_BadDay => k_is)
    (case xa_BadFeast => k_is)
    (case xe_BadFeast => k_exc)
    (case xk_BadFeast => k_is)
    (case xb_BadFeast => k_is)
    (case xt_BadFeast => k_is)
    (case xi_BadFeast => k_is)
    (case xa_BadYear => k_is)
    (case xe_BadYear => k_exc)
    (case xk_BadYear => k_is)
    (case xb_BadYear => k_is)
    (case xt_BadYear => k_is)
    (case xi_BadYear => k_is)
    (case xa_NoBack => k_is)
    (case xe_NoBack => k_exc)
    (case xk_NoBack => k_is)
    (case xb_NoBack => k_is)
    (case xt_NoBack => k_is)
    (case xi_NoBack => k_is)
    (case xa_NoDay => k_is)
    (case xe_NoDay => k_exc)
    (case xk_NoDay => k_is)
    (case xb_NoDay => k_is)
    (case xt_NoDay => k_is)
    (case xi_NoDay => k_is)
    (case xa_NoFeast => k_is)
    (case xe_NoFeast => k_exc)
    (case xk_NoFeast => k_is)
    (case xb_NoFeast => k_is)
    (case xt_NoFeast => k_is)
    (case xi_NoFeast => k_is)
    (case xa_NoForth => k_is)
    (case xe_NoForth => k_exc)
    (case xk_NoForth => k_is)
    (case xb_NoForth => k_is)
    (case xt_NoForth => k_is)
    (case xi_NoForth => k_is)
    (case xa_NoOrder => k_is)
    (case xe_NoOrder => k_exc)
    (case xk_NoOrder => k_is)
    (case xb_NoOrder => k_is)
    (case xt_NoOrder => k_is)
    (case xi_NoOrder => k_is)
    (case xa_NoStand => k_is)
    (case xe_NoStand => k_exc)
    (case xk_NoStand => k_is)
    (case xb_NoStand => k_is)
    (case xt_NoStand => k_is)
    (case xi_NoStand => k_is)
    (case xa_NoYear => k_is)
    (case xe_NoYear => k_exc)
    (case xk_NoYear => k_is)
    (case xb_NoYear => k_is)
    (case xt_NoYear => k_is)
    (case xi_NoYear => k_is)
    (case xa_Taken => k_is)
    (case xe_Taken => k_exc)
    (case xk_Taken => k_is)
    (case xb_Taken => k_is)
    (case xt_Taken => k_is)
    (case xi_Taken => k_is)
    (case xa_FeastError => k_is)
    (case xa_Sealed => k_is)
    (case z_IndexError => k_is)
    (case z_KeyError => k_is)
    (case z_ValueError => k_is)
    (case xo0_BadDay => k_is)
    (case xo1_BadDay => k_is)
    (case xo2_BadDay => k_is)
    (case xo3_BadDay => k_is)
    (case xo0_BadFeast => k_is)
    (case xo1_BadFeast => k_is)
    (case xo2_BadFeast => k_is)
    (case xo3_BadFeast => k_is)
    (case xo0_BadYear => k_is)
    (case xo1_BadYear => k_is)
    (case xo2_BadYear => k_is)
    (case xo3_BadYear => k_is)
    (case xo0_FeastError => k_is)
    (case xo1_FeastError => k_is)
    (case xo2_FeastError => k_is)
    (case xo3_FeastError => k_is)
    (case xo0_NoBack => k_is)
    (case xo1_NoBack => k_is)
    (case xo2_NoBack => k_is)
    (case xo3_NoBack => k_is)
    (case xo0_NoDay => k_is)
    (case xo1_NoDay => k_is)
    (case xo2_NoDay => k_is)
    (case xo3_NoDay => k_is)
    (case xo0_NoFeast => k_is)
    (case xo1_NoFeast => k_is)
    (case xo2_NoFeast => k_is)
    (case xo3_NoFeast => k_is)
    (case xo0_NoForth => k_is)
    (case xo1_NoForth => k_is)
    (case xo2_NoForth => k_is)
    (case xo3_NoForth => k_is)
    (case xo0_NoOrder => k_is)
    (case xo1_NoOrder => k_is)
    (case xo2_NoOrder => k_is)
    (case xo3_NoOrder => k_is)
    (case xo0_NoStand => k_is)
    (case xo1_NoStand => k_is)
    (case xo2_NoStand => k_is)
    (case xo3_NoStand => k_is)
    (case xo0_NoYear => k_is)
    (case xo1_NoYear => k_is)
    (case xo2_NoYear => k_is)
    (case xo3_NoYear => k_is)
    (case xo0_Sealed => k_is)
    (case xo1_Sealed => k_is)
    (case xo2_Sealed => k_is)
    (case xo3_Sealed => k_is)
    (case xo0_Taken => k_is)
    (case xo1_Taken => k_is)
    (case xo2_Taken => k_is)
    (case xo3_Taken => k_is)
    (case xq0_BadDay => k_is)
    (case xq1_BadDay => k_is)
    (case xq2_BadDay => k_is)
    (case xq3_BadDay => k_is)
    (case xq4_BadDay => k_is)
    (case xq5_BadDay => k_is)
    (case xq6_BadDay => k_is)
    (case xq7_BadDay => k_is)
    (case xq0_BadFeast => k_is)
    (case xq1_BadFeast => k_is)
    (case xq2_BadFeast => k_is)
    (case xq3_BadFeast => k_is)
    (case xq4_BadFeast => k_is)
    (case xq5_BadFeast => k_is)
    (case xq6_BadFeast => k_is)
    (case xq7_BadFeast => k_is)
    (case xq0_BadYear => k_is)
    (case xq1_BadYear => k_is)
    (case xq2_BadYear => k_is)
    (case xq3_BadYear => k_is)
    (case xq4_BadYear => k_is)
    (case xq5_BadYear => k_is)
    (case xq6_BadYear => k_is)
    (case xq7_BadYear => k_is)
    (case xq0_NoBack => k_is)
    (case xq1_NoBack => k_is)
    (case xq2_NoBack => k_is)
    (case xq3_NoBack => k_is)
    (case xq4_NoBack => k_is)
    (case xq5_NoBack => k_is)
    (case xq6_NoBack => k_is)
    (case xq7_NoBack => k_is)
    (case xq0_NoDay => k_is)
    (case xq1_NoDay => k_is)
    (case xq2_NoDay => k_is)
    (case xq3_NoDay => k_is)
    (case xq4_NoDay => k_is)
    (case xq5_NoDay => k_is)
    (case xq6_NoDay => k_is)
    (case xq7_NoDay => k_is)
    (case xq0_NoFeast => k_is)
    (case xq1_NoFeast => k_is)
    (case xq2_NoFeast => k_is)
    (case xq3_NoFeast => k_is)
    (case xq4_NoFeast => k_is)
    (case xq5_NoFeast => k_is)
    (case xq6_NoFeast => k_is)
    (case xq7_NoFeast => k_is)
    (case xq0_NoForth => k_is)
    (case xq1_NoForth => k_is)
    (case xq2_NoForth => k_is)
    (case xq3_NoForth => k_is)
    (case xq4_NoForth => k_is)
    (case xq5_NoForth => k_is)
    (case xq6_NoForth => k_is)
    (case xq7_NoForth => k_is)
    (case xq0_NoOrder => k_is)
    (case xq1_NoOrder => k_is)
    (case xq2_NoOrder => k_is)
    (case xq3_NoOrder => k_is)
    (case xq4_NoOrder => k_is)
    (case xq5_NoOrder => k_is)
    (case xq6_NoOrder => k_is)
    (case xq7_NoOrder => k_is)
    (case xq0_NoStand => k_is)
    (case xq1_NoStand => k_is)
    (case xq2_NoStand => k_is)
    (case xq3_NoStand => k_is)
    (case xq4_NoStand => k_is)
    (case xq5_NoStand => k_is)
    (case xq6_NoStand => k_is)
    (case xq7_NoStand => k_is)
    (case xq0_NoYear => k_is)
    (case xq1_NoYear => k_is)
    (case xq2_NoYear => k_is)
    (case xq3_NoYear => k_is)
    (case xq4_NoYear => k_is)
    (case xq5_NoYear => k_is)
    (case xq6_NoYear => k_is)
    (case xq7_NoYear => k_is)
    (case xq0_Sealed => k_is)
    (case xq1_Sealed => k_is)
    (case xq2_Sealed => k_is)
    (case xq3_Sealed => k_is)
    (case xq4_Sealed => k_is)
    (case xq5_Sealed => k_is)
    (case xq6_Sealed => k_is)
    (case xq7_Sealed => k_is)
    (case xq0_Taken => k_is)
    (case xq1_Taken => k_is)
    (case xq2_Taken => k_is)
    (case xq3_Taken => k_is)
    (case xq4_Taken => k_is)
    (case xq5_Taken => k_is)
    (case xq6_Taken => k_is)
    (case xq7_Taken => k_is)
    (case xm_BadDay_BadDay => k_is)
    (case xm_BadFeast_BadDay => k_is)
    (case xm_BadYear_BadDay => k_is)
    (case xm_FeastError_BadDay => k_is)
    (case xs_BadDay_IndexError => k_is)
    (case xs_BadDay_KeyError => k_is)
    (case xm_NoBack_BadDay => k_is)
    (case xm_NoDay_BadDay => k_is)
    (case xm_NoFeast_BadDay => k_is)
    (case xm_NoForth_BadDay => k_is)
    (case xm_NoOrder_BadDay => k_is)
    (case xm_NoStand_BadDay => k_is)
    (case xm_NoYear_BadDay => k_is)
    (case xm_Sealed_BadDay => k_is)
    (case xm_Taken_BadDay => k_is)
    (case xs_BadDay_ValueError => k_is)
    (case xm_BadDay_BadFeast => k_is)
    (case xm_BadFeast_BadFeast => k_is)
    (case xm_BadYear_BadFeast => k_is)
    (case xm_FeastError_BadFeast => k_is)
    (case xs_BadFeast_IndexError => k_is)
    (case xs_BadFeast_KeyError => k_is)
    (case xm_NoBack_BadFeast => k_is)
    (case xm_NoDay_BadFeast => k_is)
    (case xm_NoFeast_BadFeast => k_is)
    (case xm_NoForth_BadFeast => k_is)
    (case xm_NoOrder_BadFeast => k_is)
    (case xm_NoStand_BadFeast => k_is)
    (case xm_NoYear_BadFeast => k_is)
    (case xm_Sealed_BadFeast => k_is)
    (case xm_Taken_BadFeast => k_is)
    (case xs_BadFeast_ValueError => k_is)
    (case xm_BadDay_BadYear => k_is)
    (case xm_BadFeast_BadYear => k_is)
    (case xm_BadYear_BadYear => k_is)
    (case xm_FeastError_BadYear => k_is)
    (case xs_BadYear_IndexError => k_is)
    (case xs_BadYear_KeyError => k_is)
    (case xm_NoBack_BadYear => k_is)
    (case xm_NoDay_BadYear => k_is)
    (case xm_NoFeast_BadYear => k_is)
    (case xm_NoForth_BadYear => k_is)
    (case xm_NoOrder_BadYear => k_is)
    (case xm_NoStand_BadYear => k_is)
    (case xm_NoYear_BadYear => k_is)
    (case xm_Sealed_BadYear => k_is)
    (case xm_Taken_BadYear => k_is)
    (case xs_BadYear_ValueError => k_is)
    (case xm_BadDay_NoBack => k_is)
    (case xm_BadFeast_NoBack => k_is)
    (case xm_BadYear_NoBack => k_is)
    (case xm_FeastError_NoBack => k_is)
    (case xs_NoBack_IndexError => k_is)
    (case xs_NoBack_KeyError => k_is)
    (case xm_NoBack_NoBack => k_is)
    (case xm_NoDay_NoBack => k_is)
    (case xm_NoFeast_NoBack => k_is)
    (case xm_NoForth_NoBack => k_is)
    (case xm_NoOrder_NoBack => k_is)
    (case xm_NoStand_NoBack => k_is)
    (case xm_NoYear_NoBack => k_is)
    (case xm_Sealed_NoBack => k_is)
    (case xm_Taken_NoBack => k_is)
    (case xs_NoBack_ValueError => k_is)
    (case xm_BadDay_NoDay => k_is)
    (case xm_BadFeast_NoDay => k_is)
    (case xm_BadYear_NoDay => k_is)
    (case xm_FeastError_NoDay => k_is)
    (case xs_NoDay_IndexError => k_is)
    (case xs_NoDay_KeyError => k_is)
    (case xm_NoBack_NoDay => k_is)
    (case xm_NoDay_NoDay => k_is)
    (case xm_NoFeast_NoDay => k_is)
    (case xm_NoForth_NoDay => k_is)
    (case xm_NoOrder_NoDay => k_is)
    (case xm_NoStand_NoDay => k_is)
    (case xm_NoYear_NoDay => k_is)
    (case xm_Sealed_NoDay => k_is)
    (case xm_Taken_NoDay => k_is)
    (case xs_NoDay_ValueError => k_is)
    (case xm_BadDay_NoFeast => k_is)
    (case xm_BadFeast_NoFeast => k_is)
    (case xm_BadYear_NoFeast => k_is)
    (case xm_FeastError_NoFeast => k_is)
    (case xs_NoFeast_IndexError => k_is)
    (case xs_NoFeast_KeyError => k_is)
    (case xm_NoBack_NoFeast => k_is)
    (case xm_NoDay_NoFeast => k_is)
    (case xm_NoFeast_NoFeast => k_is)
    (case xm_NoForth_NoFeast => k_is)
    (case xm_NoOrder_NoFeast => k_is)
    (case xm_NoStand_NoFeast => k_is)
    (case xm_NoYear_NoFeast => k_is)
    (case xm_Sealed_NoFeast => k_is)
    (case xm_Taken_NoFeast => k_is)
    (case xs_NoFeast_ValueError => k_is)
    (case xm_BadDay_NoForth => k_is)
    (case xm_BadFeast_NoForth => k_is)
    (case xm_BadYear_NoForth => k_is)
    (case xm_FeastError_NoForth => k_is)
    (case xs_NoForth_IndexError => k_is)
    (case xs_NoForth_KeyError => k_is)
    (case xm_NoBack_NoForth => k_is)
    (case xm_NoDay_NoForth => k_is)
    (case xm_NoFeast_NoForth => k_is)
    (case xm_NoForth_NoForth => k_is)
    (case xm_NoOrder_NoForth => k_is)
    (case xm_NoStand_NoForth => k_is)
    (case xm_NoYear_NoForth => k_is)
    (case xm_Sealed_NoForth => k_is)
    (case xm_Taken_NoForth => k_is)
    (case xs_NoForth_ValueError => k_is)
    (case xm_BadDay_NoOrder => k_is)
    (case xm_BadFeast_NoOrder => k_is)
    (case xm_BadYear_NoOrder => k_is)
    (case xm_FeastError_NoOrder => k_is)
    (case xs_NoOrder_IndexError => k_is)
    (case xs_NoOrder_KeyError => k_is)
    (case xm_NoBack_NoOrder => k_is)
    (case xm_NoDay_NoOrder => k_is)
    (case xm_NoFeast_NoOrder => k_is)
    (case xm_NoForth_NoOrder => k_is)
    (case xm_NoOrder_NoOrder => k_is)
    (case xm_NoStand_NoOrder => k_is)
    (case xm_NoYear_NoOrder => k_is)
    (case xm_Sealed_NoOrder => k_is)
    (case xm_Taken_NoOrder => k_is)
    (case xs_NoOrder_ValueError => k_is)
    (case xm_BadDay_NoStand => k_is)
    (case xm_BadFeast_NoStand => k_is)
    (case xm_BadYear_NoStand => k_is)
    (case xm_FeastError_NoStand => k_is)
    (case xs_NoStand_IndexError => k_is)
    (case xs_NoStand_KeyError => k_is)
    (case xm_NoBack_NoStand => k_is)
    (case xm_NoDay_NoStand => k_is)
    (case xm_NoFeast_NoStand => k_is)
    (case xm_NoForth_NoStand => k_is)
    (case xm_NoOrder_NoStand => k_is)
    (case xm_NoStand_NoStand => k_is)
    (case xm_NoYear_NoStand => k_is)
    (case xm_Sealed_NoStand => k_is)
    (case xm_Taken_NoStand => k_is)
    (case xs_NoStand_ValueError => k_is)
    (case xm_BadDay_NoYear => k_is)
    (case xm_BadFeast_NoYear => k_is)
    (case xm_BadYear_NoYear => k_is)
    (case xm_FeastError_NoYear => k_is)
    (case xs_NoYear_IndexError => k_is)
    (case xs_NoYear_KeyError => k_is)
    (case xm_NoBack_NoYear => k_is)
    (case xm_NoDay_NoYear => k_is)
    (case xm_NoFeast_NoYear => k_is)
    (case xm_NoForth_NoYear => k_is)
    (case xm_NoOrder_NoYear => k_is)
    (case xm_NoStand_NoYear => k_is)
    (case xm_NoYear_NoYear => k_is)
    (case xm_Sealed_NoYear => k_is)
    (case xm_Taken_NoYear => k_is)
    (case xs_NoYear_ValueError => k_is)
    (case xm_BadDay_Sealed => k_is)
    (case xm_BadFeast_Sealed => k_is)
    (case xm_BadYear_Sealed => k_is)
    (case xm_FeastError_Sealed => k_is)
    (case xs_Sealed_IndexError => k_is)
    (case xs_Sealed_KeyError => k_is)
    (case xm_NoBack_Sealed => k_is)
    (case xm_NoDay_Sealed => k_is)
    (case xm_NoFeast_Sealed => k_is)
    (case xm_NoForth_Sealed => k_is)
    (case xm_NoOrder_Sealed => k_is)
    (case xm_NoStand_Sealed => k_is)
    (case xm_NoYear_Sealed => k_is)
    (case xm_Sealed_Sealed => k_is)
    (case xm_Taken_Sealed => k_is)
    (case xs_Sealed_ValueError => k_is)
    (case xm_BadDay_Taken => k_is)
    (case xm_BadFeast_Taken => k_is)
    (case xm_BadYear_Taken => k_is)
    (case xm_FeastError_Taken => k_is)
    (case xs_Taken_IndexError => k_is)
    (case xs_Taken_KeyError => k_is)
    (case xm_NoBack_Taken => k_is)
    (case xm_NoDay_Taken => k_is)
    (case xm_NoFeast_Taken => k_is)
    (case xm_NoForth_Taken => k_is)
    (case xm_NoOrder_Taken => k_is)
    (case xm_NoStand_Taken => k_is)
    (case xm_NoYear_Taken => k_is)
    (case xm_Sealed_Taken => k_is)
    (case xm_Taken_Taken => k_is)
    (case xs_Taken_ValueError => k_is)
    (case xn_Sealed_day => k_is)
    (case xn_Sealed_number => k_is)
    (case xn_Sealed_year => k_is)
    (case oc_Sealed => k_is)
    (case os_Sealed => k_is)
    (case oe_Sealed => k_is)
    (case ot_Sealed => k_is)
    (case ok_Sealed => k_is)
    (case oi_Sealed => k_is)
    (case of_Sealed => k_is)
    (case ol_Sealed => k_is)
    (case oo_Sealed => k_is)
    (case op_Sealed => k_is)