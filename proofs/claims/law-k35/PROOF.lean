import PyProof.Rows.All
import HandS.ForMost
import HandS.Wide
import HandS.IsInst
import KE.KDictKeyed
import HandS.TupAny
import HandS.Deep
import HandS.Text
import HandS.WordsDict
import KE.SortData
import KE.DataEq
import HandS.Conv
import HandS.More
import HandS.DictComp
import KE.KDictDisplayH
import HandS.EndBits
import KE.GoesEnum
import PySem.Challenge.RW_unseenswap_k35_whole_machine_runs
set_option Elab.async false
set_option linter.all false
set_option maxRecDepth 100000
namespace G
open PySem PySem.Spec PyProof.Rows L2
inductive D where
  | non | bl (b : Bool) | int (i : Int) | str (x : Str)
  | tup (ds : List D)
  | lst (m : Bool) (ds : List D)
  | dct (m : Bool) (ks : List D) (vs : List D)
  | set (m : Bool) (ds : List D)
  | hole
  deriving Inhabited
inductive VT where
  | mk (v : V) (ks : List VT)
def VT.v : VT → V
  | .mk v _ => v
def VT.ks : VT → List VT
  | .mk _ ks => ks
mutual
def D.pure : D → Bool
  | .non => true
  | .bl _ => true
  | .int _ => true
  | .str _ => true
  | .tup ds => D.pureL ds
  | .lst m ds => !m && D.pureL ds
  | .dct m ks vs => !m && D.pureL vs
  | .set m ds => !m
  | .hole => false
def D.pureL : List D → Bool
  | [] => true
  | d :: ds => d.pure && D.pureL ds
end
def vad : V → List Addr
  | .ref a => [a]
  | _ => []
mutual
def fp : D → VT → List Addr
  | .non, _ => []
  | .bl _, _ => []
  | .int _, _ => []
  | .str _, _ => []
  | .tup ds, .mk _ ks => fpL ds ks
  | .lst true ds, .mk v ks => vad v ++ fpL ds ks
  | .lst false _, _ => []
  | .dct true _ vs, .mk v ks => vad v ++ fpL vs ks
  | .dct false _ _, _ => []
  | .set true _, .mk v _ => vad v
  | .set false _, _ => []
  | .hole, _ => []
def fpL : List D → List VT → List Addr
  | d :: ds, t :: ts => fp d t ++ fpL ds ts
  | [], _ => []
  | _ :: _, [] => []
end
mutual
def keyD : NestedKey → D
  | .none => .non
  | .num i => .int i
  | .text x => .str x
  | .tup ks => .tup (keyDL ks)
def keyDL : List NestedKey → List D
  | [] => []
  | k :: ks => keyD k :: keyDL ks
end
def keyS : Key → D
  | .inl i => .int i
  | .inr x => .str x
theorem SqL.ofK {K : PySem.W.Frag} {a : Addr} {xs : List V} (h : SqL K (fun _ => none) a xs) (H : Hp) : SqL K H a xs := by
  rcases h with h | h
  · rcases h with h | ⟨o, h⟩ <;> cases h
  · exact .inr h
section
variable (P : Program) (w : World) (K : PySem.W.Frag)
def dN (a : Addr) (kvs : List (NestedKey × Addr × V)) : HO := .ext fun h =>
  ∃ xs : List (NestedKey × Addr × Value), Paired (fun (p : NestedKey × Addr × V) (q : NestedKey × Addr × Value) => p.1 = q.1 ∧ p.2.1 = q.2.1 ∧ RelV p.2.2 q.2.2) kvs xs ∧
    kvs.length ≤ sizeLine ∧ (a == sysModules) = false ∧
    ∃ o es ep, h.get? a = some o ∧ o.ExactDict ∧ o.data = .dict es ep ∧ es.toList = xs.map (entryOfKey (nestedKind P w)) ∧ (xs.map (·.1)).Nodup
variable (Z : Addr → Prop) (H : Hp)
mutual
def Own : D → VT → Prop
  | .non, t => t.v = .non
  | .bl b, t => t.v = .bl b
  | .int i, t => t.v = .int i
  | .str x, t => t.v = .str x
  | .tup ds, .mk v ks => ∃ a, v = .ref a ∧ SqT K H a (ks.map VT.v) ∧ OwnL ds ks
  | .lst true ds, .mk v ks => ∃ a, v = .ref a ∧ H a = some (.lst (ks.map VT.v)) ∧ OwnL ds ks
  | .lst false ds, .mk v ks => ∃ a, v = .ref a ∧ (Z a ∨ SqL K (fun _ => none) a (ks.map VT.v)) ∧ SqL K H a (ks.map VT.v) ∧ D.pureL ds = true ∧ OwnL ds ks
  | .dct m dk ds, .mk v ks => ∃ a, v = .ref a ∧ (m = false → Z a ∧ D.pureL ds = true) ∧ dk.Nodup ∧
      ((∃ kvs : List (Key × V), H a = some (.dK kvs) ∧ dk = kvs.map (fun p => keyS p.1) ∧ ks.map VT.v = kvs.map (·.2)) ∨
       (∃ xs : List (NestedKey × Addr × V), xs ≠ [] ∧ H a = some (dN P w a xs) ∧ dk = xs.map (fun x => keyD x.1) ∧ ks.map VT.v = xs.map (·.2.2) ∧
          ∀ x ∈ xs, Dp K H (.ref x.2.1) x.1.data ∧ x.1.depth ≤ 8)) ∧ OwnL ds ks
  | .set m ds, .mk v ks => False
  | .hole, _ => True
def OwnL : List D → List VT → Prop
  | [], [] => True
  | d :: ds, t :: ts => Own d t ∧ OwnL ds ts
  | [], _ :: _ => False
  | _ :: _, [] => False
end
end
end G
set_option Elab.async false
set_option linter.all false
set_option maxRecDepth 100000
namespace G
open PySem PySem.Spec PyProof.Rows L2
def mutO : HO → Prop
  | .lst _ => True
  | .dK _ => True
  | .ext _ => True
  | _ => False
def Kp (S : Addr → Prop) (H H' : Hp) : Prop := ∀ a o, H a = some o → (mutO o → ¬ S a) → H' a = some o
theorem Kp.refl {S : Addr → Prop} {H : Hp} : Kp S H H := fun _ _ h _ => h
theorem Kp.mono {S S' : Addr → Prop} {H H' : Hp} (k : Kp S H H') (h : ∀ a, S a → S' a) : Kp S' H H' := fun a o e q => k a o e fun m z => q m (h a z)
theorem Kp.rd {S : Addr → Prop} {H H' : Hp} (k : Kp S H H') {a : Addr} {u : HO} (h : Rd H a u) (hu : mutO u → ¬ S a) : Rd H' a u := by
  rcases h with h | ⟨o, h⟩
  · exact .inl (k a _ h hu)
  · exact .inr ⟨o, k a _ h fun m => m.elim⟩
theorem Kp.tup {K : PySem.W.Frag} {S : Addr → Prop} {H H' : Hp} (k : Kp S H H') {a : Addr} {xs : List V} (h : SqT K H a xs) : SqT K H' a xs := by
  rcases h with h | h
  · exact .inl (k.rd h fun m => m.elim)
  · exact .inr h
theorem Kp.lst {K : PySem.W.Frag} {S : Addr → Prop} {H H' : Hp} (k : Kp S H H') {a : Addr} {xs : List V} (h : SqL K H a xs) (hs : ¬ S a) : SqL K H' a xs := by
  rcases h with h | h
  · exact .inl (k.rd h fun _ => hs)
  · exact .inr h
mutual
theorem Kp.key {K : PySem.W.Frag} {S : Addr → Prop} {H H' : Hp} (k : Kp S H H') : ∀ {n : NestedKey} {v : V}, Dp K H v n.data → Dp K H' v n.data
  | .none, v, h => by
    rw [NestedKey.data] at *
    cases h; exact .non
  | .num i, v, h => by
    rw [NestedKey.data] at *
    cases h; exact .int _
  | .text x, v, h => by
    rw [NestedKey.data] at *
    cases h; exact .str _
  | .tup ks, v, h => by
    rw [NestedKey.data] at *
    cases h with
    | tup h1 h2 => exact .tup (k.tup h1) (Kp.keyL k h2)
theorem Kp.keyL {K : PySem.W.Frag} {S : Addr → Prop} {H H' : Hp} (k : Kp S H H') : ∀ {n : List NestedKey} {v : List V}, DpAll K H v (NestedKey.datas n) → DpAll K H' v (NestedKey.datas n)
  | [], v, h => by
    rw [NestedKey.datas] at *
    cases h; exact .nil
  | n :: ns, v, h => by
    rw [NestedKey.datas] at *
    cases h with
    | cons h1 h2 => exact .cons (Kp.key k h1) (Kp.keyL k h2)
end
section
variable {P : Program} {w : World} {K : PySem.W.Frag} {Z Z' : Addr → Prop} {H H' : Hp}
theorem fp_tup {ds : List D} {t : VT} : fp (.tup ds) t = fpL ds t.ks := by
  cases t; rw [fp]; rfl
theorem fp_lst {ds : List D} {t : VT} {a : Addr} (h : t.v = .ref a) : fp (.lst true ds) t = a :: fpL ds t.ks := by
  cases t with
  | mk v ks => obtain rfl : v = .ref a := h; rw [fp]; rfl
theorem fp_dct {ks vs : List D} {t : VT} {a : Addr} (h : t.v = .ref a) : fp (.dct true ks vs) t = a :: fpL vs t.ks := by
  cases t with
  | mk v ks => obtain rfl : v = .ref a := h; rw [fp]; rfl
theorem pureL_mem : ∀ {ds : List D}, D.pureL ds = true → ∀ d ∈ ds, d.pure = true
  | [], _, _, h => by cases h
  | d :: ds, h, x, hx => by
    rw [D.pureL, Bool.and_eq_true] at h
    rcases List.mem_cons.mp hx with rfl | hx
    · exact h.1
    · exact pureL_mem h.2 x hx
theorem pureL_of : ∀ {ds : List D}, (∀ d ∈ ds, d.pure = true) → D.pureL ds = true
  | [], _ => by rw [D.pureL]
  | d :: ds, h => by rw [D.pureL, h d List.mem_cons_self, pureL_of fun x hx => h x (List.mem_cons_of_mem _ hx)]; rfl
mutual
theorem fp_pure : ∀ {d : D} {t : VT}, d.pure = true → fp d t = []
  | .non, t, _ => by rw [fp]
  | .bl _, t, _ => by rw [fp]
  | .int _, t, _ => by rw [fp]
  | .str _, t, _ => by rw [fp]
  | .tup ds, t, h => by rw [fp_tup]; rw [D.pure] at h; exact fpL_pure h
  | .lst true ds, t, h => by
    rw [D.pure, Bool.and_eq_true] at h
    exact absurd h.1 (by decide)
  | .lst false ds, t, h => by rw [fp]
  | .dct true ks vs, t, h => by
    rw [D.pure, Bool.and_eq_true] at h
    exact absurd h.1 (by decide)
  | .dct false ks vs, t, h => by rw [fp]
  | .set true ds, t, h => by
    rw [D.pure] at h
    exact absurd h (by decide)
  | .set false ds, t, h => by rw [fp]
  | .hole, t, h => by rw [D.pure] at h; cases h
theorem fpL_pure : ∀ {ds : List D} {ts : List VT}, D.pureL ds = true → fpL ds ts = []
  | [], ts, _ => by rw [fpL]
  | d :: ds, [], h => by rw [fpL]
  | d :: ds, t :: ts, h => by
    rw [D.pureL, Bool.and_eq_true] at h
    rw [fpL, fp_pure h.1, fpL_pure h.2]; rfl
end
mutual
theorem Own.frame {S : Addr → Prop} (k : Kp S H H') (hz : ∀ a, Z a → ¬ S a) (zz : ∀ a, Z a → Z' a) : ∀ {d : D} {t : VT}, (∀ a ∈ fp d t, ¬ S a) → Own P w K Z H d t → Own P w K Z' H' d t
  | .non, t, _, h => by rw [Own] at *; exact h
  | .bl _, t, _, h => by rw [Own] at *; exact h
  | .int _, t, _, h => by rw [Own] at *; exact h
  | .str _, t, _, h => by rw [Own] at *; exact h
  | .tup ds, .mk v ks, hs, h => by
    rw [Own] at *
    rw [fp] at hs
    obtain ⟨a, e, h1, h2⟩ := h
    exact ⟨a, e, k.tup h1, OwnL.frame k hz zz hs h2⟩
  | .lst true ds, .mk v ks, hs, h => by
    rw [Own] at *
    obtain ⟨a, e, h1, h2⟩ := h
    subst e
    rw [fp, vad, List.singleton_append] at hs
    exact ⟨a, rfl, k a _ h1 fun _ => hs a List.mem_cons_self, OwnL.frame k hz zz (fun b hb => hs b (List.mem_cons_of_mem _ hb)) h2⟩
  | .lst false ds, .mk v ks, hs, h => by
    rw [Own] at *
    obtain ⟨a, e, h1, h2, h3, h4⟩ := h
    exact ⟨a, e, h1.imp (zz a) id, h1.elim (fun z => k.lst h2 (hz a z)) (fun q => SqL.ofK q H'), h3, OwnL.frame k hz zz (by rw [fpL_pure h3]; intro _ z; cases z) h4⟩
  | .dct m dk ds, .mk v ks, hs, h => by
    rw [Own] at *
    obtain ⟨a, e, h0, hn, h1, h2⟩ := h
    subst e
    have hsa : ¬ S a ∧ ∀ b ∈ fpL ds ks, ¬ S b := by
      cases m with
      | true => rw [fp, vad, List.singleton_append] at hs; exact ⟨hs a List.mem_cons_self, fun b hb => hs b (List.mem_cons_of_mem _ hb)⟩
      | false => exact ⟨hz a (h0 rfl).1, by rw [fpL_pure (h0 rfl).2]; intro _ z; cases z⟩
    refine ⟨a, rfl, fun e => ⟨zz a (h0 e).1, (h0 e).2⟩, hn, ?_, OwnL.frame k hz zz hsa.2 h2⟩
    rcases h1 with ⟨kvs, q, r⟩ | ⟨xs, q0, q, r1, r2, r3⟩
    · exact .inl ⟨kvs, k a _ q fun _ => hsa.1, r⟩
    · exact .inr ⟨xs, q0, k a _ q fun _ => hsa.1, r1, r2, fun x hx => ⟨Kp.key k (r3 x hx).1, (r3 x hx).2⟩⟩
  | .set m ds, .mk v ks, hs, h => by rw [Own] at h; exact h.elim
  | .hole, t, hs, h => by rw [Own]; trivial
theorem OwnL.frame {S : Addr → Prop} (k : Kp S H H') (hz : ∀ a, Z a → ¬ S a) (zz : ∀ a, Z a → Z' a) : ∀ {ds : List D} {ts : List VT}, (∀ a ∈ fpL ds ts, ¬ S a) → OwnL P w K Z H ds ts → OwnL P w K Z' H' ds ts
  | [], [], _, h => by rw [OwnL] at *; trivial
  | d :: ds, t :: ts, hs, h => by
    rw [OwnL] at *
    rw [fpL] at hs
    exact ⟨Own.frame k hz zz (fun a ha => hs a (List.mem_append_left _ ha)) h.1, OwnL.frame k hz zz (fun a ha => hs a (List.mem_append_right _ ha)) h.2⟩
  | [], _ :: _, _, h => by rw [OwnL] at h; exact h.elim
  | _ :: _, [], _, h => by rw [OwnL] at h; exact h.elim
end
def Stands (H : Hp) (a : Addr) : Prop := ∃ o, H a = some o ∧ mutO o
mutual
theorem Own.stands : ∀ {d : D} {t : VT}, Own P w K Z H d t → ∀ a ∈ fp d t, Stands H a
  | .non, t, _, a, ha => by rw [fp_pure rfl] at ha; cases ha
  | .bl _, t, _, a, ha => by rw [fp_pure rfl] at ha; cases ha
  | .int _, t, _, a, ha => by rw [fp_pure rfl] at ha; cases ha
  | .str _, t, _, a, ha => by rw [fp_pure rfl] at ha; cases ha
  | .tup ds, .mk v ks, h, a, ha => by
    rw [Own] at h
    rw [fp] at ha
    obtain ⟨_, _, _, h2⟩ := h
    exact OwnL.stands h2 a ha
  | .lst true ds, .mk v ks, h, a, ha => by
    rw [Own] at h
    obtain ⟨b, e, h1, h2⟩ := h
    subst e
    rw [fp, vad, List.singleton_append] at ha
    rcases List.mem_cons.mp ha with rfl | ha
    · exact ⟨_, h1, trivial⟩
    · exact OwnL.stands h2 a ha
  | .lst false ds, .mk v ks, h, a, ha => by rw [fp] at ha; cases ha
  | .dct true dk ds, .mk v ks, h, a, ha => by
    rw [Own] at h
    obtain ⟨b, e, h0, hn, h1, h2⟩ := h
    subst e
    rw [fp, vad, List.singleton_append] at ha
    rcases List.mem_cons.mp ha with rfl | ha
    · rcases h1 with ⟨kvs, q, r⟩ | ⟨xs, _, q, r⟩
      · exact ⟨_, q, trivial⟩
      · exact ⟨_, q, trivial⟩
    · exact OwnL.stands h2 a ha
  | .dct false dk ds, .mk v ks, h, a, ha => by rw [fp] at ha; cases ha
  | .set m ds, .mk v ks, h, a, ha => by rw [Own] at h; exact h.elim
  | .hole, t, h, a, ha => by rw [fp] at ha; cases ha
theorem OwnL.stands : ∀ {ds : List D} {ts : List VT}, OwnL P w K Z H ds ts → ∀ a ∈ fpL ds ts, Stands H a
  | [], [], _, a, ha => by rw [fpL] at ha; cases ha
  | d :: ds, t :: ts, h, a, ha => by
    rw [OwnL] at h
    rw [fpL] at ha
    rcases List.mem_append.mp ha with ha | ha
    · exact Own.stands h.1 a ha
    · exact OwnL.stands h.2 a ha
  | [], _ :: _, h, a, ha => by rw [OwnL] at h; exact h.elim
  | _ :: _, [], h, a, ha => by rw [OwnL] at h; exact h.elim
end
def D.kids : D → List D
  | .tup ds => ds
  | .lst _ ds => ds
  | .dct _ _ vs => vs
  | _ => []
def D.setKid (d : D) (n : Nat) (x : D) : D :=
  match d with
  | .tup ds => .tup (ds.set n x)
  | .lst m ds => .lst m (ds.set n x)
  | .dct m ks vs => .dct m ks (vs.set n x)
  | d => d
def D.at : D → List Nat → Option D
  | d, [] => some d
  | d, n :: p => (d.kids[n]?).bind fun c => c.at p
def D.put : D → List Nat → D → D
  | _, [], x => x
  | d, n :: p, x => match d.kids[n]? with
    | some c => d.setKid n (c.put p x)
    | none => d
def VT.at : VT → List Nat → Option VT
  | t, [] => some t
  | t, n :: p => (t.ks[n]?).bind fun c => c.at p
def VT.put : VT → List Nat → VT → VT
  | _, [], x => x
  | t, n :: p, x => match t.ks[n]? with
    | some c => .mk t.v (t.ks.set n (c.put p x))
    | none => t
theorem OwnL.length : ∀ {ds : List D} {ts : List VT}, OwnL P w K Z H ds ts → ds.length = ts.length
  | [], [], _ => rfl
  | d :: ds, t :: ts, h => by
    rw [OwnL] at h
    rw [List.length_cons, List.length_cons, OwnL.length h.2]
  | [], _ :: _, h => by rw [OwnL] at h; exact h.elim
  | _ :: _, [], h => by rw [OwnL] at h; exact h.elim
theorem OwnL.get : ∀ {ds : List D} {ts : List VT} {n : Nat} {d : D}, OwnL P w K Z H ds ts → ds[n]? = some d → ∃ t, ts[n]? = some t ∧ Own P w K Z H d t
  | [], _, n, d, _, e => by simp at e
  | _ :: _, [], _, _, h, _ => by rw [OwnL] at h; exact h.elim
  | d :: ds, t :: ts, 0, x, h, e => by
    rw [OwnL] at h
    simp only [List.getElem?_cons_zero, Option.some.injEq] at e
    subst e
    exact ⟨t, rfl, h.1⟩
  | d :: ds, t :: ts, n + 1, x, h, e => by
    rw [OwnL] at h
    exact OwnL.get (n := n) h.2 (by simpa using e)
theorem OwnL.set : ∀ {ds : List D} {ts : List VT} {n : Nat} {d : D} {t : VT}, OwnL P w K Z H ds ts → Own P w K Z H d t → OwnL P w K Z H (ds.set n d) (ts.set n t)
  | [], [], _, _, _, h, _ => h
  | _ :: _, [], _, _, _, h, _ => by rw [OwnL] at h; exact h.elim
  | [], _ :: _, _, _, _, h, _ => by rw [OwnL] at h; exact h.elim
  | d :: ds, t :: ts, 0, x, y, h, e => by
    rw [OwnL] at h
    rw [List.set_cons_zero, List.set_cons_zero, OwnL]
    exact ⟨e, h.2⟩
  | d :: ds, t :: ts, n + 1, x, y, h, e => by
    rw [OwnL] at h
    rw [List.set_cons_succ, List.set_cons_succ, OwnL]
    exact ⟨h.1, OwnL.set h.2 e⟩
theorem OwnL.append : ∀ {ds es : List D} {ts us : List VT}, OwnL P w K Z H ds ts → OwnL P w K Z H es us → OwnL P w K Z H (ds ++ es) (ts ++ us)
  | [], _, [], _, _, h => h
  | _ :: _, _, [], _, h, _ => by rw [OwnL] at h; exact h.elim
  | [], _, _ :: _, _, h, _ => by rw [OwnL] at h; exact h.elim
  | d :: ds, es, t :: ts, us, h, e => by
    rw [OwnL] at h
    rw [List.cons_append, List.cons_append, OwnL]
    exact ⟨h.1, OwnL.append h.2 e⟩
theorem OwnL.take : ∀ {ds : List D} {ts : List VT} (n : Nat), OwnL P w K Z H ds ts → OwnL P w K Z H (ds.take n) (ts.take n)
  | [], [], n, h => by simpa using h
  | _ :: _, [], _, h => by rw [OwnL] at h; exact h.elim
  | [], _ :: _, _, h => by rw [OwnL] at h; exact h.elim
  | d :: ds, t :: ts, 0, h => by rw [List.take_zero, List.take_zero, OwnL]; trivial
  | d :: ds, t :: ts, n + 1, h => by
    rw [OwnL] at h
    rw [List.take_succ_cons, List.take_succ_cons, OwnL]
    exact ⟨h.1, OwnL.take n h.2⟩
theorem OwnL.drop : ∀ {ds : List D} {ts : List VT} (n : Nat), OwnL P w K Z H ds ts → OwnL P w K Z H (ds.drop n) (ts.drop n)
  | [], [], n, h => by simpa using h
  | _ :: _, [], _, h => by rw [OwnL] at h; exact h.elim
  | [], _ :: _, _, h => by rw [OwnL] at h; exact h.elim
  | d :: ds, t :: ts, 0, h => h
  | d :: ds, t :: ts, n + 1, h => by
    rw [OwnL] at h
    rw [List.drop_succ_cons, List.drop_succ_cons]
    exact OwnL.drop n h.2
theorem fpL_split : ∀ {ds : List D} {ts : List VT} {n : Nat} {c : D} {tc : VT}, ds[n]? = some c → ts[n]? = some tc →
    ∃ pre post, fpL ds ts = pre ++ fp c tc ++ post ∧ ∀ c' tc', fpL (ds.set n c') (ts.set n tc') = pre ++ fp c' tc' ++ post
  | [], _, _, _, _, e, _ => by simp at e
  | _ :: _, [], _, _, _, _, e => by simp at e
  | d :: ds, t :: ts, 0, c, tc, e, e' => by
    simp only [List.getElem?_cons_zero, Option.some.injEq] at e e'
    subst e e'
    refine ⟨[], fpL ds ts, by rw [fpL]; simp, fun c' tc' => ?_⟩
    rw [List.set_cons_zero, List.set_cons_zero, fpL]; simp
  | d :: ds, t :: ts, n + 1, c, tc, e, e' => by
    obtain ⟨pre, post, h1, h2⟩ := fpL_split (ds := ds) (ts := ts) (n := n) (c := c) (tc := tc) (by simpa using e) (by simpa using e')
    refine ⟨fp d t ++ pre, post, by rw [fpL, h1]; simp, fun c' tc' => ?_⟩
    rw [List.set_cons_succ, List.set_cons_succ, fpL, h2]; simp
theorem Own.kid {d c : D} {t : VT} {n : Nat} (h : Own P w K Z H d t) (e : d.kids[n]? = some c) : ∃ tc, t.ks[n]? = some tc ∧ Own P w K Z H c tc := by
  cases t with
  | mk v ks =>
    cases d with
    | tup ds => rw [Own] at h; obtain ⟨_, _, _, h2⟩ := h; exact h2.get e
    | lst m ds =>
      cases m with
      | true => rw [Own] at h; obtain ⟨_, _, _, h2⟩ := h; exact h2.get e
      | false => rw [Own] at h; obtain ⟨_, _, _, _, _, h2⟩ := h; exact h2.get e
    | dct m dk ds => rw [Own] at h; obtain ⟨_, _, _, _, _, h2⟩ := h; exact h2.get e
    | set m ds => rw [Own] at h; exact h.elim
    | _ => cases e
theorem Own.at : ∀ {p : List Nat} {d c : D} {t : VT}, Own P w K Z H d t → d.at p = some c → ∃ tc, t.at p = some tc ∧ Own P w K Z H c tc
  | [], d, c, t, h, e => by
    rw [D.at] at e
    cases e
    exact ⟨t, by rw [VT.at], h⟩
  | n :: p, d, c, t, h, e => by
    rw [D.at] at e
    obtain ⟨b, e1, e2⟩ := Option.bind_eq_some_iff.mp e
    obtain ⟨tb, f1, h1⟩ := h.kid e1
    obtain ⟨tc, f2, h2⟩ := Own.at (p := p) h1 e2
    exact ⟨tc, by rw [VT.at, f1]; exact f2, h2⟩
theorem kid_pure {d c : D} {n : Nat} (h : d.pure = true) (e : d.kids[n]? = some c) : c.pure = true := by
  cases d with
  | tup ds => rw [D.pure] at h; exact pureL_mem h c (List.mem_of_getElem? e)
  | lst m ds => rw [D.pure, Bool.and_eq_true] at h; exact pureL_mem h.2 c (List.mem_of_getElem? e)
  | dct m dk ds => rw [D.pure, Bool.and_eq_true] at h; exact pureL_mem h.2 c (List.mem_of_getElem? e)
  | _ => cases e
theorem at_pure : ∀ {p : List Nat} {d c : D}, d.pure = true → d.at p = some c → c.pure = true
  | [], d, c, h, e => by rw [D.at] at e; cases e; exact h
  | n :: p, d, c, h, e => by
    rw [D.at] at e
    obtain ⟨b, e1, e2⟩ := Option.bind_eq_some_iff.mp e
    exact at_pure (p := p) (kid_pure h e1) e2
theorem kid_split {d c : D} {t tc : VT} {n : Nat} (h : Own P w K Z H d t) (np : c.pure = false) (e : d.kids[n]? = some c) (e' : t.ks[n]? = some tc) :
    ∃ pre post, fp d t = pre ++ fp c tc ++ post ∧ ∀ c' tc', fp (d.setKid n c') (.mk t.v (t.ks.set n tc')) = pre ++ fp c' tc' ++ post := by
  cases t with
  | mk v ks =>
    cases d with
    | tup ds =>
      obtain ⟨pre, post, h1, h2⟩ := fpL_split (ds := ds) (ts := ks) e e'
      exact ⟨pre, post, by rw [fp, h1], fun c' tc' => by rw [D.setKid, fp, VT.ks, h2]⟩
    | lst m ds =>
      cases m with
      | true =>
        rw [Own] at h
        obtain ⟨a, rfl, _⟩ := h
        obtain ⟨pre, post, h1, h2⟩ := fpL_split (ds := ds) (ts := ks) e e'
        exact ⟨a :: pre, post, by rw [fp, h1]; rfl, fun c' tc' => by rw [D.setKid, VT.v, fp, VT.ks, h2]; rfl⟩
      | false =>
        rw [Own] at h
        obtain ⟨_, _, _, _, hp, _⟩ := h
        rw [pureL_mem hp c (List.mem_of_getElem? e)] at np
        cases np
    | dct m dk ds =>
      cases m with
      | true =>
        rw [Own] at h
        obtain ⟨a, rfl, _⟩ := h
        obtain ⟨pre, post, h1, h2⟩ := fpL_split (ds := ds) (ts := ks) e e'
        exact ⟨a :: pre, post, by rw [fp, h1]; rfl, fun c' tc' => by rw [D.setKid, VT.v, fp, VT.ks, h2]; rfl⟩
      | false =>
        rw [Own] at h
        obtain ⟨_, _, hp, _⟩ := h
        rw [pureL_mem (hp rfl).2 c (List.mem_of_getElem? e)] at np
        cases np
    | _ => cases e
theorem at_split : ∀ {p : List Nat} {d c : D} {t tc : VT}, Own P w K Z H d t → c.pure = false → d.at p = some c → t.at p = some tc →
    ∃ pre post, fp d t = pre ++ fp c tc ++ post ∧ ∀ c' tc', fp (d.put p c') (t.put p tc') = pre ++ fp c' tc' ++ post
  | [], d, c, t, tc, h, np, e, e' => by
    rw [D.at] at e; rw [VT.at] at e'
    cases e; cases e'
    exact ⟨[], [], by simp, fun c' tc' => by rw [D.put, VT.put]; simp⟩
  | n :: p, d, c, t, tc, h, np, e, e' => by
    rw [D.at] at e; rw [VT.at] at e'
    obtain ⟨b, e1, e2⟩ := Option.bind_eq_some_iff.mp e
    obtain ⟨tb, f1, f2⟩ := Option.bind_eq_some_iff.mp e'
    obtain ⟨tb', f1', h1⟩ := h.kid e1
    rw [f1] at f1'; cases f1'
    have npb : b.pure = false := by
      cases q : b.pure with
      | false => rfl
      | true => rw [at_pure q e2] at np; cases np
    obtain ⟨pre, post, q1, q2⟩ := at_split (p := p) h1 np e2 f2
    obtain ⟨pre', post', r1, r2⟩ := kid_split h npb e1 f1
    refine ⟨pre' ++ pre, post ++ post', by rw [r1, q1]; simp, fun c' tc' => ?_⟩
    rw [D.put, VT.put, e1, f1]
    show fp (d.setKid n (b.put p c')) (.mk t.v (t.ks.set n (tb.put p tc'))) = _
    rw [r2, q2]; simp
end
end G
set_option Elab.async false
set_option linter.all false
set_option maxRecDepth 100000
namespace G
open PySem PySem.Spec PyProof.Rows L2
section
variable {P : Program} {w : World} {K : PySem.W.Frag} {Z Z' : Addr → Prop} {H H' : Hp}
theorem map_set_same {ts : List VT} {n : Nat} {tc tc' : VT} (e : ts[n]? = some tc) (hv : tc'.v = tc.v) : (ts.set n tc').map VT.v = ts.map VT.v := by
  rw [List.map_set, hv]
  refine List.ext_getElem? fun i => ?_
  by_cases h : i = n
  · subst h
    have hl : i < (ts.map VT.v).length := by rw [List.length_map]; exact (List.getElem?_eq_some_iff.mp e).1
    rw [List.getElem?_set_self hl, List.getElem?_map, e]; rfl
  · rw [List.getElem?_set_ne (Ne.symm h)]
theorem OwnL.setF {S : Addr → Prop} (k : Kp S H H') (hz : ∀ a, Z a → ¬ S a) (zz : ∀ a, Z a → Z' a) : ∀ {ds : List D} {ts : List VT} {n : Nat} {c c' : D} {tc tc' : VT}, OwnL P w K Z H ds ts → (fpL ds ts).Nodup → ds[n]? = some c → ts[n]? = some tc →
    (∀ a, S a → a ∈ fp c tc) → Own P w K Z' H' c' tc' → OwnL P w K Z' H' (ds.set n c') (ts.set n tc')
  | [], _, _, _, _, _, _, _, _, e, _, _, _ => by simp at e
  | _ :: _, [], _, _, _, _, _, _, _, _, e, _, _ => by simp at e
  | d :: ds, t :: ts, 0, c, c', tc, tc', h, nd, e, e', hs, h1 => by
    simp only [List.getElem?_cons_zero, Option.some.injEq] at e e'
    subst e e'
    rw [OwnL] at h
    rw [fpL] at nd
    rw [List.set_cons_zero, List.set_cons_zero, OwnL]
    exact ⟨h1, OwnL.frame k hz zz (fun a ha z => (List.nodup_append.mp nd).2.2 a (hs a z) a ha rfl) h.2⟩
  | d :: ds, t :: ts, n + 1, c, c', tc, tc', h, nd, e, e', hs, h1 => by
    have e0 : ds[n]? = some c := by simpa using e
    have e1 : ts[n]? = some tc := by simpa using e'
    rw [OwnL] at h
    rw [fpL] at nd
    rw [List.set_cons_succ, List.set_cons_succ, OwnL]
    obtain ⟨pre, post, q, _⟩ := fpL_split e0 e1
    refine ⟨Own.frame k hz zz (fun a ha z => (List.nodup_append.mp nd).2.2 a ha a ?_ rfl) h.1, OwnL.setF k hz zz h.2 (List.nodup_append.mp nd).2.1 e0 e1 hs h1⟩
    rw [q]
    exact List.mem_append_left _ (List.mem_append_right _ (hs a z))
theorem Own.setKid {S : Addr → Prop} {d c c' : D} {t tc tc' : VT} {n : Nat} (h : Own P w K Z H d t) (np : c.pure = false) (e : d.kids[n]? = some c) (e' : t.ks[n]? = some tc) (k : Kp S H H') (hs : ∀ a, S a → a ∈ fp c tc)
    (nd : (fp d t).Nodup) (hz : ∀ a, Z a → ¬ S a) (zz : ∀ a, Z a → Z' a) (h1 : Own P w K Z' H' c' tc') (hv : tc'.v = tc.v) : Own P w K Z' H' (d.setKid n c') (.mk t.v (t.ks.set n tc')) := by
  cases t with
  | mk v ks =>
    have e' : ks[n]? = some tc := e'
    cases d with
    | tup ds =>
      rw [Own] at h
      rw [fp] at nd
      obtain ⟨a, ea, q, h2⟩ := h
      rw [D.setKid, Own]
      refine ⟨a, ea, ?_, OwnL.setF k hz zz h2 nd e e' hs h1⟩
      rw [show List.map VT.v ((VT.mk _ ks).ks.set n tc') = ks.map VT.v from map_set_same e' hv]
      exact k.tup q
    | lst m ds =>
      cases m with
      | true =>
        rw [Own] at h
        obtain ⟨a, ea, q, h2⟩ := h
        subst ea
        rw [fp, vad, List.singleton_append] at nd
        rw [D.setKid, Own]
        have e0 : ds[n]? = some c := e
        obtain ⟨pre, post, qq, _⟩ := fpL_split (ts := ks) e0 e'
        refine ⟨a, rfl, ?_, OwnL.setF k hz zz h2 (List.nodup_cons.mp nd).2 e e' hs h1⟩
        rw [show List.map VT.v ((VT.mk (V.ref a) ks).ks.set n tc') = ks.map VT.v from map_set_same e' hv]
        exact k a _ q fun _ z => (List.nodup_cons.mp nd).1 (by rw [qq]; exact List.mem_append_left _ (List.mem_append_right _ (hs a z)))
      | false =>
        rw [Own] at h
        obtain ⟨_, _, _, _, hp, _⟩ := h
        rw [pureL_mem hp c (List.mem_of_getElem? e)] at np
        cases np
    | dct m dk ds =>
      cases m with
      | true =>
        rw [Own] at h
        obtain ⟨a, ea, hp, hn, q, h2⟩ := h
        subst ea
        rw [fp, vad, List.singleton_append] at nd
        rw [D.setKid, Own]
        have e0 : ds[n]? = some c := e
        obtain ⟨pre, post, qq, _⟩ := fpL_split (ts := ks) e0 e'
        refine ⟨a, rfl, fun z => (nomatch z), hn, ?_, OwnL.setF k hz zz h2 (List.nodup_cons.mp nd).2 e e' hs h1⟩
        rw [show List.map VT.v ((VT.mk (V.ref a) ks).ks.set n tc') = ks.map VT.v from map_set_same e' hv]
        have na : ¬ S a := fun z => (List.nodup_cons.mp nd).1 (by rw [qq]; exact List.mem_append_left _ (List.mem_append_right _ (hs a z)))
        rcases q with ⟨kvs, q, r⟩ | ⟨xs, q0, q, r1, r2, r3⟩
        · exact .inl ⟨kvs, k a _ q fun _ => na, r⟩
        · exact .inr ⟨xs, q0, k a _ q fun _ => na, r1, r2, fun x hx => ⟨Kp.key k (r3 x hx).1, (r3 x hx).2⟩⟩
      | false =>
        rw [Own] at h
        obtain ⟨_, _, hp, _⟩ := h
        rw [pureL_mem (hp rfl).2 c (List.mem_of_getElem? e)] at np
        cases np
    | _ => cases e
theorem VT.put_v {p : List Nat} {t tc tc' : VT} (e : t.at p = some tc) (hv : tc'.v = tc.v) : (t.put p tc').v = t.v := by
  cases p with
  | nil => rw [VT.at] at e; cases e; rw [VT.put]; exact hv
  | cons n p =>
    rw [VT.put]
    split <;> rfl
theorem Own.put {S : Addr → Prop} {c c' : D} {tc tc' : VT} (np : c.pure = false) (k : Kp S H H') (hs : ∀ a, S a → a ∈ fp c tc) (hz : ∀ a, Z a → ¬ S a) (zz : ∀ a, Z a → Z' a) (h1 : Own P w K Z' H' c' tc') (hv : tc'.v = tc.v) :
    ∀ {p : List Nat} {d : D} {t : VT}, Own P w K Z H d t → d.at p = some c → t.at p = some tc → (fp d t).Nodup → Own P w K Z' H' (d.put p c') (t.put p tc')
  | [], d, t, h, e, e', nd => by rw [D.put, VT.put]; exact h1
  | n :: p, d, t, h, e, e', nd => by
    rw [D.at] at e; rw [VT.at] at e'
    obtain ⟨b, e1, e2⟩ := Option.bind_eq_some_iff.mp e
    obtain ⟨tb, f1, f2⟩ := Option.bind_eq_some_iff.mp e'
    obtain ⟨tb', f1', hb⟩ := h.kid e1
    rw [f1] at f1'; cases f1'
    have npb : b.pure = false := by
      cases q : b.pure with
      | false => rfl
      | true => rw [at_pure q e2] at np; cases np
    obtain ⟨pre, post, q1, _⟩ := kid_split h npb e1 f1
    obtain ⟨pre', post', r1, _⟩ := at_split hb np e2 f2
    have ndb : (fp b tb).Nodup := by
      rw [q1] at nd
      exact (List.nodup_append.mp (List.nodup_append.mp nd).1).2.1
    have ih := Own.put np k hs hz zz h1 hv (p := p) hb e2 f2 ndb
    rw [D.put, VT.put, e1, f1]
    exact Own.setKid h npb e1 f1 k (fun a z => by rw [r1]; exact List.mem_append_left _ (List.mem_append_right _ (hs a z))) nd hz zz ih (VT.put_v f2 hv)
inductive Sl where
  | un | val (d : D) | arg (d : D)
  deriving Inhabited
abbrev En := List Sl
def Sl.d? : Sl → Option D
  | .val d => some d
  | .arg d => some d
  | _ => none
def Sl.put (s : Sl) (p : List Nat) (x : D) : Sl :=
  match s with
  | .val d => .val (d.put p x)
  | .arg d => .arg (d.put p x)
  | s => s
def dAt (env : En) (j : Nat) : Option D := (env[j]?).bind Sl.d?
def fps (env : En) (T : Nat → VT) (i : Nat) : List Addr := match dAt env i with
  | some d => fp d (T i)
  | none => []
def AllFp (env : En) (T : Nat → VT) (a : Addr) : Prop := ∃ i, a ∈ fps env T i
variable (P w K)
structure Rel (av : List (V × D)) (Z : Addr → Prop) (env : En) (T : Nat → VT) (σ : L2.St) (H : Hp) : Prop where
  len : env.length = σ.length
  own : ∀ (i : Nat) (d : D), dAt env i = some d → σ[i]? = some (some (T i).v) ∧ Own P w K Z H d (T i)
  arg : ∀ (i : Nat) (d : D), env[i]? = some (Sl.arg d) → ∃ d0, av[i]? = some ((T i).v, d0) ∧ (d0.pure = true → d = d0)
  nd : ∀ i, (fps env T i).Nodup
  dj : ∀ i j a, a ∈ fps env T i → a ∈ fps env T j → i = j
  dz : ∀ i a, a ∈ fps env T i → ¬ Z a
  zs : ∀ a, Z a → H a ≠ none
structure Kept (ms : List Nat) (env : En) (T : Nat → VT) (env' : En) (T' : Nat → VT) : Prop where
  same : ∀ j, j ∉ ms → T' j = T j ∧ env'[j]? = env[j]?
  has : ∀ j, (dAt env j).isSome = true → (dAt env' j).isSome = true
theorem Kept.refl {env : En} {T : Nat → VT} : Kept [] env T env T := ⟨fun _ _ => ⟨rfl, rfl⟩, fun _ h => h⟩
theorem Kept.mono {ms ms' : List Nat} {env env' : En} {T T' : Nat → VT} (k : Kept ms env T env' T') (h : ∀ j ∈ ms, j ∈ ms') : Kept ms' env T env' T' := ⟨fun j q => k.same j fun z => q (h j z), k.has⟩
theorem Kept.trans {ms ms' : List Nat} {e1 e2 e3 : En} {T1 T2 T3 : Nat → VT} (a : Kept ms e1 T1 e2 T2) (b : Kept ms' e2 T2 e3 T3) : Kept (ms ++ ms') e1 T1 e3 T3 :=
  ⟨fun j q => by
    obtain ⟨a1, a2⟩ := a.same j fun z => q (List.mem_append_left _ z)
    obtain ⟨b1, b2⟩ := b.same j fun z => q (List.mem_append_right _ z)
    exact ⟨b1.trans a1, b2.trans a2⟩, fun j h => b.has j (a.has j h)⟩
structure Since (Z : Addr → Prop) (H : Hp) (S : Addr → Prop) (Z' : Addr → Prop) (H' : Hp) (S' : Addr → Prop) : Prop where
  kp : Kp S H H'
  own : ∀ a, S' a → S a ∨ H a = none
  z : ∀ a, Z' a → Z a ∨ S a ∨ H a = none
  zm : ∀ a, Z a → Z' a
variable {P w K}
theorem Since.refl {S : Addr → Prop} : Since Z H S Z H S := ⟨.refl, fun _ h => .inl h, fun _ h => .inl h, fun _ h => h⟩
theorem Since.trans {Z1 Z2 Z3 S1 S2 S3 : Addr → Prop} {H1 H2 H3 : Hp} (a : Since Z1 H1 S1 Z2 H2 S2) (b : Since Z2 H2 S2 Z3 H3 S3) : Since Z1 H1 S1 Z3 H3 S3 := by
  have back : ∀ x, H2 x = none → S1 x ∨ H1 x = none := fun x e => by
    by_cases h : S1 x
    · exact .inl h
    · cases q : H1 x with
      | none => exact .inr rfl
      | some o => rw [a.kp x o q fun _ => h] at e; cases e
  have own : ∀ x, S2 x ∨ H2 x = none → S1 x ∨ H1 x = none := fun x h => h.elim (a.own x) (back x)
  refine ⟨fun x o e q => ?_, fun x h => own x (b.own x h), fun x h => ?_, fun x h => b.zm x (a.zm x h)⟩
  · refine b.kp x o (a.kp x o e q) fun m z => ?_
    rcases a.own x z with h | h
    · exact q m h
    · rw [e] at h; cases h
  · rcases b.z x h with h | h
    · exact a.z x h
    · exact .inr (own x h)
theorem Since.grow {S S' S2 : Addr → Prop} (a : Since Z H S Z' H' S') (h : ∀ x, S x → S2 x) (h' : ∀ x, S2 x → S x ∨ S2 x) : Since Z H S2 Z' H' (fun x => S' x ∨ (S2 x ∧ ¬ S x)) :=
  ⟨a.kp.mono h, fun x q => q.elim (fun q => (a.own x q).imp (h x) id) fun q => .inl q.1, fun x q => (a.z x q).imp id (Or.imp (h x) id), a.zm⟩
theorem Since.weak {S S' S2 : Addr → Prop} (a : Since Z H S Z' H' S') (h : ∀ x, S2 x → S' x) : Since Z H S Z' H' S2 := ⟨a.kp, fun x q => a.own x (h x q), a.z, a.zm⟩
end
end G
set_option Elab.async false
set_option linter.all false
set_option maxRecDepth 100000
namespace G
open PySem PySem.Spec PyProof.Rows L2
inductive R where
  | v (d : D) | p (j : Nat) (π : List Nat)
  deriving Inhabited
def R.get (r : R) (env : En) : Option D :=
  match r with
  | .v d => some d
  | .p j π => (dAt env j).bind fun d => d.at π
def R.ok (r : R) (ms : List Nat) : Bool :=
  match r with
  | .v _ => true
  | .p _ [] => true
  | .p j _ => !ms.contains j
structure ME where
  ms : List Nat
  run : En → Option (R × En)
structure MA where
  ms : List Nat
  run : En → Option (List R × En)
def rfp (r : R) (t : VT) : List Addr := match r with
  | .v d => fp d t
  | .p _ _ => []
def rfpL : List R → List VT → List Addr
  | r :: rs, t :: ts => rfp r t ++ rfpL rs ts
  | [], _ => []
  | _ :: _, [] => []
section
variable (P : Program) (w : World) (K : PySem.W.Frag)
def RRel (Z : Addr → Prop) (env : En) (T : Nat → VT) (H : Hp) (r : R) (t : VT) : Prop := match r with
  | .v d => Own P w K Z H d t ∧ (∀ a ∈ fp d t, ¬ Z a ∧ ¬ AllFp env T a)
  | .p j π => ∃ d c, dAt env j = some d ∧ d.at π = some c ∧ (T j).at π = some t
def RRelL (Z : Addr → Prop) (env : En) (T : Nat → VT) (H : Hp) : List R → List VT → Prop
  | r :: rs, t :: ts => RRel P w K Z env T H r t ∧ RRelL Z env T H rs ts
  | [], [] => True
  | [], _ :: _ => False
  | _ :: _, [] => False
def Done (av : List (V × D)) (Z : Addr → Prop) (env : En) (T : Nat → VT) (σ : L2.St) (H : Hp) (S : Addr → Prop) (ms : List Nat) (r : R) (env' : En) (Q : VK) : Prop :=
  ∀ (H' : Hp) (Z' : Addr → Prop) (T' : Nat → VT) (t : VT), Rel P w K av Z' env' T' σ H' → RRel P w K Z' env' T' H' r t → (rfp r t).Nodup →
    Since Z H S Z' H' (fun a => AllFp env' T' a ∨ a ∈ rfp r t) → Kept ms env T env' T' → Q t.v H'
def tS (m : ME) : TE := fun σ H Q => ∃ av Z env T, Rel P w K av Z env T σ H ∧ ∃ r env', m.run env = some (r, env') ∧ Done P w K av Z env T σ H (AllFp env T) m.ms r env' Q
def DoneA (av : List (V × D)) (Z : Addr → Prop) (env : En) (T : Nat → VT) (σ : L2.St) (H : Hp) (S : Addr → Prop) (ms : List Nat) (rs : List R) (env' : En) (Q : List V → Hp → Prop) : Prop :=
  ∀ (H' : Hp) (Z' : Addr → Prop) (T' : Nat → VT) (ts : List VT), Rel P w K av Z' env' T' σ H' → RRelL P w K Z' env' T' H' rs ts → (rfpL rs ts).Nodup →
    Since Z H S Z' H' (fun a => AllFp env' T' a ∨ a ∈ rfpL rs ts) → Kept ms env T env' T' → Q (ts.map VT.v) H'
def tSA (m : MA) : TA := fun σ H Q => ∃ av Z env T, Rel P w K av Z env T σ H ∧ ∃ rs env', m.run env = some (rs, env') ∧ DoneA P w K av Z env T σ H (AllFp env T) m.ms rs env' Q
end
def SE (X : Cx) (e : Expr) (m : ME) : Prop := PE X e (tS X.prog X.w X.K m)
def SA (X : Cx) (es : List Expr) (m : MA) : Prop := PA X es (tSA X.prog X.w X.K m)
theorem _root_.L2.PE.weak {X : Cx} {e : Expr} {t t' : TE} (h : PE X e t) (k : ∀ σ H Q, t' σ H Q → t σ H Q) : PE X e t' := ⟨fun pins s σ H Q I hw => h.run pins s σ H Q I (k σ H Q hw)⟩
theorem _root_.L2.PA.weak {X : Cx} {es : List Expr} {t t' : TA} (h : PA X es t) (k : ∀ σ H Q, t' σ H Q → t σ H Q) : PA X es t' := ⟨fun pos pins s σ H Q I hw => h.run pos pins s σ H Q I (k σ H Q hw)⟩
section
variable {P : Program} {w : World} {K : PySem.W.Frag} {Z Z' : Addr → Prop} {H H' : Hp} {env env' : En} {T T' : Nat → VT} {σ : L2.St} {av : List (V × D)}
theorem tS_mono {m : ME} {Q Q' : VK} (h : tS P w K m σ H Q) (k : ∀ v H', Q v H' → Q' v H') : tS P w K m σ H Q' := by
  obtain ⟨av, Z, env, T, r1, r, env', e, f⟩ := h
  exact ⟨av, Z, env, T, r1, r, env', e, fun H' Z' T' t a b c d g => k _ _ (f H' Z' T' t a b c d g)⟩
theorem tSA_mono {m : MA} {Q Q' : List V → Hp → Prop} (h : tSA P w K m σ H Q) (k : ∀ v H', Q v H' → Q' v H') : tSA P w K m σ H Q' := by
  obtain ⟨av, Z, env, T, r1, r, env', e, f⟩ := h
  exact ⟨av, Z, env, T, r1, r, env', e, fun H' Z' T' t a b c d g => k _ _ (f H' Z' T' t a b c d g)⟩
theorem Rel.stands (h : Rel P w K av Z env T σ H) {a : Addr} (ha : AllFp env T a) : Stands H a := by
  obtain ⟨i, hi⟩ := ha
  unfold fps at hi
  split at hi
  · rename_i d e
    exact (h.own i d e).2.stands a hi
  · cases hi
theorem RRel.stands {r : R} {t : VT} (h : RRel P w K Z env T H r t) {a : Addr} (ha : a ∈ rfp r t) : Stands H a := by
  cases r with
  | v d => exact h.1.stands a ha
  | p j π => cases ha
theorem Rel.at (h : Rel P w K av Z env T σ H) {r : R} {t : VT} (hr : RRel P w K Z env T H r t) {d : D} (e : r.get env = some d) : Own P w K Z H d t := by
  cases r with
  | v d' => cases e; exact hr.1
  | p j π =>
    obtain ⟨d', c, e1, e2, e3⟩ := hr
    rw [R.get, e1, Option.bind_some, e2] at e
    cases e
    obtain ⟨t', q1, q2⟩ := (h.own j d' e1).2.at e2
    rw [e3] at q1; cases q1
    exact q2
theorem RRel.got {r : R} {t : VT} (hr : RRel P w K Z env T H r t) : ∃ d, r.get env = some d := by
  cases r with
  | v d => exact ⟨d, rfl⟩
  | p j π =>
    obtain ⟨d', c, e1, e2, e3⟩ := hr
    exact ⟨c, by rw [R.get, e1, Option.bind_some, e2]⟩
theorem RRel.carry {r : R} {t : VT} {ms : List Nat} {S' : Addr → Prop} (hr : RRel P w K Z env T H r t) (R1 : Rel P w K av Z env T σ H) (R2 : Rel P w K av Z' env' T' σ H') (sn : Since Z H (AllFp env T) Z' H' S')
    (hS : ∀ a, AllFp env' T' a → S' a) (sm : Kept ms env T env' T') (ok : r.ok ms = true) :
    ∃ t', t'.v = t.v ∧ RRel P w K Z' env' T' H' r t' ∧ rfp r t' = rfp r t := by
  cases r with
  | v d =>
    refine ⟨t, rfl, ⟨hr.1.frame sn.kp (fun a z q => ?_) sn.zm fun a ha q => (hr.2 a ha).2 q, fun a ha => ⟨fun z => ?_, fun z => ?_⟩⟩, rfl⟩
    · obtain ⟨i, hi⟩ := q
      exact R1.dz i a hi z
    · obtain ⟨o, ho, _⟩ := hr.1.stands a ha
      rcases sn.z a z with q | q | q
      · exact (hr.2 a ha).1 q
      · exact (hr.2 a ha).2 q
      · rw [ho] at q; cases q
    · obtain ⟨o, ho, _⟩ := hr.1.stands a ha
      rcases sn.own a (hS a z) with q | q
      · exact (hr.2 a ha).2 q
      · rw [ho] at q; cases q
  | p j π =>
    obtain ⟨d, c, e1, e2, e3⟩ := hr
    cases π with
    | nil =>
      rw [VT.at] at e3; cases e3
      obtain ⟨d', e1'⟩ := Option.isSome_iff_exists.mp (sm.has j (by rw [e1]; rfl))
      have a1 := (R1.own j d e1).1
      have a2 := (R2.own j d' e1').1
      rw [a1] at a2
      refine ⟨T' j, ?_, ⟨d', d', e1', by rw [D.at], by rw [VT.at]⟩, rfl⟩
      injection a2 with a2
      injection a2 with a2
      exact a2.symm
    | cons n π =>
      have hj : j ∉ ms := by
        have ok' : (!ms.contains j) = true := ok
        simpa using ok'
      obtain ⟨q1, q2⟩ := sm.same j hj
      exact ⟨t, rfl, ⟨d, c, by rw [← e1]; unfold dAt; rw [q2], e2, by rw [q1]; exact e3⟩, rfl⟩
def maNil : MA := ⟨[], fun env => some ([], env)⟩
def maCons (a : ME) (as : MA) : MA := ⟨a.ms ++ as.ms, fun env => (a.run env).bind fun x => (as.run x.2).bind fun y => if x.1.ok as.ms then some (x.1 :: y.1, y.2) else none⟩
theorem tSA_nil {Q : List V → Hp → Prop} (h : tSA P w K maNil σ H Q) : tNil σ H Q := by
  obtain ⟨av, Z, env, T, R1, rs, env', e, f⟩ := h
  cases e
  exact f H Z T [] R1 trivial List.nodup_nil ⟨.refl, fun a h => .inl (h.elim id fun z => nomatch z), fun a h => .inl h, fun _ h => h⟩ .refl
theorem tSA_cons {a : ME} {as : MA} {Q : List V → Hp → Prop} (h : tSA P w K (maCons a as) σ H Q) : tCons (tS P w K a) (tSA P w K as) σ H Q := by
  obtain ⟨av, Z, env, T, R1, rs, env', e, f⟩ := h
  obtain ⟨⟨r, e1⟩, q1, e⟩ := Option.bind_eq_some_iff.mp e
  obtain ⟨⟨rs', e2⟩, q2, e⟩ := Option.bind_eq_some_iff.mp e
  by_cases ok : r.ok as.ms = true
  · rw [if_pos ok] at e
    cases e
    refine ⟨av, Z, env, T, R1, r, e1, q1, fun H1 Z1 T1 t1 R2 rr nd sn kk => ?_⟩
    refine ⟨av, Z1, e1, T1, R2, rs', e2, q2, fun H2 Z2 T2 ts R3 rrs nds sn2 kk2 => ?_⟩
    obtain ⟨t', hv, rr', hf⟩ := rr.carry R2 R3 sn2 (fun _ h => .inl h) kk2 ok
    have hr : ∀ x, x ∈ rfp r t1 → ¬ AllFp e1 T1 x := fun x hx => by
      cases r with
      | v d => exact (rr.2 x hx).2
      | p j π => cases hx
    have st : ∀ x, x ∈ rfp r t1 → ¬ H1 x = none := fun x hx z => by
      obtain ⟨o, ho, _⟩ := rr.stands hx
      rw [ho] at z; cases z
    have dis : ∀ x, x ∈ rfp r t1 → x ∉ rfpL rs' ts := fun x hx z => (sn2.own x (.inr z)).elim (hr x hx) (st x hx)
    rw [← hv]
    refine f H2 Z2 T2 (t' :: ts) R3 ⟨rr', rrs⟩ ?_ ?_ (kk.trans kk2)
    · rw [rfpL, hf]
      exact List.nodup_append.mpr ⟨nd, nds, fun x hx y hy e => dis x hx (e ▸ hy)⟩
    · have g : Since Z1 H1 (fun a => AllFp e1 T1 a ∨ a ∈ rfp r t1) Z2 H2 (fun a => AllFp e2 T2 a ∨ a ∈ rfpL (r :: rs') (t' :: ts)) := by
        refine ⟨sn2.kp.mono fun _ h => .inl h, fun x h => ?_, fun x h => ?_, sn2.zm⟩
        · rw [rfpL, hf] at h
          rcases h with h | h
          · exact (sn2.own x (.inl h)).imp .inl id
          · rcases List.mem_append.mp h with h | h
            · exact .inl (.inr h)
            · exact (sn2.own x (.inr h)).imp .inl id
        · rcases sn2.z x h with h | h | h
          · exact .inl h
          · exact .inr (.inl (.inl h))
          · exact .inr (.inr h)
      exact sn.trans g
  · rw [if_neg ok] at e; cases e
theorem sa_nil {X : Cx} : SA X [] maNil := pa_nil.weak fun _ _ _ h => tSA_nil h
theorem sa_cons {X : Cx} {e : Expr} {es : List Expr} {a : ME} {as : MA} (h1 : SE X e a) (h2 : SA X es as) (hs : starEach (e :: es) X.env = (false, eval e X.env) :: starEach es X.env := by rfl) : SA X (e :: es) (maCons a as) :=
  (pa_cons h1 h2 hs).weak fun _ _ _ h => tSA_cons h
end
end G
set_option Elab.async false
set_option linter.all false
set_option maxRecDepth 100000
namespace G
open PySem PySem.Spec PyProof.Rows L2
abbrev Kn := List R → En → Option (R × En)
def mOp (as : MA) (k : Kn) (ms : List Nat) : ME := ⟨as.ms ++ ms, fun env => (as.run env).bind fun x => k x.1 x.2⟩
def gets : List R → En → Option (List D)
  | [], _ => some []
  | r :: rs, env => (r.get env).bind fun d => (gets rs env).bind fun ds => some (d :: ds)
def kf (f : List D → Option D) : Kn := fun rs env => (gets rs env).bind fun ds => (f ds).bind fun d => some (.v d, env)
section
variable (P : Program) (w : World) (K : PySem.W.Frag)
def Step (k : Kn) (ms : List Nat) (xs : List V) (H : Hp) (Q : VK) : Prop :=
  ∃ av Z env T σ rs ts r env', ts.map VT.v = xs ∧ Rel P w K av Z env T σ H ∧ RRelL P w K Z env T H rs ts ∧ (rfpL rs ts).Nodup ∧ k rs env = some (r, env') ∧
    Done P w K av Z env T σ H (fun a => AllFp env T a ∨ a ∈ rfpL rs ts) ms r env' Q
def StepF (f : List D → Option D) (xs : List V) (H : Hp) (Q : VK) : Prop :=
  ∃ Z ds ts d, ts.map VT.v = xs ∧ OwnL P w K Z H ds ts ∧ f ds = some d ∧
    ∀ H' t, Kp (fun _ => False) H H' → Own P w K Z H' d t → (fp d t).Nodup → (∀ a ∈ fp d t, H a = none) → Q t.v H'
end
section
variable {P : Program} {w : World} {K : PySem.W.Frag} {Z Z' : Addr → Prop} {H H' : Hp} {env env' : En} {T T' : Nat → VT} {σ : L2.St} {av : List (V × D)}
theorem tS_op {as : MA} {k : Kn} {ms : List Nat} {Q : VK} (h : tS P w K (mOp as k ms) σ H Q) : tSA P w K as σ H (fun xs H1 => Step P w K k ms xs H1 Q) := by
  obtain ⟨av, Z, env, T, R1, r, env', e, f⟩ := h
  obtain ⟨⟨rs, e1⟩, q1, e⟩ := Option.bind_eq_some_iff.mp e
  refine ⟨av, Z, env, T, R1, rs, e1, q1, fun H1 Z1 T1 ts R2 rr nd sn kk => ?_⟩
  refine ⟨av, Z1, e1, T1, σ, rs, ts, r, env', rfl, R2, rr, nd, e, fun H2 Z2 T2 t R3 rr2 nd2 sn2 kk2 => ?_⟩
  exact f H2 Z2 T2 t R3 rr2 nd2 (sn.trans sn2) (kk.trans kk2)
theorem Rel.kp {S : Addr → Prop} (h : Rel P w K av Z env T σ H) (k : Kp S H H') (hS : ∀ a, S a → ¬ AllFp env T a ∧ ¬ Z a) : Rel P w K av Z env T σ H' :=
  ⟨h.len, fun i d e => ⟨(h.own i d e).1, (h.own i d e).2.frame k (fun a z q => (hS a q).2 z) (fun _ z => z) fun a ha q => (hS a q).1 ⟨i, by unfold fps; rw [e]; exact ha⟩⟩, h.arg, h.nd, h.dj, h.dz, fun a z q => by
    cases e : H a with
    | none => exact h.zs a z e
    | some o => rw [k a o e fun _ s => (hS a s).2 z] at q; cases q⟩
theorem gets_own {rs : List R} {ts : List VT} {ds : List D} (R1 : Rel P w K av Z env T σ H) (rr : RRelL P w K Z env T H rs ts) (e : gets rs env = some ds) : OwnL P w K Z H ds ts := by
  induction rs generalizing ts ds with
  | nil =>
    cases ts with
    | nil => cases e; rw [OwnL]; trivial
    | cons t ts => exact rr.elim
  | cons r rs ih =>
    cases ts with
    | nil => exact rr.elim
    | cons t ts =>
      obtain ⟨d, e1, e⟩ := Option.bind_eq_some_iff.mp e
      obtain ⟨ds', e2, e⟩ := Option.bind_eq_some_iff.mp e
      cases e
      rw [OwnL]
      exact ⟨R1.at rr.1 e1, ih rr.2 e2⟩
theorem Done.new {S : Addr → Prop} {ms : List Nat} {d : D} {t : VT} {Q : VK} (f : Done P w K av Z env T σ H S ms (.v d) env Q) (R1 : Rel P w K av Z env T σ H) (hS : ∀ a, AllFp env T a → S a) (k : Kp (fun _ => False) H H')
    (o : Own P w K Z H' d t) (nd : (fp d t).Nodup) (fr : ∀ a ∈ fp d t, H a = none) : Q t.v H' := by
  have af : ∀ a, AllFp env T a → H a ≠ none := fun a ha z => by
    obtain ⟨o, ho, _⟩ := R1.stands ha
    rw [ho] at z; cases z
  refine f H' Z T t (R1.kp k fun _ z => z.elim) ⟨o, fun a ha => ⟨fun z => R1.zs a z (fr a ha), fun z => af a z (fr a ha)⟩⟩ nd ⟨k.mono fun _ z => z.elim, fun a h => ?_, fun a h => .inl h, fun _ h => h⟩ ⟨fun _ _ => ⟨rfl, rfl⟩, fun _ h => h⟩
  rcases h with h | h
  · exact .inl (hS a h)
  · exact .inr (fr a h)
theorem Step.read {f : List D → Option D} {xs : List V} {Q : VK} (h : Step P w K (kf f) [] xs H Q) : StepF P w K f xs H Q := by
  obtain ⟨av, Z, env, T, σ, rs, ts, r, env', e0, R1, rr, nd, e, dn⟩ := h
  obtain ⟨ds, e1, e⟩ := Option.bind_eq_some_iff.mp e
  obtain ⟨d, e2, e⟩ := Option.bind_eq_some_iff.mp e
  cases e
  exact ⟨Z, ds, ts, d, e0, gets_own R1 rr e1, e2, fun H' t k o nd fr => dn.new R1 (fun _ h => .inl h) k o nd fr⟩
theorem StepF.mk {f : List D → Option D} {xs : List V} {Q : VK} (h : StepF P w K f xs H Q) : ∃ Z ds ts d, ts.map VT.v = xs ∧ OwnL P w K Z H ds ts ∧ f ds = some d ∧
    (∀ H' t, Kp (fun _ => False) H H' → Own P w K Z H' d t → (fp d t).Nodup → (∀ a ∈ fp d t, H a = none) → Q t.v H') := h
theorem OwnL.two {a b : D} {x y : VT} (h : OwnL P w K Z H [a, b] [x, y]) : Own P w K Z H a x ∧ Own P w K Z H b y := by
  rw [OwnL, OwnL] at h
  exact ⟨h.1, h.2.1⟩
theorem StepF.two {f : List D → Option D} {x y : V} {Q : VK} (h : StepF P w K f [x, y] H Q) : ∃ Z a b s t d, s.v = x ∧ t.v = y ∧ Own P w K Z H a s ∧ Own P w K Z H b t ∧ f [a, b] = some d ∧
    ∀ H' t, Kp (fun _ => False) H H' → Own P w K Z H' d t → (fp d t).Nodup → (∀ a ∈ fp d t, H a = none) → Q t.v H' := by
  obtain ⟨Z, ds, ts, d, e, o, ef, dn⟩ := h
  match ts, e with
  | [s, t], e =>
    simp only [List.map_cons, List.map_nil, List.cons.injEq, and_true] at e
    match ds, o, ef with
    | [a, b], o, ef => exact ⟨Z, a, b, s, t, d, e.1, e.2, o.two.1, o.two.2, ef, dn⟩
    | [], o, _ => rw [OwnL] at o; exact o.elim
    | [_], o, _ => rw [OwnL, OwnL] at o; exact o.2.elim
    | _ :: _ :: _ :: _, o, _ => rw [OwnL, OwnL, OwnL] at o; exact o.2.2.elim
theorem StepF.one {f : List D → Option D} {x : V} {Q : VK} (h : StepF P w K f [x] H Q) : ∃ Z a s d, s.v = x ∧ Own P w K Z H a s ∧ f [a] = some d ∧
    ∀ H' t, Kp (fun _ => False) H H' → Own P w K Z H' d t → (fp d t).Nodup → (∀ a ∈ fp d t, H a = none) → Q t.v H' := by
  obtain ⟨Z, ds, ts, d, e, o, ef, dn⟩ := h
  match ts, e with
  | [s], e =>
    simp only [List.map_cons, List.map_nil, List.cons.injEq, and_true] at e
    match ds, o, ef with
    | [a], o, ef => rw [OwnL] at o; exact ⟨Z, a, s, d, e, o.1, ef, dn⟩
    | [], o, _ => rw [OwnL] at o; exact o.elim
    | _ :: _ :: _, o, _ => rw [OwnL, OwnL] at o; exact o.2.elim
def D.flat : D → Option V
  | .non => some .non
  | .bl b => some (.bl b)
  | .int i => some (.int i)
  | .str x => some (.str x)
  | _ => none
theorem flat_give {d : D} {v : V} {Q : VK} (e : d.flat = some v) (h : ∀ H' t, Kp (fun _ => False) H H' → Own P w K Z H' d t → (fp d t).Nodup → (∀ a ∈ fp d t, H a = none) → Q t.v H') : Q v H := by
  cases d <;> cases e
  all_goals (refine h H (.mk _ []) .refl ?_ ?_ ?_ <;> first | (rw [Own]; rfl) | (rw [fp]; exact List.nodup_nil) | (rw [fp]; intro _ z; cases z))
theorem Own.int {i : Int} {t : VT} (h : Own P w K Z H (.int i) t) : t.v = .int i := by rw [Own] at h; exact h
theorem Own.str {i : Str} {t : VT} (h : Own P w K Z H (.str i) t) : t.v = .str i := by rw [Own] at h; exact h
theorem Own.bl {i : Bool} {t : VT} (h : Own P w K Z H (.bl i) t) : t.v = .bl i := by rw [Own] at h; exact h
theorem Own.non {t : VT} (h : Own P w K Z H .non t) : t.v = .non := by rw [Own] at h; exact h
theorem Own.flat {d : D} {v : V} {t : VT} (h : Own P w K Z H d t) (e : d.flat = some v) : t.v = v := by
  cases d <;> cases e
  · exact h.non
  · exact h.bl
  · exact h.int
  · exact h.str
end
section
variable {X : Cx} {pos : Pos}
theorem se_const {e : Expr} {d : D} {v : V} (h : PE X e (tC v)) (e' : d.flat = some v) : SE X e ⟨[], fun env => some (.v d, env)⟩ := h.weak fun σ H Q q => by
  obtain ⟨av, Z, env, T, R1, r, env', e2, f⟩ := q
  cases e2
  exact flat_give (Z := Z) (P := X.prog) (w := X.w) (K := X.K) e' fun H' t k o nd fr => f.new R1 (fun _ h => h) k o nd fr
def mC (d : D) : ME := ⟨[], fun env => some (.v d, env)⟩
theorem se_int {i j} : SE X (.Constant (.int i) j pos) (mC (.int i)) := se_const pe_int rfl
theorem se_bl {i j} : SE X (.Constant (.bool i) j pos) (mC (.bl i)) := se_const pe_bl rfl
theorem se_non {j} : SE X (.Constant .none j pos) (mC .non) := se_const pe_non rfl
theorem se_str {i j} : SE X (.Constant (.str i) j pos) (mC (.str i)) := se_const pe_str rfl
def mN (i : Nat) : ME := ⟨[], fun env => match env[i]? with
  | some (.val _) => some (.p i [], env)
  | some (.arg _) => some (.p i [], env)
  | _ => none⟩
theorem se_name {x : Str} (i : Nat) (hN : X.N[i]? = some x := by rfl) (hv : Vis X.env.scope x := by first | exact Or.inl rfl | exact Or.inr (Or.inl rfl) | exact Or.inr (Or.inr rfl)) (hd : (x == ("__debug__" : Str)) = false := by decide)
    (hcd : (x == ("__classdict__" : Str)) = false := by decide) : SE X (.Name x pos) (mN i) := (pe_var hN hv hd hcd).weak fun σ H Q q => by
  obtain ⟨av, Z, env, T, R1, r, env', e, f⟩ := q
  have key : ∀ d, dAt env i = some d → (some (R.p i [], env) : Option (R × En)) = some (r, env') → tVar i σ H Q := fun d hd e => by
    cases e
    refine ⟨(T i).v, (R1.own i d hd).1, ?_⟩
    exact f H Z T (T i) R1 ⟨d, d, hd, by rw [D.at], by rw [VT.at]⟩ List.nodup_nil ⟨.refl, fun a h => .inl (h.elim id fun z => nomatch z), fun a h => .inl h, fun _ h => h⟩ .refl
  unfold mN at e
  dsimp only at e
  split at e
  · rename_i d q
    exact key d (by unfold dAt; rw [q]; rfl) e
  · rename_i d q
    exact key d (by unfold dAt; rw [q]; rfl) e
  · cases e
abbrev ma2 (a b : ME) : MA := maCons a (maCons b maNil)
abbrev ma1 (a : ME) : MA := maCons a maNil
theorem tS_two {P : Program} {w : World} {K : PySem.W.Frag} {a b : ME} {σ : L2.St} {H : Hp} {R2 : V → V → Hp → Prop} (h : tSA P w K (ma2 a b) σ H fun xs H1 => ∀ x y, xs = [x, y] → R2 x y H1) :
    tS P w K a σ H fun x H1 => tS P w K b σ H1 fun y H2 => R2 x y H2 := by
  refine tS_mono (tSA_cons h) fun x H1 h1 => ?_
  refine tS_mono (tSA_cons h1) fun y H2 h2 => ?_
  exact tSA_nil h2 x y rfl
theorem tS_one {P : Program} {w : World} {K : PySem.W.Frag} {a : ME} {σ : L2.St} {H : Hp} {R1 : V → Hp → Prop} (h : tSA P w K (ma1 a) σ H fun xs H1 => ∀ x, xs = [x] → R1 x H1) : tS P w K a σ H fun x H1 => R1 x H1 := by
  refine tS_mono (tSA_cons h) fun x H1 h1 => ?_
  exact tSA_nil h1 x rfl
theorem tOp_of {P : Program} {w : World} {K : PySem.W.Frag} {a b : ME} {k : Kn} {ms : List Nat} {r : R2} (hr : ∀ x y H Q, Step P w K k ms [x, y] H Q → r x y H Q) : ∀ σ H Q, tS P w K (mOp (ma2 a b) k ms) σ H Q → tOp r (tS P w K a) (tS P w K b) σ H Q :=
  fun σ H Q h => tS_two (tSA_mono (tS_op h) fun xs H1 s x y e => hr x y H1 Q (e ▸ s))
theorem tUn_of {P : Program} {w : World} {K : PySem.W.Frag} {a : ME} {k : Kn} {ms : List Nat} {r : V → Hp → VK → Prop} (hr : ∀ x H Q, Step P w K k ms [x] H Q → r x H Q) : ∀ σ H Q, tS P w K (mOp (ma1 a) k ms) σ H Q → tUn r (tS P w K a) σ H Q :=
  fun σ H Q h => tS_one (tSA_mono (tS_op h) fun xs H1 s x e => hr x H1 Q (e ▸ s))
theorem tCB_of {P : Program} {w : World} {K : PySem.W.Frag} {as : MA} {k : Kn} {ms : List Nat} {r : List V → Hp → VK → Prop} (hr : ∀ xs H Q, Step P w K k ms xs H Q → r xs H Q) : ∀ σ H Q, tS P w K (mOp as k ms) σ H Q → tCB r (tSA P w K as) σ H Q :=
  fun σ H Q h => tSA_mono (tS_op h) fun xs H1 s => hr xs H1 Q s
variable {a b : Expr} {ma mb : ME}
theorem se_bin {op : Operator} {r : R2} {k : Kn} {ms : List Nat} (ho : OpR X (binaryOp op) r) (hr : ∀ x y H Q, Step X.prog X.w X.K k ms [x, y] H Q → r x y H Q) (ha : SE X a ma) (hb : SE X b mb) : SE X (.BinOp a op b pos) (mOp (ma2 ma mb) k ms) := (pe_op ho ha hb).weak (tOp_of hr)
theorem se_cmp {op : CmpOp} {r : R2} {k : Kn} {ms : List Nat} (ho : OpR X (compareOp op) r) (hr : ∀ x y H Q, Step X.prog X.w X.K k ms [x, y] H Q → r x y H Q) (ha : SE X a ma) (hb : SE X b mb) (hm : behindInMarks op b = false) : SE X (.Compare a [op] [b] pos) (mOp (ma2 ma mb) k ms) := (pe_cmpR ho ha hb hm).weak (tOp_of hr)
end
end G
set_option Elab.async false
set_option linter.all false
set_option maxRecDepth 100000
namespace G
open PySem PySem.Spec PyProof.Rows L2
theorem _root_.L2.OpR.or' {X : Cx} {f : Value → Value → Sem Value} {r r' : R2} (h : OpR X f r) (h' : OpR X f r') : OpR X f (fun x y H Q => r x y H Q ∨ r' x y H Q) :=
  fun pins s σ H x y v u Q I rx ry q => q.elim (h pins s σ H x y v u Q I rx ry) (h' pins s σ H x y v u Q I rx ry)
theorem callR_or {X : Cx} {f : Value} {r r' : List V → Hp → VK → Prop} (h : CallR X f r) (h' : CallR X f r') : CallR X f (fun xs H Q => r xs H Q ∨ r' xs H Q) :=
  fun pins s σ H xs us Q I rx q => q.elim (h pins s σ H xs us Q I rx) (h' pins s σ H xs us Q I rx)
def D.items : D → Option (List D)
  | .tup ds => some ds
  | .lst _ ds => some ds
  | _ => none
mutual
def D.toPy : D → PyData
  | .non => .none
  | .bl b => .bool b
  | .int i => .int i
  | .str x => .str x
  | .tup ds => .tuple (D.toPyL ds)
  | .lst _ ds => .list (D.toPyL ds)
  | .dct _ _ _ => .dict []
  | .set _ _ => .dict []
  | .hole => .none
def D.toPyL : List D → List PyData
  | [] => []
  | d :: ds => d.toPy :: D.toPyL ds
end
mutual
def D.plain : D → Bool
  | .non => true
  | .bl _ => true
  | .int _ => true
  | .str _ => true
  | .tup ds => D.plainL ds
  | .lst _ ds => D.plainL ds
  | .dct _ _ _ => false
  | .set _ _ => false
  | .hole => false
def D.plainL : List D → Bool
  | [] => true
  | d :: ds => d.plain && D.plainL ds
end
section
variable {P : Program} {w : World} {K : PySem.W.Frag} {Z Z' : Addr → Prop} {H H' : Hp}
theorem VT.eta (t : VT) : VT.mk t.v t.ks = t := by cases t; rfl
theorem Own.lst {m : Bool} {ds : List D} {t : VT} (h : Own P w K Z H (.lst m ds) t) : ∃ a, t.v = .ref a ∧ SqL K H a (t.ks.map VT.v) ∧ OwnL P w K Z H ds t.ks := by
  cases t with
  | mk v ks =>
    cases m with
    | true => rw [Own] at h; obtain ⟨a, e, q, o⟩ := h; exact ⟨a, e, .of q, o⟩
    | false => rw [Own] at h; obtain ⟨a, e, _, q, _, o⟩ := h; exact ⟨a, e, q, o⟩
theorem Own.lstM {ds : List D} {t : VT} (h : Own P w K Z H (.lst true ds) t) : ∃ a, t.v = .ref a ∧ H a = some (.lst (t.ks.map VT.v)) ∧ OwnL P w K Z H ds t.ks := by
  cases t with
  | mk v ks => rw [Own] at h; exact h
theorem Own.tup {ds : List D} {t : VT} (h : Own P w K Z H (.tup ds) t) : ∃ a, t.v = .ref a ∧ SqT K H a (t.ks.map VT.v) ∧ OwnL P w K Z H ds t.ks := by
  cases t with
  | mk v ks => rw [Own] at h; exact h
theorem Own.seq {d : D} {ds : List D} {t : VT} (h : Own P w K Z H d t) (e : d.items = some ds) : ∃ a, t.v = .ref a ∧ (SqL K H a (t.ks.map VT.v) ∨ SqT K H a (t.ks.map VT.v)) ∧ OwnL P w K Z H ds t.ks := by
  cases d with
  | tup ds' => cases e; obtain ⟨a, q, r, o⟩ := h.tup; exact ⟨a, q, .inr r, o⟩
  | lst m ds' => cases e; obtain ⟨a, q, r, o⟩ := h.lst; exact ⟨a, q, .inl r, o⟩
  | _ => cases e
mutual
theorem Own.dp : ∀ {d : D} {t : VT}, d.plain = true → Own P w K Z H d t → Dp K H t.v d.toPy
  | .non, t, _, h => by rw [h.non, D.toPy]; exact .non
  | .bl b, t, _, h => by rw [h.bl, D.toPy]; exact .bl b
  | .int i, t, _, h => by rw [h.int, D.toPy]; exact .int i
  | .str x, t, _, h => by rw [h.str, D.toPy]; exact .str x
  | .tup ds, t, p, h => by
    obtain ⟨a, e, q, o⟩ := h.tup
    rw [e, D.toPy]
    exact .tup q (OwnL.dp (by rw [D.plain] at p; exact p) o)
  | .lst m ds, t, p, h => by
    obtain ⟨a, e, q, o⟩ := h.lst
    rw [e, D.toPy]
    exact .lst q (OwnL.dp (by rw [D.plain] at p; exact p) o)
  | .dct _ _ _, t, p, h => by rw [D.plain] at p; cases p
  | .set _ _, t, p, h => by rw [D.plain] at p; cases p
  | .hole, t, p, h => by rw [D.plain] at p; cases p
theorem OwnL.dp : ∀ {ds : List D} {ts : List VT}, D.plainL ds = true → OwnL P w K Z H ds ts → DpAll K H (ts.map VT.v) (D.toPyL ds)
  | [], [], _, _ => by rw [D.toPyL]; exact .nil
  | d :: ds, t :: ts, p, h => by
    rw [D.plainL, Bool.and_eq_true] at p
    rw [OwnL] at h
    rw [D.toPyL]
    exact .cons (Own.dp p.1 h.1) (OwnL.dp p.2 h.2)
  | [], _ :: _, _, h => by rw [OwnL] at h; exact h.elim
  | _ :: _, [], _, h => by rw [OwnL] at h; exact h.elim
end
theorem kp_new {S : Addr → Prop} {p : Addr} {o : HO} (hp : H p = none) : Kp S H (upd H p o) := fun a u e _ => by
  rw [upd_ne (ne_of_none e hp)]; exact e
theorem lst_give {d : List D} {ts : List VT} {p : Addr} {Q : VK} (o : OwnL P w K Z H d ts) (hp : D.pureL d = true) (np : H p = none)
    (h : ∀ H' t, Kp (fun _ => False) H H' → Own P w K Z H' (.lst true d) t → (fp (.lst true d) t).Nodup → (∀ a ∈ fp (.lst true d) t, H a = none) → Q t.v H') : Q (.ref p) (upd H p (.lst (ts.map VT.v))) := by
  refine h _ (.mk (.ref p) ts) (kp_new np) ?_ ?_ ?_
  · rw [Own]
    exact ⟨p, rfl, upd_same, o.frame (kp_new np) (fun _ _ z => z) (fun _ z => z) fun _ _ z => z⟩
  · rw [fp, fpL_pure hp]; simp [vad]
  · rw [fp, fpL_pure hp]; simp [vad, np]
theorem tup_give {d : List D} {ts : List VT} {p : Addr} {Q : VK} (o : OwnL P w K Z H d ts) (hp : D.pureL d = true) (np : H p = none)
    (h : ∀ H' t, Kp (fun _ => False) H H' → Own P w K Z H' (.tup d) t → (fp (.tup d) t).Nodup → (∀ a ∈ fp (.tup d) t, H a = none) → Q t.v H') : Q (.ref p) (upd H p (.tup (ts.map VT.v))) := by
  refine h _ (.mk (.ref p) ts) (kp_new np) ?_ ?_ ?_
  · rw [Own]
    exact ⟨p, rfl, .of upd_same, o.frame (kp_new np) (fun _ _ z => z) (fun _ z => z) fun _ _ z => z⟩
  · rw [fp, fpL_pure hp]; exact List.nodup_nil
  · rw [fp, fpL_pure hp]; intro _ z; cases z
theorem old_give {d : D} {t : VT} {Q : VK} (o : Own P w K Z H d t) (hp : d.pure = true)
    (h : ∀ H' t, Kp (fun _ => False) H H' → Own P w K Z H' d t → (fp d t).Nodup → (∀ a ∈ fp d t, H a = none) → Q t.v H') : Q t.v H :=
  h H t .refl o (by rw [fp_pure hp]; exact List.nodup_nil) (by rw [fp_pure hp]; intro _ z; cases z)
def fAdd : List D → Option D
  | [.int i, .int j] => some (.int (i + j))
  | [.str x, .str y] => if x.length + y.length ≤ sizeLine then some (.str (x ++ y)) else none
  | [.lst true xs, .lst true ys] => if (D.pureL xs && D.pureL ys && decide (xs.length + ys.length ≤ sizeLine)) = true then some (.lst true (xs ++ ys)) else none
  | [.tup xs, .tup ys] => if (D.pureL xs && D.pureL ys && decide (xs.length + ys.length ≤ sizeLine)) = true then some (.tup (xs ++ ys)) else none
  | _ => none
def rAddG (K : PySem.W.Frag) : R2 := fun x y H Q => rI0 (fun i j => .int (i + j)) x y H Q ∨ (∃ i j, x = .str i ∧ y = .str j ∧ i.length + j.length ≤ sizeLine ∧ Q (.str (i ++ j)) H) ∨ rCat x y H Q ∨ rCatA K x y H Q
theorem op_addG {X : Cx} : OpR X (binaryOp .Add) (rAddG X.K) := op_add.or' (op_add_str.or' (op_cat.or' op_catA))
theorem pureL_append {xs ys : List D} (h : D.pureL xs = true) (h' : D.pureL ys = true) : D.pureL (xs ++ ys) = true :=
  pureL_of fun d hd => (List.mem_append.mp hd).elim (pureL_mem h d) (pureL_mem h' d)
theorem st_add {x y : V} {Q : VK} (h : Step P w K (kf fAdd) [] [x, y] H Q) : rAddG K x y H Q := by
  obtain ⟨Z, a, b, s, t, d, rfl, rfl, oa, ob, e, dn⟩ := h.read.two
  unfold fAdd at e
  split at e
  · rename_i i j q
    simp only [List.cons.injEq, and_true] at q
    obtain ⟨rfl, rfl⟩ := q
    cases e
    exact .inl ⟨i, j, oa.int, ob.int, flat_give rfl dn⟩
  · rename_i i j q
    simp only [List.cons.injEq, and_true] at q
    obtain ⟨rfl, rfl⟩ := q
    split at e
    · rename_i hz
      cases e
      exact .inr (.inl ⟨i, j, oa.str, ob.str, hz, flat_give rfl dn⟩)
    · cases e
  · rename_i i j q
    simp only [List.cons.injEq, and_true] at q
    obtain ⟨rfl, rfl⟩ := q
    split at e
    · rename_i hz
      cases e
      simp only [Bool.and_eq_true, decide_eq_true_eq] at hz
      obtain ⟨a, ea, ha, oa⟩ := oa.lstM
      obtain ⟨b, eb, hb, ob⟩ := ob.lstM
      refine .inr (.inr (.inl ⟨a, b, _, _, ea, eb, ha, hb, ?_, fun p np => ?_⟩))
      · rw [List.length_map, List.length_map, ← oa.length, ← ob.length]; exact hz.2
      · rw [← List.map_append]
        exact lst_give (oa.append ob) (pureL_append hz.1.1 hz.1.2) np dn
    · cases e
  · rename_i i j q
    simp only [List.cons.injEq, and_true] at q
    obtain ⟨rfl, rfl⟩ := q
    split at e
    · rename_i hz
      cases e
      simp only [Bool.and_eq_true, decide_eq_true_eq] at hz
      have oa0 := oa
      have ob0 := ob
      obtain ⟨a, ea, ha, oa⟩ := oa.tup
      obtain ⟨b, eb, hb, ob⟩ := ob.tup
      refine .inr (.inr (.inr ⟨a, b, _, _, ea, eb, ha, hb, ?_, fun q => ?_, fun q1 q => ?_, fun _ _ p np => ?_⟩))
      · rw [List.length_map, List.length_map, ← oa.length, ← ob.length]; exact hz.2
      · have ei : i = [] := by
          cases i with
          | nil => rfl
          | cons x r =>
            have := oa.length
            rw [List.map_eq_nil_iff.mp q] at this
            cases this
        subst ei
        rw [← eb]
        rw [List.nil_append] at dn
        exact old_give ob0 (by rw [D.pure]; exact hz.1.2) dn
      · have ei : j = [] := by
          cases j with
          | nil => rfl
          | cons x r =>
            have := ob.length
            rw [List.map_eq_nil_iff.mp q] at this
            cases this
        subst ei
        rw [← ea]
        rw [List.append_nil] at dn
        exact old_give oa0 (by rw [D.pure]; exact hz.1.1) dn
      · rw [← List.map_append]
        exact tup_give (oa.append ob) (pureL_append hz.1.1 hz.1.2) np dn
    · cases e
  · cases e
def fSub : List D → Option D
  | [.int i, .int j] => some (.int (i - j))
  | _ => none
theorem st_sub {x y : V} {Q : VK} (h : Step P w K (kf fSub) [] [x, y] H Q) : rI0 (fun i j => .int (i - j)) x y H Q := by
  obtain ⟨Z, a, b, s, t, d, rfl, rfl, oa, ob, e, dn⟩ := h.read.two
  unfold fSub at e
  split at e
  · rename_i i j q
    simp only [List.cons.injEq, and_true] at q
    obtain ⟨rfl, rfl⟩ := q
    cases e
    exact ⟨i, j, oa.int, ob.int, flat_give rfl dn⟩
  · cases e
instance (i j : Int) : Decidable (CMulW i j) := by unfold CMulW; infer_instance
instance (i j : Int) : Decidable (CDivW i j) := by unfold CDivW; infer_instance
def rMulG : R2 := fun x y H Q => rI CMulW (fun i j => .int (i * j)) x y H Q ∨ rRep x y H Q
theorem op_mulG {X : Cx} : OpR X (binaryOp .Mult) rMulG := op_mulW.or' op_rep
def fMul : List D → Option D
  | [.int i, .int j] => if CMulW i j then some (.int (i * j)) else none
  | [.lst true xs, .int k] => if (D.pureL xs && decide (-(2 ^ 63) ≤ k) && decide (k < 2 ^ 63) && decide (xs.length * k.toNat ≤ sizeLine)) = true then some (.lst true (List.replicate k.toNat xs).flatten) else none
  | _ => none
theorem OwnL.rep {xs : List D} {ts : List VT} (o : OwnL P w K Z H xs ts) : ∀ n : Nat, OwnL P w K Z H (List.replicate n xs).flatten (List.replicate n ts).flatten
  | 0 => by rw [List.replicate_zero, List.replicate_zero, List.flatten_nil, List.flatten_nil, OwnL]; trivial
  | n + 1 => by
    rw [List.replicate_succ, List.replicate_succ, List.flatten_cons, List.flatten_cons]
    exact o.append (OwnL.rep o n)
theorem st_mul {x y : V} {Q : VK} (h : Step P w K (kf fMul) [] [x, y] H Q) : rMulG x y H Q := by
  obtain ⟨Z, a, b, s, t, d, rfl, rfl, oa, ob, e, dn⟩ := h.read.two
  unfold fMul at e
  split at e
  · rename_i i j q
    simp only [List.cons.injEq, and_true] at q
    obtain ⟨rfl, rfl⟩ := q
    split at e
    · rename_i hz
      cases e
      exact .inl ⟨i, j, oa.int, ob.int, hz, flat_give rfl dn⟩
    · cases e
  · rename_i xs k q
    simp only [List.cons.injEq, and_true] at q
    obtain ⟨rfl, rfl⟩ := q
    split at e
    · rename_i hz
      cases e
      simp only [Bool.and_eq_true, decide_eq_true_eq] at hz
      obtain ⟨a, ea, ha, oa⟩ := oa.lstM
      refine .inr ⟨a, k, _, ea, ob.int, ha, hz.1.1.2, hz.1.2, ?_, fun p np => ?_⟩
      · rw [List.length_map, ← oa.length]; exact hz.2
      · have e2 : (List.replicate k.toNat (s.ks.map VT.v)).flatten = ((List.replicate k.toNat s.ks).flatten).map VT.v := by
          rw [List.map_flatten, List.map_replicate]
        rw [e2]
        refine lst_give (OwnL.rep oa k.toNat) (pureL_of fun d hd => ?_) np dn
        obtain ⟨l, hl, hd⟩ := List.mem_flatten.mp hd
        rw [List.eq_of_mem_replicate hl] at hd
        exact pureL_mem hz.1.1.1 d hd
    · cases e
  · cases e
def fDiv : List D → Option D
  | [.int i, .int j] => if CDivW i j then some (.int (i / j)) else none
  | _ => none
theorem st_div {x y : V} {Q : VK} (h : Step P w K (kf fDiv) [] [x, y] H Q) : rI CDivW (fun i j => .int (i / j)) x y H Q := by
  obtain ⟨Z, a, b, s, t, d, rfl, rfl, oa, ob, e, dn⟩ := h.read.two
  unfold fDiv at e
  split at e
  · rename_i i j q
    simp only [List.cons.injEq, and_true] at q
    obtain ⟨rfl, rfl⟩ := q
    split at e
    · rename_i hz
      cases e
      exact ⟨i, j, oa.int, ob.int, hz, flat_give rfl dn⟩
    · cases e
  · cases e
def fMod : List D → Option D
  | [.int i, .int j] => if 0 < j then some (.int (i % j)) else none
  | _ => none
theorem st_mod {x y : V} {Q : VK} (h : Step P w K (kf fMod) [] [x, y] H Q) : rI (fun _ j => 0 < j) (fun i j => .int (i % j)) x y H Q := by
  obtain ⟨Z, a, b, s, t, d, rfl, rfl, oa, ob, e, dn⟩ := h.read.two
  unfold fMod at e
  split at e
  · rename_i i j q
    simp only [List.cons.injEq, and_true] at q
    obtain ⟨rfl, rfl⟩ := q
    split at e
    · rename_i hz
      cases e
      exact ⟨i, j, oa.int, ob.int, hz, flat_give rfl dn⟩
    · cases e
  · cases e
def fCmp (p : Int → Int → Bool) : List D → Option D
  | [.int i, .int j] => some (.bl (p i j))
  | _ => none
theorem st_cmp {p : Int → Int → Bool} {x y : V} {Q : VK} (h : Step P w K (kf (fCmp p)) [] [x, y] H Q) : rI0 (fun i j => .bl (p i j)) x y H Q := by
  obtain ⟨Z, a, b, s, t, d, rfl, rfl, oa, ob, e, dn⟩ := h.read.two
  unfold fCmp at e
  split at e
  · rename_i i j q
    simp only [List.cons.injEq, and_true] at q
    obtain ⟨rfl, rfl⟩ := q
    cases e
    exact ⟨i, j, oa.int, ob.int, flat_give rfl dn⟩
  · cases e
abbrev fLt := fCmp fun i j => decide (i < j)
abbrev fLe := fCmp fun i j => decide (i ≤ j)
abbrev fGt := fCmp fun i j => decide (j < i)
abbrev fGe := fCmp fun i j => decide (j ≤ i)
def eqD (a b : D) : Option Bool :=
  match a.flat, b.flat with
  | some x, some y => if scal x y = true then some (decide (x = y)) else none
  | _, _ => if (a.plain && b.plain && SeqAt.shaped a.toPy && SeqAt.shaped b.toPy) = true then some (PyData.eqv a.toPy b.toPy) else none
def fEq : List D → Option D
  | [a, b] => (eqD a b).map .bl
  | _ => none
def fNe : List D → Option D
  | [a, b] => (eqD a b).map fun c => .bl (!c)
  | _ => none
def rEqG (K : PySem.W.Frag) : R2 := fun x y H Q => rEq x y H Q ∨ rEqD K x y H Q
def rNeG (K : PySem.W.Frag) : R2 := fun x y H Q => rNe x y H Q ∨ rNeD K x y H Q
theorem op_eqG {X : Cx} (hu : X.A.units + 64 < cLine) : OpR X (compareOp .Eq) (rEqG X.K) := op_eq.or' (op_eqD hu)
theorem op_neG {X : Cx} (hu : X.A.units + 64 < cLine) : OpR X (compareOp .NotEq) (rNeG X.K) := op_ne.or' (op_neD hu)
theorem st_eq0 {a b : D} {s t : VT} {c : Bool} (oa : Own P w K Z H a s) (ob : Own P w K Z H b t) (e : eqD a b = some c) :
    (scal s.v t.v = true ∧ c = decide (s.v = t.v)) ∨ (∃ d e, Dp K H s.v d ∧ Dp K H t.v e ∧ SeqAt.shaped d = true ∧ SeqAt.shaped e = true ∧ c = PyData.eqv d e) := by
  unfold eqD at e
  split at e
  · rename_i x y ex ey
    split at e
    · rename_i hs
      cases e
      rw [oa.flat ex, ob.flat ey]
      exact .inl ⟨hs, rfl⟩
    · cases e
  · split at e
    · rename_i hs
      cases e
      simp only [Bool.and_eq_true] at hs
      exact .inr ⟨_, _, oa.dp hs.1.1.1, ob.dp hs.1.1.2, hs.1.2, hs.2, rfl⟩
    · cases e
theorem st_eq {x y : V} {Q : VK} (h : Step P w K (kf fEq) [] [x, y] H Q) : rEqG K x y H Q := by
  obtain ⟨Z, a, b, s, t, d, rfl, rfl, oa, ob, e, dn⟩ := h.read.two
  obtain ⟨c, ec, rfl⟩ := Option.map_eq_some_iff.mp (show (eqD a b).map .bl = some d from e)
  rcases st_eq0 oa ob ec with ⟨h1, rfl⟩ | ⟨d1, d2, h1, h2, h3, h4, rfl⟩
  · exact .inl ⟨h1, flat_give rfl dn⟩
  · exact .inr ⟨d1, d2, h1, h2, h3, h4, flat_give rfl dn⟩
theorem st_ne {x y : V} {Q : VK} (h : Step P w K (kf fNe) [] [x, y] H Q) : rNeG K x y H Q := by
  obtain ⟨Z, a, b, s, t, d, rfl, rfl, oa, ob, e, dn⟩ := h.read.two
  obtain ⟨c, ec, rfl⟩ := Option.map_eq_some_iff.mp (show ((eqD a b).map fun c => D.bl (!c)) = some d from e)
  rcases st_eq0 oa ob ec with ⟨h1, rfl⟩ | ⟨d1, d2, h1, h2, h3, h4, rfl⟩
  · exact .inl ⟨h1, flat_give rfl dn⟩
  · exact .inr ⟨d1, d2, h1, h2, h3, h4, flat_give rfl dn⟩
def D.isHole : D → Bool
  | .hole => true
  | _ => false
theorem not_hole {d : D} (h : ¬ d.isHole = true) : d ≠ .hole := fun e => h (by rw [e]; rfl)
def D.isNon : D → Bool
  | .non => true
  | _ => false
theorem Own.isNon {d : D} {t : VT} (hh : d ≠ .hole) (h : Own P w K Z H d t) : decide (t.v = .non) = d.isNon := by
  cases t with
  | mk v ks =>
    cases d with
    | non => rw [h.non]; rfl
    | bl b => rw [h.bl]; rfl
    | int b => rw [h.int]; rfl
    | str b => rw [h.str]; rfl
    | tup ds => obtain ⟨a, e, _⟩ := h.tup; rw [e]; rfl
    | lst m ds => obtain ⟨a, e, _⟩ := h.lst; rw [e]; rfl
    | dct m ks vs => rw [Own] at h; obtain ⟨a, rfl, _⟩ := h; rfl
    | set m ds => rw [Own] at h; exact h.elim
    | hole => exact absurd rfl hh
def fIsN : List D → Option D
  | [a, .non] => if a.isHole = true then none else some (.bl a.isNon)
  | _ => none
def fNotN : List D → Option D
  | [a, .non] => if a.isHole = true then none else some (.bl (!a.isNon))
  | _ => none
theorem st_isN {x y : V} {Q : VK} (h : Step P w K (kf fIsN) [] [x, y] H Q) : y = .non ∧ Q (.bl (decide (x = .non))) H := by
  obtain ⟨Z, a, b, s, t, d, rfl, rfl, oa, ob, e, dn⟩ := h.read.two
  unfold fIsN at e
  split at e
  · rename_i q
    simp only [List.cons.injEq, and_true] at q
    obtain ⟨rfl, rfl⟩ := q
    split at e
    · cases e
    · rename_i hh
      cases e
      rw [oa.isNon (not_hole hh)]
      exact ⟨ob.non, flat_give rfl dn⟩
  · cases e
theorem st_notN {x y : V} {Q : VK} (h : Step P w K (kf fNotN) [] [x, y] H Q) : y = .non ∧ Q (.bl (!decide (x = .non))) H := by
  obtain ⟨Z, a, b, s, t, d, rfl, rfl, oa, ob, e, dn⟩ := h.read.two
  unfold fNotN at e
  split at e
  · rename_i q
    simp only [List.cons.injEq, and_true] at q
    obtain ⟨rfl, rfl⟩ := q
    split at e
    · cases e
    · rename_i hh
      cases e
      rw [oa.isNon (not_hole hh)]
      exact ⟨ob.non, flat_give rfl dn⟩
  · cases e
end
section
variable {X : Cx} {pos : Pos} {a b : Expr} {ma mb : ME}
def mAdd (a b : ME) : ME := mOp (ma2 a b) (kf fAdd) []
theorem se_add (ha : SE X a ma) (hb : SE X b mb) : SE X (.BinOp a .Add b pos) (mAdd ma mb) := se_bin op_addG (fun _ _ _ _ h => st_add h) ha hb
def mSub (a b : ME) : ME := mOp (ma2 a b) (kf fSub) []
theorem se_sub (ha : SE X a ma) (hb : SE X b mb) : SE X (.BinOp a .Sub b pos) (mSub ma mb) := se_bin op_sub (fun _ _ _ _ h => st_sub h) ha hb
def mMul (a b : ME) : ME := mOp (ma2 a b) (kf fMul) []
theorem se_mul (ha : SE X a ma) (hb : SE X b mb) : SE X (.BinOp a .Mult b pos) (mMul ma mb) := se_bin op_mulG (fun _ _ _ _ h => st_mul h) ha hb
def mDiv (a b : ME) : ME := mOp (ma2 a b) (kf fDiv) []
theorem se_div (ha : SE X a ma) (hb : SE X b mb) : SE X (.BinOp a .FloorDiv b pos) (mDiv ma mb) := se_bin op_fdivW (fun _ _ _ _ h => st_div h) ha hb
def mMod (a b : ME) : ME := mOp (ma2 a b) (kf fMod) []
theorem se_mod (ha : SE X a ma) (hb : SE X b mb) : SE X (.BinOp a .Mod b pos) (mMod ma mb) := se_bin op_mod (fun _ _ _ _ h => st_mod h) ha hb
def mLt (a b : ME) : ME := mOp (ma2 a b) (kf fLt) []
theorem se_lt (ha : SE X a ma) (hb : SE X b mb) : SE X (.Compare a [.Lt] [b] pos) (mLt ma mb) := se_cmp op_lt (fun _ _ _ _ h => st_cmp h) ha hb (nomark _)
def mLe (a b : ME) : ME := mOp (ma2 a b) (kf fLe) []
theorem se_le (ha : SE X a ma) (hb : SE X b mb) : SE X (.Compare a [.LtE] [b] pos) (mLe ma mb) := se_cmp op_le (fun _ _ _ _ h => st_cmp h) ha hb (nomark _)
def mGt (a b : ME) : ME := mOp (ma2 a b) (kf fGt) []
theorem se_gt (ha : SE X a ma) (hb : SE X b mb) : SE X (.Compare a [.Gt] [b] pos) (mGt ma mb) := se_cmp op_gt (fun _ _ _ _ h => st_cmp h) ha hb (nomark _)
def mGe (a b : ME) : ME := mOp (ma2 a b) (kf fGe) []
theorem se_ge (ha : SE X a ma) (hb : SE X b mb) : SE X (.Compare a [.GtE] [b] pos) (mGe ma mb) := se_cmp op_ge (fun _ _ _ _ h => st_cmp h) ha hb (nomark _)
def mEq (a b : ME) : ME := mOp (ma2 a b) (kf fEq) []
theorem se_eq (hu : X.A.units + 64 < cLine) (ha : SE X a ma) (hb : SE X b mb) : SE X (.Compare a [.Eq] [b] pos) (mEq ma mb) := se_cmp (op_eqG hu) (fun _ _ _ _ h => st_eq h) ha hb (nomark _)
def mNe (a b : ME) : ME := mOp (ma2 a b) (kf fNe) []
theorem se_ne (hu : X.A.units + 64 < cLine) (ha : SE X a ma) (hb : SE X b mb) : SE X (.Compare a [.NotEq] [b] pos) (mNe ma mb) := se_cmp (op_neG hu) (fun _ _ _ _ h => st_ne h) ha hb (nomark _)
def mIsN (a b : ME) : ME := mOp (ma2 a b) (kf fIsN) []
theorem se_isN (ha : SE X a ma) (hb : SE X b mb) : SE X (.Compare a [.Is] [b] pos) (mIsN ma mb) := se_cmp op_isN (fun _ _ _ _ h => st_isN h) ha hb (nomark _)
def mNotN (a b : ME) : ME := mOp (ma2 a b) (kf fNotN) []
theorem se_notN (ha : SE X a ma) (hb : SE X b mb) : SE X (.Compare a [.IsNot] [b] pos) (mNotN ma mb) := se_cmp op_notN (fun _ _ _ _ h => st_notN h) ha hb (nomark _)
end
end G
set_option Elab.async false
set_option linter.all false
set_option maxRecDepth 100000
namespace G
open PySem PySem.Spec PyProof.Rows L2
mutual
def D.beq : D → D → Bool
  | .non, .non => true
  | .bl a, .bl b => a == b
  | .int a, .int b => decide (a = b)
  | .str a, .str b => decide (a = b)
  | .tup a, .tup b => D.beqL a b
  | .lst m a, .lst n b => m == n && D.beqL a b
  | .dct m a c, .dct n b d => m == n && D.beqL a b && D.beqL c d
  | .set m a, .set n b => m == n && D.beqL a b
  | .hole, .hole => true
  | _, _ => false
def D.beqL : List D → List D → Bool
  | [], [] => true
  | a :: as, b :: bs => D.beq a b && D.beqL as bs
  | _, _ => false
end
mutual
theorem beq_self : ∀ a : D, D.beq a a = true
  | .non => by rw [D.beq]
  | .bl a => by rw [D.beq]; simp
  | .int a => by rw [D.beq]; simp
  | .str a => by rw [D.beq]; simp
  | .tup a => by rw [D.beq]; exact beqL_self a
  | .lst m a => by rw [D.beq, beqL_self a]; simp
  | .dct m a b => by rw [D.beq, beqL_self a, beqL_self b]; simp
  | .set m a => by rw [D.beq, beqL_self a]; simp
  | .hole => by rw [D.beq]
theorem beqL_self : ∀ a : List D, D.beqL a a = true
  | [] => by rw [D.beqL]
  | a :: as => by rw [D.beqL, beq_self a, beqL_self as]; rfl
end
mutual
theorem eq_of_beq : ∀ a b : D, D.beq a b = true → a = b
  | .non, b, h => by cases b <;> simp [D.beq] at h <;> rfl
  | .bl a, b, h => by cases b <;> simp [D.beq] at h; rw [h]
  | .int a, b, h => by cases b <;> simp [D.beq] at h; rw [h]
  | .str a, b, h => by cases b <;> simp [D.beq] at h; rw [h]
  | .tup a, b, h => by cases b <;> simp [D.beq] at h; rw [eq_of_beqL a _ h]
  | .lst m a, b, h => by cases b <;> simp [D.beq] at h; rw [h.1, eq_of_beqL a _ h.2]
  | .dct m a c, b, h => by cases b <;> simp [D.beq] at h; rw [h.1.1, eq_of_beqL a _ h.1.2, eq_of_beqL c _ h.2]
  | .set m a, b, h => by cases b <;> simp [D.beq] at h; rw [h.1, eq_of_beqL a _ h.2]
  | .hole, b, h => by cases b <;> simp [D.beq] at h <;> rfl
theorem eq_of_beqL : ∀ a b : List D, D.beqL a b = true → a = b
  | [], b, h => by cases b <;> simp [D.beqL] at h; rfl
  | a :: as, b, h => by cases b <;> simp [D.beqL] at h; rw [eq_of_beq a _ h.1, eq_of_beqL as _ h.2]
end
instance : DecidableEq D := fun a b => if h : D.beq a b = true then .isTrue (eq_of_beq a b h) else .isFalse fun e => h (e ▸ beq_self a)
def D.toK : D → Option Key
  | .int i => some (.inl i)
  | .str x => some (.inr x)
  | _ => none
mutual
def D.toN : D → Option NestedKey
  | .non => some .none
  | .int i => some (.num i)
  | .str x => some (.text x)
  | .tup ds => (D.toNL ds).map .tup
  | .bl _ => none
  | .lst _ _ => none
  | .dct _ _ _ => none
  | .set _ _ => none
  | .hole => none
def D.toNL : List D → Option (List NestedKey)
  | [] => some []
  | d :: ds => d.toN.bind fun k => (D.toNL ds).map fun ks => k :: ks
end
def D.isTup : D → Bool
  | .tup _ => true
  | _ => false
theorem toK_eq {d : D} {k : Key} (h : d.toK = some k) : d = keyS k := by
  cases d <;> simp [D.toK] at h <;> subst h <;> rfl
theorem toK_keyS (k : Key) : (keyS k).toK = some k := by cases k <;> rfl
theorem keyS_inj {a b : Key} (h : keyS a = keyS b) : a = b := by
  have e : (keyS a).toK = (keyS b).toK := by rw [h]
  rw [toK_keyS, toK_keyS] at e
  exact Option.some.inj e
mutual
theorem toN_eq : ∀ {d : D} {k : NestedKey}, d.toN = some k → d = keyD k
  | .non, k, h => by rw [D.toN] at h; cases h; rw [keyD]
  | .int i, k, h => by rw [D.toN] at h; cases h; rw [keyD]
  | .str x, k, h => by rw [D.toN] at h; cases h; rw [keyD]
  | .tup ds, k, h => by
    rw [D.toN] at h
    obtain ⟨ks, e, rfl⟩ := Option.map_eq_some_iff.mp h
    rw [keyD, toNL_eq e]
  | .bl _, k, h => by rw [D.toN] at h; cases h
  | .lst _ _, k, h => by rw [D.toN] at h; cases h
  | .dct _ _ _, k, h => by rw [D.toN] at h; cases h
  | .set _ _, k, h => by rw [D.toN] at h; cases h
  | .hole, k, h => by rw [D.toN] at h; cases h
theorem toNL_eq : ∀ {ds : List D} {ks : List NestedKey}, D.toNL ds = some ks → ds = keyDL ks
  | [], ks, h => by rw [D.toNL] at h; cases h; rw [keyDL]
  | d :: ds, ks, h => by
    rw [D.toNL] at h
    obtain ⟨k, e1, h⟩ := Option.bind_eq_some_iff.mp h
    obtain ⟨ks', e2, rfl⟩ := Option.map_eq_some_iff.mp h
    rw [keyDL, toN_eq e1, toNL_eq e2]
end
mutual
theorem toN_keyD : ∀ k : NestedKey, (keyD k).toN = some k
  | .none => by rw [keyD, D.toN]
  | .num i => by rw [keyD, D.toN]
  | .text x => by rw [keyD, D.toN]
  | .tup ks => by rw [keyD, D.toN, toNL_keyD ks]; rfl
theorem toNL_keyD : ∀ ks : List NestedKey, D.toNL (keyDL ks) = some ks
  | [] => by rw [keyDL, D.toNL]
  | k :: ks => by rw [keyDL, D.toNL, toN_keyD k, toNL_keyD ks]; rfl
end
theorem keyD_inj {a b : NestedKey} (h : keyD a = keyD b) : a = b := by
  have e : (keyD a).toN = (keyD b).toN := by rw [h]
  rw [toN_keyD, toN_keyD] at e
  exact Option.some.inj e
def kidx (ks : List D) (k : D) : Option Nat := ks.findIdx? fun d => decide (d = k)
section
variable {P : Program} {w : World} {K : PySem.W.Frag} {Z Z' : Addr → Prop} {H H' : Hp}
mutual
theorem Own.key : ∀ {k : NestedKey} {t : VT}, Own P w K Z H (keyD k) t → Dp K H t.v k.data
  | .none, t, h => by rw [keyD] at h; rw [h.non, NestedKey.data]; exact .non
  | .num i, t, h => by rw [keyD] at h; rw [h.int, NestedKey.data]; exact .int i
  | .text x, t, h => by rw [keyD] at h; rw [h.str, NestedKey.data]; exact .str x
  | .tup ks, t, h => by
    rw [keyD] at h
    obtain ⟨a, e, q, o⟩ := h.tup
    rw [e, NestedKey.data]
    exact .tup q (OwnL.keys o)
theorem OwnL.keys : ∀ {ks : List NestedKey} {ts : List VT}, OwnL P w K Z H (keyDL ks) ts → DpAll K H (ts.map VT.v) (NestedKey.datas ks)
  | [], ts, h => by
    rw [keyDL] at h
    cases ts with
    | nil => rw [NestedKey.datas]; exact .nil
    | cons _ _ => rw [OwnL] at h; exact h.elim
  | k :: ks, ts, h => by
    rw [keyDL] at h
    cases ts with
    | nil => rw [OwnL] at h; exact h.elim
    | cons t ts =>
      rw [OwnL] at h
      rw [NestedKey.datas]
      exact .cons (Own.key h.1) (OwnL.keys h.2)
end
mutual
theorem nested_reads {h : Heap} : ∀ {k : NestedKey} {u : Value} {as : List Addr}, Reads h u k.data as → NestedIs h k u
  | .none, u, as, r => by rw [NestedKey.data] at r; cases r; exact .none
  | .num i, u, as, r => by rw [NestedKey.data] at r; cases r; exact .int _ _
  | .text x, u, as, r => by rw [NestedKey.data] at r; cases r; exact .text _ _
  | .tup ks, u, as, r => by
    rw [NestedKey.data] at r
    cases r with
    | tuple h1 h2 h3 h4 => exact .tup h1 h2 h3 (nested_readsL h4)
theorem nested_readsL {h : Heap} : ∀ {ks : List NestedKey} {us : List Value} {as : List Addr}, ReadsAll h us (NestedKey.datas ks) as → NestedAll h ks us
  | [], us, as, r => by rw [NestedKey.datas] at r; cases r; exact .nil
  | k :: ks, us, as, r => by
    rw [NestedKey.datas] at r
    cases r with
    | cons h1 h2 => exact .cons (nested_reads h1) (nested_readsL h2)
end
theorem dp_tup {b : Addr} {k : NestedKey} (h : Dp K H (.ref b) k.data) : ∃ ks, k = .tup ks := by
  cases k with
  | none => rw [NestedKey.data] at h; cases h
  | num i => rw [NestedKey.data] at h; cases h
  | text x => rw [NestedKey.data] at h; cases h
  | tup ks => exact ⟨ks, rfl⟩
def valN (xs : List (NestedKey × Addr × V)) (k : NestedKey) : Option V := (xs.find? fun x => decide (x.1 = k)).map (·.2.2)
def putN (xs : List (NestedKey × Addr × V)) (k : NestedKey) (b : Addr) (v : V) : List (NestedKey × Addr × V) :=
  if (valN xs k).isSome then xs.map fun x => if x.1 = k then (x.1, x.2.1, v) else x else xs ++ [(k, b, v)]
variable (P w K H)
def NDict (a : Addr) (xs : List (NestedKey × Addr × V)) : Prop := (H a = some (dN P w a xs) ∨ (xs = [] ∧ H a = some (.dK []))) ∧ ∀ x ∈ xs, Dp K H (.ref x.2.1) x.1.data ∧ x.1.depth ≤ 8
def DG (a : Addr) (y : V) (r : Option V) : Prop :=
  (∃ kvs k, H a = some (.dK kvs) ∧ y = kV k ∧ r = valV kvs k) ∨
  (∃ xs k b, NDict P w K H a xs ∧ y = .ref b ∧ Dp K H (.ref b) k.data ∧ k.depth ≤ 8 ∧ r = valN xs k)
def DP (a : Addr) (y v : V) (H' : Hp) : Prop :=
  (∃ kvs k, H a = some (.dK kvs) ∧ y = kV k ∧ kvs.length < sizeLine ∧ H' = upd H a (.dK (putK kvs k v))) ∨
  (∃ xs k b, NDict P w K H a xs ∧ y = .ref b ∧ Dp K H (.ref b) k.data ∧ k.depth ≤ 8 ∧ xs.length < sizeLine ∧ H' = upd H a (dN P w a (putN xs k b v)))
variable {P w K H}
end
section
variable {X : Cx} {pins : List (Addr × Obj)} {σ : L2.St} {H : Hp} {s : Shared} {a b : Addr} {A : Around} {E : Value → Shared → Prop} {y v : V} {o : Option V} {u r : Value}
abbrev KN (kvs : List (NestedKey × Addr × V)) (xs : List (NestedKey × Addr × Value)) : Prop := Paired (fun (p : NestedKey × Addr × V) (q : NestedKey × Addr × Value) => p.1 = q.1 ∧ p.2.1 = q.2.1 ∧ RelV p.2.2 q.2.2) kvs xs
theorem is_key {k : NestedKey} (I : Inv X pins σ H s) (h : Dp X.K H (.ref b) k.data) (hd : k.depth ≤ 8) : (nestedKind X.prog X.w).is s.heap k b := by
  obtain ⟨as, r⟩ := Dp.reads I _ _ (.ref b) h rfl
  exact ⟨nested_reads r, hd⟩
theorem nd_of {kvs : List (NestedKey × Addr × V)} (I : Inv X pins σ H s) (e : NDict X.prog X.w X.K H a kvs) : kvs.length ≤ sizeLine ∧ (a == sysModules) = false ∧ ∃ xs, KN kvs xs ∧ s.heap.DictOfH (nestedKind X.prog X.w) a xs := by
  obtain ⟨e, hk⟩ := e
  rcases e with e | ⟨rfl, e⟩
  · obtain ⟨⟨xs, rel, z, hd, ob, es, ep, h1, h2, h3, h4, h5⟩, _⟩ := I.hok a _ e
    refine ⟨z, hd, xs, rel, ob, es, ep, h1, h2, h3, h4, fun x hx => ?_, h5⟩
    obtain ⟨i, hi, ex⟩ := List.mem_iff_getElem.mp hx
    have hl := Paired.length rel
    have hi' : i < kvs.length := by omega
    have rr : ∀ {l : List (NestedKey × Addr × V)} {m : List (NestedKey × Addr × Value)}, KN l m → ∀ (i : Nat) (h1 : i < l.length) (h2 : i < m.length), l[i].1 = m[i].1 ∧ l[i].2.1 = m[i].2.1 := by
      intro l m q
      induction q with
      | nil => intro i h1; exact absurd h1 (by simp)
      | @cons p q ps qs hq t ih =>
        intro i h1 h2
        cases i with
        | zero => exact ⟨hq.1, hq.2.1⟩
        | succ i => exact ih i (by simpa using h1) (by simpa using h2)
    obtain ⟨q1, q2⟩ := rr rel i hi' hi
    rw [ex] at q1 q2
    obtain ⟨k1, k2⟩ := hk kvs[i] (List.getElem_mem hi')
    rw [← q1, ← q2]
    exact is_key I k1 k2
  · obtain ⟨z, hd, vs, rel, ob, es, ep, h1, h2, h3, h4, h5⟩ := dk_of I.hok e
    cases rel
    have e0 : es.toList = [] := by
      generalize es.toList = l at h5
      have q := h5.1
      cases l with
      | nil => rfl
      | cons x r => cases q
    exact ⟨Nat.zero_le _, hd, [], .nil, ob, es, ep, h1, h2, h3, by rw [e0]; rfl, (fun _ hx => nomatch hx), List.nodup_nil⟩
theorem KN.val {kvs : List (NestedKey × Addr × V)} {xs : List (NestedKey × Addr × Value)} (r : KN kvs xs) (k : NestedKey) : RelO (valN kvs k) ((atKey xs k).map (·.2)) := by
  induction r with
  | nil => exact True.intro
  | @cons p q ps qs h t ih =>
    by_cases e : p.1 = k
    · have e' : q.1 = k := h.1 ▸ e
      have a1 : valN (p :: ps) k = some p.2.2 := by unfold valN; simp [List.find?_cons, e]
      have a2 : (atKey (q :: qs) k).map (·.2) = some q.2.2 := by unfold atKey; simp [List.find?_cons, e']
      rw [a1, a2]
      exact h.2.2
    · have e' : ¬ q.1 = k := h.1 ▸ e
      have a1 : valN (p :: ps) k = valN ps k := by unfold valN; simp [List.find?_cons, e]
      have a2 : atKey (q :: qs) k = atKey qs k := by unfold atKey; simp [List.find?_cons, e']
      rw [a1, a2]
      exact ih
theorem KN.repl {kvs : List (NestedKey × Addr × V)} {xs : List (NestedKey × Addr × Value)} (r : KN kvs xs) (k : NestedKey) (rv : RelV v u) :
    KN (kvs.map fun x => if x.1 = k then (x.1, x.2.1, v) else x) (xs.map (putAt k u)) := by
  induction r with
  | nil => exact .nil
  | @cons p q ps qs h t ih =>
    refine .cons ?_ ih
    unfold putAt
    by_cases e : p.1 = k
    · have e' : q.1 = k := h.1 ▸ e
      dsimp only
      rw [if_pos e, if_pos e']
      exact ⟨h.1, h.2.1, rv⟩
    · have e' : ¬ q.1 = k := h.1 ▸ e
      dsimp only
      rw [if_neg e, if_neg e']
      exact h
theorem KN.snoc {kvs : List (NestedKey × Addr × V)} {xs : List (NestedKey × Addr × Value)} (r : KN kvs xs) (k : NestedKey) (b : Addr) (rv : RelV v u) : KN (kvs ++ [(k, b, v)]) (xs ++ [(k, b, u)]) := by
  induction r with
  | nil => exact .cons ⟨rfl, rfl, rv⟩ .nil
  | cons h t ih => exact .cons h ih
theorem KN.put {kvs : List (NestedKey × Addr × V)} {xs : List (NestedKey × Addr × Value)} (r : KN kvs xs) (k : NestedKey) (b : Addr) (rv : RelV v u) : KN (putN kvs k b v) (storedH xs k b u) := by
  have e : (valN kvs k).isSome = (atKey xs k).isSome := by
    have h := (r.val k).isSome_eq
    rw [Option.isSome_map] at h
    exact h
  unfold putN storedH
  rw [e]
  split
  · exact r.repl k rv
  · exact r.snoc k b rv
theorem putN_length (xs : List (NestedKey × Addr × V)) (k : NestedKey) (b : Addr) (v : V) : (putN xs k b v).length ≤ xs.length + 1 := by
  unfold putN
  split
  · rw [List.length_map]; exact Nat.le_succ _
  · rw [List.length_append]; exact Nat.le_refl _
theorem gd_getItem {Q : Value → Shared → Prop} (hu : A.units + 9 < cLine) (I : Inv X pins σ H s) (g : DG X.prog X.w X.K H a y (some v)) (ry : RelV y u) (h : ∀ w' s', Inv X pins σ H s' → RelV v w' → Q w' s') :
    wpAny (model X.prog X.w) A (getItem (.ref a) u) Q E s := by
  rcases g with ⟨kvs, k, e, ey, l⟩ | ⟨kvs, k, b, e, ey, eb, hd, l⟩
  · exact d_getItem (by omega) I (.inl ⟨kvs, k, .inl e, ey, l⟩) ry h
  · subst ey
    cases (show u = Value.ref b from ry)
    obtain ⟨z, hd', xs, rel, dd⟩ := nd_of I e
    obtain ⟨w', hw, rw'⟩ := RelO.some_of (v := v) (o := (atKey xs k).map (·.2)) (by rw [l]; exact rel.val k)
    obtain ⟨p, hp, hp2⟩ := Option.map_eq_some_iff.mp hw
    refine wpAny_getItem_heap (show A.units + 1 + 8 < cLine by omega) (is_key I eb hd) dd hp ?_
    rw [hp2]
    exact h w' _ (I.tok _) rw'
theorem gd_in {Q : Value → Shared → Prop} (hu : A.units + 9 < cLine) (I : Inv X pins σ H s) (g : DG X.prog X.w X.K H a y o) (ry : RelV y u) (h : ∀ s', Inv X pins σ H s' → Q (.bool o.isSome) s') :
    wpAny (model X.prog X.w) A (compareOp .In u (.ref a)) Q E s := by
  rcases g with ⟨kvs, k, e, ey, l⟩ | ⟨kvs, k, b, e, ey, eb, hd, l⟩
  · exact d_in (by omega) I (.inl ⟨kvs, k, .inl e, ey, l⟩) ry h
  · subst ey
    cases (show u = Value.ref b from ry)
    obtain ⟨z, hd', xs, rel, dd⟩ := nd_of I e
    refine wpAny_in_heap (show A.units + 1 + 8 < cLine by omega) (is_key I eb hd) hd' dd ?_
    have q := (rel.val k).isSome_eq
    rw [Option.isSome_map] at q
    rw [← q, ← l]
    exact h _ (I.tok _)
theorem gd_notIn {Q : Value → Shared → Prop} (hu : A.units + 9 < cLine) (I : Inv X pins σ H s) (g : DG X.prog X.w X.K H a y o) (ry : RelV y u) (h : ∀ s', Inv X pins σ H s' → Q (.bool (!o.isSome)) s') :
    wpAny (model X.prog X.w) A (compareOp .NotIn u (.ref a)) Q E s := by
  rcases g with ⟨kvs, k, e, ey, l⟩ | ⟨kvs, k, b, e, ey, eb, hd, l⟩
  · exact d_notIn (by omega) I (.inl ⟨kvs, k, .inl e, ey, l⟩) ry h
  · subst ey
    cases (show u = Value.ref b from ry)
    obtain ⟨z, hd', xs, rel, dd⟩ := nd_of I e
    refine wpAny_notIn_heap (show A.units + 1 + 8 < cLine by omega) (is_key I eb hd) hd' dd ?_
    have q := (rel.val k).isSome_eq
    rw [Option.isSome_map] at q
    rw [← q, ← l]
    exact h _ (I.tok _)
theorem gd_setItem {H' : Hp} {Q : Unit → Shared → Prop} (hu : A.units + 9 < cLine) (I : Inv X pins σ H s) (g : DP X.prog X.w X.K H a y v H') (ry : RelV y u) (rv : RelV v r) (h : ∀ s', Inv X pins σ H' s' → Q () s') :
    wpAny (model X.prog X.w) A (setItem (.ref a) u r) Q E s := by
  rcases g with ⟨kvs, k, e, ey, l, eH⟩ | ⟨kvs, k, b, e, ey, eb, hd, l, eH⟩
  · exact d_setItem (by omega) I (.inl ⟨kvs, k, e, ey, l, eH⟩) ry rv h
  · subst ey eH
    cases (show u = Value.ref b from ry)
    have mu : Mut (H a) := by
      rcases e.1 with q | ⟨_, q⟩
      · rw [q]; exact True.intro
      · rw [q]; exact True.intro
    obtain ⟨z, hd', xs, rel, dd⟩ := nd_of I e
    have hz : xs.length ≤ sizeLine := by rw [← Paired.length rel]; exact z
    have hl : (putN kvs k b v).length ≤ sizeLine := by have := putN_length kvs k b v; omega
    refine wpAny_setItem_heap (hsz := hz) (show A.units + 1 + 8 < cLine by omega) (is_key I eb hd) dd fun h' dd' hs => h _ ?_
    obtain ⟨q, es, ep, hq, h2, h3, h4, _, h5⟩ := dd'
    refine d_write I mu hs ⟨q, hq⟩ ⟨⟨_, rel.put k b rv, hl, hd', q, es, ep, hq, h2, h3, h4, h5⟩, ⟨q, hq⟩, ?_⟩
    rintro h1 h2 ⟨xs, r1, r2, r3, ob, es, ep, r4, r5⟩ st
    exact ⟨xs, r1, r2, r3, ob, es, ep, st _ r4, r5⟩
theorem gd_typeIs (I : Inv X pins σ H s) (g : DG X.prog X.w X.K H a y o) : s.TypeIs (.ref a) "dict" := by
  rcases g with ⟨kvs, k, e, ey, l⟩ | ⟨kvs, k, b, e, ey, eb, hd, l⟩
  · exact dict_typeIs I (.inl ⟨kvs, k, .inl e, ey, l⟩)
  · obtain ⟨_, _, _, _, dd⟩ := nd_of I e
    exact dd.typeIs
end
end G
set_option Elab.async false
set_option linter.all false
set_option maxRecDepth 100000
namespace G
open PySem PySem.Spec PyProof.Rows L2
def keyOk (ks : List D) (k : D) : Bool :=
  match k.toK with
  | some _ => ks.all fun d => d.toK.isSome
  | none => match k.toN with
    | some n => k.isTup && decide (n.depth ≤ 8) && ks.all D.isTup
    | none => false
def R.own (r : R) (env : En) : Option D :=
  match r with
  | .v d => some d
  | .p j π => (R.get (.p j π) env).bind fun d => if d.pure = true then some d else none
def owns : List R → En → Option (List D)
  | [], _ => some []
  | r :: rs, env => (r.own env).bind fun d => (owns rs env).bind fun ds => some (d :: ds)
def ko (f : List D → Option D) : Kn := fun rs env => (owns rs env).bind fun ds => (f ds).bind fun d => some (.v d, env)
section
variable {P : Program} {w : World} {K : PySem.W.Frag} {Z Z' : Addr → Prop} {H H' : Hp} {env env' : En} {T T' : Nat → VT} {σ : L2.St} {av : List (V × D)}
theorem valV_kidx : ∀ (kvs : List (Key × V)) (k : Key), valV kvs k = (kidx (kvs.map fun p => keyS p.1) (keyS k)).bind fun n => (kvs.map (·.2))[n]?
  | [], k => rfl
  | p :: r, k => by
    by_cases e : p.1 = k
    · rw [valV_pos e]
      unfold kidx
      simp [List.findIdx?_cons, e]
    · have e' : ¬ keyS p.1 = keyS k := fun q => e (keyS_inj q)
      rw [valV_neg e, valV_kidx r k]
      unfold kidx
      rw [List.map_cons, List.findIdx?_cons]
      simp only [e', decide_false, Bool.false_eq_true, if_false]
      rw [Option.bind_map]
      rfl
theorem valN_kidx : ∀ (xs : List (NestedKey × Addr × V)) (k : NestedKey), valN xs k = (kidx (xs.map fun p => keyD p.1) (keyD k)).bind fun n => (xs.map (·.2.2))[n]?
  | [], k => rfl
  | p :: r, k => by
    by_cases e : p.1 = k
    · unfold kidx valN
      simp [List.findIdx?_cons, e]
    · have e' : ¬ keyD p.1 = keyD k := fun q => e (keyD_inj q)
      have h : valN (p :: r) k = valN r k := by unfold valN; simp [List.find?_cons, e]
      rw [h, valN_kidx r k]
      unfold kidx
      rw [List.map_cons, List.findIdx?_cons]
      simp only [e', decide_false, Bool.false_eq_true, if_false]
      rw [Option.bind_map]
      rfl
theorem get_map {ts : List VT} {vs : List V} (e : ts.map VT.v = vs) (n : Nat) : vs[n]? = (ts[n]?).map VT.v := by rw [← e, List.getElem?_map]
theorem Own.dct {m : Bool} {ks vs : List D} {t : VT} (h : Own P w K Z H (.dct m ks vs) t) : ∃ a, t.v = .ref a ∧ (m = false → Z a ∧ D.pureL vs = true) ∧ ks.Nodup ∧
      ((∃ kvs : List (Key × V), H a = some (.dK kvs) ∧ ks = kvs.map (fun p => keyS p.1) ∧ t.ks.map VT.v = kvs.map (·.2)) ∨
       (∃ xs : List (NestedKey × Addr × V), xs ≠ [] ∧ H a = some (dN P w a xs) ∧ ks = xs.map (fun x => keyD x.1) ∧ t.ks.map VT.v = xs.map (·.2.2) ∧
          ∀ x ∈ xs, Dp K H (.ref x.2.1) x.1.data ∧ x.1.depth ≤ 8)) ∧ OwnL P w K Z H vs t.ks := by
  cases t with
  | mk v ks => rw [Own] at h; exact h
theorem keyD_tup {n : NestedKey} {b : Addr} (h : Dp K H (.ref b) n.data) : (keyD n).isTup = true := by
  obtain ⟨ks, rfl⟩ := dp_tup h
  rw [keyD]; rfl
theorem own_DG {m : Bool} {ks vs : List D} {k : D} {t tk : VT} (o : Own P w K Z H (.dct m ks vs) t) (ok : Own P w K Z H k tk) (h : keyOk ks k = true) :
    ∃ a, t.v = .ref a ∧ DG P w K H a tk.v ((kidx ks k).bind fun n => (t.ks[n]?).map VT.v) := by
  obtain ⟨a, ea, hm, _, q, ol⟩ := o.dct
  refine ⟨a, ea, ?_⟩
  unfold keyOk at h
  rcases q with ⟨kvs, q, r1, r2⟩ | ⟨xs, q0, q, r1, r2, r3⟩
  · cases hk : k.toK with
    | some key =>
      have ek := toK_eq hk
      subst ek
      refine .inl ⟨kvs, key, q, ?_, ?_⟩
      · cases key with
        | inl i => exact ok.int
        | inr x => exact ok.str
      · rw [valV_kidx, r1]
        congr 1
        funext n
        rw [← r2, List.getElem?_map]
    | none =>
      rw [hk] at h
      cases hn : k.toN with
      | none => rw [hn] at h; cases h
      | some n =>
        rw [hn] at h
        simp only [Bool.and_eq_true, decide_eq_true_eq, List.all_eq_true] at h
        have e0 : kvs = [] := by
          cases kvs with
          | nil => rfl
          | cons p r =>
            have h2 := h.2 (keyS p.1) (by rw [r1]; exact List.mem_cons_self)
            cases hp : p.1 <;> rw [hp] at h2 <;> cases h2
        subst e0
        have ek := toN_eq hn
        subst ek
        have dp := ok.key
        have hb : ∃ b, tk.v = .ref b := by
          cases n with
          | tup l => rw [keyD] at ok; obtain ⟨b, e, _⟩ := ok.tup; exact ⟨b, e⟩
          | none => rw [keyD] at h; cases h.1.1
          | num i => rw [keyD] at h; cases h.1.1
          | text x => rw [keyD] at h; cases h.1.1
        obtain ⟨b, eb⟩ := hb
        rw [eb] at dp ⊢
        refine .inr ⟨[], n, b, ⟨.inr ⟨rfl, q⟩, fun _ z => nomatch z⟩, rfl, dp, h.1.2, ?_⟩
        rw [r1]; rfl
  · cases hk : k.toK with
    | some key =>
      rw [hk] at h
      simp only [List.all_eq_true] at h
      exfalso
      cases xs with
      | nil => exact q0 rfl
      | cons p r =>
        have h2 := h (keyD p.1) (by rw [r1]; exact List.mem_cons_self)
        obtain ⟨l, el⟩ := dp_tup (r3 p List.mem_cons_self).1
        rw [el, keyD] at h2
        cases h2
    | none =>
      rw [hk] at h
      cases hn : k.toN with
      | none => rw [hn] at h; cases h
      | some n =>
        rw [hn] at h
        simp only [Bool.and_eq_true, decide_eq_true_eq, List.all_eq_true] at h
        have ek := toN_eq hn
        subst ek
        have dp := ok.key
        have hb : ∃ b, tk.v = .ref b := by
          cases n with
          | tup l => rw [keyD] at ok; obtain ⟨b, e, _⟩ := ok.tup; exact ⟨b, e⟩
          | none => rw [keyD] at h; cases h.1.1
          | num i => rw [keyD] at h; cases h.1.1
          | text x => rw [keyD] at h; cases h.1.1
        obtain ⟨b, eb⟩ := hb
        rw [eb] at dp ⊢
        refine .inr ⟨xs, n, b, ⟨.inl q, r3⟩, rfl, dp, h.1.2, ?_⟩
        rw [valN_kidx, r1]
        congr 1
        funext i
        rw [← r2, List.getElem?_map]
theorem R.own_get {r : R} {d : D} (e : r.own env = some d) : r.get env = some d ∧ (d.pure = true ∨ r = .v d) := by
  cases r with
  | v d' => cases e; exact ⟨rfl, .inr rfl⟩
  | p j π =>
    obtain ⟨d', e1, e2⟩ := Option.bind_eq_some_iff.mp e
    by_cases hp : d'.pure = true
    · rw [if_pos hp] at e2
      cases e2
      exact ⟨e1, .inl hp⟩
    · rw [if_neg hp] at e2; cases e2
theorem owns_own {rs : List R} {ts : List VT} {ds : List D} (R1 : Rel P w K av Z env T σ H) (rr : RRelL P w K Z env T H rs ts) (e : owns rs env = some ds) :
    OwnL P w K Z H ds ts ∧ (∀ a ∈ fpL ds ts, a ∈ rfpL rs ts) ∧ (rfpL rs ts).Sublist (rfpL rs ts) ∧ (fpL ds ts).Sublist (rfpL rs ts) := by
  induction rs generalizing ts ds with
  | nil =>
    cases ts with
    | nil => cases e; rw [OwnL, fpL]; exact ⟨trivial, (fun _ z => nomatch z), .refl _, List.nil_sublist _⟩
    | cons t ts => exact rr.elim
  | cons r rs ih =>
    cases ts with
    | nil => exact rr.elim
    | cons t ts =>
      obtain ⟨d, e1, e⟩ := Option.bind_eq_some_iff.mp e
      obtain ⟨ds', e2, e⟩ := Option.bind_eq_some_iff.mp e
      cases e
      obtain ⟨g, hp⟩ := R.own_get e1
      obtain ⟨i1, i2, _, i4⟩ := ih rr.2 e2
      have sub : (fp d t).Sublist (rfp r t) := by
        rcases hp with hp | rfl
        · rw [fp_pure hp]; exact List.nil_sublist _
        · exact .refl _
      have s2 : (fpL (d :: ds') (t :: ts)).Sublist (rfpL (r :: rs) (t :: ts)) := by
        rw [fpL, rfpL]
        exact sub.append i4
      rw [OwnL]
      exact ⟨⟨R1.at rr.1 g, i1⟩, fun a ha => s2.subset ha, .refl _, s2⟩
theorem RRelL.apart {rs : List R} {ts : List VT} (rr : RRelL P w K Z env T H rs ts) : ∀ a ∈ rfpL rs ts, ¬ Z a ∧ ¬ AllFp env T a := by
  induction rs generalizing ts with
  | nil => intro a ha; rw [rfpL] at ha; cases ha
  | cons r rs ih =>
    cases ts with
    | nil => exact rr.elim
    | cons t ts =>
      intro a ha
      rw [rfpL] at ha
      rcases List.mem_append.mp ha with ha | ha
      · cases r with
        | v d => exact rr.1.2 a ha
        | p j π => cases ha
      · exact ih rr.2 a ha
theorem Done.mov {ms : List Nat} {rs : List R} {ts : List VT} {d : D} {t : VT} {Q : VK} (f : Done P w K av Z env T σ H (fun a => AllFp env T a ∨ a ∈ rfpL rs ts) ms (.v d) env Q) (R1 : Rel P w K av Z env T σ H)
    (rr : RRelL P w K Z env T H rs ts) (k : Kp (fun _ => False) H H') (o : Own P w K Z H' d t) (nd : (fp d t).Nodup) (fr : ∀ a ∈ fp d t, a ∈ rfpL rs ts ∨ H a = none) : Q t.v H' := by
  have af : ∀ a, AllFp env T a → H a ≠ none := fun a ha z => by
    obtain ⟨o, ho, _⟩ := R1.stands ha
    rw [ho] at z; cases z
  refine f H' Z T t (R1.kp k fun _ z => z.elim) ⟨o, fun a ha => ?_⟩ nd ⟨k.mono fun _ z => z.elim, fun a h => ?_, fun a h => .inl h, fun _ h => h⟩ ⟨fun _ _ => ⟨rfl, rfl⟩, fun _ h => h⟩
  · rcases fr a ha with q | q
    · exact rr.apart a q
    · exact ⟨fun z => R1.zs a z q, fun z => af a z q⟩
  · rcases h with h | h
    · exact .inl (.inl h)
    · rcases fr a h with q | q
      · exact .inl (.inr q)
      · exact .inr q
theorem Step.keep {f : List D → Option D} {xs : List V} {Q : VK} (h : Step P w K (ko f) [] xs H Q) : ∃ Z ds ts d, ts.map VT.v = xs ∧ OwnL P w K Z H ds ts ∧ (fpL ds ts).Nodup ∧ f ds = some d ∧
    ∀ H' t, Kp (fun _ => False) H H' → Own P w K Z H' d t → (fp d t).Nodup → (∀ a ∈ fp d t, a ∈ fpL ds ts ∨ H a = none) → Q t.v H' := by
  obtain ⟨av, Z, env, T, σ, rs, ts, r, env', e0, R1, rr, nd, e, dn⟩ := h
  obtain ⟨ds, e1, e⟩ := Option.bind_eq_some_iff.mp e
  obtain ⟨d, e2, e⟩ := Option.bind_eq_some_iff.mp e
  cases e
  obtain ⟨o1, o2, _, o4⟩ := owns_own R1 rr e1
  exact ⟨Z, ds, ts, d, e0, o1, nd.sublist o4, e2, fun H' t k o nd fr => dn.mov R1 rr k o nd fun a ha => (fr a ha).imp (o2 a) id⟩
def fTup (ds : List D) : Option D := if ds.length ≤ sizeLine then some (.tup ds) else none
def fLst (ds : List D) : Option D := if ds.length ≤ sizeLine then some (.lst true ds) else none
theorem st_tup {xs : List V} {Q : VK} (h : Step P w K (ko fTup) [] xs H Q) : xs.length ≤ sizeLine ∧ ∀ p, H p = none → Q (.ref p) (upd H p (.tup xs)) := by
  obtain ⟨Z, ds, ts, d, rfl, o, nd, e, dn⟩ := h.keep
  unfold fTup at e
  split at e
  · rename_i hz
    cases e
    refine ⟨by rw [List.length_map, ← o.length]; exact hz, fun p np => ?_⟩
    refine dn _ (.mk (.ref p) ts) (kp_new np) ?_ (by rw [fp]; exact nd) fun a ha => .inl (by rw [fp] at ha; exact ha)
    rw [Own]
    exact ⟨p, rfl, .of upd_same, o.frame (kp_new (S := fun _ => False) np) (fun _ _ z => z) (fun _ z => z) fun _ _ z => z⟩
  · cases e
theorem st_lst {xs : List V} {Q : VK} (h : Step P w K (ko fLst) [] xs H Q) : xs.length ≤ sizeLine ∧ ∀ p, H p = none → Q (.ref p) (upd H p (.lst xs)) := by
  obtain ⟨Z, ds, ts, d, rfl, o, nd, e, dn⟩ := h.keep
  unfold fLst at e
  split at e
  · rename_i hz
    cases e
    refine ⟨by rw [List.length_map, ← o.length]; exact hz, fun p np => ?_⟩
    have hp : p ∉ fpL ds ts := fun z => by
      obtain ⟨u, hu, _⟩ := o.stands p z
      rw [np] at hu; cases hu
    refine dn _ (.mk (.ref p) ts) (kp_new np) ?_ (by rw [fp, vad, List.singleton_append]; exact List.nodup_cons.mpr ⟨hp, nd⟩) fun a ha => ?_
    · rw [Own]
      exact ⟨p, rfl, upd_same, o.frame (kp_new (S := fun _ => False) np) (fun _ _ z => z) (fun _ z => z) fun _ _ z => z⟩
    · rw [fp, vad, List.singleton_append] at ha
      rcases List.mem_cons.mp ha with rfl | ha
      · exact .inr np
      · exact .inl ha
  · cases e
theorem at_snoc : ∀ {p : List Nat} {d c x : D} {n : Nat}, d.at p = some c → c.kids[n]? = some x → d.at (p ++ [n]) = some x
  | [], d, c, x, n, e, e' => by
    rw [D.at] at e; cases e
    rw [List.nil_append, D.at, e', Option.bind_some, D.at]
  | m :: p, d, c, x, n, e, e' => by
    rw [D.at] at e
    obtain ⟨b, e1, e2⟩ := Option.bind_eq_some_iff.mp e
    rw [List.cons_append, D.at, e1, Option.bind_some]
    exact at_snoc (p := p) e2 e'
theorem vat_snoc : ∀ {p : List Nat} {d c x : VT} {n : Nat}, d.at p = some c → c.ks[n]? = some x → d.at (p ++ [n]) = some x
  | [], d, c, x, n, e, e' => by
    rw [VT.at] at e; cases e
    rw [List.nil_append, VT.at, e', Option.bind_some, VT.at]
  | m :: p, d, c, x, n, e, e' => by
    rw [VT.at] at e
    obtain ⟨b, e1, e2⟩ := Option.bind_eq_some_iff.mp e
    rw [List.cons_append, VT.at, e1, Option.bind_some]
    exact vat_snoc (p := p) e2 e'
def R.kid (r : R) (d : D) (n : Nat) : Option R :=
  match r with
  | .v _ => (d.kids[n]?).map .v
  | .p j π => (d.kids[n]?).map fun _ => .p j (π ++ [n])
def ixD (r : R) (d k : D) : Option R :=
  match d, k with
  | .str z, .int i => if z.length ≤ sizeLine then (atI z.cps.toList i).map fun c => .v (.str ⟨#[c]⟩) else none
  | .dct m ks vs, k => if keyOk ks k = true then (kidx ks k).bind fun n => r.kid (.dct m ks vs) n else none
  | .tup ds, .int i => (ixN ds.length i).bind fun n => r.kid (.tup ds) n
  | .lst m ds, .int i => (ixN ds.length i).bind fun n => r.kid (.lst m ds) n
  | _, _ => none
def kIx : Kn := fun rs env => match rs with
  | [r, i] => (r.get env).bind fun d => (i.get env).bind fun k => (ixD r d k).map fun c => (c, env)
  | _ => none
def rGetD (P : Program) (w : World) (K : PySem.W.Frag) : R2 := fun x y H Q => ∃ a v, x = .ref a ∧ DG P w K H a y (some v) ∧ Q v H
def rIxG (P : Program) (w : World) (K : PySem.W.Frag) : R2 := fun x y H Q => rIx K x y H Q ∨ rGetD P w K x y H Q
theorem kid_give {r r2 : R} {t t2 : VT} {d c : D} {n : Nat} {r' : R} {ms : List Nat} {Q : VK} (R1 : Rel P w K av Z env T σ H) (rr : RRelL P w K Z env T H [r, r2] [t, t2]) (nd : (rfpL [r, r2] [t, t2]).Nodup)
    (e1 : r.get env = some d) (e2 : r.kid d n = some r') (dn : Done P w K av Z env T σ H (fun a => AllFp env T a ∨ a ∈ rfpL [r, r2] [t, t2]) ms r' env Q) : ∃ tc, t.ks[n]? = some tc ∧ Q tc.v H := by
  have o := R1.at rr.1 e1
  cases r with
  | v d' =>
    obtain rfl : d = d' := (Option.some.inj e1).symm
    obtain ⟨c, ec, rfl⟩ := Option.map_eq_some_iff.mp e2
    obtain ⟨tc, f1, oc⟩ := o.kid ec
    refine ⟨tc, f1, ?_⟩
    have sub : (fp c tc).Sublist (fp d t) := by
      cases hp : c.pure with
      | true => rw [fp_pure hp]; exact List.nil_sublist _
      | false =>
        obtain ⟨pre, post, q, _⟩ := kid_split o hp ec f1
        rw [q]
        exact (List.sublist_append_right _ _).trans (List.sublist_append_left _ _)
    have sub2 : (fp c tc).Sublist (rfpL [.v d, r2] [t, t2]) := by
      rw [rfpL]
      exact sub.trans (List.sublist_append_left _ _)
    exact dn.mov R1 rr .refl oc (nd.sublist sub2) fun a ha => .inl (sub2.subset ha)
  | p j π =>
    obtain ⟨c, ec, rfl⟩ := Option.map_eq_some_iff.mp e2
    obtain ⟨tc, f1, oc⟩ := o.kid ec
    obtain ⟨d0, c0, g1, g2, g3⟩ := rr.1
    have hd : c0 = d := by
      rw [R.get, g1, Option.bind_some, g2] at e1
      exact Option.some.inj e1
    subst hd
    refine ⟨tc, f1, dn H Z T tc R1 ⟨d0, c, g1, at_snoc g2 ec, vat_snoc g3 f1⟩ List.nodup_nil ⟨.refl, fun a h => .inl (h.imp id fun z => nomatch z), fun a h => .inl h, fun _ h => h⟩ ⟨fun _ _ => ⟨rfl, rfl⟩, fun _ h => h⟩⟩
theorem ixN_atI {α : Type} {xs : List α} {i : Int} {n : Nat} {x : α} (e : ixN xs.length i = some n) (h : xs[n]? = some x) : atI xs i = some x := by
  unfold atI; rw [e, Option.bind_some, h]
theorem st_ix0 {r r2 : R} {t t2 : VT} {d k : D} {c : R} {Q : VK} (R1 : Rel P w K av Z env T σ H) (rr : RRelL P w K Z env T H [r, r2] [t, t2]) (nd : (rfpL [r, r2] [t, t2]).Nodup)
    (e1 : r.get env = some d) (o : Own P w K Z H d t) (o2 : Own P w K Z H k t2) (ec : ixD r d k = some c) (dn : Done P w K av Z env T σ H (fun a => AllFp env T a ∨ a ∈ rfpL [r, r2] [t, t2]) [] c env Q) : rIxG P w K t.v t2.v H Q := by
  unfold ixD at ec
  split at ec
  · rename_i z i
    split at ec
    · rename_i hz
      obtain ⟨c', ec', e⟩ := Option.map_eq_some_iff.mp ec
      subst e
      refine .inl (.inr (.inr ⟨z, i, c', o.str, o2.int, hz, ec', ?_⟩))
      exact flat_give (P := P) (w := w) (K := K) (Z := Z) rfl fun H' t k o nd fr => dn.new R1 (fun _ h => .inl h) k o nd fr
    · cases ec
  · rename_i m ks vs
    split at ec
    · rename_i hk
      obtain ⟨n, en, ec⟩ := Option.bind_eq_some_iff.mp ec
      obtain ⟨a, ea, dg⟩ := own_DG o o2 hk
      obtain ⟨tc, f1, q⟩ := kid_give (c := .non) R1 rr nd e1 ec dn
      rw [en, Option.bind_some, f1] at dg
      exact .inr ⟨a, tc.v, ea, dg, q⟩
    · cases ec
  · rename_i ds i
    obtain ⟨n, en, ec⟩ := Option.bind_eq_some_iff.mp ec
    obtain ⟨a, ea, q1, ol⟩ := o.tup
    obtain ⟨tc, f1, q⟩ := kid_give (c := .non) R1 rr nd e1 ec dn
    refine .inl (.inr (.inl ⟨a, _, i, tc.v, ea, o2.int, q1, ?_, q⟩))
    exact ixN_atI (by rw [List.length_map, ← ol.length]; exact en) (by rw [List.getElem?_map, f1]; rfl)
  · rename_i m ds i
    obtain ⟨n, en, ec⟩ := Option.bind_eq_some_iff.mp ec
    obtain ⟨a, ea, q1, ol⟩ := o.lst
    obtain ⟨tc, f1, q⟩ := kid_give (c := .non) R1 rr nd e1 ec dn
    refine .inl (.inl ⟨a, _, i, tc.v, ea, o2.int, q1, ?_, q⟩)
    exact ixN_atI (by rw [List.length_map, ← ol.length]; exact en) (by rw [List.getElem?_map, f1]; rfl)
  · cases ec
theorem st_ix {x y : V} {Q : VK} (h : Step P w K kIx [] [x, y] H Q) : rIxG P w K x y H Q := by
  obtain ⟨av, Z, env, T, σ, rs, ts, r', env', e0, R1, rr, nd, e, dn⟩ := h
  match ts, e0 with
  | [t, t2], e0 =>
    simp only [List.map_cons, List.map_nil, List.cons.injEq, and_true] at e0
    obtain ⟨rfl, rfl⟩ := e0
    match rs, rr with
    | [r, r2], rr =>
      unfold kIx at e
      dsimp only at e
      obtain ⟨d, e1, e⟩ := Option.bind_eq_some_iff.mp e
      obtain ⟨k, e2, e⟩ := Option.bind_eq_some_iff.mp e
      obtain ⟨c, ec, e⟩ := Option.map_eq_some_iff.mp e
      cases e
      exact st_ix0 R1 rr nd e1 (R1.at rr.1 e1) (R1.at rr.2.1 e2) ec dn
    | [], rr => exact rr.elim
    | [_], rr => exact rr.2.elim
    | _ :: _ :: _ :: _, rr => exact rr.2.2.elim
end
section
variable {X : Cx} {pos : Pos} {a b : Expr} {ma mb : ME}
theorem ix_dict (hu : X.A.units + 9 < cLine) : IxR X (rGetD X.prog X.w X.K) := by
  intro value slice pins s σ H x y v u Q I rx ry h hs
  obtain ⟨p, z, rfl, dg, q⟩ := h
  cases rx
  exact tail_any (gd_typeIs I dg) PySem.F.slot_dict_getitem.lookup (gd_getItem hu I dg ry fun w' s' I' rw' => ⟨z, H, I', rw', q⟩) hs
theorem ix_G (hu : X.A.units + 9 < cLine) : IxR X (rIxG X.prog X.w X.K) := ix_seq.or (ix_dict hu)
def mIx (a b : ME) : ME := mOp (ma2 a b) kIx []
theorem se_ix (hu : X.A.units + 9 < cLine) (ha : SE X a ma) (hb : SE X b mb) (hs : PlainIx b := by exact fun _ _ => rfl) : SE X (.Subscript a b pos) (mIx ma mb) := (pe_ix (ix_G hu) ha hb hs).weak (tOp_of fun _ _ _ _ h => st_ix h)
def mTup (as : MA) : ME := mOp as (ko fTup) []
theorem se_tup {es : List Expr} {as : MA} {x1} (h : SA X es as) : SE X (.Tuple es x1 pos) (mTup as) := (pe_tup h).weak fun σ H Q q => tSA_mono (tS_op q) fun xs H1 s => st_tup s
def mLst (as : MA) : ME := mOp as (ko fLst) []
theorem se_lst {es : List Expr} {as : MA} (h : SA X es as) : SE X (.List es pos) (mLst as) := (pe_lst h).weak fun σ H Q q => tSA_mono (tS_op q) fun xs H1 s => st_lst s
end
end G
set_option Elab.async false
set_option linter.all false
set_option maxRecDepth 100000
namespace G
open PySem PySem.Spec PyProof.Rows L2
structure MT where
  ms : List Nat
  run : En → Option (Bool × En)
section
variable (P : Program) (w : World) (K : PySem.W.Frag)
def tST (m : MT) : TT := fun σ H Q => ∃ av Z env T, Rel P w K av Z env T σ H ∧ ∃ b env', m.run env = some (b, env') ∧
  ∀ H' Z' T', Rel P w K av Z' env' T' σ H' → Since Z H (AllFp env T) Z' H' (AllFp env' T') → Kept m.ms env T env' T' → Q b H'
end
def ST (X : Cx) (e : Expr) (m : MT) : Prop := PT X e (tST X.prog X.w X.K m)
def SW (X : Cx) (e : Expr) (m : MT) : Prop := PW X e (tST X.prog X.w X.K m)
theorem _root_.L2.PT.weak {X : Cx} {e : Expr} {t t' : TT} (h : PT X e t) (k : ∀ σ H Q, t' σ H Q → t σ H Q) : PT X e t' := ⟨fun pins s σ H Q I hw => h.run pins s σ H Q I (k σ H Q hw)⟩
theorem _root_.L2.PW.weak {X : Cx} {e : Expr} {t t' : TT} (h : PW X e t) (k : ∀ σ H Q, t' σ H Q → t σ H Q) : PW X e t' := ⟨fun wh pins s σ H Q I hw => h.run wh pins s σ H Q I (k σ H Q hw)⟩
def D.truth : D → Option Bool
  | .non => some false
  | .bl b => some b
  | .int i => some (i != 0)
  | .str x => if x.length ≤ sizeLine then some ((x.length : Int) != 0) else none
  | .tup ds => some (!ds.isEmpty)
  | .lst _ ds => some (!ds.isEmpty)
  | _ => none
def mTest (m : ME) : MT := ⟨m.ms, fun env => (m.run env).bind fun x => (x.1.get x.2).bind fun d => match d with
  | .bl b => some (b, x.2)
  | _ => none⟩
def mTru (m : ME) : MT := ⟨m.ms, fun env => (m.run env).bind fun x => (x.1.get x.2).bind fun d => d.truth.map fun b => (b, x.2)⟩
def mAnd (a b : MT) : MT := ⟨a.ms ++ b.ms, fun env => (a.run env).bind fun x => if x.1 = true then b.run x.2 else some (false, x.2)⟩
def mOr (a b : MT) : MT := ⟨a.ms ++ b.ms, fun env => (a.run env).bind fun x => if x.1 = true then some (true, x.2) else b.run x.2⟩
def mNot (a : MT) : MT := ⟨a.ms, fun env => (a.run env).map fun x => (!x.1, x.2)⟩
section
variable {P : Program} {w : World} {K : PySem.W.Frag} {Z Z' : Addr → Prop} {H H' : Hp} {env env' : En} {T T' : Nat → VT} {σ : L2.St} {av : List (V × D)}
theorem tST_mono {m : MT} {Q Q' : Bool → Hp → Prop} (h : tST P w K m σ H Q) (k : ∀ v H', Q v H' → Q' v H') : tST P w K m σ H Q' := by
  obtain ⟨av, Z, env, T, r1, r, env', e, f⟩ := h
  exact ⟨av, Z, env, T, r1, r, env', e, fun H' Z' T' a b c => k _ _ (f H' Z' T' a b c)⟩
theorem tTest_of {m : ME} {Q : Bool → Hp → Prop} (h : tST P w K (mTest m) σ H Q) : tS P w K m σ H fun x H' => ∃ k, x = .bl k ∧ Q k H' := by
  obtain ⟨av, Z, env, T, R1, b, env', e, f⟩ := h
  obtain ⟨⟨r, e1⟩, q1, e⟩ := Option.bind_eq_some_iff.mp e
  obtain ⟨d, q2, e⟩ := Option.bind_eq_some_iff.mp e
  refine ⟨av, Z, env, T, R1, r, e1, q1, fun H' Z' T' t R2 rr nd sn kk => ?_⟩
  have o := R2.at rr q2
  cases d with
  | bl b' =>
    cases e
    exact ⟨b, o.bl, f H' Z' T' R2 (sn.weak fun a h => .inl h) kk⟩
  | _ => cases e
theorem tTru_of {m : ME} {Q : Bool → Hp → Prop} (h : tST P w K (mTru m) σ H Q) : tS P w K m σ H fun x H' => ∃ k, TruV K x H' k ∧ Q k H' := by
  obtain ⟨av, Z, env, T, R1, b, env', e, f⟩ := h
  obtain ⟨⟨r, e1⟩, q1, e⟩ := Option.bind_eq_some_iff.mp e
  obtain ⟨d, q2, e⟩ := Option.bind_eq_some_iff.mp e
  obtain ⟨b', q3, e⟩ := Option.map_eq_some_iff.mp e
  cases e
  refine ⟨av, Z, env, T, R1, r, e1, q1, fun H' Z' T' t R2 rr nd sn kk => ⟨b, ?_, f H' Z' T' R2 (sn.weak fun a h => .inl h) kk⟩⟩
  have o := R2.at rr q2
  have iso : ∀ {ds : List D} {ts : List VT}, OwnL P w K Z' H' ds ts → (!ds.isEmpty) = !(ts.map VT.v).isEmpty := fun {ds ts} h => by
    have := h.length
    cases ds <;> cases ts <;> first | rfl | cases this
  cases d with
  | non => cases q3; rw [o.non]; exact rfl
  | bl b' => cases q3; rw [o.bl]; exact rfl
  | int i => cases q3; rw [o.int]; exact rfl
  | str x =>
    unfold D.truth at q3
    dsimp only at q3
    split at q3
    · rename_i hz
      cases q3; rw [o.str]; exact ⟨hz, rfl⟩
    · cases q3
  | tup ds =>
    cases q3
    obtain ⟨a, ea, q, ol⟩ := o.tup
    rw [ea]
    exact .inr (.inl ⟨_, q, iso ol⟩)
  | lst m ds =>
    cases q3
    obtain ⟨a, ea, q, ol⟩ := o.lst
    rw [ea]
    exact .inl ⟨_, q, iso ol⟩
  | _ => cases q3
theorem tAnd_of {a b : MT} : ∀ σ H Q, tST P w K (mAnd a b) σ H Q → tAnd (tST P w K a) (tST P w K b) σ H Q := by
  rintro σ H Q ⟨av, Z, env, T, R1, c, env', e, f⟩
  obtain ⟨⟨c1, e1⟩, q1, e⟩ := Option.bind_eq_some_iff.mp e
  refine ⟨av, Z, env, T, R1, c1, e1, q1, fun H1 Z1 T1 R2 sn kk => ?_⟩
  cases c1 with
  | true =>
    dsimp only at e
    rw [if_pos rfl] at e ⊢
    exact ⟨av, Z1, e1, T1, R2, c, env', e, fun H2 Z2 T2 R3 sn2 kk2 => f H2 Z2 T2 R3 (sn.trans sn2) (kk.trans kk2)⟩
  | false =>
    dsimp only at e
    rw [if_neg Bool.false_ne_true] at e ⊢
    cases e
    exact f H1 Z1 T1 R2 sn (kk.mono fun j h => List.mem_append_left _ h)
theorem tOr_of {a b : MT} : ∀ σ H Q, tST P w K (mOr a b) σ H Q → tOr (tST P w K a) (tST P w K b) σ H Q := by
  rintro σ H Q ⟨av, Z, env, T, R1, c, env', e, f⟩
  obtain ⟨⟨c1, e1⟩, q1, e⟩ := Option.bind_eq_some_iff.mp e
  refine ⟨av, Z, env, T, R1, c1, e1, q1, fun H1 Z1 T1 R2 sn kk => ?_⟩
  cases c1 with
  | false =>
    dsimp only at e
    rw [if_neg Bool.false_ne_true] at e ⊢
    exact ⟨av, Z1, e1, T1, R2, c, env', e, fun H2 Z2 T2 R3 sn2 kk2 => f H2 Z2 T2 R3 (sn.trans sn2) (kk.trans kk2)⟩
  | true =>
    dsimp only at e
    rw [if_pos rfl] at e ⊢
    cases e
    exact f H1 Z1 T1 R2 sn (kk.mono fun j h => List.mem_append_left _ h)
theorem tNot_of {a : MT} : ∀ σ H Q, tST P w K (mNot a) σ H Q → tNot (tST P w K a) σ H Q := by
  rintro σ H Q ⟨av, Z, env, T, R1, c, env', e, f⟩
  obtain ⟨⟨c1, e1⟩, q1, e⟩ := Option.map_eq_some_iff.mp e
  cases e
  exact ⟨av, Z, env, T, R1, c1, e1, q1, fun H1 Z1 T1 R2 sn kk => f H1 Z1 T1 R2 sn kk⟩
end
section
variable {X : Cx} {pos : Pos} {a b : Expr} {ma mb : ME} {ta tb : MT} {rest : List Expr}
theorem st_cmpR {op : CmpOp} {r : R2} {k : Kn} {ms : List Nat} (ho : OpR X (compareOp op) r) (hr : ∀ x y H Q, Step X.prog X.w X.K k ms [x, y] H Q → r x y H Q) (ha : SE X a ma) (hb : SE X b mb) (hm : behindInMarks op b = false) :
    ST X (.Compare a [op] [b] pos) (mTest (mOp (ma2 ma mb) k ms)) := (pt_cmpR ho ha hb hm).weak fun σ H Q q => tOp_of hr _ _ _ (tTest_of q)
theorem st_val (h : SE X a ma) (he : ∀ whole, isTrue a X.env whole = (do let v ← whole; standAt a.pos; holding [v] (truthy v)) := by intro _; rfl) : ST X a (mTest ma) := (pt_val h he).weak fun _ _ _ q => tTest_of q
theorem st_tru (h : SE X a ma) (he : ∀ whole, isTrue a X.env whole = (do let v ← whole; standAt a.pos; holding [v] (truthy v)) := by intro _; rfl) : ST X a (mTru ma) := (pt_truth h he).weak fun _ _ _ q => tTru_of q
theorem sw_and1 (h : ST X a ta) : SW X (.BoolOp .And [a] pos) ta := pw_and1 h
theorem sw_or1 (h : ST X a ta) : SW X (.BoolOp .Or [a] pos) ta := pw_or1 h
theorem sw_and (h : ST X a ta) (h2 : SW X (.BoolOp .And (b :: rest) pos) tb) : SW X (.BoolOp .And (a :: b :: rest) pos) (mAnd ta tb) := (pw_and h h2).weak tAnd_of
theorem sw_or (h : ST X a ta) (h2 : SW X (.BoolOp .Or (b :: rest) pos) tb) : SW X (.BoolOp .Or (a :: b :: rest) pos) (mOr ta tb) := (pw_or h h2).weak tOr_of
theorem SW.st (h : SW X a ta) : ST X a ta := PW.pt h
theorem st_not (h : ST X a ta) : ST X (.UnaryOp .Not a pos) (mNot ta) := (pt_not h).weak tNot_of
theorem st_lt (ha : SE X a ma) (hb : SE X b mb) : ST X (.Compare a [.Lt] [b] pos) (mTest (mLt ma mb)) := st_cmpR op_lt (fun _ _ _ _ h => st_cmp h) ha hb (nomark _)
theorem st_le (ha : SE X a ma) (hb : SE X b mb) : ST X (.Compare a [.LtE] [b] pos) (mTest (mLe ma mb)) := st_cmpR op_le (fun _ _ _ _ h => st_cmp h) ha hb (nomark _)
theorem st_gt (ha : SE X a ma) (hb : SE X b mb) : ST X (.Compare a [.Gt] [b] pos) (mTest (mGt ma mb)) := st_cmpR op_gt (fun _ _ _ _ h => st_cmp h) ha hb (nomark _)
theorem st_ge (ha : SE X a ma) (hb : SE X b mb) : ST X (.Compare a [.GtE] [b] pos) (mTest (mGe ma mb)) := st_cmpR op_ge (fun _ _ _ _ h => st_cmp h) ha hb (nomark _)
theorem st_eqT (hu : X.A.units + 64 < cLine) (ha : SE X a ma) (hb : SE X b mb) : ST X (.Compare a [.Eq] [b] pos) (mTest (mEq ma mb)) := st_cmpR (op_eqG hu) (fun _ _ _ _ h => st_eq h) ha hb (nomark _)
theorem st_neT (hu : X.A.units + 64 < cLine) (ha : SE X a ma) (hb : SE X b mb) : ST X (.Compare a [.NotEq] [b] pos) (mTest (mNe ma mb)) := st_cmpR (op_neG hu) (fun _ _ _ _ h => st_ne h) ha hb (nomark _)
theorem st_isNT (ha : SE X a ma) (hb : SE X b mb) : ST X (.Compare a [.Is] [b] pos) (mTest (mIsN ma mb)) := st_cmpR op_isN (fun _ _ _ _ h => st_isN h) ha hb (nomark _)
theorem st_notNT (ha : SE X a ma) (hb : SE X b mb) : ST X (.Compare a [.IsNot] [b] pos) (mTest (mNotN ma mb)) := st_cmpR op_notN (fun _ _ _ _ h => st_notN h) ha hb (nomark _)
end
inductive Fl where
  | nx | bk | ct | rt (d : D)
structure MS where
  ms : List Nat
  run : En → Option (Fl × En)
section
variable (P : Program) (w : World) (K : PySem.W.Frag)
def DoneS (av : List (V × D)) (Z : Addr → Prop) (env : En) (T : Nat → VT) (H : Hp) (ms : List Nat) (fl : Fl) (env' : En) (D : Ends) : Prop :=
  match fl with
  | .nx => ∀ σ' H' Z' T', Rel P w K av Z' env' T' σ' H' → Since Z H (AllFp env T) Z' H' (AllFp env' T') → Kept ms env T env' T' → D.nx σ' H'
  | .bk => ∀ σ' H' Z' T', Rel P w K av Z' env' T' σ' H' → Since Z H (AllFp env T) Z' H' (AllFp env' T') → Kept ms env T env' T' → D.bk σ' H'
  | .ct => ∀ σ' H' Z' T', Rel P w K av Z' env' T' σ' H' → Since Z H (AllFp env T) Z' H' (AllFp env' T') → Kept ms env T env' T' → D.ct σ' H'
  | .rt d => ∀ σ' H' Z' T' t, Rel P w K av Z' env' T' σ' H' → RRel P w K Z' env' T' H' (.v d) t → (fp d t).Nodup → Since Z H (AllFp env T) Z' H' (fun a => AllFp env' T' a ∨ a ∈ fp d t) → D.rt t.v H'
def tSS (m : MS) : TS := fun D σ H => ∃ av Z env T, Rel P w K av Z env T σ H ∧ ∃ fl env', m.run env = some (fl, env') ∧ DoneS P w K av Z env T H m.ms fl env' D
end
def SS (X : Cx) (st : Stmt) (m : MS) : Prop := PS X st (tSS X.prog X.w X.K m)
def SSs (X : Cx) (st : List Stmt) (m : MS) : Prop := PSs X st (tSS X.prog X.w X.K m)
theorem _root_.L2.PS.weak {X : Cx} {e : Stmt} {t t' : TS} (h : PS X e t) (k : ∀ D σ H, t' D σ H → t D σ H) : PS X e t' := ⟨fun pins s σ H D I hw => h.run pins s σ H D I (k D σ H hw)⟩
theorem _root_.L2.PSs.weak {X : Cx} {e : List Stmt} {t t' : TS} (h : PSs X e t) (k : ∀ D σ H, t' D σ H → t D σ H) : PSs X e t' := ⟨fun pins s σ H D I hw => h.run pins s σ H D I (k D σ H hw)⟩
def mSkip : MS := ⟨[], fun env => some (.nx, env)⟩
def mSeq (a b : MS) : MS := ⟨a.ms ++ b.ms, fun env => (a.run env).bind fun x => match x.1 with
  | .nx => b.run x.2
  | fl => some (fl, x.2)⟩
def mBrk : MS := ⟨[], fun env => some (.bk, env)⟩
def mCnt : MS := ⟨[], fun env => some (.ct, env)⟩
def mIf (c : MT) (a b : MS) : MS := ⟨c.ms ++ (a.ms ++ b.ms), fun env => (c.run env).bind fun x => if x.1 = true then a.run x.2 else b.run x.2⟩
def mSet (i : Nat) (m : ME) : MS := ⟨i :: m.ms, fun env => (m.run env).bind fun x => (x.1.own x.2).bind fun d => if i < x.2.length then some (.nx, x.2.set i (.val d)) else none⟩
def mDrop (m : ME) : MS := ⟨m.ms, fun env => (m.run env).bind fun x => some (.nx, x.2)⟩
def argsOnly (env : En) : En := env.map fun s => match s with
  | .arg d => .arg d
  | _ => .un
def mRet (m : ME) : MS := ⟨m.ms, fun env => (m.run env).bind fun x => match x.1 with
  | .v d => some (.rt d, argsOnly x.2)
  | .p j π => (R.get (.p j π) x.2).bind fun d => if d.pure = true then some (.rt d, argsOnly x.2) else match x.2[j]? with
    | some (.val _) => some (.rt d, argsOnly x.2)
    | _ => none⟩
def mRetN : MS := ⟨[], fun env => some (.rt .non, argsOnly env)⟩
section
variable {P : Program} {w : World} {K : PySem.W.Frag} {Z Z' : Addr → Prop} {H H' : Hp} {env env' : En} {T T' : Nat → VT} {σ : L2.St} {av : List (V × D)}
theorem DoneS.since {ms ms1 ms2 : List Nat} {fl : Fl} {e2 : En} {D : Ends} {T1 : Nat → VT} {Z1 : Addr → Prop} {H1 : Hp} (f : DoneS P w K av Z env T H ms2 fl e2 D) (sn : Since Z H (AllFp env T) Z1 H1 (AllFp env' T1)) (kk : Kept ms1 env T env' T1)
    (hm : ∀ j, j ∈ ms1 ∨ j ∈ ms → j ∈ ms2) : DoneS P w K av Z1 env' T1 H1 ms fl e2 D := by
  have k2 : ∀ {T'}, Kept ms env' T1 e2 T' → Kept ms2 env T e2 T' := fun k => (kk.trans k).mono fun j h => hm j (List.mem_append.mp h)
  cases fl with
  | nx => exact fun σ' H' Z' T' a b c => f σ' H' Z' T' a (sn.trans b) (k2 c)
  | bk => exact fun σ' H' Z' T' a b c => f σ' H' Z' T' a (sn.trans b) (k2 c)
  | ct => exact fun σ' H' Z' T' a b c => f σ' H' Z' T' a (sn.trans b) (k2 c)
  | rt d => exact fun σ' H' Z' T' t a b c e => f σ' H' Z' T' t a b c (sn.trans e)
theorem DoneS.mono {ms ms2 : List Nat} {fl : Fl} {e2 : En} {D : Ends} (f : DoneS P w K av Z env T H ms2 fl e2 D) (hm : ∀ j ∈ ms, j ∈ ms2) : DoneS P w K av Z env T H ms fl e2 D := by
  cases fl with
  | nx => exact fun σ' H' Z' T' a b c => f σ' H' Z' T' a b (c.mono hm)
  | bk => exact fun σ' H' Z' T' a b c => f σ' H' Z' T' a b (c.mono hm)
  | ct => exact fun σ' H' Z' T' a b c => f σ' H' Z' T' a b (c.mono hm)
  | rt d => exact f
theorem tSeq_of {a b : MS} : ∀ D σ H, tSS P w K (mSeq a b) D σ H → tSeq (tSS P w K a) (tSS P w K b) D σ H := by
  rintro D σ H ⟨av, Z, env, T, R1, fl, env', e, f⟩
  obtain ⟨⟨fl1, e1⟩, q1, e⟩ := Option.bind_eq_some_iff.mp e
  refine ⟨av, Z, env, T, R1, fl1, e1, q1, ?_⟩
  cases fl1 with
  | nx => exact fun σ1 H1 Z1 T1 R2 sn kk => ⟨av, Z1, e1, T1, R2, fl, env', e, f.since sn kk fun j h => List.mem_append.mpr h⟩
  | bk => cases e; exact (f.mono fun j h => List.mem_append_left _ h)
  | ct => cases e; exact (f.mono fun j h => List.mem_append_left _ h)
  | rt d => cases e; exact f
theorem tIfS_of {c : MT} {a b : MS} : ∀ D σ H, tSS P w K (mIf c a b) D σ H → tIfS (tST P w K c) (tSS P w K a) (tSS P w K b) D σ H := by
  rintro D σ H ⟨av, Z, env, T, R1, fl, env', e, f⟩
  obtain ⟨⟨c1, e1⟩, q1, e⟩ := Option.bind_eq_some_iff.mp e
  refine ⟨av, Z, env, T, R1, c1, e1, q1, fun H1 Z1 T1 R2 sn kk => ?_⟩
  cases c1 with
  | true =>
    dsimp only at e
    rw [if_pos rfl] at e ⊢
    exact ⟨av, Z1, e1, T1, R2, fl, env', e, f.since sn kk fun j h => by rcases h with h | h; exact List.mem_append_left _ h; exact List.mem_append_right _ (List.mem_append_left _ h)⟩
  | false =>
    dsimp only at e
    rw [if_neg Bool.false_ne_true] at e ⊢
    exact ⟨av, Z1, e1, T1, R2, fl, env', e, f.since sn kk fun j h => by rcases h with h | h; exact List.mem_append_left _ h; exact List.mem_append_right _ (List.mem_append_right _ h)⟩
theorem tDrop_of {m : ME} : ∀ D σ H, tSS P w K (mDrop m) D σ H → tDrop (tS P w K m) D σ H := by
  rintro D σ H ⟨av, Z, env, T, R1, fl, env', e, f⟩
  obtain ⟨⟨r, e1⟩, q1, e⟩ := Option.bind_eq_some_iff.mp e
  cases e
  exact ⟨av, Z, env, T, R1, r, e1, q1, fun H' Z' T' t R2 rr nd sn kk => f σ H' Z' T' R2 (sn.weak fun a h => .inl h) kk⟩
theorem Rel.set {i : Nat} {d : D} {t : VT} (R1 : Rel P w K av Z env T σ H) (o : Own P w K Z H d t) (nd : (fp d t).Nodup) (ap : ∀ a ∈ fp d t, ¬ Z a ∧ ¬ AllFp env T a) (hi : i < env.length) :
    Rel P w K av Z (env.set i (.val d)) (fun j => if j = i then t else T j) (σ.set i (some t.v)) H ∧ (∀ a, AllFp (env.set i (.val d)) (fun j => if j = i then t else T j) a → AllFp env T a ∨ a ∈ fp d t) ∧ Kept [i] env T (env.set i (.val d)) (fun j => if j = i then t else T j) := by
  have self : (env.set i (Sl.val d))[i]? = some (.val d) := List.getElem?_set_self hi
  have other : ∀ j, j ≠ i → (env.set i (Sl.val d))[j]? = env[j]? := fun j h => List.getElem?_set_ne (Ne.symm h)
  have dself : dAt (env.set i (.val d)) i = some d := by unfold dAt; rw [self]; rfl
  have dother : ∀ j, j ≠ i → dAt (env.set i (.val d)) j = dAt env j := fun j h => by unfold dAt; rw [other j h]
  have fself : fps (env.set i (.val d)) (fun j => if j = i then t else T j) i = fp d t := by unfold fps; rw [dself]; simp
  have fother : ∀ j, j ≠ i → fps (env.set i (.val d)) (fun j => if j = i then t else T j) j = fps env T j := fun j h => by unfold fps; rw [dother j h]; simp [h]
  refine ⟨⟨by rw [List.length_set, List.length_set]; exact R1.len, fun j d' e => ?_, fun j d' e => ?_, fun j => ?_, fun j k a h1 h2 => ?_, fun j a h => ?_, R1.zs⟩, fun a ⟨j, h⟩ => ?_, ⟨fun j h => ?_, fun j h => ?_⟩⟩
  · by_cases h : j = i
    · subst h
      rw [dself] at e; cases e
      refine ⟨?_, by simpa using o⟩
      rw [List.getElem?_set_self (by rw [← R1.len]; exact hi)]; simp
    · rw [dother j h] at e
      obtain ⟨q1, q2⟩ := R1.own j d' e
      refine ⟨?_, by simpa [h] using q2⟩
      rw [List.getElem?_set_ne (Ne.symm h), q1]; simp [h]
  · by_cases h : j = i
    · subst h; rw [self] at e; cases e
    · rw [other j h] at e
      simpa [h] using R1.arg j d' e
  · by_cases h : j = i
    · subst h; rw [fself]; exact nd
    · rw [fother j h]; exact R1.nd j
  · by_cases hj : j = i
    · subst hj
      rw [fself] at h1
      by_cases hk : k = j
      · exact hk.symm
      · rw [fother k hk] at h2
        exact absurd ⟨k, h2⟩ (ap a h1).2
    · rw [fother j hj] at h1
      by_cases hk : k = i
      · subst hk
        rw [fself] at h2
        exact absurd ⟨j, h1⟩ (ap a h2).2
      · rw [fother k hk] at h2
        exact R1.dj j k a h1 h2
  · by_cases hj : j = i
    · subst hj; rw [fself] at h; exact (ap a h).1
    · rw [fother j hj] at h; exact R1.dz j a h
  · by_cases hj : j = i
    · subst hj; rw [fself] at h; exact .inr h
    · rw [fother j hj] at h; exact .inl ⟨j, h⟩
  · have hj : j ≠ i := fun e => h (e ▸ List.mem_cons_self)
    exact ⟨by simp [hj], other j hj⟩
  · by_cases hj : j = i
    · subst hj; rw [dself]; rfl
    · rw [dother j hj]; exact h
theorem kept_own {r : R} {t : VT} {d : D} (R1 : Rel P w K av Z env T σ H) (rr : RRel P w K Z env T H r t) (nd : (rfp r t).Nodup) (e : r.own env = some d) :
    Own P w K Z H d t ∧ (fp d t).Nodup ∧ (∀ a ∈ fp d t, ¬ Z a ∧ ¬ AllFp env T a) ∧ ∀ a ∈ fp d t, a ∈ rfp r t := by
  obtain ⟨g, hp⟩ := R.own_get e
  have o := R1.at rr g
  rcases hp with hp | rfl
  · rw [fp_pure hp]; exact ⟨o, List.nodup_nil, (fun _ z => nomatch z), (fun _ z => nomatch z)⟩
  · exact ⟨o, nd, rr.2, fun _ h => h⟩
theorem tAsg_of {i : Nat} {m : ME} : ∀ D σ H, tSS P w K (mSet i m) D σ H → tAsg (tS P w K m) (gName i) D σ H := by
  rintro D σ H ⟨av, Z, env, T, R1, fl, env', e, f⟩
  obtain ⟨⟨r, e1⟩, q1, e⟩ := Option.bind_eq_some_iff.mp e
  obtain ⟨d, q2, e⟩ := Option.bind_eq_some_iff.mp e
  dsimp only at e
  split at e
  · rename_i hi
    cases e
    refine ⟨av, Z, env, T, R1, r, e1, q1, fun H' Z' T' t R2 rr nd sn kk => ?_⟩
    obtain ⟨o, nd', ap, sub⟩ := kept_own R2 rr nd q2
    obtain ⟨R3, hf, k3⟩ := R2.set o nd' ap hi
    exact f _ H' Z' _ R3 (sn.weak fun a h => (hf a h).imp id (sub a)) ((kk.trans k3).mono fun j h => by
      rcases List.mem_append.mp h with h | h
      · exact List.mem_cons_of_mem _ h
      · rw [List.mem_singleton.mp h]; exact List.mem_cons_self)
  · cases e
theorem argsOnly_get {env : En} {j : Nat} : (argsOnly env)[j]? = (env[j]?).map fun s => match s with
    | .arg d => Sl.arg d
    | _ => .un := by unfold argsOnly; rw [List.getElem?_map]
theorem dAt_argsOnly {env : En} {j : Nat} {d : D} (h : dAt (argsOnly env) j = some d) : env[j]? = some (.arg d) ∧ dAt env j = some d := by
  unfold dAt at h
  rw [argsOnly_get] at h
  cases e : env[j]? with
  | none => rw [e] at h; cases h
  | some s =>
    rw [e] at h
    cases s with
    | un => cases h
    | val d' => cases h
    | arg d' => cases h; exact ⟨rfl, by unfold dAt; rw [e]; rfl⟩
theorem fps_argsOnly {env : En} {T : Nat → VT} {j : Nat} {a : Addr} (h : a ∈ fps (argsOnly env) T j) : a ∈ fps env T j := by
  unfold fps at h
  split at h
  · rename_i d e
    unfold fps
    rw [(dAt_argsOnly e).2]
    exact h
  · cases h
theorem Rel.args (R1 : Rel P w K av Z env T σ H) : Rel P w K av Z (argsOnly env) T σ H := by
  refine ⟨by unfold argsOnly; rw [List.length_map]; exact R1.len, fun j d e => R1.own j d (dAt_argsOnly e).2, fun j d e => ?_, fun j => ?_, fun j k a h1 h2 => R1.dj j k a (fps_argsOnly h1) (fps_argsOnly h2), fun j a h => R1.dz j a (fps_argsOnly h), R1.zs⟩
  · refine R1.arg j d ?_
    rw [argsOnly_get] at e
    cases q : env[j]? with
    | none => rw [q] at e; cases e
    | some s =>
      rw [q] at e
      cases s with
      | un => cases e
      | val d' => cases e
      | arg d' => cases e; rfl
  · unfold fps
    split
    · rename_i d e
      have := R1.nd j
      unfold fps at this
      rw [(dAt_argsOnly e).2] at this
      exact this
    · exact List.nodup_nil
theorem tRet_of {m : ME} : ∀ D σ H, tSS P w K (mRet m) D σ H → tRet (tS P w K m) D σ H := by
  rintro D σ H ⟨av, Z, env, T, R1, fl, env', e, f⟩
  obtain ⟨⟨r, e1⟩, q1, e⟩ := Option.bind_eq_some_iff.mp e
  refine ⟨av, Z, env, T, R1, r, e1, q1, fun H' Z' T' t R2 rr nd sn kk => ?_⟩
  have ex : ∀ a, AllFp (argsOnly e1) T' a → AllFp e1 T' a := fun a ⟨j, h⟩ => ⟨j, fps_argsOnly h⟩
  cases r with
  | v d =>
    cases e
    refine f σ H' Z' T' t R2.args ⟨rr.1, fun a ha => ⟨(rr.2 a ha).1, fun z => (rr.2 a ha).2 (ex a z)⟩⟩ nd (sn.weak fun a h => h.imp (ex a) id)
  | p j π =>
    obtain ⟨d, q2, e⟩ := Option.bind_eq_some_iff.mp e
    have o := R2.at rr q2
    by_cases hp : d.pure = true
    · rw [if_pos hp] at e
      cases e
      refine f σ H' Z' T' t R2.args ⟨o, by rw [fp_pure hp]; exact fun _ z => nomatch z⟩ (by rw [fp_pure hp]; exact List.nodup_nil) (sn.weak fun a h => .inl ?_)
      rw [fp_pure hp] at h
      exact h.elim (ex a) fun z => nomatch z
    · rw [if_neg hp] at e
      split at e
      · rename_i d0 hj
        cases e
        obtain ⟨d1, c, g1, g2, g3⟩ := rr
        have hd1 : d1 = d0 := by
          unfold dAt at g1
          rw [hj] at g1
          exact (Option.some.inj g1).symm
        subst hd1
        have hc : c = d := by
          rw [R.get, g1, Option.bind_some, g2] at q2
          exact Option.some.inj q2
        subst hc
        have np : c.pure = false := by simpa using hp
        obtain ⟨pre, post, q, _⟩ := at_split (R2.own j d1 g1).2 np g2 g3
        have fj : fps e1 T' j = pre ++ fp c t ++ post := by unfold fps; rw [g1]; exact q
        have sub : (fp c t).Sublist (fps e1 T' j) := by
          rw [fj]
          exact (List.sublist_append_right _ _).trans (List.sublist_append_left _ _)
        have inj : ∀ a ∈ fp c t, a ∈ fps e1 T' j := fun a ha => sub.subset ha
        refine f σ H' Z' T' t R2.args ⟨o, fun a ha => ⟨R2.dz j a (inj a ha), ?_⟩⟩ ((R2.nd j).sublist sub) (sn.weak fun a h => .inl (h.elim (ex a) fun ha => ⟨j, inj a ha⟩))
        rintro ⟨i, hi⟩
        have := R2.dj i j a (fps_argsOnly hi) (inj a ha)
        subst this
        unfold fps at hi
        split at hi
        · rename_i d2 e2
          rw [(dAt_argsOnly e2).1] at hj
          cases hj
        · cases hi
      · cases e
end
section
variable {X : Cx} {pos : Pos} {a b : Expr} {ma mb : ME} {s : Stmt} {r : List Stmt} {m m2 : MS} {c : MT}
theorem sss_nil : SSs X [] mSkip := pss_nil.weak fun D σ H ⟨av, Z, env, T, R1, fl, env', e, f⟩ => by
  cases e
  exact f σ H Z T R1 .refl .refl
theorem sss_one (h : SS X s m) : SSs X [s] m := pss_one h
theorem sss_cons (h : SS X s m) (h2 : SSs X r m2) : SSs X (s :: r) (mSeq m m2) := (pss_cons h h2).weak tSeq_of
theorem ss_pass : SS X (.Pass pos) mSkip := ps_pass.weak fun D σ H ⟨av, Z, env, T, R1, fl, env', e, f⟩ => by
  cases e
  exact f σ H Z T R1 .refl .refl
theorem ss_break : SS X (.Break pos) mBrk := ps_break.weak fun D σ H ⟨av, Z, env, T, R1, fl, env', e, f⟩ => by
  cases e
  exact f σ H Z T R1 .refl .refl
theorem ss_cont : SS X (.Continue pos) mCnt := ps_continue.weak fun D σ H ⟨av, Z, env, T, R1, fl, env', e, f⟩ => by
  cases e
  exact f σ H Z T R1 .refl .refl
theorem ss_if {x y : List Stmt} (hc : ST X a c) (h1 : SSs X x m) (h2 : SSs X y m2) : SS X (.If a x y pos) (mIf c m m2) := (ps_if hc h1 h2).weak tIfS_of
theorem ss_expr (h : SE X a ma) (hs : swapsWith a none pos.line X.env = pure false := by rfl) : SS X (.Expr a pos) (mDrop ma) := (ps_expr h hs).weak tDrop_of
theorem ss_ret (h : SE X a ma) : SS X (.Return (some a) pos) (mRet ma) := (ps_ret h).weak tRet_of
theorem ss_retN : SS X (.Return none pos) mRetN := ps_retN.weak fun D σ H ⟨av, Z, env, T, R1, fl, env', e, f⟩ => by
  cases e
  refine f σ H Z T (.mk .non []) R1.args ⟨by rw [Own]; rfl, by rw [fp]; exact fun _ z => nomatch z⟩ (by rw [fp]; exact List.nodup_nil) (Since.refl.weak fun a h => ?_)
  rw [fp] at h
  exact h.elim (fun ⟨j, h⟩ => ⟨j, fps_argsOnly h⟩) fun z => nomatch z
theorem ss_set {x : Str} {pos' : Pos} (i : Nat) (hN : X.N.Nodup) (h : SE X a ma) (hi : X.N[i]? = some x := by rfl) (hx : Loc X.env.scope x := by first | exact Or.inl rfl | exact Or.inr rfl) (hs : swapsWith a (some (.Name x pos')) pos.line X.env = pure false := by rfl)
    (hf : X.fn x = true ∨ X.env.scope.names.lookup x = some .local := by first | exact .inl rfl | exact .inr rfl) : SS X (.Assign [.Name x pos'] a pos) (mSet i ma) := (ps_set hN hi hx h hs hf).weak tAsg_of
theorem ss_never : SS X s ⟨[], fun _ => none⟩ := ps_never.weak fun D σ H ⟨av, Z, env, T, R1, fl, env', e, f⟩ => by cases e
end
end G
set_option Elab.async false
set_option linter.all false
set_option maxRecDepth 100000
namespace G
open PySem PySem.Spec PyProof.Rows L2
def enPut (env : En) (j : Nat) (π : List Nat) (x : D) : En :=
  match env[j]? with
  | some s => env.set j (s.put π x)
  | none => env
section
variable {P : Program} {w : World} {K : PySem.W.Frag} {Z Z' : Addr → Prop} {H H' : Hp} {env env' : En} {T T' : Nat → VT} {σ : L2.St} {av : List (V × D)}
theorem dAt_slot {env : En} {j : Nat} {d : D} (h : dAt env j = some d) : env[j]? = some (.val d) ∨ env[j]? = some (.arg d) := by
  unfold dAt at h
  cases e : env[j]? with
  | none => rw [e] at h; cases h
  | some s =>
    rw [e] at h
    cases s with
    | un => cases h
    | val d' => cases h; exact .inl rfl
    | arg d' => cases h; exact .inr rfl
theorem Rel.put {S : Addr → Prop} {j : Nat} {π : List Nat} {d c c' : D} {tc tc' : VT} (R1 : Rel P w K av Z env T σ H) (hj : dAt env j = some d) (e : d.at π = some c) (e' : (T j).at π = some tc) (np : c.pure = false)
    (k : Kp S H H') (hs : ∀ a, S a → a ∈ fp c tc) (o1 : Own P w K Z H' c' tc') (hv : tc'.v = tc.v) (nd1 : (fp c' tc').Nodup) (fr : ∀ a ∈ fp c' tc', a ∈ fp c tc ∨ (¬ Z a ∧ ¬ AllFp env T a)) :
    ∃ T', Rel P w K av Z (enPut env j π c') T' σ H' ∧ (∀ a, AllFp (enPut env j π c') T' a → (AllFp env T a ∧ a ∉ fp c tc) ∨ a ∈ fp c' tc') ∧ (∀ i, i ≠ j → T' i = T i ∧ (enPut env j π c')[i]? = env[i]?) ∧ (dAt (enPut env j π c') j = some (d.put π c')) ∧
      T' j = (T j).put π tc' ∧ (∀ a, AllFp env T a → a ∉ fp c tc → AllFp (enPut env j π c') T' a) ∧ (∀ a ∈ fp c' tc', AllFp (enPut env j π c') T' a) := by
  have hjl : j < env.length := by
    rcases dAt_slot hj with q | q
    · exact (List.getElem?_eq_some_iff.mp q).1
    · exact (List.getElem?_eq_some_iff.mp q).1
  obtain ⟨q1, q2⟩ := R1.own j d hj
  obtain ⟨pre, post, f1, f2⟩ := at_split q2 np e e'
  have fj : fps env T j = pre ++ fp c tc ++ post := by unfold fps; rw [hj]; exact f1
  have npd : d.pure = false := by
    cases q : d.pure with
    | false => rfl
    | true => rw [at_pure q e] at np; cases np
  have hSZ : ∀ a, Z a → ¬ S a := fun a z q => R1.dz j a (by rw [fj]; exact List.mem_append_left _ (List.mem_append_right _ (hs a q))) z
  have hSo : ∀ i, i ≠ j → ∀ a ∈ fps env T i, ¬ S a := fun i hi a ha q => hi (R1.dj i j a ha (by rw [fj]; exact List.mem_append_left _ (List.mem_append_right _ (hs a q))))
  have o2 : Own P w K Z H' (d.put π c') ((T j).put π tc') := Own.put np k hs hSZ (fun _ z => z) o1 hv q2 e e' (by rw [f1]; rw [← fj]; exact R1.nd j)
  obtain ⟨sl, hsl, hput, hdat⟩ : ∃ sl, env[j]? = some sl ∧ (sl = .val d ∧ sl.put π c' = .val (d.put π c') ∨ sl = .arg d ∧ sl.put π c' = .arg (d.put π c')) ∧ (sl.put π c').d? = some (d.put π c') := by
    rcases dAt_slot hj with q | q
    · exact ⟨_, q, .inl ⟨rfl, rfl⟩, rfl⟩
    · exact ⟨_, q, .inr ⟨rfl, rfl⟩, rfl⟩
  have en : enPut env j π c' = env.set j (sl.put π c') := by unfold enPut; rw [hsl]
  have self : (enPut env j π c')[j]? = some (sl.put π c') := by rw [en]; exact List.getElem?_set_self hjl
  have other : ∀ i, i ≠ j → (enPut env j π c')[i]? = env[i]? := fun i h => by rw [en]; exact List.getElem?_set_ne (Ne.symm h)
  have dself : dAt (enPut env j π c') j = some (d.put π c') := by unfold dAt; rw [self]; exact hdat
  have dother : ∀ i, i ≠ j → dAt (enPut env j π c') i = dAt env i := fun i h => by unfold dAt; rw [other i h]
  generalize hT : (fun i => if i = j then (T j).put π tc' else T i) = T'
  have Tj : T' j = (T j).put π tc' := by rw [← hT]; simp
  have To : ∀ i, i ≠ j → T' i = T i := fun i h => by rw [← hT]; simp [h]
  have fself : fps (enPut env j π c') T' j = pre ++ fp c' tc' ++ post := by unfold fps; rw [dself, Tj]; exact f2 c' tc'
  have fother : ∀ i, i ≠ j → fps (enPut env j π c') T' i = fps env T i := fun i h => by unfold fps; rw [dother i h, To i h]
  have vj : ((T j).put π tc').v = (T j).v := VT.put_v e' hv
  have in_pre : ∀ a, a ∈ pre ∨ a ∈ post → a ∈ fps env T j := fun a h => by
    rw [fj]
    rcases h with h | h
    · exact List.mem_append_left _ (List.mem_append_left _ h)
    · exact List.mem_append_right _ h
  have ndj := R1.nd j
  rw [fj] at ndj
  obtain ⟨nd12, nd3, dis3⟩ := List.nodup_append.mp ndj
  obtain ⟨ndp, ndc, dis1⟩ := List.nodup_append.mp nd12
  have newout : ∀ a ∈ fp c' tc', a ∉ pre ∧ a ∉ post := fun a ha => by
    rcases fr a ha with q | q
    · exact ⟨fun z => dis1 a z a q rfl, fun z => dis3 a (List.mem_append_right _ q) a z rfl⟩
    · exact ⟨fun z => q.2 ⟨j, in_pre a (.inl z)⟩, fun z => q.2 ⟨j, in_pre a (.inr z)⟩⟩
  have cin : ∀ a ∈ fp c tc, a ∈ fps env T j := fun a ha => by rw [fj]; exact List.mem_append_left _ (List.mem_append_right _ ha)
  have memj : ∀ a, a ∈ fps (enPut env j π c') T' j → a ∈ fps env T j ∨ (¬ Z a ∧ ¬ AllFp env T a) := fun a h => by
    rw [fself] at h
    rcases List.mem_append.mp h with h | h
    · rcases List.mem_append.mp h with h | h
      · exact .inl (in_pre a (.inl h))
      · exact (fr a h).imp (cin a) id
    · exact .inl (in_pre a (.inr h))
  refine ⟨T', ⟨?_, fun i d' ei => ?_, fun i d' ei => ?_, fun i => ?_, fun i i' a h1 h2 => ?_, fun i a h => ?_, fun a z q => ?_⟩, fun a ⟨i, h⟩ => ?_, fun i h => ⟨To i h, other i h⟩, dself, Tj, fun a ⟨i, h⟩ hn => ?_, fun a ha => ⟨j, by rw [fself]; exact List.mem_append_left _ (List.mem_append_right _ ha)⟩⟩
  · rw [en, List.length_set]; exact R1.len
  · by_cases h : i = j
    · subst h
      rw [dself] at ei; cases ei
      rw [Tj, vj]
      exact ⟨q1, o2⟩
    · rw [dother i h] at ei
      obtain ⟨a1, a2⟩ := R1.own i d' ei
      rw [To i h]
      refine ⟨a1, a2.frame k hSZ (fun _ z => z) fun a ha => hSo i h a ?_⟩
      unfold fps; rw [ei]; exact ha
  · by_cases h : i = j
    · subst h
      rw [self] at ei
      rcases hput with ⟨rfl, hp⟩ | ⟨rfl, hp⟩
      · rw [hp] at ei; cases ei
      · rw [hp] at ei; cases ei
        obtain ⟨d0, b1, b2⟩ := R1.arg i d hsl
        rw [Tj, vj]
        exact ⟨d0, b1, fun hp => by rw [b2 hp] at npd; rw [hp] at npd; cases npd⟩
    · rw [other i h] at ei
      rw [To i h]
      exact R1.arg i d' ei
  · by_cases h : i = j
    · subst h
      rw [fself]
      refine List.nodup_append.mpr ⟨List.nodup_append.mpr ⟨ndp, nd1, fun a ha b hb e => (newout b hb).1 (e ▸ ha)⟩, nd3, fun a ha b hb e => ?_⟩
      rcases List.mem_append.mp ha with ha | ha
      · exact dis3 a (List.mem_append_left _ ha) b hb e
      · exact (newout a ha).2 (e ▸ hb)
    · rw [fother i h]; exact R1.nd i
  · by_cases hi : i = j
    · subst hi
      by_cases hi' : i' = i
      · exact hi'.symm
      · rw [fother i' hi'] at h2
        rcases memj a h1 with q | q
        · exact R1.dj i i' a q h2
        · exact absurd ⟨i', h2⟩ q.2
    · rw [fother i hi] at h1
      by_cases hi' : i' = j
      · subst hi'
        rcases memj a h2 with q | q
        · exact R1.dj i i' a h1 q
        · exact absurd ⟨i, h1⟩ q.2
      · rw [fother i' hi'] at h2
        exact R1.dj i i' a h1 h2
  · by_cases hi : i = j
    · subst hi
      rcases memj a h with q | q
      · exact R1.dz i a q
      · exact q.1
    · rw [fother i hi] at h
      exact R1.dz i a h
  · cases q' : H a with
    | none => exact R1.zs a z q'
    | some o => rw [k a o q' fun _ s => hSZ a z s] at q; cases q
  · by_cases hi : i = j
    · subst hi
      rw [fself] at h
      rcases List.mem_append.mp h with h | h
      · rcases List.mem_append.mp h with h | h
        · exact .inl ⟨⟨i, in_pre a (.inl h)⟩, fun z => dis1 a h a z rfl⟩
        · exact .inr h
      · exact .inl ⟨⟨i, in_pre a (.inr h)⟩, fun z => dis3 a (List.mem_append_right _ z) a h rfl⟩
    · rw [fother i hi] at h
      exact .inl ⟨⟨i, h⟩, fun z => hi (R1.dj i j a h (cin a z))⟩
  · by_cases hi : i = j
    · subst hi
      rw [fj] at h
      refine ⟨i, ?_⟩
      rw [fself]
      rcases List.mem_append.mp h with h | h
      · rcases List.mem_append.mp h with h | h
        · exact List.mem_append_left _ (List.mem_append_left _ h)
        · exact absurd h hn
      · exact List.mem_append_right _ h
    · exact ⟨i, by rw [fother i hi]; exact h⟩
theorem place_at {j : Nat} {π : List Nat} {t : VT} {d : D} (R1 : Rel P w K av Z env T σ H) (rr : RRel P w K Z env T H (.p j π) t) (e : R.get (.p j π) env = some d) :
    ∃ d0, dAt env j = some d0 ∧ d0.at π = some d ∧ (T j).at π = some t ∧ Own P w K Z H d t ∧ (∀ a ∈ fp d t, AllFp env T a) ∧ (fp d t).Nodup := by
  have o := R1.at rr e
  obtain ⟨d0, c, g1, g2, g3⟩ := rr
  have hc : c = d := by
    rw [R.get, g1, Option.bind_some, g2] at e
    exact Option.some.inj e
  subst hc
  cases hp : c.pure with
  | true => exact ⟨d0, g1, g2, g3, o, (by rw [fp_pure hp]; intro _ z; cases z), (by rw [fp_pure hp]; exact List.nodup_nil)⟩
  | false =>
    obtain ⟨pre, post, q, _⟩ := at_split (R1.own j d0 g1).2 hp g2 g3
    have fj : fps env T j = pre ++ fp c t ++ post := by unfold fps; rw [g1]; exact q
    have sub : (fp c t).Sublist (fps env T j) := by
      rw [fj]
      exact (List.sublist_append_right _ _).trans (List.sublist_append_left _ _)
    exact ⟨d0, g1, g2, g3, o, fun a ha => ⟨j, sub.subset ha⟩, (R1.nd j).sublist sub⟩
theorem Done.put {S S0 : Addr → Prop} {ms : List Nat} {j : Nat} {π : List Nat} {d0 c c' : D} {tc tc' : VT} {r : R} {t : VT} {Q : VK} (f : Done P w K av Z env T σ H S ms r (enPut env j π c') Q) (R1 : Rel P w K av Z env T σ H)
    (hS : ∀ a, AllFp env T a → S a) (hms : j ∈ ms) (hj : dAt env j = some d0) (e : d0.at π = some c) (e' : (T j).at π = some tc) (np : c.pure = false) (k : Kp S0 H H') (hs : ∀ a, S0 a → a ∈ fp c tc) (o1 : Own P w K Z H' c' tc') (hv : tc'.v = tc.v)
    (nd1 : (fp c' tc').Nodup) (fr : ∀ a ∈ fp c' tc', a ∈ fp c tc ∨ ((S a ∨ H a = none) ∧ ¬ Z a ∧ ¬ AllFp env T a))
    (hr : ∀ T', Rel P w K av Z (enPut env j π c') T' σ H' → (∀ a, AllFp (enPut env j π c') T' a → (AllFp env T a ∧ a ∉ fp c tc) ∨ a ∈ fp c' tc') → (T' j = (T j).put π tc') → RRel P w K Z (enPut env j π c') T' H' r t ∧ (rfp r t).Nodup ∧ ∀ a ∈ rfp r t, S a ∨ H a = none) : Q t.v H' := by
  obtain ⟨T', R2, q1, q2, q3, q4, q5, q6⟩ := R1.put hj e e' np k hs o1 hv nd1 fun a ha => (fr a ha).imp id fun z => z.2
  have cin : ∀ a ∈ fp c tc, AllFp env T a := by
    obtain ⟨pre, post, q, _⟩ := at_split (R1.own j d0 hj).2 np e e'
    intro a ha
    refine ⟨j, ?_⟩
    unfold fps; rw [hj]
    show a ∈ fp d0 (T j)
    rw [q]
    exact List.mem_append_left _ (List.mem_append_right _ ha)
  obtain ⟨rr, nd, hf⟩ := hr T' R2 q1 q4
  refine f H' Z T' t R2 rr nd ⟨k.mono fun a h => hS a (cin a (hs a h)), fun a h => ?_, fun a h => .inl h, fun _ h => h⟩ ⟨fun i hi => q2 i fun z => hi (z ▸ hms), fun i hi => ?_⟩
  · rcases h with h | h
    · rcases q1 a h with h | h
      · exact .inl (hS a h.1)
      · rcases fr a h with h | h
        · exact .inl (hS a (cin a h))
        · exact h.1
    · exact hf a h
  · by_cases hij : i = j
    · subst hij; rw [q3]; rfl
    · unfold dAt at hi ⊢; rw [(q2 i hij).2]; exact hi
end
end G
set_option Elab.async false
set_option linter.all false
set_option maxRecDepth 100000
namespace G
open PySem PySem.Spec PyProof.Rows L2
def kCh (f : D → List D → Option (D × D)) (ms : List Nat) : Kn := fun rs env =>
  match rs with
  | .p j π :: as => if ms.contains j = true then (R.get (.p j π) env).bind fun c => if c.pure = true then none else (owns as env).bind fun xs => (f c xs).map fun z => (.v z.2, enPut env j π z.1) else none
  | _ => none
section
variable {P : Program} {w : World} {K : PySem.W.Frag} {Z Z' : Addr → Prop} {H H' : Hp} {env env' : En} {T T' : Nat → VT} {σ : L2.St} {av : List (V × D)}
theorem Step.chg {f : D → List D → Option (D × D)} {ms : List Nat} {x : V} {xs : List V} {Q : VK} (h : Step P w K (kCh f ms) ms (x :: xs) H Q) :
    ∃ Z c ds tc ts c' r, tc.v = x ∧ ts.map VT.v = xs ∧ Own P w K Z H c tc ∧ OwnL P w K Z H ds ts ∧ (fp c tc ++ fpL ds ts).Nodup ∧ c.pure = false ∧ f c ds = some (c', r) ∧ (∀ a ∈ fp c tc ++ fpL ds ts, ¬ Z a) ∧
      ∀ H' tc' t, Kp (fun a => a ∈ fp c tc) H H' → Own P w K Z H' c' tc' → tc'.v = tc.v → Own P w K Z H' r t → (fp c' tc' ++ fp r t).Nodup → (∀ a ∈ fp c' tc' ++ fp r t, a ∈ fp c tc ++ fpL ds ts ∨ H a = none) → Q t.v H' := by
  obtain ⟨av, Z, env, T, σ, rs, ts, r', env', e0, R1, rr, nd, e, dn⟩ := h
  cases ts with
  | nil => cases e0
  | cons t ts =>
    rw [List.map_cons] at e0
    injection e0 with e01 e02
    cases rs with
    | nil => exact rr.elim
    | cons r as =>
      cases r with
      | v d => cases e
      | p j π =>
        unfold kCh at e
        dsimp only at e
        by_cases hms : ms.contains j = true
        · rw [if_pos hms] at e
          obtain ⟨c, e1, e⟩ := Option.bind_eq_some_iff.mp e
          by_cases hp : c.pure = true
          · rw [if_pos hp] at e; cases e
          · rw [if_neg hp] at e
            obtain ⟨ds, e2, e⟩ := Option.bind_eq_some_iff.mp e
            obtain ⟨⟨c', r⟩, e3, e⟩ := Option.map_eq_some_iff.mp e
            cases e
            have np : c.pure = false := by simpa using hp
            obtain ⟨d0, g1, g2, g3, o, inA, ndc⟩ := place_at R1 rr.1 e1
            obtain ⟨o1, o2, _, o4⟩ := owns_own R1 rr.2 e2
            have ap := RRelL.apart rr.2
            have nd2 : (rfpL as ts).Nodup := by rw [rfpL, rfp] at nd; simpa using nd
            have rfe : ∀ a, a ∈ rfpL as ts → a ∈ rfpL (.p j π :: as) (t :: ts) := fun a h => by rw [rfpL, rfp]; simpa using h
            have zc : ∀ a ∈ fp c t, ¬ Z a := fun a ha => by
              obtain ⟨i, hi⟩ := inA a ha
              exact R1.dz i a hi
            refine ⟨Z, c, ds, t, ts, c', r, e01, e02, o, o1, ?_, np, e3, fun a ha => (List.mem_append.mp ha).elim (zc a) fun q => (ap a (o2 a q)).1, fun H' tc' t' k oc hv ot ndn fr => ?_⟩
            · exact List.nodup_append.mpr ⟨ndc, nd2.sublist o4, fun a ha b hb e => (ap b (o2 b hb)).2 (e ▸ inA a ha)⟩
            · obtain ⟨n1, n2, n3⟩ := List.nodup_append.mp ndn
              have out : ∀ a, (a ∈ fp c t ++ fpL ds ts ∨ H a = none) → (a ∈ fp c t ∨ ((AllFp env T a ∨ a ∈ rfpL (.p j π :: as) (t :: ts) ∨ H a = none) ∧ ¬ Z a ∧ ¬ AllFp env T a)) := fun a h => by
                rcases h with h | h
                · rcases List.mem_append.mp h with h | h
                  · exact .inl h
                  · exact .inr ⟨.inr (.inl (rfe a (o2 a h))), ap a (o2 a h)⟩
                · refine .inr ⟨.inr (.inr h), fun z => R1.zs a z h, fun z => ?_⟩
                  obtain ⟨u, hu, _⟩ := R1.stands z
                  rw [h] at hu; cases hu
              refine dn.put (t := t') R1 (fun a h => .inl h) (by simpa using hms) g1 g2 g3 np k (fun a h => h) oc hv n1 (fun a ha => ?_) fun T' R2 q1 q2 => ⟨⟨ot, fun a ha => ⟨?_, fun z => ?_⟩⟩, n2, fun a ha => ?_⟩
              · rcases out a (fr a (List.mem_append_left _ ha)) with h | ⟨h, h'⟩
                · exact .inl h
                · exact .inr ⟨by rcases h with h | h | h; exact .inl (.inl h); exact .inl (.inr h); exact .inr h, h'⟩
              · rcases out a (fr a (List.mem_append_right _ ha)) with h | ⟨h, h'⟩
                · exact zc a h
                · exact h'.1
              · rcases q1 a z with h | h
                · rcases out a (fr a (List.mem_append_right _ ha)) with h2 | ⟨_, h2⟩
                  · exact h.2 h2
                  · exact h2.2 h.1
                · exact n3 a h a ha rfl
              · rcases out a (fr a (List.mem_append_right _ ha)) with h | ⟨h, _⟩
                · exact .inl (.inl (inA a h))
                · rcases h with h | h | h
                  · exact .inl (.inl h)
                  · exact .inl (.inr h)
                  · exact .inr h
        · rw [if_neg hms] at e; cases e
def maConsP (p : R → En → Bool) (a : ME) (as : MA) : MA := ⟨a.ms ++ as.ms, fun env => (a.run env).bind fun x => if p x.1 x.2 = true then (as.run x.2).bind fun y => if x.1.ok as.ms then some (x.1 :: y.1, y.2) else none else none⟩
theorem tSA_consP {p : R → En → Bool} {a : ME} {as : MA} {Q : List V → Hp → Prop} (h : tSA P w K (maConsP p a as) σ H Q) :
    tS P w K a σ H fun x H1 => (∃ av Z e T r t, Rel P w K av Z e T σ H1 ∧ RRel P w K Z e T H1 r t ∧ t.v = x ∧ p r e = true) ∧ tSA P w K as σ H1 fun xs H2 => Q (x :: xs) H2 := by
  obtain ⟨av, Z, env, T, R1, rs, env', e, f⟩ := h
  obtain ⟨⟨r, e1⟩, q1, e⟩ := Option.bind_eq_some_iff.mp e
  by_cases hp : p r e1 = true
  · have e0 : (maCons a as).run env = some (rs, env') := by
      show ((a.run env).bind fun x => (as.run x.2).bind fun y => if x.1.ok as.ms then some (x.1 :: y.1, y.2) else none) = some (rs, env')
      rw [q1, Option.bind_some]
      dsimp only at e
      rw [if_pos hp] at e
      exact e
    -- what the plain rule gives, with the state between
    obtain ⟨⟨rs', e2⟩, q2, e3⟩ := Option.bind_eq_some_iff.mp (show ((as.run e1).bind fun y => if r.ok as.ms then some (r :: y.1, y.2) else none) = some (rs, env') from by rw [← e0]; show _ = (a.run env).bind _; rw [q1]; rfl)
    by_cases ok : r.ok as.ms = true
    · rw [if_pos ok] at e3
      cases e3
      refine ⟨av, Z, env, T, R1, r, e1, q1, fun H1 Z1 T1 t1 R2 rr nd sn kk => ⟨⟨av, Z1, e1, T1, r, t1, R2, rr, rfl, hp⟩, ?_⟩⟩
      refine ⟨av, Z1, e1, T1, R2, rs', e2, q2, fun H2 Z2 T2 ts R3 rrs nds sn2 kk2 => ?_⟩
      obtain ⟨t', hv, rr', hf⟩ := rr.carry R2 R3 sn2 (fun _ h => .inl h) kk2 ok
      have hr : ∀ x, x ∈ rfp r t1 → ¬ AllFp e1 T1 x := fun x hx => by
        cases r with
        | v d => exact (rr.2 x hx).2
        | p j π => cases hx
      have st : ∀ x, x ∈ rfp r t1 → ¬ H1 x = none := fun x hx z => by
        obtain ⟨o, ho, _⟩ := rr.stands hx
        rw [ho] at z; cases z
      have dis : ∀ x, x ∈ rfp r t1 → x ∉ rfpL rs' ts := fun x hx z => (sn2.own x (.inr z)).elim (hr x hx) (st x hx)
      rw [← hv]
      refine f H2 Z2 T2 (t' :: ts) R3 ⟨rr', rrs⟩ ?_ ?_ (kk.trans kk2)
      · rw [rfpL, hf]
        exact List.nodup_append.mpr ⟨nd, nds, fun x hx y hy e => dis x hx (e ▸ hy)⟩
      · have g : Since Z1 H1 (fun a => AllFp e1 T1 a ∨ a ∈ rfp r t1) Z2 H2 (fun a => AllFp e2 T2 a ∨ a ∈ rfpL (r :: rs') (t' :: ts)) := by
          refine ⟨sn2.kp.mono fun _ h => .inl h, fun x h => ?_, fun x h => ?_, sn2.zm⟩
          · rw [rfpL, hf] at h
            rcases h with h | h
            · exact (sn2.own x (.inl h)).imp .inl id
            · rcases List.mem_append.mp h with h | h
              · exact .inl (.inr h)
              · exact (sn2.own x (.inr h)).imp .inl id
          · rcases sn2.z x h with h | h | h
            · exact .inl h
            · exact .inr (.inl (.inl h))
            · exact .inr (.inr h)
        exact sn.trans g
    · rw [if_neg ok] at e3; cases e3
  · dsimp only at e
    rw [if_neg hp] at e; cases e
def tyD (T : String) : D → Bool
  | .lst _ _ => T == "list"
  | .str _ => T == "str"
  | .int _ => T == "int"
  | _ => false
def tyP (T : String) (r : R) (e : En) : Bool := match r.get e with
  | some d => tyD T d
  | none => false
theorem tyP_tyV {T : String} {r : R} {e : En} {t : VT} (R1 : Rel P w K av Z e T' σ H) (rr : RRel P w K Z e T' H r t) (h : tyP T r e = true) : tyV K T t.v H := by
  unfold tyP at h
  split at h
  · rename_i d g
    have o := R1.at rr g
    cases d with
    | lst m ds =>
      obtain ⟨a, ea, q, _⟩ := o.lst
      rw [ea]
      exact .inl ⟨by simpa [tyD] using h, _, q⟩
    | str x => rw [o.str]; show T = "str"; simpa [tyD] using h
    | int x => rw [o.int]; show T = "int"; simpa [tyD] using h
    | _ => cases h
  · cases h
def mMeth (T : String) (o : ME) (as : MA) (k : Kn) (ms : List Nat) : ME := mOp (maConsP (tyP T) o as) k ms
theorem tBM_of {T : String} {o : ME} {as : MA} {k : Kn} {ms : List Nat} {r : V → List V → Hp → VK → Prop} (hr : ∀ x xs H Q, Step P w K k ms (x :: xs) H Q → r x xs H Q) : ∀ σ H Q, tS P w K (mMeth T o as k ms) σ H Q → tBM K T r (tS P w K o) (tSA P w K as) σ H Q :=
  fun σ H Q h => tS_mono (tSA_consP (tS_op h)) fun x H1 ⟨⟨av, Z, e, T', rr, t, R1, rl, ev, hp⟩, h2⟩ => ⟨ev ▸ tyP_tyV R1 rl hp, tSA_mono h2 fun xs H2 s => hr x xs H2 Q s⟩
theorem tBM0_of {T : String} {o : ME} {k : Kn} {ms : List Nat} {r : V → List V → Hp → VK → Prop} (hr : ∀ x H Q, Step P w K k ms [x] H Q → r x [] H Q) : ∀ σ H Q, tS P w K (mMeth T o maNil k ms) σ H Q → tBM0 K T r (tS P w K o) σ H Q :=
  fun σ H Q h => tS_mono (tSA_consP (tS_op h)) fun x H1 ⟨⟨av, Z, e, T', rr, t, R1, rl, ev, hp⟩, h2⟩ => ⟨ev ▸ tyP_tyV R1 rl hp, hr x H1 Q (tSA_nil h2)⟩
theorem nd_lst {ds : List D} {t : VT} {a : Addr} (e : t.v = .ref a) : fp (.lst true ds) t = a :: fpL ds t.ks := fp_lst e
theorem kp_upd {S : Addr → Prop} {a : Addr} {o : HO} (h : S a) (hm : ∀ u, H a = some u → mutO u) : Kp S H (upd H a o) := fun b u e q => by
  by_cases hb : b = a
  · subst hb; exact absurd h (q (hm u e))
  · rw [upd_ne hb]; exact e
theorem fpL_append : ∀ {ds es : List D} {ts us : List VT}, ds.length = ts.length → fpL (ds ++ es) (ts ++ us) = fpL ds ts ++ fpL es us
  | [], _, [], _, _ => by rw [fpL]; rfl
  | d :: ds, es, t :: ts, us, h => by
    rw [List.cons_append, List.cons_append, fpL, fpL, fpL_append (by simpa using h), List.append_assoc]
  | [], _, _ :: _, _, h => by cases h
  | _ :: _, _, [], _, h => by cases h
theorem own_non : Own P w K Z H .non (.mk .non []) := by rw [Own]; rfl
theorem fp_non {t : VT} : fp .non t = [] := by rw [fp]
theorem fpL_nil {ts : List VT} : fpL [] ts = [] := by rw [fpL]
theorem fpL_one {d : D} {t : VT} : fpL [d] [t] = fp d t := by rw [fpL, fpL_nil, List.append_nil]
def fL (f : List D → List D → Option (List D × D)) : D → List D → Option (D × D) := fun c ds =>
  match c with
  | .lst true l => (f l ds).map fun z => (.lst true z.1, z.2)
  | _ => none
theorem Step.lst {f : List D → List D → Option (List D × D)} {ms : List Nat} {x : V} {xs : List V} {Q : VK} (h : Step P w K (kCh (fL f) ms) ms (x :: xs) H Q) :
    ∃ Z l ks ds ts a l' r, x = .ref a ∧ H a = some (.lst (ks.map VT.v)) ∧ OwnL P w K Z H l ks ∧ OwnL P w K Z H ds ts ∧ ts.map VT.v = xs ∧ (fpL l ks ++ fpL ds ts).Nodup ∧ f l ds = some (l', r) ∧
      ∀ ks' t, OwnL P w K Z H l' ks' → Own P w K Z H r t → (fpL l' ks' ++ fp r t).Nodup → (∀ b ∈ fpL l' ks' ++ fp r t, b ∈ fpL l ks ++ fpL ds ts) → Q t.v (upd H a (.lst (ks'.map VT.v))) := by
  obtain ⟨Z, c, ds, tc, ts, c', r, rfl, rfl, oc, od, nd, np, e, nz, dn⟩ := h.chg
  unfold fL at e
  split at e
  · rename_i l
    obtain ⟨⟨l', r'⟩, e2, e⟩ := Option.map_eq_some_iff.mp e
    cases e
    obtain ⟨a, ea, ha, ol⟩ := oc.lstM
    rw [nd_lst ea, List.cons_append] at nd nz
    rw [nd_lst ea] at dn
    obtain ⟨na, nd'⟩ := List.nodup_cons.mp nd
    refine ⟨Z, l, tc.ks, ds, ts, a, l', r', ea, ha, ol, od, rfl, nd', e2, fun ks' t ol' ot ndn sub => ?_⟩
    have kp1 : Kp (fun b => b = a) H (upd H a (.lst (ks'.map VT.v))) := kp_upd rfl fun u e => by rw [ha] at e; cases e; trivial
    have zz : ∀ b, Z b → ¬ b = a := fun b z e => nz a List.mem_cons_self (e ▸ z)
    have fe : fp (.lst true l') (.mk (.ref a) ks') = a :: fpL l' ks' := by rw [fp, vad, List.singleton_append]
    refine dn _ (.mk (.ref a) ks') t (kp_upd List.mem_cons_self fun u e => by rw [ha] at e; cases e; trivial) ?_ ea.symm (ot.frame kp1 zz (fun _ z => z) fun b hb e => na (e ▸ sub b (List.mem_append_right _ hb))) ?_ fun b hb => .inl ?_
    · rw [Own]
      exact ⟨a, rfl, upd_same, ol'.frame kp1 zz (fun _ z => z) fun b hb e => na (e ▸ sub b (List.mem_append_left _ hb))⟩
    · rw [fe, List.cons_append]
      exact List.nodup_cons.mpr ⟨fun z => na (sub a z), ndn⟩
    · rw [fe, List.cons_append] at hb
      rw [List.cons_append]
      rcases List.mem_cons.mp hb with rfl | hb
      · exact List.mem_cons_self
      · exact List.mem_cons_of_mem _ (sub b hb)
  · cases e
theorem OwnL.one {d : D} {ts : List VT} (h : OwnL P w K Z H [d] ts) : ∃ t, ts = [t] ∧ Own P w K Z H d t := by
  match ts, h with
  | [t], h => rw [OwnL] at h; exact ⟨t, rfl, h.1⟩
  | [], h => rw [OwnL] at h; exact h.elim
  | _ :: _ :: _, h => rw [OwnL, OwnL] at h; exact h.2.elim
theorem OwnL.two' {d e : D} {ts : List VT} (h : OwnL P w K Z H [d, e] ts) : ∃ t u, ts = [t, u] ∧ Own P w K Z H d t ∧ Own P w K Z H e u := by
  match ts, h with
  | [], h => rw [OwnL] at h; exact h.elim
  | t :: r, h =>
    rw [OwnL] at h
    obtain ⟨u, rfl, o⟩ := h.2.one
    exact ⟨t, u, rfl, h.1, o⟩
theorem OwnL.zero {ts : List VT} (h : OwnL P w K Z H [] ts) : ts = [] := by
  cases ts with
  | nil => rfl
  | cons _ _ => rw [OwnL] at h; exact h.elim
def lApp : List D → List D → Option (List D × D)
  | l, [y] => if l.length < sizeLine then some (l ++ [y], .non) else none
  | _, _ => none
theorem st_app {ms : List Nat} {x : V} {xs : List V} {Q : VK} (h : Step P w K (kCh (fL lApp) ms) ms (x :: xs) H Q) : rAppend x xs H Q := by
  obtain ⟨Z, l, ks, ds, ts, a, l', r, rfl, ha, ol, od, rfl, nd, e, dn⟩ := h.lst
  unfold lApp at e
  split at e
  · rename_i y
    split at e
    · rename_i hz
      cases e
      obtain ⟨t, rfl, ot⟩ := od.one
      have fe : fpL (l ++ [y]) (ks ++ [t]) = fpL l ks ++ fpL [y] [t] := fpL_append ol.length
      refine ⟨a, _, t.v, rfl, rfl, ha, by rw [List.length_map, ← ol.length]; exact hz, ?_⟩
      rw [show (ks.map VT.v) ++ [t.v] = (ks ++ [t]).map VT.v by rw [List.map_append]; rfl]
      refine dn (ks ++ [t]) (.mk .non []) (ol.append (by rw [OwnL, OwnL]; exact ⟨ot, trivial⟩)) own_non ?_ fun b hb => ?_
      · rw [fp_non, List.append_nil, fe]; exact nd
      · rw [fp_non, List.append_nil, fe] at hb; exact hb
    · cases e
  · cases e
def lPop : List D → List D → Option (List D × D)
  | l, [] => (l[l.length - 1]?).map fun y => (l.dropLast, y)
  | _, _ => none
theorem fpL_last : ∀ {l : List D} {ks : List VT} {y : D} {t : VT}, l.length = ks.length → l[l.length - 1]? = some y → ks[ks.length - 1]? = some t → fpL l ks = fpL l.dropLast ks.dropLast ++ fp y t := by
  intro l ks y t hl e e'
  have a1 : l = l.dropLast ++ [y] := by
    have hne : l ≠ [] := fun z => by subst z; simp at e
    rw [← List.getLast?_eq_getElem?, List.getLast?_eq_some_getLast hne] at e
    cases e
    exact (List.dropLast_concat_getLast hne).symm
  have a2 : ks = ks.dropLast ++ [t] := by
    have hne : ks ≠ [] := fun z => by subst z; simp at e'
    rw [← List.getLast?_eq_getElem?, List.getLast?_eq_some_getLast hne] at e'
    cases e'
    exact (List.dropLast_concat_getLast hne).symm
  have h2 : fpL (l.dropLast ++ [y]) (ks.dropLast ++ [t]) = fpL l.dropLast ks.dropLast ++ fpL [y] [t] := fpL_append (by rw [List.length_dropLast, List.length_dropLast, hl])
  rw [← a1, ← a2, fpL_one] at h2
  exact h2
theorem OwnL.dropLast {l : List D} {ks : List VT} (h : OwnL P w K Z H l ks) : OwnL P w K Z H l.dropLast ks.dropLast := by
  rw [List.dropLast_eq_take, List.dropLast_eq_take, h.length]
  exact h.take _
theorem st_pop {ms : List Nat} {x : V} {Q : VK} (h : Step P w K (kCh (fL lPop) ms) ms [x] H Q) : rPop x [] H Q := by
  obtain ⟨Z, l, ks, ds, ts, a, l', r, rfl, ha, ol, od, e0, nd, e, dn⟩ := h.lst
  have : ts = [] := List.map_eq_nil_iff.mp e0
  subst this
  cases ds with
  | cons d ds => rw [OwnL] at od; exact od.elim
  | nil =>
    obtain ⟨y, e1, e⟩ := Option.map_eq_some_iff.mp (show (l[l.length - 1]?).map (fun y => (l.dropLast, y)) = some (l', r) from e)
    cases e
    obtain ⟨t, e2, ot⟩ := ol.get e1
    rw [ol.length] at e2
    have fe := fpL_last ol.length e1 e2
    refine ⟨a, _, t.v, rfl, rfl, ha, by rw [List.length_map, List.getElem?_map, e2]; rfl, ?_⟩
    rw [← List.map_dropLast]
    rw [fpL_nil, List.append_nil] at nd dn
    exact dn ks.dropLast t ol.dropLast ot (by rw [← fe]; exact nd) fun b hb => by rw [fe]; exact hb
def lPopAt : List D → List D → Option (List D × D)
  | l, [.int i] => if -(2 ^ 63) ≤ i ∧ i < 2 ^ 63 then (seqIndex? i l.length).bind fun k => (l[k]?).map fun y => (l.eraseIdx k, y) else none
  | _, _ => none
theorem OwnL.erase : ∀ {l : List D} {ks : List VT} (n : Nat), OwnL P w K Z H l ks → OwnL P w K Z H (l.eraseIdx n) (ks.eraseIdx n)
  | [], [], _, h => h
  | _ :: _, [], _, h => by rw [OwnL] at h; exact h.elim
  | [], _ :: _, _, h => by rw [OwnL] at h; exact h.elim
  | d :: ds, t :: ts, 0, h => by rw [OwnL] at h; exact h.2
  | d :: ds, t :: ts, n + 1, h => by
    rw [OwnL] at h
    rw [List.eraseIdx_cons_succ, List.eraseIdx_cons_succ, OwnL]
    exact ⟨h.1, OwnL.erase n h.2⟩
theorem erase_map : ∀ {l : List VT} {n : Nat}, (l.map VT.v).eraseIdx n = (l.eraseIdx n).map VT.v
  | [], _ => rfl
  | _ :: _, 0 => rfl
  | x :: r, n + 1 => by
    rw [List.map_cons, List.eraseIdx_cons_succ, List.eraseIdx_cons_succ, List.map_cons, erase_map]
theorem fpL_erase : ∀ {l : List D} {ks : List VT} {n : Nat} {y : D} {t : VT}, l[n]? = some y → ks[n]? = some t → (fpL (l.eraseIdx n) (ks.eraseIdx n) ++ fp y t).Perm (fpL l ks)
  | [], _, _, _, _, e, _ => by simp at e
  | _ :: _, [], _, _, _, _, e => by simp at e
  | d :: ds, t :: ts, 0, y, u, e, e' => by
    simp only [List.getElem?_cons_zero, Option.some.injEq] at e e'
    subst e e'
    rw [List.eraseIdx_cons_zero, List.eraseIdx_cons_zero, fpL]
    exact List.perm_append_comm
  | d :: ds, t :: ts, n + 1, y, u, e, e' => by
    have ih := fpL_erase (l := ds) (ks := ts) (n := n) (y := y) (t := u) (by simpa using e) (by simpa using e')
    rw [List.eraseIdx_cons_succ, List.eraseIdx_cons_succ, fpL, fpL, List.append_assoc]
    exact ih.append_left _
theorem st_popAt {ms : List Nat} {x : V} {xs : List V} {Q : VK} (h : Step P w K (kCh (fL lPopAt) ms) ms (x :: xs) H Q) : rPopAt x xs H Q := by
  obtain ⟨Z, l, ks, ds, ts, a, l', r, rfl, ha, ol, od, rfl, nd, e, dn⟩ := h.lst
  unfold lPopAt at e
  split at e
  · rename_i i
    split at e
    · rename_i hz
      obtain ⟨k, e1, e⟩ := Option.bind_eq_some_iff.mp e
      obtain ⟨y, e2, e⟩ := Option.map_eq_some_iff.mp e
      cases e
      obtain ⟨u, rfl, ou⟩ := od.one
      obtain ⟨t, e3, ot⟩ := ol.get e2
      have hp := fpL_erase e2 e3
      refine ⟨a, _, i, k, t.v, rfl, by rw [List.map_cons, ou.int]; rfl, ha, hz.1, hz.2, by rw [List.length_map, ← ol.length]; exact e1, by rw [List.getElem?_map, e3]; rfl, ?_⟩
      rw [erase_map]
      rw [show fpL [D.int i] [u] = [] by rw [fpL_one, fp], List.append_nil] at nd dn
      exact dn (ks.eraseIdx k) t (ol.erase k) ot (hp.nodup_iff.mpr nd) fun b hb => hp.mem_iff.mp hb
    · cases e
  · cases e
def lExt : List D → List D → Option (List D × D)
  | l, [.lst true zs] => if (D.pureL zs && decide (l.length + zs.length ≤ sizeLine)) = true then some (l ++ zs, .non) else none
  | _, _ => none
theorem st_ext {ms : List Nat} {x : V} {xs : List V} {Q : VK} (h : Step P w K (kCh (fL lExt) ms) ms (x :: xs) H Q) : rExtend x xs H Q := by
  obtain ⟨Z, l, ks, ds, ts, a, l', r, rfl, ha, ol, od, rfl, nd, e, dn⟩ := h.lst
  unfold lExt at e
  split at e
  · rename_i zs
    split at e
    · rename_i hz
      simp only [Bool.and_eq_true, decide_eq_true_eq] at hz
      cases e
      obtain ⟨u, rfl, ou⟩ := od.one
      obtain ⟨b, eb, hb, ob⟩ := ou.lstM
      have fe : fpL (l ++ zs) (ks ++ u.ks) = fpL l ks := by rw [fpL_append ol.length, fpL_pure hz.1, List.append_nil]
      refine ⟨a, b, _, _, rfl, by rw [List.map_cons, eb]; rfl, ha, hb, by rw [List.length_map, List.length_map, ← ol.length, ← ob.length]; exact hz.2, ?_⟩
      rw [← List.map_append]
      refine dn (ks ++ u.ks) (.mk .non []) (ol.append ob) own_non ?_ fun c hc => ?_
      · rw [fp_non, List.append_nil, fe]; exact (List.nodup_append.mp nd).1
      · rw [fp_non, List.append_nil, fe] at hc; exact List.mem_append_left _ hc
    · cases e
  · cases e
def lRev : List D → List D → Option (List D × D)
  | l, [] => some (l.reverse, .non)
  | _, _ => none
theorem OwnL.rev : ∀ {l : List D} {ks : List VT}, OwnL P w K Z H l ks → OwnL P w K Z H l.reverse ks.reverse
  | [], [], h => h
  | _ :: _, [], h => by rw [OwnL] at h; exact h.elim
  | [], _ :: _, h => by rw [OwnL] at h; exact h.elim
  | d :: ds, t :: ts, h => by
    rw [OwnL] at h
    rw [List.reverse_cons, List.reverse_cons]
    exact (OwnL.rev h.2).append (by rw [OwnL, OwnL]; exact ⟨h.1, trivial⟩)
theorem fpL_rev : ∀ {l : List D} {ks : List VT}, l.length = ks.length → (fpL l.reverse ks.reverse).Perm (fpL l ks)
  | [], [], _ => .refl _
  | _ :: _, [], h => by cases h
  | [], _ :: _, h => by cases h
  | d :: ds, t :: ts, h => by
    have h' : ds.length = ts.length := by simpa using h
    rw [List.reverse_cons, List.reverse_cons, fpL_append (by rw [List.length_reverse, List.length_reverse]; exact h'), fpL_one, fpL]
    exact List.perm_append_comm.trans ((fpL_rev h').append_left _)
theorem st_rev {ms : List Nat} {x : V} {Q : VK} (h : Step P w K (kCh (fL lRev) ms) ms [x] H Q) : rReverse x [] H Q := by
  obtain ⟨Z, l, ks, ds, ts, a, l', r, rfl, ha, ol, od, e0, nd, e, dn⟩ := h.lst
  have : ts = [] := List.map_eq_nil_iff.mp e0
  subst this
  cases ds with
  | cons d ds => rw [OwnL] at od; exact od.elim
  | nil =>
    cases e
    refine ⟨a, _, rfl, rfl, ha, ?_⟩
    rw [← List.map_reverse]
    rw [fpL_nil, List.append_nil] at nd dn
    have hp := fpL_rev ol.length
    refine dn ks.reverse (.mk .non []) ol.rev own_non ?_ fun b hb => ?_
    · rw [fp_non, List.append_nil]; exact hp.nodup_iff.mpr nd
    · rw [fp_non, List.append_nil] at hb; exact hp.mem_iff.mp hb
end
section
variable {X : Cx} {a : Expr} {es : List Expr} {o : Expr} {mo ma : ME} {apos cpos : Pos}
variable (ms : List Nat)
def mApp (ms : List Nat) (o a : ME) : ME := mMeth "list" o (ma1 a) (kCh (fL lApp) ms) ms
theorem se_app (ho : SE X o mo) (h : SE X a ma) (hbase : attributeBase o "append" X.env (eval o X.env) = eval o X.env := by rfl)
    (hfew : ((backTo cpos (starEach [a] X.env)).all (fun x => !x.1) && (backToKw cpos (keywordEach [] X.env)).all (fun x => x.1.isSome)
      && decide ([a].length + ([] : List Keyword).length + (if ([] : List Keyword).isEmpty then 0 else 1) < 30)) = true := by rfl)
    (hline : (apos.endLine == cpos.line) = true := by rfl) (hs : starEach [a] X.env = (false, eval a X.env) :: starEach [] X.env := by rfl) (hplain : (backTo cpos (starEach [] X.env)).any (·.1) = false := by rfl) :
    SE X (.Call (.Attribute o "append" apos) [a] [] cpos) (mApp ms mo ma) :=
  (pe_bm PySem.F.plainAttrs_list PySem.F.slot_list_append PySem.F.type_list_append mt_append ho (sa_cons h sa_nil hs) hbase hfew hline hs hplain).weak (tBM_of fun _ _ _ _ s => st_app s)
def mPop (ms : List Nat) (o : ME) : ME := mMeth "list" o maNil (kCh (fL lPop) ms) ms
theorem se_pop (ho : SE X o mo) (hbase : attributeBase o "pop" X.env (eval o X.env) = eval o X.env := by rfl) (hline : (apos.endLine == cpos.line) = true := by rfl) : SE X (.Call (.Attribute o "pop" apos) [] [] cpos) (mPop ms mo) :=
  (pe_bm0 PySem.F.plainAttrs_list PySem.F.slot_list_pop PySem.F.type_list_pop mt_pop ho hbase hline).weak (tBM0_of fun _ _ _ s => st_pop s)
def mPopAt (ms : List Nat) (o a : ME) : ME := mMeth "list" o (ma1 a) (kCh (fL lPopAt) ms) ms
theorem se_popAt (ho : SE X o mo) (h : SE X a ma) (hbase : attributeBase o "pop" X.env (eval o X.env) = eval o X.env := by rfl)
    (hfew : ((backTo cpos (starEach [a] X.env)).all (fun x => !x.1) && (backToKw cpos (keywordEach [] X.env)).all (fun x => x.1.isSome)
      && decide ([a].length + ([] : List Keyword).length + (if ([] : List Keyword).isEmpty then 0 else 1) < 30)) = true := by rfl)
    (hline : (apos.endLine == cpos.line) = true := by rfl) (hs : starEach [a] X.env = (false, eval a X.env) :: starEach [] X.env := by rfl) (hplain : (backTo cpos (starEach [] X.env)).any (·.1) = false := by rfl) :
    SE X (.Call (.Attribute o "pop" apos) [a] [] cpos) (mPopAt ms mo ma) :=
  (pe_bm PySem.F.plainAttrs_list PySem.F.slot_list_pop PySem.F.type_list_pop mt_popAt ho (sa_cons h sa_nil hs) hbase hfew hline hs hplain).weak (tBM_of fun _ _ _ _ s => st_popAt s)
def mExt (ms : List Nat) (o a : ME) : ME := mMeth "list" o (ma1 a) (kCh (fL lExt) ms) ms
theorem se_ext (ho : SE X o mo) (h : SE X a ma) (hbase : attributeBase o "extend" X.env (eval o X.env) = eval o X.env := by rfl)
    (hfew : ((backTo cpos (starEach [a] X.env)).all (fun x => !x.1) && (backToKw cpos (keywordEach [] X.env)).all (fun x => x.1.isSome)
      && decide ([a].length + ([] : List Keyword).length + (if ([] : List Keyword).isEmpty then 0 else 1) < 30)) = true := by rfl)
    (hline : (apos.endLine == cpos.line) = true := by rfl) (hs : starEach [a] X.env = (false, eval a X.env) :: starEach [] X.env := by rfl) (hplain : (backTo cpos (starEach [] X.env)).any (·.1) = false := by rfl) :
    SE X (.Call (.Attribute o "extend" apos) [a] [] cpos) (mExt ms mo ma) :=
  (pe_bm PySem.F.plainAttrs_list PySem.F.slot_list_extend PySem.F.type_list_extend mt_extend ho (sa_cons h sa_nil hs) hbase hfew hline hs hplain).weak (tBM_of fun _ _ _ _ s => st_ext s)
def mRev (ms : List Nat) (o : ME) : ME := mMeth "list" o maNil (kCh (fL lRev) ms) ms
theorem se_rev (ho : SE X o mo) (hbase : attributeBase o "reverse" X.env (eval o X.env) = eval o X.env := by rfl) (hline : (apos.endLine == cpos.line) = true := by rfl) : SE X (.Call (.Attribute o "reverse" apos) [] [] cpos) (mRev ms mo) :=
  (pe_bm0 PySem.F.plainAttrs_list PySem.F.slot_list_reverse PySem.F.type_list_reverse mt_reverse ho hbase hline).weak (tBM0_of fun _ _ _ s => st_rev s)
end
end G
set_option Elab.async false
set_option linter.all false
set_option maxRecDepth 100000
namespace G
open PySem PySem.Spec PyProof.Rows L2
abbrev Fn := List D → Option (D × List D)
def imps : List R → List D → List D → List (Nat × List Nat × D)
  | .p j π :: rs, d :: ds, x :: xs => if d.pure = true then imps rs ds xs else (j, π, x) :: imps rs ds xs
  | .v _ :: rs, _ :: ds, _ :: xs => imps rs ds xs
  | _, _, _ => []
def wbs : List (Nat × List Nat × D) → En → En
  | [], env => env
  | x :: L, env => wbs L (enPut env x.1 x.2.1 x.2.2)
def kCall (m : Fn) (ms : List Nat) : Kn := fun rs env => (gets rs env).bind fun ds =>
  if ((imps rs ds ds).all fun x => ms.contains x.1) = true ∧ ((imps rs ds ds).map (·.1)).Nodup then
    (m ds).bind fun z => if z.2.length = ds.length then some (.v z.1, wbs (imps rs ds z.2) (wbs (imps rs ds (ds.map fun _ => .hole)) env)) else none else none
section
variable (P : Program) (w : World) (K : PySem.W.Frag)
def spOf (m : Fn) : Sp := fun vs H Q _ => ∃ Z ds ts, ts.map VT.v = vs ∧ OwnL P w K Z H ds ts ∧ (fpL ds ts).Nodup ∧ (∀ a ∈ fpL ds ts, ¬ Z a) ∧ (∀ a, Z a → H a ≠ none) ∧ ∃ r ds', m ds = some (r, ds') ∧
  ∀ H' Z' t ts', ts'.map VT.v = vs → Own P w K Z' H' r t → OwnL P w K Z' H' ds' ts' → (fp r t ++ fpL ds' ts').Nodup → (∀ a ∈ fp r t ++ fpL ds' ts', ¬ Z' a) → (∀ a, Z' a → H' a ≠ none) →
    Since Z H (fun a => a ∈ fpL ds ts) Z' H' (fun a => a ∈ fp r t ++ fpL ds' ts') → Q t.v H'
end
structure Ex1 where
  j : Nat
  π : List Nat
  co : D
  to : VT
  cn : D
  tn : VT
def Ex1.put (x : Ex1) : Nat × List Nat × D := (x.j, x.π, x.cn)
section
variable {P : Program} {w : World} {K : PySem.W.Frag} {Z Z' : Addr → Prop} {H H' : Hp} {env env' : En} {T T' : Nat → VT} {σ : L2.St} {av : List (V × D)}
def newFp : List Ex1 → List Addr
  | [] => []
  | x :: L => fp x.cn x.tn ++ newFp L
variable (P w K Z H env T)
structure ExOk (x : Ex1) : Prop where
  at' : ∃ d0, dAt env x.j = some d0 ∧ d0.at x.π = some x.co ∧ (T x.j).at x.π = some x.to
  np : x.co.pure = false
  v : x.tn.v = x.to.v
  own : Own P w K Z H x.cn x.tn
variable {P w K Z H env T}
theorem Rel.puts : ∀ {L : List Ex1} {env : En} {T : Nat → VT}, Rel P w K av Z env T σ H → (∀ x ∈ L, ExOk P w K Z H env T x) → (L.map Ex1.j).Nodup → (newFp L).Nodup → (∀ a ∈ newFp L, ¬ Z a ∧ ¬ AllFp env T a) →
    ∃ T', Rel P w K av Z (wbs (L.map Ex1.put) env) T' σ H ∧ (∀ a, AllFp (wbs (L.map Ex1.put) env) T' a → (AllFp env T a ∧ ∀ x ∈ L, a ∉ fp x.co x.to) ∨ a ∈ newFp L) ∧
      (∀ i, (∀ x ∈ L, x.j ≠ i) → T' i = T i ∧ (wbs (L.map Ex1.put) env)[i]? = env[i]?) ∧ (∀ i, (dAt env i).isSome = true → (dAt (wbs (L.map Ex1.put) env) i).isSome = true) ∧
      ∀ x ∈ L, ∃ d0, dAt env x.j = some d0 ∧ dAt (wbs (L.map Ex1.put) env) x.j = some (d0.put x.π x.cn) ∧ T' x.j = (T x.j).put x.π x.tn
  | [], env, T, R1, _, _, _, _ => ⟨T, R1, fun a h => .inl ⟨h, fun x hx => nomatch hx⟩, fun i _ => ⟨rfl, rfl⟩, fun i h => h, fun x hx => nomatch hx⟩
  | x :: L, env, T, R1, ok, nj, nn, ap => by
    obtain ⟨d0, g1, g2, g3⟩ := (ok x List.mem_cons_self).at'
    have ox := ok x List.mem_cons_self
    obtain ⟨nx, nj'⟩ := List.nodup_cons.mp (show (x.j :: L.map Ex1.j).Nodup from nj)
    obtain ⟨n1, n2, n3⟩ := List.nodup_append.mp (show (fp x.cn x.tn ++ newFp L).Nodup from nn)
    obtain ⟨T1, R2, q1, q2, q3, q4, q5, q6⟩ := R1.put (S := fun _ => False) g1 g2 g3 ox.np .refl (fun _ z => z.elim) ox.own ox.v n1 fun a ha => .inr (ap a (List.mem_append_left _ ha))
    have nej : ∀ y ∈ L, y.j ≠ x.j := fun y hy e => nx (e ▸ List.mem_map_of_mem hy)
    have ok1 : ∀ y ∈ L, ExOk P w K Z H (enPut env x.j x.π x.cn) T1 y := fun y hy => by
      obtain ⟨⟨d1, a1, a2, a3⟩, b, c, e⟩ := ok y (List.mem_cons_of_mem _ hy)
      obtain ⟨p1, p2⟩ := q2 y.j (nej y hy)
      exact ⟨⟨d1, by unfold dAt at a1 ⊢; rw [p2]; exact a1, a2, by rw [p1]; exact a3⟩, b, c, e⟩
    obtain ⟨T2, R3, r1, r2, r3, r4⟩ := Rel.puts R2 ok1 nj' n2 fun a ha => ⟨(ap a (List.mem_append_right _ ha)).1, fun z => by
      rcases q1 a z with h | h
      · exact (ap a (List.mem_append_right _ ha)).2 h.1
      · exact n3 a h a ha rfl⟩
    refine ⟨T2, R3, fun a h => ?_, fun i hi => ?_, fun i h => ?_, fun y hy => ?_⟩
    · rcases r1 a h with ⟨h, h'⟩ | h
      · rcases q1 a h with h2 | h2
        · refine .inl ⟨h2.1, fun y hy => ?_⟩
          rcases List.mem_cons.mp hy with rfl | hy
          · exact h2.2
          · exact h' y hy
        · exact .inr (List.mem_append_left _ h2)
      · exact .inr (List.mem_append_right _ h)
    · obtain ⟨a1, a2⟩ := r2 i fun y hy => hi y (List.mem_cons_of_mem _ hy)
      obtain ⟨b1, b2⟩ := q2 i (Ne.symm (hi x List.mem_cons_self))
      exact ⟨a1.trans b1, a2.trans b2⟩
    · refine r3 i ?_
      by_cases e : i = x.j
      · subst e; rw [q3]; rfl
      · unfold dAt at h ⊢; rw [(q2 i e).2]; exact h
    · rcases List.mem_cons.mp hy with rfl | hy
      · obtain ⟨a1, a2⟩ := r2 y.j nej
        refine ⟨d0, g1, ?_, by rw [a1, q4]⟩
        show dAt (wbs (L.map Ex1.put) (enPut env y.j y.π y.cn)) y.j = _
        unfold dAt
        rw [a2]
        exact q3
      · obtain ⟨d1, a1, a2, a3⟩ := r4 y hy
        obtain ⟨p1, p2⟩ := q2 y.j (nej y hy)
        refine ⟨d1, by unfold dAt at a1 ⊢; rw [← p2]; exact a1, a2, by rw [a3, p1]⟩
theorem at_put : ∀ {p : List Nat} {d c x : D}, d.at p = some c → (d.put p x).at p = some x
  | [], d, c, x, _ => by rw [D.put, D.at]
  | n :: p, d, c, x, e => by
    rw [D.at] at e
    obtain ⟨b, e1, e2⟩ := Option.bind_eq_some_iff.mp e
    rw [D.put, e1]
    show (d.setKid n (b.put p x)).at (n :: p) = some x
    have hk : (d.setKid n (b.put p x)).kids[n]? = some (b.put p x) := by
      cases d with
      | tup ds => exact List.getElem?_set_self (List.getElem?_eq_some_iff.mp e1).1
      | lst m ds => exact List.getElem?_set_self (List.getElem?_eq_some_iff.mp e1).1
      | dct m ks vs => exact List.getElem?_set_self (List.getElem?_eq_some_iff.mp e1).1
      | _ => cases e1
    rw [D.at, hk, Option.bind_some]
    exact at_put e2
theorem vat_put : ∀ {p : List Nat} {d c x : VT}, d.at p = some c → (d.put p x).at p = some x
  | [], d, c, x, _ => by rw [VT.put, VT.at]
  | n :: p, d, c, x, e => by
    rw [VT.at] at e
    obtain ⟨b, e1, e2⟩ := Option.bind_eq_some_iff.mp e
    rw [VT.put, e1]
    show (VT.mk d.v (d.ks.set n (b.put p x))).at (n :: p) = some x
    rw [VT.at, show (VT.mk d.v (d.ks.set n (b.put p x))).ks = d.ks.set n (b.put p x) from rfl, List.getElem?_set_self (List.getElem?_eq_some_iff.mp e1).1, Option.bind_some]
    exact vat_put e2
def exs : List R → List D → List VT → List D → List VT → List Ex1
  | .p j π :: rs, d :: ds, t :: ts, x :: xs, u :: us => if d.pure = true then exs rs ds ts xs us else ⟨j, π, d, t, x, u⟩ :: exs rs ds ts xs us
  | .v _ :: rs, _ :: ds, _ :: ts, _ :: xs, _ :: us => exs rs ds ts xs us
  | _, _, _, _, _ => []
theorem exs_put : ∀ {rs : List R} {ds : List D} {ts : List VT} {xs : List D} {us : List VT}, ts.length = ds.length → us.length = xs.length → (exs rs ds ts xs us).map Ex1.put = imps rs ds xs
  | [], _, _, _, _, _, _ => by simp [exs, imps]
  | .p j π :: rs, [], ts, xs, us, _, _ => by simp [exs, imps]
  | .p j π :: rs, d :: ds, [], xs, us, h, _ => by cases h
  | .p j π :: rs, d :: ds, t :: ts, [], us, _, _ => by simp [exs, imps]
  | .p j π :: rs, d :: ds, t :: ts, x :: xs, [], _, h => by cases h
  | .p j π :: rs, d :: ds, t :: ts, x :: xs, u :: us, h, h' => by
    rw [exs, imps]
    split
    · exact exs_put (by simpa using h) (by simpa using h')
    · rw [List.map_cons, exs_put (by simpa using h) (by simpa using h')]; rfl
  | .v _ :: rs, [], ts, xs, us, _, _ => by simp [exs, imps]
  | .v _ :: rs, d :: ds, [], xs, us, h, _ => by cases h
  | .v _ :: rs, d :: ds, t :: ts, [], us, _, _ => by simp [exs, imps]
  | .v _ :: rs, d :: ds, t :: ts, x :: xs, [], _, h => by cases h
  | .v _ :: rs, d :: ds, t :: ts, x :: xs, u :: us, h, h' => by
    rw [exs, imps]
    exact exs_put (by simpa using h) (by simpa using h')
theorem exs_j : ∀ {rs : List R} {ds : List D} {ts : List VT} {xs : List D} {us : List VT} {ys : List D}, ts.length = ds.length → us.length = xs.length → xs.length = ds.length → ys.length = ds.length → (exs rs ds ts xs us).map Ex1.j = (imps rs ds ys).map (·.1)
  | [], _, _, _, _, _, _, _, _, _ => by simp [exs, imps]
  | .p j π :: rs, [], ts, xs, us, ys, _, _, _, _ => by simp [exs, imps]
  | .p j π :: rs, d :: ds, [], xs, us, ys, h, _, _, _ => by cases h
  | .p j π :: rs, d :: ds, t :: ts, [], us, ys, _, _, h, _ => by cases h
  | .p j π :: rs, d :: ds, t :: ts, x :: xs, [], ys, _, h, _, _ => by cases h
  | .p j π :: rs, d :: ds, t :: ts, x :: xs, u :: us, [], _, _, _, h => by cases h
  | .p j π :: rs, d :: ds, t :: ts, x :: xs, u :: us, y :: ys, h, h', h2, h3 => by
    rw [exs, imps]
    split
    · exact exs_j (by simpa using h) (by simpa using h') (by simpa using h2) (by simpa using h3)
    · rw [List.map_cons, List.map_cons, exs_j (by simpa using h) (by simpa using h') (by simpa using h2) (by simpa using h3)]
  | .v _ :: rs, [], ts, xs, us, ys, _, _, _, _ => by simp [exs, imps]
  | .v _ :: rs, d :: ds, [], xs, us, ys, h, _, _, _ => by cases h
  | .v _ :: rs, d :: ds, t :: ts, [], us, ys, _, _, h, _ => by cases h
  | .v _ :: rs, d :: ds, t :: ts, x :: xs, [], ys, _, h, _, _ => by cases h
  | .v _ :: rs, d :: ds, t :: ts, x :: xs, u :: us, [], _, _, _, h => by cases h
  | .v _ :: rs, d :: ds, t :: ts, x :: xs, u :: us, y :: ys, h, h', h2, h3 => by
    rw [exs, imps]
    exact exs_j (by simpa using h) (by simpa using h') (by simpa using h2) (by simpa using h3)
theorem exs_mem : ∀ {rs : List R} {ds : List D} {ts : List VT} {xs : List D} {us : List VT} {e : Ex1}, e ∈ exs rs ds ts xs us →
    ∃ i : Nat, rs[i]? = some (.p e.j e.π) ∧ ds[i]? = some e.co ∧ ts[i]? = some e.to ∧ xs[i]? = some e.cn ∧ us[i]? = some e.tn ∧ e.co.pure = false
  | [], _, _, _, _, e, h => by simp [exs] at h
  | .p j π :: rs, [], ts, xs, us, e, h => by simp [exs] at h
  | .p j π :: rs, d :: ds, [], xs, us, e, h => by simp [exs] at h
  | .p j π :: rs, d :: ds, t :: ts, [], us, e, h => by simp [exs] at h
  | .p j π :: rs, d :: ds, t :: ts, x :: xs, [], e, h => by simp [exs] at h
  | .p j π :: rs, d :: ds, t :: ts, x :: xs, u :: us, e, h => by
    rw [exs] at h
    split at h
    · obtain ⟨i, q⟩ := exs_mem h
      exact ⟨i + 1, by simpa using q⟩
    · rename_i hp
      rcases List.mem_cons.mp h with rfl | h
      · exact ⟨0, rfl, rfl, rfl, rfl, rfl, by simpa using hp⟩
      · obtain ⟨i, q⟩ := exs_mem h
        exact ⟨i + 1, by simpa using q⟩
  | .v _ :: rs, [], ts, xs, us, e, h => by simp [exs] at h
  | .v _ :: rs, d :: ds, [], xs, us, e, h => by simp [exs] at h
  | .v _ :: rs, d :: ds, t :: ts, [], us, e, h => by simp [exs] at h
  | .v _ :: rs, d :: ds, t :: ts, x :: xs, [], e, h => by simp [exs] at h
  | .v _ :: rs, d :: ds, t :: ts, x :: xs, u :: us, e, h => by
    rw [exs] at h
    obtain ⟨i, q⟩ := exs_mem h
    exact ⟨i + 1, by simpa using q⟩
theorem exs_fp : ∀ {rs : List R} {ds : List D} {ts : List VT} {xs : List D} {us : List VT}, (newFp (exs rs ds ts xs us)).Sublist (fpL xs us)
  | [], _, _, _, _ => by simp [exs, newFp]
  | .p j π :: rs, [], ts, xs, us => by simp [exs, newFp]
  | .p j π :: rs, d :: ds, [], xs, us => by simp [exs, newFp]
  | .p j π :: rs, d :: ds, t :: ts, [], us => by simp [exs, newFp]
  | .p j π :: rs, d :: ds, t :: ts, x :: xs, [] => by simp [exs, newFp]
  | .p j π :: rs, d :: ds, t :: ts, x :: xs, u :: us => by
    rw [exs, fpL]
    split
    · exact exs_fp.trans (List.sublist_append_right _ _)
    · exact (List.Sublist.refl _).append exs_fp
  | .v _ :: rs, [], ts, xs, us => by simp [exs, newFp]
  | .v _ :: rs, d :: ds, [], xs, us => by simp [exs, newFp]
  | .v _ :: rs, d :: ds, t :: ts, [], us => by simp [exs, newFp]
  | .v _ :: rs, d :: ds, t :: ts, x :: xs, [] => by simp [exs, newFp]
  | .v _ :: rs, d :: ds, t :: ts, x :: xs, u :: us => by
    rw [exs, fpL]
    exact exs_fp.trans (List.sublist_append_right _ _)
theorem mem_exs : ∀ {rs : List R} {ds : List D} {ts : List VT} {xs : List D} {us : List VT} {i j : Nat} {π : List Nat} {d : D} {t : VT} {x : D} {u : VT}, rs[i]? = some (.p j π) → ds[i]? = some d → ts[i]? = some t → xs[i]? = some x → us[i]? = some u →
    d.pure = false → ⟨j, π, d, t, x, u⟩ ∈ exs rs ds ts xs us
  | [], _, _, _, _, _, _, _, _, _, _, _, h, _, _, _, _, _ => by simp at h
  | _ :: _, [], _, _, _, _, _, _, _, _, _, _, _, h, _, _, _, _ => by simp at h
  | _ :: _, _ :: _, [], _, _, _, _, _, _, _, _, _, _, _, h, _, _, _ => by simp at h
  | _ :: _, _ :: _, _ :: _, [], _, _, _, _, _, _, _, _, _, _, _, h, _, _ => by simp at h
  | _ :: _, _ :: _, _ :: _, _ :: _, [], _, _, _, _, _, _, _, _, _, _, _, h, _ => by simp at h
  | r :: rs, d' :: ds, t' :: ts, x' :: xs, u' :: us, 0, j, π, d, t, x, u, h1, h2, h3, h4, h5, hp => by
    simp only [List.getElem?_cons_zero, Option.some.injEq] at h1 h2 h3 h4 h5
    subst h1 h2 h3 h4 h5
    rw [exs, if_neg (by rw [hp]; decide)]
    exact List.mem_cons_self
  | r :: rs, d' :: ds, t' :: ts, x' :: xs, u' :: us, i + 1, j, π, d, t, x, u, h1, h2, h3, h4, h5, hp => by
    have ih := mem_exs (rs := rs) (ds := ds) (ts := ts) (xs := xs) (us := us) (i := i) (j := j) (π := π) (d := d) (t := t) (x := x) (u := u) (by simpa using h1) (by simpa using h2) (by simpa using h3) (by simpa using h4) (by simpa using h5) hp
    cases r with
    | v _ => rw [exs]; exact ih
    | p j' π' =>
      rw [exs]
      split
      · exact ih
      · exact List.mem_cons_of_mem _ ih
end
end G
set_option Elab.async false
set_option linter.all false
set_option maxRecDepth 100000
namespace G
open PySem PySem.Spec PyProof.Rows L2
section
variable {P : Program} {w : World} {K : PySem.W.Frag} {Z Z' : Addr → Prop} {H H' : Hp} {env env' : En} {T T' : Nat → VT} {σ : L2.St} {av : List (V × D)}
theorem Rel.kpz {S : Addr → Prop} (h : Rel P w K av Z env T σ H) (k : Kp S H H') (hS : ∀ a, S a → ¬ AllFp env T a ∧ ¬ Z a) (zz : ∀ a, Z a → Z' a) (hz : ∀ a, AllFp env T a → ¬ Z' a) (zs : ∀ a, Z' a → H' a ≠ none) : Rel P w K av Z' env T σ H' :=
  ⟨h.len, fun i d e => ⟨(h.own i d e).1, (h.own i d e).2.frame k (fun a z q => (hS a q).2 z) zz fun a ha q => (hS a q).1 ⟨i, by unfold fps; rw [e]; exact ha⟩⟩, h.arg, h.nd, h.dj, fun i a ha => hz a ⟨i, ha⟩, zs⟩
theorem gets_len {rs : List R} {ds : List D} (e : gets rs env = some ds) : rs.length = ds.length := by
  induction rs generalizing ds with
  | nil => cases e; rfl
  | cons r rs ih =>
    obtain ⟨d, e1, e⟩ := Option.bind_eq_some_iff.mp e
    obtain ⟨ds', e2, e⟩ := Option.bind_eq_some_iff.mp e
    cases e
    rw [List.length_cons, List.length_cons, ih e2]
theorem gets_get {rs : List R} {ds : List D} (e : gets rs env = some ds) {i : Nat} {r : R} (h : rs[i]? = some r) : ∃ d, ds[i]? = some d ∧ r.get env = some d := by
  induction rs generalizing ds i with
  | nil => simp at h
  | cons r' rs ih =>
    obtain ⟨d, e1, e⟩ := Option.bind_eq_some_iff.mp e
    obtain ⟨ds', e2, e⟩ := Option.bind_eq_some_iff.mp e
    cases e
    cases i with
    | zero =>
      simp only [List.getElem?_cons_zero, Option.some.injEq] at h
      subst h
      exact ⟨d, rfl, e1⟩
    | succ i => exact ih e2 (by simpa using h)
theorem RRelL.get {rs : List R} {ts : List VT} (rr : RRelL P w K Z env T H rs ts) {i : Nat} {r : R} (h : rs[i]? = some r) : ∃ t, ts[i]? = some t ∧ RRel P w K Z env T H r t := by
  induction rs generalizing ts i with
  | nil => simp at h
  | cons r' rs ih =>
    cases ts with
    | nil => exact rr.elim
    | cons t ts =>
      cases i with
      | zero =>
        simp only [List.getElem?_cons_zero, Option.some.injEq] at h
        subst h
        exact ⟨t, rfl, rr.1⟩
      | succ i => exact ih rr.2 (by simpa using h)
theorem RRelL.len {rs : List R} {ts : List VT} (rr : RRelL P w K Z env T H rs ts) : rs.length = ts.length := by
  induction rs generalizing ts with
  | nil =>
    cases ts with
    | nil => rfl
    | cons _ _ => exact rr.elim
  | cons r rs ih =>
    cases ts with
    | nil => exact rr.elim
    | cons t ts => rw [List.length_cons, List.length_cons, ih rr.2]
theorem arg_fp {rs : List R} {ts : List VT} {ds : List D} (R1 : Rel P w K av Z env T σ H) (rr : RRelL P w K Z env T H rs ts) (e : gets rs env = some ds) {a : Addr} (ha : a ∈ fpL ds ts) :
    a ∈ rfpL rs ts ∨ ∃ (i j : Nat) (π : List Nat) (d : D) (t : VT), rs[i]? = some (.p j π) ∧ ds[i]? = some d ∧ ts[i]? = some t ∧ d.pure = false ∧ a ∈ fp d t ∧ a ∈ fps env T j := by
  induction rs generalizing ts ds with
  | nil => cases e; rw [fpL] at ha; cases ha
  | cons r rs ih =>
    cases ts with
    | nil => exact rr.elim
    | cons t ts =>
      obtain ⟨d, e1, e⟩ := Option.bind_eq_some_iff.mp e
      obtain ⟨ds', e2, e⟩ := Option.bind_eq_some_iff.mp e
      cases e
      rw [fpL] at ha
      rw [rfpL]
      rcases List.mem_append.mp ha with ha | ha
      · cases r with
        | v d' => cases e1; exact .inl (List.mem_append_left _ ha)
        | p j π =>
          obtain ⟨d0, g1, g2, g3, o, inA, _⟩ := place_at R1 rr.1 e1
          have np : d.pure = false := by
            cases q : d.pure with
            | false => rfl
            | true => rw [fp_pure q] at ha; cases ha
          obtain ⟨pre, post, q, _⟩ := at_split (R1.own j d0 g1).2 np g2 g3
          refine .inr ⟨0, j, π, d, t, rfl, rfl, rfl, np, ha, ?_⟩
          unfold fps; rw [g1]
          show a ∈ fp d0 (T j)
          rw [q]
          exact List.mem_append_left _ (List.mem_append_right _ ha)
      · rcases ih rr.2 e2 ha with h | ⟨i, j, π, d1, t1, h⟩
        · exact .inl (List.mem_append_right _ h)
        · exact .inr ⟨i + 1, j, π, d1, t1, by simpa using h⟩
theorem arg_nodup {rs : List R} {ts : List VT} {ds : List D} (R1 : Rel P w K av Z env T σ H) (rr : RRelL P w K Z env T H rs ts) (nd : (rfpL rs ts).Nodup) (e : gets rs env = some ds) (nj : ((imps rs ds ds).map (·.1)).Nodup) : (fpL ds ts).Nodup := by
  have all := RRelL.apart rr
  induction rs generalizing ts ds with
  | nil => cases e; rw [fpL]; exact List.nodup_nil
  | cons r rs ih =>
    cases ts with
    | nil => exact rr.elim
    | cons t ts =>
      obtain ⟨d, e1, e⟩ := Option.bind_eq_some_iff.mp e
      obtain ⟨ds', e2, e⟩ := Option.bind_eq_some_iff.mp e
      cases e
      rw [rfpL] at nd all
      obtain ⟨n1, n2, n3⟩ := List.nodup_append.mp nd
      have all2 : ∀ a ∈ rfpL rs ts, ¬ Z a ∧ ¬ AllFp env T a := fun a h => all a (List.mem_append_right _ h)
      have nj' : ((imps rs ds' ds').map (·.1)).Nodup := by
        cases r with
        | v _ => simpa [imps] using nj
        | p j π =>
          rw [imps] at nj
          split at nj
          · exact nj
          · rw [List.map_cons] at nj; exact (List.nodup_cons.mp nj).2
      have nt := ih rr.2 n2 e2 nj' all2
      rw [fpL]
      cases r with
      | v d' =>
        cases e1
        refine List.nodup_append.mpr ⟨n1, nt, fun a ha b hb q => ?_⟩
        subst q
        rcases arg_fp R1 rr.2 e2 hb with h | ⟨i, j, π, d1, t1, _, _, _, _, _, h⟩
        · exact n3 a ha a h rfl
        · exact (all a (List.mem_append_left _ ha)).2 ⟨j, h⟩
      | p j π =>
        obtain ⟨d0, g1, g2, g3, o, inA, ndc⟩ := place_at R1 rr.1 e1
        cases hp : d.pure with
        | true => rw [fp_pure hp]; exact nt
        | false =>
          refine List.nodup_append.mpr ⟨ndc, nt, fun a ha b hb q => ?_⟩
          subst q
          obtain ⟨pre, post, q, _⟩ := at_split (R1.own j d0 g1).2 hp g2 g3
          have haj : a ∈ fps env T j := by
            unfold fps; rw [g1]
            show a ∈ fp d0 (T j)
            rw [q]
            exact List.mem_append_left _ (List.mem_append_right _ ha)
          rcases arg_fp R1 rr.2 e2 hb with h | ⟨i, j', π', d1, t1, f1, f2, f3, f4, _, h⟩
          · exact (all a (by rw [rfp]; exact List.mem_append_right _ h)).2 ⟨j, haj⟩
          · have hj : j = j' := R1.dj j j' a haj h
            subst hj
            rw [imps, if_neg (by rw [hp]; decide), List.map_cons] at nj
            refine (List.nodup_cons.mp nj).1 ?_
            -- the other one stands among the impure ones
            have mem : ∀ {rs : List R} {ds : List D} {i : Nat}, rs[i]? = some (.p j π') → ds[i]? = some d1 → (j, π', d1) ∈ imps rs ds ds := by
              intro rs
              induction rs with
              | nil => intro ds i h; simp at h
              | cons r rs ih =>
                intro ds i h h'
                cases ds with
                | nil => simp at h'
                | cons d ds =>
                  cases i with
                  | zero =>
                    simp only [List.getElem?_cons_zero, Option.some.injEq] at h h'
                    subst h h'
                    rw [imps, if_neg (by rw [f4]; decide)]
                    exact List.mem_cons_self
                  | succ i =>
                    have := ih (i := i) (ds := ds) (by simpa using h) (by simpa using h')
                    cases r with
                    | v _ => rw [imps]; exact this
                    | p _ _ =>
                      rw [imps]
                      split
                      · exact this
                      · exact List.mem_cons_of_mem _ this
            exact List.mem_map.mpr ⟨_, mem f1 f2, rfl⟩
theorem fpL_holes : ∀ (ds : List D) (us : List VT), fpL (ds.map fun _ => D.hole) us = []
  | [], _ => by rw [List.map_nil, fpL]
  | d :: ds, [] => by rw [List.map_cons, fpL]
  | d :: ds, u :: us => by rw [List.map_cons, fpL, fpL_holes ds us, fp]; rfl
theorem newFp_map (f : Ex1 → Ex1) (h : ∀ x, (f x).cn = x.cn ∧ (f x).tn = x.tn) : ∀ L : List Ex1, newFp (L.map f) = newFp L
  | [] => rfl
  | x :: L => by rw [List.map_cons, newFp, newFp, newFp_map f h L, (h x).1, (h x).2]
theorem st_call {m : Fn} {ms : List Nat} {vs : List V} {Q : VK} {E : XK} (h : Step P w K (kCall m ms) ms vs H Q) : spOf P w K m vs H Q E := by
  obtain ⟨av, Z, env, T, σ, rs, ts, r0, env', e0, R1, rr, nd, e, dn⟩ := h
  obtain ⟨ds, eg, e⟩ := Option.bind_eq_some_iff.mp e
  by_cases hc : ((imps rs ds ds).all fun x => ms.contains x.1) = true ∧ ((imps rs ds ds).map (·.1)).Nodup
  · rw [if_pos hc] at e
    obtain ⟨⟨r, ds'⟩, em, e⟩ := Option.bind_eq_some_iff.mp e
    dsimp only at e
    by_cases hl : ds'.length = ds.length
    · rw [if_pos hl] at e
      cases e
      have hms : ∀ x ∈ imps rs ds ds, x.1 ∈ ms := fun x hx => by
        have := List.all_eq_true.mp hc.1 x hx
        simpa using this
      have ol := gets_own R1 rr eg
      have ndA := arg_nodup R1 rr nd eg hc.2
      have apart := RRelL.apart rr
      have lts : ts.length = ds.length := by rw [← rr.len, gets_len eg]
      have afz : ∀ a ∈ fpL ds ts, ¬ Z a := fun a ha => by
        rcases arg_fp R1 rr eg ha with h | ⟨i, j, π, d, t, _, _, _, _, _, h⟩
        · exact (apart a h).1
        · exact R1.dz j a h
      have inS : ∀ a ∈ fpL ds ts, AllFp env T a ∨ a ∈ rfpL rs ts := fun a ha => by
        rcases arg_fp R1 rr eg ha with h | ⟨i, j, π, d, t, _, _, _, _, _, h⟩
        · exact .inr h
        · exact .inl ⟨j, h⟩
      refine ⟨Z, ds, ts, e0, ol, ndA, afz, R1.zs, r, ds', em, fun H' Z' t ts' hts o ol' nd2 nz zs sn => ?_⟩
      have lts' : ts'.length = ds'.length := ol'.length.symm
      -- the places are taken out
      generalize hL1 : exs rs ds ts (ds.map fun _ => D.hole) (ts.map fun t => VT.mk t.v []) = L1
      have ok1 : ∀ x ∈ L1, ExOk P w K Z H env T x := fun x hx => by
        rw [← hL1] at hx
        obtain ⟨i, f1, f2, f3, f4, f5, f6⟩ := exs_mem hx
        obtain ⟨t1, g1, rr1⟩ := rr.get f1
        rw [f3] at g1; cases g1
        obtain ⟨d1, g1, ed⟩ := gets_get eg f1
        rw [f2] at g1; cases g1
        obtain ⟨d0, a1, a2, a3, _⟩ := place_at R1 rr1 ed
        rw [List.getElem?_map, f2] at f4
        rw [List.getElem?_map, f3] at f5
        refine ⟨⟨d0, a1, a2, a3⟩, f6, ?_, ?_⟩
        · rw [← Option.some.inj f5]; rfl
        · rw [← Option.some.inj f4, Own]; trivial
      have p1 : L1.map Ex1.put = imps rs ds (ds.map fun _ => D.hole) := by rw [← hL1]; exact exs_put lts (by rw [List.length_map, List.length_map, lts])
      have j1 : L1.map Ex1.j = (imps rs ds ds).map (·.1) := by rw [← hL1]; exact exs_j lts (by rw [List.length_map, List.length_map, lts]) (by rw [List.length_map]) rfl
      have n1 : newFp L1 = [] := by
        have s : (newFp L1).Sublist (fpL (ds.map fun _ => D.hole) (ts.map fun t => VT.mk t.v [])) := by rw [← hL1]; exact exs_fp
        rw [fpL_holes] at s
        exact List.sublist_nil.mp s
      obtain ⟨T1, RA, qa, qb, qc, qd⟩ := R1.puts ok1 (by rw [j1]; exact hc.2) (by rw [n1]; exact List.nodup_nil) (by rw [n1]; intro _ z; cases z)
      rw [p1] at RA qa qb qc qd
      generalize hA : wbs (imps rs ds (ds.map fun _ => D.hole)) env = envA at RA qa qb qc qd dn
      have outA : ∀ a, AllFp envA T1 a → a ∉ fpL ds ts := fun a ha z => by
        rcases qa a ha with ⟨h1, h2⟩ | h
        · rcases arg_fp R1 rr eg z with h | ⟨i, j, π, d, t, f1, f2, f3, f4, f5, _⟩
          · exact (apart a h).2 h1
          · have mem : (⟨j, π, d, t, D.hole, VT.mk t.v []⟩ : Ex1) ∈ L1 := by
              rw [← hL1]
              exact mem_exs f1 f2 f3 (by rw [List.getElem?_map, f2]; rfl) (by rw [List.getElem?_map, f3]; rfl) f4
            exact h2 _ mem f5
        · rw [n1] at h; cases h
      have stA : ∀ a, AllFp envA T1 a → ¬ H a = none := fun a ha z => by
        obtain ⟨u, hu, _⟩ := RA.stands ha
        rw [z] at hu; cases hu
      -- the heap behind the call
      have RB : Rel P w K av Z' envA T1 σ H' := RA.kpz sn.kp (fun a ha => ⟨fun z => outA a z ha, afz a ha⟩) sn.zm (fun a ha z => by
        rcases sn.z a z with h | h | h
        · obtain ⟨i, hi⟩ := ha
          exact RA.dz i a hi h
        · exact outA a ha h
        · exact stA a ha h) zs
      -- the places filled again
      generalize hL2 : (exs rs ds ts ds' ts').map (fun x => (⟨x.j, x.π, D.hole, VT.mk x.to.v [], x.cn, x.tn⟩ : Ex1)) = L2
      have ok2 : ∀ x ∈ L2, ExOk P w K Z' H' envA T1 x := fun x hx => by
        rw [← hL2] at hx
        obtain ⟨y, hy, rfl⟩ := List.mem_map.mp hx
        obtain ⟨i, f1, f2, f3, f4, f5, f6⟩ := exs_mem hy
        have mem : (⟨y.j, y.π, y.co, y.to, D.hole, VT.mk y.to.v []⟩ : Ex1) ∈ L1 := by
          rw [← hL1]
          exact mem_exs f1 f2 f3 (by rw [List.getElem?_map, f2]; rfl) (by rw [List.getElem?_map, f3]; rfl) f6
        obtain ⟨d0, b1, b2, b3⟩ := qd _ mem
        obtain ⟨⟨d0', c1, c2, c3⟩, _⟩ := ok1 _ mem
        have : d0' = d0 := Option.some.inj (c1.symm.trans b1)
        subst this
        obtain ⟨u, g1, ou⟩ := ol'.get f4
        rw [f5] at g1; cases g1
        refine ⟨⟨_, b2, at_put c2, by rw [b3]; exact vat_put c3⟩, by rw [D.pure], ?_, ou⟩
        have q := congrArg (fun l => l[i]?) (hts.trans e0.symm)
        simp only [List.getElem?_map, f5, f3, Option.map_some, Option.some.injEq] at q
        exact q
      have p2 : L2.map Ex1.put = imps rs ds ds' := by
        rw [← hL2, List.map_map]
        exact exs_put lts lts'
      have j2 : L2.map Ex1.j = (imps rs ds ds).map (·.1) := by
        rw [← hL2, List.map_map]
        exact exs_j lts lts' hl rfl
      have n2 : (newFp L2).Sublist (fpL ds' ts') := by
        rw [← hL2, newFp_map (fun x => (⟨x.j, x.π, D.hole, VT.mk x.to.v [], x.cn, x.tn⟩ : Ex1)) (fun x => ⟨rfl, rfl⟩)]
        exact exs_fp
      obtain ⟨m1, m2, m3⟩ := List.nodup_append.mp nd2
      have outN : ∀ a, (a ∈ fp r t ++ fpL ds' ts') → ¬ AllFp envA T1 a := fun a ha z => by
        rcases sn.own a ha with h | h
        · exact outA a z h
        · exact stA a z h
      obtain ⟨T2, RC, ra, rb, rc, rd⟩ := RB.puts ok2 (by rw [j2]; exact hc.2) (m2.sublist n2) fun a ha => ⟨nz a (List.mem_append_right _ (n2.subset ha)), outN a (List.mem_append_right _ (n2.subset ha))⟩
      rw [p2] at RC ra rb rc rd
      refine dn H' Z' T2 t RC ⟨o, fun a ha => ⟨nz a (List.mem_append_left _ ha), fun z => ?_⟩⟩ m1 ⟨sn.kp.mono inS, fun a h => ?_, fun a h => ?_, sn.zm⟩ ⟨fun i hi => ?_, fun i h => rc i (qc i h)⟩
      · rcases ra a z with h | h
        · exact outN a (List.mem_append_left _ ha) h.1
        · exact m3 a ha a (n2.subset h) rfl
      · rcases h with h | h
        · rcases ra a h with h | h
          · rcases qa a h.1 with h | h
            · exact .inl (.inl h.1)
            · rw [n1] at h; cases h
          · exact (sn.own a (List.mem_append_right _ (n2.subset h))).imp (inS a) id
        · exact (sn.own a (List.mem_append_left _ h)).imp (inS a) id
      · rcases sn.z a h with h | h | h
        · exact .inl h
        · exact .inr (.inl (inS a h))
        · exact .inr (.inr h)
      · have notin : ∀ (L : List Ex1), L.map Ex1.j = (imps rs ds ds).map (·.1) → ∀ x ∈ L, x.j ≠ i := fun L hL x hx q => by
          have : x.j ∈ (imps rs ds ds).map (·.1) := by rw [← hL]; exact List.mem_map_of_mem hx
          obtain ⟨y, hy, q2⟩ := List.mem_map.mp this
          exact hi (by rw [← q, ← q2]; exact hms y hy)
        obtain ⟨a1, a2⟩ := rb i (notin L2 j2)
        obtain ⟨b1, b2⟩ := qb i (notin L1 j1)
        exact ⟨a1.trans b1, a2.trans b2⟩
    · rw [if_neg hl] at e; cases e
  · rw [if_neg hc] at e; cases e
end
end G
set_option Elab.async false
set_option linter.all false
set_option maxRecDepth 100000
namespace G
open PySem PySem.Spec PyProof.Rows L2
def outs : List D → En → Option (List D)
  | [], _ => some []
  | _ :: ds, .arg x :: env => (outs ds env).map fun o => x :: o
  | d :: ds, .un :: env => if d.pure = true then (outs ds env).map fun o => d :: o else none
  | d :: ds, .val _ :: env => if d.pure = true then (outs ds env).map fun o => d :: o else none
  | _ :: _, [] => none
def runDef (np n : Nat) (body : MS) : Fn := fun ds =>
  if ds.length = np then (body.run (ds.map Sl.arg ++ List.replicate (n - np) .un)).bind fun x => match x.1 with
    | .rt d => (outs ds x.2).map fun o => (d, o)
    | .nx => (outs ds (argsOnly x.2)).map fun o => (.non, o)
    | _ => none
  else none
section
variable {P : Program} {w : World} {K : PySem.W.Frag} {Z Z' : Addr → Prop} {H H' : Hp} {env env' : En} {T T' : Nat → VT} {σ : L2.St} {av : List (V × D)}
theorem outs_ok {envF : En} (R1 : Rel P w K av Z' envF T' σ H') : ∀ {ds : List D} {ts : List VT} {envS : En} {k : Nat} {ds' : List D}, (∀ i, envF[k + i]? = envS[i]?) → ts.length = ds.length → (∀ (i : Nat) (t : VT) (d : D), ts[i]? = some t → ds[i]? = some d → av[k + i]? = some (t.v, d)) →
    (∀ (i : Nat) (d : D) (t : VT), ds[i]? = some d → ts[i]? = some t → d.pure = true → Own P w K Z' H' d t) → outs ds envS = some ds' →
    ∃ ts', ts'.map VT.v = ts.map VT.v ∧ OwnL P w K Z' H' ds' ts' ∧ (∀ a ∈ fpL ds' ts', ∃ i, k ≤ i ∧ a ∈ fps envF T' i) ∧ (fpL ds' ts').Nodup
  | [], ts, envS, k, ds', hs, hl, hav, hp, e => by
    have : ts = [] := List.length_eq_zero_iff.mp hl
    subst this
    rw [outs] at e
    cases e
    exact ⟨[], rfl, by rw [OwnL]; trivial, (by rw [fpL]; intro _ z; cases z), by rw [fpL]; exact List.nodup_nil⟩
  | d :: ds, [], envS, k, ds', hs, hl, hav, hp, e => by cases hl
  | d :: ds, t :: ts, [], k, ds', hs, hl, hav, hp, e => by rw [outs] at e; cases e
  | d :: ds, t :: ts, s :: envS, k, ds', hs, hl, hav, hp, e => by
    have step : ∀ {ds'' : List D}, outs ds envS = some ds'' → ∃ ts', ts'.map VT.v = ts.map VT.v ∧ OwnL P w K Z' H' ds'' ts' ∧ (∀ a ∈ fpL ds'' ts', ∃ i, k + 1 ≤ i ∧ a ∈ fps envF T' i) ∧ (fpL ds'' ts').Nodup := fun {ds''} q =>
      outs_ok R1 (k := k + 1) (fun i => by have := hs (i + 1); rw [show k + 1 + i = k + (i + 1) by omega]; simpa using this) (by simpa using hl)
        (fun i t' d' h1 h2 => by have := hav (i + 1) t' d' (by simpa using h1) (by simpa using h2); rw [show k + 1 + i = k + (i + 1) by omega]; exact this)
        (fun i d' t' h1 h2 => hp (i + 1) d' t' (by simpa using h1) (by simpa using h2)) q
    have pureCase : d.pure = true → ∀ {ds'' : List D}, outs ds envS = some ds'' → ∃ ts', ts'.map VT.v = (t :: ts).map VT.v ∧ OwnL P w K Z' H' (d :: ds'') ts' ∧ (∀ a ∈ fpL (d :: ds'') ts', ∃ i, k ≤ i ∧ a ∈ fps envF T' i) ∧ (fpL (d :: ds'') ts').Nodup := fun hpu {ds''} q => by
      obtain ⟨ts', a1, a2, a3, a4⟩ := step q
      refine ⟨t :: ts', by rw [List.map_cons, List.map_cons, a1], by rw [OwnL]; exact ⟨hp 0 d t rfl rfl hpu, a2⟩, ?_, ?_⟩
      · rw [fpL, fp_pure hpu]
        intro a ha
        obtain ⟨i, h1, h2⟩ := a3 a ha
        exact ⟨i, by omega, h2⟩
      · rw [fpL, fp_pure hpu]; exact a4
    cases s with
    | arg x =>
      rw [outs] at e
      obtain ⟨ds'', q, rfl⟩ := Option.map_eq_some_iff.mp e
      obtain ⟨ts', a1, a2, a3, a4⟩ := step q
      have hk : envF[k]? = some (.arg x) := by have := hs 0; simpa using this
      have hd : dAt envF k = some x := by unfold dAt; rw [hk]; rfl
      obtain ⟨b1, b2⟩ := R1.own k x hd
      obtain ⟨d0, c1, _⟩ := R1.arg k x hk
      have c2 := hav 0 t d rfl rfl
      rw [Nat.add_zero, c1] at c2
      have hv : (T' k).v = t.v := congrArg Prod.fst (Option.some.inj c2)
      have fk : fps envF T' k = fp x (T' k) := by unfold fps; rw [hd]
      refine ⟨T' k :: ts', by rw [List.map_cons, List.map_cons, a1, hv], by rw [OwnL]; exact ⟨b2, a2⟩, ?_, ?_⟩
      · rw [fpL]
        intro a ha
        rcases List.mem_append.mp ha with ha | ha
        · exact ⟨k, Nat.le_refl _, by rw [fk]; exact ha⟩
        · obtain ⟨i, h1, h2⟩ := a3 a ha
          exact ⟨i, by omega, h2⟩
      · rw [fpL]
        refine List.nodup_append.mpr ⟨by rw [← fk]; exact R1.nd k, a4, fun a ha b hb q => ?_⟩
        subst q
        obtain ⟨i, h1, h2⟩ := a3 a hb
        have := R1.dj k i a (by rw [fk]; exact ha) h2
        omega
    | un =>
      rw [outs] at e
      split at e
      · rename_i hpu
        obtain ⟨ds'', q, rfl⟩ := Option.map_eq_some_iff.mp e
        exact pureCase hpu q
      · cases e
    | val x =>
      rw [outs] at e
      split at e
      · rename_i hpu
        obtain ⟨ds'', q, rfl⟩ := Option.map_eq_some_iff.mp e
        exact pureCase hpu q
      · cases e
theorem start_get {N : List Str} {vs : List V} {i : Nat} {v : V} (h : vs[i]? = some v) : (L2.start N vs)[i]? = some (some v) := by
  unfold L2.start
  have hi := (List.getElem?_eq_some_iff.mp h).1
  rw [List.getElem?_append_left (by rw [List.length_map]; exact hi), List.getElem?_map, h]; rfl
theorem fpL_at : ∀ {ds : List D} {ts : List VT} {i : Nat} {d : D} {t : VT}, ds[i]? = some d → ts[i]? = some t → ∀ a ∈ fp d t, a ∈ fpL ds ts := fun {ds ts i d t} h1 h2 a ha => by
  obtain ⟨pre, post, q, _⟩ := fpL_split h1 h2
  rw [q]
  exact List.mem_append_left _ (List.mem_append_right _ ha)
theorem fpL_dis : ∀ {ds : List D} {ts : List VT} {i j : Nat} {d e : D} {t u : VT} {a : Addr}, (fpL ds ts).Nodup → ds[i]? = some d → ts[i]? = some t → ds[j]? = some e → ts[j]? = some u → a ∈ fp d t → a ∈ fp e u → i = j
  | [], _, _, _, _, _, _, _, _, _, h, _, _, _, _, _ => by simp at h
  | _ :: _, [], _, _, _, _, _, _, _, _, _, h, _, _, _, _ => by simp at h
  | x :: ds, y :: ts, i, j, d, e, t, u, a, nd, h1, h2, h3, h4, m1, m2 => by
    rw [fpL] at nd
    obtain ⟨n1, n2, n3⟩ := List.nodup_append.mp nd
    cases i with
    | zero =>
      cases j with
      | zero => rfl
      | succ j =>
        simp only [List.getElem?_cons_zero, Option.some.injEq] at h1 h2
        subst h1 h2
        exact absurd rfl (n3 a m1 a (fpL_at (by simpa using h3) (by simpa using h4) a m2))
    | succ i =>
      cases j with
      | zero =>
        simp only [List.getElem?_cons_zero, Option.some.injEq] at h3 h4
        subst h3 h4
        exact absurd rfl (n3 a m2 a (fpL_at (by simpa using h1) (by simpa using h2) a m1))
      | succ j => rw [fpL_dis (i := i) (j := j) n2 (by simpa using h1) (by simpa using h2) (by simpa using h3) (by simpa using h4) m1 m2]
theorem Rel.start {ds : List D} {ts : List VT} {N : List Str} {n : Nat} (ol : OwnL P w K Z H ds ts) (nd : (fpL ds ts).Nodup) (nz : ∀ a ∈ fpL ds ts, ¬ Z a) (zs : ∀ a, Z a → H a ≠ none) (hn : n = N.length - ds.length) :
    Rel P w K ((ts.map VT.v).zip ds) Z (ds.map Sl.arg ++ List.replicate n .un) (fun i => ts.getD i (.mk .non [])) (L2.start N (ts.map VT.v)) H ∧ ∀ a, AllFp (ds.map Sl.arg ++ List.replicate n .un) (fun i => ts.getD i (.mk .non [])) a ↔ a ∈ fpL ds ts := by
  have lts := ol.length
  have slot : ∀ (i : Nat) (s : Sl), (ds.map Sl.arg ++ List.replicate n .un)[i]? = some s → s = .un ∨ ∃ d t, ds[i]? = some d ∧ ts[i]? = some t ∧ s = .arg d := fun i s h => by
    by_cases hi : i < ds.length
    · rw [List.getElem?_append_left (by rw [List.length_map]; exact hi), List.getElem?_map, List.getElem?_eq_getElem hi] at h
      cases h
      exact .inr ⟨ds[i], ts[i]'(by omega), List.getElem?_eq_getElem hi, List.getElem?_eq_getElem (by omega), rfl⟩
    · rw [List.getElem?_append_right (by rw [List.length_map]; omega)] at h
      exact .inl (List.eq_of_mem_replicate (List.mem_of_getElem? h))
  have dat : ∀ (i : Nat) (d : D), dAt (ds.map Sl.arg ++ List.replicate n .un) i = some d → ∃ t, ds[i]? = some d ∧ ts[i]? = some t := fun i d h => by
    unfold dAt at h
    obtain ⟨s, h1, h2⟩ := Option.bind_eq_some_iff.mp h
    rcases slot i s h1 with rfl | ⟨d', t, q1, q2, rfl⟩
    · cases h2
    · cases h2; exact ⟨t, q1, q2⟩
  have fin : ∀ (i : Nat) (a : Addr), a ∈ fps (ds.map Sl.arg ++ List.replicate n .un) (fun i => ts.getD i (.mk .non [])) i → ∃ d t, ds[i]? = some d ∧ ts[i]? = some t ∧ a ∈ fp d t := fun i a h => by
    unfold fps at h
    split at h
    · rename_i d e
      obtain ⟨t, q1, q2⟩ := dat i d e
      refine ⟨d, t, q1, q2, ?_⟩
      have h' : a ∈ fp d (ts.getD i (.mk .non [])) := h
      rw [List.getD_eq_getElem?_getD, q2] at h'
      exact h'
    · cases h
  have getT : ∀ {i : Nat} {t : VT}, ts[i]? = some t → ts.getD i (.mk .non []) = t := fun {i t} h => by rw [List.getD_eq_getElem?_getD, h]; rfl
  refine ⟨⟨?_, fun i d e => ?_, fun i d e => ?_, fun i => ?_, fun i j a h1 h2 => ?_, fun i a h => ?_, zs⟩, fun a => ⟨fun ⟨i, h⟩ => ?_, fun h => ?_⟩⟩
  · unfold L2.start
    rw [List.length_append, List.length_append, List.length_map, List.length_map, List.length_map, List.length_replicate, List.length_replicate, hn, lts]
  · obtain ⟨t, q1, q2⟩ := dat i d e
    obtain ⟨t', q3, q4⟩ := ol.get q1
    rw [q2] at q3; cases q3
    show _ = some (some (ts.getD i (.mk .non [])).v) ∧ Own P w K Z H d (ts.getD i (.mk .non []))
    rw [getT q2]
    exact ⟨start_get (by rw [List.getElem?_map, q2]; rfl), q4⟩
  · rcases slot i _ e with h | ⟨d', t, q1, q2, h⟩
    · cases h
    · cases h
      refine ⟨d, ?_, fun _ => rfl⟩
      show _ = some ((ts.getD i (.mk .non [])).v, d)
      rw [getT q2]
      exact List.getElem?_zip_eq_some (z := (t.v, d)) |>.mpr ⟨by rw [List.getElem?_map, q2]; rfl, q1⟩
  · unfold fps
    split
    · rename_i d e
      obtain ⟨t, q1, q2⟩ := dat i d e
      show (fp d (ts.getD i (.mk .non []))).Nodup
      rw [getT q2]
      obtain ⟨pre, post, q, _⟩ := fpL_split q1 q2
      rw [q] at nd
      exact (List.nodup_append.mp (List.nodup_append.mp nd).1).2.1
    · exact List.nodup_nil
  · obtain ⟨d, t, q1, q2, q3⟩ := fin i a h1
    obtain ⟨e, u, r1, r2, r3⟩ := fin j a h2
    exact fpL_dis nd q1 q2 r1 r2 q3 r3
  · obtain ⟨d, t, q1, q2, q3⟩ := fin i a h
    exact nz a (fpL_at q1 q2 a q3)
  · obtain ⟨d, t, q1, q2, q3⟩ := fin i a h
    exact fpL_at q1 q2 a q3
  · have find : ∀ {ds : List D} {ts : List VT}, a ∈ fpL ds ts → ∃ (i : Nat) (d : D) (t : VT), ds[i]? = some d ∧ ts[i]? = some t ∧ a ∈ fp d t := by
      intro ds
      induction ds with
      | nil => intro ts h; rw [fpL] at h; cases h
      | cons d ds ih =>
        intro ts h
        cases ts with
        | nil => rw [fpL] at h; cases h
        | cons t ts =>
          rw [fpL] at h
          rcases List.mem_append.mp h with h | h
          · exact ⟨0, d, t, rfl, rfl, h⟩
          · obtain ⟨i, d', t', q⟩ := ih h
            exact ⟨i + 1, d', t', by simpa using q⟩
    obtain ⟨i, d, t, q1, q2, q3⟩ := find h
    refine ⟨i, ?_⟩
    have e : dAt (ds.map Sl.arg ++ List.replicate n .un) i = some d := by
      unfold dAt
      rw [List.getElem?_append_left (by rw [List.length_map]; exact (List.getElem?_eq_some_iff.mp q1).1), List.getElem?_map, q1]; rfl
    unfold fps
    rw [e]
    show a ∈ fp d (ts.getD i (.mk .non []))
    rw [getT q2]
    exact q3
theorem fn_sim {mg : Str → Option Value} {base : Heap} {x qual : Str} {st : Stmt} {f : Addr} {fd : FuncData} {N ps : List Str} {k : Nat} {body : MS} (F : Fun K x qual st f fd) (S : FnScope N ps (defScope st))
    (hb : ∀ (cdv : Value) (A : Around) (outer : List Env) (s : Shared) (H : Hp) (E : XK), Room k (A.deeper (envOfC qual (defScope st) s.heap.objs.size f cdv)) →
      SSs (cxOf CX0 P w K mg base N qual (defScope st) f cdv A outer s H E).nox (defBody st) body) : FnOk P w K mg base CX0 (k + 1) f fd ps (spOf P w K (runDef ps.length N.length body)) := by
  have lenOf : ∀ {ds : List D} {r : D × List D}, runDef ps.length N.length body ds = some r → ds.length = ps.length := fun {ds r} e => by
    unfold runDef at e
    split at e
    · assumption
    · cases e
  refine F.ok S (fun vs H Q E h => ?_) (fun cdv A outer s H vs Q E hr h => ?_)
  · obtain ⟨Z, ds, ts, rfl, ol, _, _, _, r, ds', e, _⟩ := h
    rw [List.length_map, ← ol.length, lenOf e]
  · obtain ⟨Z, ds, ts, rfl, ol, nd, nz, zs, r, ds', e, dn⟩ := h
    refine ⟨_, hb cdv A outer s H E hr, ?_⟩
    have hl := lenOf e
    unfold runDef at e
    rw [if_pos hl] at e
    obtain ⟨⟨fl, envF⟩, e1, e⟩ := Option.bind_eq_some_iff.mp e
    obtain ⟨R0, a0⟩ := Rel.start (N := N) (n := N.length - ps.length) ol nd nz zs (by rw [hl])
    have eqfp : ∀ a, AllFp (ds.map Sl.arg ++ List.replicate (N.length - ps.length) .un) (fun i => ts.getD i (.mk .non [])) a → a ∈ fpL ds ts := fun a h => (a0 a).mp h
    have fin : ∀ {σ' : L2.St} {H' : Hp} {Z' : Addr → Prop} {T' : Nat → VT} {t : VT} {envA : En}, Rel P w K ((ts.map VT.v).zip ds) Z' envA T' σ' H' → RRel P w K Z' envA T' H' (.v r) t → (fp r t).Nodup →
        Since Z H (AllFp (ds.map Sl.arg ++ List.replicate (N.length - ps.length) .un) (fun i => ts.getD i (.mk .non []))) Z' H' (fun a => AllFp envA T' a ∨ a ∈ fp r t) → outs ds envA = some ds' → Q t.v H' := fun {σ' H' Z' T' t envA} R2 rr ndr sn eo => by
      obtain ⟨ts', b1, b2, b3, b4⟩ := outs_ok R2 (ts := ts) (k := 0) (fun i => by rw [Nat.zero_add]) ol.length.symm (fun i t d h1 h2 => by
          rw [Nat.zero_add]
          exact List.getElem?_zip_eq_some.mpr ⟨by rw [List.getElem?_map, h1]; rfl, h2⟩) (fun i d t h1 h2 hp => by
          obtain ⟨t', q1, q2⟩ := ol.get h1
          rw [h2] at q1; cases q1
          exact q2.frame sn.kp (fun a z q => nz a (eqfp a q) z) sn.zm (by rw [fp_pure hp]; intro _ z; cases z)) eo
      have dis : ∀ a ∈ fp r t, a ∉ fpL ds' ts' := fun a ha hb => by
        obtain ⟨i, _, hi⟩ := b3 a hb
        exact (rr.2 a ha).2 ⟨i, hi⟩
      refine dn H' Z' t ts' b1 rr.1 b2 (List.nodup_append.mpr ⟨ndr, b4, fun a ha b hb q => dis a ha (q ▸ hb)⟩) (fun a ha => ?_) R2.zs ⟨sn.kp.mono eqfp, fun a ha => ?_, fun a ha => (sn.z a ha).imp id (Or.imp (eqfp a) id), sn.zm⟩
      · rcases List.mem_append.mp ha with ha | ha
        · exact (rr.2 a ha).1
        · obtain ⟨i, _, hi⟩ := b3 a ha
          exact R2.dz i a hi
      · rcases List.mem_append.mp ha with ha | ha
        · exact (sn.own a (.inr ha)).imp (eqfp a) id
        · obtain ⟨i, _, hi⟩ := b3 a ha
          exact (sn.own a (.inl ⟨i, hi⟩)).imp (eqfp a) id
    refine ⟨_, Z, _, _, R0, fl, envF, e1, ?_⟩
    cases fl with
    | rt d =>
      obtain ⟨o, eo, e⟩ := Option.map_eq_some_iff.mp e
      cases e
      exact fun σ' H' Z' T' t R2 rr nd' sn => fin R2 rr nd' sn eo
    | nx =>
      obtain ⟨o, eo, e⟩ := Option.map_eq_some_iff.mp e
      cases e
      intro σ' H' Z' T' R2 sn _
      have ex : ∀ a, AllFp (argsOnly envF) T' a → AllFp envF T' a := fun a ⟨j, h⟩ => ⟨j, fps_argsOnly h⟩
      refine fin (t := .mk .non []) R2.args ⟨own_non, by rw [fp_non]; intro _ z; cases z⟩ (by rw [fp_non]; exact List.nodup_nil) (sn.weak fun a h => ?_) eo
      rw [fp_non] at h
      exact h.elim (ex a) fun z => nomatch z
    | bk => cases e
    | ct => cases e
end
structure Df (P : Program) (w : World) (K : PySem.W.Frag) (mg : Str → Option Value) (base : Heap) (k : Nat) (x : Str) (m : Fn) : Prop where
  ex : ∃ f fd ps, FnOk P w K mg base CX0 k f fd ps (spOf P w K m) ∧ mg x = some (.ref f) ∧ PySem.W.keepIn K (.ref f) = true ∧ Binds K fd ps []
section
variable {X : Cx} {pos p : Pos} {x : Str} {e : Expr} {es : List Expr} {as : MA} {m : Fn} {k : Nat}
def mCall (m : Fn) (ms : List Nat) (as : MA) : ME := mOp as (kCall m ms) ms
theorem se_call (ms : List Nat) (Gd : Df X.prog X.w X.K X.mg X.base k x m) (hr : Room k X.A) (h : SA X (e :: es) as) (hg : Gl X x := by rfl) (hdb : (x == ("__debug__" : Str)) = false := by decide)
    (he : starEach (e :: es) X.env = (false, eval e X.env) :: starEach es X.env := by rfl) (hpl : (backTo pos (starEach es X.env)).any (·.1) = false := by rfl) : SE X (.Call (.Name x p) (e :: es) [] pos) (mCall m ms as) := by
  obtain ⟨f, fd, ps, F, hm, hk, hb⟩ := Gd.ex
  refine (pe_call F hr hg hm hk hb .nil pass0 h hdb he hpl).weak fun σ H Q q => tSA_mono (tS_op q) fun vs H1 s => ?_
  rw [List.append_nil]
  exact st_call s
theorem se_call0 (ms : List Nat) (Gd : Df X.prog X.w X.K X.mg X.base k x m) (hr : Room k X.A) (hg : Gl X x := by rfl) (hdb : (x == ("__debug__" : Str)) = false := by decide) : SE X (.Call (.Name x p) [] [] pos) (mCall m ms maNil) := by
  obtain ⟨f, fd, ps, F, hm, hk, hb⟩ := Gd.ex
  exact (pe_call0 F hr hg hm hk hb .nil pass0 hdb).weak fun σ H Q q => st_call (E := E0) (tSA_nil (tS_op q))
end
end G
set_option Elab.async false
set_option linter.all false
set_option maxRecDepth 100000
namespace G
open PySem PySem.Spec PyProof.Rows L2
def whileGo (c : MT) (b : MS) : Nat → En → Option (Fl × En)
  | 0, _ => none
  | n + 1, env => (c.run env).bind fun x => if x.1 = true then (b.run x.2).bind fun y => match y.1 with
      | .nx => whileGo c b n y.2
      | .ct => whileGo c b n y.2
      | .bk => some (.nx, y.2)
      | .rt d => some (.rt d, y.2)
    else some (.nx, x.2)
def wfuel : Nat := 2 ^ 40
def mWhile (c : MT) (b : MS) : MS := ⟨c.ms ++ b.ms, fun env => whileGo c b wfuel env⟩
structure MG where
  ms : List Nat
  run : D → En → Option En
structure MGs where
  ms : List Nat
  run : List D → En → Option En
def gN (i : Nat) : MG := ⟨[i], fun d env => if i < env.length ∧ d.pure = true then some (env.set i (.val d)) else none⟩
def gsNil : MGs := ⟨[], fun ds env => match ds with
  | [] => some env
  | _ => none⟩
def gsCons (g : MG) (gs : MGs) : MGs := ⟨g.ms ++ gs.ms, fun ds env => match ds with
  | d :: r => (g.run d env).bind fun e => gs.run r e
  | [] => none⟩
def gT (gs : MGs) : MG := ⟨gs.ms, fun d env => match d with
  | .tup ds => gs.run ds env
  | _ => none⟩
structure MI where
  ms : List Nat
  run : En → Option (List D × List R × En)
def R.okS (r : R) (ms : List Nat) : Bool :=
  match r with
  | .v _ => true
  | .p j _ => !ms.contains j
def forGo (g : MG) (b : MS) : List D → En → Option (Fl × En)
  | [], env => some (.nx, env)
  | d :: ds, env => (g.run d env).bind fun e => (b.run e).bind fun y => match y.1 with
    | .nx => forGo g b ds y.2
    | .ct => forGo g b ds y.2
    | .bk => some (.nx, y.2)
    | .rt d => some (.rt d, y.2)
def mFor (it : MI) (g : MG) (b : MS) : MS := ⟨it.ms ++ (g.ms ++ b.ms), fun env => (it.run env).bind fun x => if (x.2.1.all fun r => r.okS (g.ms ++ b.ms)) = true then forGo g b x.1 x.2.2 else none⟩
section
variable (P : Program) (w : World) (K : PySem.W.Frag)
def tSG (m : MG) : TG := fun v σ H Q => ∃ av Z env T d t, Rel P w K av Z env T σ H ∧ t.v = v ∧ Own P w K Z H d t ∧ ∃ env', m.run d env = some env' ∧
  ∀ σ' T', Rel P w K av Z env' T' σ' H → (∀ a, AllFp env' T' a → AllFp env T a) → Kept m.ms env T env' T' → (σ'.length = σ.length ∧ ∀ j, j ∉ m.ms → σ'[j]? = σ[j]?) → Q σ' H
def tSGs (m : MGs) : TGs := fun vs σ H Q => ∃ av Z env T ds ts, Rel P w K av Z env T σ H ∧ ts.map VT.v = vs ∧ OwnL P w K Z H ds ts ∧ ∃ env', m.run ds env = some env' ∧
  ∀ σ' T', Rel P w K av Z env' T' σ' H → (∀ a, AllFp env' T' a → AllFp env T a) → Kept m.ms env T env' T' → (σ'.length = σ.length ∧ ∀ j, j ∉ m.ms → σ'[j]? = σ[j]?) → Q σ' H
def Walks (J : It) (ds : List D) (rs : List R) (cs : List D) (vs : List V) : Prop :=
  ∀ av Z env T σ H ts, Rel P w K av Z env T σ H → RRelL P w K Z env T H rs ts → ts.map VT.v = vs → gets rs env = some cs → ∀ i,
    (∀ d, ds[i]? = some d → J.go i H ∧ ∀ x H', J.yld i H x H' → ∃ t, t.v = x ∧ Own P w K Z H' d t ∧ Kp (fun _ => False) H H') ∧ (ds.length ≤ i → J.stop i H)
def tSI (m : MI) : TI := fun σ H R => ∃ av Z env T, Rel P w K av Z env T σ H ∧ ∃ ds rs env', m.run env = some (ds, rs, env') ∧
  ∀ H' Z' T' ts cs J, Rel P w K av Z' env' T' σ H' → RRelL P w K Z' env' T' H' rs ts → gets rs env' = some cs → Since Z H (AllFp env T) Z' H' (fun a => AllFp env' T' a ∨ a ∈ rfpL rs ts) → Kept m.ms env T env' T' → Walks P w K J ds rs cs (ts.map VT.v) → R J H'
end
def SG (X : Cx) (tg : Expr) (m : MG) : Prop := PG X tg (tSG X.prog X.w X.K m)
def SGs (X : Cx) (tgs : List Expr) (m : MGs) : Prop := PGs X tgs (tSGs X.prog X.w X.K m)
def SI (X : Cx) (tg it : Expr) (m : MI) : Prop := PI X tg it (tSI X.prog X.w X.K m)
theorem _root_.L2.PG.weak {X : Cx} {e : Expr} {t t' : TG} (h : PG X e t) (k : ∀ v σ H Q, t' v σ H Q → t v σ H Q) : PG X e t' := ⟨fun pins s σ H v u Q I r hw => h.run pins s σ H v u Q I r (k v σ H Q hw)⟩
theorem _root_.L2.PGs.weak {X : Cx} {e : List Expr} {t t' : TGs} (h : PGs X e t) (k : ∀ v σ H Q, t' v σ H Q → t v σ H Q) : PGs X e t' := ⟨fun pins s σ H v u Q I r hw => h.run pins s σ H v u Q I r (k v σ H Q hw)⟩
theorem _root_.L2.PI.weak {X : Cx} {tg e : Expr} {t t' : TI} (h : PI X tg e t) (k : ∀ σ H R, t' σ H R → t σ H R) : PI X tg e t' := ⟨fun pins s σ H R I hw => h.run pins s σ H R I (k σ H R hw)⟩
section
variable {P : Program} {w : World} {K : PySem.W.Frag} {Z Z' : Addr → Prop} {H H' : Hp} {env env' : En} {T T' : Nat → VT} {σ : L2.St} {av : List (V × D)}
theorem whileGo_ok {c : MT} {b : MS} {D : Ends} : ∀ m σ H, tSS P w K ⟨c.ms ++ b.ms, whileGo c b m⟩ D σ H →
    tST P w K c σ H fun b' H1 => if b' = true then ∃ N : L2.St → Hp → Prop, (∀ σ' H', N σ' H' → ∃ m', m' < m ∧ tSS P w K ⟨c.ms ++ b.ms, whileGo c b m'⟩ D σ' H') ∧ tSS P w K b { D with nx := N, ct := N, bk := D.nx } σ H1 else D.nx σ H1 := by
  rintro m σ H ⟨av, Z, env, T, R1, fl, env', e, f⟩
  cases m with
  | zero => cases e
  | succ m =>
    obtain ⟨⟨c1, e1⟩, q1, e⟩ := Option.bind_eq_some_iff.mp e
    refine ⟨av, Z, env, T, R1, c1, e1, q1, fun H1 Z1 T1 R2 sn kk => ?_⟩
    cases c1 with
    | false =>
      dsimp only at e
      rw [if_neg Bool.false_ne_true] at e ⊢
      cases e
      exact f σ H1 Z1 T1 R2 sn (kk.mono fun j h => List.mem_append_left _ h)
    | true =>
      dsimp only at e
      rw [if_pos rfl] at e ⊢
      obtain ⟨⟨fl2, e2⟩, q2, e⟩ := Option.bind_eq_some_iff.mp e
      refine ⟨tSS P w K ⟨c.ms ++ b.ms, whileGo c b m⟩ D, fun σ' H' h => ⟨m, Nat.lt_succ_self m, h⟩, av, Z1, e1, T1, R2, fl2, e2, q2, ?_⟩
      have go : ∀ {σ' : L2.St} {H' : Hp} {Z' : Addr → Prop} {T' : Nat → VT}, whileGo c b m e2 = some (fl, env') → Rel P w K av Z' e2 T' σ' H' → Since Z1 H1 (AllFp e1 T1) Z' H' (AllFp e2 T') → Kept b.ms e1 T1 e2 T' → tSS P w K ⟨c.ms ++ b.ms, whileGo c b m⟩ D σ' H' :=
        fun {σ' H' Z' T'} q R3 sn3 kk3 => ⟨av, Z', e2, T', R3, fl, env', q, f.since (sn.trans sn3) (kk.trans kk3) fun j h => h.elim id id⟩
      cases fl2 with
      | nx => exact fun σ' H' Z' T' R3 sn3 kk3 => go e R3 sn3 kk3
      | ct => exact fun σ' H' Z' T' R3 sn3 kk3 => go e R3 sn3 kk3
      | bk =>
        cases e
        exact fun σ' H' Z' T' R3 sn3 kk3 => f σ' H' Z' T' R3 (sn.trans sn3) (kk.trans kk3)
      | rt d =>
        cases e
        exact fun σ' H' Z' T' t R3 rr nd sn3 => f σ' H' Z' T' t R3 rr nd (sn.trans sn3)
theorem tWhile_of {c : MT} {b : MS} : ∀ D σ H, tSS P w K (mWhile c b) D σ H → tWhile (tST P w K c) (tSS P w K b) D σ H :=
  fun D σ H h => ⟨fun m σ H => tSS P w K ⟨c.ms ++ b.ms, whileGo c b m⟩ D σ H, ⟨wfuel, h⟩, fun m σ H h => whileGo_ok m σ H h⟩
theorem tGN_of {i : Nat} : ∀ v σ H Q, tSG P w K (gN i) v σ H Q → gName i v σ H Q := by
  rintro v σ H Q ⟨av, Z, env, T, d, t, R1, rfl, o, env', e, f⟩
  unfold gN at e
  dsimp only at e
  split at e
  · rename_i hi
    cases e
    obtain ⟨R3, hf, k3⟩ := R1.set o (by rw [fp_pure hi.2]; exact List.nodup_nil) (by rw [fp_pure hi.2]; intro _ z; cases z) hi.1
    refine f _ _ R3 (fun a h => ?_) k3 ⟨List.length_set, fun j hj => List.getElem?_set_ne fun z : i = j => hj (by rw [← z]; exact List.mem_cons_self)⟩
    rw [fp_pure hi.2] at hf
    exact (hf a h).elim id fun z => nomatch z
  · cases e
theorem tGNil_of : ∀ vs σ H Q, tSGs P w K gsNil vs σ H Q → gNil vs σ H Q := by
  rintro vs σ H Q ⟨av, Z, env, T, ds, ts, R1, rfl, o, env', e, f⟩
  cases ds with
  | nil =>
    cases e
    rw [o.zero]
    exact ⟨rfl, f σ T R1 (fun _ h => h) .refl ⟨rfl, fun _ _ => rfl⟩⟩
  | cons _ _ => cases e
theorem tGCons_of {g : MG} {gs : MGs} : ∀ vs σ H Q, tSGs P w K (gsCons g gs) vs σ H Q → gCons (tSG P w K g) (tSGs P w K gs) vs σ H Q := by
  rintro vs σ H Q ⟨av, Z, env, T, ds, ts, R1, rfl, o, env', e, f⟩
  cases ds with
  | nil => cases e
  | cons d ds =>
    cases ts with
    | nil => rw [OwnL] at o; exact o.elim
    | cons t ts =>
      rw [OwnL] at o
      obtain ⟨e1, q1, e⟩ := Option.bind_eq_some_iff.mp e
      refine ⟨t.v, ts.map VT.v, rfl, av, Z, env, T, d, t, R1, rfl, o.1, e1, q1, fun σ1 T1 R2 h2 k2 s2 => ?_⟩
      exact ⟨av, Z, e1, T1, ds, ts, R2, rfl, o.2, env', e, fun σ' T' R3 h3 k3 s3 => f σ' T' R3 (fun a h => h2 a (h3 a h)) (k2.trans k3) ⟨s3.1.trans s2.1, fun j hj => (s3.2 j fun z => hj (List.mem_append_right _ z)).trans (s2.2 j fun z => hj (List.mem_append_left _ z))⟩⟩
theorem tGT_of {gs : MGs} {n : Nat} (hn : ∀ ds env env', gs.run ds env = some env' → ds.length = n) : ∀ v σ H Q, tSG P w K (gT gs) v σ H Q → gTup K n (tSGs P w K gs) v σ H Q := by
  rintro v σ H Q ⟨av, Z, env, T, d, t, R1, rfl, o, env', e, f⟩
  cases d with
  | tup ds =>
    obtain ⟨a, ea, q, ol⟩ := o.tup
    exact ⟨a, _, ea, q, by rw [List.length_map, ← ol.length]; exact hn _ _ _ e, av, Z, env, T, ds, t.ks, R1, rfl, ol, env', e, f⟩
  | _ => cases e
theorem RRelL.carryS {rs : List R} {ts : List VT} {ms : List Nat} {S' : Addr → Prop} {σ' : L2.St} (rr : RRelL P w K Z env T H rs ts) (R1 : Rel P w K av Z env T σ H) (R2 : Rel P w K av Z' env' T' σ' H') (sn : Since Z H (AllFp env T) Z' H' S')
    (hS : ∀ a, AllFp env' T' a → S' a) (sm : ∀ j, j ∉ ms → T' j = T j ∧ env'[j]? = env[j]?) (ok : (rs.all fun r => r.okS ms) = true) : RRelL P w K Z' env' T' H' rs ts := by
  induction rs generalizing ts with
  | nil =>
    cases ts with
    | nil => trivial
    | cons _ _ => exact rr.elim
  | cons r rs ih =>
    cases ts with
    | nil => exact rr.elim
    | cons t ts =>
      rw [List.all_cons, Bool.and_eq_true] at ok
      refine ⟨?_, ih rr.2 ok.2⟩
      have hr := rr.1
      cases r with
      | v d =>
        refine ⟨hr.1.frame sn.kp (fun a z q => ?_) sn.zm fun a ha q => (hr.2 a ha).2 q, fun a ha => ⟨fun z => ?_, fun z => ?_⟩⟩
        · obtain ⟨i, hi⟩ := q
          exact R1.dz i a hi z
        · obtain ⟨o, ho, _⟩ := hr.1.stands a ha
          rcases sn.z a z with q | q | q
          · exact (hr.2 a ha).1 q
          · exact (hr.2 a ha).2 q
          · rw [ho] at q; cases q
        · obtain ⟨o, ho, _⟩ := hr.1.stands a ha
          rcases sn.own a (hS a z) with q | q
          · exact (hr.2 a ha).2 q
          · rw [ho] at q; cases q
      | p j π =>
        obtain ⟨d, c, e1, e2, e3⟩ := hr
        have hj : j ∉ ms := by
          have ok' : (!ms.contains j) = true := ok.1
          simpa using ok'
        obtain ⟨q1, q2⟩ := sm j hj
        exact ⟨d, c, by rw [← e1]; unfold dAt; rw [q2], e2, by rw [q1]; exact e3⟩
theorem gets_same {rs : List R} {ts : List VT} {ms : List Nat} {cs : List D} (rr : RRelL P w K Z env T H rs ts) (sm : ∀ j, j ∉ ms → T' j = T j ∧ env'[j]? = env[j]?) (ok : (rs.all fun r => r.okS ms) = true) (e : gets rs env = some cs) : gets rs env' = some cs := by
  induction rs generalizing ts cs with
  | nil => exact e
  | cons r rs ih =>
    cases ts with
    | nil => exact rr.elim
    | cons t ts =>
      rw [List.all_cons, Bool.and_eq_true] at ok
      obtain ⟨d, e1, e⟩ := Option.bind_eq_some_iff.mp e
      obtain ⟨cs', e2, e⟩ := Option.bind_eq_some_iff.mp e
      cases e
      have h1 : r.get env' = some d := by
        cases r with
        | v d' => exact e1
        | p j π =>
          have hj : j ∉ ms := by
            have ok' : (!ms.contains j) = true := ok.1
            simpa using ok'
          have q : dAt env' j = dAt env j := by unfold dAt; rw [(sm j hj).2]
          rw [← e1]
          show (dAt env' j).bind _ = (dAt env j).bind _
          rw [q]
      show (r.get env').bind _ = _
      rw [h1, Option.bind_some, ih rr.2 ok.2 e2]; rfl
theorem okS_mono {rs : List R} {ms ms' : List Nat} (h : (rs.all fun r => r.okS ms) = true) (hm : ∀ j ∈ ms', j ∈ ms) : (rs.all fun r => r.okS ms') = true := by
  rw [List.all_eq_true] at h ⊢
  intro r hr
  have := h r hr
  cases r with
  | v _ => rfl
  | p j π =>
    have t : (!ms.contains j) = true := this
    show (!ms'.contains j) = true
    simp only [Bool.not_eq_true', List.contains_eq_mem, decide_eq_false_iff_not] at t ⊢
    exact fun z => t (hm j z)
theorem tFor_of {it : MI} {g : MG} {b : MS} : ∀ D σ H, tSS P w K (mFor it g b) D σ H → tFor (tSI P w K it) (tSG P w K g) (tSS P w K b) D σ H := by
  rintro D σ H ⟨av, Z, env, T, R1, fl, env', e, f⟩
  obtain ⟨⟨ds, rs, e1⟩, q1, e⟩ := Option.bind_eq_some_iff.mp e
  by_cases hok : (rs.all fun r => r.okS (g.ms ++ b.ms)) = true
  · dsimp only at e
    rw [if_pos hok] at e
    refine ⟨av, Z, env, T, R1, ds, rs, e1, q1, fun H1 Z1 T1 ts cs J R2 rr eg sn kk wk => ?_⟩
    have f1 : DoneS P w K av Z1 e1 T1 H1 (g.ms ++ b.ms) fl env' D := f.since (sn.weak fun a h => .inl h) kk fun j h => List.mem_append.mpr h
    refine ⟨fun i m σ H => m = ds.length - i ∧ i ≤ ds.length ∧ ∃ Z env T ts', Rel P w K av Z env T σ H ∧ RRelL P w K Z env T H rs ts' ∧ ts'.map VT.v = ts.map VT.v ∧ gets rs env = some cs ∧ forGo g b (ds.drop i) env = some (fl, env') ∧ DoneS P w K av Z env T H (g.ms ++ b.ms) fl env' D,
      ⟨ds.length, by omega, Nat.zero_le _, Z1, e1, T1, ts, R2, rr, rfl, eg, e, f1⟩, ?_⟩
    rintro i m σ2 H2 ⟨rfl, hi, Z2, e2, T2, ts2, R3, rr2, hv, eg2, ef, f2⟩
    obtain ⟨w1, w2⟩ := wk av Z2 e2 T2 σ2 H2 ts2 R3 rr2 hv eg2 i
    by_cases hlt : i < ds.length
    · obtain ⟨go, yld⟩ := w1 ds[i] (List.getElem?_eq_getElem hlt)
      refine .inr ⟨go, ?_⟩
      rw [List.drop_eq_getElem_cons hlt] at ef
      obtain ⟨e3, q3, ef⟩ := Option.bind_eq_some_iff.mp ef
      obtain ⟨⟨fl4, e4⟩, q4, ef⟩ := Option.bind_eq_some_iff.mp ef
      refine ⟨fun σ' H' => i + 1 ≤ ds.length ∧ ∃ Z env T ts', Rel P w K av Z env T σ' H' ∧ RRelL P w K Z env T H' rs ts' ∧ ts'.map VT.v = ts.map VT.v ∧ gets rs env = some cs ∧ forGo g b (ds.drop (i + 1)) env = some (fl, env') ∧ DoneS P w K av Z env T H' (g.ms ++ b.ms) fl env' D,
        fun σ' H' h => ⟨ds.length - (i + 1), by omega, rfl, h⟩, fun x H3 hy => ?_⟩
      obtain ⟨t, rfl, ot, k3⟩ := yld x H3 hy
      have R4 : Rel P w K av Z2 e2 T2 σ2 H3 := R3.kp k3 fun _ z => z.elim
      refine ⟨av, Z2, e2, T2, ds[i], t, R4, rfl, ot, e3, q3, fun σ5 T5 R5 h5 k5 _ => ?_⟩
      have s23 : Since Z2 H2 (AllFp e2 T2) Z2 H3 (AllFp e2 T2) := ⟨k3.mono fun _ z => z.elim, fun _ h => .inl h, fun _ h => .inl h, fun _ h => h⟩
      have s35 : Since Z2 H3 (AllFp e2 T2) Z2 H3 (AllFp e3 T5) := ⟨.refl, fun a h => .inl (h5 a h), fun _ h => .inl h, fun _ h => h⟩
      have s25 := s23.trans s35
      refine ⟨av, Z2, e3, T5, R5, fl4, e4, q4, ?_⟩
      have next : ∀ {σ6 : L2.St} {H6 : Hp} {Z6 : Addr → Prop} {T6 : Nat → VT}, forGo g b (ds.drop (i + 1)) e4 = some (fl, env') → Rel P w K av Z6 e4 T6 σ6 H6 → Since Z2 H3 (AllFp e3 T5) Z6 H6 (AllFp e4 T6) → Kept b.ms e3 T5 e4 T6 →
          i + 1 ≤ ds.length ∧ ∃ Z env T ts', Rel P w K av Z env T σ6 H6 ∧ RRelL P w K Z env T H6 rs ts' ∧ ts'.map VT.v = ts.map VT.v ∧ gets rs env = some cs ∧ forGo g b (ds.drop (i + 1)) env = some (fl, env') ∧ DoneS P w K av Z env T H6 (g.ms ++ b.ms) fl env' D := fun {σ6 H6 Z6 T6} q R6 s56 k56 => by
        have s26 := s25.trans s56
        have k26 := k5.trans k56
        exact ⟨hlt, Z6, e4, T6, ts2, R6, rr2.carryS R3 R6 s26 (fun _ h => h) k26.same hok, hv, gets_same rr2 k26.same hok eg2, q, f2.since s26 k26 fun j h => h.elim id id⟩
      cases fl4 with
      | nx => exact fun σ6 H6 Z6 T6 R6 s56 k56 => next ef R6 s56 k56
      | ct => exact fun σ6 H6 Z6 T6 R6 s56 k56 => next ef R6 s56 k56
      | bk =>
        cases ef
        exact fun σ6 H6 Z6 T6 R6 s56 k56 => f2 σ6 H6 Z6 T6 R6 (s25.trans s56) (k5.trans k56)
      | rt d =>
        cases ef
        exact fun σ6 H6 Z6 T6 t R6 rr6 nd s56 => f2 σ6 H6 Z6 T6 t R6 rr6 nd (s25.trans s56)
    · have hi' : i = ds.length := by omega
      subst hi'
      refine .inl ⟨w2 (Nat.le_refl _), ?_⟩
      rw [List.drop_length] at ef
      cases ef
      exact f2 σ2 H2 Z2 T2 R3 .refl (Kept.refl.mono fun _ z => nomatch z)
  · dsimp only at e
    rw [if_neg hok] at e; cases e
end
section
variable {X : Cx} {pos : Pos} {a tg it : Expr} {x : Str} {c : MT} {m : MS} {g : MG} {gs : MGs} {i : MI} {body : List Stmt} {es : List Expr}
theorem ss_while (hp : PassesOwn (model X.prog X.w) X.A X.env X.xe) (hc : ST X a c) (hb : SSs X body m) : SS X (.While a body [] pos) (mWhile c m) := (ps_while hp hc hb).weak tWhile_of
theorem sg_name (i : Nat) (hN : X.N.Nodup) (hi : X.N[i]? = some x := by rfl) (hx : Loc X.env.scope x := by first | exact Or.inl rfl | exact Or.inr rfl) (hf : X.fn x = true ∨ X.env.scope.names.lookup x = some .local := by first | exact .inl rfl | exact .inr rfl) :
    SG X (.Name x pos) (gN i) := (pg_name hN hi hx hf).weak tGN_of
theorem sgs_nil : SGs X [] gsNil := pgs_nil.weak tGNil_of
theorem sgs_cons (h1 : SG X a g) (h2 : SGs X es gs) (hs : (assignEach (a :: es) X.env).map (·.2) = assign a X.env :: (assignEach es X.env).map (·.2) := by rfl) : SGs X (a :: es) (gsCons g gs) := (pgs_cons h1 h2 hs).weak tGCons_of
theorem sg_tup {k n : Nat} (hc : X.calm = true) (h : SGs X es gs) (hl : ∀ ds env env', gs.run ds env = some env' → ds.length = n) (hn : (assignEach es X.env).length = n := by rfl) (hst : (assignEach es X.env).findIdx? (·.1) = none := by rfl) :
    SG X (.Tuple es k pos) (gT gs) := (pg_tup hc h hn hst).weak (tGT_of hl)
theorem ss_for (hp : PassesOwn (model X.prog X.w) X.A X.env X.xe) (hc : X.calm = true) (hi : SI X tg it i) (hg : SG X tg g) (hb : SSs X body m) (hs : ∀ x, foldedSetIterable it X.env x = pure x := by intro _; rfl) : SS X (.For tg it body [] pos) (mFor i g m) :=
  (ps_for hp hc hi hg hb hs).weak tFor_of
end
theorem gs_len0 : ∀ ds env env', gsNil.run ds env = some env' → ds.length = 0 := fun ds env env' h => by
  cases ds with
  | nil => rfl
  | cons _ _ => cases h
theorem gs_lenS {g : MG} {gs : MGs} {n : Nat} (h : ∀ ds env env', gs.run ds env = some env' → ds.length = n) : ∀ ds env env', (gsCons g gs).run ds env = some env' → ds.length = n + 1 := fun ds env env' e => by
  cases ds with
  | nil => cases e
  | cons d ds =>
    obtain ⟨e1, _, e⟩ := Option.bind_eq_some_iff.mp e
    rw [List.length_cons, h _ _ _ e]
end G
set_option Elab.async false
set_option linter.all false
set_option maxRecDepth 100000
namespace G
open PySem PySem.Spec PyProof.Rows L2
def iSq (K : PySem.W.Frag) (tl : TE) : TI := fun σ H R => tl σ H fun x H1 => ∃ a, x = .ref a ∧ (((∃ xs, SqL K H1 a xs) ∧ R (Itl K a) H1) ∨ ((∃ xs, SqT K H1 a xs) ∧ R (Itt K a) H1))
theorem pi_seq {X : Cx} {tg l : Expr} {tl : TE} (hl : PE X l tl) : PI X tg l (iSq X.K tl) := by
  refine ⟨fun pins s σ H R I h => ?_⟩
  refine thn (hl.run pins s σ H _ I h) fun v s1 ⟨x, H1, I1, r1, q1⟩ => ?_
  obtain ⟨a, e, q⟩ := q1
  subst e
  cases r1
  have fresh : ∀ b ∈ [s1.heap.objs.size], FpOk X pins H1 b := fun b hb => by
    have e : b = s1.heap.objs.size := by simpa using hb
    subst e
    exact I1.fpOk (Nat.le_refl _) (I1.hok.fresh (Nat.le_refl _))
  rcases q with ⟨⟨xs, hq⟩, q⟩ | ⟨⟨xs, hq⟩, q⟩
  · obtain ⟨its, rv, p, hz⟩ := I1.list hq
    refine wpAny_pyIter_list p.isList ?_
    exact ⟨s1.heap.objs.size, [s1.heap.objs.size], _, _, H1, rfl, I1.kept (t' := s1.toks) fun b o e => Heap.get?_push_of_some _ e, turn_list a _, ⟨_, Heap.get?_push_size _ rfl, rfl, rfl⟩, fresh, q⟩
  · obtain ⟨its, rv, p, hz⟩ := I1.tuple hq
    refine wpAny_pyIter_tuple (show s1.heap.IsTuple a its.toArray from p) ?_
    exact ⟨s1.heap.objs.size, [s1.heap.objs.size], _, _, H1, rfl, I1.kept (t' := s1.toks) fun b o e => Heap.get?_push_of_some _ e, turn_tuple a _, ⟨_, Heap.get?_push_size _ rfl, rfl, rfl⟩, fresh, q⟩
def iSeq (m : ME) : MI := ⟨m.ms, fun env => (m.run env).bind fun x => (x.1.get x.2).bind fun d => d.items.map fun ds => (ds, [x.1], x.2)⟩
def dRange (lo hi : Int) : List D := (List.range (hi - lo).toNat).map fun k : Nat => .int (lo + k)
def iRng (as : MA) : MI := ⟨as.ms, fun env => (as.run env).bind fun x => (gets x.1 x.2).bind fun ds => match ds with
  | [.int j] => if -(2 ^ 62) ≤ j ∧ j < 2 ^ 62 then some (dRange 0 j, [], x.2) else none
  | [.int i, .int j] => if -(2 ^ 62) ≤ i ∧ i < 2 ^ 62 ∧ -(2 ^ 62) ≤ j ∧ j < 2 ^ 62 then some (dRange i j, [], x.2) else none
  | _ => none⟩
section
variable {P : Program} {w : World} {K : PySem.W.Frag} {Z Z' : Addr → Prop} {H H' : Hp} {env env' : En} {T T' : Nat → VT} {σ : L2.St} {av : List (V × D)}
theorem Own.uniL {a : Addr} {ds : List D} {m : Bool} {t : VT} (o : Own P w K Z H (.lst m ds) t) (e : t.v = .ref a) : SqL K H a (t.ks.map VT.v) ∧ OwnL P w K Z H ds t.ks := by
  obtain ⟨b, eb, q, ol⟩ := o.lst
  rw [e] at eb; cases eb
  exact ⟨q, ol⟩
theorem Own.uniT {a : Addr} {ds : List D} {t : VT} (o : Own P w K Z H (.tup ds) t) (e : t.v = .ref a) : SqT K H a (t.ks.map VT.v) ∧ OwnL P w K Z H ds t.ks := by
  obtain ⟨b, eb, q, ol⟩ := o.tup
  rw [e] at eb; cases eb
  exact ⟨q, ol⟩
theorem rrl_one {r : R} {t : VT} {ts : List VT} (rr : RRelL P w K Z env T H [r] ts) (e : ts.map VT.v = [t.v]) : ∃ u, ts = [u] ∧ u.v = t.v ∧ RRel P w K Z env T H r u := by
  match ts, rr, e with
  | [u], rr, e =>
    simp only [List.map_cons, List.map_nil, List.cons.injEq, and_true] at e
    exact ⟨u, rfl, e, rr.1⟩
theorem gets_one {r : R} {d : D} (e : gets [r] env = some [d]) : r.get env = some d := by
  obtain ⟨d', e1, e⟩ := Option.bind_eq_some_iff.mp e
  cases e
  exact e1
theorem tSI_seq {m : ME} : ∀ σ H R, tSI P w K (iSeq m) σ H R → iSq K (tS P w K m) σ H R := by
  rintro σ H R ⟨av, Z, env, T, R1, ds, rs, env', e, f⟩
  obtain ⟨⟨r, e1⟩, q1, e⟩ := Option.bind_eq_some_iff.mp e
  obtain ⟨d, q2, e⟩ := Option.bind_eq_some_iff.mp e
  obtain ⟨ds', q3, e⟩ := Option.map_eq_some_iff.mp e
  cases e
  refine ⟨av, Z, env, T, R1, r, e1, q1, fun H' Z' T' t R2 rr nd sn kk => ?_⟩
  have eg : gets [r] e1 = some [d] := by
    show (r.get e1).bind _ = _
    rw [q2]; rfl
  have sn' : Since Z H (AllFp env T) Z' H' (fun a => AllFp e1 T' a ∨ a ∈ rfpL [r] [t]) := sn.weak fun a h => h.imp id fun h => by rw [rfpL, rfpL, List.append_nil] at h; exact h
  have o := R2.at rr q2
  have item : ∀ {Z'' : Addr → Prop} {H'' : Hp} {ks : List VT} {i : Nat} {c : D}, OwnL P w K Z'' H'' ds ks → ds[i]? = some c → ∃ tc, ks[i]? = some tc ∧ Own P w K Z'' H'' c tc := fun o e => o.get e
  cases d with
  | lst m0 ds0 =>
    cases q3
    obtain ⟨a, ea, q, ol⟩ := o.lst
    refine ⟨a, ea, .inl ⟨⟨_, q⟩, f H' Z' T' [t] [.lst m0 ds] _ R2 ⟨rr, trivial⟩ eg sn' kk ?_⟩⟩
    intro av2 Z2 env2 T2 σ2 H2 ts R3 rr2 hv eg2 i
    obtain ⟨u, rfl, hu, rr3⟩ := rrl_one rr2 hv
    obtain ⟨q2', ol2⟩ := (R3.at rr3 (gets_one eg2)).uniL (hu.trans ea)
    refine ⟨fun c hc => ?_, fun hl => ⟨_, q2', by rw [List.length_map, ← ol2.length]; exact hl⟩⟩
    obtain ⟨tc, f1, oc⟩ := ol2.get hc
    refine ⟨⟨_, tc.v, q2', by rw [List.getElem?_map, f1]; rfl⟩, fun x H3 hy => ?_⟩
    obtain ⟨rfl, hy⟩ := hy
    have := hy _ q2'
    rw [List.getElem?_map, f1] at this
    exact ⟨tc, Option.some.inj this, oc, .refl⟩
  | tup ds0 =>
    cases q3
    obtain ⟨a, ea, q, ol⟩ := o.tup
    refine ⟨a, ea, .inr ⟨⟨_, q⟩, f H' Z' T' [t] [.tup ds] _ R2 ⟨rr, trivial⟩ eg sn' kk ?_⟩⟩
    intro av2 Z2 env2 T2 σ2 H2 ts R3 rr2 hv eg2 i
    obtain ⟨u, rfl, hu, rr3⟩ := rrl_one rr2 hv
    obtain ⟨q2', ol2⟩ := (R3.at rr3 (gets_one eg2)).uniT (hu.trans ea)
    refine ⟨fun c hc => ?_, fun hl => ⟨_, q2', by rw [List.length_map, ← ol2.length]; exact hl⟩⟩
    obtain ⟨tc, f1, oc⟩ := ol2.get hc
    refine ⟨⟨_, tc.v, q2', by rw [List.getElem?_map, f1]; rfl⟩, fun x H3 hy => ?_⟩
    obtain ⟨rfl, hy⟩ := hy
    have := hy _ q2'
    rw [List.getElem?_map, f1] at this
    exact ⟨tc, Option.some.inj this, oc, .refl⟩
  | _ => cases q3
theorem walks_rng {lo : Int} {n : Nat} : Walks P w K (Itr lo n) ((List.range n).map fun k : Nat => D.int (lo + k)) [] [] [] := by
  intro av Z env T σ H ts R1 rr hv eg i
  refine ⟨fun d hd => ?_, fun hl => by
    have hl' : n ≤ i := by simpa using hl
    exact hl'⟩
  rw [List.getElem?_map] at hd
  obtain ⟨k, hk, rfl⟩ := Option.map_eq_some_iff.mp hd
  obtain ⟨hi, rfl⟩ := List.getElem?_eq_some_iff.mp hk
  rw [List.length_range] at hi
  refine ⟨hi, fun x H' hy => ⟨.mk x [], rfl, ?_, by rw [hy.1]; exact .refl⟩⟩
  rw [Own, List.getElem_range]
  exact hy.2
theorem rng_end {as : MA} {rs : List R} {e1 : En} {R0 : It → Hp → Prop} {σ : L2.St} {Z1 : Addr → Prop} {T1 : Nat → VT} {H1 : Hp} {ts : List VT} {lo : Int} {n : Nat} (R2 : Rel P w K av Z1 e1 T1 σ H1)
    (sn : Since Z H (AllFp env T) Z1 H1 (fun a => AllFp e1 T1 a ∨ a ∈ rfpL rs ts)) (kk : Kept (iRng as).ms env T e1 T1)
    (f : ∀ H' Z' T' ts cs J, Rel P w K av Z' e1 T' σ H' → RRelL P w K Z' e1 T' H' [] ts → gets [] e1 = some cs → Since Z H (AllFp env T) Z' H' (fun a => AllFp e1 T' a ∨ a ∈ rfpL [] ts) → Kept (iRng as).ms env T e1 T' → Walks P w K J ((List.range n).map fun k : Nat => D.int (lo + k)) [] cs (ts.map VT.v) → R0 J H') : R0 (Itr lo n) H1 :=
  f H1 Z1 T1 [] [] _ R2 trivial rfl (sn.weak fun a h => h.imp id fun z => nomatch z) kk walks_rng
theorem tSI_rng1 {as : MA} : ∀ σ H R, tSI P w K (iRng as) σ H R → (tSA P w K as σ H fun vs H1 => (∃ j : Int, vs = [.int j] ∧ -(2 ^ 62) ≤ j ∧ j < 2 ^ 62 ∧ R (Itr 0 j.toNat) H1) ∨ ∃ i j : Int, vs = [.int i, .int j] ∧ (-(2 ^ 62) ≤ i ∧ i < 2 ^ 62 ∧ -(2 ^ 62) ≤ j ∧ j < 2 ^ 62) ∧ R (Itr i (j - i).toNat) H1) := by
  rintro σ H R0 ⟨av, Z, env, T, R1, ds, rs, env', e, f⟩
  obtain ⟨⟨rs', e1⟩, q1, e⟩ := Option.bind_eq_some_iff.mp e
  obtain ⟨ds', q2, e⟩ := Option.bind_eq_some_iff.mp e
  refine ⟨av, Z, env, T, R1, rs', e1, q1, fun H1 Z1 T1 ts R2 rr nd sn kk => ?_⟩
  have ol := gets_own R2 rr q2
  match ds', ol, e with
  | [.int j], ol, e =>
    dsimp only at e
    by_cases hb : -(2 ^ 62) ≤ j ∧ j < 2 ^ 62
    · rw [if_pos hb] at e
      cases e
      obtain ⟨t, rfl, ot⟩ := ol.one
      refine .inl ⟨j, by rw [List.map_cons, ot.int]; rfl, hb.1, hb.2, ?_⟩
      have := rng_end (as := as) (lo := 0) (n := (j - 0).toNat) R2 sn kk f
      rw [show (j - 0).toNat = j.toNat by omega] at this
      exact this
    · rw [if_neg hb] at e; cases e
  | [.int i, .int j], ol, e =>
    dsimp only at e
    by_cases hb : -(2 ^ 62) ≤ i ∧ i < 2 ^ 62 ∧ -(2 ^ 62) ≤ j ∧ j < 2 ^ 62
    · rw [if_pos hb] at e
      cases e
      obtain ⟨t, u, rfl, ot, ou⟩ := ol.two'
      exact .inr ⟨i, j, by rw [List.map_cons, List.map_cons, ot.int, ou.int]; rfl, hb, rng_end (as := as) R2 sn kk f⟩
    · rw [if_neg hb] at e; cases e
end
section
variable {X : Cx} {tg l a b : Expr} {p pos : Pos} {m ma mb : ME}
theorem si_seq (h : SE X l m) : SI X tg l (iSeq m) := (pi_seq h).weak tSI_seq
theorem si_rng1 (ha : SE X a ma) (hg : Gl X "range") (hm : X.mg "range" = none) (hs : starEach [a] X.env = [(false, eval a X.env)] := by rfl) (hs0 : starEach [a] X.env = (false, eval a X.env) :: starEach [] X.env := by rfl) :
    SI X tg (.Call (.Name "range" p) [a] [] pos) (iRng (ma1 ma)) :=
  (pi_range1 hg hm (sa_cons ha sa_nil hs0) hs).weak fun σ H R q => tSA_cons_shape (tSI_rng1 σ H R q)
where
  tSA_cons_shape {σ : L2.St} {H : Hp} {R : It → Hp → Prop} (h : tSA X.prog X.w X.K (ma1 ma) σ H fun vs H1 => (∃ j : Int, vs = [.int j] ∧ -(2 ^ 62) ≤ j ∧ j < 2 ^ 62 ∧ R (Itr 0 j.toNat) H1) ∨ ∃ i j : Int, vs = [.int i, .int j] ∧ (-(2 ^ 62) ≤ i ∧ i < 2 ^ 62 ∧ -(2 ^ 62) ≤ j ∧ j < 2 ^ 62) ∧ R (Itr i (j - i).toNat) H1) :
      iRng1 (tSA X.prog X.w X.K (ma1 ma)) σ H R := by
    obtain ⟨av, Z, env, T, R1, rs, env', e, f⟩ := h
    refine ⟨av, Z, env, T, R1, rs, env', e, fun H' Z' T' ts R2 rr nd sn kk => ?_⟩
    rcases f H' Z' T' ts R2 rr nd sn kk with q | ⟨i, j, q, _⟩
    · exact q
    · exfalso
      obtain ⟨⟨r, e1⟩, q1, e⟩ := Option.bind_eq_some_iff.mp e
      obtain ⟨⟨rs2, e2⟩, q2, e⟩ := Option.bind_eq_some_iff.mp e
      cases q2
      by_cases ok : r.ok [] = true
      · dsimp only at e
        rw [if_pos (show r.ok maNil.ms = true from ok)] at e
        cases e
        match ts, rr, q with
        | [t], rr, q => exact (List.cons_ne_nil _ _) (List.cons.inj q).2.symm
        | _ :: _ :: _, rr, q => exact rr.2.elim
      · dsimp only at e
        rw [if_neg (show ¬ r.ok maNil.ms = true from ok)] at e
        cases e
theorem si_rng2 (ha : SE X a ma) (hb : SE X b mb) (hg : Gl X "range") (hm : X.mg "range" = none) (hs : starEach [a, b] X.env = [(false, eval a X.env), (false, eval b X.env)] := by rfl) (hs2 : starEach [b] X.env = [(false, eval b X.env)] := by rfl)
    (hs0 : starEach [a, b] X.env = (false, eval a X.env) :: starEach [b] X.env := by rfl) (hs1 : starEach [b] X.env = (false, eval b X.env) :: starEach [] X.env := by rfl) :
    SI X tg (.Call (.Name "range" p) [a, b] [] pos) (iRng (ma2 ma mb)) :=
  (pi_range2 hg hm (sa_cons ha (sa_cons hb sa_nil hs1) hs0) hs hs2).weak fun σ H R q => shape (tSI_rng1 σ H R q)
where
  shape {σ : L2.St} {H : Hp} {R : It → Hp → Prop} (h : tSA X.prog X.w X.K (ma2 ma mb) σ H fun vs H1 => (∃ j : Int, vs = [.int j] ∧ -(2 ^ 62) ≤ j ∧ j < 2 ^ 62 ∧ R (Itr 0 j.toNat) H1) ∨ ∃ i j : Int, vs = [.int i, .int j] ∧ (-(2 ^ 62) ≤ i ∧ i < 2 ^ 62 ∧ -(2 ^ 62) ≤ j ∧ j < 2 ^ 62) ∧ R (Itr i (j - i).toNat) H1) :
      iRng2 (tSA X.prog X.w X.K (ma2 ma mb)) σ H R := by
    obtain ⟨av, Z, env, T, R1, rs, env', e, f⟩ := h
    refine ⟨av, Z, env, T, R1, rs, env', e, fun H' Z' T' ts R2 rr nd sn kk => ?_⟩
    rcases f H' Z' T' ts R2 rr nd sn kk with ⟨j, q, _⟩ | q
    · exfalso
      obtain ⟨⟨r, e1⟩, q1, e⟩ := Option.bind_eq_some_iff.mp e
      obtain ⟨⟨rs2, e2⟩, q2, e⟩ := Option.bind_eq_some_iff.mp e
      obtain ⟨⟨r3, e3⟩, q3, q2⟩ := Option.bind_eq_some_iff.mp q2
      obtain ⟨⟨rs4, e4⟩, q4, q2⟩ := Option.bind_eq_some_iff.mp q2
      cases q4
      by_cases ok : r3.ok [] = true
      · dsimp only at q2
        rw [if_pos (show r3.ok maNil.ms = true from ok)] at q2
        cases q2
        dsimp only at e
        split at e
        · cases e
          match ts, rr, q with
          | [t], rr, q => exact rr.2.elim
          | _ :: _ :: _, rr, q => exact (List.cons_ne_nil _ _) (List.cons.inj q).2
        · cases e
      · dsimp only at q2
        rw [if_neg (show ¬ r3.ok maNil.ms = true from ok)] at q2
        cases q2
    · exact q
end
end G
set_option Elab.async false
set_option linter.all false
set_option maxRecDepth 100000
namespace G
open PySem PySem.Spec PyProof.Rows L2
def wipeE (env : En) : List Nat → En
  | [] => env
  | v :: vs => (wipeE env vs).set v .un
def backE (e1 env : En) : List Nat → En
  | [] => env
  | v :: vs => (backE e1 env vs).set v (e1[v]?.getD .un)
def pureSl (e1 : En) (j : Nat) : Bool := match dAt e1 j with
  | some d => d.pure
  | none => true
def lcGo (g : MG) (tt : MT) (te : ME) (vs : List Nat) : List D → En → List D → Option (List D × En)
  | [], env, acc => some (acc, env)
  | d :: ds, env, acc => (g.run d env).bind fun e => (tt.run e).bind fun x =>
      if x.1 = true then (te.run x.2).bind fun y => (y.1.own y.2).bind fun z => if acc.length < sizeLine then lcGo g tt te vs ds (wipeE y.2 vs) (acc ++ [z]) else none
      else lcGo g tt te vs ds (wipeE x.2 vs) acc
def lcOk (g : MG) (tt : MT) (te : ME) (vs : List Nat) (rs : List R) (e1 : En) : Bool :=
  (rs.all fun r => r.okS (vs ++ (tt.ms ++ te.ms))) && (g.ms.all fun j => vs.contains j) && (vs.all fun j => pureSl e1 j && decide (j < e1.length))
def mLc (it : MI) (g : MG) (tt : MT) (te : ME) (vs : List Nat) : ME := ⟨it.ms ++ (tt.ms ++ te.ms), fun env => (it.run env).bind fun x =>
  if lcOk g tt te vs x.2.1 x.2.2 = true then (lcGo g tt te vs x.1 (wipeE x.2.2 vs) []).bind fun z => some (.v (.lst true z.1), backE x.2.2 z.2 vs) else none⟩
theorem wipeE_length (env : En) : ∀ vs : List Nat, (wipeE env vs).length = env.length
  | [] => rfl
  | v :: vs => by rw [wipeE, List.length_set, wipeE_length env vs]
theorem backE_length (e1 env : En) : ∀ vs : List Nat, (backE e1 env vs).length = env.length
  | [] => rfl
  | v :: vs => by rw [backE, List.length_set, backE_length e1 env vs]
theorem wipeE_out {env : En} {j : Nat} : ∀ {vs : List Nat}, j ∉ vs → (wipeE env vs)[j]? = env[j]?
  | [], _ => rfl
  | v :: vs, h => by
    simp only [List.mem_cons, not_or] at h
    rw [wipeE, List.getElem?_set_ne (Ne.symm h.1), wipeE_out h.2]
theorem wipeE_in {env : En} {j : Nat} : ∀ {vs : List Nat}, j ∈ vs → dAt (wipeE env vs) j = none
  | v :: vs, h => by
    by_cases e : v = j
    · subst e
      unfold dAt
      rw [wipeE]
      by_cases hl : v < (wipeE env vs).length
      · rw [List.getElem?_set_self hl]; rfl
      · rw [List.getElem?_eq_none (by simpa using hl)]; rfl
    · have h2 : j ∈ vs := by
        rcases List.mem_cons.mp h with h | h
        · exact absurd h.symm e
        · exact h
      have := wipeE_in (env := env) h2
      unfold dAt at this ⊢
      rw [wipeE, List.getElem?_set_ne e]; exact this
theorem backE_out {e1 env : En} {j : Nat} : ∀ {vs : List Nat}, j ∉ vs → (backE e1 env vs)[j]? = env[j]?
  | [], _ => rfl
  | v :: vs, h => by
    simp only [List.mem_cons, not_or] at h
    rw [backE, List.getElem?_set_ne (Ne.symm h.1), backE_out h.2]
theorem backE_in {e1 env : En} {j : Nat} (hl : env.length = e1.length) (hj : j < e1.length) : ∀ {vs : List Nat}, j ∈ vs → (backE e1 env vs)[j]? = e1[j]?
  | v :: vs, h => by
    by_cases e : v = j
    · subst e
      rw [backE, List.getElem?_set_self (by rw [backE_length, hl]; exact hj), List.getElem?_eq_getElem hj]; rfl
    · have h2 : j ∈ vs := by
        rcases List.mem_cons.mp h with h | h
        · exact absurd h.symm e
        · exact h
      rw [backE, List.getElem?_set_ne e]; exact backE_in hl hj h2
section
variable {P : Program} {w : World} {K : PySem.W.Frag} {Z Z' : Addr → Prop} {H H' : Hp} {env env' : En} {T T' : Nat → VT} {σ : L2.St} {av : List (V × D)}
theorem wipe_dAt {vs : List Nat} {i : Nat} {d : D} (h : dAt (wipeE env vs) i = some d) : i ∉ vs ∧ dAt env i = some d := by
  by_cases hi : i ∈ vs
  · rw [wipeE_in hi] at h; cases h
  · refine ⟨hi, ?_⟩
    unfold dAt at h ⊢
    rw [wipeE_out hi] at h; exact h
theorem wipe_fps {vs : List Nat} {i : Nat} {a : Addr} (h : a ∈ fps (wipeE env vs) T i) : a ∈ fps env T i := by
  unfold fps at h
  split at h
  · rename_i d e
    unfold fps
    rw [(wipe_dAt e).2]; exact h
  · cases h
theorem wipe_fp {vs : List Nat} {a : Addr} (h : AllFp (wipeE env vs) T a) : AllFp env T a := by
  obtain ⟨i, h⟩ := h
  exact ⟨i, wipe_fps h⟩
theorem Rel.wipe (R1 : Rel P w K av Z env T σ H) (vs : List Nat) : Rel P w K av Z (wipeE env vs) T (wipe σ vs) H := by
  refine ⟨by rw [wipeE_length, wipe_length]; exact R1.len, fun i d e => ?_, fun i d e => ?_, fun i => ?_, fun i j a h1 h2 => R1.dj i j a (wipe_fps h1) (wipe_fps h2), fun i a h => R1.dz i a (wipe_fps h), R1.zs⟩
  · obtain ⟨hi, e'⟩ := wipe_dAt e
    rw [wipe_out hi]
    exact R1.own i d e'
  · have : i ∉ vs := fun z => by
      have := wipeE_in (env := env) z
      unfold dAt at this
      rw [e] at this; cases this
    rw [wipeE_out this] at e
    exact R1.arg i d e
  · unfold fps
    split
    · rename_i d e
      have := R1.nd i
      unfold fps at this
      rw [(wipe_dAt e).2] at this; exact this
    · exact List.nodup_nil
theorem RRelL.st {rs : List R} {ts : List VT} (rr : RRelL P w K Z env T H rs ts) {a : Addr} (h : a ∈ rfpL rs ts) : ∃ o, H a = some o := by
  induction rs generalizing ts with
  | nil => rw [rfpL] at h; cases h
  | cons r rs ih =>
    cases ts with
    | nil => exact rr.elim
    | cons t ts =>
      rw [rfpL] at h
      rcases List.mem_append.mp h with h | h
      · obtain ⟨o, ho, _⟩ := rr.1.stands h
        exact ⟨o, ho⟩
      · exact ih rr.2 h
theorem RRelL.kp {S : Addr → Prop} {rs : List R} {ts : List VT} (rr : RRelL P w K Z env T H rs ts) (k : Kp S H H') (hS : ∀ a, S a → ¬ Z a ∧ a ∉ rfpL rs ts) : RRelL P w K Z env T H' rs ts := by
  induction rs generalizing ts with
  | nil => cases ts with
    | nil => trivial
    | cons _ _ => exact rr.elim
  | cons r rs ih =>
    cases ts with
    | nil => exact rr.elim
    | cons t ts =>
      refine ⟨?_, ih rr.2 fun a h => ⟨(hS a h).1, fun z => (hS a h).2 (by rw [rfpL]; exact List.mem_append_right _ z)⟩⟩
      have hr := rr.1
      cases r with
      | v d => exact ⟨hr.1.frame k (fun a z q => (hS a q).1 z) (fun _ z => z) fun a ha q => (hS a q).2 (by rw [rfpL]; exact List.mem_append_left _ ha), hr.2⟩
      | p j π => exact hr
structure LcI (P : Program) (w : World) (K : PySem.W.Frag) (av : List (V × D)) (vs ms : List Nat) (σ : L2.St) (rs : List R) (rv : List V) (cs : List D) (Dd : Addr) (Z1 : Addr → Prop) (H1 : Hp) (S1 : Addr → Prop) (E0 : En) (T0 : Nat → VT)
    (Z : Addr → Prop) (env : En) (T : Nat → VT) (H : Hp) (ts : List VT) (acc : List D) (at' : List VT) : Prop where
  rel : Rel P w K av Z env T (wipe σ vs) H
  rr : RRelL P w K Z env T H rs ts
  rv : ts.map VT.v = rv
  eg : gets rs env = some cs
  hD : H Dd = some (.lst (at'.map VT.v))
  ow : OwnL P w K Z H acc at'
  nd : (fpL acc at').Nodup
  ap : ∀ a, a ∈ fpL acc at' ∨ a = Dd → ¬ Z a ∧ ¬ AllFp env T a
  nD : Dd ∉ fpL acc at'
  ra : ∀ a ∈ rfpL rs ts, a ≠ Dd ∧ a ∉ fpL acc at'
  sn : Since Z1 H1 S1 Z H (fun a => AllFp env T a ∨ a = Dd ∨ a ∈ fpL acc at')
  kk : ∀ j, j ∉ vs → (j ∉ ms → T j = T0 j ∧ env[j]? = E0[j]?) ∧ ((dAt E0 j).isSome = true → (dAt env j).isSome = true)
theorem LcI.st {vs ms : List Nat} {rs : List R} {rv : List V} {cs : List D} {Dd : Addr} {Z1 : Addr → Prop} {H1 : Hp} {S1 : Addr → Prop} {E0 : En} {T0 : Nat → VT} {ts : List VT} {acc : List D} {at' : List VT}
    (I : LcI P w K av vs ms σ rs rv cs Dd Z1 H1 S1 E0 T0 Z env T H ts acc at') {a : Addr} (h : a ∈ fpL acc at' ∨ a = Dd) : ∃ o, H a = some o := by
  rcases h with h | rfl
  · obtain ⟨o, ho, _⟩ := I.ow.stands a h
    exact ⟨o, ho⟩
  · exact ⟨_, I.hD⟩
theorem LcI.next {vs ms : List Nat} {rs : List R} {rv : List V} {cs : List D} {Dd : Addr} {Z1 : Addr → Prop} {H1 : Hp} {S1 : Addr → Prop} {E0 : En} {T0 : Nat → VT} {ts : List VT} {acc : List D} {at' : List VT} {σ2 : L2.St} {S' : Addr → Prop}
    (I : LcI P w K av vs ms σ rs rv cs Dd Z1 H1 S1 E0 T0 Z env T H ts acc at') (R2 : Rel P w K av Z' env' T' σ2 H') (sn : Since Z H (AllFp env T) Z' H' S') (hS : ∀ a, AllFp env' T' a → S' a) (hw : wipe σ2 vs = wipe σ vs)
    (kk : ∀ j, j ∉ vs → (j ∉ ms → T' j = T j ∧ env'[j]? = env[j]?) ∧ ((dAt env j).isSome = true → (dAt env' j).isSome = true)) (ok : (rs.all fun r => r.okS (vs ++ ms)) = true) :
    LcI P w K av vs ms σ rs rv cs Dd Z1 H1 S1 E0 T0 Z' (wipeE env' vs) T' H' ts acc at' ∧ (∀ a, S' a → a ∉ fpL acc at' ∧ a ≠ Dd ∧ a ∉ rfpL rs ts) := by
  have kk' : ∀ j, j ∉ vs ++ ms → T' j = T j ∧ env'[j]? = env[j]? := fun j hj => ((kk j fun z => hj (List.mem_append_left _ z)).1 fun z => hj (List.mem_append_right _ z))
  have kw : ∀ j, j ∉ vs ++ ms → T' j = T j ∧ (wipeE env' vs)[j]? = env[j]? := fun j hj => ⟨(kk' j hj).1, by rw [wipeE_out fun z => hj (List.mem_append_left _ z)]; exact (kk' j hj).2⟩
  have ns : ∀ a, S' a → a ∉ fpL acc at' ∧ a ≠ Dd ∧ a ∉ rfpL rs ts := fun a h => by
    rcases sn.own a h with q | q
    · exact ⟨fun z => (I.ap a (.inl z)).2 q, fun z => (I.ap a (.inr z)).2 q, fun z => (I.rr.apart a z).2 q⟩
    · refine ⟨fun z => ?_, fun z => ?_, fun z => ?_⟩
      · obtain ⟨o, ho⟩ := I.st (.inl z); rw [q] at ho; cases ho
      · obtain ⟨o, ho⟩ := I.st (.inr z); rw [q] at ho; cases ho
      · obtain ⟨o, ho⟩ := I.rr.st z; rw [q] at ho; cases ho
  have nz : ∀ a, a ∈ fpL acc at' ∨ a = Dd → ¬ Z' a := fun a h z => by
    rcases sn.z a z with q | q | q
    · exact (I.ap a h).1 q
    · exact (I.ap a h).2 q
    · obtain ⟨o, ho⟩ := I.st h; rw [q] at ho; cases ho
  have R3 : Rel P w K av Z' (wipeE env' vs) T' (wipe σ vs) H' := hw ▸ R2.wipe vs
  refine ⟨⟨R3, I.rr.carryS I.rel R3 sn (fun a h => hS a (wipe_fp h)) kw ok, I.rv, gets_same I.rr kw ok I.eg, sn.kp _ _ I.hD fun _ z => (I.ap Dd (.inr rfl)).2 z, I.ow.frame sn.kp (fun a z q => ?_) sn.zm fun a ha q => (I.ap a (.inl ha)).2 q, I.nd,
    fun a h => ⟨nz a h, fun z => ?_⟩, I.nD, I.ra, ?_, fun j hj => ⟨fun hm => ?_, fun h => ?_⟩⟩, ns⟩
  · obtain ⟨i, hi⟩ := q
    exact I.rel.dz i a hi z
  · have := ns a (hS a (wipe_fp z))
    rcases h with h | h
    · exact this.1 h
    · exact this.2.1 h
  · have g : Since Z H (fun a => AllFp env T a ∨ a = Dd ∨ a ∈ fpL acc at') Z' H' (fun a => AllFp (wipeE env' vs) T' a ∨ a = Dd ∨ a ∈ fpL acc at') :=
      ⟨sn.kp.mono fun _ h => .inl h, fun x h => by
        rcases h with h | h
        · exact (sn.own x (hS x (wipe_fp h))).imp .inl id
        · exact .inl (.inr h), fun x h => (sn.z x h).imp id (Or.imp .inl id), sn.zm⟩
    exact I.sn.trans g
  · obtain ⟨a1, a2⟩ := (I.kk j hj).1 hm
    obtain ⟨b1, b2⟩ := (kk j hj).1 hm
    exact ⟨b1.trans a1, by rw [wipeE_out hj, b2, a2]⟩
  · have h1 := (kk j hj).2 ((I.kk j hj).2 h)
    unfold dAt at h1 ⊢
    rw [wipeE_out hj]; exact h1
end
end G
set_option Elab.async false
set_option linter.all false
set_option maxRecDepth 100000
namespace G
open PySem PySem.Spec PyProof.Rows L2
theorem wipe_in {σ : L2.St} {j : Nat} : ∀ {vs : List Nat}, j ∈ vs → j < σ.length → (wipe σ vs)[j]? = some none
  | v :: vs, h, hl => by
    by_cases e : v = j
    · subst e
      rw [wipe, List.getElem?_set_self (by rw [wipe_length]; exact hl)]
    · have h2 : j ∈ vs := by
        rcases List.mem_cons.mp h with h | h
        · exact absurd h.symm e
        · exact h
      rw [wipe, List.getElem?_set_ne e]; exact wipe_in h2 hl
theorem wipe_congr {σ τ : L2.St} {vs : List Nat} (hl : τ.length = σ.length) (h : ∀ j, j ∉ vs → τ[j]? = σ[j]?) : wipe τ vs = wipe σ vs := by
  refine List.ext_getElem? fun j => ?_
  by_cases hj : j ∈ vs
  · by_cases hlt : j < σ.length
    · rw [wipe_in hj hlt, wipe_in hj (by rw [hl]; exact hlt)]
    · rw [List.getElem?_eq_none (by rw [wipe_length, hl]; omega), List.getElem?_eq_none (by rw [wipe_length]; omega)]
  · rw [wipe_out hj, wipe_out hj, h j hj]
section
variable {P : Program} {w : World} {K : PySem.W.Frag} {Z Z' : Addr → Prop} {H H' : Hp} {env env' : En} {T T' : Nat → VT} {σ : L2.St} {av : List (V × D)}
theorem lcOk_of {g : MG} {tt : MT} {te : ME} {vs : List Nat} {rs : List R} {e1 : En} (h : lcOk g tt te vs rs e1 = true) :
    (rs.all fun r => r.okS (vs ++ (tt.ms ++ te.ms))) = true ∧ (∀ j ∈ g.ms, j ∈ vs) ∧ ∀ j ∈ vs, (∀ d, dAt e1 j = some d → d.pure = true) ∧ j < e1.length := by
  unfold lcOk at h
  rw [Bool.and_eq_true, Bool.and_eq_true] at h
  refine ⟨h.1.1, fun j hj => ?_, fun j hj => ?_⟩
  · have := List.all_eq_true.mp h.1.2 j hj
    simpa using this
  · have := List.all_eq_true.mp h.2 j hj
    rw [Bool.and_eq_true, decide_eq_true_eq] at this
    refine ⟨fun d e => ?_, this.2⟩
    have h1 := this.1
    unfold pureSl at h1
    rw [e] at h1; exact h1
theorem tLc_of {it : MI} {g : MG} {tt : MT} {te : ME} {vs : List Nat} : ∀ σ H Q, tS P w K (mLc it g tt te vs) σ H Q → tLc (tSI P w K it) (tSG P w K g) (tST P w K tt) (tS P w K te) vs σ H Q := by
  rintro σ H Q ⟨av, Z, env, T, R1, r, env', e, f⟩
  obtain ⟨⟨ds, rs, e1⟩, q1, e⟩ := Option.bind_eq_some_iff.mp e
  dsimp only at e
  by_cases hok : lcOk g tt te vs rs e1 = true
  · rw [if_pos hok] at e
    obtain ⟨⟨accF, e2⟩, q2, e⟩ := Option.bind_eq_some_iff.mp e
    cases e
    obtain ⟨ok1, ok2, ok3⟩ := lcOk_of hok
    refine ⟨av, Z, env, T, R1, ds, rs, e1, q1, fun H1 Z1 T1 ts cs J R2 rr eg sn kk wk => fun Dd nD => ?_⟩
    generalize hS1 : (fun a => AllFp e1 T1 a ∨ a ∈ rfpL rs ts) = S1 at sn
    have kpn : Kp (fun _ => False) H1 (upd H1 Dd (.lst [])) := kp_new nD
    have af1 : ∀ a, AllFp e1 T1 a → a ≠ Dd := fun a h z => by
      obtain ⟨o, ho, _⟩ := R2.stands h
      rw [z, nD] at ho; cases ho
    have start : LcI P w K av vs (tt.ms ++ te.ms) σ rs (ts.map VT.v) cs Dd Z1 H1 S1 e1 T1 Z1 (wipeE e1 vs) T1 (upd H1 Dd (.lst [])) ts [] [] := by
      have kw : ∀ j, j ∉ vs ++ (tt.ms ++ te.ms) → T1 j = T1 j ∧ (wipeE e1 vs)[j]? = e1[j]? := fun j hj => ⟨rfl, wipeE_out fun z => hj (List.mem_append_left _ z)⟩
      have R3 := (R2.kp kpn fun _ z => z.elim).wipe vs
      have s1 : Since Z1 H1 (AllFp e1 T1) Z1 (upd H1 Dd (.lst [])) (AllFp e1 T1) := ⟨kpn.mono fun _ z => z.elim, fun _ h => .inl h, fun _ h => .inl h, fun _ h => h⟩
      refine ⟨R3, rr.carryS R2 R3 s1 (fun a h => wipe_fp h) kw ok1, rfl, gets_same rr kw ok1 eg, upd_same, by rw [OwnL]; trivial, by rw [fpL]; exact List.nodup_nil, fun a h => ?_, by rw [fpL]; exact (fun z => nomatch z), fun a ha => ⟨fun z => ?_, by rw [fpL]; exact (fun z => nomatch z)⟩, ?_,
        fun j hj => ⟨fun _ => ⟨rfl, wipeE_out hj⟩, fun h => by unfold dAt at h ⊢; rw [wipeE_out hj]; exact h⟩⟩
      · rw [fpL] at h
        rcases h with h | rfl
        · cases h
        · exact ⟨fun z => R2.zs a z nD, fun z => af1 a (wipe_fp z) rfl⟩
      · obtain ⟨o, ho⟩ := rr.st ha
        rw [z, nD] at ho; cases ho
      · rw [← hS1]
        refine ⟨kpn.mono fun _ z => z.elim, fun x h => ?_, fun x h => .inl h, fun x h => h⟩
        rcases h with h | rfl | h
        · exact .inl (.inl (wipe_fp h))
        · exact .inr nD
        · rw [fpL] at h; cases h
    refine ⟨fun i m H => m = ds.length - i ∧ i ≤ ds.length ∧ ∃ Z env T ts' acc at', LcI P w K av vs (tt.ms ++ te.ms) σ rs (ts.map VT.v) cs Dd Z1 H1 S1 e1 T1 Z env T H ts' acc at' ∧ lcGo g tt te vs (ds.drop i) env acc = some (accF, e2),
      ⟨ds.length, by omega, Nat.zero_le _, Z1, _, T1, ts, [], [], start, q2⟩, ?_⟩
    rintro i m H2 ⟨rfl, hi, Z2, e3, T2, ts2, acc, at', I, ef⟩
    obtain ⟨w1, w2⟩ := wk av Z2 e3 T2 _ H2 ts2 I.rel I.rr I.rv I.eg i
    by_cases hlt : i < ds.length
    · obtain ⟨go, yld⟩ := w1 ds[i] (List.getElem?_eq_getElem hlt)
      refine .inr ⟨go, fun H' => i + 1 ≤ ds.length ∧ ∃ Z env T ts' acc at', LcI P w K av vs (tt.ms ++ te.ms) σ rs (ts.map VT.v) cs Dd Z1 H1 S1 e1 T1 Z env T H' ts' acc at' ∧ lcGo g tt te vs (ds.drop (i + 1)) env acc = some (accF, e2),
        fun H' h => ⟨ds.length - (i + 1), by omega, rfl, h⟩, fun x H3 hy => ?_⟩
      rw [List.drop_eq_getElem_cons hlt] at ef
      obtain ⟨e4, q4, ef⟩ := Option.bind_eq_some_iff.mp ef
      obtain ⟨⟨b, e5⟩, q5, ef⟩ := Option.bind_eq_some_iff.mp ef
      obtain ⟨t, rfl, ot, k3⟩ := yld x H3 hy
      have R4 : Rel P w K av Z2 e3 T2 (wipe σ vs) H3 := I.rel.kp k3 fun _ z => z.elim
      refine ⟨av, Z2, e3, T2, ds[i], t, R4, rfl, ot, e4, q4, fun σ5 T5 R5 h5 k5 s5 => ⟨?_, ?_⟩⟩
      · rw [wipe_congr (σ := wipe σ vs) s5.1 fun j hj => s5.2 j fun z => hj (ok2 j z)]
        exact wipe_congr (wipe_length σ vs) fun j hj => wipe_out hj
      have hw : wipe σ5 vs = wipe σ vs := by
        rw [wipe_congr (σ := wipe σ vs) s5.1 fun j hj => s5.2 j fun z => hj (ok2 j z)]
        exact wipe_congr (wipe_length σ vs) fun j hj => wipe_out hj
      have s23 : Since Z2 H2 (AllFp e3 T2) Z2 H3 (AllFp e3 T2) := ⟨k3.mono fun _ z => z.elim, fun _ h => .inl h, fun _ h => .inl h, fun _ h => h⟩
      have s35 : Since Z2 H3 (AllFp e3 T2) Z2 H3 (AllFp e4 T5) := ⟨.refl, fun a h => .inl (h5 a h), fun _ h => .inl h, fun _ h => h⟩
      have s25 := s23.trans s35
      refine ⟨av, Z2, e4, T5, R5, b, e5, q5, fun H6 Z6 T6 R6 s56 k56 => ?_⟩
      have s26 := s25.trans s56
      have kk6 : ∀ j, j ∉ vs → (j ∉ tt.ms → T6 j = T2 j ∧ e5[j]? = e3[j]?) ∧ ((dAt e3 j).isSome = true → (dAt e5 j).isSome = true) := fun j hj => by
        refine ⟨fun hm => ?_, fun h => k56.has j (k5.has j h)⟩
        obtain ⟨a1, a2⟩ := k5.same j fun z => hj (ok2 j z)
        obtain ⟨b1, b2⟩ := k56.same j hm
        exact ⟨b1.trans a1, b2.trans a2⟩
      cases b with
      | false =>
        dsimp only at ef
        rw [if_neg Bool.false_ne_true] at ef
        show (if (false = true) then _ else _)
        rw [if_neg Bool.false_ne_true]
        obtain ⟨I6, _⟩ := I.next R6 s26 (fun _ h => h) hw (fun j hj => ⟨fun hm => (kk6 j hj).1 fun z => hm (List.mem_append_left _ z), (kk6 j hj).2⟩) ok1
        exact ⟨hlt, Z6, _, T6, ts2, acc, at', I6, ef⟩
      | true =>
        dsimp only at ef
        rw [if_pos rfl] at ef
        show (if (true = true) then _ else _)
        rw [if_pos rfl]
        obtain ⟨⟨r, e6⟩, q6, ef⟩ := Option.bind_eq_some_iff.mp ef
        obtain ⟨z, q7, ef⟩ := Option.bind_eq_some_iff.mp ef
        dsimp only at ef q7
        by_cases hz : acc.length < sizeLine
        · rw [if_pos hz] at ef
          refine ⟨av, Z6, e5, T6, R6, r, e6, q6, fun H7 Z7 T7 t7 R7 rr7 nd7 s67 k67 => ?_⟩
          obtain ⟨I7, ns⟩ := I.next R7 (s26.trans s67) (fun _ h => .inl h) hw (fun j hj => ⟨fun hm => by
            obtain ⟨a1, a2⟩ := (kk6 j hj).1 fun z => hm (List.mem_append_left _ z)
            obtain ⟨b1, b2⟩ := k67.same j fun z => hm (List.mem_append_right _ z)
            exact ⟨b1.trans a1, b2.trans a2⟩, fun h => k67.has j ((kk6 j hj).2 h)⟩) ok1
          refine ⟨at'.map VT.v, I7.hD, by rw [List.length_map, ← I7.ow.length]; exact hz, hlt, Z7, wipeE e6 vs, T7, ts2, acc ++ [z], at' ++ [t7], ?_, ef⟩
          obtain ⟨g7, hp⟩ := R.own_get q7
          have o7 := R7.at rr7 g7
          have sub : (fp z t7).Sublist (rfp r t7) := by
            rcases hp with hp | rfl
            · rw [fp_pure hp]; exact List.nil_sublist _
            · exact .refl _
          have kp7 : Kp (fun a => a = Dd) H7 (upd H7 Dd (.lst (at'.map VT.v ++ [t7.v]))) := kp_upd rfl fun u e => by rw [I7.hD] at e; cases e; trivial
          have apD := I7.ap Dd (.inr rfl)
          have nz : ∀ a ∈ fp z t7, a ∉ fpL acc at' ∧ a ≠ Dd ∧ a ∉ rfpL rs ts2 := fun a ha => ns a (.inr (sub.subset ha))
          have r7 : ∀ a ∈ fp z t7, ¬ Z7 a ∧ ¬ AllFp e6 T7 a := fun a ha => by
            rcases hp with hp | rfl
            · rw [fp_pure hp] at ha; cases ha
            · exact rr7.2 a ha
          have hzd : ∀ a, Z7 a → ¬ a = Dd := fun a h e => apD.1 (e ▸ h)
          have fe : fpL (acc ++ [z]) (at' ++ [t7]) = fpL acc at' ++ fp z t7 := by rw [fpL_append I7.ow.length, fpL_one]
          have me : ∀ a, a ∈ fpL (acc ++ [z]) (at' ++ [t7]) ↔ a ∈ fpL acc at' ∨ a ∈ fp z t7 := fun a => by rw [fe, List.mem_append]
          refine ⟨I7.rel.kp kp7 fun a h => h ▸ ⟨apD.2, apD.1⟩, I7.rr.kp kp7 fun a h => h ▸ ⟨apD.1, fun z => (I7.ra Dd z).1 rfl⟩, I7.rv, I7.eg, by rw [upd_same, List.map_append]; rfl, ?_, ?_, fun a h => ?_, ?_, fun a ha => ⟨(I7.ra a ha).1, fun z => ?_⟩, ?_, I7.kk⟩
          · refine (I7.ow.frame kp7 hzd (fun _ z => z) fun a ha e => I7.nD (e ▸ ha)).append ?_
            rw [OwnL, OwnL]
            exact ⟨o7.frame kp7 hzd (fun _ z => z) fun a ha e => (nz a ha).2.1 e, trivial⟩
          · rw [fe]
            exact List.nodup_append.mpr ⟨I7.nd, nd7.sublist sub, fun a ha b hb q => (nz b hb).1 (q ▸ ha)⟩
          · rcases h with h | h
            · rcases (me a).mp h with h | h
              · exact I7.ap a (.inl h)
              · exact ⟨(r7 a h).1, fun z => (r7 a h).2 (wipe_fp z)⟩
            · exact I7.ap a (.inr h)
          · intro z
            rcases (me Dd).mp z with h | h
            · exact I7.nD h
            · exact (nz Dd h).2.1 rfl
          · rcases (me a).mp z with h | h
            · exact (I7.ra a ha).2 h
            · exact (nz a h).2.2 ha
          · -- what happened since
            have s27 := s26.trans s67
            have g : Since Z2 H2 (fun a => AllFp e3 T2 a ∨ a = Dd ∨ a ∈ fpL acc at') Z7 H7 (fun a => AllFp (wipeE e6 vs) T7 a ∨ a = Dd ∨ a ∈ fpL (acc ++ [z]) (at' ++ [t7])) :=
              ⟨s27.kp.mono fun _ h => .inl h, fun x h => by
                rcases h with h | h | h
                · exact (s27.own x (.inl (wipe_fp h))).imp .inl id
                · exact .inl (.inr (.inl h))
                · rcases (me x).mp h with h | h
                  · exact .inl (.inr (.inr h))
                  · exact (s27.own x (.inr (sub.subset h))).imp .inl id, fun x h => (s27.z x h).imp id (Or.imp .inl id), s27.zm⟩
            refine (I.sn.trans g).trans ⟨kp7.mono fun a h => .inr (.inl h), fun x h => .inl h, fun x h => .inl h, fun _ h => h⟩
        · rw [if_neg hz] at ef; cases ef
    · have hi' : i = ds.length := by omega
      subst hi'
      refine .inl ⟨w2 (Nat.le_refl _), ?_⟩
      rw [List.drop_length] at ef
      cases ef
      generalize hT : (fun j => if j ∈ vs then T1 j else T2 j) = T3
      have Tin : ∀ j, j ∈ vs → T3 j = T1 j := fun j h => by rw [← hT]; exact if_pos h
      have Tout : ∀ j, j ∉ vs → T3 j = T2 j := fun j h => by rw [← hT]; exact if_neg h
      have le : e2.length = e1.length := by rw [I.rel.len, wipe_length, ← R2.len]
      have gin : ∀ j, j ∈ vs → (backE e1 e2 vs)[j]? = e1[j]? := fun j h => backE_in le (ok3 j h).2 h
      have gout : ∀ j, j ∉ vs → (backE e1 e2 vs)[j]? = e2[j]? := fun j h => backE_out h
      have din : ∀ j, j ∈ vs → dAt (backE e1 e2 vs) j = dAt e1 j := fun j h => by unfold dAt; rw [gin j h]
      have dout : ∀ j, j ∉ vs → dAt (backE e1 e2 vs) j = dAt e2 j := fun j h => by unfold dAt; rw [gout j h]
      have fin : ∀ j, j ∈ vs → fps (backE e1 e2 vs) T3 j = [] := fun j h => by
        unfold fps
        rw [din j h]
        split
        · rename_i d q; exact fp_pure ((ok3 j h).1 d q)
        · rfl
      have fout : ∀ j, j ∉ vs → fps (backE e1 e2 vs) T3 j = fps e2 T2 j := fun j h => by unfold fps; rw [dout j h, Tout j h]
      have fsub : ∀ j a, a ∈ fps (backE e1 e2 vs) T3 j → a ∈ fps e2 T2 j := fun j a h => by
        by_cases hj : j ∈ vs
        · rw [fin j hj] at h; cases h
        · rw [fout j hj] at h; exact h
      have asub : ∀ a, AllFp (backE e1 e2 vs) T3 a → AllFp e2 T2 a := fun a ⟨j, h⟩ => ⟨j, fsub j a h⟩
      have s1 : ∀ a, Z1 a → ¬ S1 a := fun a z q => by
        rw [← hS1] at q
        rcases q with ⟨j, q⟩ | q
        · exact R2.dz j a q z
        · exact (rr.apart a q).1 z
      have R3 : Rel P w K av Z2 (backE e1 e2 vs) T3 σ H2 := by
        refine ⟨by rw [backE_length, le]; exact R2.len, fun j d ej => ?_, fun j d ej => ?_, fun j => ?_, fun j k a h1 h2 => I.rel.dj j k a (fsub j a h1) (fsub k a h2), fun j a h => I.rel.dz j a (fsub j a h), I.rel.zs⟩
        · by_cases hj : j ∈ vs
          · rw [din j hj] at ej
            rw [Tin j hj]
            have o := R2.own j d ej
            exact ⟨o.1, o.2.frame I.sn.kp s1 I.sn.zm (by rw [fp_pure ((ok3 j hj).1 d ej)]; exact fun _ z => nomatch z)⟩
          · rw [dout j hj] at ej
            rw [Tout j hj]
            have o := I.rel.own j d ej
            exact ⟨(wipe_some o.1).1, o.2⟩
        · by_cases hj : j ∈ vs
          · rw [gin j hj] at ej; rw [Tin j hj]; exact R2.arg j d ej
          · rw [gout j hj] at ej; rw [Tout j hj]; exact I.rel.arg j d ej
        · by_cases hj : j ∈ vs
          · rw [fin j hj]; exact List.nodup_nil
          · rw [fout j hj]; exact I.rel.nd j
      have fe : fp (.lst true accF) (.mk (.ref Dd) at') = Dd :: fpL accF at' := by rw [fp, vad, List.singleton_append]
      have me : ∀ a, a ∈ fp (.lst true accF) (.mk (.ref Dd) at') → a ∈ fpL accF at' ∨ a = Dd := fun a h => by
        rw [fe] at h
        exact (List.mem_cons.mp h).symm
      refine f H2 Z2 T3 (.mk (.ref Dd) at') R3 ⟨by rw [Own]; exact ⟨Dd, rfl, I.hD, I.ow⟩, fun a ha => ⟨(I.ap a (me a ha)).1, fun z => (I.ap a (me a ha)).2 (asub a z)⟩⟩ (by show (fp _ _).Nodup; rw [fe]; exact List.nodup_cons.mpr ⟨I.nD, I.nd⟩) ?_ ?_
      · refine sn.trans (I.sn.weak fun a h => ?_)
        rcases h with h | h
        · exact .inl (asub a h)
        · exact .inr ((me a h).symm)
      · refine ⟨fun j hj => ?_, fun j h => ?_⟩
        · have hj1 : j ∉ it.ms := fun z => hj (List.mem_append_left _ z)
          have hj2 : j ∉ tt.ms ++ te.ms := fun z => hj (List.mem_append_right _ z)
          obtain ⟨a1, a2⟩ := kk.same j hj1
          by_cases hv : j ∈ vs
          · exact ⟨by rw [Tin j hv, a1], by rw [gin j hv, a2]⟩
          · obtain ⟨b1, b2⟩ := (I.kk j hv).1 hj2
            exact ⟨by rw [Tout j hv, b1, a1], by rw [gout j hv, b2, a2]⟩
        · have h1 := kk.has j h
          by_cases hv : j ∈ vs
          · rw [din j hv]; exact h1
          · rw [dout j hv]; exact (I.kk j hv).2 h1
  · rw [if_neg hok] at e; cases e
theorem tYes_of {Q : Bool → Hp → Prop} (h : tST P w K ⟨[], fun env => some (true, env)⟩ σ H Q) : tYes σ H Q := by
  obtain ⟨av, Z, env, T, R1, b, env', e, f⟩ := h
  cases e
  exact f H Z T R1 .refl .refl
end
def mYes : MT := ⟨[], fun env => some (true, env)⟩
def STs (X : Cx) (ifs : List Expr) (m : MT) : Prop := PTs X ifs (tST X.prog X.w X.K m)
section
variable {X : Cx} {pos : Pos}
theorem sts_nil : STs X [] mYes := ⟨fun pins s σ H Q I h => pts_nil.run pins s σ H Q I (tYes_of h)⟩
theorem sts_one {c : Expr} {m : MT} (h : ST X c m) : STs X [c] m := pts_one h
theorem se_lc {elt tg iter : Expr} {ifs : List Expr} {scope : Scope} (own : List (Str × Nat)) {it : MI} {g : MG} {tt : MT} {te : ME} (hc : X.calm = true) (hN : X.N.Nodup) (hi : SI X tg iter it) (ok : BlkOk X.N X.env.scope scope own)
    (hg : ∀ (s : Shared) (H : Hp) (C : Addr) (cl : List (Str × Addr)) (fp : List Addr), SG (X.blk s H scope (compEnvC scope cl C X.env) fp) tg g) (ht : ∀ (s : Shared) (H : Hp) (C : Addr) (cl : List (Str × Addr)) (fp : List Addr), STs (X.blk s H scope (compEnvC scope cl C X.env) fp) ifs tt)
    (he : ∀ (s : Shared) (H : Hp) (C : Addr) (cl : List (Str × Addr)) (fp : List Addr), SE (X.blk s H scope (compEnvC scope cl C X.env) fp) elt te) (hs : ∀ x, foldedSetIterable iter X.env x = pure x := by intro _; rfl) :
    SE X (.ListComp elt [⟨tg, iter, ifs, 0⟩] scope pos) (mLc it g tt te (own.map (·.2))) :=
  (pe_lc (g := tSG X.prog X.w X.K g) (tt := tST X.prog X.w X.K tt) (te := tS X.prog X.w X.K te) hc hN hi ok hg ht he hs).weak fun σ H Q q => tLc_of σ H Q q
theorem ss_setLc (i : Nat) {y : Str} {py : Pos} {elt tg iter : Expr} {ifs : List Expr} {scope : Scope} {spos : Pos} (own : List (Str × Nat)) {it : MI} {g : MG} {tt : MT} {te : ME} (hc : X.calm = true) (hN : X.N.Nodup) (hi : SI X tg iter it) (ok : BlkOk X.N X.env.scope scope own)
    (hg : ∀ (s : Shared) (H : Hp) (C : Addr) (cl : List (Str × Addr)) (fp : List Addr), SG (X.blk s H scope (compEnvC scope cl C X.env) fp) tg g) (ht : ∀ (s : Shared) (H : Hp) (C : Addr) (cl : List (Str × Addr)) (fp : List Addr), STs (X.blk s H scope (compEnvC scope cl C X.env) fp) ifs tt)
    (he : ∀ (s : Shared) (H : Hp) (C : Addr) (cl : List (Str × Addr)) (fp : List Addr), SE (X.blk s H scope (compEnvC scope cl C X.env) fp) elt te) (hy : X.N[i]? = some y := by rfl) (hyl : X.env.scope.names.lookup y = some .local := by rfl)
    (hsw : swapsWith (.ListComp elt [⟨tg, iter, ifs, 0⟩] scope pos) (some (.Name y py)) spos.line X.env = pure true := by rfl) (hs : ∀ x, foldedSetIterable iter X.env x = pure x := by intro _; rfl) :
    SS X (.Assign [.Name y py] (.ListComp elt [⟨tg, iter, ifs, 0⟩] scope pos) spos) (mSet i (mLc it g tt te (own.map (·.2)))) :=
  (ps_setLc (g := tSG X.prog X.w X.K g) (tt := tST X.prog X.w X.K tt) (te := tS X.prog X.w X.K te) hc hN hy hyl hsw hi ok hg ht he hs).weak fun D σ H h => by
    obtain ⟨av, Z, env, T, R1, fl, env', e, f⟩ := tAsg_of D σ H h
    exact tLc_of _ _ _ ⟨av, Z, env, T, R1, fl, env', e, f⟩
end
end G
set_option Elab.async false
set_option linter.all false
set_option maxRecDepth 100000
namespace G
open PySem PySem.Spec PyProof.Rows L2
section
variable {P : Program} {w : World} {K : PySem.W.Frag} {Z Z' : Addr → Prop} {H H' : Hp} {env env' : En} {T T' : Nat → VT} {σ : L2.St} {av : List (V × D)}
def mVal (m : MT) : ME := ⟨m.ms, fun env => (m.run env).map fun x => (.v (.bl x.1), x.2)⟩
theorem tVal_of {m : MT} {Q : VK} (h : tS P w K (mVal m) σ H Q) : tST P w K m σ H fun b H' => Q (.bl b) H' := by
  obtain ⟨av, Z, env, T, R1, r, env', e, f⟩ := h
  obtain ⟨⟨b, e1⟩, q1, e⟩ := Option.map_eq_some_iff.mp e
  cases e
  refine ⟨av, Z, env, T, R1, b, e1, q1, fun H' Z' T' R2 sn kk => ?_⟩
  refine f H' Z' T' (.mk (.bl b) []) R2 ⟨by rw [Own]; rfl, by rw [fp]; exact fun _ z => nomatch z⟩ (by show (fp _ _).Nodup; rw [fp]; exact List.nodup_nil) (sn.weak fun a h => ?_) kk
  rcases h with h | h
  · exact h
  · rw [rfp, fp] at h; cases h
theorem tTestV {m : ME} {Q : VK} (h : tS P w K (mVal (mTest m)) σ H Q) : tS P w K m σ H fun x H' => ∃ c, x = .bl c ∧ Q (.bl c) H' := by
  refine tS_mono (tTest_of (tVal_of h)) fun x H' ⟨k, e, q⟩ => ⟨k, e, q⟩
structure SB (X : Cx) (e : Expr) (m : MT) : Prop where
  pe : PE X e fun σ H Q => tST X.prog X.w X.K m σ H fun b H' => Q (.bl b) H'
def mIfE (c : MT) (a b : ME) : ME := ⟨c.ms ++ (a.ms ++ b.ms), fun env => (c.run env).bind fun x => if x.1 = true then a.run x.2 else b.run x.2⟩
theorem tIf_of {c : MT} {a b : ME} {Q : VK} (h : tS P w K (mIfE c a b) σ H Q) : tIf (tST P w K c) (tS P w K a) (tS P w K b) σ H Q := by
  obtain ⟨av, Z, env, T, R1, r, env', e, f⟩ := h
  obtain ⟨⟨c1, e1⟩, q1, e⟩ := Option.bind_eq_some_iff.mp e
  refine ⟨av, Z, env, T, R1, c1, e1, q1, fun H1 Z1 T1 R2 sn kk => ?_⟩
  cases c1 with
  | true =>
    dsimp only at e
    rw [if_pos rfl] at e ⊢
    exact ⟨av, Z1, e1, T1, R2, r, env', e, fun H2 Z2 T2 t R3 rr nd sn2 kk2 => f H2 Z2 T2 t R3 rr nd (sn.trans sn2) ((kk.trans kk2).mono fun j h => by
      rcases List.mem_append.mp h with h | h
      · exact List.mem_append_left _ h
      · exact List.mem_append_right _ (List.mem_append_left _ h))⟩
  | false =>
    dsimp only at e
    rw [if_neg Bool.false_ne_true] at e ⊢
    exact ⟨av, Z1, e1, T1, R2, r, env', e, fun H2 Z2 T2 t R3 rr nd sn2 kk2 => f H2 Z2 T2 t R3 rr nd (sn.trans sn2) ((kk.trans kk2).mono fun j h => by
      rcases List.mem_append.mp h with h | h
      · exact List.mem_append_left _ h
      · exact List.mem_append_right _ (List.mem_append_right _ h))⟩
theorem tCB1 {f : List D → Option D} {a : ME} {r : List V → Hp → VK → Prop} (hr : ∀ x H Q, StepF P w K f [x] H Q → r [x] H Q) : ∀ σ H Q, tS P w K (mOp (ma1 a) (kf f) []) σ H Q → tCB r (tSA P w K (ma1 a)) σ H Q := fun σ H Q h => by
  refine tSA_mono' h fun xs H1 s => ?_
  obtain ⟨x, rfl⟩ : ∃ x, xs = [x] := by
    obtain ⟨av, Z, env, T, σ, rs, ts, r, env', e0, R1, rr, nd, e, dn⟩ := s.1
    match xs, s.2 with
    | [x], _ => exact ⟨x, rfl⟩
  exact hr x H1 Q s.1.read
where
  tSA_mono' {a : ME} {k : Kn} {σ : L2.St} {H : Hp} {Q : VK} {Q2 : List V → Hp → Prop} (h : tS P w K (mOp (ma1 a) k []) σ H Q) (hk : ∀ xs H1, (Step P w K k [] xs H1 Q ∧ xs.length = 1) → Q2 xs H1) : tSA P w K (ma1 a) σ H Q2 := by
    obtain ⟨av, Z, env, T, R1, rs, env', e, f⟩ := tS_op h
    refine ⟨av, Z, env, T, R1, rs, env', e, fun H' Z' T' ts R2 rr nd sn kk => hk _ _ ⟨f H' Z' T' ts R2 rr nd sn kk, ?_⟩⟩
    obtain ⟨⟨r, e1⟩, q1, e⟩ := Option.bind_eq_some_iff.mp e
    obtain ⟨⟨rs2, e2⟩, q2, e⟩ := Option.bind_eq_some_iff.mp e
    cases q2
    dsimp only at e
    split at e
    · cases e
      match ts, rr with
      | [t], rr => rfl
      | _ :: _ :: _, rr => exact rr.2.elim
    · cases e
def fLen : List D → Option D
  | [.str x] => if x.length ≤ sizeLine then some (.int x.length) else none
  | [.tup ds] => some (.int ds.length)
  | [.lst _ ds] => some (.int ds.length)
  | _ => none
theorem st_len {x : V} {Q : VK} (h : StepF P w K fLen [x] H Q) : ∃ y n, [x] = [y] ∧ LenV K y H n ∧ Q (.int (n : Nat)) H := by
  obtain ⟨Z, a, s, d, rfl, oa, e, dn⟩ := h.one
  cases a with
  | str z =>
    unfold fLen at e
    dsimp only at e
    split at e
    · rename_i hz
      cases e
      refine ⟨_, z.length, rfl, by rw [oa.str]; exact ⟨hz, rfl⟩, flat_give rfl dn⟩
    · cases e
  | tup ds =>
    cases e
    obtain ⟨p, ep, q, ol⟩ := oa.tup
    refine ⟨_, ds.length, rfl, by rw [ep]; exact .inr ⟨_, q, by rw [List.length_map, ol.length]⟩, flat_give rfl dn⟩
  | lst m ds =>
    cases e
    obtain ⟨p, ep, q, ol⟩ := oa.lst
    refine ⟨_, ds.length, rfl, by rw [ep]; exact .inl ⟨_, q, by rw [List.length_map, ol.length]⟩, flat_give rfl dn⟩
  | _ => cases e
def fAbs : List D → Option D
  | [.int i] => some (.int (if i < 0 then -i else i))
  | _ => none
theorem st_abs {x : V} {Q : VK} (h : StepF P w K fAbs [x] H Q) : ∃ i, [x] = [.int i] ∧ Q (.int (if i < 0 then -i else i)) H := by
  obtain ⟨Z, a, s, d, rfl, oa, e, dn⟩ := h.one
  cases a with
  | int i => cases e; exact ⟨i, by rw [oa.int], flat_give rfl dn⟩
  | _ => cases e
def fInt : List D → Option D
  | [.int i] => some (.int i)
  | [.bl b] => some (.int (if b then 1 else 0))
  | _ => none
theorem st_int {x : V} {Q : VK} (h : StepF P w K fInt [x] H Q) : (∃ i, [x] = [V.int i] ∧ Q (.int i) H) ∨ ∃ k, [x] = [V.bl k] ∧ Q (.int (if k then 1 else 0)) H := by
  obtain ⟨Z, a, s, d, rfl, oa, e, dn⟩ := h.one
  cases a with
  | int i => cases e; exact .inl ⟨i, by rw [oa.int], flat_give rfl dn⟩
  | bl i => cases e; exact .inr ⟨i, by rw [oa.bl], flat_give rfl dn⟩
  | _ => cases e
def fStr : List D → Option D
  | [.int i] => if i.natAbs.log2 < 1920 then some (.str (toString i)) else none
  | _ => none
theorem st_str {x : V} {Q : VK} (h : StepF P w K fStr [x] H Q) : ∃ i : Int, [x] = [.int i] ∧ i.natAbs.log2 < 1920 ∧ Q (.str (toString i)) H := by
  obtain ⟨Z, a, s, d, rfl, oa, e, dn⟩ := h.one
  cases a with
  | int i =>
    unfold fStr at e
    dsimp only at e
    split at e
    · rename_i hz
      cases e; exact ⟨i, by rw [oa.int], hz, flat_give rfl dn⟩
    · cases e
  | _ => cases e
def fList : List D → Option D
  | [d] => d.items.bind fun ds => if D.pureL ds = true then some (.lst true ds) else none
  | _ => none
def fTuple : List D → Option D
  | [d] => d.items.bind fun ds => if D.pureL ds = true then some (.tup ds) else none
  | _ => none
theorem st_list {x : V} {Q : VK} (h : StepF P w K fList [x] H Q) : ∃ p ys, [x] = [V.ref p] ∧ (SqL K H p ys ∨ SqT K H p ys) ∧ ∀ l, H l = none → Q (.ref l) (upd H l (.lst ys)) := by
  obtain ⟨Z, a, s, d, rfl, oa, e, dn⟩ := h.one
  obtain ⟨ds, e1, e⟩ := Option.bind_eq_some_iff.mp e
  obtain ⟨p, ep, q, ol⟩ := oa.seq e1
  by_cases hp : D.pureL ds = true
  · rw [if_pos hp] at e
    cases e
    exact ⟨p, _, by rw [ep], q, fun l hl => lst_give ol hp hl dn⟩
  · rw [if_neg hp] at e; cases e
theorem st_tuple {x : V} {Q : VK} (h : StepF P w K fTuple [x] H Q) : ∃ p ys, [x] = [V.ref p] ∧ ((SqL K H p ys ∧ ∀ l, H l = none → Q (.ref l) (upd H l (.tup ys))) ∨ (SqT K H p ys ∧ Q (.ref p) H)) := by
  obtain ⟨Z, a, s, d, rfl, oa, e, dn⟩ := h.one
  obtain ⟨ds, e1, e⟩ := Option.bind_eq_some_iff.mp e
  by_cases hp : D.pureL ds = true
  · rw [if_pos hp] at e
    cases e
    cases a with
    | tup ds' =>
      cases e1
      obtain ⟨p, ep, q, ol⟩ := oa.tup
      refine ⟨p, _, by rw [ep], .inr ⟨q, ?_⟩⟩
      rw [← ep]
      exact old_give oa (by rw [D.pure]; exact hp) dn
    | lst m ds' =>
      cases e1
      obtain ⟨p, ep, q, ol⟩ := oa.lst
      exact ⟨p, _, by rw [ep], .inl ⟨q, fun l hl => tup_give ol hp hl dn⟩⟩
    | _ => cases e1
  · rw [if_neg hp] at e; cases e
def inD (x c : D) : Option Bool := match x, c with
  | .str i, .str j => some (!(Builtin.Str.occurrences j i 0 j.length 1).isEmpty)
  | x, .dct _ ks _ => if keyOk ks x = true then some (kidx ks x).isSome else none
  | x, c => c.items.bind fun ds => if (x.plain && D.plainL ds && SeqAt.shaped x.toPy && SeqAt.shaped (.list (D.toPyL ds))) = true then some ((D.toPyL ds).any fun z => PyData.eqv z x.toPy) else none
def fIn : List D → Option D
  | [x, c] => (inD x c).map .bl
  | _ => none
def fNotIn : List D → Option D
  | [x, c] => (inD x c).map fun b => .bl (!b)
  | _ => none
def rInG (P : Program) (w : World) (K : PySem.W.Frag) (g : Bool → Bool) : R2 := fun x y H Q => (∃ i j, x = .str i ∧ y = .str j ∧ Q (.bl (g (!(Builtin.Str.occurrences j i 0 j.length 1).isEmpty))) H) ∨
  (∃ a o, y = .ref a ∧ DG P w K H a x o ∧ Q (.bl (g o.isSome)) H) ∨
  (∃ d ds, Dp K H x d ∧ (Dp K H y (.list ds) ∨ Dp K H y (.tuple ds)) ∧ SeqAt.shaped d = true ∧ SeqAt.shaped (.list ds) = true ∧ Q (.bl (g (ds.any fun z => PyData.eqv z d))) H)
theorem kidx_lt {ks : List D} {k : D} {n : Nat} (h : kidx ks k = some n) : n < ks.length := by
  unfold kidx at h
  obtain ⟨hl, _⟩ := List.findIdx?_eq_some_iff_getElem.mp h
  exact hl
theorem dct_len {m : Bool} {ks vs : List D} {t : VT} (o : Own P w K Z H (.dct m ks vs) t) : t.ks.length = ks.length := by
  obtain ⟨a, _, _, _, q, _⟩ := o.dct
  rcases q with ⟨kvs, _, r1, r2⟩ | ⟨xs, _, _, r1, r2, _⟩
  · rw [← List.length_map (f := VT.v), r2, r1, List.length_map, List.length_map]
  · rw [← List.length_map (f := VT.v), r2, r1, List.length_map, List.length_map]
theorem st_in0 {g : Bool → Bool} {a b : D} {s t : VT} {c : Bool} {Q : VK} (oa : Own P w K Z H a s) (ob : Own P w K Z H b t) (e : inD a b = some c) (q : Q (.bl (g c)) H) : rInG P w K g s.v t.v H Q := by
  have seq : ∀ {ds : List D}, b.items = some ds → (if (a.plain && D.plainL ds && SeqAt.shaped a.toPy && SeqAt.shaped (.list (D.toPyL ds))) = true then some ((D.toPyL ds).any fun z => PyData.eqv z a.toPy) else none) = some c → rInG P w K g s.v t.v H Q := fun {ds} e1 e => by
    split at e
    · rename_i hs
      cases e
      simp only [Bool.and_eq_true] at hs
      refine .inr (.inr ⟨_, D.toPyL ds, oa.dp hs.1.1.1, ?_, hs.1.2, hs.2, q⟩)
      cases b with
      | lst m ds' =>
        cases e1
        exact .inl (by have := ob.dp (d := .lst m ds) (by rw [D.plain]; exact hs.1.1.2); rw [D.toPy] at this; exact this)
      | tup ds' =>
        cases e1
        exact .inr (by have := ob.dp (d := .tup ds) (by rw [D.plain]; exact hs.1.1.2); rw [D.toPy] at this; exact this)
      | _ => cases e1
    · cases e
  unfold inD at e
  split at e
  · cases e
    exact .inl ⟨_, _, oa.str, ob.str, q⟩
  · rename_i m ks vs
    split at e
    · rename_i hk
      cases e
      obtain ⟨p, ep, dg⟩ := own_DG ob oa hk
      refine .inr (.inl ⟨p, _, ep, dg, ?_⟩)
      cases hx : kidx ks a with
      | none => rw [hx] at q; exact q
      | some n =>
        rw [hx] at q
        have hl : n < t.ks.length := by rw [dct_len ob]; exact kidx_lt hx
        rw [Option.bind_some, List.getElem?_eq_getElem hl]
        exact q
    · cases e
  · obtain ⟨ds, e1, e⟩ := Option.bind_eq_some_iff.mp e
    exact seq e1 e
theorem st_in {x y : V} {Q : VK} (h : Step P w K (kf fIn) [] [x, y] H Q) : rInG P w K id x y H Q := by
  obtain ⟨Z, a, b, s, t, d, rfl, rfl, oa, ob, e, dn⟩ := h.read.two
  obtain ⟨c, ec, rfl⟩ := Option.map_eq_some_iff.mp (show (inD a b).map .bl = some d from e)
  exact st_in0 oa ob ec (flat_give rfl dn)
theorem st_notIn {x y : V} {Q : VK} (h : Step P w K (kf fNotIn) [] [x, y] H Q) : rInG P w K not x y H Q := by
  obtain ⟨Z, a, b, s, t, d, rfl, rfl, oa, ob, e, dn⟩ := h.read.two
  obtain ⟨c, ec, rfl⟩ := Option.map_eq_some_iff.mp (show ((inD a b).map fun b => D.bl (!b)) = some d from e)
  exact st_in0 oa ob ec (flat_give rfl dn)
end
section
variable {X : Cx} {pos : Pos} {a b c : Expr} {rest : List Expr} {ma mb : ME} {ta tb tc : MT}
theorem op_inG (hu : X.A.units + 65 < cLine) : OpR X (compareOp .In) (rInG X.prog X.w X.K id) := by
  intro pins s σ H x y v u Q I rx ry h
  rcases h with h | ⟨a, o, rfl, dg, q⟩ | ⟨d, ds, hd, he | he, sd, se, q⟩
  · exact op_in_str pins s σ H x y v u Q I rx ry h
  · cases ry
    exact gd_in (by omega) I dg rx fun s' I' => ⟨.bl _, H, I', rfl, q⟩
  · exact op_inD hu pins s σ H x y v u Q I rx ry ⟨d, ds, hd, he, sd, se, q⟩
  · obtain ⟨as, r1⟩ := Dp.reads I d x v hd rx
    obtain ⟨bs, r2⟩ := Dp.reads I (.tuple ds) y u he ry
    exact SeqAt.in_tuple_reads r2 r1 (SeqAt.canLay_of_shaped se) (SeqAt.canLay_of_shaped sd) (room_in_shaped sd hu) ⟨.bl _, H, I, rfl, q⟩
theorem op_notInG (hu : X.A.units + 65 < cLine) : OpR X (compareOp .NotIn) (rInG X.prog X.w X.K not) := by
  intro pins s σ H x y v u Q I rx ry h
  rcases h with h | ⟨a, o, rfl, dg, q⟩ | ⟨d, ds, hd, he | he, sd, se, q⟩
  · exact op_notIn_str pins s σ H x y v u Q I rx ry h
  · cases ry
    exact gd_notIn (by omega) I dg rx fun s' I' => ⟨.bl _, H, I', rfl, q⟩
  · exact op_notInD hu pins s σ H x y v u Q I rx ry ⟨d, ds, hd, he, sd, se, q⟩
  · obtain ⟨as, r1⟩ := Dp.reads I d x v hd rx
    obtain ⟨bs, r2⟩ := Dp.reads I (.tuple ds) y u he ry
    exact SeqAt.notIn_tuple_reads r2 r1 (SeqAt.canLay_of_shaped se) (SeqAt.canLay_of_shaped sd) (room_in_shaped sd hu) ⟨.bl _, H, I, rfl, q⟩
def mIn (a b : ME) : ME := mOp (ma2 a b) (kf fIn) []
def mNotIn (a b : ME) : ME := mOp (ma2 a b) (kf fNotIn) []
theorem se_in (hu : X.A.units + 65 < cLine) (ha : SE X a ma) (hb : SE X b mb) (hm : behindInMarks .In b = false := by rfl) : SE X (.Compare a [.In] [b] pos) (mIn ma mb) := se_cmp (op_inG hu) (fun _ _ _ _ h => st_in h) ha hb hm
theorem se_notIn (hu : X.A.units + 65 < cLine) (ha : SE X a ma) (hb : SE X b mb) (hm : behindInMarks .NotIn b = false := by rfl) : SE X (.Compare a [.NotIn] [b] pos) (mNotIn ma mb) := se_cmp (op_notInG hu) (fun _ _ _ _ h => st_notIn h) ha hb hm
theorem st_inT (hu : X.A.units + 65 < cLine) (ha : SE X a ma) (hb : SE X b mb) (hm : behindInMarks .In b = false := by rfl) : ST X (.Compare a [.In] [b] pos) (mTest (mIn ma mb)) := st_cmpR (op_inG hu) (fun _ _ _ _ h => st_in h) ha hb hm
theorem st_notInT (hu : X.A.units + 65 < cLine) (ha : SE X a ma) (hb : SE X b mb) (hm : behindInMarks .NotIn b = false := by rfl) : ST X (.Compare a [.NotIn] [b] pos) (mTest (mNotIn ma mb)) := st_cmpR (op_notInG hu) (fun _ _ _ _ h => st_notIn h) ha hb hm
theorem sb_val (h : SE X a ma) : SB X a (mTest ma) := ⟨h.weak fun σ H Q q => tS_mono (tTest_of q) fun x H' ⟨k, e, q⟩ => e ▸ q⟩
theorem sb_not (h : SB X a ta) : SB X (.UnaryOp .Not a pos) (mNot ta) := ⟨(pe_not h.pe).weak fun σ H Q q => by
  show tST X.prog X.w X.K ta σ H fun b H' => ∃ c, V.bl b = .bl c ∧ Q (.bl (!c)) H'
  exact tST_mono (tNot_of σ H _ q) fun b H' q => ⟨b, rfl, q⟩⟩
theorem sb_one {op : BoolOp} (h : SB X a ta) : SB X (.BoolOp op [a] pos) ta := ⟨pe_one h.pe⟩
theorem sb_and (h : SB X a ta) (h2 : SB X (.BoolOp .And (b :: rest) pos) tb) : SB X (.BoolOp .And (a :: b :: rest) pos) (mAnd ta tb) := ⟨(pe_and h.pe h2.pe).weak fun σ H Q q => by
  show tST X.prog X.w X.K ta σ H fun x H1 => ∃ c, V.bl x = .bl c ∧ if c = true then tST X.prog X.w X.K tb σ H1 (fun b H' => Q (.bl b) H') else Q (.bl false) H1
  exact tST_mono (tAnd_of σ H _ q) fun x H1 q => ⟨x, rfl, by cases x <;> exact q⟩⟩
theorem sb_or (h : SB X a ta) (h2 : SB X (.BoolOp .Or (b :: rest) pos) tb) : SB X (.BoolOp .Or (a :: b :: rest) pos) (mOr ta tb) := ⟨(pe_or h.pe h2.pe).weak fun σ H Q q => by
  show tST X.prog X.w X.K ta σ H fun x H1 => ∃ c, V.bl x = .bl c ∧ if c = true then Q (.bl true) H1 else tST X.prog X.w X.K tb σ H1 (fun b H' => Q (.bl b) H')
  exact tST_mono (tOr_of σ H _ q) fun x H1 q => ⟨x, rfl, by cases x <;> exact q⟩⟩
theorem SB.se (h : SB X a ta) : SE X a (mVal ta) := h.pe.weak fun σ H Q q => tVal_of q
theorem se_if (hc : ST X c tc) (ha : SE X a ma) (hb : SE X b mb) : SE X (.IfExp c a b pos) (mIfE tc ma mb) := (pe_ifExp hc ha hb).weak fun σ H Q q => tIf_of q
def mF1 (f : List D → Option D) (a : ME) : ME := mOp (ma1 a) (kf f) []
variable {p : Pos}
theorem se_len (ha : SE X a ma) (hg : Gl X "len" := by assumption) (hm : X.mg "len" = none := by rfl) (hs : starEach [a] X.env = (false, eval a X.env) :: starEach [] X.env := by rfl) : SE X (.Call (.Name "len" p) [a] [] pos) (mF1 fLen ma) :=
  (pe_callB call_len hg hm (by decide +kernel) (sa_cons ha sa_nil hs) (by decide) (by decide) hs rfl).weak (tCB1 fun _ _ _ h => st_len h)
theorem se_abs (ha : SE X a ma) (hg : Gl X "abs" := by assumption) (hm : X.mg "abs" = none := by rfl) (hs : starEach [a] X.env = (false, eval a X.env) :: starEach [] X.env := by rfl) : SE X (.Call (.Name "abs" p) [a] [] pos) (mF1 fAbs ma) :=
  (pe_callB call_abs hg hm (by decide +kernel) (sa_cons ha sa_nil hs) (by decide) (by decide) hs rfl).weak (tCB1 fun _ _ _ h => st_abs h)
theorem se_toInt (ha : SE X a ma) (hg : Gl X "int" := by assumption) (hm : X.mg "int" = none := by rfl) (hs : starEach [a] X.env = (false, eval a X.env) :: starEach [] X.env := by rfl) : SE X (.Call (.Name "int" p) [a] [] pos) (mF1 fInt ma) :=
  (pe_callTy call_int1 hg hm (by decide +kernel) (sa_cons ha sa_nil hs) (by decide) (by decide) hs rfl).weak (tCB1 fun _ _ _ h => st_int h)
theorem se_toStr (ha : SE X a ma) (hg : Gl X "str" := by assumption) (hm : X.mg "str" = none := by rfl) (hs : starEach [a] X.env = (false, eval a X.env) :: starEach [] X.env := by rfl) : SE X (.Call (.Name "str" p) [a] [] pos) (mF1 fStr ma) :=
  (pe_callTy call_str_int hg hm (by decide +kernel) (sa_cons ha sa_nil hs) (by decide) (by decide) hs rfl).weak (tCB1 fun _ _ _ h => st_str h)
theorem se_toList (ha : SE X a ma) (hg : Gl X "list" := by assumption) (hm : X.mg "list" = none := by rfl) (hs : starEach [a] X.env = (false, eval a X.env) :: starEach [] X.env := by rfl) : SE X (.Call (.Name "list" p) [a] [] pos) (mF1 fList ma) :=
  (pe_callTy call_list_of hg hm (by decide +kernel) (sa_cons ha sa_nil hs) (by decide) (by decide) hs rfl).weak (tCB1 fun _ _ _ h => st_list h)
theorem se_toTup (ha : SE X a ma) (hg : Gl X "tuple" := by assumption) (hm : X.mg "tuple" = none := by rfl) (hs : starEach [a] X.env = (false, eval a X.env) :: starEach [] X.env := by rfl) : SE X (.Call (.Name "tuple" p) [a] [] pos) (mF1 fTuple ma) :=
  (pe_callTy call_tuple_of hg hm (by decide +kernel) (sa_cons ha sa_nil hs) (by decide) (by decide) hs rfl).weak (tCB1 fun _ _ _ h => st_tuple h)
end
end G
set_option Elab.async false
set_option linter.all false
set_option maxRecDepth 100000
namespace G
open PySem PySem.Spec PyProof.Rows L2
def dPut (ks vs : List D) (k v : D) : List D × List D := match kidx ks k with
  | some n => (ks, vs.set n v)
  | none => (ks ++ [k], vs ++ [v])
def fSetIx : D → List D → Option (D × D)
  | .lst true l, [v, .int i] => (ixN l.length i).map fun n => (.lst true (l.set n v), .non)
  | .dct true ks vs, [v, k] => if keyOk ks k = true ∧ ks.length < sizeLine then some (.dct true (dPut ks vs k v).1 (dPut ks vs k v).2, .non) else none
  | _, _ => none
def rSetG (P : Program) (w : World) (K : PySem.W.Frag) : TSet := fun o i v H Q => rSetL o i v H Q ∨ ∃ a H', o = .ref a ∧ DP P w K H a i v H' ∧ Q H'
theorem map_if_set {α β : Type} {l : List α} {p : α → Prop} [DecidablePred p] {g : α → α} {val : α → β} {n : Nat} {v : β} (hn : ∃ a, l[n]? = some a ∧ p a) (uniq : ∀ i a, l[i]? = some a → p a → i = n) (hv : ∀ a, p a → val (g a) = v) :
    (l.map fun a => if p a then g a else a).map val = (l.map val).set n v := by
  refine List.ext_getElem? fun i => ?_
  rw [List.map_map, List.getElem?_map]
  obtain ⟨a, e, pa⟩ := hn
  have hl := (List.getElem?_eq_some_iff.mp e).1
  by_cases h : n = i
  · subst h
    rw [e, List.getElem?_set_self (by rw [List.length_map]; exact hl)]
    simp [pa, hv a pa]
  · rw [List.getElem?_set_ne h, List.getElem?_map]
    cases q : l[i]? with
    | none => rfl
    | some b =>
      have : ¬ p b := fun z => h (uniq i b q z).symm
      simp [this]
theorem map_if_same {α β : Type} {l : List α} {p : α → Prop} [DecidablePred p] {g : α → α} {val : α → β} (hv : ∀ a, val (g a) = val a) : (l.map fun a => if p a then g a else a).map val = l.map val := by
  rw [List.map_map]
  refine List.map_congr_left fun a _ => ?_
  show val (if p a then g a else a) = val a
  by_cases h : p a
  · rw [if_pos h, hv]
  · rw [if_neg h]
theorem kidx_some {ks : List D} {k : D} {n : Nat} (h : kidx ks k = some n) : ks[n]? = some k := by
  unfold kidx at h
  obtain ⟨hl, h1, _⟩ := List.findIdx?_eq_some_iff_getElem.mp h
  rw [List.getElem?_eq_getElem hl]
  exact congrArg some (of_decide_eq_true h1)
theorem kidx_none {ks : List D} {k : D} (h : kidx ks k = none) : k ∉ ks := by
  unfold kidx at h
  rw [List.findIdx?_eq_none_iff] at h
  intro z
  have := h k z
  simp at this
theorem nd_one {α : Type} {x : α} : [x].Nodup := List.nodup_cons.mpr ⟨(fun z => nomatch z), List.nodup_nil⟩
theorem nodup_ix {ks : List D} (hn : ks.Nodup) {i j : Nat} {k : D} (h1 : ks[i]? = some k) (h2 : ks[j]? = some k) : i = j := by
  obtain ⟨hi, e1⟩ := List.getElem?_eq_some_iff.mp h1
  obtain ⟨hj, e2⟩ := List.getElem?_eq_some_iff.mp h2
  exact (List.getElem_inj hn).mp (e1.trans e2.symm)
section
variable {P : Program} {w : World} {K : PySem.W.Frag} {Z Z' : Addr → Prop} {H H' : Hp} {env env' : En} {T T' : Nat → VT} {σ : L2.St} {av : List (V × D)}
theorem putK_data {kvs : List (Key × V)} {ks : List D} {k : Key} {v : V} (hk : ks = kvs.map fun p => keyS p.1) (hn : ks.Nodup) :
    (∃ n, kidx ks (keyS k) = some n ∧ (putK kvs k v).map (fun p => keyS p.1) = ks ∧ (putK kvs k v).map (·.2) = (kvs.map (·.2)).set n v) ∨
    (kidx ks (keyS k) = none ∧ (putK kvs k v).map (fun p => keyS p.1) = ks ++ [keyS k] ∧ (putK kvs k v).map (·.2) = kvs.map (·.2) ++ [v]) := by
  subst hk
  cases h : kidx (kvs.map fun p => keyS p.1) (keyS k) with
  | some n =>
    have hs := kidx_some h
    rw [List.getElem?_map] at hs
    obtain ⟨p, hp, ep⟩ := Option.map_eq_some_iff.mp hs
    have ep' := keyS_inj ep
    have any : (kvs.any fun kv => decide (kv.1 = k)) = true := List.any_eq_true.mpr ⟨p, List.mem_of_getElem? hp, by simp [ep']⟩
    refine .inl ⟨n, rfl, ?_, ?_⟩
    · unfold putK
      rw [if_pos any]
      exact map_if_same (p := fun kv : Key × V => kv.1 = k) (g := fun kv => (kv.1, v)) (val := fun kv : Key × V => keyS kv.1) fun _ => rfl
    · unfold putK
      rw [if_pos any]
      refine map_if_set (p := fun kv : Key × V => kv.1 = k) (g := fun kv => (kv.1, v)) (val := fun kv : Key × V => kv.2) ⟨p, hp, ep'⟩ (fun i a ha pa => ?_) fun _ _ => rfl
      refine nodup_ix hn (k := keyS k) ?_ (kidx_some h)
      rw [List.getElem?_map, ha]
      show some (keyS a.1) = _
      rw [pa]
  | none =>
    have hs := kidx_none h
    have any : ¬ (kvs.any fun kv => decide (kv.1 = k)) = true := fun z => by
      obtain ⟨p, hp, e⟩ := List.any_eq_true.mp z
      exact hs (List.mem_map.mpr ⟨p, hp, by rw [of_decide_eq_true e]⟩)
    refine .inr ⟨rfl, ?_, ?_⟩
    · unfold putK; rw [if_neg any, List.map_append]; rfl
    · unfold putK; rw [if_neg any, List.map_append]; rfl
theorem valN_isSome {xs : List (NestedKey × Addr × V)} {k : NestedKey} : (valN xs k).isSome = true ↔ ∃ x ∈ xs, x.1 = k := by
  unfold valN
  rw [Option.isSome_map, List.find?_isSome]
  exact ⟨fun ⟨x, h1, h2⟩ => ⟨x, h1, of_decide_eq_true h2⟩, fun ⟨x, h1, h2⟩ => ⟨x, h1, decide_eq_true h2⟩⟩
theorem putN_data {xs : List (NestedKey × Addr × V)} {ks : List D} {k : NestedKey} {b : Addr} {v : V} (hk : ks = xs.map fun p => keyD p.1) (hn : ks.Nodup) :
    (∃ n, kidx ks (keyD k) = some n ∧ (putN xs k b v).map (fun p => keyD p.1) = ks ∧ (putN xs k b v).map (·.2.2) = (xs.map (·.2.2)).set n v) ∨
    (kidx ks (keyD k) = none ∧ (putN xs k b v).map (fun p => keyD p.1) = ks ++ [keyD k] ∧ (putN xs k b v).map (·.2.2) = xs.map (·.2.2) ++ [v]) := by
  subst hk
  cases h : kidx (xs.map fun p => keyD p.1) (keyD k) with
  | some n =>
    have hs := kidx_some h
    rw [List.getElem?_map] at hs
    obtain ⟨p, hp, ep⟩ := Option.map_eq_some_iff.mp hs
    have ep' := keyD_inj ep
    have any : (valN xs k).isSome = true := valN_isSome.mpr ⟨p, List.mem_of_getElem? hp, ep'⟩
    refine .inl ⟨n, rfl, ?_, ?_⟩
    · unfold putN
      rw [if_pos any]
      exact map_if_same (p := fun kv : NestedKey × Addr × V => kv.1 = k) (g := fun kv => (kv.1, kv.2.1, v)) (val := fun kv : NestedKey × Addr × V => keyD kv.1) fun _ => rfl
    · unfold putN
      rw [if_pos any]
      refine map_if_set (p := fun kv : NestedKey × Addr × V => kv.1 = k) (g := fun kv => (kv.1, kv.2.1, v)) (val := fun kv : NestedKey × Addr × V => kv.2.2) ⟨p, hp, ep'⟩ (fun i a ha pa => ?_) fun _ _ => rfl
      refine nodup_ix hn (k := keyD k) ?_ (kidx_some h)
      rw [List.getElem?_map, ha]
      show some (keyD a.1) = _
      rw [pa]
  | none =>
    have hs := kidx_none h
    have any : ¬ (valN xs k).isSome = true := fun z => by
      obtain ⟨p, hp, e⟩ := valN_isSome.mp z
      exact hs (List.mem_map.mpr ⟨p, hp, by rw [e]⟩)
    refine .inr ⟨rfl, ?_, ?_⟩
    · unfold putN; rw [if_neg any, List.map_append]; rfl
    · unfold putN; rw [if_neg any, List.map_append]; rfl
theorem putN_keys {xs : List (NestedKey × Addr × V)} {k : NestedKey} {b : Addr} {v : V} {Pr : NestedKey → Addr → Prop} (h : ∀ x ∈ xs, Pr x.1 x.2.1) (hk : Pr k b) : ∀ x ∈ putN xs k b v, Pr x.1 x.2.1 := by
  unfold putN
  split
  · intro x hx
    obtain ⟨y, hy, rfl⟩ := List.mem_map.mp hx
    by_cases e : y.1 = k
    · rw [if_pos e]; exact h y hy
    · rw [if_neg e]; exact h y hy
  · intro x hx
    rcases List.mem_append.mp hx with hx | hx
    · exact h x hx
    · rw [List.mem_singleton.mp hx]; exact hk
theorem putN_ne {xs : List (NestedKey × Addr × V)} {k : NestedKey} {b : Addr} {v : V} : putN xs k b v ≠ [] := by
  unfold putN
  split
  · rename_i h
    obtain ⟨x, hx, _⟩ := valN_isSome.mp h
    intro z
    rw [List.map_eq_nil_iff] at z
    rw [z] at hx; cases hx
  · simp
theorem own_put {ks vs : List D} {k v : D} {t tk tv : VT} {a : Addr} (o : Own P w K Z H (.dct true ks vs) t) (ok : Own P w K Z H k tk) (ov : Own P w K Z H v tv) (hk : keyOk ks k = true) (hl : ks.length < sizeLine) (ea : t.v = .ref a)
    (nd : (a :: (fpL vs t.ks ++ fp v tv)).Nodup) (nz : ¬ Z a) :
    ∃ H' ks', DP P w K H a tk.v tv.v H' ∧ Kp (fun b => b = a) H H' ∧ Own P w K Z H' (.dct true (dPut ks vs k v).1 (dPut ks vs k v).2) (.mk (.ref a) ks') ∧ (fpL (dPut ks vs k v).2 ks').Nodup ∧ ∀ b ∈ fpL (dPut ks vs k v).2 ks', b ∈ fpL vs t.ks ∨ b ∈ fp v tv := by
  obtain ⟨a', ea', _, hn, q, ol⟩ := o.dct
  rw [ea] at ea'; cases ea'
  obtain ⟨na, nd2⟩ := List.nodup_cons.mp nd
  obtain ⟨nd3, nd4, dis⟩ := List.nodup_append.mp nd2
  have zz : ∀ b, Z b → ¬ b = a := fun b z e => nz (e ▸ z)
  have len := dct_len o
  -- the new values
  have vals : ∀ {o' : HO}, Kp (fun b => b = a) H (upd H a o') → OwnL P w K Z (upd H a o') vs t.ks ∧ Own P w K Z (upd H a o') v tv := fun kp =>
    ⟨ol.frame kp zz (fun _ z => z) fun b hb e => na (e ▸ List.mem_append_left _ hb), ov.frame kp zz (fun _ z => z) fun b hb e => na (e ▸ List.mem_append_right _ hb)⟩
  have setF : ∀ {n : Nat}, n < t.ks.length → (fpL (vs.set n v) (t.ks.set n tv)).Nodup ∧ ∀ b ∈ fpL (vs.set n v) (t.ks.set n tv), b ∈ fpL vs t.ks ∨ b ∈ fp v tv := fun {n} hn => by
    have e1 : t.ks[n]? = some t.ks[n] := List.getElem?_eq_getElem hn
    have hn2 : n < vs.length := by rw [ol.length]; exact hn
    obtain ⟨pre, post, f1, f2⟩ := fpL_split (List.getElem?_eq_getElem hn2) e1
    have nd3' := nd3
    have dis' := dis
    rw [f1] at nd3' dis'
    rw [f2, f1]
    obtain ⟨m1, m2, m3⟩ := List.nodup_append.mp nd3'
    obtain ⟨m4, m5, m6⟩ := List.nodup_append.mp m1
    refine ⟨List.nodup_append.mpr ⟨List.nodup_append.mpr ⟨m4, nd4, fun b hb c hc => dis' b (List.mem_append_left _ (List.mem_append_left _ hb)) c hc⟩, m2, fun b hb c hc e => ?_⟩, fun b hb => ?_⟩
    · rcases List.mem_append.mp hb with hb | hb
      · exact m3 b (List.mem_append_left _ hb) c hc e
      · exact dis' c (List.mem_append_right _ hc) b hb e.symm
    · rcases List.mem_append.mp hb with hb | hb
      · rcases List.mem_append.mp hb with hb | hb
        · exact .inl (List.mem_append_left _ (List.mem_append_left _ hb))
        · exact .inr hb
      · exact .inl (List.mem_append_right _ hb)
  have appF : (fpL (vs ++ [v]) (t.ks ++ [tv])).Nodup ∧ ∀ b ∈ fpL (vs ++ [v]) (t.ks ++ [tv]), b ∈ fpL vs t.ks ∨ b ∈ fp v tv := by
    rw [fpL_append ol.length, fpL_one]
    exact ⟨nd2, fun b hb => List.mem_append.mp hb⟩
  -- the end, from the new object
  have fin : ∀ {o' : HO}, Kp (fun b => b = a) H (upd H a o') → DP P w K H a tk.v tv.v (upd H a o') →
      ((∃ n, kidx ks k = some n ∧ (∀ us : List VT, us.map VT.v = ((t.ks.map VT.v).set n tv.v) → OwnL P w K Z (upd H a o') (vs.set n v) us → Own P w K Z (upd H a o') (.dct true ks (vs.set n v)) (.mk (.ref a) us))) ∨
       (kidx ks k = none ∧ (∀ us : List VT, us.map VT.v = (t.ks.map VT.v ++ [tv.v]) → OwnL P w K Z (upd H a o') (vs ++ [v]) us → Own P w K Z (upd H a o') (.dct true (ks ++ [k]) (vs ++ [v])) (.mk (.ref a) us)))) →
      ∃ H' ks', DP P w K H a tk.v tv.v H' ∧ Kp (fun b => b = a) H H' ∧ Own P w K Z H' (.dct true (dPut ks vs k v).1 (dPut ks vs k v).2) (.mk (.ref a) ks') ∧ (fpL (dPut ks vs k v).2 ks').Nodup ∧ ∀ b ∈ fpL (dPut ks vs k v).2 ks', b ∈ fpL vs t.ks ∨ b ∈ fp v tv := fun {o'} kp dp h => by
    obtain ⟨v1, v2⟩ := vals kp
    rcases h with ⟨n, e, h⟩ | ⟨e, h⟩
    · have hn2 : n < t.ks.length := by rw [len]; exact kidx_lt e
      refine ⟨_, t.ks.set n tv, dp, kp, ?_⟩
      unfold dPut
      rw [e]
      exact ⟨h _ (by rw [List.map_set]) (v1.set v2), setF hn2⟩
    · refine ⟨_, t.ks ++ [tv], dp, kp, ?_⟩
      unfold dPut
      rw [e]
      exact ⟨h _ (by rw [List.map_append]; rfl) (v1.append (by rw [OwnL, OwnL]; exact ⟨v2, trivial⟩)), appF⟩
  unfold keyOk at hk
  rcases q with ⟨kvs, q, r1, r2⟩ | ⟨xs, q0, q, r1, r2, r3⟩
  · cases hkk : k.toK with
    | some key =>
      have ek := toK_eq hkk
      subst ek
      have kp : Kp (fun b => b = a) H (upd H a (.dK (putK kvs key tv.v))) := kp_upd rfl fun u e => by rw [q] at e; cases e; trivial
      refine fin kp (.inl ⟨kvs, key, q, ?_, ?_, rfl⟩) ?_
      · cases key with
        | inl i => exact ok.int
        | inr x => exact ok.str
      · have : ks.length = kvs.length := by rw [r1, List.length_map]
        omega
      · rcases putK_data (k := key) (v := tv.v) r1 hn with ⟨n, e, h1, h2⟩ | ⟨e, h1, h2⟩
        · refine .inl ⟨n, e, fun us hu ou => ?_⟩
          rw [Own]
          exact ⟨a, rfl, fun z => (nomatch z), hn, .inl ⟨_, upd_same, h1.symm, by rw [hu, r2]; exact h2.symm⟩, ou⟩
        · refine .inr ⟨e, fun us hu ou => ?_⟩
          rw [Own]
          refine ⟨a, rfl, fun z => (nomatch z), ?_, .inl ⟨_, upd_same, h1.symm, by rw [hu, r2]; exact h2.symm⟩, ou⟩
          exact List.nodup_append.mpr ⟨hn, nd_one, fun x hx y hy e2 => kidx_none e (by rw [← List.mem_singleton.mp hy, ← e2]; exact hx)⟩
    | none =>
      rw [hkk] at hk
      cases hnn : k.toN with
      | none => rw [hnn] at hk; cases hk
      | some n =>
        rw [hnn] at hk
        simp only [Bool.and_eq_true, decide_eq_true_eq, List.all_eq_true] at hk
        have e0 : kvs = [] := by
          cases kvs with
          | nil => rfl
          | cons p r =>
            have h2 := hk.2 (keyS p.1) (by rw [r1]; exact List.mem_cons_self)
            cases hp : p.1 <;> rw [hp] at h2 <;> cases h2
        subst e0
        have ek := toN_eq hnn
        subst ek
        have dp := ok.key
        have hb : ∃ b, tk.v = .ref b := by
          cases n with
          | tup l => rw [keyD] at ok; obtain ⟨b, e, _⟩ := ok.tup; exact ⟨b, e⟩
          | none => rw [keyD] at hk; cases hk.1.1
          | num i => rw [keyD] at hk; cases hk.1.1
          | text x => rw [keyD] at hk; cases hk.1.1
        obtain ⟨b, eb⟩ := hb
        rw [eb] at dp
        have kp : Kp (fun b => b = a) H (upd H a (dN P w a (putN [] n b tv.v))) := kp_upd rfl fun u e => by rw [q] at e; cases e; trivial
        rw [show ks = [] from r1] at *
        refine fin kp (.inr ⟨[], n, b, ⟨.inr ⟨rfl, q⟩, fun _ z => nomatch z⟩, eb, dp, hk.1.2, by rw [sizeLine_eq]; decide, rfl⟩) (.inr ⟨rfl, fun us hu ou => ?_⟩)
        rw [Own]
        have t0 : t.ks = [] := List.map_eq_nil_iff.mp r2
        refine ⟨a, rfl, fun z => (nomatch z), nd_one, .inr ⟨putN [] n b tv.v, putN_ne, upd_same, rfl, by rw [hu, t0]; rfl, fun x hx => ?_⟩, ou⟩
        have : x = (n, b, tv.v) := List.mem_singleton.mp hx
        subst this
        exact ⟨Kp.key kp dp, hk.1.2⟩
  · cases hkk : k.toK with
    | some key =>
      rw [hkk] at hk
      simp only [List.all_eq_true] at hk
      exfalso
      cases xs with
      | nil => exact q0 rfl
      | cons p r =>
        have h2 := hk (keyD p.1) (by rw [r1]; exact List.mem_cons_self)
        obtain ⟨l, el⟩ := dp_tup (r3 p List.mem_cons_self).1
        rw [el, keyD] at h2
        cases h2
    | none =>
      rw [hkk] at hk
      cases hnn : k.toN with
      | none => rw [hnn] at hk; cases hk
      | some n =>
        rw [hnn] at hk
        simp only [Bool.and_eq_true, decide_eq_true_eq, List.all_eq_true] at hk
        have ek := toN_eq hnn
        subst ek
        have dp := ok.key
        have hb : ∃ b, tk.v = .ref b := by
          cases n with
          | tup l => rw [keyD] at ok; obtain ⟨b, e, _⟩ := ok.tup; exact ⟨b, e⟩
          | none => rw [keyD] at hk; cases hk.1.1
          | num i => rw [keyD] at hk; cases hk.1.1
          | text x => rw [keyD] at hk; cases hk.1.1
        obtain ⟨b, eb⟩ := hb
        rw [eb] at dp
        have kp : Kp (fun b => b = a) H (upd H a (dN P w a (putN xs n b tv.v))) := kp_upd rfl fun u e => by rw [q] at e; cases e; trivial
        have keys : ∀ x ∈ putN xs n b tv.v, Dp K (upd H a (dN P w a (putN xs n b tv.v))) (.ref x.2.1) x.1.data ∧ x.1.depth ≤ 8 :=
          putN_keys (Pr := fun k b' => Dp K (upd H a (dN P w a (putN xs n b tv.v))) (.ref b') k.data ∧ k.depth ≤ 8) (fun x hx => ⟨Kp.key kp (r3 x hx).1, (r3 x hx).2⟩) ⟨Kp.key kp dp, hk.1.2⟩
        refine fin kp (.inr ⟨xs, n, b, ⟨.inl q, r3⟩, eb, dp, hk.1.2, ?_, rfl⟩) ?_
        · have : ks.length = xs.length := by rw [r1, List.length_map]
          omega
        · rcases putN_data (k := n) (b := b) (v := tv.v) r1 hn with ⟨m, e, h1, h2⟩ | ⟨e, h1, h2⟩
          · refine .inl ⟨m, e, fun us hu ou => ?_⟩
            rw [Own]
            exact ⟨a, rfl, fun z => (nomatch z), hn, .inr ⟨_, putN_ne, upd_same, h1.symm, by rw [hu, r2]; exact h2.symm, keys⟩, ou⟩
          · refine .inr ⟨e, fun us hu ou => ?_⟩
            rw [Own]
            refine ⟨a, rfl, fun z => (nomatch z), ?_, .inr ⟨_, putN_ne, upd_same, h1.symm, by rw [hu, r2]; exact h2.symm, keys⟩, ou⟩
            exact List.nodup_append.mpr ⟨hn, nd_one, fun x hx y hy e2 => kidx_none e (by rw [← List.mem_singleton.mp hy, ← e2]; exact hx)⟩
end
end G
set_option Elab.async false
set_option linter.all false
set_option maxRecDepth 100000
namespace G
open PySem PySem.Spec PyProof.Rows L2
def mAsgIx (ms : List Nat) (e o i : ME) : MS := ⟨(maCons e (maCons o (maCons i maNil))).ms ++ ms, fun env => ((maCons e (maCons o (maCons i maNil))).run env).bind fun x => match x.1 with
  | [v, p, k] => (kCh fSetIx ms [p, v, k] x.2).map fun y => (.nx, y.2)
  | _ => none⟩
def mUnp (g : MG) (m : ME) : MS := ⟨m.ms ++ g.ms, fun env => (m.run env).bind fun x => (x.1.get x.2).bind fun d => (g.run d x.2).map fun e => (.nx, e)⟩
def mAug (f : Int → Int → Int) (i : Nat) (m : ME) : MS := ⟨m.ms ++ [i], fun env => match dAt env i with
  | some (.int a) => (m.run env).bind fun x => (x.1.get x.2).bind fun d => match d with
    | .int b => if i < x.2.length then some (.nx, x.2.set i (.val (.int (f a b)))) else none
    | _ => none
  | _ => none⟩
section
variable {P : Program} {w : World} {K : PySem.W.Frag} {Z Z' : Addr → Prop} {H H' : Hp} {env env' : En} {T T' : Nat → VT} {σ : L2.St} {av : List (V × D)}
theorem OwnL.three {a b : D} {ts : List VT} (h : OwnL P w K Z H [a, b] ts) : ∃ t u, ts = [t, u] ∧ Own P w K Z H a t ∧ Own P w K Z H b u := h.two'
theorem st_setIx {ms : List Nat} {o i v : V} {Q : Hp → Prop} (h : Step P w K (kCh fSetIx ms) ms [o, v, i] H fun _ H' => Q H') : rSetG P w K o i v H Q := by
  obtain ⟨Z, c, ds, tc, ts, c', r, rfl, ets, oc, od, nd, np, e, nz, dn⟩ := h.chg
  unfold fSetIx at e
  split at e
  · rename_i l y k
    obtain ⟨n, en, e⟩ := Option.map_eq_some_iff.mp e
    cases e
    obtain ⟨tv, ti, rfl, otv, oti⟩ := od.two'
    simp only [List.map_cons, List.map_nil, List.cons.injEq, and_true] at ets
    obtain ⟨rfl, rfl⟩ := ets
    obtain ⟨a, ea, ha, ol⟩ := oc.lstM
    rw [nd_lst ea] at nd nz dn
    have fe : fpL [y, D.int k] [tv, ti] = fp y tv := by rw [fpL, fpL_one, show fp (D.int k) ti = [] by rw [fp], List.append_nil]
    rw [fe, List.cons_append] at nd nz
    rw [fe] at dn
    obtain ⟨na, nd'⟩ := List.nodup_cons.mp nd
    have hn : n < l.length := (ixN_seq en).2.1
    have hn2 : n < tc.ks.length := by rw [← ol.length]; exact hn
    refine .inl ⟨a, _, k, n, ea, oti.int, ha, by rw [List.length_map, ← ol.length]; exact en, ?_⟩
    obtain ⟨pre, post, f1, f2⟩ := fpL_split (List.getElem?_eq_getElem hn) (List.getElem?_eq_getElem hn2)
    have kp1 : Kp (fun b => b = a) H (upd H a (.lst ((tc.ks.map VT.v).set n tv.v))) := kp_upd rfl fun u e => by rw [ha] at e; cases e; trivial
    have zz : ∀ b, Z b → ¬ b = a := fun b z e => nz a List.mem_cons_self (e ▸ z)
    have fe2 : fp (.lst true (l.set n y)) (.mk (.ref a) (tc.ks.set n tv)) = a :: fpL (l.set n y) (tc.ks.set n tv) := by rw [fp, vad, List.singleton_append]
    obtain ⟨nd3, nd4, dis⟩ := List.nodup_append.mp nd'
    have nd3' := nd3
    have dis' := dis
    rw [f1] at nd3' dis'
    obtain ⟨m1, m2, m3⟩ := List.nodup_append.mp nd3'
    obtain ⟨m4, m5, m6⟩ := List.nodup_append.mp m1
    have mem : ∀ b ∈ fpL (l.set n y) (tc.ks.set n tv), b ∈ fpL l tc.ks ∨ b ∈ fp y tv := fun b hb => by
      rw [f2] at hb
      rw [f1]
      rcases List.mem_append.mp hb with hb | hb
      · rcases List.mem_append.mp hb with hb | hb
        · exact .inl (List.mem_append_left _ (List.mem_append_left _ hb))
        · exact .inr hb
      · exact .inl (List.mem_append_right _ hb)
    refine dn _ (.mk (.ref a) (tc.ks.set n tv)) (.mk .non []) (kp1.mono fun b h => h ▸ List.mem_cons_self) ?_ ea.symm own_non ?_ fun b hb => .inl ?_
    · rw [Own]
      refine ⟨a, rfl, by rw [upd_same, List.map_set], ?_⟩
      exact (ol.frame kp1 zz (fun _ z => z) fun b hb e => na (e ▸ List.mem_append_left _ hb)).set (otv.frame kp1 zz (fun _ z => z) fun b hb e => na (e ▸ List.mem_append_right _ hb))
    · rw [fe2, fp_non, List.append_nil]
      refine List.nodup_cons.mpr ⟨fun z => na (List.mem_append.mpr (mem a z)), ?_⟩
      rw [f2]
      refine List.nodup_append.mpr ⟨List.nodup_append.mpr ⟨m4, nd4, fun b hb c hc => dis' b (List.mem_append_left _ (List.mem_append_left _ hb)) c hc⟩, m2, fun b hb c hc e => ?_⟩
      rcases List.mem_append.mp hb with hb | hb
      · exact m3 b (List.mem_append_left _ hb) c hc e
      · exact dis' c (List.mem_append_right _ hc) b hb e.symm
    · rw [fe2, fp_non, List.append_nil] at hb
      rw [List.cons_append]
      rcases List.mem_cons.mp hb with rfl | hb
      · exact List.mem_cons_self
      · exact List.mem_cons_of_mem _ (List.mem_append.mpr (mem b hb))
  · rename_i ks vs y k
    split at e
    · rename_i hk
      cases e
      obtain ⟨tv, ti, rfl, otv, oti⟩ := od.two'
      simp only [List.map_cons, List.map_nil, List.cons.injEq, and_true] at ets
      obtain ⟨rfl, rfl⟩ := ets
      obtain ⟨a, ea, _, _, _, ol⟩ := oc.dct
      have ft : fp (.dct true ks vs) tc = a :: fpL vs tc.ks := by
        cases tc with
        | mk v0 ks0 =>
          rw [fp]
          rw [show v0 = V.ref a from ea, vad, List.singleton_append]; rfl
      have key0 : fp k ti = [] := by
        refine fp_pure ?_
        have := hk.1
        unfold keyOk at this
        cases hkk : k.toK with
        | some key =>
          rw [toK_eq hkk]
          cases key <;> rfl
        | none =>
          rw [hkk] at this
          cases hnn : k.toN with
          | none => rw [hnn] at this; cases this
          | some n => rw [toN_eq hnn]; exact keyD_pure n
      have fe : fpL [y, k] [tv, ti] = fp y tv := by rw [fpL, fpL_one, key0, List.append_nil]
      rw [ft, fe, List.cons_append] at nd nz
      rw [ft, fe] at dn
      obtain ⟨H', ks', dp, kp, ow, nd2, sub⟩ := own_put oc oti otv hk.1 hk.2 ea nd (nz a List.mem_cons_self)
      refine .inr ⟨a, H', ea, dp, ?_⟩
      have fe2 : fp (.dct true (dPut ks vs k y).1 (dPut ks vs k y).2) (.mk (.ref a) ks') = a :: fpL (dPut ks vs k y).2 ks' := by rw [fp, vad, List.singleton_append]
      obtain ⟨na, _⟩ := List.nodup_cons.mp nd
      refine dn _ (.mk (.ref a) ks') (.mk .non []) (kp.mono fun b h => h ▸ List.mem_cons_self) ow ea.symm own_non ?_ fun b hb => .inl ?_
      · rw [fe2, fp_non, List.append_nil]
        exact List.nodup_cons.mpr ⟨fun z => na (List.mem_append.mpr (sub a z)), nd2⟩
      · rw [fe2, fp_non, List.append_nil] at hb
        rw [List.cons_append]
        rcases List.mem_cons.mp hb with rfl | hb
        · exact List.mem_cons_self
        · exact List.mem_cons_of_mem _ (List.mem_append.mpr (sub b hb))
    · cases e
  · cases e
where
  keyD_pure : ∀ n : NestedKey, (keyD n).pure = true
    | .none => by rw [keyD]; rfl
    | .num _ => by rw [keyD]; rfl
    | .text _ => by rw [keyD]; rfl
    | .tup ks => by rw [keyD, D.pure]; exact keyDL_pure ks
  keyDL_pure : ∀ ns : List NestedKey, D.pureL (keyDL ns) = true
    | [] => by rw [keyDL, D.pureL]
    | n :: ns => by rw [keyDL, D.pureL, keyD_pure n, keyDL_pure ns]; rfl
theorem tAsgIx_of {ms : List Nat} {e o i : ME} : ∀ D σ H, tSS P w K (mAsgIx ms e o i) D σ H → tAsg (tS P w K e) (gSub (tS P w K o) (tS P w K i) (rSetG P w K)) D σ H := by
  rintro D σ H ⟨av, Z, env, T, R1, fl, env', e0, f⟩
  obtain ⟨⟨rs, e1⟩, q1, e0⟩ := Option.bind_eq_some_iff.mp e0
  have main : tSA P w K (maCons e (maCons o (maCons i maNil))) σ H fun xs H1 => ∀ x y z, xs = [x, y, z] → rSetG P w K y z x H1 fun H2 => D.nx σ H2 := by
    refine ⟨av, Z, env, T, R1, rs, e1, q1, fun H1 Z1 T1 ts R2 rr nd sn kk => ?_⟩
    rintro x y z ez
    dsimp only at e0
    match rs, ts, rr, e0, ez with
    | [v, p, k], [tv, tp, tk], rr, e0, ez =>
      simp only [List.map_cons, List.map_nil, List.cons.injEq, and_true] at ez
      obtain ⟨rfl, rfl, rfl⟩ := ez
      obtain ⟨⟨r, e2⟩, q2, e0⟩ := Option.map_eq_some_iff.mp e0
      cases e0
      have hr0 : rfp p tp = [] := by
        cases p with
        | v _ => cases q2
        | p _ _ => rfl
      have fe : rfpL [p, v, k] [tp, tv, tk] = rfpL [v, p, k] [tv, tp, tk] := by rw [rfpL, rfpL, rfpL, rfpL, rfpL, rfpL, rfpL, hr0]; simp
      refine st_setIx ⟨av, Z1, e1, T1, σ, [p, v, k], [tp, tv, tk], r, _, rfl, R2, ⟨rr.2.1, rr.1, rr.2.2⟩, by rw [fe]; exact nd, q2, ?_⟩
      intro H2 Z2 T2 t R3 rr3 nd3 sn2 kk2
      refine f σ H2 Z2 T2 R3 ?_ (kk.trans kk2)
      rw [fe] at sn2
      exact sn.trans (sn2.weak fun a h => .inl h)
    | [], [], rr, e0, ez => cases ez
    | [_], [_], rr, e0, ez => cases e0
    | [_, _], [_, _], rr, e0, ez => cases e0
  refine tS_mono (tSA_cons main) fun x H1 h1 => ?_
  refine tS_mono (tSA_cons h1) fun y H2 h2 => ?_
  refine tS_mono (tSA_cons h2) fun z H3 h3 => ?_
  exact tSA_nil h3 x y z rfl
theorem tUnp_of {g : MG} {m : ME} : ∀ D σ H, tSS P w K (mUnp g m) D σ H → tAsg (tS P w K m) (tSG P w K g) D σ H := by
  rintro D σ H ⟨av, Z, env, T, R1, fl, env', e, f⟩
  obtain ⟨⟨r, e1⟩, q1, e⟩ := Option.bind_eq_some_iff.mp e
  obtain ⟨d, q2, e⟩ := Option.bind_eq_some_iff.mp e
  obtain ⟨e2, q3, e⟩ := Option.map_eq_some_iff.mp e
  cases e
  refine ⟨av, Z, env, T, R1, r, e1, q1, fun H' Z' T' t R2 rr nd sn kk => ?_⟩
  refine ⟨av, Z', e1, T', d, t, R2, rfl, R2.at rr q2, _, q3, fun σ2 T2 R3 h3 k3 _ => f σ2 H' Z' T2 R3 ?_ (kk.trans k3)⟩
  exact sn.weak fun a h => .inl (h3 a h)
theorem tAug_of {fn : Int → Int → Int} {i : Nat} {m : ME} : ∀ D σ H, tSS P w K (mAug fn i m) D σ H → tAug i (tS P w K m) (ipI fn) D σ H := by
  rintro D σ H ⟨av, Z, env, T, R1, fl, env', e, f⟩
  unfold mAug at e
  dsimp only at e
  split at e
  · rename_i a ha
    obtain ⟨⟨r, e1⟩, q1, e⟩ := Option.bind_eq_some_iff.mp e
    obtain ⟨d, q2, e⟩ := Option.bind_eq_some_iff.mp e
    obtain ⟨h1, h2⟩ := R1.own i _ ha
    refine ⟨_, h1, av, Z, env, T, R1, r, e1, q1, fun H' Z' T' t R2 rr nd sn kk => ?_⟩
    cases d with
    | int b =>
      dsimp only at e
      split at e
      · rename_i hi
        cases e
        refine ⟨a, b, h2.int, (R2.at rr q2).int, ?_⟩
        have o : Own P w K Z' H' (.int (fn a b)) (.mk (.int (fn a b)) []) := by rw [Own]; rfl
        have p0 : fp (.int (fn a b)) (.mk (.int (fn a b)) []) = [] := by rw [fp]
        obtain ⟨R3, hf, k3⟩ := R2.set o (by rw [p0]; exact List.nodup_nil) (by rw [p0]; exact fun _ z => nomatch z) hi
        refine f _ H' Z' _ R3 (sn.weak fun a h => ?_) (kk.trans k3)
        rcases hf a h with h | h
        · exact .inl h
        · rw [p0] at h; cases h
      · cases e
    | _ => cases e
  · cases e
end
section
variable {X : Cx} {pos tpos : Pos} {a b c : Expr} {ma mb mc : ME} {g : MG}
theorem set_G (hu : X.A.units + 9 < cLine) : PSet X (rSetG X.prog X.w X.K) := by
  intro pins s σ H o i v ov iv u Q I ro ri rv h
  rcases h with h | ⟨a, H', rfl, dp, q⟩
  · exact set_list pins s σ H o i v ov iv u Q I ro ri rv h
  · cases ro
    exact gd_setItem hu I dp ri rv fun s' I' => ⟨H', I', q⟩
theorem ss_setIx (ms : List Nat) (hu : X.A.units + 9 < cLine) (he : SE X c mc) (ho : SE X a ma) (hi : SE X b mb) (hs : swapsWithSole [.Subscript a b tpos] c pos.line X.env = pure false := by rfl) (hw : swappedStores [.Subscript a b tpos] c X.env = pure none := by rfl)
    (h1 : (assignEach [.Subscript a b tpos] X.env).map (·.2) = [assign (.Subscript a b tpos) X.env] := by rfl)
    (hb : ∀ v, assign (.Subscript a b tpos) X.env v = (do
      let ov ← holding [v] (eval a X.env)
      let iv ← holding [v, ov] (eval b X.env)
      standAt tpos
      holding [v, ov, iv] (setItem ov iv v)
      release [v, ov, iv] []) := by intro _; rfl) : SS X (.Assign [.Subscript a b tpos] c pos) (mAsgIx ms mc ma mb) :=
  (ps_asg he (pg_sub ho hi (set_G hu) hb) hs hw h1).weak tAsgIx_of
theorem ss_unp {tg : Expr} (he : SE X c mc) (hg : SG X tg g) (hs : swapsWithSole [tg] c pos.line X.env = pure false := by rfl) (hw : swappedStores [tg] c X.env = pure none := by rfl) (h1 : (assignEach [tg] X.env).map (·.2) = [assign tg X.env] := by rfl) :
    SS X (.Assign [tg] c pos) (mUnp g mc) := (ps_asg he hg hs hw h1).weak tUnp_of
theorem ss_augAdd {x : Str} (i : Nat) (hN : X.N.Nodup) (h : SE X a ma) (hi : X.N[i]? = some x := by rfl) (hx : Loc X.env.scope x := by first | exact Or.inl rfl | exact Or.inr rfl)
    (hf : X.fn x = true ∨ X.env.scope.names.lookup x = some .local := by first | exact .inl rfl | exact .inr rfl) : SS X (.AugAssign (.Name x tpos) .Add a pos) (mAug (fun i j => i + j) i ma) := (ps_aug hN hi hx h ip_add hf).weak tAug_of
theorem ss_augSub {x : Str} (i : Nat) (hN : X.N.Nodup) (h : SE X a ma) (hi : X.N[i]? = some x := by rfl) (hx : Loc X.env.scope x := by first | exact Or.inl rfl | exact Or.inr rfl)
    (hf : X.fn x = true ∨ X.env.scope.names.lookup x = some .local := by first | exact .inl rfl | exact .inr rfl) : SS X (.AugAssign (.Name x tpos) .Sub a pos) (mAug (fun i j => i - j) i ma) := (ps_aug hN hi hx h ip_sub hf).weak tAug_of
end
end G
set_option Elab.async false
set_option linter.all false
set_option maxRecDepth 100000
namespace G
open PySem PySem.Spec PyProof.Rows L2
def cutD (ds : List D) (lo hi : Option Int) : List D := (ds.drop (HT.sIx ds.length 0 lo)).take (HT.sIx ds.length ds.length hi - HT.sIx ds.length 0 lo)
def fCut (d : D) (lo hi : Option Int) : Option D := match d with
  | .str z => if z.length ≤ sizeLine then some (.str (cutS z lo hi)) else none
  | .lst _ ds => if D.pureL ds = true then some (.lst true (cutD ds lo hi)) else none
  | .tup ds => if D.pureL ds = true then some (.tup (cutD ds lo hi)) else none
  | _ => none
def fSl0 : List D → Option D
  | [d] => fCut d none none
  | _ => none
def fSlL : List D → Option D
  | [d, .int i] => fCut d (some i) none
  | _ => none
def fSlH : List D → Option D
  | [d, .int i] => fCut d none (some i)
  | _ => none
def fSlLH : List D → Option D
  | [d, .int i, .int j] => fCut d (some i) (some j)
  | _ => none
def rSlG (K : PySem.W.Frag) : V → Option Int → Option Int → Hp → VK → Prop := fun x lo hi H Q => rSlL K x lo hi H Q ∨ rSlA K x lo hi H Q ∨ rSlS x lo hi H Q
theorem sl_G {X : Cx} : L2.SlR X (rSlG X.K) := by
  intro pins s σ H x v vl vu lo hi sl Q I rx hs pl pu q
  rcases q with q | q | q
  · exact sl_list pins s σ H x v vl vu lo hi sl Q I rx hs pl pu q
  · exact sl_tupA pins s σ H x v vl vu lo hi sl Q I rx hs pl pu q
  · exact sl_str pins s σ H x v vl vu lo hi sl Q I rx hs pl pu q
abbrev ma3 (a b c : ME) : MA := maCons a (maCons b (maCons c maNil))
section
variable {P : Program} {w : World} {K : PySem.W.Frag} {Z Z' : Addr → Prop} {H H' : Hp} {env env' : En} {T T' : Nat → VT} {σ : L2.St} {av : List (V × D)}
theorem cutD_pure {ds : List D} (h : D.pureL ds = true) (lo hi : Option Int) : D.pureL (cutD ds lo hi) = true :=
  pureL_of fun d hd => pureL_mem h d (List.mem_of_mem_drop (List.mem_of_mem_take hd))
theorem cut_own {ds : List D} {ts : List VT} (h : OwnL P w K Z H ds ts) (lo hi : Option Int) : ∃ us, OwnL P w K Z H (cutD ds lo hi) us ∧ us.map VT.v = cutV (ts.map VT.v) lo hi := by
  refine ⟨(ts.drop (HT.sIx ds.length 0 lo)).take (HT.sIx ds.length ds.length hi - HT.sIx ds.length 0 lo), (h.drop _).take _, ?_⟩
  unfold cutV
  rw [List.map_take, List.map_drop, List.length_map, h.length]
theorem st_cut {a d : D} {s : VT} {lo hi : Option Int} {Q : VK} (oa : Own P w K Z H a s) (e : fCut a lo hi = some d) (dn : ∀ H' t, Kp (fun _ => False) H H' → Own P w K Z H' d t → (fp d t).Nodup → (∀ a ∈ fp d t, H a = none) → Q t.v H') : rSlG K s.v lo hi H Q := by
  unfold fCut at e
  split at e
  · rename_i z
    split at e
    · rename_i hz
      cases e
      exact .inr (.inr ⟨z, oa.str, hz, flat_give rfl dn⟩)
    · cases e
  · rename_i m ds
    split at e
    · rename_i hp
      cases e
      obtain ⟨p, ep, q, ol⟩ := oa.lst
      obtain ⟨us, o2, e2⟩ := cut_own ol lo hi
      refine .inl ⟨p, _, ep, q, fun l hl => ?_⟩
      rw [← e2]
      exact lst_give o2 (cutD_pure hp lo hi) hl dn
    · cases e
  · rename_i ds
    split at e
    · rename_i hp
      cases e
      obtain ⟨p, ep, q, ol⟩ := oa.tup
      obtain ⟨us, o2, e2⟩ := cut_own ol lo hi
      refine .inr (.inl ⟨p, _, ep, q, fun hw => ?_, fun _ l hl => ?_⟩)
      · have hl := ol.length
        rw [List.length_map, ← hl] at hw
        have : cutD ds lo hi = ds := by
          unfold cutD
          rw [hw.1, hw.2, List.drop_zero, Nat.sub_zero, List.take_length]
        rw [this] at dn
        rw [← ep]
        exact old_give oa (by rw [D.pure]; exact hp) dn
      · rw [← e2]
        exact tup_give o2 (cutD_pure hp lo hi) hl dn
    · cases e
  · cases e
theorem tSA_c2 {a b : ME} {Q : List V → Hp → Prop} (h : tSA P w K (ma2 a b) σ H Q) : tS P w K a σ H fun x H1 => tS P w K b σ H1 fun y H2 => Q [x, y] H2 :=
  tS_mono (tSA_cons h) fun x H1 h1 => tS_mono (tSA_cons h1) fun y H2 h2 => tSA_nil h2
theorem tSA_c3 {a b c : ME} {Q : List V → Hp → Prop} (h : tSA P w K (ma3 a b c) σ H Q) : tS P w K a σ H fun x H1 => tS P w K b σ H1 fun y H2 => tS P w K c σ H2 fun z H3 => Q [x, y, z] H3 :=
  tS_mono (tSA_cons h) fun x H1 h1 => tS_mono (tSA_cons h1) fun y H2 h2 => tS_mono (tSA_cons h2) fun z H3 h3 => tSA_nil h3
theorem tSA_c1 {a : ME} {Q : List V → Hp → Prop} (h : tSA P w K (ma1 a) σ H Q) : tS P w K a σ H fun x H1 => Q [x] H1 :=
  tS_mono (tSA_cons h) fun x H1 h1 => tSA_nil h1
theorem StepF.three {f : List D → Option D} {x y z : V} {Q : VK} (h : StepF P w K f [x, y, z] H Q) : ∃ Z a b c s t u d, s.v = x ∧ t.v = y ∧ u.v = z ∧ Own P w K Z H a s ∧ Own P w K Z H b t ∧ Own P w K Z H c u ∧ f [a, b, c] = some d ∧
    ∀ H' t, Kp (fun _ => False) H H' → Own P w K Z H' d t → (fp d t).Nodup → (∀ a ∈ fp d t, H a = none) → Q t.v H' := by
  obtain ⟨Z, ds, ts, d, e, o, ef, dn⟩ := h
  match ts, e with
  | [s, t, u], e =>
    simp only [List.map_cons, List.map_nil, List.cons.injEq, and_true] at e
    match ds, o, ef with
    | [a, b, c], o, ef =>
      rw [OwnL, OwnL, OwnL] at o
      exact ⟨Z, a, b, c, s, t, u, d, e.1, e.2.1, e.2.2, o.1, o.2.1, o.2.2.1, ef, dn⟩
    | [], o, _ => rw [OwnL] at o; exact o.elim
    | [_], o, _ => rw [OwnL, OwnL] at o; exact o.2.elim
    | [_, _], o, _ => rw [OwnL, OwnL, OwnL] at o; exact o.2.2.elim
    | _ :: _ :: _ :: _ :: _, o, _ => rw [OwnL, OwnL, OwnL, OwnL] at o; exact o.2.2.2.elim
def D.ty : D → Option String
  | .non => some "NoneType"
  | .bl _ => some "bool"
  | .int _ => some "int"
  | .str _ => some "str"
  | .tup _ => some "tuple"
  | .lst _ _ => some "list"
  | _ => none
theorem Own.ty {d : D} {t : VT} {n : String} (o : Own P w K Z H d t) (e : d.ty = some n) : TyX K H t.v (.type n) := by
  cases d with
  | non => cases e; rw [o.non]; exact .base .non
  | bl b => cases e; rw [o.bl]; exact .base (.bl b)
  | int b => cases e; rw [o.int]; exact .base (.int b)
  | str b => cases e; rw [o.str]; exact .base (.str b)
  | tup ds =>
    cases e
    obtain ⟨a, ea, q, _⟩ := o.tup
    rw [ea]
    rcases q with (q | ⟨ob, q⟩) | ⟨ob, its, n, q, c, _⟩
    · exact .base (.tup q)
    · exact .fTuple q
    · exact .kTuple q c
  | lst m ds =>
    cases e
    obtain ⟨a, ea, q, _⟩ := o.lst
    rw [ea]
    rcases q with (q | ⟨ob, q⟩) | ⟨ob, its, n, q, c, _⟩
    · exact .base (.lst q)
    · exact .base (.frz q)
    · exact .kList q c
  | _ => cases e
def fIsi (T : String) : List D → Option D
  | [d] => d.ty.bind fun n => (kitB n T).map .bl
  | _ => none
theorem st_isi {T : String} {x : V} {Q : VK} (h : StepF P w K (fIsi T) [x] H Q) : rIsi K [x, .ty T] H Q := by
  obtain ⟨Z, a, s, d, rfl, oa, e, dn⟩ := h.one
  obtain ⟨n, e1, e⟩ := Option.bind_eq_some_iff.mp e
  obtain ⟨b, e2, rfl⟩ := Option.map_eq_some_iff.mp e
  exact ⟨s.v, .ty T, _, _, b, rfl, .ty T, oa.ty e1, kit_ty e2, flat_give rfl dn⟩
def fUpper : List D → Option D
  | [.str a] => if a.length ≤ 5592405 then some (.str (Txt.upper a)) else none
  | _ => none
def fWords : List D → Option D
  | [.str a] => if a.length + 2 ≤ sizeLine then some (.lst true ((Txt.words a).map .str)) else none
  | _ => none
theorem own_strs : ∀ ys : List Str, OwnL P w K Z H (ys.map D.str) (ys.map fun y => VT.mk (.str y) [])
  | [] => by rw [List.map_nil, List.map_nil, OwnL]; trivial
  | y :: ys => by rw [List.map_cons, List.map_cons, OwnL]; exact ⟨by rw [Own]; rfl, own_strs ys⟩
theorem st_upper {x : V} {Q : VK} (h : StepF P w K fUpper [x] H Q) : (∃ a, x = .str a) ∧ ∃ a, x = .str a ∧ ([] : List V) = [] ∧ a.length ≤ 5592405 ∧ Q (.str (Txt.upper a)) H := by
  obtain ⟨Z, a, s, d, rfl, oa, e, dn⟩ := h.one
  cases a with
  | str z =>
    unfold fUpper at e
    dsimp only at e
    split at e
    · rename_i hz
      cases e
      exact ⟨⟨z, oa.str⟩, z, oa.str, rfl, hz, flat_give rfl dn⟩
    · cases e
  | _ => cases e
theorem st_words {x : V} {Q : VK} (h : StepF P w K fWords [x] H Q) : (∃ a, x = .str a) ∧ ∃ a, x = .str a ∧ ([] : List V) = [] ∧ a.length + 2 ≤ sizeLine ∧ rNewStrs (Txt.words a) H Q := by
  obtain ⟨Z, a, s, d, rfl, oa, e, dn⟩ := h.one
  cases a with
  | str z =>
    unfold fWords at e
    dsimp only at e
    split at e
    · rename_i hz
      cases e
      refine ⟨⟨z, oa.str⟩, z, oa.str, rfl, hz, fun p hp => ?_⟩
      have := lst_give (own_strs (P := P) (w := w) (K := K) (Z := Z) (H := H) (Txt.words z)) (pureL_of fun d hd => by obtain ⟨y, _, rfl⟩ := List.mem_map.mp hd; rfl) hp dn
      rw [List.map_map] at this
      exact this
    · cases e
  | _ => cases e
def fPow : List D → Option D
  | [.int i, .int j] => if 0 ≤ j ∧ j ≤ 1000000 ∧ i.natAbs < 2 ^ 64 then some (.int (i ^ j.toNat)) else none
  | _ => none
theorem st_pow {x y : V} {Q : VK} (h : Step P w K (kf fPow) [] [x, y] H Q) : rI CPow (fun i j => .int (i ^ j.toNat)) x y H Q := by
  obtain ⟨Z, a, b, s, t, d, rfl, rfl, oa, ob, e, dn⟩ := h.read.two
  unfold fPow at e
  split at e
  · rename_i i j q
    simp only [List.cons.injEq, and_true] at q
    obtain ⟨rfl, rfl⟩ := q
    split at e
    · rename_i hz
      cases e
      exact ⟨i, j, oa.int, ob.int, hz, flat_give rfl dn⟩
    · cases e
  · cases e
def fCat : List D → Option D
  | [.lst true xs, .lst true ys] => if xs.length + ys.length ≤ sizeLine then some (.lst true (xs ++ ys)) else none
  | _ => none
theorem st_cat {x y : V} {Q : VK} (h : Step P w K (ko fCat) [] [x, y] H Q) : rCat x y H Q := by
  obtain ⟨Z, ds, ts, d, e0, o, nd, e, dn⟩ := h.keep
  unfold fCat at e
  split at e
  · rename_i xs ys
    split at e
    · rename_i hz
      cases e
      obtain ⟨t, u, rfl, ot, ou⟩ := o.two'
      simp only [List.map_cons, List.map_nil, List.cons.injEq, and_true] at e0
      obtain ⟨rfl, rfl⟩ := e0
      obtain ⟨a, ea, ha, oa⟩ := ot.lstM
      obtain ⟨b, eb, hb, ob⟩ := ou.lstM
      refine ⟨a, b, _, _, ea, eb, ha, hb, by rw [List.length_map, List.length_map, ← oa.length, ← ob.length]; exact hz, fun p hp => ?_⟩
      rw [fpL, fpL_one, nd_lst ea, nd_lst eb] at nd dn
      have sub : (fpL xs t.ks ++ fpL ys u.ks).Sublist (a :: fpL xs t.ks ++ (b :: fpL ys u.ks)) := (List.sublist_cons_self _ _).append (List.sublist_cons_self _ _)
      have o2 := oa.append ob
      have np : p ∉ fpL xs t.ks ++ fpL ys u.ks := fun z => by
        rw [← fpL_append oa.length] at z
        obtain ⟨q, hq, _⟩ := o2.stands p z
        rw [hp] at hq; cases hq
      rw [← List.map_append]
      have fe : fp (.lst true (xs ++ ys)) (.mk (.ref p) (t.ks ++ u.ks)) = p :: (fpL xs t.ks ++ fpL ys u.ks) := by rw [fp, vad, List.singleton_append, fpL_append oa.length]
      refine dn _ (.mk (.ref p) (t.ks ++ u.ks)) (kp_new hp) ?_ ?_ fun c hc => ?_
      · rw [Own]
        exact ⟨p, rfl, upd_same, o2.frame (kp_new (S := fun _ => False) hp) (fun _ _ z => z) (fun _ z => z) fun _ _ z => z⟩
      · rw [fe]; exact List.nodup_cons.mpr ⟨np, nd.sublist sub⟩
      · rw [fe] at hc
        rcases List.mem_cons.mp hc with rfl | hc
        · exact .inr hp
        · exact .inl (sub.subset hc)
    · cases e
  · cases e
def fIndex : List D → Option D
  | [.lst _ ds, x] => if (x.plain && D.plainL ds && SeqAt.shaped x.toPy && SeqAt.shaped (.list (D.toPyL ds))) = true then ((D.toPyL ds).findIdx? fun z => PyData.eqv z x.toPy).map fun j => .int (j : Nat) else none
  | _ => none
theorem st_index {x : V} {xs : List V} {Q : VK} (h : Step P w K (kf fIndex) [] (x :: xs) H Q) : rIndexD K x xs H Q := by
  obtain ⟨Z, ds, ts, d, e0, o, e, dn⟩ := h.read
  unfold fIndex at e
  split at e
  · rename_i m l y
    split at e
    · rename_i hs
      simp only [Bool.and_eq_true] at hs
      obtain ⟨j, hj, rfl⟩ := Option.map_eq_some_iff.mp e
      obtain ⟨t, u, rfl, ot, ou⟩ := o.two'
      rw [List.map_cons, List.map_cons, List.map_nil] at e0
      injection e0 with e1 e2
      subst e1 e2
      obtain ⟨a, ea, _, _⟩ := ot.lst
      obtain ⟨hl, h1, h2⟩ := List.findIdx?_eq_some_iff_getElem.mp hj
      refine ⟨a, u.v, y.toPy, D.toPyL l, j, (D.toPyL l)[j], ea, rfl, ?_, ou.dp hs.1.1.1, hs.2, hs.1.2, List.getElem?_eq_getElem hl, h1, fun m' z hm hz => ?_, flat_give rfl dn⟩
      · have := ot.dp (d := .lst m l) (by rw [D.plain]; exact hs.1.1.2)
        rw [D.toPy, ea] at this; exact this
      · obtain ⟨hl2, rfl⟩ := List.getElem?_eq_some_iff.mp hz
        simpa using h2 m' hm
    · cases e
  · cases e
theorem tNewD {Q : VK} (h : tS P w K (mC (.dct true [] [])) σ H Q) : tDNewK σ H Q := by
  obtain ⟨av, Z, env, T, R1, r, env', e, f⟩ := h
  cases e
  intro p hp
  have fe : fp (.dct true [] []) (.mk (.ref p) []) = [p] := by rw [fp, vad, fpL_nil]; rfl
  refine Done.new (t := .mk (.ref p) []) f R1 (fun _ h => h) (kp_new hp) ?_ (by rw [fe]; exact nd_one) (by rw [fe]; intro a ha; rw [List.mem_singleton.mp ha]; exact hp)
  rw [Own]
  exact ⟨p, rfl, (fun z => nomatch z), List.nodup_nil, .inl ⟨[], upd_same, rfl, rfl⟩, by rw [OwnL]; trivial⟩
def fLenD : List D → Option D
  | [.dct _ ks _] => if (ks.all fun k => k.toK.isSome) = true then some (.int ks.length) else none
  | _ => none
theorem Own.dK {m : Bool} {ks vs : List D} {t : VT} (o : Own P w K Z H (.dct m ks vs) t) (h : (ks.all fun k => k.toK.isSome) = true) : ∃ a kvs, t.v = .ref a ∧ H a = some (.dK kvs) ∧ ks = kvs.map (fun p => keyS p.1) ∧ t.ks.map VT.v = kvs.map (·.2) ∧ ks.Nodup ∧ OwnL P w K Z H vs t.ks := by
  obtain ⟨a, ea, _, hn, q, ol⟩ := o.dct
  rcases q with ⟨kvs, q, r1, r2⟩ | ⟨xs, q0, q, r1, r2, r3⟩
  · exact ⟨a, kvs, ea, q, r1, r2, hn, ol⟩
  · exfalso
    cases xs with
    | nil => exact q0 rfl
    | cons p r =>
      have h2 := List.all_eq_true.mp h (keyD p.1) (by rw [r1]; exact List.mem_cons_self)
      obtain ⟨l, el⟩ := dp_tup (r3 p List.mem_cons_self).1
      rw [el, keyD] at h2
      cases h2
theorem st_lenD {x : V} {Q : VK} (h : StepF P w K fLenD [x] H Q) : ∃ a kvs, [x] = [V.ref a] ∧ H a = some (.dK kvs) ∧ Q (.int kvs.length) H := by
  obtain ⟨Z, a, s, d, rfl, oa, e, dn⟩ := h.one
  cases a with
  | dct m ks vs =>
    unfold fLenD at e
    dsimp only at e
    split at e
    · rename_i hz
      cases e
      obtain ⟨a, kvs, ea, q, r1, _⟩ := oa.dK hz
      refine ⟨a, kvs, by rw [ea], q, ?_⟩
      have : (ks.length : Int) = (kvs.length : Int) := by rw [r1, List.length_map]
      rw [this] at dn
      exact flat_give rfl dn
    · cases e
  | _ => cases e
end
section
variable {X : Cx} {pos p2 apos cpos p q : Pos} {a b c o : Expr} {ma mb mc mo : ME}
theorem se_sl0 (ha : SE X a ma) : SE X (.Subscript a (.Slice none none none p2) pos) (mF1 fSl0 ma) := (pe_slice sl_G ha po_none po_none).weak fun σ H Q q => tS_mono (tSA_c1 (tS_op q)) fun x H1 s => by
  obtain ⟨Z, a, s, d, rfl, oa, e, dn⟩ := s.read.one
  exact st_cut oa e dn
theorem se_slL (ha : SE X a ma) (hb : SE X b mb) : SE X (.Subscript a (.Slice (some b) none none p2) pos) (mOp (ma2 ma mb) (kf fSlL) []) := (pe_slice sl_G ha (po_some hb) po_none).weak fun σ H Q q => tS_mono (tSA_c2 (tS_op q)) fun x H1 h1 => tS_mono h1 fun y H2 s => by
  obtain ⟨Z, a, b, s, t, d, rfl, rfl, oa, ob, e, dn⟩ := s.read.two
  unfold fSlL at e
  split at e
  · rename_i q
    simp only [List.cons.injEq, and_true] at q
    obtain ⟨rfl, rfl⟩ := q
    exact ⟨_, ob.int, st_cut oa e dn⟩
  · cases e
theorem se_slH (ha : SE X a ma) (hb : SE X b mb) : SE X (.Subscript a (.Slice none (some b) none p2) pos) (mOp (ma2 ma mb) (kf fSlH) []) := (pe_slice sl_G ha po_none (po_some hb)).weak fun σ H Q q => tS_mono (tSA_c2 (tS_op q)) fun x H1 h1 => tS_mono h1 fun y H2 s => by
  obtain ⟨Z, a, b, s, t, d, rfl, rfl, oa, ob, e, dn⟩ := s.read.two
  unfold fSlH at e
  split at e
  · rename_i q
    simp only [List.cons.injEq, and_true] at q
    obtain ⟨rfl, rfl⟩ := q
    exact ⟨_, ob.int, st_cut oa e dn⟩
  · cases e
def mSlLH (a b c : ME) : ME := mOp (maCons a (maConsP (tyP "int") b (maCons c maNil))) (kf fSlLH) []
theorem se_slLH (ha : SE X a ma) (hb : SE X b mb) (hc : SE X c mc) : SE X (.Subscript a (.Slice (some b) (some c) none p2) pos) (mSlLH ma mb mc) := (pe_slice sl_G ha (po_some hb) (po_some hc)).weak fun σ H Q q => tS_mono (tSA_cons (tS_op q)) fun x H1 h1 => by
  refine tS_mono (tSA_consP h1) fun y H2 ⟨⟨av, Z, e, T, r, t, R1, rl, ev, hp⟩, h2⟩ => ?_
  obtain ⟨i, ei⟩ : ∃ i, y = .int i := by
    unfold tyP at hp
    split at hp
    · rename_i d g
      have o := R1.at rl g
      cases d with
      | int i => exact ⟨i, ev ▸ o.int⟩
      | lst m ds => exact absurd hp (by simp [tyD])
      | str x => exact absurd hp (by simp [tyD])
      | _ => cases hp
    · cases hp
  subst ei
  refine ⟨i, rfl, tS_mono (tSA_cons h2) fun z H3 h3 => ?_⟩
  obtain ⟨Z, a, b, c, s, t, u, d, rfl, eb, rfl, oa, ob, oc, e, dn⟩ := (tSA_nil h3).read.three
  unfold fSlLH at e
  split at e
  · rename_i q
    simp only [List.cons.injEq, and_true] at q
    obtain ⟨rfl, rfl, rfl⟩ := q
    have := ob.int
    rw [eb] at this
    cases this
    exact ⟨_, oc.int, st_cut oa e dn⟩
  · cases e
theorem se_isi {T : Str} {n : String} (ha : SE X a ma) (hT : bootBuiltins T = some (.type n) := by decide +kernel) (hg : Gl X "isinstance" := by assumption) (hm : X.mg "isinstance" = none := by rfl) (hg2 : Gl X T := by assumption) (hm2 : X.mg T = none := by rfl)
    (hn : T ≠ "__name__" := by decide) (hd : (T == ("__debug__" : Str)) = false := by decide)
    (hs : starEach [a, .Name T q] X.env = (false, eval a X.env) :: starEach [.Name T q] X.env := by rfl) (hs2 : starEach [.Name T q] X.env = (false, eval (.Name T q) X.env) :: starEach [] X.env := by rfl) (hpl : (backTo pos (starEach [.Name T q] X.env)).any (·.1) = false := by rfl) :
    SE X (.Call (.Name "isinstance" p) [a, .Name T q] [] pos) (mF1 (fIsi n) ma) :=
  (pe_callB call_isi hg hm (by decide +kernel) (pa_cons ha (pa_cons (pe_bltn hg2 hm2 hT (v := .ty n) rfl hn hd) pa_nil hs2) hs) (by decide) (by decide) hs hpl).weak fun σ H Q q => tS_mono (tSA_c1 (tS_op q)) fun x H1 s => st_isi s.read
theorem se_upper (ha : SE X o mo) (hbase : attributeBase o "upper" X.env (eval o X.env) = eval o X.env := by rfl) (hline : (apos.endLine == pos.line) = true := by rfl) : SE X (.Call (.Attribute o "upper" apos) [] [] pos) (mF1 fUpper mo) :=
  (pe_upper ha hbase hline).weak fun σ H Q q => tS_mono (tSA_c1 (tS_op q)) fun x H1 s => st_upper s.read
theorem se_words (ha : SE X o mo) (hbase : attributeBase o "split" X.env (eval o X.env) = eval o X.env := by rfl) (hline : (apos.endLine == pos.line) = true := by rfl) : SE X (.Call (.Attribute o "split" apos) [] [] pos) (mF1 fWords mo) :=
  (pe_words ha hbase hline).weak fun σ H Q q => tS_mono (tSA_c1 (tS_op q)) fun x H1 s => st_words s.read
def mPow (a b : ME) : ME := mOp (ma2 a b) (kf fPow) []
theorem se_pow (ha : SE X a ma) (hb : SE X b mb) : SE X (.BinOp a .Pow b pos) (mPow ma mb) := se_bin op_pow (fun _ _ _ _ h => st_pow h) ha hb
def mCat (a b : ME) : ME := mOp (ma2 a b) (ko fCat) []
theorem se_cat (ha : SE X a ma) (hb : SE X b mb) : SE X (.BinOp a .Add b pos) (mCat ma mb) := se_bin op_cat (fun _ _ _ _ h => st_cat h) ha hb
def mIndex (o : ME) (a : ME) : ME := mMeth "list" o (ma1 a) (kf fIndex) []
theorem se_index (hu : X.A.units + 65 < cLine) (ho : SE X o mo) (h : SE X a ma) (hbase : attributeBase o "index" X.env (eval o X.env) = eval o X.env := by rfl)
    (hfew : ((backTo cpos (starEach [a] X.env)).all (fun x => !x.1) && (backToKw cpos (keywordEach [] X.env)).all (fun x => x.1.isSome)
      && decide ([a].length + ([] : List Keyword).length + (if ([] : List Keyword).isEmpty then 0 else 1) < 30)) = true := by rfl)
    (hline : (apos.endLine == cpos.line) = true := by rfl) (hs : starEach [a] X.env = (false, eval a X.env) :: starEach [] X.env := by rfl) (hplain : (backTo cpos (starEach [] X.env)).any (·.1) = false := by rfl) :
    SE X (.Call (.Attribute o "index" apos) [a] [] cpos) (mIndex mo ma) :=
  (pe_bm PySem.F.plainAttrs_list PySem.F.slot_list_index PySem.F.type_list_index (mt_indexD hu) ho (sa_cons h sa_nil hs) hbase hfew hline hs hplain).weak (tBM_of fun _ _ _ _ s => st_index s)
theorem se_newD : SE X (.Dict [] [] pos) (mC (.dct true [] [])) := pe_dnewK.weak fun σ H Q q => tNewD q
theorem se_lenD (ha : SE X a ma) (hg : Gl X "len" := by assumption) (hm : X.mg "len" = none := by rfl) (hs : starEach [a] X.env = (false, eval a X.env) :: starEach [] X.env := by rfl) : SE X (.Call (.Name "len" p) [a] [] pos) (mF1 fLenD ma) :=
  (pe_callB call_lenD hg hm (by decide +kernel) (sa_cons ha sa_nil hs) (by decide) (by decide) hs rfl).weak (tCB1 fun _ _ _ h => st_lenD h)
theorem se_tup0 {k : Nat} : SE X (.Tuple [] k pos) (mTup maNil) := se_tup sa_nil
end
end G
set_option Elab.async false
set_option linter.all false
set_option maxRecDepth 100000
namespace G
open PySem PySem.Spec PyProof.Rows L2
open PySem.SeqAt PySem.W
section
open AutoSeq1 (wpAny_loadPart')
open MeetsSeq MeetsSeq2 MeetsSeq3 SeqRoads2
theorem tuple_lt1 (l b : Addr) (items items2 : Array Value) (n n2 : Nat) (dd dd2 : Option Addr) (sl sl2 : Array (Option Value)) (e r : Nat → Bool) :
    Meets (Builtin.«tuple.__lt__» ⟨[.ref l, .ref b], []⟩)
      (fun A R s => s.heap.get? l = some { cls := .type "tuple", dict := dd, data := .seq items n, slots := sl } ∧ s.heap.get? b = some { cls := .type "tuple", dict := dd2, data := .seq items2 n2, slots := sl2 } ∧
        (∀ j (h1 : j < items.size) (h2 : j < items2.size), EqAt A.in1 s items[j] items2[j] (e j)) ∧ (∀ j (h1 : j < items.size) (h2 : j < items2.size), (∀ i, i < j → e i = true) → e j = false → RcLt A.in1 s items[j] items2[j] (r j)) ∧
        R (.ok (.ret (.bool (firstLt e r (decide (items.size < items2.size)) (List.range (min items.size items2.size)))))) s) :=
  .of_wp fun prog w A R s h => by
    obtain ⟨hp, g, d, tk, os⟩ := s; obtain ⟨hl, hb, he, hr, h⟩ := h
    have f2 := AutoSeq1.sub_tuple_tuple
    have hZ : (items.toList.zip items2.toList).length = min items.size items2.size := by simp
    wp_walk using wpAny_loadPart' hl, wpAny_loadPart' hb, wpAny_forIn_list _ (fun rest b s' => b.1 = none ∧ s' = ⟨hp, g, d, tk, os⟩ ∧ ∃ i, rest = (items.toList.zip items2.toList).drop i ∧ (∀ j, j < i → e j = true) ∧
      R (.ok (.ret (.bool (firstLt e r (decide (items.size < items2.size)) ((List.range (min items.size items2.size)).drop i))))) ⟨hp, g, d, tk, os⟩) _
    case turn =>
      rintro ⟨y, x⟩ rest b s' ⟨hb', rfl, i, hz, hp', hR⟩
      have hlt : i < (items.toList.zip items2.toList).length := by
        rcases Nat.lt_or_ge i (items.toList.zip items2.toList).length with h' | h'
        · exact h'
        · rw [List.drop_of_length_le h'] at hz; cases hz
      have hm : i < min items.size items2.size := hZ ▸ hlt
      have h1 : i < items.size := Nat.lt_of_lt_of_le hm (Nat.min_le_left _ _)
      have h2 : i < items2.size := Nat.lt_of_lt_of_le hm (Nat.min_le_right _ _)
      rw [List.drop_eq_getElem_cons hlt] at hz
      injection hz with hyx hrest
      have hy : y = items[i] := by have := congrArg Prod.fst hyx; simpa using this
      have hx : x = items2[i] := by have := congrArg Prod.snd hyx; simpa using this
      subst hy hx
      have hd : (List.range (min items.size items2.size)).drop i = i :: (List.range (min items.size items2.size)).drop (i + 1) := by simp [List.drop_eq_getElem_cons, hm]
      rw [hd] at hR
      refine wpAny_bind (he i h1 h2 prog w _ _ ?_)
      cases hy : e i with
      | true =>
        rw [firstLt_yes hy] at hR
        wp_walk
        refine ⟨rfl, rfl, i + 1, hrest, fun j hj => ?_, hR⟩
        rcases Nat.lt_or_ge j i with q | q
        · exact hp' j q
        · have : j = i := by omega
          rw [this]; exact hy
      | false =>
        rw [firstLt_no hy] at hR
        have hr' : ∀ (E : Value → Shared → Prop) (Q : Value → Shared → Prop), Q (.bool (r i)) ⟨hp, g, d, tk, os⟩ → wpAny (model prog w) A.in1 (richCompare .Lt items[i] items2[i]) Q E ⟨hp, g, d, tk, os⟩ := hr i h1 h2 hp' hy prog w
        generalize hG : richCompare .Lt items[i] items2[i] = G at hr' ⊢
        wp_walk
        refine hr' _ _ ?_
        wp_walk
        exact ⟨_, rfl, hR⟩
    case fin =>
      rintro ⟨b1, b2⟩ s' ⟨hb', rfl, i, hz, hp', hR⟩
      simp only at hb'
      subst hb'
      have hge : min items.size items2.size ≤ i := by
        rcases Nat.lt_or_ge i (items.toList.zip items2.toList).length with h' | h'
        · rw [List.drop_eq_getElem_cons h'] at hz; cases hz
        · exact hZ ▸ h'
      rw [List.drop_of_length_le (by simpa using hge)] at hR
      wp_walk
      exact ⟨_, rfl, by simpa [Builtin.Tuple.tupleCompareSizes, firstLt] using hR⟩
    case h =>
      exact ⟨rfl, rfl, 0, rfl, fun j hj => absurd hj (Nat.not_lt_zero j), by simpa using h⟩
theorem rcLt_tuples {A : Around} {s : Shared} {l b : Addr} {items items2 : Array Value} {e r : Nat → Bool} (hl : s.heap.IsTuple l items) (hb : s.heap.IsTuple b items2) (hu : A.units < cLine)
    (he : ∀ j (h1 : j < items.size) (h2 : j < items2.size), EqAt A.in1 s items[j] items2[j] (e j)) (hr : ∀ j (h1 : j < items.size) (h2 : j < items2.size), (∀ i, i < j → e i = true) → e j = false → RcLt A.in1 s items[j] items2[j] (r j)) :
    RcLt A s (.ref l) (.ref b) (firstLt e r (decide (items.size < items2.size)) (List.range (min items.size items2.size))) := fun prog w E Q h => by
  obtain ⟨⟨cls, dd, data, sl⟩, ho, hc, n, hd⟩ := id hl
  obtain ⟨⟨cls2, dd2, data2, sl2⟩, ho2, hc2, n2, hd2⟩ := id hb
  simp only at hc hd hc2 hd2
  subst hc hd hc2 hd2
  exact richCompare_meets_room (op := .Lt) ⟨_, ho, rfl⟩ ⟨_, ho2, rfl⟩ F.slot_tuple_lt F.entry_tuple_lt (F.args_tuple_lt_2 _ _) (tuple_lt1 l b items items2 n n2 dd dd2 sl sl2 e r)
    ⟨ho, ho2, he, hr, show Value.bool (firstLt e r (decide (items.size < items2.size)) (List.range (min items.size items2.size))) ≠ Value.notImplemented ∧ Q (.bool (firstLt e r (decide (items.size < items2.size)) (List.range (min items.size items2.size)))) s from ⟨(fun x => nomatch x), h⟩⟩ hu
end
mutual
def sib : PyData → PyData → Bool
  | .none, .none => true
  | .int _, .int _ => true
  | .str _, .str _ => true
  | .tuple xs, .tuple ys => sibAll xs ys
  | _, _ => false
def sibAll : List PyData → List PyData → Bool
  | x :: xs, y :: ys => sib x y && (!PyData.eqv x y || sibAll xs ys)
  | [], _ => true
  | _ :: _, [] => true
end
theorem sib_cons {x y : PyData} {xs ys : List PyData} (h : sibAll (x :: xs) (y :: ys) = true) : sib x y = true ∧ (PyData.eqv x y = true → sibAll xs ys = true) := by
  rw [sibAll, Bool.and_eq_true, Bool.or_eq_true] at h
  exact ⟨h.1, fun e => h.2.elim (fun z => by rw [e] at z; cases z) id⟩
mutual
theorem toks_sib : ∀ (x y : PyData), sib x y = true → (PyData.eqv x y = true → keyToks x = keyToks y) ∧ (PyData.eqv x y = false → ∀ l m, PyProof.Rows.lexLt itemOrd (keyToks x ++ l) (keyToks y ++ m) = PyProof.Rows.lexLt itemOrd (keyToks x) (keyToks y))
  | .none, y, h => by
    cases y with
    | none => exact ⟨fun _ => rfl, fun e => absurd e (by simp [PyData.eqv])⟩
    | _ => exact absurd h (by simp [sib])
  | .bool a, y, h => absurd h (by cases y <;> simp [sib])
  | .int a, y, h => by
    cases y with
    | int b =>
      refine ⟨fun e => ?_, fun e l m => ?_⟩
      · have e' : a = b := by simpa [PyData.eqv] using e
        rw [e']
      · have hne : a ≠ b := fun q => by subst q; simp [PyData.eqv] at e
        simp only [keyToks, List.cons_append, List.nil_append]
        exact lex_atom (fun q => hne (Sum.inl.inj q)) l m
    | _ => exact absurd h (by simp [sib])
  | .str a, y, h => by
    cases y with
    | str b =>
      refine ⟨fun e => ?_, fun e l m => ?_⟩
      · have e' : a = b := by simpa [PyData.eqv] using e
        rw [e']
      · have hne : a ≠ b := fun q => by subst q; simp [PyData.eqv] at e
        simp only [keyToks, List.cons_append, List.nil_append]
        exact lex_atom (fun q => hne (str_of_cps (Sum.inr.inj q))) l m
    | _ => exact absurd h (by simp [sib])
  | .list xs, y, h => absurd h (by cases y <;> simp [sib])
  | .tuple xs, y, h => by
    cases y with
    | tuple ys =>
      have t := toksAll_sib xs ys (by simpa [sib] using h)
      simp only [keyToks, PyData.eqv]
      exact t
    | _ => exact absurd h (by simp [sib])
  | .dict _, y, h => absurd h (by cases y <;> simp [sib])
theorem toksAll_sib : ∀ (xs ys : List PyData), sibAll xs ys = true → (PyData.eqvAll xs ys = true → keyToksAll xs = keyToksAll ys) ∧ (PyData.eqvAll xs ys = false → ∀ l m, PyProof.Rows.lexLt itemOrd (keyToksAll xs ++ l) (keyToksAll ys ++ m) = PyProof.Rows.lexLt itemOrd (keyToksAll xs) (keyToksAll ys))
  | [], [], _ => ⟨fun _ => rfl, fun e => absurd e (by simp [PyData.eqvAll])⟩
  | [], y :: ys, _ => ⟨fun e => absurd e (by simp [PyData.eqvAll]), fun _ l m => by
      simp only [keyToksAll, List.cons_append, List.nil_append]
      exact (lex_atom (by simp) _ _).trans (lex_atom (by simp) _ _).symm⟩
  | x :: xs, [], _ => ⟨fun e => absurd e (by simp [PyData.eqvAll]), fun _ l m => by
      simp only [keyToksAll, List.cons_append, List.nil_append]
      exact (lex_atom (by simp) _ _).trans (lex_atom (by simp) _ _).symm⟩
  | x :: xs, y :: ys, h => by
    obtain ⟨h1, h2⟩ := sib_cons h
    obtain ⟨a1, a2⟩ := toks_sib x y h1
    rw [eqv_all_cons, toks_all_cons, toks_all_cons]
    cases hx : PyData.eqv x y with
    | true =>
      obtain ⟨b1, b2⟩ := toksAll_sib xs ys (h2 hx)
      rw [a1 hx, Bool.true_and]
      refine ⟨fun e => by rw [b1 e], fun e l m => ?_⟩
      simp only [List.cons_append, List.append_assoc]
      exact (lex_self (O := itemOrd) _ _ _).trans ((lex_pre _ _ _).trans ((b2 e l m).trans ((lex_pre _ _ _).symm.trans (lex_self (O := itemOrd) _ _ _).symm)))
    | false =>
      rw [Bool.false_and]
      refine ⟨fun e => absurd e Bool.false_ne_true, fun _ l m => ?_⟩
      simp only [List.cons_append, List.append_assoc]
      exact (lex_self (O := itemOrd) _ _ _).trans ((a2 hx _ _).trans ((a2 hx _ _).symm.trans (lex_self (O := itemOrd) _ _ _).symm))
end
theorem lt_all_yes {x y : PyData} {xs ys : List PyData} (h : sib x y = true) (e : PyData.eqv x y = true) : PyProof.Rows.lexLt itemOrd (keyToksAll (x :: xs)) (keyToksAll (y :: ys)) = PyProof.Rows.lexLt itemOrd (keyToksAll xs) (keyToksAll ys) := by
  rw [toks_all_cons, toks_all_cons, (toks_sib x y h).1 e]
  exact (lex_self (O := itemOrd) _ _ _).trans (lex_pre _ _ _)
theorem lt_all_no {x y : PyData} {xs ys : List PyData} (h : sib x y = true) (e : PyData.eqv x y = false) : PyProof.Rows.lexLt itemOrd (keyToksAll (x :: xs)) (keyToksAll (y :: ys)) = dataLt x y := by
  rw [toks_all_cons, toks_all_cons]
  exact (lex_self (O := itemOrd) _ _ _).trans ((toks_sib x y h).2 e _ _)
theorem firstLt_sib : ∀ (xs ys : List PyData), sibAll xs ys = true →
    firstLt (pairEq xs ys) (fun j => dataLt (xs.getD j .none) (ys.getD j .none)) (decide (xs.length < ys.length)) (List.range (min xs.length ys.length)) = PyProof.Rows.lexLt itemOrd (keyToksAll xs) (keyToksAll ys)
  | [], [], _ => by simp [firstLt, keyToksAll, lex_irrefl]
  | [], y :: ys, _ => by
    rw [toks_all_cons]
    simp only [keyToksAll]
    rw [lex_diff (O := itemOrd) (by simp)]
    simp [firstLt, itemLt]
  | x :: xs, [], _ => by
    rw [toks_all_cons]
    simp only [keyToksAll]
    rw [lex_diff (O := itemOrd) (by simp)]
    simp [firstLt, itemLt]
  | x :: xs, y :: ys, h => by
    obtain ⟨h1, h2⟩ := sib_cons h
    have em : min (x :: xs).length (y :: ys).length = min xs.length ys.length + 1 := by
      rw [List.length_cons, List.length_cons]
      omega
    have ed : decide ((x :: xs).length < (y :: ys).length) = decide (xs.length < ys.length) := by
      rw [List.length_cons, List.length_cons]
      exact decide_eq_decide.mpr (by omega)
    rw [em, ed, List.range_succ_eq_map]
    cases hx : PyData.eqv x y with
    | true =>
      have ih := firstLt_sib xs ys (h2 hx)
      rw [firstLt_yes (show pairEq (x :: xs) (y :: ys) 0 = true from hx), firstLt_map, lt_all_yes h1 hx, ← ih]
      rfl
    | false =>
      rw [firstLt_no (show pairEq (x :: xs) (y :: ys) 0 = false from hx), lt_all_no h1 hx]
      rfl
theorem none_sib {x y : PyData} (h : sib x y = true) (e : PyData.eqv x y = false) : x ≠ .none := by
  rintro rfl
  cases y with
  | none => exact absurd e (by simp [PyData.eqv])
  | _ => exact absurd h (by simp [sib])
theorem plain_tup {xs : List PyData} (h : (PyData.tuple xs).plain = true) : PyData.plainAll xs = true := by
  simpa [PyData.plain] using h
theorem plain_cons {x : PyData} {xs : List PyData} (h : PyData.plainAll (x :: xs) = true) : x.plain = true ∧ PyData.plainAll xs = true := by
  simpa [PyData.plainAll] using h
mutual
theorem rcLt_sib : ∀ (da db : PyData) (A : Around) (s : Shared) (a b : Value) (as bs : List Addr), Reads s.heap a da as → Reads s.heap b db bs → sib da db = true → da ≠ .none → da.plain = true → db.plain = true → A.units + min da.depth db.depth < cLine → RcLt A s a b (dataLt da db)
  | .none, _, _, _, _, _, _, _, _, _, _, hn, _, _, _ => absurd rfl hn
  | .bool x, db, A, s, a, b, as, bs, ra, rb, h, e, _, _, _ => absurd h (by cases db <;> simp [sib])
  | .int x, db, A, s, a, b, as, bs, ra, rb, h, e, _, _, _ => by
    cases db with
    | int y =>
      cases ra
      cases rb
      intro prog w E Q hq
      rw [dataLt_int] at hq
      exact P.lt_int hq
    | _ => exact absurd h (by simp [sib])
  | .str x, db, A, s, a, b, as, bs, ra, rb, h, e, _, _, _ => by
    cases db with
    | str y =>
      cases ra
      cases rb
      intro prog w E Q hq
      rw [dataLt_str] at hq
      exact P.lt_str hq
    | _ => exact absurd h (by simp [sib])
  | .list xs, db, A, s, a, b, as, bs, ra, rb, h, e, _, _, _ => absurd h (by cases db <;> simp [sib])
  | .tuple xs, db, A, s, a, b, as, bs, ra, rb, h, e, pa, pb, hu => by
    cases db with
    | tuple ys =>
      have hal : sibAll xs ys = true := by simpa [sib] using h
      cases ra with
      | @tuple l o vs n _ as₁ h1 h2 h3 h4 =>
        cases rb with
        | @tuple l' o' vs' n' _ bs₁ k1 k2 k3 k4 =>
          have n1 : vs.size = xs.length := by simpa using ReadsAll.length _ _ _ h4
          have n2 : vs'.size = ys.length := by simpa using ReadsAll.length _ _ _ k4
          rw [dataLt_tuple, ← firstLt_sib xs ys hal, ← n1, ← n2]
          refine rcLt_tuples ⟨_, h1, h2, _, h3⟩ ⟨_, k1, k2, _, k3⟩ (room_here hu) (fun j j1 j2 => ?_) fun j j1 j2 hp hj => ?_
          · have := eqAt_plainAll xs ys A.in1 s vs.toList vs'.toList _ _ h4 k4 (plain_tup pa) (plain_tup pb) (room_in hu) j (by simpa using j1) (by simpa using j2)
            simpa using this
          · have := rcLt_sibAll xs ys A.in1 s vs.toList vs'.toList _ _ h4 k4 hal (plain_tup pa) (plain_tup pb) (room_in hu) j (by simpa using j1) (by simpa using j2) hp hj
            simpa using this
    | _ => exact absurd h (by simp [sib])
  | .dict _, db, _, _, _, _, _, _, _, _, h, _, _, _, _ => absurd h (by cases db <;> simp [sib])
theorem rcLt_sibAll : ∀ (xs ys : List PyData) (A : Around) (s : Shared) (vs ws : List Value) (as bs : List Addr), ReadsAll s.heap vs xs as → ReadsAll s.heap ws ys bs → sibAll xs ys = true → PyData.plainAll xs = true → PyData.plainAll ys = true →
    A.units + min (PyData.depthAll xs) (PyData.depthAll ys) < cLine → ∀ j (h1 : j < vs.length) (h2 : j < ws.length), (∀ i, i < j → pairEq xs ys i = true) → pairEq xs ys j = false → RcLt A s vs[j] ws[j] (dataLt (xs.getD j .none) (ys.getD j .none))
  | [], _, _, _, _, _, _, _, ra, _, _, _, _, _, j, h1, _, _, _ => by cases ra; exact absurd h1 (Nat.not_lt_zero _)
  | _ :: _, [], _, _, _, _, _, _, _, rb, _, _, _, _, j, _, h2, _, _ => by cases rb; exact absurd h2 (Nat.not_lt_zero _)
  | x :: xs, y :: ys, A, s, _, _, _, _, ra, rb, h, pa, pb, hu, j, h1, h2, hp, hj => by
    obtain ⟨s1, s2⟩ := sib_cons h
    cases ra with
    | cons r rs =>
      cases rb with
      | cons r' rs' =>
        cases j with
        | zero => exact rcLt_sib x y A s _ _ _ _ r r' s1 (none_sib s1 hj) (plain_cons pa).1 (plain_cons pb).1 (room_head hu)
        | succ j => exact rcLt_sibAll xs ys A s _ _ _ _ rs rs' (s2 (hp 0 (Nat.succ_pos j))) (plain_cons pa).2 (plain_cons pb).2 (room_tail hu) j (Nat.lt_of_succ_lt_succ h1) (Nat.lt_of_succ_lt_succ h2) (fun i hi => hp (i + 1) (Nat.succ_lt_succ hi)) hj
end
section
variable {prog : Program} {w : World} {A : Around} {E : Value → Shared → Prop} {s : Shared}
theorem oneLt_sib {f : Bool} {da db : PyData} {a b : Value} {as bs : List Addr} {Q : Bool → Shared → Prop} (hf : f = true → ∀ xs, da ≠ .tuple xs) (ra : Reads s.heap a da as) (rb : Reads s.heap b db bs) (h : sib da db = true) (hn : da ≠ .none) (pa : da.plain = true) (pb : db.plain = true)
    (hu : A.units + min da.depth db.depth < cLine) (hq : Q (dataLt da db) s) : wpAny (model prog w) A (oneLt' f a b) Q E s := by
  cases f with
  | false =>
    rw [oneLt'_eq]
    simp only [Bool.false_eq_true, if_false]
    exact wpAny_bind (rcLt_sib da db A s a b as bs ra rb h hn pa pb hu prog w E _ (wpAny_truthy_bool hq))
  | true =>
    cases da with
    | none => exact absurd rfl hn
    | bool x => exact absurd h (by cases db <;> simp [sib])
    | int x =>
      cases db with
      | int y =>
        cases ra
        cases rb
        rw [dataLt_int] at hq
        exact oneLt_int hq
      | _ => exact absurd h (by simp [sib])
    | str x =>
      cases db with
      | str y =>
        cases ra
        cases rb
        rw [dataLt_str] at hq
        exact oneLt_str hq
      | _ => exact absurd h (by simp [sib])
    | list xs => exact absurd h (by cases db <;> simp [sib])
    | tuple xs => exact absurd rfl (hf rfl xs)
    | dict _ => exact absurd h (by cases db <;> simp [sib])
theorem katLex_sib {b fin : Bool} {Q : Bool → Shared → Prop} : ∀ (xs ys : List PyData) (i : Nat) (vs ws : List Value) (as bs : List Addr), ReadsAll s.heap vs xs as → ReadsAll s.heap ws ys bs → sibAll xs ys = true → PyData.plainAll xs = true → PyData.plainAll ys = true →
    A.units + min (PyData.depthAll xs) (PyData.depthAll ys) < cLine → (b = true → i = 0 → ∀ x r t, xs = x :: r → x ≠ .tuple t) → fin = decide (xs.length < ys.length) → Q (PyProof.Rows.lexLt itemOrd (keyToksAll xs) (keyToksAll ys)) s → KatLex prog w A b fin Q (vs.zip ws) i s
  | [], [], i, _, _, _, _, ra, rb, _, _, _, _, _, hf, hq => by
    cases ra
    cases rb
    have e : fin = false := by rw [hf]; rfl
    subst e
    rw [lex_irrefl] at hq
    exact kat_nil hq
  | [], y :: ys, i, _, _, _, _, ra, rb, _, _, _, _, _, hf, hq => by
    cases ra
    have e : fin = true := by rw [hf]; exact decide_eq_true (Nat.succ_pos _)
    subst e
    rw [toks_all_cons] at hq
    simp only [keyToksAll] at hq
    rw [lex_diff (O := itemOrd) (by simp)] at hq
    rw [List.zip_nil_left]
    exact kat_nil (by simpa [itemLt] using hq)
  | x :: xs, [], i, _, _, _, _, ra, rb, _, _, _, _, _, hf, hq => by
    cases rb
    have e : fin = false := by rw [hf]; exact decide_eq_false (Nat.not_lt_zero _)
    subst e
    rw [toks_all_cons] at hq
    simp only [keyToksAll] at hq
    rw [lex_diff (O := itemOrd) (by simp)] at hq
    rw [List.zip_nil_right]
    exact kat_nil (by simpa [itemLt] using hq)
  | x :: xs, y :: ys, i, _, _, _, _, ra, rb, h, pa, pb, hu, hb, hf, hq => by
    obtain ⟨h1, h2⟩ := sib_cons h
    have hf' : fin = decide (xs.length < ys.length) := by
      rw [hf]
      simp only [List.length_cons, Nat.add_lt_add_iff_right]
    cases ra with
    | cons r rs =>
      cases rb with
      | cons r' rs' =>
        rw [List.zip_cons_cons]
        refine kat_cons (eqAt_plain x y A s _ _ _ _ r r' (plain_cons pa).1 (plain_cons pb).1 (room_head hu) prog w _ _ ?_)
        cases hx : PyData.eqv x y with
        | true =>
          rw [lt_all_yes h1 hx] at hq
          exact kat_yes (katLex_sib xs ys (i + 1) _ _ _ _ rs rs' (h2 hx) (plain_cons pa).2 (plain_cons pb).2 (room_tail hu) (fun _ hi => absurd hi (Nat.succ_ne_zero i)) hf' hq)
        | false =>
          rw [lt_all_no h1 hx] at hq
          refine kat_no (oneLt_sib (fun hbi t => ?_) r r' h1 (none_sib h1 hx) (plain_cons pa).1 (plain_cons pb).1 (room_head hu) hq)
          rw [Bool.and_eq_true] at hbi
          exact hb hbi.1 (by simpa using hbi.2) x xs t rfl
end
end G
set_option Elab.async false
set_option linter.all false
set_option maxRecDepth 100000
namespace G
open PySem PySem.Spec PyProof.Rows L2
open PySem.SeqAt PySem.W
theorem dataType_sib {x y : PyData} (h : sib x y = true) : dataType x = dataType y := by
  cases x <;> cases y <;> first | rfl | exact absurd h (by simp [sib])
section
variable {prog : Program} {w : World} {A : Around} {E : Value → Shared → Prop} {s : Shared}
theorem kind_some {h : Heap} {ds : List PyData} (hp : ∀ d ∈ ds, d.plain = true) {v : Value} {d : PyData} {as : List Addr} (hd : d ∈ ds) (r : Reads h v d as) : (dataKind h ds).keyOf v = some (keyToks d) := by
  have q : ∃ d, d ∈ ds ∧ ∃ as, Reads h v d as := ⟨d, hd, as, r⟩
  have e : (dataKind h ds).keyOf v = some (keyToks q.choose) := by
    show (open Classical in if q : ∃ d, d ∈ ds ∧ ∃ as, Reads h v d as then some (keyToks q.choose) else none) = _
    rw [dif_pos q]
  obtain ⟨h1, as', h2⟩ := q.choose_spec
  rw [e, plain_unique _ _ _ _ _ (hp _ h1) h2 r]
theorem sortsAt_sib {vs : List Value} {ds : List PyData} (e : EachIs (fun v d => ∃ as, Reads s.heap v d as) vs ds) (hal : ∀ d ∈ ds, ∀ d' ∈ ds, sib d d' = true) (hp : ∀ d ∈ ds, d.plain = true) (hk : Sortable ds) (hu : ∀ d, d ∈ ds → A.units + d.depth < cLine) :
    SortsAt prog w A s (dataKind s.heap ds) vs := by
  have room : ∀ {d d' : PyData}, d ∈ ds → A.units + min d.depth d'.depth < cLine := fun {d d'} hd => Nat.lt_of_le_of_lt (Nat.add_le_add_left (Nat.min_le_left _ _) _) (hu d hd)
  refine ⟨fun v hv => ?_, ?_⟩
  · obtain ⟨d, hd, as, r⟩ := e.left v hv
    exact ⟨_, kind_some hp hd r⟩
  · rcases hk with ht | hn
    · cases ds with
      | nil =>
        cases e
        exact ⟨general', fun E x y a b Q ha _ _ => (by
          obtain ⟨d, _, hd, _⟩ := dataKind_inv ha
          exact absurd hd (by simp)), fun h2 => absurd h2 (by simp)⟩
      | cons d₀ ds₀ =>
        obtain ⟨x₀, r₀, e₀⟩ := ht d₀ (List.mem_cons_self ..)
        have hfirst : ∀ x r, PyData.tuple (x :: r) ∈ d₀ :: ds₀ → sib x x₀ = true := by
          intro x r hm
          have q := hal _ hm d₀ (List.mem_cons_self ..)
          rw [e₀] at q
          exact (sib_cons (by simpa [sib] using q)).1
        refine ⟨tuples' (dataType x₀ != Value.type "tuple"), ?_, fun h2 E Q hq => ?_⟩
        · intro E x y a b Q ha hb hq
          obtain ⟨d, as, hd, ra, rfl⟩ := dataKind_inv ha
          obtain ⟨d', as', hd', rb, rfl⟩ := dataKind_inv hb
          have hdd := hal d hd d' hd'
          have hroom := room (d' := d') hd
          have p1 := hp d hd
          have p2 := hp d' hd'
          obtain ⟨x1, r1, rfl⟩ := ht d hd
          obtain ⟨x2, r2, rfl⟩ := ht d' hd'
          have hq' : Q (dataLt (.tuple (x1 :: r1)) (.tuple (x2 :: r2))) s := hq
          rw [dataLt_tuple] at hq'
          cases ra with
          | @tuple l o xs n _ _ h1 h2 h3 h4 =>
            cases rb with
            | @tuple l' o' xs' n' _ _ k1 k2 k3 k4 =>
              have n1 : xs.size = (x1 :: r1).length := by simpa using SeqAt.ReadsAll.length _ _ _ h4
              have n2 : xs'.size = (x2 :: r2).length := by simpa using SeqAt.ReadsAll.length _ _ _ k4
              refine kat_lt h1 h3 k1 k3 (katLex_sib (x1 :: r1) (x2 :: r2) 0 _ _ _ _ h4 k4 (by simpa [sib] using hdd) (plain_tup p1) (plain_tup p2) (by have q := SeqAt.room_in hroom; omega) (fun hb _ x r t ex => ?_) (by rw [n1, n2]) hq')
              obtain ⟨rfl, rfl⟩ := List.cons.inj ex
              have q := dataType_sib (hfirst _ _ hd)
              rw [← q] at hb
              exact dataType_tuple hb t
        · obtain ⟨fs, t1, t2, t3⟩ := each_katTups e ht
          refine kat_kind (T := dataType x₀) t1 (by omega) (fun f hf => ?_) (beq_self_eq_true _) hq
          obtain ⟨x, r, as, m1, m2⟩ := t3 f hf
          rw [← dataType_sib (hfirst x r m1)]
          exact looks_reads m2
    · refine ⟨oneType', ?_, fun h2 E Q hq => ?_⟩
      · intro E x y a b Q ha hb hq
        obtain ⟨d, as, hd, ra, rfl⟩ := dataKind_inv ha
        obtain ⟨d', as', hd', rb, rfl⟩ := dataKind_inv hb
        rw [keyLt'_oneType]
        exact oneLt_sib (fun _ => (hn d hd).2) ra rb (hal d hd d' hd') (hn d hd).1 (hp d hd) (hp d' hd') (room hd) hq
      · cases ds with
        | nil =>
          cases e
          exact absurd h2 (by simp)
        | cons d₀ ds₀ =>
          refine kas_kind (T := dataType d₀) h2 (fun v hv => ?_) (dataType_other (hn d₀ (List.mem_cons_self ..)).2) (beq_self_eq_true _) hq
          obtain ⟨d, hd, as, r⟩ := e.left v hv
          rw [← dataType_sib (hal d hd d₀ (List.mem_cons_self ..))]
          exact looks_reads r
end
def okSort (ds : List PyData) : Bool := (ds.all fun d => ds.all fun d' => sib d d') && (ds.all PyData.plain) && (ds.all fun d => decide (d.depth ≤ 64)) &&
  ((ds.all fun d => match d with
    | .tuple (_ :: _) => true
    | _ => false) || (ds.all fun d => match d with
    | .none => false
    | .tuple _ => false
    | _ => true)) && decide (ds.length ≤ sizeLine)
theorem okSort_of {ds : List PyData} (h : okSort ds = true) : (∀ d ∈ ds, ∀ d' ∈ ds, sib d d' = true) ∧ (∀ d ∈ ds, d.plain = true) ∧ (∀ d ∈ ds, d.depth ≤ 64) ∧ Sortable ds ∧ ds.length ≤ sizeLine := by
  unfold okSort at h
  simp only [Bool.and_eq_true, Bool.or_eq_true, List.all_eq_true, decide_eq_true_eq] at h
  obtain ⟨⟨⟨⟨h1, h2⟩, h3⟩, h4⟩, h5⟩ := h
  refine ⟨h1, h2, h3, h4.imp (fun q d hd => ?_) (fun q d hd => ?_), h5⟩
  · have := q d hd
    cases d with
    | tuple l =>
      cases l with
      | nil => cases this
      | cons x r => exact ⟨x, r, rfl⟩
    | _ => cases this
  · have := q d hd
    cases d with
    | none => cases this
    | tuple l => cases this
    | _ => exact ⟨(fun z => nomatch z), fun _ z => nomatch z⟩
abbrev VD := V × PyData
noncomputable def sortVD (ps : List VD) : List VD := ps.mergeSort (dataLe false (·.2))
def Items (P : Program) (w : World) (K : PySem.W.Frag) (H : Hp) (a : Addr) (xs : List V) : Prop :=
  SqL K H a xs ∨ (∃ kvs, H a = some (.dK kvs) ∧ xs = kvs.map fun p => kV p.1) ∨ (∃ ys, H a = some (dN P w a ys) ∧ xs = ys.map fun p => V.ref p.2.1)
def rSortG (P : Program) (w : World) (K : PySem.W.Frag) : List V → Hp → VK → Prop := fun vs H Q => ∃ a ps, vs = [V.ref a] ∧ Items P w K H a (ps.map (·.1)) ∧ (∀ p ∈ ps, Dp K H p.1 p.2) ∧ okSort (ps.map (·.2)) = true ∧
  ∀ p, H p = none → Q (.ref p) (upd H p (.lst ((sortVD ps).map (·.1))))
def rListG (P : Program) (w : World) (K : PySem.W.Frag) : List V → Hp → VK → Prop := fun vs H Q => ∃ a xs, vs = [V.ref a] ∧ Items P w K H a xs ∧ xs.length ≤ sizeLine ∧ ∀ p, H p = none → Q (.ref p) (upd H p (.lst xs))
theorem each_vals {ps : List VD} : ∀ {us : List Value}, Vals (ps.map (·.1)) us → EachIs (fun v (p : VD) => RelV p.1 v) us ps := by
  induction ps with
  | nil => intro us r; cases r; exact .nil
  | cons p ps ih => intro us r; cases r with
    | cons h t => exact .cons h (ih t)
theorem vals_each {ps : List VD} {us : List Value} (h : EachIs (fun v (p : VD) => RelV p.1 v) us ps) : Vals (ps.map (·.1)) us := by
  induction h with
  | nil => exact .nil
  | cons h _ ih => exact .cons h ih
section
variable {X : Cx} {pins : List (Addr × Obj)} {σ : L2.St} {H : Hp} {s : Shared}
theorem dict_raw {a : Addr} {xs : List V} (I : Inv X pins σ H s) (h : (∃ kvs, H a = some (.dK kvs) ∧ xs = kvs.map fun p => kV p.1) ∨ (∃ ys, H a = some (dN X.prog X.w a ys) ∧ xs = ys.map fun p => V.ref p.2.1)) :
    ∃ o es ep, s.heap.get? a = some o ∧ o.ExactDict ∧ o.data = .dict es ep ∧ (a == sysModules) = false ∧ Vals xs (es.toList.map DictEntry.key) := by
  rcases h with ⟨kvs, e, rfl⟩ | ⟨ys, e, rfl⟩
  · obtain ⟨_, lo, vs, rel, o, es, ep, h1, h2, h3, _, h5, _⟩ := dk_of I.hok e
    refine ⟨o, es, ep, h1, h2, h3, lo, ?_⟩
    exact go rel h5
  · obtain ⟨⟨xs, pr, _, lo, o, es, ep, h1, h2, h3, h4, _⟩, _⟩ := (show ObjOk X.prog X.w H s.heap a (dN X.prog X.w a ys) from I.hok a _ e)
    refine ⟨o, es, ep, h1, h2, h3, lo, ?_⟩
    rw [h4, List.map_map]
    exact go2 pr
where
  go {kvs : List (Key × V)} {vs : List (Key × Value)} {es : List DictEntry} (rel : KV kvs vs) (h : Pairs (mixKind X.prog X.w) es vs) : Vals (kvs.map fun p => kV p.1) (es.map DictEntry.key) := by
    unfold KV at rel
    induction rel generalizing es with
    | nil => cases h; exact .nil
    | cons h1 t ih =>
      cases h with
      | cons a _ b => exact .cons (keyIs_rel (show keyIs _ _ = true by rw [h1.1]; exact a)) (ih b)
  go2 {ys : List (NestedKey × Addr × V)} {xs : List (NestedKey × Addr × Value)} (pr : Paired (fun (p : NestedKey × Addr × V) (q : NestedKey × Addr × Value) => p.1 = q.1 ∧ p.2.1 = q.2.1 ∧ RelV p.2.2 q.2.2) ys xs) :
      Vals (ys.map fun p => V.ref p.2.1) (xs.map (DictEntry.key ∘ entryOfKey (nestedKind X.prog X.w))) := by
    induction pr with
    | nil => exact .nil
    | cons h t ih => exact .cons (show Value.ref _ = Value.ref _ from by rw [h.2.1]) ih
theorem items_at {pos : Unit} {a : Addr} {xs : List V} (I : Inv X pins σ H s) (h : Items X.prog X.w X.K H a xs) :
    (∃ its, Vals xs its ∧ s.heap.IsList a its.toArray) ∨ (∃ o es ep, s.heap.get? a = some o ∧ o.ExactDict ∧ o.data = .dict es ep ∧ (a == sysModules) = false ∧ Vals xs (es.toList.map DictEntry.key)) := by
  rcases h with h | h
  · obtain ⟨its, rv, hl, _⟩ := I.list h
    exact .inl ⟨its, rv, hl.isList⟩
  · exact .inr (dict_raw I h)
theorem keys_of_items {es : Array DictEntry} {acc : Array Value} (it : ItemsOf (fun i v => ∃ en : DictEntry, es[i]? = some en ∧ v = en.key) acc es.size) : acc.toList = es.toList.map DictEntry.key := by
  refine List.ext_getElem? fun j => ?_
  rw [List.getElem?_map, Array.getElem?_toList, Array.getElem?_toList]
  cases hj : acc[j]? with
  | none =>
    have h1 := Array.getElem?_eq_none_iff.mp hj
    rw [Array.getElem?_eq_none (by rw [← it.1]; exact h1)]; rfl
  | some v =>
    obtain ⟨en, hen, hv⟩ := it.2 j v hj
    rw [hen, hv]; rfl
theorem sort_end {h' : Heap} {tk : Nat} {ps : List VD} {us : List Value} {A : Around} {rd : Prop} (I : Inv X pins σ H { s with heap := h', toks := tk }) (rv : Vals (ps.map (·.1)) us) (hd : ∀ p ∈ ps, Dp X.K H p.1 p.2) : EachIs (fun v (p : VD) => RelV p.1 v) us ps ∧ EachIs (fun v (p : VD) => ∃ as, Reads h' v p.2 as) us ps := by
  have e := each_vals rv
  refine ⟨e, (each_mem e).mono fun v p ⟨r, hp⟩ => ?_⟩
  obtain ⟨as, q⟩ := Dp.reads I p.2 p.1 v (hd p hp) r
  exact ⟨as, q⟩
theorem sorted_each {h : Heap} {ps : List VD} {us : List Value} (e : EachIs (fun v (p : VD) => RelV p.1 v) us ps) (er : EachIs (fun v (p : VD) => ∃ as, Reads h v p.2 as) us ps) (hp : ∀ d ∈ ps.map (·.2), d.plain = true) :
    EachIs (fun v (p : VD) => RelV p.1 v) (sortVals (dataKind h (ps.map (·.2))) false us us) (sortVD ps) := by
  refine sortVals_each (κ := dataKind h (ps.map (·.2))) (fun p => keyToks p.2) e ?_
  exact (each_mem er).mono fun v p ⟨⟨as, r⟩, hm⟩ => kind_some hp (List.mem_map.mpr ⟨p, hm, rfl⟩) r
theorem sorts_at {prog : Program} {w : World} {A : Around} {s' : Shared} {ps : List VD} {us : List Value} (er : EachIs (fun v (p : VD) => ∃ as, Reads s'.heap v p.2 as) us ps) (ok : okSort (ps.map (·.2)) = true) (hu : A.units + 64 < cLine) : SortsAt prog w A s' (dataKind s'.heap (ps.map (·.2))) us := by
  obtain ⟨h1, h2, h3, h4, _⟩ := okSort_of ok
  exact sortsAt_sib (each_map (R := fun v d => ∃ as, Reads s'.heap v d as) (fun p : VD => p.2) er) h1 h2 h4 fun d hd => by have := h3 d hd; omega
theorem cr_sortG (hc : X.calm = true) (hu : X.A.units + 68 < cLine) : CallR X (.builtin "sorted") (rSortG X.prog X.w X.K) := by
  intro pins s σ H vs us Q I r h
  obtain ⟨a, ps, rfl, hi, hd, ok, q⟩ := h
  obtain ⟨h1, h2, h3, h4, hL⟩ := okSort_of ok
  rw [Vals.ref1 r]
  rcases items_at (pos := ()) I hi with ⟨its, rv, hl⟩ | ⟨o, es, ep, ho, hx, hdt, lo, rv⟩
  · obtain ⟨e, er⟩ := sort_end (h' := s.heap) (tk := s.toks) (A := X.A) (rd := True) I rv hd
    have hlen : its.length ≤ sizeLine := by rw [e.length]; simpa using hL
    have er' : EachIs (fun v (p : VD) => ∃ as, Reads (sortingHeap (copyHeap s.heap its) (s.heap.objs.size + 1) its) v p.2 as) its ps := er.mono fun _ _ ⟨as, r⟩ => ⟨as, PyProof.Rows.Reads.keeps (fun _ _ => sorting_copy_old) r⟩
    refine sorted_vals hl (sorts_at (s' := { s with heap := sortingHeap (copyHeap s.heap its) (s.heap.objs.size + 1) its }) er' ok (by show X.A.in1.in1.units + 64 < cLine; have : X.A.in1.in1.units = X.A.units + 1 + 1 := rfl; omega)) hlen ?_
    have out := sorted_each e er' h2
    obtain ⟨ep, he'⟩ := PyProof.Rows.sortedAll_at s.heap its (sortVals (dataKind (sortingHeap (copyHeap s.heap its) (s.heap.objs.size + 1) its) (ps.map (·.2))) false its its).toArray
    refine ⟨.ref _, upd H (s.heap.objs.size + 1) (.lst ((sortVD ps).map (·.1))), I.laid (t' := s.toks) (fun _ _ => PyProof.Rows.sortedAll_old) (Nat.le_succ _) ⟨?_, _, ep, vals_each out, he'⟩, rfl, q _ (I.hok.fresh (Nat.le_succ _))⟩
    rw [List.length_map, ← out.length, sortVals_length false rfl]; exact hlen
  · refine Calls.call_function_entry PyProof.Rows.kind_sorted PyProof.Rows.plain_sorted PyProof.Rows.entry_sorted (PyProof.Rows.args_sorted1 _) ?_
    have hes : es.size ≤ sizeLine := by
      have h1 := rv.length
      have h2 : (es.toList.map DictEntry.key).length = es.size := by rw [List.length_map]; exact Array.length_toList
      rw [← h2, ← h1]; simpa using hL
    unfold Builtin.«sorted»
    refine wpAny_bind (m := checkCount "sorted" 1 1 _) (wpAny_pure ?_)
    refine wpAny_bind (PySem.W.kdu_collect (A := X.A.in1) (kdl_raw lo hx hdt) (I.ok.hd hc) ho hes fun h' tk acc hk hacc => ?_)
    have ea := keys_of_items hacc
    have rv' : Vals (ps.map (·.1)) acc.toList := by rw [ea]; exact rv
    have I1 : Inv X pins σ H { s with heap := h', toks := tk } := I.kept hk
    obtain ⟨e, er⟩ := sort_end (A := X.A) (rd := True) I1 rv' hd
    have hal : acc.toList.length ≤ sizeLine := by rw [e.length]; simpa using hL
    refine wpAny_bind (wpAny_newList ?_ hal)
    have hoL : (h'.push (seqObj "list" acc.toList.toArray 0)).get? h'.objs.size = some (seqObj "list" acc.toList.toArray 0) := Heap.get?_push_size _ rfl
    have old : ∀ b u, h'.get? b = some u → b ≠ h'.objs.size ∧ (h'.push (seqObj "list" acc.toList.toArray 0)).get? b = some u := fun b u e => ⟨Nat.ne_of_lt (Heap.lt_size e), Heap.get?_push_of_some _ e⟩
    have er' : EachIs (fun v (p : VD) => ∃ as, Reads (sortingHeap (h'.push (seqObj "list" acc.toList.toArray 0)) h'.objs.size acc.toList) v p.2 as) acc.toList ps :=
      er.mono fun _ _ ⟨as, r⟩ => ⟨as, PyProof.Rows.Reads.keeps (fun b u e => sortingHeap_old (old b u e).1 (old b u e).2) r⟩
    show wpAny _ _ _ _ _ { s with heap := h'.push (seqObj "list" acc.toList.toArray 0), toks := tk }
    refine wpAny_bind (wpAny_holding (wpAny_call_entry PyProof.Rows.slot_list_sort ⟨_, hoL, rfl⟩ PyProof.Rows.entry_list_sort
      (list_sort_vals (s := { s with heap := h'.push (seqObj "list" acc.toList.toArray 0), toks := tk }) hoL (sorts_at (s' := { s with heap := sortingHeap (h'.push (seqObj "list" acc.toList.toArray 0)) h'.objs.size acc.toList, toks := tk }) er' ok (by show X.A.in1.in1.units + 64 < cLine; have : X.A.in1.in1.units = X.A.units + 1 + 1 := rfl; omega)) hal ⟨_, rfl, ?_⟩) (PyProof.Rows.args_list_sort _)))
    have out := sorted_each e er' h2
    obtain ⟨e', he'⟩ := PyProof.Rows.sortedHeap_at (vs := acc.toList) (out := (sortVals (dataKind (sortingHeap (h'.push (seqObj "list" acc.toList.toArray 0)) h'.objs.size acc.toList) (ps.map (·.2))) false acc.toList acc.toList).toArray) hoL
    refine wpAny_pure ⟨_, rfl, .ref h'.objs.size, upd H h'.objs.size (.lst ((sortVD ps).map (·.1))), I1.laid (t' := tk) (fun b u e => ?_) (Nat.le_refl _)
      (show ObjOk X.prog X.w _ _ _ (.lst ((sortVD ps).map (·.1))) from ⟨?_, _, e', vals_each out, he'⟩), rfl, q _ (I1.hok.fresh (Nat.le_refl _))⟩
    · have hb : b < h'.objs.size := Heap.lt_size e
      rw [PyProof.Rows.sortedHeap_old (Nat.ne_of_lt hb) (by rw [size_push']; exact Nat.lt_succ_of_lt hb)]
      exact Heap.get?_push_of_some _ e
    · rw [List.length_map, ← out.length, sortVals_length false rfl]; exact hal
theorem cr_listG (hc : X.calm = true) : CallR X (.type "list") (fun vs H Q => ∃ a xs, vs = [V.ref a] ∧ ((∃ kvs, H a = some (.dK kvs) ∧ xs = kvs.map fun p => kV p.1) ∨ (∃ ys, H a = some (dN X.prog X.w a ys) ∧ xs = ys.map fun p => V.ref p.2.1)) ∧ xs.length ≤ sizeLine ∧ ∀ p, H p = none → Q (.ref p) (upd H p (.lst xs))) := by
  intro pins s σ H vs us Q I r h
  obtain ⟨a, xs, rfl, hi, hL, q⟩ := h
  rw [Vals.ref1 r]
  obtain ⟨o, es, ep, ho, hx, hdt, lo, rv⟩ := dict_raw I hi
  have hes : es.size ≤ sizeLine := by
    have h1 := rv.length
    have h2 : (es.toList.map DictEntry.key).length = es.size := by rw [List.length_map]; exact Array.length_toList
    rw [← h2, ← h1]; exact hL
  refine PySem.W.kdl_call (kdl_raw lo hx hdt) (I.ok.hd hc) ho hes fun h' tk acc' c' kp e it => ?_
  have ea := keys_of_items it
  refine ⟨.ref s.heap.objs.size, _, I.laid (t' := tk) (o := .lst xs) kp (Nat.le_refl _) ⟨hL, acc'.toList, c', by rw [ea]; exact rv, by rw [Array.toArray_toList]; exact e⟩, rfl, q _ (I.hok.fresh (Nat.le_refl _))⟩
end
end G
set_option Elab.async false
set_option linter.all false
set_option maxRecDepth 100000
namespace G
open PySem PySem.Spec PyProof.Rows L2
open PySem.SeqAt PySem.W
def sortD (ds : List D) : List D := ds.mergeSort (dataLe false D.toPy)
theorem toPyL_map : ∀ ds : List D, D.toPyL ds = ds.map D.toPy
  | [] => rfl
  | d :: ds => by rw [D.toPyL, toPyL_map ds]; rfl
theorem sortD_perm (ds : List D) : (sortD ds).Perm ds := List.mergeSort_perm _ _
theorem sortD_mem {ds : List D} {d : D} : d ∈ sortD ds ↔ d ∈ ds := (sortD_perm ds).mem_iff
theorem sortD_length (ds : List D) : (sortD ds).length = ds.length := (sortD_perm ds).length_eq
mutual
theorem keyD_toPy : ∀ k : NestedKey, (keyD k).toPy = k.data
  | .none => by rw [keyD, D.toPy, NestedKey.data]
  | .num i => by rw [keyD, D.toPy, NestedKey.data]
  | .text x => by rw [keyD, D.toPy, NestedKey.data]
  | .tup ks => by rw [keyD, D.toPy, NestedKey.data, keyDL_toPy ks]
theorem keyDL_toPy : ∀ ks : List NestedKey, D.toPyL (keyDL ks) = NestedKey.datas ks
  | [] => by rw [keyDL, D.toPyL, NestedKey.datas]
  | k :: ks => by rw [keyDL, D.toPyL, NestedKey.datas, keyD_toPy k, keyDL_toPy ks]
end
mutual
theorem keyD_plain : ∀ k : NestedKey, (keyD k).plain = true
  | .none => by rw [keyD]; rfl
  | .num i => by rw [keyD]; rfl
  | .text x => by rw [keyD]; rfl
  | .tup ks => by rw [keyD, D.plain]; exact keyDL_plain ks
theorem keyDL_plain : ∀ ks : List NestedKey, D.plainL (keyDL ks) = true
  | [] => by rw [keyDL, D.plainL]
  | k :: ks => by rw [keyDL, D.plainL, keyD_plain k, keyDL_plain ks]; rfl
end
def D.keys? : D → Option (List D)
  | .dct _ ks _ => some ks
  | _ => none
def fSort : List D → Option D
  | [.lst _ ds] => if (D.pureL ds && D.plainL ds && okSort (D.toPyL ds)) = true then some (.lst true (sortD ds)) else none
  | [.dct _ ks _] => if okSort (D.toPyL ks) = true then some (.lst true (sortD ks)) else none
  | _ => none
def fListD : List D → Option D
  | [.dct _ ks _] => if ks.length ≤ sizeLine then some (.lst true ks) else none
  | _ => none
section
variable {P : Program} {w : World} {K : PySem.W.Frag} {Z Z' : Addr → Prop} {H H' : Hp} {env env' : En} {T T' : Nat → VT} {σ : L2.St} {av : List (V × D)}
mutual
theorem dp_own : ∀ {k : NestedKey} {v : V}, Dp K H v k.data → ∃ t, t.v = v ∧ Own P w K Z H (keyD k) t
  | .none, v, h => by rw [NestedKey.data] at h; cases h; exact ⟨.mk .non [], rfl, by rw [keyD, Own]; rfl⟩
  | .num i, v, h => by rw [NestedKey.data] at h; cases h; exact ⟨.mk (.int i) [], rfl, by rw [keyD, Own]; rfl⟩
  | .text x, v, h => by rw [NestedKey.data] at h; cases h; exact ⟨.mk (.str x) [], rfl, by rw [keyD, Own]; rfl⟩
  | .tup ks, v, h => by
    rw [NestedKey.data] at h
    cases h with
    | tup q ha =>
      obtain ⟨ts, e, o⟩ := dp_ownL ha
      exact ⟨.mk _ ts, rfl, by rw [keyD, Own]; exact ⟨_, rfl, by rw [e]; exact q, o⟩⟩
theorem dp_ownL : ∀ {ks : List NestedKey} {vs : List V}, DpAll K H vs (NestedKey.datas ks) → ∃ ts : List VT, ts.map VT.v = vs ∧ OwnL P w K Z H (keyDL ks) ts
  | [], vs, h => by rw [NestedKey.datas] at h; cases h; exact ⟨[], rfl, by rw [keyDL, OwnL]; trivial⟩
  | k :: ks, vs, h => by
    rw [NestedKey.datas] at h
    cases h with
    | cons h1 h2 =>
      obtain ⟨t, e, o⟩ := dp_own h1
      obtain ⟨ts, e2, o2⟩ := dp_ownL h2
      exact ⟨t :: ts, by rw [List.map_cons, e, e2], by rw [keyDL, OwnL]; exact ⟨o, o2⟩⟩
end
theorem keysS_own : ∀ kvs : List (Key × V), OwnL P w K Z H (kvs.map fun p => keyS p.1) (kvs.map fun p => VT.mk (kV p.1) [])
  | [] => by rw [List.map_nil, List.map_nil, OwnL]; trivial
  | p :: r => by
    rw [List.map_cons, List.map_cons, OwnL]
    refine ⟨?_, keysS_own r⟩
    cases p.1 <;> (unfold keyS; rw [Own]; rfl)
theorem keysS_plain : ∀ kvs : List (Key × V), D.plainL (kvs.map fun p => keyS p.1) = true
  | [] => rfl
  | p :: r => by
    rw [List.map_cons, D.plainL, keysS_plain r]
    cases p.1 <;> rfl
theorem keysN_plain : ∀ xs : List (NestedKey × Addr × V), D.plainL (xs.map fun p => keyD p.1) = true
  | [] => rfl
  | p :: r => by rw [List.map_cons, D.plainL, keysN_plain r, keyD_plain]; rfl
theorem keysN_own : ∀ xs : List (NestedKey × Addr × V), (∀ x ∈ xs, Dp K H (.ref x.2.1) x.1.data) → ∃ ts : List VT, OwnL P w K Z H (xs.map fun x => keyD x.1) ts ∧ ts.map VT.v = xs.map fun p => V.ref p.2.1
  | [], _ => ⟨[], by rw [List.map_nil, OwnL]; trivial, rfl⟩
  | p :: r, h => by
    obtain ⟨ts, o1, e1⟩ := keysN_own r fun x hx => h x (List.mem_cons_of_mem _ hx)
    obtain ⟨t, e, o⟩ := dp_own (P := P) (w := w) (Z := Z) (h p List.mem_cons_self)
    exact ⟨t :: ts, by rw [List.map_cons, OwnL]; exact ⟨o, o1⟩, by rw [List.map_cons, List.map_cons, e, e1]⟩
theorem Own.dkeys {m : Bool} {ks vs : List D} {t : VT} (o : Own P w K Z H (.dct m ks vs) t) :
    ∃ a ts, t.v = .ref a ∧ OwnL P w K Z H ks ts ∧ D.pureL ks = true ∧ D.plainL ks = true ∧ ((∃ kvs, H a = some (.dK kvs) ∧ ts.map VT.v = kvs.map fun p => kV p.1) ∨ (∃ ys, H a = some (dN P w a ys) ∧ ts.map VT.v = ys.map fun p => V.ref p.2.1)) := by
  obtain ⟨a, ea, _, _, q, _⟩ := o.dct
  rcases q with ⟨kvs, q, r1, _⟩ | ⟨xs, _, q, r1, _, r3⟩
  · subst r1
    refine ⟨a, kvs.map fun p => .mk (kV p.1) [], ea, keysS_own kvs, pureL_of fun d hd => ?_, keysS_plain kvs, .inl ⟨kvs, q, by rw [List.map_map]; rfl⟩⟩
    obtain ⟨p, _, rfl⟩ := List.mem_map.mp hd
    cases p.1 <;> rfl
  · subst r1
    obtain ⟨ts, o1, e1⟩ := keysN_own (P := P) (w := w) (Z := Z) xs fun x hx => (r3 x hx).1
    refine ⟨a, ts, ea, o1, pureL_of fun d hd => ?_, keysN_plain xs, .inr ⟨xs, q, e1⟩⟩
    obtain ⟨p, _, rfl⟩ := List.mem_map.mp hd
    exact st_setIx.keyD_pure p.1
theorem ownL_zip : ∀ {ds : List D} {ts : List VT}, OwnL P w K Z H ds ts → ∀ z ∈ ts.zip ds, Own P w K Z H z.2 z.1
  | [], [], _, z, hz => by simp at hz
  | d :: ds, t :: ts, h, z, hz => by
    rw [OwnL] at h
    rw [List.zip_cons_cons] at hz
    rcases List.mem_cons.mp hz with rfl | hz
    · exact h.1
    · exact ownL_zip h.2 z hz
  | [], _ :: _, h, _, _ => by rw [OwnL] at h; exact h.elim
  | _ :: _, [], h, _, _ => by rw [OwnL] at h; exact h.elim
theorem zip_ownL : ∀ {zs : List (VT × D)}, (∀ z ∈ zs, Own P w K Z H z.2 z.1) → OwnL P w K Z H (zs.map (·.2)) (zs.map (·.1))
  | [], _ => by rw [List.map_nil, List.map_nil, OwnL]; trivial
  | z :: zs, h => by rw [List.map_cons, List.map_cons, OwnL]; exact ⟨h z List.mem_cons_self, zip_ownL fun y hy => h y (List.mem_cons_of_mem _ hy)⟩
theorem plainL_mem {ds : List D} (h : D.plainL ds = true) : ∀ d ∈ ds, d.plain = true := by
  induction ds with
  | nil => intro d hd; cases hd
  | cons x r ih =>
    rw [D.plainL, Bool.and_eq_true] at h
    intro d hd
    rcases List.mem_cons.mp hd with rfl | hd
    · exact h.1
    · exact ih h.2 d hd
theorem sort_core {ds : List D} {ts : List VT} {a : Addr} {Q : VK} (ol : OwnL P w K Z H ds ts) (hi : Items P w K H a (ts.map VT.v)) (hp : D.pureL ds = true) (hl : D.plainL ds = true) (ok : okSort (D.toPyL ds) = true)
    (dn : ∀ H' t, Kp (fun _ => False) H H' → Own P w K Z H' (.lst true (sortD ds)) t → (fp (.lst true (sortD ds)) t).Nodup → (∀ a ∈ fp (.lst true (sortD ds)) t, H a = none) → Q t.v H') : rSortG P w K [V.ref a] H Q := by
  have hlen := ol.length
  have z1 : (ts.zip ds).map (·.1) = ts := List.map_fst_zip (by omega)
  have z2 : (ts.zip ds).map (·.2) = ds := List.map_snd_zip (by omega)
  have zo := ownL_zip ol
  refine ⟨a, (ts.zip ds).map fun z => (z.1.v, z.2.toPy), rfl, ?_, fun p hp' => ?_, ?_, fun p np => ?_⟩
  · rw [List.map_map, show ((fun x : VD => x.1) ∘ fun z : VT × D => (z.1.v, z.2.toPy)) = VT.v ∘ (·.1) from rfl, ← List.map_map, z1]; exact hi
  · obtain ⟨z, hz, rfl⟩ := List.mem_map.mp hp'
    exact (zo z hz).dp (plainL_mem hl z.2 (List.of_mem_zip hz).2)
  · rw [List.map_map, show ((fun x : VD => x.2) ∘ fun z : VT × D => (z.1.v, z.2.toPy)) = D.toPy ∘ (·.2) from rfl, ← List.map_map, z2, ← toPyL_map]; exact ok
  · have e1 : sortVD ((ts.zip ds).map fun z => (z.1.v, z.2.toPy)) = ((ts.zip ds).mergeSort (dataLe false fun z : VT × D => z.2.toPy)).map fun z => (z.1.v, z.2.toPy) :=
      (sort_maps (r := dataLe false fun z : VT × D => z.2.toPy) (s := dataLe false fun p : VD => p.2) (fun z : VT × D => (z.1.v, z.2.toPy)) fun _ _ _ _ => rfl).symm
    have e2 : ((ts.zip ds).mergeSort (dataLe false fun z : VT × D => z.2.toPy)).map (·.2) = sortD ds := by
      have := sort_maps (r := dataLe false fun z : VT × D => z.2.toPy) (s := dataLe false D.toPy) (l := ts.zip ds) (fun z : VT × D => z.2) fun _ _ _ _ => rfl
      rw [z2] at this
      exact this
    rw [e1, List.map_map, show ((fun x : VD => x.1) ∘ fun z : VT × D => (z.1.v, z.2.toPy)) = VT.v ∘ (·.1) from rfl, ← List.map_map]
    have o2 : OwnL P w K Z H (sortD ds) (((ts.zip ds).mergeSort (dataLe false fun z : VT × D => z.2.toPy)).map (·.1)) := by
      rw [← e2]
      exact zip_ownL fun z hz => zo z ((List.mergeSort_perm _ _).mem_iff.mp hz)
    exact lst_give o2 (pureL_of fun d hd => pureL_mem hp d (sortD_mem.mp hd)) np dn
theorem st_sort {x : V} {Q : VK} (h : StepF P w K fSort [x] H Q) : rSortG P w K [x] H Q := by
  obtain ⟨Z, a, s, d, rfl, oa, e, dn⟩ := h.one
  cases a with
  | lst m ds =>
    unfold fSort at e
    dsimp only at e
    split at e
    · rename_i hz
      simp only [Bool.and_eq_true] at hz
      cases e
      obtain ⟨a, ea, q, ol⟩ := oa.lst
      rw [ea]
      exact sort_core ol (.inl q) hz.1.1 hz.1.2 hz.2 dn
    · cases e
  | dct m ks vs =>
    unfold fSort at e
    dsimp only at e
    split at e
    · rename_i hz
      cases e
      obtain ⟨a, ts, ea, ol, p1, p2, hi⟩ := oa.dkeys
      rw [ea]
      exact sort_core ol (.inr hi) p1 p2 hz dn
    · cases e
  | _ => cases e
theorem st_listD {x : V} {Q : VK} (h : StepF P w K fListD [x] H Q) : ∃ a xs, [x] = [V.ref a] ∧ ((∃ kvs, H a = some (.dK kvs) ∧ xs = kvs.map fun p => kV p.1) ∨ (∃ ys, H a = some (dN P w a ys) ∧ xs = ys.map fun p => V.ref p.2.1)) ∧ xs.length ≤ sizeLine ∧ ∀ p, H p = none → Q (.ref p) (upd H p (.lst xs)) := by
  obtain ⟨Z, a, s, d, rfl, oa, e, dn⟩ := h.one
  cases a with
  | dct m ks vs =>
    unfold fListD at e
    dsimp only at e
    split at e
    · rename_i hz
      cases e
      obtain ⟨a, ts, ea, ol, p1, p2, hi⟩ := oa.dkeys
      exact ⟨a, ts.map VT.v, by rw [ea], hi, by rw [List.length_map, ← ol.length]; exact hz, fun p np => lst_give ol p1 np dn⟩
    · cases e
  | _ => cases e
end
section
variable {X : Cx} {pos p : Pos} {a : Expr} {ma : ME}
theorem se_sorted (hc : X.calm = true) (hu : X.A.units + 68 < cLine) (ha : SE X a ma) (hg : Gl X "sorted" := by assumption) (hm : X.mg "sorted" = none := by rfl) (hs : starEach [a] X.env = (false, eval a X.env) :: starEach [] X.env := by rfl) : SE X (.Call (.Name "sorted" p) [a] [] pos) (mF1 fSort ma) :=
  (pe_callB (cr_sortG hc hu) hg hm (by decide +kernel) (sa_cons ha sa_nil hs) (by decide) (by decide) hs rfl).weak (tCB1 fun _ _ _ h => st_sort h)
theorem se_listD (hc : X.calm = true) (ha : SE X a ma) (hg : Gl X "list" := by assumption) (hm : X.mg "list" = none := by rfl) (hs : starEach [a] X.env = (false, eval a X.env) :: starEach [] X.env := by rfl) : SE X (.Call (.Name "list" p) [a] [] pos) (mF1 fListD ma) :=
  (pe_callTy (cr_listG hc) hg hm (by decide +kernel) (sa_cons ha sa_nil hs) (by decide) (by decide) hs rfl).weak (tCB1 fun _ _ _ h => st_listD h)
end
end G
set_option Elab.async false
set_option linter.all false
set_option maxRecDepth 100000
namespace G
open PySem PySem.Spec PyProof.Rows L2
def permL {α : Type} (π : List Nat) (l : List α) : List α := π.filterMap fun i => l[i]?
def gP {α : Type} (np nk : Nat) (π : List Nat) (us ws : List α) : List α := if us.length = np ∧ ws.length = nk then permL π (us ++ ws) else []
theorem permL_map {α β : Type} (f : α → β) (π : List Nat) (l : List α) : permL π (l.map f) = (permL π l).map f := by
  unfold permL
  rw [List.map_filterMap]
  congr 1
  funext i
  rw [List.getElem?_map]
theorem permL_perm {α : Type} {π : List Nat} {l : List α} (h : π.Perm (List.range l.length)) : (permL π l).Perm l := by
  have h1 : (permL π l).Perm (permL (List.range l.length) l) := h.filterMap _
  have h2 : permL (List.range l.length) l = l := by
    unfold permL
    have : ∀ (l : List α), (List.range l.length).filterMap (fun i => l[i]?) = l := by
      intro l
      induction l with
      | nil => rfl
      | cons x r ih =>
        rw [List.length_cons, List.range_succ_eq_map, List.filterMap_cons]
        simp only [List.getElem?_cons_zero, List.filterMap_map]
        congr 1
    exact this l
  rw [h2] at h1; exact h1
theorem permL_vals {π : List Nat} {vs : List V} {us : List Value} (h : Vals vs us) : Vals (permL π vs) (permL π us) := by
  have hl := h.length
  induction π with
  | nil => exact .nil
  | cons i r ih =>
    unfold permL at ih ⊢
    by_cases hi : i < vs.length
    · obtain ⟨u, hu, ru⟩ := h.get (List.getElem?_eq_getElem hi)
      rw [List.filterMap_cons, List.filterMap_cons, List.getElem?_eq_getElem hi, hu]
      exact .cons ru ih
    · rw [List.filterMap_cons, List.filterMap_cons, List.getElem?_eq_none (by omega), List.getElem?_eq_none (by omega)]
      exact ih
theorem kBinds_all {K : PySem.W.Frag} {fd : FuncData} {ps ks : List Str} {np nk : Nat} {π : List Nat} (hps : ps.length ≠ 0) (h : ∀ us ws : List Value, us.length = np → ws.length = nk → bindArgs fd ⟨us, ks.zip ws⟩ = pure (ps.zip (permL π (us ++ ws)))) :
    KBinds K fd ps ks (gP np nk π) (gP np nk π) where
  to := fun s us ws hin hl => by
    unfold gP at hl ⊢
    by_cases hc : us.length = np ∧ ws.length = nk
    · rw [if_pos hc] at hl ⊢
      exact .of_eq (h us ws hc.1 hc.2)
    · rw [if_neg hc] at hl
      exact absurd hl.symm hps
  rel := fun {vs us zs ws} h1 h2 => by
    unfold gP
    rw [h1.length, h2.length]
    by_cases hc : us.length = np ∧ ws.length = nk
    · rw [if_pos hc, if_pos hc]
      exact permL_vals (h1.append h2)
    · rw [if_neg hc, if_neg hc]
      exact .nil
structure DfK (P : Program) (w : World) (K : PySem.W.Frag) (mg : Str → Option Value) (base : Heap) (k : Nat) (x : Str) (ks : List Str) (np nk : Nat) (π : List Nat) (m : Fn) : Prop where
  ex : ∃ f fd ps, FnOk P w K mg base CX0 k f fd ps (spOf P w K m) ∧ mg x = some (.ref f) ∧ PySem.W.keepIn K (.ref f) = true ∧ KBinds K fd ps ks (gP np nk π) (gP np nk π)
  perm : π.Perm (List.range (np + nk))
def kCallK (n : Nat) (π : List Nat) (m : Fn) (ms : List Nat) : Kn := fun rs env => if rs.length = n then kCall m ms (permL π rs) env else none
section
variable {P : Program} {w : World} {K : PySem.W.Frag} {Z Z' : Addr → Prop} {H H' : Hp} {env env' : En} {T T' : Nat → VT} {σ : L2.St} {av : List (V × D)}
theorem rrl_zip {rs : List R} {ts : List VT} : RRelL P w K Z env T H rs ts ↔ rs.length = ts.length ∧ ∀ z ∈ rs.zip ts, RRel P w K Z env T H z.1 z.2 := by
  induction rs generalizing ts with
  | nil =>
    cases ts with
    | nil => exact ⟨fun _ => ⟨rfl, fun z h => by simp at h⟩, fun _ => trivial⟩
    | cons _ _ => exact ⟨fun h => h.elim, fun h => by simp at h⟩
  | cons r rs ih =>
    cases ts with
    | nil => exact ⟨fun h => h.elim, fun h => by simp at h⟩
    | cons t ts =>
      refine ⟨fun h => ?_, fun h => ⟨h.2 (r, t) (by simp), ih.mpr ⟨by simpa using h.1, fun z hz => h.2 z (by rw [List.zip_cons_cons]; exact List.mem_cons_of_mem _ hz)⟩⟩⟩
      obtain ⟨h1, h2⟩ := ih.mp h.2
      refine ⟨by simpa using h1, fun z hz => ?_⟩
      rw [List.zip_cons_cons] at hz
      rcases List.mem_cons.mp hz with rfl | hz
      · exact h.1
      · exact h2 z hz
theorem rfpL_zip {rs : List R} {ts : List VT} (h : rs.length = ts.length) : rfpL rs ts = (rs.zip ts).flatMap fun z => rfp z.1 z.2 := by
  induction rs generalizing ts with
  | nil => cases ts with
    | nil => rfl
    | cons _ _ => cases h
  | cons r rs ih => cases ts with
    | nil => cases h
    | cons t ts => rw [rfpL, List.zip_cons_cons, List.flatMap_cons, ih (by simpa using h)]
theorem step_perm {k : Kn} {n : Nat} {π : List Nat} {ms : List Nat} {xs : List V} {Q : VK} (hπ : π.Perm (List.range n)) (h : Step P w K (fun rs env => if rs.length = n then k (permL π rs) env else none) ms xs H Q) : xs.length = n ∧ Step P w K k ms (permL π xs) H Q := by
  obtain ⟨av, Z, env, T, σ, rs, ts, r, env', e0, R1, rr, nd, e, dn⟩ := h
  dsimp only at e
  by_cases hn : rs.length = n
  · rw [if_pos hn] at e
    have hl := rr.len
    have pz : (permL π (rs.zip ts)).Perm (rs.zip ts) := permL_perm (by rw [List.length_zip, ← hl, Nat.min_self, hn]; exact hπ)
    have z1 : (permL π (rs.zip ts)).map Prod.fst = permL π rs := by rw [← permL_map, List.map_fst_zip (by omega)]
    have z2 : (permL π (rs.zip ts)).map Prod.snd = permL π ts := by rw [← permL_map, List.map_snd_zip (by omega)]
    have zz : (permL π rs).zip (permL π ts) = permL π (rs.zip ts) := by rw [← z1, ← z2, List.zip_map']; simp
    have hl2 : (permL π rs).length = (permL π ts).length := by rw [← z1, ← z2, List.length_map, List.length_map]
    have pf : (rfpL (permL π rs) (permL π ts)).Perm (rfpL rs ts) := by
      rw [rfpL_zip hl2, rfpL_zip hl, zz]
      exact pz.flatMap_right _
    refine ⟨by rw [← e0, List.length_map, ← hl, hn], av, Z, env, T, σ, permL π rs, permL π ts, r, env', by rw [← e0, permL_map], R1, rrl_zip.mpr ⟨hl2, fun z hz => ?_⟩, pf.nodup_iff.mpr nd, e, ?_⟩
    · rw [zz] at hz
      exact (rrl_zip.mp rr).2 z (pz.mem_iff.mp hz)
    · exact fun H' Z' T' t a b c d g => dn H' Z' T' t a b c ⟨d.kp.mono fun x q => q.imp id fun q => pf.mem_iff.mp q, fun x q => (d.own x q).imp (Or.imp id fun q => pf.mem_iff.mp q) id, fun x q => (d.z x q).imp id (Or.imp (Or.imp id fun q => pf.mem_iff.mp q) id), d.zm⟩ g
  · rw [if_neg hn] at e; cases e
end
def SK (X : Cx) (kws : List Keyword) (m : MA) : Prop := PK X kws (tSA X.prog X.w X.K m)
section
variable {X : Cx} {pos p kpos : Pos} {x : Str} {e : Expr} {es : List Expr} {kws : List Keyword} {a : ME} {as bs : MA} {m : Fn} {k : Nat} {nm : Option Str} {ks : List Str} {np nk : Nat} {π : List Nat}
theorem sk_nil : SK X [] maNil := ⟨fun pos pins s σ H Q I h => pk_nil.run pos pins s σ H Q I (tSA_nil h)⟩
theorem sk_cons (h1 : SE X e a) (h2 : SK X kws as) : SK X (⟨nm, e, kpos⟩ :: kws) (maCons a as) := ⟨fun pos pins s σ H Q I h => (pk_cons h1 h2).run pos pins s σ H Q I (tSA_cons h)⟩
def mCallK (n : Nat) (π : List Nat) (m : Fn) (ms : List Nat) (as : MA) : ME := mOp as (kCallK n π m ms) ms
theorem se_callK0 (ms : List Nat) (Gd : DfK X.prog X.w X.K X.mg X.base k x ks 0 nk π m) (hr : Room k X.A) (hkw : SK X kws bs) (hg : Gl X x := by rfl) (hall : (backToKw pos (keywordEach kws X.env)).all (·.1.isSome) = true := by rfl)
    (hks : (backToKw pos (keywordEach kws X.env)).filterMap (·.1) = ks := by rfl) (hdb : (x == ("__debug__" : Str)) = false := by decide) (hpl : ((backTo pos (starEach [] X.env)).any (·.1) || (backToKw pos (keywordEach kws X.env)).any (·.1.isNone)) = false := by rfl) :
    SE X (.Call (.Name x p) [] kws pos) (mCallK nk π m ms bs) := by
  obtain ⟨⟨f, fd, ps, F, hm, hk, hb⟩, hπ⟩ := Gd
  refine ⟨fun pins s σ H Q I h => ?_⟩
  refine wpAny_Call_Name_kw (ld_glob I hg hm ?_ hdb)
  refine PySem.W.callWith_KW0 (h₀ := X.base) I.ok.mod.kin hk hall (thn (hkw.run pos pins s σ H _ I (tS_op h)) fun ws s2 ⟨zs, H2, I2, rz, q2⟩ => ⟨I2.kIn, ?_⟩) hpl
  rw [hks]
  obtain ⟨hl, q3⟩ := step_perm (by rw [Nat.zero_add] at hπ; exact hπ) q2
  refine run_fnk F hr hb pass0 I2 (us := []) (vs := []) .nil rz ?_
  unfold gP
  rw [if_pos ⟨rfl, hl⟩]
  exact st_call q3
end
end G
set_option Elab.async false
set_option linter.all false
set_option maxRecDepth 100000
namespace G
open PySem PySem.Spec PyProof.Rows L2
def R.noTmp (r : R) : Bool := match r with
  | .v d => d.pure
  | .p _ _ => true
section
variable {P : Program} {w : World} {K : PySem.W.Frag} {Z Z' : Addr → Prop} {H H' : Hp} {env env' : En} {T T' : Nat → VT} {σ σ2 : L2.St} {av : List (V × D)}
theorem rfp_noTmp {r : R} {t : VT} (h : r.noTmp = true) : rfp r t = [] := by
  cases r with
  | v d => exact fp_pure h
  | p _ _ => rfl
theorem RRelL.keep {S : Addr → Prop} {rs : List R} {ts : List VT} {ms : List Nat} (rr : RRelL P w K Z env T H rs ts) (nt : (rs.all R.noTmp) = true) (k : Kp S H H') (hz : ∀ a, Z a → ¬ S a) (zz : ∀ a, Z a → Z' a) (sm : ∀ j, j ∉ ms → T' j = T j ∧ env'[j]? = env[j]?) (ok : (rs.all fun r => r.okS ms) = true) :
    RRelL P w K Z' env' T' H' rs ts := by
  induction rs generalizing ts with
  | nil => cases ts with
    | nil => trivial
    | cons _ _ => exact rr.elim
  | cons r rs ih =>
    cases ts with
    | nil => exact rr.elim
    | cons t ts =>
      rw [List.all_cons, Bool.and_eq_true] at ok nt
      refine ⟨?_, ih rr.2 nt.2 ok.2⟩
      have hr := rr.1
      cases r with
      | v d =>
        have p0 : fp d t = [] := fp_pure nt.1
        exact ⟨hr.1.frame k hz zz (by rw [p0]; exact fun _ z => nomatch z), by rw [p0]; exact fun _ z => nomatch z⟩
      | p j π =>
        obtain ⟨d, c, e1, e2, e3⟩ := hr
        have hj : j ∉ ms := by
          have ok' : (!ms.contains j) = true := ok.1
          simpa using ok'
        obtain ⟨q1, q2⟩ := sm j hj
        exact ⟨d, c, by rw [← e1]; unfold dAt; rw [q2], e2, by rw [q1]; exact e3⟩
structure AcI (P : Program) (w : World) (K : PySem.W.Frag) (av : List (V × D)) (vs ms : List Nat) (rs : List R) (rv : List V) (cs : List D) (Dd : Addr) (Z1 : Addr → Prop) (H1 : Hp) (S1 : Addr → Prop) (E0 : En) (T0 : Nat → VT)
    (σ : L2.St) (Z : Addr → Prop) (env : En) (T : Nat → VT) (H : Hp) (ts : List VT) (c : D) (tc : VT) : Prop where
  rel : Rel P w K av Z env T σ H
  rr : RRelL P w K Z env T H rs ts
  rv : ts.map VT.v = rv
  eg : gets rs env = some cs
  nt : (rs.all R.noTmp) = true
  hv : tc.v = .ref Dd
  oc : Own P w K Z H c tc
  nd : (fp c tc).Nodup
  ap : ∀ a ∈ fp c tc, ¬ Z a ∧ ¬ AllFp env T a
  sn : Since Z1 H1 S1 Z H (fun a => AllFp env T a ∨ a ∈ fp c tc)
  kk : ∀ j, j ∉ vs → (j ∉ ms → T j = T0 j ∧ env[j]? = E0[j]?) ∧ ((dAt E0 j).isSome = true → (dAt env j).isSome = true)
section
variable {vs ms vs' ms' : List Nat} {rs rs' : List R} {rv rv' : List V} {cs cs' : List D} {Dd : Addr} {Z1 : Addr → Prop} {H1 : Hp} {S1 : Addr → Prop} {E0 E0' : En} {T0 T0' : Nat → VT} {ts : List VT} {c c' : D} {tc tc' : VT} {S' : Addr → Prop}
theorem AcI.next (I : AcI P w K av vs ms rs rv cs Dd Z1 H1 S1 E0 T0 σ Z env T H ts c tc) (R2 : Rel P w K av Z' env' T' σ2 H') (sn : Since Z H (AllFp env T) Z' H' S') (hS : ∀ a, AllFp env' T' a → S' a)
    (kk : ∀ j, j ∉ vs → (j ∉ ms → T' j = T j ∧ env'[j]? = env[j]?) ∧ ((dAt env j).isSome = true → (dAt env' j).isSome = true)) (ok : (rs.all fun r => r.okS (vs ++ ms)) = true) :
    AcI P w K av vs ms rs rv cs Dd Z1 H1 S1 E0 T0 σ2 Z' env' T' H' ts c tc ∧ (∀ a, S' a → a ∉ fp c tc) := by
  have kk' : ∀ j, j ∉ vs ++ ms → T' j = T j ∧ env'[j]? = env[j]? := fun j hj => ((kk j fun z => hj (List.mem_append_left _ z)).1 fun z => hj (List.mem_append_right _ z))
  have st : ∀ a ∈ fp c tc, ∃ o, H a = some o := fun a h => by
    obtain ⟨o, ho, _⟩ := I.oc.stands a h
    exact ⟨o, ho⟩
  have ns : ∀ a, S' a → a ∉ fp c tc := fun a h z => by
    rcases sn.own a h with q | q
    · exact (I.ap a z).2 q
    · obtain ⟨o, ho⟩ := st a z; rw [q] at ho; cases ho
  have nz : ∀ a ∈ fp c tc, ¬ Z' a := fun a h z => by
    rcases sn.z a z with q | q | q
    · exact (I.ap a h).1 q
    · exact (I.ap a h).2 q
    · obtain ⟨o, ho⟩ := st a h; rw [q] at ho; cases ho
  have hz : ∀ a, Z a → ¬ AllFp env T a := fun a z q => by
    obtain ⟨i, hi⟩ := q
    exact I.rel.dz i a hi z
  refine ⟨⟨R2, I.rr.keep I.nt sn.kp hz sn.zm kk' ok, I.rv, gets_same I.rr kk' ok I.eg, I.nt, I.hv, I.oc.frame sn.kp hz sn.zm fun a ha q => (I.ap a ha).2 q, I.nd, fun a h => ⟨nz a h, fun z => ns a (hS a z) h⟩, ?_, fun j hj => ⟨fun hm => ?_, fun h => ?_⟩⟩, ns⟩
  · have g : Since Z H (fun a => AllFp env T a ∨ a ∈ fp c tc) Z' H' (fun a => AllFp env' T' a ∨ a ∈ fp c tc) :=
      ⟨sn.kp.mono fun _ h => .inl h, fun x h => by
        rcases h with h | h
        · exact (sn.own x (hS x h)).imp .inl id
        · exact .inl (.inr h), fun x h => (sn.z x h).imp id (Or.imp .inl id), sn.zm⟩
    exact I.sn.trans g
  · obtain ⟨a1, a2⟩ := (I.kk j hj).1 hm
    obtain ⟨b1, b2⟩ := (kk j hj).1 hm
    exact ⟨b1.trans a1, b2.trans a2⟩
  · exact (kk j hj).2 ((I.kk j hj).2 h)
theorem AcI.wipe (I : AcI P w K av vs ms rs rv cs Dd Z1 H1 S1 E0 T0 σ Z env T H ts c tc) (hv : ∀ j ∈ vs', j ∈ vs) (ok : (rs.all fun r => r.okS vs') = true) : AcI P w K av vs ms rs rv cs Dd Z1 H1 S1 E0 T0 (L2.wipe σ vs') Z (wipeE env vs') T H ts c tc := by
  have sm : ∀ j, j ∉ vs' → T j = T j ∧ (wipeE env vs')[j]? = env[j]? := fun j hj => ⟨rfl, wipeE_out hj⟩
  refine ⟨I.rel.wipe vs', I.rr.keep (S := fun _ => False) I.nt .refl (fun _ _ z => z) (fun _ z => z) sm ok, I.rv, gets_same I.rr sm ok I.eg, I.nt, I.hv, I.oc, I.nd, fun a h => ⟨(I.ap a h).1, fun z => (I.ap a h).2 (wipe_fp z)⟩, I.sn.weak fun a h => h.imp wipe_fp id, fun j hj => ?_⟩
  have hj' : j ∉ vs' := fun z => hj (hv j z)
  refine ⟨fun hm => ?_, fun h => ?_⟩
  · obtain ⟨a1, a2⟩ := (I.kk j hj).1 hm
    exact ⟨a1, by rw [wipeE_out hj', a2]⟩
  · have := (I.kk j hj).2 h
    unfold dAt at this ⊢
    rw [wipeE_out hj']; exact this
theorem AcI.upd (I : AcI P w K av vs ms rs rv cs Dd Z1 H1 S1 E0 T0 σ Z env T H ts c tc) (k : Kp (fun a => a ∈ fp c tc) H H') (hv : tc'.v = tc.v) (oc : Own P w K Z H' c' tc') (nd : (fp c' tc').Nodup) {N : Addr → Prop} (fr : ∀ a ∈ fp c' tc', a ∈ fp c tc ∨ N a) (hN : ∀ a, N a → ¬ Z a ∧ ¬ AllFp env T a)
    (sN : ∀ a, N a → S1 a ∨ H1 a = none) : AcI P w K av vs ms rs rv cs Dd Z1 H1 S1 E0 T0 σ Z env T H' ts c' tc' := by
  have hz : ∀ a, Z a → ¬ a ∈ fp c tc := fun a z q => (I.ap a q).1 z
  refine ⟨I.rel.kp k fun a h => ⟨(I.ap a h).2, (I.ap a h).1⟩, I.rr.keep (ms := []) I.nt k hz (fun _ z => z) (fun _ _ => ⟨rfl, rfl⟩) ?_, I.rv, I.eg, I.nt, hv.trans I.hv, oc, nd, fun a h => (fr a h).elim (I.ap a) (hN a), ?_, I.kk⟩
  · rw [List.all_eq_true]
    intro r _
    cases r <;> rfl
  · refine ⟨fun x o e q => ?_, fun x h => ?_, I.sn.z, I.sn.zm⟩
    · have h1 := I.sn.kp x o e q
      refine k x o h1 fun m z => ?_
      rcases I.sn.own x (.inr z) with h | h
      · exact q m h
      · rw [e] at h; cases h
    · rcases h with h | h
      · exact I.sn.own x (.inl h)
      · exact (fr x h).elim (fun h => I.sn.own x (.inr h)) (sN x)
theorem AcI.more (I : AcI P w K av vs ms rs rv cs Dd Z1 H1 S1 E0 T0 σ Z env T H ts c tc) {ts' : List VT} (rr : RRelL P w K Z env T H rs' ts') (eg : gets rs' env = some cs') (nt : (rs'.all R.noTmp) = true) (e0 : E0' = env) (e1 : T0' = T) :
    AcI P w K av vs' ms' (rs ++ rs') (rv ++ ts'.map VT.v) (cs ++ cs') Dd Z1 H1 S1 E0' T0' σ Z env T H (ts ++ ts') c tc := by
  refine ⟨I.rel, ?_, by rw [List.map_append, I.rv], ?_, by rw [List.all_append, I.nt, nt]; rfl, I.hv, I.oc, I.nd, I.ap, I.sn, fun j _ => ⟨fun _ => by rw [e0, e1]; exact ⟨rfl, rfl⟩, fun h => by rw [e0] at h; exact h⟩⟩
  · have := I.rr
    clear I
    induction rs generalizing ts with
    | nil => cases ts with
      | nil => exact rr
      | cons _ _ => exact this.elim
    | cons r rs ih => cases ts with
      | nil => exact this.elim
      | cons t ts => exact ⟨this.1, ih this.2⟩
  · have := I.eg
    clear I
    induction rs generalizing cs with
    | nil => cases this; exact eg
    | cons r rs ih =>
      obtain ⟨d, a1, a2⟩ := Option.bind_eq_some_iff.mp this
      obtain ⟨ds, a3, a4⟩ := Option.bind_eq_some_iff.mp a2
      cases a4
      show (r.get env).bind _ = _
      rw [a1, Option.bind_some]
      show ((gets (rs ++ rs') env).bind fun ds => some (d :: ds)) = _
      rw [ih a3]; rfl
theorem rrl_split {rs rs' : List R} {ts : List VT} (h : RRelL P w K Z env T H (rs ++ rs') ts) : ∃ t1 t2, ts = t1 ++ t2 ∧ RRelL P w K Z env T H rs t1 ∧ RRelL P w K Z env T H rs' t2 := by
  induction rs generalizing ts with
  | nil => exact ⟨[], ts, rfl, trivial, h⟩
  | cons r rs ih =>
    cases ts with
    | nil => exact h.elim
    | cons t ts =>
      obtain ⟨t1, t2, e, a, b⟩ := ih h.2
      exact ⟨t :: t1, t2, by rw [e]; rfl, ⟨h.1, a⟩, b⟩
theorem gets_split {rs rs' : List R} {cs cs' : List D} (h : gets (rs ++ rs') env = some (cs ++ cs')) (hl : rs.length = cs.length) : gets rs env = some cs ∧ gets rs' env = some cs' := by
  induction rs generalizing cs with
  | nil => cases cs with
    | nil => exact ⟨rfl, h⟩
    | cons _ _ => cases hl
  | cons r rs ih =>
    cases cs with
    | nil => cases hl
    | cons c cs =>
      obtain ⟨d, a1, a2⟩ := Option.bind_eq_some_iff.mp (show ((r.get env).bind fun d => (gets (rs ++ rs') env).bind fun ds => some (d :: ds)) = some (c :: (cs ++ cs')) from h)
      obtain ⟨ds, a3, a4⟩ := Option.bind_eq_some_iff.mp a2
      have a5 := Option.some.inj a4
      injection a5 with a6 a7
      subst a6 a7
      obtain ⟨b1, b2⟩ := ih a3 (by simpa using hl)
      refine ⟨?_, b2⟩
      show (r.get env).bind _ = _
      rw [a1, Option.bind_some, b1]; rfl
theorem AcI.less {E1 : En} {T1 : Nat → VT} {vs1 ms1 : List Nat} (I : AcI P w K av vs1 ms1 (rs ++ rs') (rv ++ rv') (cs ++ cs') Dd Z1 H1 S1 E1 T1 σ Z env T H ts c tc) (hl : rs.length = cs.length) (hl2 : rs.length = rv.length)
    (kk : ∀ j, j ∉ vs → (j ∉ ms → T1 j = T0 j ∧ E1[j]? = E0[j]?) ∧ ((dAt E0 j).isSome = true → (dAt E1 j).isSome = true)) (hv : ∀ j ∈ vs1, j ∈ vs) (hm : ∀ j ∈ ms1, j ∈ ms) :
    ∃ ts1, AcI P w K av vs ms rs rv cs Dd Z1 H1 S1 E0 T0 σ Z env T H ts1 c tc := by
  obtain ⟨t1, t2, e, a, b⟩ := rrl_split I.rr
  subst e
  have nt := I.nt
  rw [List.all_append, Bool.and_eq_true] at nt
  have e2 := I.rv
  rw [List.map_append] at e2
  have e3 : t1.map VT.v = rv := (List.append_inj e2 (by rw [List.length_map, ← a.len, hl2])).1
  refine ⟨t1, I.rel, a, e3, (gets_split I.eg hl).1, nt.1, I.hv, I.oc, I.nd, I.ap, I.sn, fun j hj => ?_⟩
  have hj1 : j ∉ vs1 := fun z => hj (hv j z)
  obtain ⟨k1, k2⟩ := I.kk j hj1
  obtain ⟨k3, k4⟩ := kk j hj
  refine ⟨fun q => ?_, fun h => k2 (k4 h)⟩
  obtain ⟨a1, a2⟩ := k1 fun z => q (hm j z)
  obtain ⟨b1, b2⟩ := k3 q
  exact ⟨a1.trans b1, a2.trans b2⟩
theorem AcI.start (R2 : Rel P w K av Z env T σ H) (rr : RRelL P w K Z env T H rs ts) (eg : gets rs env = some cs) (nt : (rs.all R.noTmp) = true) {o : HO} (nD : H Dd = none) (hv : tc.v = .ref Dd) (oc : Own P w K Z (L2.upd H Dd o) c tc) (fc : fp c tc = [Dd]) (hS1 : ∀ a, AllFp env T a → S1 a) :
    AcI P w K av vs ms rs (ts.map VT.v) cs Dd Z H S1 env T σ Z env T (L2.upd H Dd o) ts c tc := by
  have kpn : Kp (fun _ => False) H (L2.upd H Dd o) := kp_new nD
  refine ⟨R2.kp kpn fun _ z => z.elim, rr.keep (ms := []) nt kpn (fun _ _ z => z) (fun _ z => z) (fun _ _ => ⟨rfl, rfl⟩) ?_, rfl, eg, nt, hv, oc, by rw [fc]; exact nd_one, fun a h => ?_, ⟨kpn.mono fun _ z => z.elim, fun x h => ?_, fun x h => .inl h, fun x h => h⟩, fun j _ => ⟨fun _ => ⟨rfl, rfl⟩, fun h => h⟩⟩
  · rw [List.all_eq_true]
    intro r _
    cases r <;> rfl
  · rw [fc] at h
    rw [List.mem_singleton.mp h]
    refine ⟨fun z => R2.zs Dd z nD, fun z => ?_⟩
    obtain ⟨o, ho, _⟩ := R2.stands z
    rw [nD] at ho; cases ho
  · rw [fc] at h
    rcases h with h | h
    · exact .inl (hS1 x h)
    · rw [List.mem_singleton.mp h]; exact .inr nD
theorem AcI.fin {E1 : En} {T1 : Nat → VT} {σ1 : L2.St} (I : AcI P w K av vs ms rs rv cs Dd Z1 H1 S1 E1 T1 (L2.wipe σ1 vs) Z env T H ts c tc) (R2 : Rel P w K av Z1 E1 T1 σ1 H1) (hS1 : ∀ a, S1 a → AllFp E1 T1 a) (ok3 : ∀ j ∈ vs, (∀ d, dAt E1 j = some d → d.pure = true) ∧ j < E1.length) :
    ∃ T3, Rel P w K av Z (backE E1 env vs) T3 σ1 H ∧ RRel P w K Z (backE E1 env vs) T3 H (.v c) tc ∧ Since Z1 H1 S1 Z H (fun a => AllFp (backE E1 env vs) T3 a ∨ a ∈ fp c tc) ∧ Kept ms E1 T1 (backE E1 env vs) T3 := by
  generalize hT : (fun j => if j ∈ vs then T1 j else T j) = T3
  have Tin : ∀ j, j ∈ vs → T3 j = T1 j := fun j h => by rw [← hT]; exact if_pos h
  have Tout : ∀ j, j ∉ vs → T3 j = T j := fun j h => by rw [← hT]; exact if_neg h
  have le : env.length = E1.length := by rw [I.rel.len, wipe_length, ← R2.len]
  have gin : ∀ j, j ∈ vs → (backE E1 env vs)[j]? = E1[j]? := fun j h => backE_in le (ok3 j h).2 h
  have gout : ∀ j, j ∉ vs → (backE E1 env vs)[j]? = env[j]? := fun j h => backE_out h
  have din : ∀ j, j ∈ vs → dAt (backE E1 env vs) j = dAt E1 j := fun j h => by unfold dAt; rw [gin j h]
  have dout : ∀ j, j ∉ vs → dAt (backE E1 env vs) j = dAt env j := fun j h => by unfold dAt; rw [gout j h]
  have fin : ∀ j, j ∈ vs → fps (backE E1 env vs) T3 j = [] := fun j h => by
    unfold fps
    rw [din j h]
    split
    · rename_i d q; exact fp_pure ((ok3 j h).1 d q)
    · rfl
  have fout : ∀ j, j ∉ vs → fps (backE E1 env vs) T3 j = fps env T j := fun j h => by unfold fps; rw [dout j h, Tout j h]
  have fsub : ∀ j a, a ∈ fps (backE E1 env vs) T3 j → a ∈ fps env T j := fun j a h => by
    by_cases hj : j ∈ vs
    · rw [fin j hj] at h; cases h
    · rw [fout j hj] at h; exact h
  have asub : ∀ a, AllFp (backE E1 env vs) T3 a → AllFp env T a := fun a ⟨j, h⟩ => ⟨j, fsub j a h⟩
  have s1 : ∀ a, Z1 a → ¬ S1 a := fun a z q => by
    obtain ⟨j, q⟩ := hS1 a q
    exact R2.dz j a q z
  refine ⟨T3, ⟨by rw [backE_length, le]; exact R2.len, fun j d ej => ?_, fun j d ej => ?_, fun j => ?_, fun j k a h1 h2 => I.rel.dj j k a (fsub j a h1) (fsub k a h2), fun j a h => I.rel.dz j a (fsub j a h), I.rel.zs⟩,
    ⟨I.oc, fun a ha => ⟨(I.ap a ha).1, fun z => (I.ap a ha).2 (asub a z)⟩⟩, I.sn.weak fun a h => h.imp (asub a) id, ⟨fun j hj => ?_, fun j h => ?_⟩⟩
  · by_cases hj : j ∈ vs
    · rw [din j hj] at ej
      rw [Tin j hj]
      have o := R2.own j d ej
      exact ⟨o.1, o.2.frame I.sn.kp s1 I.sn.zm (by rw [fp_pure ((ok3 j hj).1 d ej)]; exact fun _ z => nomatch z)⟩
    · rw [dout j hj] at ej
      rw [Tout j hj]
      have o := I.rel.own j d ej
      exact ⟨(wipe_some o.1).1, o.2⟩
  · by_cases hj : j ∈ vs
    · rw [gin j hj] at ej; rw [Tin j hj]; exact R2.arg j d ej
    · rw [gout j hj] at ej; rw [Tout j hj]; exact I.rel.arg j d ej
  · by_cases hj : j ∈ vs
    · rw [fin j hj]; exact List.nodup_nil
    · rw [fout j hj]; exact I.rel.nd j
  · by_cases hv : j ∈ vs
    · exact ⟨Tin j hv, gin j hv⟩
    · obtain ⟨b1, b2⟩ := (I.kk j hv).1 hj
      exact ⟨by rw [Tout j hv, b1], by rw [gout j hv, b2]⟩
  · by_cases hv : j ∈ vs
    · rw [din j hv]; exact h
    · rw [dout j hv]; exact (I.kk j hv).2 h
end
end
end G
set_option Elab.async false
set_option linter.all false
set_option maxRecDepth 100000
namespace G
open PySem PySem.Spec PyProof.Rows L2
def cOk (g : MG) (msb : List Nat) (vs : List Nat) (rs : List R) (e1 : En) : Bool :=
  (rs.all fun r => r.okS (vs ++ msb)) && (rs.all R.noTmp) && (g.ms.all fun j => vs.contains j) && (vs.all fun j => pureSl e1 j && decide (j < e1.length))
theorem cOk_of {g : MG} {msb vs : List Nat} {rs : List R} {e1 : En} (h : cOk g msb vs rs e1 = true) :
    (rs.all fun r => r.okS (vs ++ msb)) = true ∧ (rs.all R.noTmp) = true ∧ (∀ j ∈ g.ms, j ∈ vs) ∧ ∀ j ∈ vs, (∀ d, dAt e1 j = some d → d.pure = true) ∧ j < e1.length := by
  unfold cOk at h
  rw [Bool.and_eq_true, Bool.and_eq_true, Bool.and_eq_true] at h
  refine ⟨h.1.1.1, h.1.1.2, fun j hj => ?_, fun j hj => ?_⟩
  · have := List.all_eq_true.mp h.1.2 j hj
    simpa using this
  · have := List.all_eq_true.mp h.2 j hj
    rw [Bool.and_eq_true, decide_eq_true_eq] at this
    refine ⟨fun d e => ?_, this.2⟩
    have h1 := this.1
    unfold pureSl at h1
    rw [e] at h1; exact h1
def dcGo (g : MG) (tt : MT) (tk tv : ME) (vs : List Nat) : List D → En → List D × List D → Option ((List D × List D) × En)
  | [], env, acc => some (acc, env)
  | d :: ds, env, acc => (g.run d env).bind fun e => (tt.run e).bind fun x =>
      if x.1 = true then ((ma2 tk tv).run x.2).bind fun y => (owns y.1 y.2).bind fun z => match z with
        | [k, v] => if (k.toK.isSome && (acc.1.all fun d => d.toK.isSome)) = true ∧ acc.1.length < sizeLine then dcGo g tt tk tv vs ds (wipeE y.2 vs) (dPut acc.1 acc.2 k v) else none
        | _ => none
      else dcGo g tt tk tv vs ds (wipeE x.2 vs) acc
def mDc (it : MI) (g : MG) (tt : MT) (tk tv : ME) (vs : List Nat) : ME := ⟨it.ms ++ (tt.ms ++ (ma2 tk tv).ms), fun env => (it.run env).bind fun x =>
  if cOk g (tt.ms ++ (ma2 tk tv).ms) vs x.2.1 x.2.2 = true then (dcGo g tt tk tv vs x.1 (wipeE x.2.2 vs) ([], [])).bind fun z => some (.v (.dct true z.1.1 z.1.2), backE x.2.2 z.2 vs) else none⟩
section
variable {P : Program} {w : World} {K : PySem.W.Frag} {Z Z' : Addr → Prop} {H H' : Hp} {env env' : En} {T T' : Nat → VT} {σ : L2.St} {av : List (V × D)}
theorem keyOk_K {ks : List D} {k : D} (h : (k.toK.isSome && (ks.all fun d => d.toK.isSome)) = true) : ∃ key, k.toK = some key ∧ keyOk ks k = true := by
  rw [Bool.and_eq_true] at h
  obtain ⟨key, e⟩ := Option.isSome_iff_exists.mp h.1
  exact ⟨key, e, by unfold keyOk; rw [e]; exact h.2⟩
theorem toK_v {k : D} {key : Key} {t : VT} (e : k.toK = some key) (o : Own P w K Z H k t) : t.v = kV key := by
  rw [toK_eq e] at o
  cases key with
  | inl i => exact o.int
  | inr x => exact o.str
theorem tDc_of {it : MI} {g : MG} {tt : MT} {tk tv : ME} {vs : List Nat} : ∀ σ H Q, tS P w K (mDc it g tt tk tv vs) σ H Q → tDc (tSI P w K it) (tSG P w K g) (tST P w K tt) (tS P w K tk) (tS P w K tv) vs σ H Q := by
  rintro σ H Q ⟨av, Z, env, T, R1, r, env', e, f⟩
  obtain ⟨⟨ds, rs, e1⟩, q1, e⟩ := Option.bind_eq_some_iff.mp e
  dsimp only at e
  by_cases hok : cOk g (tt.ms ++ (ma2 tk tv).ms) vs rs e1 = true
  · rw [if_pos hok] at e
    obtain ⟨⟨accF, e2⟩, q2, e⟩ := Option.bind_eq_some_iff.mp e
    cases e
    obtain ⟨ok1, okt, ok2, ok3⟩ := cOk_of hok
    have okv : (rs.all fun r => r.okS vs) = true := okS_mono ok1 fun j h => List.mem_append_left _ h
    refine ⟨av, Z, env, T, R1, ds, rs, e1, q1, fun H1 Z1 T1 ts cs J R2 rr eg sn kk wk => fun Dd nD => ?_⟩
    have sn1 : Since Z H (AllFp env T) Z1 H1 (AllFp e1 T1) := sn.weak fun a h => .inl h
    have start0 : AcI P w K av vs (tt.ms ++ (ma2 tk tv).ms) rs (ts.map VT.v) cs Dd Z1 H1 (AllFp e1 T1) e1 T1 σ Z1 e1 T1 (L2.upd H1 Dd (.dK [])) ts (.dct true [] []) (.mk (.ref Dd) []) :=
      AcI.start R2 rr eg okt nD rfl (by rw [Own]; exact ⟨Dd, rfl, (fun z => nomatch z), List.nodup_nil, .inl ⟨[], upd_same, rfl, rfl⟩, by rw [OwnL]; trivial⟩) (by rw [fp, vad, fpL_nil]; rfl) fun _ h => h
    have start := start0.wipe (vs' := vs) (fun _ h => h) okv
    refine ⟨fun i m H => m = ds.length - i ∧ i ≤ ds.length ∧ ∃ Z env T ts' acc tc, AcI P w K av vs (tt.ms ++ (ma2 tk tv).ms) rs (ts.map VT.v) cs Dd Z1 H1 (AllFp e1 T1) e1 T1 (L2.wipe σ vs) Z env T H ts' (.dct true acc.1 acc.2) tc ∧ dcGo g tt tk tv vs (ds.drop i) env acc = some (accF, e2),
      ⟨ds.length, by omega, Nat.zero_le _, Z1, _, T1, ts, ([], []), _, start, q2⟩, ?_⟩
    rintro i m H2 ⟨rfl, hi, Z2, e3, T2, ts2, acc, tc, I, ef⟩
    obtain ⟨w1, w2⟩ := wk av Z2 e3 T2 _ H2 ts2 I.rel I.rr I.rv I.eg i
    by_cases hlt : i < ds.length
    · obtain ⟨go, yld⟩ := w1 ds[i] (List.getElem?_eq_getElem hlt)
      refine .inr ⟨go, fun H' => i + 1 ≤ ds.length ∧ ∃ Z env T ts' acc tc, AcI P w K av vs (tt.ms ++ (ma2 tk tv).ms) rs (ts.map VT.v) cs Dd Z1 H1 (AllFp e1 T1) e1 T1 (L2.wipe σ vs) Z env T H' ts' (.dct true acc.1 acc.2) tc ∧ dcGo g tt tk tv vs (ds.drop (i + 1)) env acc = some (accF, e2),
        fun H' h => ⟨ds.length - (i + 1), by omega, rfl, h⟩, fun x H3 hy => ?_⟩
      rw [List.drop_eq_getElem_cons hlt] at ef
      obtain ⟨e4, q4, ef⟩ := Option.bind_eq_some_iff.mp ef
      obtain ⟨⟨b, e5⟩, q5, ef⟩ := Option.bind_eq_some_iff.mp ef
      obtain ⟨t, rfl, ot, k3⟩ := yld x H3 hy
      have R4 : Rel P w K av Z2 e3 T2 (L2.wipe σ vs) H3 := I.rel.kp k3 fun _ z => z.elim
      have wp : ∀ {σ5 : L2.St}, (σ5.length = (L2.wipe σ vs).length ∧ ∀ j, j ∉ g.ms → σ5[j]? = (L2.wipe σ vs)[j]?) → L2.wipe σ5 vs = L2.wipe σ vs := fun {σ5} s5 => by
        rw [wipe_congr (σ := L2.wipe σ vs) s5.1 fun j hj => s5.2 j fun z => hj (ok2 j z)]
        exact wipe_congr (wipe_length σ vs) fun j hj => wipe_out hj
      refine ⟨av, Z2, e3, T2, ds[i], t, R4, rfl, ot, e4, q4, fun σ5 T5 R5 h5 k5 s5 => ⟨wp s5, ?_⟩⟩
      have hw := wp s5
      have s23 : Since Z2 H2 (AllFp e3 T2) Z2 H3 (AllFp e3 T2) := ⟨k3.mono fun _ z => z.elim, fun _ h => .inl h, fun _ h => .inl h, fun _ h => h⟩
      have s35 : Since Z2 H3 (AllFp e3 T2) Z2 H3 (AllFp e4 T5) := ⟨.refl, fun a h => .inl (h5 a h), fun _ h => .inl h, fun _ h => h⟩
      have s25 := s23.trans s35
      refine ⟨av, Z2, e4, T5, R5, b, e5, q5, fun H6 Z6 T6 R6 s56 k56 => ?_⟩
      have s26 := s25.trans s56
      have kk6 : ∀ j, j ∉ vs → (j ∉ tt.ms → T6 j = T2 j ∧ e5[j]? = e3[j]?) ∧ ((dAt e3 j).isSome = true → (dAt e5 j).isSome = true) := fun j hj => by
        refine ⟨fun hm => ?_, fun h => k56.has j (k5.has j h)⟩
        obtain ⟨a1, a2⟩ := k5.same j fun z => hj (ok2 j z)
        obtain ⟨b1, b2⟩ := k56.same j hm
        exact ⟨b1.trans a1, b2.trans a2⟩
      cases b with
      | false =>
        dsimp only at ef
        rw [if_neg Bool.false_ne_true] at ef
        show (if (false = true) then _ else _)
        rw [if_neg Bool.false_ne_true]
        obtain ⟨I6, _⟩ := I.next R6 s26 (fun _ h => h) (fun j hj => ⟨fun hm => (kk6 j hj).1 fun z => hm (List.mem_append_left _ z), (kk6 j hj).2⟩) ok1
        have I7 := I6.wipe (vs' := vs) (fun _ h => h) okv
        rw [hw] at I7
        exact ⟨hlt, Z6, _, T6, ts2, acc, tc, I7, ef⟩
      | true =>
        dsimp only at ef
        rw [if_pos rfl] at ef
        show (if (true = true) then _ else _)
        rw [if_pos rfl]
        obtain ⟨⟨rs2, e6⟩, q6, ef⟩ := Option.bind_eq_some_iff.mp ef
        obtain ⟨z, q7, ef⟩ := Option.bind_eq_some_iff.mp ef
        dsimp only at ef q7
        have main : tSA P w K (ma2 tk tv) σ5 H6 fun xs H5 => ∀ y z, xs = [y, z] → ∃ kvs k, y = kV k ∧ H5 Dd = some (.dK kvs) ∧ kvs.length < sizeLine ∧ (fun H' => i + 1 ≤ ds.length ∧ ∃ Z env T ts' acc tc, AcI P w K av vs (tt.ms ++ (ma2 tk tv).ms) rs (ts.map VT.v) cs Dd Z1 H1 (AllFp e1 T1) e1 T1 (L2.wipe σ vs) Z env T H' ts' (.dct true acc.1 acc.2) tc ∧ dcGo g tt tk tv vs (ds.drop (i + 1)) env acc = some (accF, e2)) (L2.upd H5 Dd (.dK (putK kvs k z))) := by
          refine ⟨av, Z6, e5, T6, R6, rs2, e6, q6, fun H7 Z7 T7 ts7 R7 rr7 nd7 s67 k67 y z' ez => ?_⟩
          obtain ⟨o1, o2, _, o4⟩ := owns_own R7 rr7 q7
          match z, ef, o1, o2, o4 with
          | [k, v], ef, o1, o2, o4 =>
            dsimp only at ef
            by_cases hc : (k.toK.isSome && (acc.1.all fun d => d.toK.isSome)) = true ∧ acc.1.length < sizeLine
            · rw [if_pos hc] at ef
              obtain ⟨tk', tv', rfl, ok', ov'⟩ := o1.two'
              simp only [List.map_cons, List.map_nil, List.cons.injEq, and_true] at ez
              obtain ⟨rfl, rfl⟩ := ez
              obtain ⟨key, ek, hk⟩ := keyOk_K hc.1
              have s27 := s26.trans s67
              obtain ⟨I7, ns⟩ := I.next R7 s27 (fun _ h => .inl h) (fun j hj => ⟨fun hm => by
                obtain ⟨a1, a2⟩ := (kk6 j hj).1 fun z => hm (List.mem_append_left _ z)
                obtain ⟨b1, b2⟩ := k67.same j fun z => hm (List.mem_append_right _ z)
                exact ⟨b1.trans a1, b2.trans a2⟩, fun h => k67.has j ((kk6 j hj).2 h)⟩) ok1
              have fk : fp k tk' = [] := by
                rw [toK_eq ek]
                cases key <;> (unfold keyS; rw [fp])
              have fe2 : fpL [k, v] [tk', tv'] = fp v tv' := by rw [fpL, fpL_one, fk, List.nil_append]
              rw [fe2] at o2 o4
              have fc : fp (.dct true acc.1 acc.2) tc = Dd :: fpL acc.2 tc.ks := by
                have hv := I.hv
                cases tc with
                | mk v0 ks0 =>
                  rw [fp]
                  rw [show v0 = V.ref Dd from hv, vad, List.singleton_append]; rfl
              have ndc := I7.nd
              have apc := I7.ap
              rw [fc] at ndc apc ns
              have nd2 : (Dd :: (fpL acc.2 tc.ks ++ fp v tv')).Nodup := by
                rw [← List.cons_append]
                exact List.nodup_append.mpr ⟨ndc, nd7.sublist o4, fun a ha b hb e => ns b (.inr (o2 b hb)) (e ▸ ha)⟩
              obtain ⟨H', ks', dp, kp, ow, nd3, sub⟩ := own_put I7.oc ok' ov' hk hc.2 I7.hv nd2 (apc Dd List.mem_cons_self).1
              have fe3 : fp (.dct true (dPut acc.1 acc.2 k v).1 (dPut acc.1 acc.2 k v).2) (.mk (.ref Dd) ks') = Dd :: fpL (dPut acc.1 acc.2 k v).2 ks' := by rw [fp, vad, List.singleton_append]
              have g : Since Z2 H2 (fun a => AllFp e3 T2 a ∨ a ∈ fp (.dct true acc.1 acc.2) tc) Z7 H7 (fun a => AllFp e6 T7 a ∨ a ∈ rfpL rs2 [tk', tv']) :=
                ⟨s27.kp.mono fun _ h => .inl h, fun x h => (s27.own x h).imp .inl id, fun x h => (s27.z x h).imp id (Or.imp .inl id), s27.zm⟩
              have I8 := I7.upd (c' := .dct true (dPut acc.1 acc.2 k v).1 (dPut acc.1 acc.2 k v).2) (tc' := .mk (.ref Dd) ks') (N := fun a => a ∈ fp v tv') (kp.mono fun b h => by rw [h, fc]; exact List.mem_cons_self) I7.hv.symm ow
                (by rw [fe3]; exact List.nodup_cons.mpr ⟨fun z => (List.nodup_cons.mp nd2).1 (List.mem_append.mpr (sub Dd z)), nd3⟩)
                (fun a ha => by
                  rw [fe3] at ha
                  rw [fc]
                  rcases List.mem_cons.mp ha with rfl | ha
                  · exact .inl List.mem_cons_self
                  · exact (sub a ha).imp (List.mem_cons_of_mem _) id)
                (fun a ha => rr7.apart a (o2 a ha)) (fun a ha => (I.sn.trans g).own a (.inr (o2 a ha)))
              have I9 := I8.wipe (vs' := vs) (fun _ h => h) okv
              rw [hw] at I9
              rcases dp with ⟨kvs, key2, h1, h2, h3, h4⟩ | ⟨xs, key2, b, h1, h2, _⟩
              · exact ⟨kvs, key2, h2, h1, h3, by rw [← h4]; exact ⟨hlt, Z7, _, T7, ts2, dPut acc.1 acc.2 k v, _, I9, ef⟩⟩
              · exfalso
                rw [toK_v ek ok'] at h2
                cases key <;> cases h2
            · rw [if_neg hc] at ef; cases ef
          | [], ef, _, _, _ => cases ef
          | [_], ef, _, _, _ => cases ef
          | _ :: _ :: _ :: _, ef, _, _, _ => cases ef
        exact tS_mono (tSA_c2 main) fun x H h => tS_mono h fun y H' h' => h' x y rfl
    · have hi' : i = ds.length := by omega
      subst hi'
      refine .inl ⟨w2 (Nat.le_refl _), ?_⟩
      rw [List.drop_length] at ef
      cases ef
      obtain ⟨T3, a1, a2, a3, a4⟩ := I.fin R2 (fun _ h => h) ok3
      have := f H2 Z2 T3 tc a1 a2 I.nd (sn1.trans a3) (kk.trans a4)
      rw [I.hv] at this
      exact this
  · rw [if_neg hok] at e; cases e
end
end G
set_option Elab.async false
set_option linter.all false
set_option maxRecDepth 100000
namespace G
open PySem PySem.Spec PyProof.Rows L2
def lc2Go (g : MG) (tt : MT) (it1 : MI) (g1 : MG) (tt1 : MT) (te : ME) (vs vs1 : List Nat) : List D → En → List D → Option (List D × En)
  | [], env, acc => some (acc, env)
  | d :: ds, env, acc => (g.run d env).bind fun e => (tt.run e).bind fun x =>
      if x.1 = true then (it1.run x.2).bind fun y => if ((y.2.1.all fun r => r.okS (vs1 ++ (tt1.ms ++ te.ms))) && (y.2.1.all R.noTmp)) = true then
          (lcGo g1 tt1 te vs1 y.1 (wipeE y.2.2 vs1) acc).bind fun z => lc2Go g tt it1 g1 tt1 te vs vs1 ds (wipeE z.2 vs) z.1 else none
      else lc2Go g tt it1 g1 tt1 te vs vs1 ds (wipeE x.2 vs) acc
def mLc2 (it : MI) (g : MG) (tt : MT) (it1 : MI) (g1 : MG) (tt1 : MT) (te : ME) (vs vs1 : List Nat) : ME := ⟨it.ms ++ (tt.ms ++ (it1.ms ++ (tt1.ms ++ te.ms))), fun env => (it.run env).bind fun x =>
  if (cOk g (tt.ms ++ (it1.ms ++ (tt1.ms ++ te.ms))) vs x.2.1 x.2.2 && (g1.ms.all fun j => vs1.contains j) && (vs1.all fun j => vs.contains j)) = true then
    (lc2Go g tt it1 g1 tt1 te vs vs1 x.1 (wipeE x.2.2 vs) []).bind fun z => some (.v (.lst true z.1), backE x.2.2 z.2 vs) else none⟩
section
variable {P : Program} {w : World} {K : PySem.W.Frag} {Z Z' : Addr → Prop} {H H' : Hp} {env env' : En} {T T' : Nat → VT} {σ : L2.St} {av : List (V × D)}
theorem own_app {acc : List D} {z : D} {tc t : VT} {a : Addr} (o : Own P w K Z H (.lst true acc) tc) (ot : Own P w K Z H z t) (ea : tc.v = .ref a) (nd : (a :: (fpL acc tc.ks ++ fp z t)).Nodup) (nz : ¬ Z a) :
    H a = some (.lst (tc.ks.map VT.v)) ∧ Kp (fun b => b = a) H (upd H a (.lst (tc.ks.map VT.v ++ [t.v]))) ∧ Own P w K Z (upd H a (.lst (tc.ks.map VT.v ++ [t.v]))) (.lst true (acc ++ [z])) (.mk (.ref a) (tc.ks ++ [t])) ∧
      fp (.lst true (acc ++ [z])) (.mk (.ref a) (tc.ks ++ [t])) = a :: (fpL acc tc.ks ++ fp z t) := by
  obtain ⟨a', ea', ha, ol⟩ := o.lstM
  rw [ea] at ea'; cases ea'
  have kp : Kp (fun b => b = a) H (upd H a (.lst (tc.ks.map VT.v ++ [t.v]))) := kp_upd rfl fun u e => by rw [ha] at e; cases e; trivial
  have zz : ∀ b, Z b → ¬ b = a := fun b z e => nz (e ▸ z)
  obtain ⟨na, nd2⟩ := List.nodup_cons.mp nd
  refine ⟨ha, kp, ?_, by rw [fp, vad, List.singleton_append, fpL_append ol.length, fpL_one]⟩
  rw [Own]
  refine ⟨a, rfl, by rw [upd_same, List.map_append]; rfl, ?_⟩
  refine (ol.frame kp zz (fun _ z => z) fun b hb e => na (e ▸ List.mem_append_left _ hb)).append ?_
  rw [OwnL, OwnL]
  exact ⟨ot.frame kp zz (fun _ z => z) fun b hb e => na (e ▸ List.mem_append_right _ hb), trivial⟩
theorem all_okS_append {rs rs' : List R} {ms : List Nat} (h : (rs.all fun r => r.okS ms) = true) (h' : (rs'.all fun r => r.okS ms) = true) : ((rs ++ rs').all fun r => r.okS ms) = true := by
  rw [List.all_append, h, h']; rfl
theorem tLc2_of {it it1 : MI} {g g1 : MG} {tt tt1 : MT} {te : ME} {vs vs1 : List Nat} : ∀ σ H Q, tS P w K (mLc2 it g tt it1 g1 tt1 te vs vs1) σ H Q →
    tLc2 (tSI P w K it) (tSG P w K g) (tST P w K tt) (tSI P w K it1) (tSG P w K g1) (tST P w K tt1) (tS P w K te) vs vs1 σ H Q := by
  rintro σ H Q ⟨av, Z, env, T, R1, r, env', e, f⟩
  obtain ⟨⟨ds, rs, e1⟩, q1, e⟩ := Option.bind_eq_some_iff.mp e
  dsimp only at e
  by_cases hok : (cOk g (tt.ms ++ (it1.ms ++ (tt1.ms ++ te.ms))) vs rs e1 && (g1.ms.all fun j => vs1.contains j) && (vs1.all fun j => vs.contains j)) = true
  · rw [if_pos hok] at e
    rw [Bool.and_eq_true, Bool.and_eq_true] at hok
    obtain ⟨⟨hok, hg1⟩, hv1⟩ := hok
    have hg1 : ∀ j ∈ g1.ms, j ∈ vs1 := fun j hj => by simpa using List.all_eq_true.mp hg1 j hj
    have hv1 : ∀ j ∈ vs1, j ∈ vs := fun j hj => by simpa using List.all_eq_true.mp hv1 j hj
    obtain ⟨⟨accF, e2⟩, q2, e⟩ := Option.bind_eq_some_iff.mp e
    cases e
    obtain ⟨ok1, okt, ok2, ok3⟩ := cOk_of hok
    have okv : (rs.all fun r => r.okS vs) = true := okS_mono ok1 fun j h => List.mem_append_left _ h
    generalize hms : tt.ms ++ (it1.ms ++ (tt1.ms ++ te.ms)) = ms at ok1 q2
    have m1 : ∀ j ∈ tt.ms, j ∈ ms := fun j h => by rw [← hms]; exact List.mem_append_left _ h
    have m2 : ∀ j ∈ it1.ms, j ∈ ms := fun j h => by rw [← hms]; exact List.mem_append_right _ (List.mem_append_left _ h)
    have m3 : ∀ j ∈ tt1.ms ++ te.ms, j ∈ ms := fun j h => by rw [← hms]; exact List.mem_append_right _ (List.mem_append_right _ h)
    refine ⟨av, Z, env, T, R1, ds, rs, e1, q1, fun H1 Z1 T1 ts cs J R2 rr eg sn kk wk => fun Dd nD => ?_⟩
    have sn1 : Since Z H (AllFp env T) Z1 H1 (AllFp e1 T1) := sn.weak fun a h => .inl h
    have start0 : AcI P w K av vs ms rs (ts.map VT.v) cs Dd Z1 H1 (AllFp e1 T1) e1 T1 σ Z1 e1 T1 (L2.upd H1 Dd (.lst [])) ts (.lst true []) (.mk (.ref Dd) []) :=
      AcI.start R2 rr eg okt nD rfl (by rw [Own]; exact ⟨Dd, rfl, upd_same, by rw [OwnL]; trivial⟩) (by rw [fp, vad, fpL_nil]; rfl) fun _ h => h
    have start := start0.wipe (vs' := vs) (fun _ h => h) okv
    have hl1 : rs.length = cs.length := gets_len eg
    have hl2 : rs.length = (ts.map VT.v).length := by rw [List.length_map, rr.len]
    refine ⟨fun i m H => m = ds.length - i ∧ i ≤ ds.length ∧ ∃ Z env T ts' acc tc, AcI P w K av vs ms rs (ts.map VT.v) cs Dd Z1 H1 (AllFp e1 T1) e1 T1 (L2.wipe σ vs) Z env T H ts' (.lst true acc) tc ∧ lc2Go g tt it1 g1 tt1 te vs vs1 (ds.drop i) env acc = some (accF, e2),
      ⟨ds.length, by omega, Nat.zero_le _, Z1, _, T1, ts, [], _, start, q2⟩, ?_⟩
    rintro i m H2 ⟨rfl, hi, Z2, e3, T2, ts2, acc, tc, I, ef⟩
    obtain ⟨w1, w2⟩ := wk av Z2 e3 T2 _ H2 ts2 I.rel I.rr I.rv I.eg i
    by_cases hlt : i < ds.length
    · obtain ⟨go, yld⟩ := w1 ds[i] (List.getElem?_eq_getElem hlt)
      refine .inr ⟨go, fun H' => i + 1 ≤ ds.length ∧ ∃ Z env T ts' acc tc, AcI P w K av vs ms rs (ts.map VT.v) cs Dd Z1 H1 (AllFp e1 T1) e1 T1 (L2.wipe σ vs) Z env T H' ts' (.lst true acc) tc ∧ lc2Go g tt it1 g1 tt1 te vs vs1 (ds.drop (i + 1)) env acc = some (accF, e2),
        fun H' h => ⟨ds.length - (i + 1), by omega, rfl, h⟩, fun x H3 hy => ?_⟩
      rw [List.drop_eq_getElem_cons hlt] at ef
      obtain ⟨e4, q4, ef⟩ := Option.bind_eq_some_iff.mp ef
      obtain ⟨⟨b, e5⟩, q5, ef⟩ := Option.bind_eq_some_iff.mp ef
      obtain ⟨t, rfl, ot, k3⟩ := yld x H3 hy
      have R4 : Rel P w K av Z2 e3 T2 (L2.wipe σ vs) H3 := I.rel.kp k3 fun _ z => z.elim
      have wp : ∀ {σ5 : L2.St}, (σ5.length = (L2.wipe σ vs).length ∧ ∀ j, j ∉ g.ms → σ5[j]? = (L2.wipe σ vs)[j]?) → L2.wipe σ5 vs = L2.wipe σ vs := fun {σ5} s5 => by
        rw [wipe_congr (σ := L2.wipe σ vs) s5.1 fun j hj => s5.2 j fun z => hj (ok2 j z)]
        exact wipe_congr (wipe_length σ vs) fun j hj => wipe_out hj
      refine ⟨av, Z2, e3, T2, ds[i], t, R4, rfl, ot, e4, q4, fun σ5 T5 R5 h5 k5 s5 => ⟨wp s5, ?_⟩⟩
      have hw := wp s5
      have s23 : Since Z2 H2 (AllFp e3 T2) Z2 H3 (AllFp e3 T2) := ⟨k3.mono fun _ z => z.elim, fun _ h => .inl h, fun _ h => .inl h, fun _ h => h⟩
      have s35 : Since Z2 H3 (AllFp e3 T2) Z2 H3 (AllFp e4 T5) := ⟨.refl, fun a h => .inl (h5 a h), fun _ h => .inl h, fun _ h => h⟩
      have s25 := s23.trans s35
      refine ⟨av, Z2, e4, T5, R5, b, e5, q5, fun H6 Z6 T6 R6 s56 k56 => ?_⟩
      have s26 := s25.trans s56
      have kk6 : ∀ j, j ∉ vs → (j ∉ ms → T6 j = T2 j ∧ e5[j]? = e3[j]?) ∧ ((dAt e3 j).isSome = true → (dAt e5 j).isSome = true) := fun j hj => by
        refine ⟨fun hm => ?_, fun h => k56.has j (k5.has j h)⟩
        obtain ⟨a1, a2⟩ := k5.same j fun z => hj (ok2 j z)
        obtain ⟨b1, b2⟩ := k56.same j fun z => hm (m1 j z)
        exact ⟨b1.trans a1, b2.trans a2⟩
      obtain ⟨I6, _⟩ := I.next R6 s26 (fun _ h => h) kk6 ok1
      cases b with
      | false =>
        dsimp only at ef
        rw [if_neg Bool.false_ne_true] at ef
        show (if (false = true) then _ else _)
        rw [if_neg Bool.false_ne_true]
        have I7 := I6.wipe (vs' := vs) (fun _ h => h) okv
        rw [hw] at I7
        exact ⟨hlt, Z6, _, T6, ts2, acc, tc, I7, ef⟩
      | true =>
        dsimp only at ef
        rw [if_pos rfl] at ef
        show (if (true = true) then _ else _)
        rw [if_pos rfl]
        obtain ⟨⟨ds1, rs1, e6⟩, q6, ef⟩ := Option.bind_eq_some_iff.mp ef
        dsimp only at ef
        by_cases hc1 : ((rs1.all fun r => r.okS (vs1 ++ (tt1.ms ++ te.ms))) && (rs1.all R.noTmp)) = true
        · rw [if_pos hc1] at ef
          rw [Bool.and_eq_true] at hc1
          obtain ⟨⟨acc1, e7⟩, q7, ef⟩ := Option.bind_eq_some_iff.mp ef
          dsimp only at ef
          refine ⟨av, Z6, e5, T6, R6, ds1, rs1, e6, q6, fun H7 Z7 T7 ts7 cs7 J7 R7 rr7 eg7 s67 k67 wk7 => ?_⟩
          have nt7 : ∀ a, a ∈ rfpL rs1 ts7 → False := fun a h => by
            rw [rfpL_zip rr7.len] at h
            obtain ⟨z, hz, h⟩ := List.mem_flatMap.mp h
            rw [rfp_noTmp (List.all_eq_true.mp hc1.2 z.1 (List.of_mem_zip hz).1)] at h
            cases h
          obtain ⟨I7, _⟩ := I6.next R7 (s67.weak (S2 := AllFp e6 T7) fun a h => .inl h) (fun _ h => h) (fun j hj => ⟨fun hm => k67.same j fun z => hm (m2 j z), k67.has j⟩) ok1
          have kk7 : ∀ j, j ∉ vs → (j ∉ ms → T7 j = T1 j ∧ e6[j]? = e1[j]?) ∧ ((dAt e1 j).isSome = true → (dAt e6 j).isSome = true) := I7.kk
          have okB : ((rs ++ rs1).all fun r => r.okS (vs1 ++ (tt1.ms ++ te.ms))) = true := all_okS_append (okS_mono ok1 fun j h => by
            rcases List.mem_append.mp h with h | h
            · exact List.mem_append_left _ (hv1 j h)
            · exact List.mem_append_right _ (m3 j h)) hc1.1
          have okBv : ((rs ++ rs1).all fun r => r.okS vs1) = true := okS_mono okB fun j h => List.mem_append_left _ h
          have I8 := (I7.more (vs' := vs1) (ms' := tt1.ms ++ te.ms) rr7 eg7 hc1.2 rfl rfl).wipe (vs' := vs1) (fun _ h => h) okBv
          refine ⟨fun j k H => k = ds1.length - j ∧ j ≤ ds1.length ∧ ∃ Z env T ts' acc tc, AcI P w K av vs1 (tt1.ms ++ te.ms) (rs ++ rs1) (ts.map VT.v ++ ts7.map VT.v) (cs ++ cs7) Dd Z1 H1 (AllFp e1 T1) e6 T7 (L2.wipe σ5 vs1) Z env T H ts' (.lst true acc) tc ∧ lcGo g1 tt1 te vs1 (ds1.drop j) env acc = some (acc1, e7),
            ⟨ds1.length, by omega, Nat.zero_le _, Z7, _, T7, _, acc, tc, I8, q7⟩, ?_⟩
          rintro j k H8 ⟨rfl, hj, Z8, e8, T8, ts8, acc8, tc8, I8, ef8⟩
          obtain ⟨tA, tB, eAB, rA, rB⟩ := rrl_split I8.rr
          have hB : tB.map VT.v = ts7.map VT.v := by
            have := I8.rv
            rw [eAB, List.map_append] at this
            exact (List.append_inj this (by rw [List.length_map, List.length_map, ← rA.len, rr.len])).2
          obtain ⟨w3, w4⟩ := wk7 av Z8 e8 T8 _ H8 tB I8.rel rB hB (gets_split I8.eg hl1).2 j
          by_cases hlt1 : j < ds1.length
          · obtain ⟨go1, yld1⟩ := w3 ds1[j] (List.getElem?_eq_getElem hlt1)
            refine .inr ⟨go1, fun H' => j + 1 ≤ ds1.length ∧ ∃ Z env T ts' acc tc, AcI P w K av vs1 (tt1.ms ++ te.ms) (rs ++ rs1) (ts.map VT.v ++ ts7.map VT.v) (cs ++ cs7) Dd Z1 H1 (AllFp e1 T1) e6 T7 (L2.wipe σ5 vs1) Z env T H' ts' (.lst true acc) tc ∧ lcGo g1 tt1 te vs1 (ds1.drop (j + 1)) env acc = some (acc1, e7),
              fun H' h => ⟨ds1.length - (j + 1), by omega, rfl, h⟩, fun x1 H9 hy1 => ?_⟩
            rw [List.drop_eq_getElem_cons hlt1] at ef8
            obtain ⟨e9, q9, ef8⟩ := Option.bind_eq_some_iff.mp ef8
            obtain ⟨⟨b1, e10⟩, q10, ef8⟩ := Option.bind_eq_some_iff.mp ef8
            obtain ⟨t1, rfl, ot1, k9⟩ := yld1 x1 H9 hy1
            have R9 : Rel P w K av Z8 e8 T8 (L2.wipe σ5 vs1) H9 := I8.rel.kp k9 fun _ z => z.elim
            have wp1 : ∀ {σ6 : L2.St}, (σ6.length = (L2.wipe σ5 vs1).length ∧ ∀ j, j ∉ g1.ms → σ6[j]? = (L2.wipe σ5 vs1)[j]?) → L2.wipe σ6 vs1 = L2.wipe σ5 vs1 := fun {σ6} s6 => by
              rw [wipe_congr (σ := L2.wipe σ5 vs1) s6.1 fun j hj => s6.2 j fun z => hj (hg1 j z)]
              exact wipe_congr (wipe_length σ5 vs1) fun j hj => wipe_out hj
            refine ⟨av, Z8, e8, T8, ds1[j], t1, R9, rfl, ot1, e9, q9, fun σ6 T9 R10 h10 k10 s10 => ⟨wp1 s10, ?_⟩⟩
            have hw1 := wp1 s10
            have t23 : Since Z8 H8 (AllFp e8 T8) Z8 H9 (AllFp e8 T8) := ⟨k9.mono fun _ z => z.elim, fun _ h => .inl h, fun _ h => .inl h, fun _ h => h⟩
            have t35 : Since Z8 H9 (AllFp e8 T8) Z8 H9 (AllFp e9 T9) := ⟨.refl, fun a h => .inl (h10 a h), fun _ h => .inl h, fun _ h => h⟩
            have t25 := t23.trans t35
            refine ⟨av, Z8, e9, T9, R10, b1, e10, q10, fun H11 Z11 T11 R11 t56 k11 => ?_⟩
            have t26 := t25.trans t56
            have kk11 : ∀ j, j ∉ vs1 → (j ∉ tt1.ms → T11 j = T8 j ∧ e10[j]? = e8[j]?) ∧ ((dAt e8 j).isSome = true → (dAt e10 j).isSome = true) := fun j hj => by
              refine ⟨fun hm => ?_, fun h => k11.has j (k10.has j h)⟩
              obtain ⟨a1, a2⟩ := k10.same j fun z => hj (hg1 j z)
              obtain ⟨b1, b2⟩ := k11.same j hm
              exact ⟨b1.trans a1, b2.trans a2⟩
            cases b1 with
            | false =>
              dsimp only at ef8
              rw [if_neg Bool.false_ne_true] at ef8
              show (if (false = true) then _ else _)
              rw [if_neg Bool.false_ne_true]
              obtain ⟨I11, _⟩ := I8.next R11 t26 (fun _ h => h) (fun j hj => ⟨fun hm => (kk11 j hj).1 fun z => hm (List.mem_append_left _ z), (kk11 j hj).2⟩) okB
              have I12 := I11.wipe (vs' := vs1) (fun _ h => h) okBv
              rw [hw1] at I12
              exact ⟨hlt1, Z11, _, T11, ts8, acc8, tc8, I12, ef8⟩
            | true =>
              dsimp only at ef8
              rw [if_pos rfl] at ef8
              show (if (true = true) then _ else _)
              rw [if_pos rfl]
              obtain ⟨⟨r, e12⟩, q12, ef8⟩ := Option.bind_eq_some_iff.mp ef8
              obtain ⟨z, q13, ef8⟩ := Option.bind_eq_some_iff.mp ef8
              dsimp only at ef8 q13
              by_cases hz : acc8.length < sizeLine
              · rw [if_pos hz] at ef8
                refine ⟨av, Z11, e10, T11, R11, r, e12, q12, fun H12 Z12 T12 t12 R12 rr12 nd12 t67 k12 => ?_⟩
                have t27 := t26.trans t67
                obtain ⟨I12, ns⟩ := I8.next R12 t27 (fun _ h => .inl h) (fun j hj => ⟨fun hm => by
                  obtain ⟨a1, a2⟩ := (kk11 j hj).1 fun z => hm (List.mem_append_left _ z)
                  obtain ⟨b1, b2⟩ := k12.same j fun z => hm (List.mem_append_right _ z)
                  exact ⟨b1.trans a1, b2.trans a2⟩, fun h => k12.has j ((kk11 j hj).2 h)⟩) okB
                obtain ⟨o12, nd13, ap12, sub⟩ := kept_own R12 rr12 nd12 q13
                have hv8 := I12.hv
                have fc : fp (.lst true acc8) tc8 = Dd :: fpL acc8 tc8.ks := nd_lst hv8
                have ndc := I12.nd
                have apc := I12.ap
                rw [fc] at ndc apc ns
                have nd2 : (Dd :: (fpL acc8 tc8.ks ++ fp z t12)).Nodup := by
                  rw [← List.cons_append]
                  exact List.nodup_append.mpr ⟨ndc, nd13, fun a ha b hb e => ns b (.inr (sub b hb)) (e ▸ ha)⟩
                obtain ⟨hD, kp, ow, fe3⟩ := own_app I12.oc o12 hv8 nd2 (apc Dd List.mem_cons_self).1
                have gg : Since Z8 H8 (fun a => AllFp e8 T8 a ∨ a ∈ fp (.lst true acc8) tc8) Z12 H12 (fun a => AllFp e12 T12 a ∨ a ∈ rfp r t12) :=
                  ⟨t27.kp.mono fun _ h => .inl h, fun x h => (t27.own x h).imp .inl id, fun x h => (t27.z x h).imp id (Or.imp .inl id), t27.zm⟩
                have I13 := I12.upd (c' := .lst true (acc8 ++ [z])) (tc' := .mk (.ref Dd) (tc8.ks ++ [t12])) (N := fun a => a ∈ fp z t12) (kp.mono fun b h => by rw [h, fc]; exact List.mem_cons_self) hv8.symm ow (by rw [fe3]; exact nd2)
                  (fun a ha => by
                    rw [fe3, ← List.cons_append] at ha
                    rw [fc]
                    exact List.mem_append.mp ha) ap12 (fun a ha => (I8.sn.trans gg).own a (.inr (sub a ha)))
                have I14 := I13.wipe (vs' := vs1) (fun _ h => h) okBv
                rw [hw1] at I14
                obtain ⟨_, _, _, ol8⟩ := I12.oc.lstM
                exact ⟨tc8.ks.map VT.v, hD, by rw [List.length_map, ← ol8.length]; exact hz, hlt1, Z12, _, T12, ts8, acc8 ++ [z], _, I14, ef8⟩
              · rw [if_neg hz] at ef8; cases ef8
          · have hj' : j = ds1.length := by omega
            subst hj'
            refine .inl ⟨w4 (Nat.le_refl _), hlt, ?_⟩
            rw [List.drop_length] at ef8
            have a0 := Prod.mk.inj (Option.some.inj (show some (acc8, e8) = some (acc1, e7) from ef8))
            rw [← a0.1, ← a0.2] at ef
            obtain ⟨ts9, I9⟩ := I8.less hl1 hl2 kk7 hv1 m3
            have I10 := I9.wipe (vs' := vs) (fun _ h => h) okv
            have hww : L2.wipe (L2.wipe σ5 vs1) vs = L2.wipe σ vs := by
              rw [← hw]
              exact wipe_congr (wipe_length σ5 vs1) fun j hj => wipe_out fun z => hj (hv1 j z)
            rw [hww] at I10
            exact ⟨Z8, _, T8, ts9, acc8, tc8, I10, ef⟩
        · rw [if_neg hc1] at ef; cases ef
    · have hi' : i = ds.length := by omega
      subst hi'
      refine .inl ⟨w2 (Nat.le_refl _), ?_⟩
      rw [List.drop_length] at ef
      cases ef
      obtain ⟨T3, a1, a2, a3, a4⟩ := I.fin R2 (fun _ h => h) ok3
      have q := kk.trans a4
      have hv := I.hv
      have nd := I.nd
      clear I start start0
      subst hms
      have := f H2 Z2 T3 tc a1 a2 nd (sn1.trans a3) q
      rw [hv] at this
      exact this
  · rw [if_neg hok] at e; cases e
end
section
variable {X : Cx} {pos : Pos}
theorem se_dc {kx vx tg iter : Expr} {ifs : List Expr} {scope : Scope} (own : List (Str × Nat)) {it : MI} {g : MG} {tt : MT} {tk tv : ME} (hc : X.calm = true) (hN : X.N.Nodup) (hi : SI X tg iter it) (ok : BlkOk X.N X.env.scope scope own)
    (hg : ∀ (s : Shared) (H : Hp) (C : Addr) (cl : List (Str × Addr)) (fp : List Addr), SG (X.blk s H scope (compEnvC scope cl C X.env) fp) tg g) (ht : ∀ (s : Shared) (H : Hp) (C : Addr) (cl : List (Str × Addr)) (fp : List Addr), STs (X.blk s H scope (compEnvC scope cl C X.env) fp) ifs tt)
    (hk : ∀ (s : Shared) (H : Hp) (C : Addr) (cl : List (Str × Addr)) (fp : List Addr), SE (X.blk s H scope (compEnvC scope cl C X.env) fp) kx tk)
    (he : ∀ (s : Shared) (H : Hp) (C : Addr) (cl : List (Str × Addr)) (fp : List Addr), SE (X.blk s H scope (compEnvC scope cl C X.env) fp) vx tv) (hs : ∀ x, foldedSetIterable iter X.env x = pure x := by intro _; rfl) :
    SE X (.DictComp kx vx [⟨tg, iter, ifs, 0⟩] scope pos) (mDc it g tt tk tv (own.map (·.2))) :=
  (pe_dc (g := tSG X.prog X.w X.K g) (tt := tST X.prog X.w X.K tt) (tk := tS X.prog X.w X.K tk) (tv := tS X.prog X.w X.K tv) hc hN hi ok hg ht hk he hs).weak fun σ H Q q => tDc_of σ H Q q
theorem se_lc2 {elt tg iter tg1 iter1 : Expr} {ifs ifs1 : List Expr} {scope : Scope} (own : List (Str × Nat)) (vs1 : List Nat) {it it1 : MI} {g g1 : MG} {tt tt1 : MT} {te : ME} (hc : X.calm = true) (hN : X.N.Nodup) (hi : SI X tg iter it) (ok : BlkOk X.N X.env.scope scope own)
    (hg : ∀ (s : Shared) (H : Hp) (C : Addr) (cl : List (Str × Addr)) (fp : List Addr), SG (X.blk s H scope (compEnvC scope cl C X.env) fp) tg g) (ht : ∀ (s : Shared) (H : Hp) (C : Addr) (cl : List (Str × Addr)) (fp : List Addr), STs (X.blk s H scope (compEnvC scope cl C X.env) fp) ifs tt)
    (hi1 : ∀ (s : Shared) (H : Hp) (C : Addr) (cl : List (Str × Addr)) (fp : List Addr), SI (X.blk s H scope (compEnvC scope cl C X.env) fp) tg1 iter1 it1)
    (hg1 : ∀ (s : Shared) (H : Hp) (C : Addr) (cl : List (Str × Addr)) (fp : List Addr), SG (X.blk s H scope (compEnvC scope cl C X.env) fp) tg1 g1) (ht1 : ∀ (s : Shared) (H : Hp) (C : Addr) (cl : List (Str × Addr)) (fp : List Addr), STs (X.blk s H scope (compEnvC scope cl C X.env) fp) ifs1 tt1)
    (he : ∀ (s : Shared) (H : Hp) (C : Addr) (cl : List (Str × Addr)) (fp : List Addr), SE (X.blk s H scope (compEnvC scope cl C X.env) fp) elt te)
    (hv : ∀ i ∈ vs1, i ∈ own.map (·.2) := by decide) (hs : ∀ x, foldedSetIterable iter X.env x = pure x := by intro _; rfl) (hs1 : ∀ env x, foldedSetIterable iter1 env x = pure x := by intro _ _; rfl) :
    SE X (.ListComp elt [⟨tg, iter, ifs, 0⟩, ⟨tg1, iter1, ifs1, 0⟩] scope pos) (mLc2 it g tt it1 g1 tt1 te (own.map (·.2)) vs1) :=
  (pe_lc2 (wi1 := tSI X.prog X.w X.K it1) (g := tSG X.prog X.w X.K g) (g1 := tSG X.prog X.w X.K g1) (tt := tST X.prog X.w X.K tt) (tt1 := tST X.prog X.w X.K tt1) (te := tS X.prog X.w X.K te) hc hN hi ok hv hg ht hi1 hg1 ht1 he hs hs1).weak fun σ H Q q => tLc2_of σ H Q q
theorem ss_setLc2 (i : Nat) {y : Str} {py : Pos} {elt tg iter tg1 iter1 : Expr} {ifs ifs1 : List Expr} {scope : Scope} {spos : Pos} (own : List (Str × Nat)) (vs1 : List Nat) {it it1 : MI} {g g1 : MG} {tt tt1 : MT} {te : ME} (hc : X.calm = true) (hN : X.N.Nodup) (hi : SI X tg iter it) (ok : BlkOk X.N X.env.scope scope own)
    (hg : ∀ (s : Shared) (H : Hp) (C : Addr) (cl : List (Str × Addr)) (fp : List Addr), SG (X.blk s H scope (compEnvC scope cl C X.env) fp) tg g) (ht : ∀ (s : Shared) (H : Hp) (C : Addr) (cl : List (Str × Addr)) (fp : List Addr), STs (X.blk s H scope (compEnvC scope cl C X.env) fp) ifs tt)
    (hi1 : ∀ (s : Shared) (H : Hp) (C : Addr) (cl : List (Str × Addr)) (fp : List Addr), SI (X.blk s H scope (compEnvC scope cl C X.env) fp) tg1 iter1 it1)
    (hg1 : ∀ (s : Shared) (H : Hp) (C : Addr) (cl : List (Str × Addr)) (fp : List Addr), SG (X.blk s H scope (compEnvC scope cl C X.env) fp) tg1 g1) (ht1 : ∀ (s : Shared) (H : Hp) (C : Addr) (cl : List (Str × Addr)) (fp : List Addr), STs (X.blk s H scope (compEnvC scope cl C X.env) fp) ifs1 tt1)
    (he : ∀ (s : Shared) (H : Hp) (C : Addr) (cl : List (Str × Addr)) (fp : List Addr), SE (X.blk s H scope (compEnvC scope cl C X.env) fp) elt te)
    (hv : ∀ i ∈ vs1, i ∈ own.map (·.2) := by decide) (hy : X.N[i]? = some y := by rfl) (hyl : X.env.scope.names.lookup y = some .local := by rfl)
    (hsw : swapsWith (.ListComp elt [⟨tg, iter, ifs, 0⟩, ⟨tg1, iter1, ifs1, 0⟩] scope pos) (some (.Name y py)) spos.line X.env = pure true := by rfl) (hs : ∀ x, foldedSetIterable iter X.env x = pure x := by intro _; rfl) (hs1 : ∀ env x, foldedSetIterable iter1 env x = pure x := by intro _ _; rfl) :
    SS X (.Assign [.Name y py] (.ListComp elt [⟨tg, iter, ifs, 0⟩, ⟨tg1, iter1, ifs1, 0⟩] scope pos) spos) (mSet i (mLc2 it g tt it1 g1 tt1 te (own.map (·.2)) vs1)) :=
  (ps_setLc2 (wi1 := tSI X.prog X.w X.K it1) (g := tSG X.prog X.w X.K g) (g1 := tSG X.prog X.w X.K g1) (tt := tST X.prog X.w X.K tt) (tt1 := tST X.prog X.w X.K tt1) (te := tS X.prog X.w X.K te) hc hN hy hyl hsw hi ok hv hg ht hi1 hg1 ht1 he hs hs1).weak fun D σ H h => by
    obtain ⟨av, Z, env, T, R1, fl, env', e, f⟩ := tAsg_of D σ H h
    exact tLc2_of _ _ _ ⟨av, Z, env, T, R1, fl, env', e, f⟩
end
end G
set_option Elab.async false
set_option linter.all false
set_option maxRecDepth 100000
namespace G
open PySem PySem.Spec PyProof.Rows L2
def keyN (k : D) : Bool := k.isTup && (match k.toN with
  | some n => decide (n.depth ≤ 8)
  | none => false)
def mDispN (k v : ME) : ME := ⟨(ma2 k v).ms, fun env => ((ma2 k v).run env).bind fun x => (owns x.1 x.2).bind fun ds => match ds with
  | [dk, dv] => if keyN dk = true then some (.v (.dct true [dk] [dv]), x.2) else none
  | _ => none⟩
def tDispN (P : Program) (w : World) (K : PySem.W.Frag) (tk tv : TE) : TE := fun σ H Q => ∀ p, H p = none → tk σ (upd H p (.dK [])) fun x H1 => tv σ H1 fun y H2 => H2 p = some (.dK []) ∧ ∃ n b, x = .ref b ∧ Dp K H2 (.ref b) n.data ∧ n.depth ≤ 8 ∧ Q (.ref p) (upd H2 p (dN P w p [(n, b, y)]))
section
variable {X : Cx} {pos : Pos}
theorem pe_dispN {k v : Expr} {tk tv : TE} (hu : X.A.units + 9 < cLine) (hk : PE X k tk) (hv : PE X v tv) : PE X (.Dict [some k] [v] pos) (tDispN X.prog X.w X.K tk tv) := by
  refine ⟨fun pins s σ H Q I q => ?_⟩
  have hn := I.hok.fresh (Nat.le_refl s.heap.objs.size)
  have I1 := I.laid (a := s.heap.objs.size) (o := .dK []) (h' := s.heap.push { cls := .type "dict", data := .dict #[] }) (t' := s.toks) (fun _ _ q => Heap.get?_push_of_some _ q) (Nat.le_refl _) (dk_empty s.heap I.big)
  have hshape : (evalEachOpt [some k] X.env).zip ((evalEach [v] X.env).map fun v => do let x ← v; standAt pos; pure x) = (pairTrees [some k] [v] X.env pos).map fun p => (some p.1, p.2) := rfl
  rw [arm_eval_Dict, hshape, dictDisplay_pairs (pairTrees [some k] [v] X.env pos) (by exact List.cons_ne_nil _ _) (by show (1 : Nat) < 17; decide)]
  refine wpAny_bind (wpAny_standAt (wpAny_bind (wpAny_subDictH (knd := nestedKind X.prog X.w) (Q := fun d s' => wpAny (model X.prog X.w) X.A (pure (Value.ref d)) (EP X pins σ Q) X.xe s') (show X.A.units + 8 < cLine by omega) (by show (1 : Nat) ≤ 15; decide) ?_)))
  refine pairTrees_cons_walk (thn (hk.run pins _ σ _ _ I1 (q _ hn)) fun u s1 ⟨x, H1, I2, rx, q1⟩ => thn (hv.run pins s1 σ H1 _ I2 q1) fun w2 s2 ⟨y, H2, I3, ry, e, n, b, ex, dp, hd, q2⟩ => pairTrees_nil_walk ?_)
  subst ex
  cases (show u = Value.ref b from rx)
  obtain ⟨z, lo, xs, rel, dd⟩ := nd_of (kvs := []) I3 ⟨.inr ⟨rfl, e⟩, fun _ z => nomatch z⟩
  cases rel
  refine ⟨[(n, b, w2)], ⟨rfl, rfl, is_key I3 dp hd, trivial⟩, dd, fun h' tk dd' hs => wpAny_pure ⟨.ref s.heap.objs.size, _, ?_, rfl, q2⟩⟩
  obtain ⟨o, es, ep, ho, h2, h3, h4, _, h5⟩ := dd'
  refine d_write I3 (by rw [e]; exact True.intro) hs ⟨o, ho⟩ ⟨⟨[(n, b, w2)], .cons ⟨rfl, rfl, ry⟩ .nil, by rw [sizeLine_eq]; show (1 : Nat) ≤ 16777216; decide, lo, o, es, ep, ho, h2, h3, h4, h5⟩, ⟨o, ho⟩, ?_⟩
  rintro h1 h2 ⟨xs, r1, r2, r3, ob, es, ep, r4, r5⟩ st
  exact ⟨xs, r1, r2, r3, ob, es, ep, st _ r4, r5⟩
end
section
variable {P : Program} {w : World} {K : PySem.W.Frag} {Z Z' : Addr → Prop} {H H' : Hp} {env env' : En} {T T' : Nat → VT} {σ : L2.St} {av : List (V × D)}
theorem tDispN_of {k v : ME} {Q : VK} (h : tS P w K (mDispN k v) σ H Q) : tDispN P w K (tS P w K k) (tS P w K v) σ H Q := by
  obtain ⟨av, Z, env, T, R1, r, env', e, f⟩ := h
  obtain ⟨⟨rs, e1⟩, q1, e⟩ := Option.bind_eq_some_iff.mp e
  obtain ⟨ds, q2, e⟩ := Option.bind_eq_some_iff.mp e
  dsimp only at q2 e
  intro p np
  have kpn : Kp (fun _ => False) H (upd H p (.dK [])) := kp_new np
  have R2 : Rel P w K av Z env T σ (upd H p (.dK [])) := R1.kp kpn fun _ z => z.elim
  have np1 : ∀ a, AllFp env T a → a ≠ p := fun a h z => by
    obtain ⟨o, ho, _⟩ := R1.stands h
    rw [z, np] at ho; cases ho
  have main : tSA P w K (ma2 k v) σ (upd H p (.dK [])) fun xs H2 => ∀ x y, xs = [x, y] → H2 p = some (.dK []) ∧ ∃ n b, x = .ref b ∧ Dp K H2 (.ref b) n.data ∧ n.depth ≤ 8 ∧ Q (.ref p) (upd H2 p (dN P w p [(n, b, y)])) := by
    refine ⟨av, Z, env, T, R2, rs, e1, q1, fun H2 Z2 T2 ts R3 rr nd sn kk x y ex => ?_⟩
    have hp : H2 p = some (.dK []) := sn.kp p _ upd_same fun _ z => np1 p z rfl
    refine ⟨hp, ?_⟩
    obtain ⟨o1, o2, _, o4⟩ := owns_own R3 rr q2
    match ds, e, o1, o2, o4 with
    | [dk, dv], e, o1, o2, o4 =>
      dsimp only at e
      by_cases hk : keyN dk = true
      · rw [if_pos hk] at e
        cases e
        obtain ⟨t, u, rfl, ot, ou⟩ := o1.two'
        simp only [List.map_cons, List.map_nil, List.cons.injEq, and_true] at ex
        obtain ⟨rfl, rfl⟩ := ex
        unfold keyN at hk
        rw [Bool.and_eq_true] at hk
        cases hn : dk.toN with
        | none => rw [hn] at hk; exact absurd hk.2 Bool.false_ne_true
        | some n =>
          rw [hn] at hk
          have hd : n.depth ≤ 8 := of_decide_eq_true hk.2
          have ek := toN_eq hn
          subst ek
          have dp := ot.key
          obtain ⟨b, eb⟩ : ∃ b, t.v = .ref b := by
            cases n with
            | tup l => rw [keyD] at ot; obtain ⟨b, e, _⟩ := ot.tup; exact ⟨b, e⟩
            | none => rw [keyD] at hk; cases hk.1
            | num i => rw [keyD] at hk; cases hk.1
            | text x => rw [keyD] at hk; cases hk.1
          rw [eb] at dp
          refine ⟨n, b, eb, dp, hd, ?_⟩
          have kp : Kp (fun a => a = p) H2 (upd H2 p (dN P w p [(n, b, u.v)])) := kp_upd rfl fun x e => by rw [hp] at e; cases e; trivial
          have fk : fp (keyD n) t = [] := fp_pure (st_setIx.keyD_pure n)
          have fe2 : fpL [keyD n, dv] [t, u] = fp dv u := by rw [fpL, fpL_one, fk, List.nil_append]
          rw [fe2] at o2 o4
          have old : ∀ a, AllFp env' T2 a ∨ a ∈ rfpL rs [t, u] → a ≠ p := fun a h z => by
            rcases sn.own a h with q | q
            · exact np1 a q z
            · rw [z, upd_same] at q; cases q
          have zp : ¬ Z2 p := fun z => by
            rcases sn.z p z with q | q | q
            · exact R1.zs p q np
            · exact np1 p q rfl
            · rw [upd_same] at q; cases q
          have zz : ∀ a, Z2 a → ¬ a = p := fun a z e => zp (e ▸ z)
          have ap := rr.apart
          have fe : fp (.dct true [keyD n] [dv]) (.mk (.ref p) [u]) = p :: fp dv u := by rw [fp, vad, List.singleton_append, fpL_one]
          have pn : p ∉ fp dv u := fun z => old p (.inr (o2 p z)) rfl
          refine f _ Z2 T2 (.mk (.ref p) [u]) (R3.kp kp fun a h => h ▸ ⟨fun z => old p (.inl z) rfl, zp⟩) ⟨?_, fun a ha => ?_⟩ (by show (fp _ _).Nodup; rw [fe]; exact List.nodup_cons.mpr ⟨pn, nd.sublist o4⟩) ?_ kk
          · rw [Own]
            refine ⟨p, rfl, (fun z => nomatch z), nd_one, .inr ⟨[(n, b, u.v)], List.cons_ne_nil _ _, upd_same, rfl, rfl, fun x hx => ?_⟩, ?_⟩
            · rw [List.mem_singleton.mp hx]
              exact ⟨Kp.key kp dp, hd⟩
            · rw [OwnL, OwnL]
              exact ⟨ou.frame kp zz (fun _ z => z) fun a ha e => pn (e ▸ ha), trivial⟩
          · rw [fe] at ha
            rcases List.mem_cons.mp ha with rfl | ha
            · exact ⟨zp, fun z => old a (.inl z) rfl⟩
            · exact ap a (o2 a ha)
          · have s1 : Since Z H (AllFp env T) Z (upd H p (.dK [])) (AllFp env T) := ⟨kpn.mono fun _ z => z.elim, fun _ h => .inl h, fun _ h => .inl h, fun _ h => h⟩
            have s2 := s1.trans sn
            refine ⟨fun a o e q => kp a o (s2.kp a o e q) fun m z => ?_, fun a h => ?_, s2.z, s2.zm⟩
            · rw [z, np] at e; cases e
            · rcases h with h | h
              · exact s2.own a (.inl h)
              · rw [rfp, fe] at h
                rcases List.mem_cons.mp h with rfl | h
                · exact .inr np
                · exact s2.own a (.inr (o2 a h))
      · rw [if_neg hk] at e; cases e
    | [], e, _, _, _ => cases e
    | [_], e, _, _, _ => cases e
    | _ :: _ :: _ :: _, e, _, _, _ => cases e
  exact tS_mono (tSA_c2 main) fun x H1 h => tS_mono h fun y H2 h2 => h2 x y rfl
end
theorem se_dispN {X : Cx} {pos : Pos} {k v : Expr} {mk mv : ME} (hu : X.A.units + 9 < cLine) (hk : SE X k mk) (hv : SE X v mv) : SE X (.Dict [some k] [v] pos) (mDispN mk mv) := (pe_dispN hu hk hv).weak fun σ H Q q => tDispN_of q
end G
set_option Elab.async false
set_option linter.all false
set_option maxRecDepth 100000
namespace G
open PySem PySem.Spec PyProof.Rows L2
theorem swD_true {kx vx : Expr} {gs : List Comprehension} {scope : Scope} {pos py : Pos} {y : Str} {l : Nat} {env : Env} (hk : env.scope.kind = .function) (hy : env.scope.names.lookup y = some .local) (hl : (py.line == pos.line) = true)
    (ha : (scope.names.any fun z => z.1 == y && (z.2 == .local || z.2 == .cell)) = false) : swapsWith (.DictComp kx vx gs scope pos) (some (.Name y py)) l env = pure true := by
  have ky : env.kindOf y = some .local := hy
  have hb : env.blockKind = .function := by
    unfold Env.blockKind
    rw [hk]; rfl
  unfold swapsWith
  simp only [hb, ky, ha, Expr.pos, hl]
  rfl
section
variable {X : Cx}
theorem ps_setDc {i : Nat} {y : Str} {py : Pos} {kx vx tg iter : Expr} {ifs : List Expr} {scope : Scope} {own : List (Str × Nat)} {pos spos : Pos} {wi : TI} {g : TG} {tt : TT} {tk tv : TE} (hc : X.calm = true) (hN : X.N.Nodup) (hy : X.N[i]? = some y) (hyl : X.env.scope.names.lookup y = some .local)
    (hsw : swapsWith (.DictComp kx vx [⟨tg, iter, ifs, 0⟩] scope pos) (some (.Name y py)) spos.line X.env = pure true) (hi : PI X tg iter wi) (ok : BlkOk X.N X.env.scope scope own)
    (hg : ∀ (s : Shared) (H : Hp) (C : Addr) (cl : List (Str × Addr)) (fp : List Addr), PG (X.blk s H scope (compEnvC scope cl C X.env) fp) tg g) (ht : ∀ (s : Shared) (H : Hp) (C : Addr) (cl : List (Str × Addr)) (fp : List Addr), PTs (X.blk s H scope (compEnvC scope cl C X.env) fp) ifs tt)
    (hk : ∀ (s : Shared) (H : Hp) (C : Addr) (cl : List (Str × Addr)) (fp : List Addr), PE (X.blk s H scope (compEnvC scope cl C X.env) fp) kx tk)
    (he : ∀ (s : Shared) (H : Hp) (C : Addr) (cl : List (Str × Addr)) (fp : List Addr), PE (X.blk s H scope (compEnvC scope cl C X.env) fp) vx tv) (hs : ∀ x, foldedSetIterable iter X.env x = pure x := by intro _; rfl) :
    PS X (.Assign [.Name y py] (.DictComp kx vx [⟨tg, iter, ifs, 0⟩] scope pos) spos) (tAsg (tDc wi g tt tk tv (own.map (·.2))) (gName i)) := by
  refine ⟨fun pins s σ H D I h => ?_⟩
  rw [exec_Assign_Name_used _ _ _ _ hsw]
  refine wpAny_bind (wpAny_standAt (wpAny_bind ?_))
  show wpAny _ X.A (do let _ ← comprehension (.DictComp kx vx [⟨tg, iter, ifs, 0⟩] scope pos) scope X.env (firstIterPos [⟨tg, iter, ifs, 0⟩] pos) newDict false (eval iter X.env) (some (assign (.Name y py) X.env))) _ _ s
  have h' : tDc wi g tt tk tv (own.map (·.2)) σ H (fun x H1 => gName i x σ H1 D.nx) := h
  refine wpAny_bind (thn (dc_core (Qf := fun _ s' => SP X pins D .next s') hc hN I hi ok hg ht hk he hs h' fun L C s' m H' I' q hn f => ?_) fun _ s' hq => wpAny_pure (wpAny_pure hq))
  show wpAny _ _ (assign (.Name y py) X.env (.ref L)) _ _ _
  refine wpAny_assign_Name (store_ok2 (v := V.ref L) I' hN hy (.inl hyl) rfl (fun s2 I2 ⟨a, sb, ha⟩ => ?_) (.inr hyl))
  obtain ⟨f0, f1, f2, f3, f4, f5⟩ := f
  have haC : C ≠ a := by
    rcases ha with z | z
    · intro e
      exact f1 (e.trans z)
    · exact fun e => f4 y a z e.symm
  refine ⟨m, hn.sameBut sb haC, fun h3 sb3 => ?_⟩
  exact ⟨_, H', I2.turned (t' := s2.toks) (fun b o hb e => (sb3.2 b hb).trans e) f0 f1 f3 f4 f5, q⟩
theorem ss_setDc (i : Nat) {y : Str} {py : Pos} {kx vx tg iter : Expr} {ifs : List Expr} {scope : Scope} {pos spos : Pos} (own : List (Str × Nat)) {it : MI} {g : MG} {tt : MT} {tk tv : ME} (hc : X.calm = true) (hN : X.N.Nodup) (hi : SI X tg iter it) (ok : BlkOk X.N X.env.scope scope own)
    (hg : ∀ (s : Shared) (H : Hp) (C : Addr) (cl : List (Str × Addr)) (fp : List Addr), SG (X.blk s H scope (compEnvC scope cl C X.env) fp) tg g) (ht : ∀ (s : Shared) (H : Hp) (C : Addr) (cl : List (Str × Addr)) (fp : List Addr), STs (X.blk s H scope (compEnvC scope cl C X.env) fp) ifs tt)
    (hk : ∀ (s : Shared) (H : Hp) (C : Addr) (cl : List (Str × Addr)) (fp : List Addr), SE (X.blk s H scope (compEnvC scope cl C X.env) fp) kx tk)
    (he : ∀ (s : Shared) (H : Hp) (C : Addr) (cl : List (Str × Addr)) (fp : List Addr), SE (X.blk s H scope (compEnvC scope cl C X.env) fp) vx tv) (hy : X.N[i]? = some y := by rfl) (hyl : X.env.scope.names.lookup y = some .local := by rfl)
    (hsw : swapsWith (.DictComp kx vx [⟨tg, iter, ifs, 0⟩] scope pos) (some (.Name y py)) spos.line X.env = pure true := by exact swD_true rfl rfl rfl (by decide +kernel)) (hs : ∀ x, foldedSetIterable iter X.env x = pure x := by intro _; rfl) :
    SS X (.Assign [.Name y py] (.DictComp kx vx [⟨tg, iter, ifs, 0⟩] scope pos) spos) (mSet i (mDc it g tt tk tv (own.map (·.2)))) :=
  (ps_setDc (g := tSG X.prog X.w X.K g) (tt := tST X.prog X.w X.K tt) (tk := tS X.prog X.w X.K tk) (tv := tS X.prog X.w X.K tv) hc hN hy hyl hsw hi ok hg ht hk he hs).weak fun D σ H h => by
    obtain ⟨av, Z, env, T, R1, fl, env', e, f⟩ := tAsg_of D σ H h
    exact tDc_of _ _ _ ⟨av, Z, env, T, R1, fl, env', e, f⟩
end
def fLenG : List D → Option D
  | [.dct m ks vs] => fLenD [.dct m ks vs]
  | ds => fLen ds
def fListG : List D → Option D
  | [.dct m ks vs] => fListD [.dct m ks vs]
  | ds => fList ds
section
variable {X : Cx} {pos p : Pos} {a : Expr} {ma : ME}
theorem st_lenG {P : Program} {w : World} {K : PySem.W.Frag} {H : Hp} {x : V} {Q : VK} (h : StepF P w K fLenG [x] H Q) : (∃ y n, [x] = [y] ∧ LenV K y H n ∧ Q (.int (n : Nat)) H) ∨ ∃ a kvs, [x] = [V.ref a] ∧ H a = some (.dK kvs) ∧ Q (.int kvs.length) H := by
  obtain ⟨Z, a, s, d, e0, oa, e, dn⟩ := h.one
  cases a with
  | dct m ks vs => exact .inr (st_lenD ⟨Z, [.dct m ks vs], [s], d, by rw [← e0]; rfl, by rw [OwnL, OwnL]; exact ⟨oa, trivial⟩, e, dn⟩)
  | str z => exact .inl (st_len ⟨Z, [.str z], [s], d, by rw [← e0]; rfl, by rw [OwnL, OwnL]; exact ⟨oa, trivial⟩, e, dn⟩)
  | tup z => exact .inl (st_len ⟨Z, [.tup z], [s], d, by rw [← e0]; rfl, by rw [OwnL, OwnL]; exact ⟨oa, trivial⟩, e, dn⟩)
  | lst m z => exact .inl (st_len ⟨Z, [.lst m z], [s], d, by rw [← e0]; rfl, by rw [OwnL, OwnL]; exact ⟨oa, trivial⟩, e, dn⟩)
  | _ => cases e
theorem st_listG {P : Program} {w : World} {K : PySem.W.Frag} {H : Hp} {x : V} {Q : VK} (h : StepF P w K fListG [x] H Q) : (∃ p ys, [x] = [V.ref p] ∧ (SqL K H p ys ∨ SqT K H p ys) ∧ ∀ l, H l = none → Q (.ref l) (upd H l (.lst ys))) ∨
    ∃ a xs, [x] = [V.ref a] ∧ ((∃ kvs, H a = some (.dK kvs) ∧ xs = kvs.map fun p => kV p.1) ∨ (∃ ys, H a = some (dN P w a ys) ∧ xs = ys.map fun p => V.ref p.2.1)) ∧ xs.length ≤ sizeLine ∧ ∀ p, H p = none → Q (.ref p) (upd H p (.lst xs)) := by
  obtain ⟨Z, a, s, d, e0, oa, e, dn⟩ := h.one
  cases a with
  | dct m ks vs => exact .inr (st_listD ⟨Z, [.dct m ks vs], [s], d, by rw [← e0]; rfl, by rw [OwnL, OwnL]; exact ⟨oa, trivial⟩, e, dn⟩)
  | tup z => exact .inl (st_list ⟨Z, [.tup z], [s], d, by rw [← e0]; rfl, by rw [OwnL, OwnL]; exact ⟨oa, trivial⟩, e, dn⟩)
  | lst m z => exact .inl (st_list ⟨Z, [.lst m z], [s], d, by rw [← e0]; rfl, by rw [OwnL, OwnL]; exact ⟨oa, trivial⟩, e, dn⟩)
  | _ => cases e
theorem se_lenG (ha : SE X a ma) (hg : Gl X "len" := by rfl) (hm : X.mg "len" = none := by assumption) (hs : starEach [a] X.env = (false, eval a X.env) :: starEach [] X.env := by rfl) : SE X (.Call (.Name "len" p) [a] [] pos) (mF1 fLenG ma) :=
  (pe_callB (callR_or call_len call_lenD) hg hm (by decide +kernel) (sa_cons ha sa_nil hs) (by decide) (by decide) hs rfl).weak (tCB1 fun _ _ _ h => st_lenG h)
theorem se_listG (hc : X.calm = true) (ha : SE X a ma) (hg : Gl X "list" := by rfl) (hm : X.mg "list" = none := by assumption) (hs : starEach [a] X.env = (false, eval a X.env) :: starEach [] X.env := by rfl) : SE X (.Call (.Name "list" p) [a] [] pos) (mF1 fListG ma) :=
  (pe_callTy (callR_or call_list_of (cr_listG hc)) hg hm (by decide +kernel) (sa_cons ha sa_nil hs) (by decide) (by decide) hs rfl).weak (tCB1 fun _ _ _ h => st_listG h)
end
end G
set_option Elab.async false
set_option linter.all false
set_option maxRecDepth 100000
namespace G
open PySem PySem.Spec PyProof.Rows L2
theorem hu68 {k : Nat} {A : Around} (r : Room k A) : A.units + 68 < cLine := by have := r.un; omega
theorem hu65 {k : Nat} {A : Around} (r : Room k A) : A.units + 65 < cLine := by have := r.un; omega
theorem hu64 {k : Nat} {A : Around} (r : Room k A) : A.units + 64 < cLine := by have := r.un; omega
theorem hu9 {k : Nat} {A : Around} (r : Room k A) : A.units + 9 < cLine := by have := r.un; omega
theorem fnOk_none {P : Program} {w : World} {K : PySem.W.Frag} {mg : Str → Option Value} {base : Heap} {x qual : Str} {st : Stmt} {f : Addr} {fd : FuncData} {N ps : List Str} (F : Fun K x qual st f fd) (S : FnScope N ps (defScope st)) : FnOk P w K mg base CX0 0 f fd ps (spOf P w K fun _ => none) :=
  have no : ∀ {vs H Q E}, spOf P w K (fun _ => none) vs H Q E → False := fun {vs H Q E} h => by
    obtain ⟨Z, ds, ts, _, _, _, _, _, r, ds', e, _⟩ := h
    cases e
  ⟨fun vs H Q E h => (no h).elim, fun A outer s H args us vs Q E _ _ _ _ h => (no h).elim⟩
end G
set_option Elab.async false
set_option linter.all false
set_option maxRecDepth 100000
namespace G
open PySem PySem.Spec PyProof.Rows L2
theorem own_ints {P : Program} {w : World} {K : PySem.W.Frag} {Z : Addr → Prop} {H : Hp} : ∀ ns : List Int, OwnL P w K Z H (ns.map D.int) (ns.map fun i => VT.mk (.int i) [])
  | [] => by rw [List.map_nil, List.map_nil, OwnL]; trivial
  | i :: ns => by rw [List.map_cons, List.map_cons, OwnL]; exact ⟨by rw [Own]; rfl, own_ints ns⟩
theorem law_end {P : Program} {w : World} {K : PySem.W.Frag} {H : Hp} {a : Addr} {ns : List Int} {m : Fn} (h : ∃ ds', m [.lst false (ns.map D.int)] = some (.bl true, ds')) (hS : SqL K H a (ns.map V.int)) : spOf P w K m [.ref a] H (fun v _ => v = .bl true) fun _ _ _ => False := by
  obtain ⟨ds', e⟩ := h
  have em : (ns.map fun i => VT.mk (.int i) []).map VT.v = ns.map V.int := by rw [List.map_map]; rfl
  have hp : D.pureL (ns.map D.int) = true := pureL_of fun d hd => by
    obtain ⟨i, _, rfl⟩ := List.mem_map.mp hd
    rfl
  have fin : ∀ Z : Addr → Prop, (Z a ∨ SqL K (fun _ => none) a (ns.map V.int)) → (∀ b, Z b → H b ≠ none) → spOf P w K m [.ref a] H (fun v _ => v = .bl true) fun _ _ _ => False := fun Z hz hs => by
    refine ⟨Z, [.lst false (ns.map D.int)], [.mk (.ref a) (ns.map fun i => VT.mk (.int i) [])], rfl, ?_, ?_, ?_, hs, .bl true, ds', e, fun H' Z' t ts' _ o _ _ _ _ _ => o.bl⟩
    · rw [OwnL, OwnL, Own]
      exact ⟨⟨a, rfl, by rw [em]; exact hz, by rw [em]; exact hS, hp, own_ints ns⟩, trivial⟩
    · rw [fpL_one, fp]; exact List.nodup_nil
    · rw [fpL_one, fp]; intro _ z; cases z
  rcases hS with h | h
  · refine fin (fun b => b = a) (.inl rfl) fun b e => ?_
    rw [e]
    rcases h with h | ⟨o, h⟩ <;> (rw [h]; exact fun z => nomatch z)
  · exact fin (fun _ => False) (.inr (.inr h)) fun _ z => z.elim
end G
set_option Elab.async false
set_option linter.all false
set_option maxRecDepth 100000
namespace G
open PySem PySem.Spec PyProof.Rows L2
set_option maxHeartbeats 1000000 in
theorem meets_enum1 {v : Value} {o : Obj} {H : Heap → Prop} (B : Begins v o H) :
    Meets (Builtin.«enumerate.__new__» ⟨[.type "enumerate", v], []⟩) (fun _ R s => H s.heap ∧
      R (.ok (.ret (.ref (s.heap.push o).objs.size))) { s with heap := (s.heap.push o).push { cls := .type "enumerate", data := .fields #[.none, .bool false, .ref s.heap.objs.size, rawInt 0, .none, .none] } }) :=
  .of_wp fun prog w A R s h => by
    obtain ⟨hp, g, d, tk, os⟩ := s; obtain ⟨h1, h⟩ := h
    have hsub := sub_enumerate
    have q1 : ∀ {A' : Around} {E : Value → Shared → Prop} {Q : Value → Shared → Prop}, Q (.ref hp.objs.size) ⟨hp.push o, g, d, tk, os⟩ → wpAny (model prog w) A' (pyIter v) Q E ⟨hp, g, d, tk, os⟩ :=
      fun q => B.iter prog w _ _ ⟨hp, g, d, tk, os⟩ _ h1 q
    wp_walk using q1
    refine wpAny_stack_any fun st => wpAny_pure ?_
    split
    · rename_i c _ _ _ _ _
      cases (c == Value.type "enumerate")
      · wp_walk using q1
        exact ⟨_, rfl, h⟩
      · wp_walk using q1
        exact ⟨_, rfl, h⟩
    · wp_walk using q1
      exact ⟨_, rfl, h⟩
theorem call_enumT {prog : Program} {w : World} {A : Around} {E : Value → Shared → Prop} {s : Shared} {t : Addr} {items : Array Value} {Q : Value → Shared → Prop} (hT : s.heap.IsTuple t items)
    (h : ∀ h', IsEnum h' (s.heap.objs.size + 1) s.heap.objs.size 0 .none → h'.IsTupleIter s.heap.objs.size t 0 → h'.objs.size = s.heap.objs.size + 2 →
      (∀ b o, s.heap.get? b = some o → h'.get? b = some o) → Q (.ref (s.heap.objs.size + 1)) { s with heap := h' }) :
    wpAny (model prog w) A (call (.type "enumerate") [.ref t]) Q E s := by
  have B := begins_tuple t items
  refine callType_new F.called_enumerate (by decide) (F.typeCall_enumerate_1 _) (F.newCall_enumerate_1 _) (fun obj => F.args_object_init_2 obj _) F.entry_enumerate_new
    (meets_enum1 B) ⟨hT, ?_⟩
  have hz : (s.heap.push { cls := .type "tuple_iterator", data := .fields #[.ref t, .int 0 0] }).objs.size = s.heap.objs.size + 1 := Heap.size_push ..
  show _ ∧ _
  rw [hz]
  have he : IsEnum ((s.heap.push { cls := .type "tuple_iterator", data := .fields #[.ref t, .int 0 0] }).push
      { cls := .type "enumerate", data := .fields #[.none, .bool false, .ref s.heap.objs.size, rawInt 0, .none, .none] }) (s.heap.objs.size + 1) s.heap.objs.size 0 .none := by
    have := Heap.get?_push_size (s.heap.push { cls := .type "tuple_iterator", data := .fields #[.ref t, .int 0 0] })
      (o := { cls := .type "enumerate", data := .fields #[.none, .bool false, .ref s.heap.objs.size, rawInt 0, .none, .none] }) rfl
    rw [hz] at this; exact this
  refine ⟨⟨_, he, rfl⟩, h _ he ⟨_, Heap.get?_push_of_some _ (Heap.get?_push_size _ rfl), rfl, rfl⟩ (by rw [Heap.size_push, hz]) fun b o x => Heap.get?_push_of_some _ (Heap.get?_push_of_some _ x)⟩
theorem draws_end {prog : Program} {w : World} {A : Around} (hh : A.handled = none) (it t : Addr) (items : Array Value) (i : Nat) (hi : items[i]? = none) :
    Draws prog w A it [it, t] i (fun _ _ => False) (fun j h => j = i ∧ h.IsTupleIter it t i ∧ h.IsTuple t items) where
  live := fun _ _ st => let ⟨o, ho, _⟩ := st.2.1; ⟨o, ho⟩
  frame := fun _ _ _ st hk => ⟨st.1, st.2.1.at fun o e => hk it (by simp) o e, st.2.2.at fun o e => hk t (by simp) o e⟩
  item := fun j s Q E hj st hQ => absurd hj (by rw [st.1]; exact Nat.lt_irrefl _)
  done := fun s Q E st hE => wpAny_nextOf_tuple_end hh st.2.1 st.2.2 hi hE
def IteT (K : PySem.W.Frag) (a : Addr) : It :=
  ⟨fun i H => ∃ (xs : List V) (x : V), SqT K H a xs ∧ xs[i]? = some x, fun i H v H' => ∃ T x, v = .ref T ∧ H T = none ∧ H' = upd H T (.tup [.int (i : Nat), x]) ∧ ∀ xs, SqT K H a xs → xs[i]? = some x, fun i H => ∃ xs : List V, SqT K H a xs ∧ xs.length ≤ i⟩
theorem turn_enumT {P : Program} {w : World} {K : PySem.W.Frag} {elts : List Expr} {kk : Nat} {tpos : Pos} (a e it : Addr) :
    Turn P w K (.Tuple elts kk tpos) (IteT K a) [e, it] e (fun i h => (∃ old, IsEnum h e it ((i : Nat) : Int) old) ∧ h.IsTupleIter it a i ∧ e ≠ it ∧ a ≠ it ∧ a ≠ e) where
  mem := by simp
  obj := fun i h st b hb => by
    obtain ⟨⟨old, he⟩, ⟨o, ho, hc, hd⟩, _⟩ := st
    have e' : b = e ∨ b = it := by simpa using hb
    rcases e' with z | z
    · rw [z]; exact ⟨_, he, fun v q => nomatch q⟩
    · rw [z]; exact ⟨o, ho, fun v q => by rw [hd] at q; cases q⟩
  keep := fun i h h' st k => let ⟨⟨old, he⟩, hi, hne⟩ := st; ⟨⟨old, k e (by simp) _ he⟩, hi.at fun o q => k it (by simp) o q, hne⟩
  item := by
    intro X hP hw hK hc i pins s σ H E I hf st hg
    subst hP hw hK
    obtain ⟨⟨old, he⟩, hit, hne, n1, n2⟩ := st
    obtain ⟨xs, x, hq, hx⟩ := hg
    obtain ⟨its, rv, p, hz⟩ := I.tuple hq
    obtain ⟨u, hu, ru⟩ := rv.get hx
    have hel : e < s.heap.objs.size := Heap.lt_size he
    have hil : it < s.heap.objs.size := by obtain ⟨_, q, _⟩ := hit; exact Heap.lt_size q
    have hlt : i < its.toArray.size := by
      have := (List.getElem?_eq_some_iff.mp hu).1
      simpa using this
    refine wpAny_pyNext_enum_itemD (Draws.tuple (A := X.A.in1) (I.ok.hd hc) it a n1 its.toArray) he ⟨hit, p⟩ hlt hne (by simp; exact ⟨hne, fun z => n2 z.symm⟩) fun y h' tk hP ho hst hT hsz hk => ?_
    obtain rfl : u = y := by
      have hP : its.toArray[i]? = some y := hP
      rw [List.getElem?_toArray] at hP
      exact Option.some.inj (hu.symm.trans hP)
    refine ⟨_, rfl, wpAny_letOwnedTupleGo_enum (s := { s with heap := h', toks := tk + 1 }) ho fun h'' he' sb => ?_⟩
    have hT2 : h''.get? s.heap.objs.size = some { cls := .type "tuple", data := .seq #[.int i tk, u] } := (sb.2 _ (Nat.ne_of_gt hel)).trans hT
    have new : ObjOk X.prog X.w (upd H s.heap.objs.size (.tup [.int (i : Nat), x])) h'' s.heap.objs.size (.tup [.int (i : Nat), x]) :=
      ⟨by show 2 ≤ sizeLine; decide, [.int i tk, u], .cons ⟨_, rfl⟩ (.cons ru .nil), ⟨_, hT2, rfl, _, rfl⟩⟩
    have I1 : Inv X pins σ (upd H s.heap.objs.size (.tup [.int (i : Nat), x])) { s with heap := h'', toks := tk + 1 } :=
      I.turnedNew (ch := [e, it]) (fun b ob hb q => (sb.2 b (fun z => hb (by simp [z]))).trans (hk b ob (fun z => hb (by simp [z])) (fun z => hb (by simp [z])) q)) hf (Nat.le_refl _) new
    refine ⟨.ref s.heap.objs.size, _, I1, rfl, ⟨_, x, rfl, I.hok.fresh (Nat.le_refl _), rfl, fun ys hy => by rw [I.tuple_inj hy hq]; exact hx⟩, ⟨⟨u, ?_⟩, hst.1.at fun o q => (sb.2 it (Ne.symm hne)).trans q, hne, n1, n2⟩, fun b hb => ?_⟩
    · have e1 : ((i + 1 : Nat) : Int) = (i : Int) + 1 := by omega
      rw [e1]; exact he'
    · have hb' : b < s.heap.objs.size := by
        have e' : b = e ∨ b = it := by simpa using hb
        rcases e' with z | z
        · rw [z]; exact hel
        · rw [z]; exact hil
      rw [upd_ne (Nat.ne_of_lt hb')]
      exact (hf b hb).1
  done := by
    intro X hP hw hK hc i pins s σ H E I hf st hg
    subst hP hw hK
    obtain ⟨⟨old, he⟩, hit, hne, n1, n2⟩ := st
    obtain ⟨xs, hq, hx⟩ := hg
    obtain ⟨its, rv, p, hz⟩ := I.tuple hq
    obtain ⟨f0, f1, f2, f3, f4, f5⟩ := hf it (by simp)
    have hl := rv.length
    have hi : its.toArray[i]? = none := by simp; omega
    exact wpAny_pyNext_enum_endD (draws_end (prog := X.prog) (w := X.w) (A := X.A.in1) (I.ok.hd hc) it a its.toArray i hi) he ⟨rfl, hit, p⟩ fun h' eb => ⟨rfl, I.turned (t' := s.toks) (fun b o hb q => eb b o hb q) f0 f1 f3 f4 f5⟩
  self := fun A i s Q E st h => let ⟨⟨_, he⟩, _⟩ := st; wpAny_pyIter_enum he h
def iEnq (K : PySem.W.Frag) (ta : TA) : TI := fun σ H R => ta σ H fun vs H1 => ∃ a, vs = [.ref a] ∧ (((∃ xs, SqL K H1 a xs) ∧ R (Ite K a) H1) ∨ ((∃ xs, SqT K H1 a xs) ∧ R (IteT K a) H1))
theorem pi_enq {X : Cx} {e : Expr} {ta : TA} {p pos tpos : Pos} {elts : List Expr} {kk : Nat} (hg : Gl X "enumerate") (hm : X.mg "enumerate" = none) (ha : PA X [e] ta) (hs : starEach [e] X.env = [(false, eval e X.env)] := by rfl) :
    PI X (.Tuple elts kk tpos) (.Call (.Name "enumerate" p) [e] [] pos) (iEnq X.K ta) := by
  refine ⟨fun pins s σ H R I hh => ?_⟩
  refine Call_ (ld_blt I hg hm boot_enumerate (PyProof.Rows.callWith_type1 (thn (ha.run pos pins s σ H _ I hh) fun us s1 ⟨vs, H1, I1, r1, q1⟩ => ?_) hs rfl))
  obtain ⟨a, ex, q⟩ := q1
  subst ex
  cases r1 with
  | cons r rr =>
    cases rr
    cases r
    have fresh : ∀ b ∈ [s1.heap.objs.size + 1, s1.heap.objs.size], FpOk X pins H1 b := fun b hb => by
      have e' : b = s1.heap.objs.size + 1 ∨ b = s1.heap.objs.size := by simpa using hb
      have hle : s1.heap.objs.size ≤ b := by
        rcases e' with z | z
        · rw [z]; exact Nat.le_add_right _ _
        · rw [z]; exact Nat.le_refl _
      exact I1.fpOk hle (I1.hok.fresh hle)
    rcases q with ⟨⟨xs, hq⟩, q⟩ | ⟨⟨xs, hq⟩, q⟩
    · obtain ⟨its, rv, p', hz⟩ := I1.list hq
      refine call_enumerate_list p'.isList fun h' he hit hsz hk => wpAny_pyIter_enum he ?_
      have I2 : Inv X pins σ H1 { s1 with heap := h' } := I1.kept (t' := s1.toks) hk
      exact ⟨s1.heap.objs.size + 1, [s1.heap.objs.size + 1, s1.heap.objs.size], _, _, H1, rfl, I2, turn_enum a (s1.heap.objs.size + 1) s1.heap.objs.size, ⟨⟨.none, he⟩, hit, Nat.succ_ne_self _⟩, fresh, q⟩
    · obtain ⟨its, rv, p', hz⟩ := I1.tuple hq
      have hal : a < s1.heap.objs.size := by
        obtain ⟨o, ho, _⟩ := (show s1.heap.IsTuple a its.toArray from p')
        exact Heap.lt_size ho
      refine call_enumT (show s1.heap.IsTuple a its.toArray from p') fun h' he hit hsz hk => wpAny_pyIter_enum he ?_
      have I2 : Inv X pins σ H1 { s1 with heap := h' } := I1.kept (t' := s1.toks) hk
      exact ⟨s1.heap.objs.size + 1, [s1.heap.objs.size + 1, s1.heap.objs.size], _, _, H1, rfl, I2, turn_enumT a (s1.heap.objs.size + 1) s1.heap.objs.size, ⟨⟨.none, he⟩, hit, Nat.succ_ne_self _, Nat.ne_of_lt hal, Nat.ne_of_lt (Nat.lt_succ_of_lt hal)⟩, fresh, q⟩
def enumD (ds : List D) : List D := ds.zipIdx.map fun p => .tup [.int p.2, p.1]
def iEnm (m : ME) : MI := ⟨(ma1 m).ms, fun env => ((ma1 m).run env).bind fun x => match x.1 with
  | [r] => (r.get x.2).bind fun d => d.items.map fun ds => (enumD ds, [r], x.2)
  | _ => none⟩
section
variable {P : Program} {w : World} {K : PySem.W.Frag} {Z Z' : Addr → Prop} {H H' : Hp} {env env' : En} {T T' : Nat → VT} {σ : L2.St} {av : List (V × D)}
theorem enum_at {ds : List D} {i : Nat} {c : D} (h : (enumD ds)[i]? = some c) : ∃ d, ds[i]? = some d ∧ c = .tup [.int i, d] := by
  unfold enumD at h
  rw [List.getElem?_map, List.getElem?_zipIdx] at h
  cases e : ds[i]? with
  | none => rw [e] at h; cases h
  | some d =>
    rw [e] at h
    refine ⟨d, rfl, ?_⟩
    have := Option.some.inj h
    rw [← this]
    simp
theorem enum_len (ds : List D) : (enumD ds).length = ds.length := by
  unfold enumD
  rw [List.length_map, List.length_zipIdx]
theorem enum_pair {a : Addr} {i : Nat} {d : D} {td : VT} (o : Own P w K Z H d td) (hT : H a = none) (zs : ∀ b, Z b → H b ≠ none) :
    Own P w K Z (upd H a (.tup [.int i, td.v])) (.tup [.int i, d]) (.mk (.ref a) [.mk (.int i) [], td]) ∧ Kp (fun _ => False) H (upd H a (.tup [.int i, td.v])) := by
  have kp : Kp (fun _ => False) H (upd H a (.tup [.int i, td.v])) := kp_new hT
  refine ⟨?_, kp⟩
  rw [Own]
  refine ⟨a, rfl, .inl (.inl (by rw [upd_same]; rfl)), ?_⟩
  show OwnL P w K Z _ [.int i, d] [.mk (.int i) [], td]
  rw [OwnL, OwnL, OwnL]
  exact ⟨by rw [Own]; rfl, Own.frame kp (fun _ _ z => z) (fun _ h => h) (fun _ _ z => z) o, trivial⟩
theorem tSI_enm {m : ME} : ∀ σ H R, tSI P w K (iEnm m) σ H R → iEnq K (tSA P w K (ma1 m)) σ H R := by
  rintro σ H R ⟨av, Z, env, T, R1, ds, rs, env', e, f⟩
  obtain ⟨⟨rs', e1⟩, q1, e⟩ := Option.bind_eq_some_iff.mp e
  refine ⟨av, Z, env, T, R1, rs', e1, q1, fun H' Z' T' ts R2 rr nd sn kk => ?_⟩
  match rs', ts, rr, e, nd, sn with
  | [r], [t], rr, e, nd, sn =>
    obtain ⟨d, q2, e⟩ := Option.bind_eq_some_iff.mp e
    obtain ⟨ds', q3, e⟩ := Option.map_eq_some_iff.mp e
    cases e
    have eg : gets [r] e1 = some [d] := by
      show (r.get e1).bind _ = _
      rw [q2]; rfl
    have o := R2.at rr.1 q2
    cases d with
    | lst m0 ds0 =>
      cases q3
      obtain ⟨a, ea, q, ol⟩ := o.lst
      refine ⟨a, by rw [List.map_cons, ea]; rfl, .inl ⟨⟨_, q⟩, f H' Z' T' [t] [.lst m0 ds'] _ R2 rr eg sn kk ?_⟩⟩
      intro av2 Z2 env2 T2 σ2 H2 ts R3 rr2 hv eg2 i
      obtain ⟨u, rfl, hu, rr3⟩ := rrl_one rr2 hv
      obtain ⟨q2', ol2⟩ := (R3.at rr3 (gets_one eg2)).uniL (hu.trans ea)
      refine ⟨fun c hc => ?_, fun hl => ⟨_, q2', by rw [enum_len] at hl; rw [List.length_map, ← ol2.length]; exact hl⟩⟩
      obtain ⟨d, hd, rfl⟩ := enum_at hc
      obtain ⟨tc, f1, oc⟩ := ol2.get hd
      refine ⟨⟨_, tc.v, q2', by rw [List.getElem?_map, f1]; rfl⟩, fun x H3 hy => ?_⟩
      obtain ⟨b, y, rfl, hb, rfl, hy⟩ := hy
      have := hy _ q2'
      rw [List.getElem?_map, f1] at this
      obtain rfl : tc.v = y := Option.some.inj this
      obtain ⟨h1, h2⟩ := enum_pair (i := i) oc hb R3.zs
      exact ⟨_, rfl, h1, h2⟩
    | tup ds0 =>
      cases q3
      obtain ⟨a, ea, q, ol⟩ := o.tup
      refine ⟨a, by rw [List.map_cons, ea]; rfl, .inr ⟨⟨_, q⟩, f H' Z' T' [t] [.tup ds'] _ R2 rr eg sn kk ?_⟩⟩
      intro av2 Z2 env2 T2 σ2 H2 ts R3 rr2 hv eg2 i
      obtain ⟨u, rfl, hu, rr3⟩ := rrl_one rr2 hv
      obtain ⟨q2', ol2⟩ := (R3.at rr3 (gets_one eg2)).uniT (hu.trans ea)
      refine ⟨fun c hc => ?_, fun hl => ⟨_, q2', by rw [enum_len] at hl; rw [List.length_map, ← ol2.length]; exact hl⟩⟩
      obtain ⟨d, hd, rfl⟩ := enum_at hc
      obtain ⟨tc, f1, oc⟩ := ol2.get hd
      refine ⟨⟨_, tc.v, q2', by rw [List.getElem?_map, f1]; rfl⟩, fun x H3 hy => ?_⟩
      obtain ⟨b, y, rfl, hb, rfl, hy⟩ := hy
      have := hy _ q2'
      rw [List.getElem?_map, f1] at this
      obtain rfl : tc.v = y := Option.some.inj this
      obtain ⟨h1, h2⟩ := enum_pair (i := i) oc hb R3.zs
      exact ⟨_, rfl, h1, h2⟩
    | _ => cases q3
  | [], _, rr, e, nd, sn => cases e
  | _ :: _ :: _, _, rr, e, nd, sn => cases e
  | [r], [], rr, e, nd, sn => exact rr.elim
  | [r], _ :: _ :: _, rr, e, nd, sn => exact rr.2.elim
end
theorem si_enm {X : Cx} {a : Expr} {ma : ME} {p pos tpos : Pos} {elts : List Expr} {kk : Nat} (h : SE X a ma) (hg : Gl X "enumerate") (hm : X.mg "enumerate" = none) (hs : starEach [a] X.env = [(false, eval a X.env)] := by rfl) (hs0 : starEach [a] X.env = (false, eval a X.env) :: starEach [] X.env := by rfl) :
    SI X (.Tuple elts kk tpos) (.Call (.Name "enumerate" p) [a] [] pos) (iEnm ma) :=
  (pi_enq hg hm (sa_cons h sa_nil hs0) hs).weak tSI_enm
end G
set_option Elab.async false
set_option linter.all false
set_option maxRecDepth 100000
namespace G
open PySem PySem.Spec PyProof.Rows L2
section
variable {X : Cx}
theorem get_list : PGet X (rIxL X.K) := by
  intro pins s σ H x y v u Q I rx ry h
  obtain ⟨p, xs, i, z, rfl, rfl, hq, he, q⟩ := h
  cases rx
  obtain ⟨t, rfl⟩ := ry
  obtain ⟨its, r, pl, hz⟩ := I.list hq
  obtain ⟨j, h1, h2, h3, h4, h5⟩ := atI_get he
  obtain ⟨w, ew, rw'⟩ := r.get h2
  have hl := r.length
  have hn := line63
  have fin : EP X pins σ Q w s := ⟨z, H, I, rw', q⟩
  by_cases h0 : 0 ≤ i
  · have hj : i.toNat = j := by
      rw [seqIndex_of h0 h5] at h1
      exact Option.some.inj h1
    exact wpAny_getItem_list pl.isList h0 (by omega) (by rw [hj]; simpa using ew) fin
  · have hj : (i + (its.toArray.size : Int)).toNat = j := by
      rw [seqIndex_neg (by omega) h4] at h1
      rw [List.size_toArray, ← hl]
      exact Option.some.inj h1
    exact wpAny_getItem_list_neg pl.isList (by omega) (by rw [List.size_toArray] <;> omega) (by omega) (by rw [hj]; simpa using ew) fin
def rGetLD (P : Program) (w : World) (K : PySem.W.Frag) : V → V → Hp → VK → Prop := fun x y H Q => rIxL K x y H Q ∨ rGetD P w K x y H Q
theorem get_G (hu : X.A.units + 9 < cLine) : PGet X (rGetLD X.prog X.w X.K) := by
  intro pins s σ H x y v u Q I rx ry h
  rcases h with h | ⟨p, z, rfl, dg, q⟩
  · exact get_list pins s σ H x y v u Q I rx ry h
  · cases rx
    exact gd_getItem hu I dg ry fun w' s' I' rw' => ⟨z, H, I', rw', q⟩
end
def gInt (d k : D) : Option Int := match d, k with
  | .lst _ l, .int z => (ixN l.length z).bind fun n => match l[n]? with
    | some (.int a) => some a
    | _ => none
  | .dct _ ks vs, k => if keyOk ks k = true then (kidx ks k).bind fun n => match vs[n]? with
    | some (.int a) => some a
    | _ => none
    else none
  | _, _ => none
def mAugIx (f : Int → Int → Int) (ms : List Nat) (o i e : ME) : MS := ⟨(maCons o (maCons i maNil)).ms ++ (e.ms ++ ms), fun env => ((maCons o (maCons i maNil)).run env).bind fun x => match x.1 with
  | [p, k] => if (p.ok e.ms && k.ok e.ms) = true then (p.get x.2).bind fun d => (k.get x.2).bind fun kd => (gInt d kd).bind fun a => if kd.pure = true then (e.run x.2).bind fun y => (y.1.get y.2).bind fun c => match c with
      | .int b => (kCh fSetIx ms [p, .v (.int (f a b)), k] y.2).map fun z => (.nx, z.2)
      | _ => none
      else none
    else none
  | _ => none⟩
section
variable {P : Program} {w : World} {K : PySem.W.Frag} {Z Z' : Addr → Prop} {H H' : Hp} {env env' : En} {T T' : Nat → VT} {σ : L2.St} {av : List (V × D)}
theorem get_int {d k : D} {t tk : VT} {a : Int} {Q : VK} (h : gInt d k = some a) (o : Own P w K Z H d t) (o2 : Own P w K Z H k tk) (q : Q (.int a) H) : rGetLD P w K t.v tk.v H Q := by
  cases d with
  | lst m l =>
    cases k with
    | int z =>
      obtain ⟨n, en, h⟩ := Option.bind_eq_some_iff.mp (show ((ixN l.length z).bind fun n => match l[n]? with
        | some (.int a) => some a
        | _ => none) = some a from h)
      split at h
      · rename_i b hb
        cases h
        obtain ⟨p, ea, q1, ol⟩ := o.lst
        obtain ⟨tc, f1, oc⟩ := ol.get hb
        refine .inl ⟨p, _, z, .int a, ea, o2.int, q1, ?_, q⟩
        exact ixN_atI (by rw [List.length_map, ← ol.length]; exact en) (by rw [List.getElem?_map, f1]; exact congrArg some oc.int)
      · cases h
    | _ => cases h
  | dct m ks vs =>
    have h : (if keyOk ks k = true then (kidx ks k).bind fun n => match vs[n]? with
      | some (.int a) => some a
      | _ => none
      else none) = some a := h
    split at h
    · rename_i hk
      obtain ⟨n, en, h⟩ := Option.bind_eq_some_iff.mp h
      split at h
      · rename_i b hb
        cases h
        obtain ⟨p, ea, dg⟩ := own_DG o o2 hk
        obtain ⟨tc, f1, oc⟩ := o.kid (show (D.dct m ks vs).kids[n]? = some (.int a) from hb)
        rw [en, Option.bind_some, f1] at dg
        refine .inr ⟨p, tc.v, ea, dg, ?_⟩
        rw [oc.int]
        exact q
      · cases h
    · cases h
  | _ => cases h
theorem rfp_pure {r : R} {t : VT} {d : D} (e : r.get env = some d) (hp : d.pure = true) : rfp r t = [] := by
  cases r with
  | v d' =>
    cases e
    exact fp_pure hp
  | p j π => rfl
theorem tAugIx_of {fn : Int → Int → Int} {ms : List Nat} {o i e : ME} : ∀ D σ H, tSS P w K (mAugIx fn ms o i e) D σ H → tAugS (tS P w K o) (tS P w K i) (tS P w K e) (rGetLD P w K) (ipI fn) (rSetG P w K) D σ H := by
  rintro D σ H ⟨av, Z, env, T, R1, fl, env', e0, f⟩
  obtain ⟨⟨rs, e1⟩, q1, e0⟩ := Option.bind_eq_some_iff.mp e0
  have main : tSA P w K (maCons o (maCons i maNil)) σ H fun xs H2 => ∀ x y, xs = [x, y] → rGetLD P w K x y H2 fun x3 H3 => tS P w K e σ H3 fun y4 H4 => ipI fn x3 y4 H4 fun z H5 => rSetG P w K x y z H5 fun H6 => D.nx σ H6 := by
    refine ⟨av, Z, env, T, R1, rs, e1, q1, fun H1 Z1 T1 ts R2 rr nd sn kk => ?_⟩
    rintro x y ez
    dsimp only at e0
    match rs, ts, rr, e0, ez, nd, sn with
    | [p, k], [tp, tk], rr, e0, ez, nd, sn =>
      simp only [List.map_cons, List.map_nil, List.cons.injEq, and_true] at ez
      obtain ⟨rfl, rfl⟩ := ez
      dsimp only at e0
      split at e0
      · rename_i ok
        rw [Bool.and_eq_true] at ok
        obtain ⟨d, g1, e0⟩ := Option.bind_eq_some_iff.mp e0
        obtain ⟨kd, g2, e0⟩ := Option.bind_eq_some_iff.mp e0
        obtain ⟨a, g3, e0⟩ := Option.bind_eq_some_iff.mp e0
        split at e0
        · rename_i hkp
          obtain ⟨⟨re, e2⟩, q2, e0⟩ := Option.bind_eq_some_iff.mp e0
          obtain ⟨c, g4, e0⟩ := Option.bind_eq_some_iff.mp e0
          split at e0
          · rename_i b
            obtain ⟨⟨r, e3⟩, q3, e0⟩ := Option.map_eq_some_iff.mp e0
            cases e0
            refine get_int g3 (R2.at rr.1 g1) (R2.at rr.2.1 g2) ?_
            refine ⟨av, Z1, e1, T1, R2, re, e2, q2, fun H4 Z4 T4 t4 R4 rr4 nd4 sn4 kk4 => ?_⟩
            refine ⟨a, b, rfl, (R4.at rr4 g4).int, ?_⟩
            obtain ⟨tp', hv1, rp, hf1⟩ := rr.1.carry R2 R4 sn4 (fun _ h => .inl h) kk4 ok.1
            obtain ⟨tk', hv2, rk, hf2⟩ := rr.2.1.carry R2 R4 sn4 (fun _ h => .inl h) kk4 ok.2
            have hp0 : rfp p tp = [] := by
              cases p with
              | v _ => cases q3
              | p _ _ => rfl
            have hk0 : rfp k tk = [] := rfp_pure g2 hkp
            rw [hp0] at hf1
            rw [hk0] at hf2
            have ov : Own P w K Z4 H4 (.int (fn a b)) (.mk (.int (fn a b)) []) := by rw [Own]; rfl
            have fv : rfp (.v (.int (fn a b))) (.mk (.int (fn a b)) []) = [] := by rw [rfp, fp]
            have fe : rfpL [p, .v (.int (fn a b)), k] [tp', .mk (.int (fn a b)) [], tk'] = [] := by rw [rfpL, rfpL, rfpL, rfpL, hf1, fv, hf2]; rfl
            have fe0 : rfpL [p, k] [tp, tk] = [] := by rw [rfpL, rfpL, rfpL, hp0, hk0]; rfl
            rw [← hv1, ← hv2]
            refine st_setIx ⟨av, Z4, e2, T4, σ, [p, .v (.int (fn a b)), k], [tp', .mk (.int (fn a b)) [], tk'], r, _, rfl, R4, ⟨rp, ⟨ov, fun x hx => by rw [show fp (G.D.int (fn a b)) (.mk (.int (fn a b)) []) = [] from fv] at hx; cases hx⟩, rk, trivial⟩, by rw [fe]; exact List.nodup_nil, q3, ?_⟩
            intro H6 Z6 T6 t6 R6 rr6 nd6 sn6 kk6
            refine f σ H6 Z6 T6 R6 ?_ ((kk.trans (kk4.trans kk6)).mono fun j hj => by simpa [mAugIx] using hj)
            have s1 : Since Z H (AllFp env T) Z1 H1 (AllFp e1 T1) := sn.weak fun a h => .inl h
            have s2 : Since Z1 H1 (AllFp e1 T1) Z4 H4 (fun y => AllFp e2 T4 y ∨ y ∈ rfpL [p, .v (.int (fn a b)), k] [tp', .mk (.int (fn a b)) [], tk']) := sn4.weak fun y h => .inl (h.elim id fun z => by rw [fe] at z; cases z)
            exact s1.trans (s2.trans (sn6.weak fun a h => .inl h))
          · cases e0
        · cases e0
      · cases e0
    | [], [], rr, e0, ez, nd, sn => cases ez
    | [_], [_], rr, e0, ez, nd, sn => cases e0
  refine tS_mono (tSA_cons main) fun x H1 h1 => ?_
  refine tS_mono (tSA_cons h1) fun y H2 h2 => ?_
  exact tSA_nil h2 x y rfl
end
section
variable {X : Cx} {pos tpos : Pos} {o i e : Expr} {mo mi me : ME}
theorem ss_augIxAdd (ms : List Nat) (hu : X.A.units + 9 < cLine) (ho : SE X o mo) (hi : SE X i mi) (he : SE X e me)
    (ha : ∀ ov iv new, augStore i ov iv new = (do holding [new, ov, iv] (setItem ov iv new); release [new, ov, iv] []; pure .next) := by intros; rfl) : SS X (.AugAssign (.Subscript o i tpos) .Add e pos) (mAugIx (fun i j => i + j) ms mo mi me) :=
  (ps_augS ho hi (get_G hu) he ip_add (set_G hu) ha).weak tAugIx_of
theorem ss_augIxSub (ms : List Nat) (hu : X.A.units + 9 < cLine) (ho : SE X o mo) (hi : SE X i mi) (he : SE X e me)
    (ha : ∀ ov iv new, augStore i ov iv new = (do holding [new, ov, iv] (setItem ov iv new); release [new, ov, iv] []; pure .next) := by intros; rfl) : SS X (.AugAssign (.Subscript o i tpos) .Sub e pos) (mAugIx (fun i j => i - j) ms mo mi me) :=
  (ps_augS ho hi (get_G hu) he ip_sub (set_G hu) ha).weak tAugIx_of
end
end G
set_option Elab.async false
set_option linter.all false
set_option maxRecDepth 100000
namespace G
open PySem PySem.Spec PyProof.Rows L2
def mMov (i j : Nat) : MS := ⟨[i, j], fun env => match env[j]? with
  | some (.val d) => if d.pure = true then (if i < env.length then some (.nx, env.set i (.val d)) else none) else if i < env.length ∧ i ≠ j then some (.nx, (env.set j (.val .hole)).set i (.val d)) else none
  | some (.arg d) => if d.pure = true ∧ i < env.length then some (.nx, env.set i (.val d)) else none
  | _ => none⟩
section
variable {P : Program} {w : World} {K : PySem.W.Frag} {Z Z' : Addr → Prop} {H H' : Hp} {env env' : En} {T T' : Nat → VT} {σ : L2.St} {av : List (V × D)}
theorem set_same {α : Type} {l : List α} {j : Nat} {x : α} (h : l[j]? = some x) : l.set j x = l := by
  refine List.ext_getElem? fun k => ?_
  by_cases e : k = j
  · subst e
    rw [List.getElem?_set_self (List.getElem?_eq_some_iff.mp h).1, h]
  · rw [List.getElem?_set_ne (Ne.symm e)]
theorem Rel.move {i j : Nat} {d : D} (R1 : Rel P w K av Z env T σ H) (ej : env[j]? = some (.val d)) (hi : i < env.length) (hij : i ≠ j) :
    ∃ T', Rel P w K av Z ((env.set j (.val .hole)).set i (.val d)) T' (σ.set i (some (T j).v)) H ∧ (∀ a, AllFp ((env.set j (.val .hole)).set i (.val d)) T' a → AllFp env T a) ∧ Kept [i, j] env T ((env.set j (.val .hole)).set i (.val d)) T' := by
  have hd : dAt env j = some d := by unfold dAt; rw [ej]; rfl
  have hj : j < env.length := (List.getElem?_eq_some_iff.mp ej).1
  obtain ⟨o1, o2⟩ := R1.own j d hd
  have oh : Own P w K Z H .hole (.mk (T j).v []) := by rw [Own]; trivial
  have fh : fp .hole (.mk (T j).v []) = [] := by rw [fp]
  obtain ⟨R2, f2, k2⟩ := R1.set oh (by rw [fh]; exact List.nodup_nil) (by rw [fh]; exact fun _ z => nomatch z) hj
  have es : σ.set j (some (VT.mk (T j).v []).v) = σ := set_same o1
  rw [es] at R2
  have fj : fp d (T j) = fps env T j := by unfold fps; rw [hd]
  have ap : ∀ a ∈ fp d (T j), ¬ Z a ∧ ¬ AllFp (env.set j (.val .hole)) (fun k => if k = j then .mk (T j).v [] else T k) a := fun a ha => by
    rw [fj] at ha
    refine ⟨R1.dz j a ha, fun ⟨k, hk⟩ => ?_⟩
    by_cases e : k = j
    · subst e
      have : fps (env.set k (.val .hole)) (fun i => if i = k then .mk (T k).v [] else T i) k = [] := by
        unfold fps dAt
        rw [List.getElem?_set_self hj]
        show fp .hole _ = []
        simp [fp]
      rw [this] at hk
      cases hk
    · have : fps (env.set j (.val .hole)) (fun i => if i = j then .mk (T j).v [] else T i) k = fps env T k := by
        unfold fps dAt
        rw [List.getElem?_set_ne (Ne.symm e)]
        simp [e]
      rw [this] at hk
      exact e (R1.dj k j a hk ha)
  obtain ⟨R3, f3, k3⟩ := R2.set (i := i) (o2) (by rw [fj]; exact R1.nd j) ap (by rw [List.length_set]; exact hi)
  refine ⟨_, R3, fun a h => ?_, (k2.trans k3).mono fun x hx => by
    rcases List.mem_append.mp hx with hx | hx
    · rw [List.mem_singleton] at hx; rw [hx]; exact List.mem_cons_of_mem _ List.mem_cons_self
    · rw [List.mem_singleton] at hx; rw [hx]; exact List.mem_cons_self⟩
  rcases f3 a h with h | h
  · rcases f2 a h with h | h
    · exact h
    · rw [fh] at h; cases h
  · exact ⟨j, fj ▸ h⟩
theorem tMov_of {i j : Nat} : ∀ D σ H, tSS P w K (mMov i j) D σ H → tAsg (tS P w K (mN j)) (gName i) D σ H := by
  rintro D σ H ⟨av, Z, env, T, R1, fl, env', e, f⟩
  have pureC : ∀ {d : G.D}, dAt env j = some d → d.pure = true → i < env.length → fl = .nx → env' = env.set i (.val d) → (mN j).run env = some (.p j [], env) → tAsg (tS P w K (mN j)) (gName i) D σ H := fun {d} hd hp hi e1 e2 hr => by
    subst e1 e2
    refine ⟨av, Z, env, T, R1, .p j [], env, hr, fun H' Z' T' t R2 rr nd sn kk => ?_⟩
    have q2 : R.own (.p j []) env = some d := by
      show (R.get (.p j []) env).bind _ = _
      rw [show R.get (.p j []) env = some d by rw [R.get, hd, Option.bind_some, D.at], Option.bind_some, if_pos hp]
    obtain ⟨o, nd', ap, sub⟩ := kept_own R2 rr nd q2
    obtain ⟨R3, hf, k3⟩ := R2.set o nd' ap hi
    exact f _ H' Z' _ R3 (sn.weak fun a h => (hf a h).imp id (sub a)) ((kk.trans k3).mono fun x h => by
      rcases List.mem_append.mp h with h | h
      · cases h
      · rw [List.mem_singleton.mp h]; exact List.mem_cons_self)
  unfold mMov at e
  dsimp only at e
  split at e
  · rename_i d ej
    have hr : (mN j).run env = some (.p j [], env) := by
      unfold mN
      dsimp only
      rw [ej]
    have hd : dAt env j = some d := by unfold dAt; rw [ej]; rfl
    split at e
    · rename_i hp
      split at e
      · rename_i hi
        cases e
        exact pureC hd hp hi rfl rfl hr
      · cases e
    · split at e
      · rename_i hij
        cases e
        refine ⟨av, Z, env, T, R1, .p j [], env, hr, fun H' Z' T' t R2 rr nd sn kk => ?_⟩
        obtain ⟨T2, R3, hf, k3⟩ := R2.move ej hij.1 hij.2
        have hv : (T' j).v = t.v := by
          obtain ⟨d1, c1, g1, g2, g3⟩ := rr
          rw [VT.at] at g3
          rw [Option.some.inj g3]
        rw [hv] at R3
        exact f _ H' Z' _ R3 (sn.weak fun a h => .inl (hf a h)) ((kk.trans k3).mono fun x h => by
          rcases List.mem_append.mp h with h | h
          · cases h
          · exact h)
      · cases e
  · rename_i d ej
    have hr : (mN j).run env = some (.p j [], env) := by
      unfold mN
      dsimp only
      rw [ej]
    have hd : dAt env j = some d := by unfold dAt; rw [ej]; rfl
    split at e
    · rename_i hp
      cases e
      exact pureC hd hp.1 hp.2 rfl rfl hr
    · cases e
  · cases e
end
theorem ss_mov {X : Cx} {pos : Pos} {a : Expr} {x : Str} {pos' : Pos} (i j : Nat) (hN : X.N.Nodup) (h : SE X a (mN j)) (hi : X.N[i]? = some x := by rfl) (hx : Loc X.env.scope x := by first | exact Or.inl rfl | exact Or.inr rfl) (hs : swapsWith a (some (.Name x pos')) pos.line X.env = pure false := by rfl)
    (hf : X.fn x = true ∨ X.env.scope.names.lookup x = some .local := by first | exact .inl rfl | exact .inr rfl) : SS X (.Assign [.Name x pos'] a pos) (mMov i j) := (ps_set hN hi hx h hs hf).weak tMov_of
end G
set_option Elab.async false
set_option linter.all false
set_option maxRecDepth 100000
namespace G
open PySem PySem.Spec PyProof.Rows L2
def intsL : List D → Option (List Int)
  | [] => some []
  | .int i :: ds => (intsL ds).map fun ns => i :: ns
  | _ => none
def fSum : List D → Option D
  | [.lst _ ds] => (intsL ds).map fun ns => .int ns.sum
  | _ => none
section
variable {P : Program} {w : World} {K : PySem.W.Frag} {Z Z' : Addr → Prop} {H H' : Hp} {env env' : En} {T T' : Nat → VT} {σ : L2.St} {av : List (V × D)}
theorem own_intsL : ∀ {ds : List D} {ts : List VT} {ns : List Int}, OwnL P w K Z H ds ts → intsL ds = some ns → ts.map VT.v = ns.map V.int
  | [], [], ns, _, e => by cases e; rfl
  | [], _ :: _, ns, o, _ => by rw [OwnL] at o; exact o.elim
  | d :: ds, [], ns, o, _ => by rw [OwnL] at o; exact o.elim
  | d :: ds, t :: ts, ns, o, e => by
    rw [OwnL] at o
    cases d with
    | int i =>
      obtain ⟨ns', e', rfl⟩ := Option.map_eq_some_iff.mp (show (intsL ds).map (fun ns => i :: ns) = some ns from e)
      rw [List.map_cons, List.map_cons, own_intsL o.2 e', o.1.int]
    | _ => cases e
theorem st_sum {x : V} {Q : VK} (h : StepF P w K fSum [x] H Q) : rSum K [x] H Q := by
  obtain ⟨Z, a, s, d, e0, oa, e, dn⟩ := h.one
  cases a with
  | lst m ds =>
    obtain ⟨ns, e1, rfl⟩ := Option.map_eq_some_iff.mp (show (intsL ds).map (fun ns => D.int ns.sum) = some d from e)
    obtain ⟨p, ea, q, ol⟩ := oa.lst
    refine ⟨p, ns, ?_, ?_, flat_give rfl dn⟩
    · rw [← e0, ea]
    · rw [← own_intsL ol e1]; exact q
  | _ => cases e
end
section
variable {X : Cx} {pos p kpos : Pos} {x : Str} {a e : Expr} {kws : List Keyword} {ma : ME} {bs : MA} {m : Fn} {k : Nat} {ks : List Str} {nk : Nat} {π : List Nat}
theorem se_sum (hc : X.calm = true) (ha : SE X a ma) (hg : Gl X "sum" := by rfl) (hm : X.mg "sum" = none := by assumption) (hs : starEach [a] X.env = (false, eval a X.env) :: starEach [] X.env := by rfl) : SE X (.Call (.Name "sum" p) [a] [] pos) (mF1 fSum ma) :=
  (pe_callB (cr_sum hc) hg hm (by decide +kernel) (sa_cons ha sa_nil hs) (by decide) (by decide) hs rfl).weak (tCB1 fun _ _ _ h => st_sum h)
theorem se_callK1 (ms : List Nat) (Gd : DfK X.prog X.w X.K X.mg X.base k x ks 1 nk π m) (hr : Room k X.A) (ha : SE X e ma) (hkw : SK X kws bs) (hg : Gl X x := by rfl) (hall : (backToKw pos (keywordEach kws X.env)).all (·.1.isSome) = true := by rfl)
    (hks : (backToKw pos (keywordEach kws X.env)).filterMap (·.1) = ks := by rfl) (hdb : (x == ("__debug__" : Str)) = false := by decide) (he : starEach [e] X.env = (false, eval e X.env) :: starEach [] X.env := by rfl)
    (hpl : ((backTo pos (starEach [e] X.env)).any (·.1) || (backToKw pos (keywordEach kws X.env)).any (·.1.isNone)) = false := by rfl) :
    SE X (.Call (.Name x p) [e] kws pos) (mCallK (1 + nk) π m ms (maCons ma bs)) := by
  obtain ⟨⟨f, fd, ps, F, hm, hk, hb⟩, hπ⟩ := Gd
  refine ⟨fun pins s σ H Q I h => ?_⟩
  refine wpAny_Call_Name_kw (ld_glob I hg hm ?_ hdb)
  have h1 : tS X.prog X.w X.K ma σ H fun x H1 => tNil σ H1 fun us H1 => tSA X.prog X.w X.K bs σ H1 fun vs H2 => Step X.prog X.w X.K (kCallK (1 + nk) π m ms) ms (x :: vs) H2 Q :=
    tS_mono (tSA_cons (tS_op h)) fun x H1 q => q
  refine PySem.W.callWith_KW (h₀ := X.base) I.ok.mod.kin hk hall (thn ((pa_cons ha pa_nil he).run pos pins s σ H (fun us H1 => ∃ x, us = [x] ∧ tSA X.prog X.w X.K bs σ H1 fun vs H2 => Step X.prog X.w X.K (kCallK (1 + nk) π m ms) ms (x :: vs) H2 Q) I (tS_mono h1 fun x H1 q => ⟨x, rfl, q⟩)) fun us s1 ⟨vs, H1, I1, r1, q1⟩ => ?_) hpl he
  obtain ⟨x0, rfl, q1⟩ := q1
  refine thn (hkw.run pos pins s1 σ H1 _ I1 q1) fun ws s2 ⟨zs, H2, I2, rz, q2⟩ => ⟨I2.kIn, ?_⟩
  rw [hks]
  obtain ⟨hl, q3⟩ := step_perm hπ q2
  refine run_fnk F hr hb pass0 I2 r1 rz ?_
  unfold gP
  have hlz : zs.length = nk := by
    rw [List.length_cons] at hl
    omega
  rw [if_pos ⟨rfl, hlz⟩]
  exact st_call q3
end
end G
set_option Elab.async false
set_option linter.all false
set_option maxRecDepth 100000
set_option maxHeartbeats 4000000
namespace K35
open PySem PySem.Spec PyProof.Rows L2 G
def topS (i : Nat) : Stmt := PySem.Challenge.pw_unseenswap_k35_whole_machine_runs.main.body.getD i (.Pass ⟨0, 0, 0, 0⟩)
structure Bl (mg : Str → Option Value) : Prop where
  b_bool : mg "bool" = none
  b_enumerate : mg "enumerate" = none
  b_int : mg "int" = none
  b_isinstance : mg "isinstance" = none
  b_len : mg "len" = none
  b_list : mg "list" = none
  b_range : mg "range" = none
  b_sorted : mg "sorted" = none
  b_str : mg "str" = none
  b_sum : mg "sum" = none
  b_tuple : mg "tuple" = none
abbrev s_build : Stmt := topS 1
theorem sc_build : FnScope ["graph", "heads", "many", "row", "rows", "state", "label", "target"] ["graph"] (defScope s_build) := ⟨rfl, rfl, rfl, by decide +kernel, rfl, by decide +kernel, by decide +kernel⟩
abbrev s_row_label : Stmt := topS 2
theorem sc_row_label : FnScope ["row"] ["row"] (defScope s_row_label) := ⟨rfl, rfl, rfl, by decide +kernel, rfl, by decide +kernel, by decide +kernel⟩
abbrev s_run : Stmt := topS 3
theorem sc_run : FnScope ["rows", "offers", "picks", "head", "turn", "done", "pick", "steps", "able", "chosen", "row"] ["rows", "offers", "picks"] (defScope s_run) := ⟨rfl, rfl, rfl, by decide +kernel, rfl, by decide +kernel, by decide +kernel⟩
abbrev s_closure : Stmt := topS 5
theorem sc_closure : FnScope ["graph", "states", "rows", "met", "stack", "state", "label", "target"] ["graph", "states"] (defScope s_closure) := ⟨rfl, rfl, rfl, by decide +kernel, rfl, by decide +kernel, by decide +kernel⟩
abbrev s_after : Stmt := topS 6
theorem sc_after : FnScope ["graph", "word", "states", "event", "targets", "state", "label", "target"] ["graph", "word"] (defScope s_after) := ⟨rfl, rfl, rfl, by decide +kernel, rfl, by decide +kernel, by decide +kernel⟩
abbrev s_l_source : Stmt := topS 8
theorem sc_l_source : FnScope ["script", "place", "cell", "seed"] ["script", "place"] (defScope s_l_source) := ⟨rfl, rfl, rfl, by decide +kernel, rfl, by decide +kernel, by decide +kernel⟩
abbrev s_l_draw : Stmt := topS 9
theorem sc_l_draw : FnScope ["source", "many", "mixed", "digit"] ["source", "many"] (defScope s_l_draw) := ⟨rfl, rfl, rfl, by decide +kernel, rfl, by decide +kernel, by decide +kernel⟩
abbrev s_l_taken : Stmt := topS 10
theorem sc_l_taken : FnScope ["words", "taken", "word"] [] (defScope s_l_taken) := ⟨rfl, rfl, rfl, by decide +kernel, rfl, by decide +kernel, by decide +kernel⟩
abbrev s_l_fresh : Stmt := topS 11
theorem sc_l_fresh : FnScope ["source", "taken", "great", "signs", "word", "k"] ["source", "taken", "great"] (defScope s_l_fresh) := ⟨rfl, rfl, rfl, by decide +kernel, rfl, by decide +kernel, by decide +kernel⟩
abbrev s_l_doors : Stmt := topS 12
theorem sc_l_doors : FnScope ["source", "taken", "most", "ins", "outs", "events", "many", "k", "name", "kind", "values", "pick", "value"] ["source", "taken", "most"] (defScope s_l_doors) := ⟨rfl, rfl, rfl, by decide +kernel, rfl, by decide +kernel, by decide +kernel⟩
abbrev s_l_label : Stmt := topS 13
theorem sc_l_label : FnScope ["source", "events", "pick"] ["source", "events"] (defScope s_l_label) := ⟨rfl, rfl, rfl, by decide +kernel, rfl, by decide +kernel, by decide +kernel⟩
abbrev s_l_steps : Stmt := topS 14
theorem sc_l_steps : FnScope ["source", "events", "many", "steps", "k"] ["source", "events", "many"] (defScope s_l_steps) := ⟨rfl, rfl, rfl, by decide +kernel, rfl, by decide +kernel, by decide +kernel⟩
abbrev s_l_met : Stmt := topS 15
theorem sc_l_met : FnScope ["steps", "order", "turn", "step"] ["steps"] (defScope s_l_met) := ⟨rfl, rfl, rfl, by decide +kernel, rfl, by decide +kernel, by decide +kernel⟩
abbrev s_l_graph : Stmt := topS 16
theorem sc_l_graph : FnScope ["source", "doors", "steps", "order", "k", "rows", "state", "other", "kept", "row", "step"] ["source", "doors", "steps"] (defScope s_l_graph) := ⟨rfl, rfl, rfl, by decide +kernel, rfl, by decide +kernel, by decide +kernel⟩
abbrev s_l_equal : Stmt := topS 17
theorem sc_l_equal : FnScope ["actual", "expected", "k"] ["actual", "expected"] (defScope s_l_equal) := ⟨rfl, rfl, rfl, by decide +kernel, rfl, by decide +kernel, by decide +kernel⟩
abbrev s_l_plain : Stmt := topS 18
theorem sc_l_plain : FnScope ["value", "deep", "part"] ["value", "deep"] (defScope s_l_plain) := ⟨rfl, rfl, rfl, by decide +kernel, rfl, by decide +kernel, by decide +kernel⟩
abbrev s_l_course : Stmt := topS 19
theorem sc_l_course : FnScope ["rows", "offers", "picks", "told", "state", "at", "pick", "free", "step"] ["rows", "offers", "picks"] (defScope s_l_course) := ⟨rfl, rfl, rfl, by decide +kernel, rfl, by decide +kernel, by decide +kernel⟩
abbrev s_l_offers : Stmt := topS 20
theorem sc_l_offers : FnScope ["source", "events", "offers", "whole", "k", "event"] ["source", "events"] (defScope s_l_offers) := ⟨rfl, rfl, rfl, by decide +kernel, rfl, by decide +kernel, by decide +kernel⟩
abbrev s_l_pick : Stmt := topS 21
theorem sc_l_pick : FnScope ["source", "great"] ["source"] (defScope s_l_pick) := ⟨rfl, rfl, rfl, by decide +kernel, rfl, by decide +kernel, by decide +kernel⟩
abbrev s_l_ran : Stmt := topS 22
theorem sc_l_ran : FnScope ["extra", "graph", "rows", "events", "offers", "picks", "due", "handed", "taken", "told", "word", "last", "led", "k", "step"] ["extra", "graph", "rows", "events"] (defScope s_l_ran) := ⟨rfl, rfl, rfl, by decide +kernel, rfl, by decide +kernel, by decide +kernel⟩
abbrev s_l_built : Stmt := topS 23
theorem sc_l_built : FnScope ["source", "extra", "doors", "graph", "rows", "parts", "row", "k"] ["source", "extra"] (defScope s_l_built) := ⟨rfl, rfl, rfl, by decide +kernel, rfl, by decide +kernel, by decide +kernel⟩
abbrev s_law : Stmt := topS 24
theorem sc_law : FnScope ["script", "k"] ["script"] (defScope s_law) := ⟨rfl, rfl, rfl, by decide +kernel, rfl, by decide +kernel, by decide +kernel⟩
def b_build_f1 : MS :=
  (mSeq (mDrop (mApp [1] (mN 1) (mN 2)))
  (mAug (fun i j => i + j) 2 (mAdd (mC (.int 1)) (mF1 fLenG (mN 3)))))
def b_build_f2 : MS :=
  (mIf (mTest (mEq (mIx (mN 6) (mC (.int 0))) (mC (.str "")))) (mDrop (mApp [4] (mN 4) (mTup (maCons (mC (.str "inner")) (maCons (mIx (mN 6) (mC (.int 1))) (maCons (mC .non) (maCons (mIx (mN 1) (mN 7)) maNil))))))) (mDrop (mApp [4] (mN 4) (mTup (maCons (mC (.str "event")) (maCons (mIx (mN 6) (mC (.int 0))) (maCons (mIx (mN 6) (mC (.int 1))) (maCons (mIx (mN 1) (mN 7)) maNil))))))))
def b_build_f3 : MS :=
  (mSeq (mDrop (mApp [4] (mN 4) (mTup (maCons (mC (.str "state")) (maCons (mN 5) (maCons (mF1 fLenG (mN 3)) maNil))))))
  (mFor (iSeq (mN 3)) (gT (gsCons (gN 6) (gsCons (gN 7) gsNil))) b_build_f2))
def b_build : MS :=
  (mSeq (mSet 1 (mLst maNil))
  (mSeq (mSet 2 (mC (.int 0)))
  (mSeq (mFor (iSeq (mIx (mN 0) (mC (.int 3)))) (gN 3) b_build_f1)
  (mSeq (mSet 4 (mLst maNil))
  (mSeq (mFor (iEnm (mIx (mN 0) (mC (.int 3)))) (gT (gsCons (gN 5) (gsCons (gN 3) gsNil))) b_build_f3)
  (mRet (mF1 fTuple (mN 4))))))))
def m_build : Fn := runDef 1 8 b_build
def b_row_label : MS :=
  (mSeq (mIf (mTest (mEq (mIx (mN 0) (mC (.int 0))) (mC (.str "inner")))) (mRet (mTup (maCons (mC (.str "")) (maCons (mIx (mN 0) (mC (.int 1))) maNil)))) mSkip)
  (mRet (mTup (maCons (mIx (mN 0) (mC (.int 1))) (maCons (mIx (mN 0) (mC (.int 2))) maNil)))))
def m_row_label : Fn := runDef 1 1 b_row_label
def b_run_f1 : MS :=
  (mSeq (mIf (mTest (mEq (mN 4) (mF1 fLenG (mN 1)))) mBrk mSkip)
  (mSeq (mSet 7 (mSlLH (mN 0) (mAdd (mN 3) (mC (.int 1))) (mAdd (mAdd (mN 3) (mC (.int 1))) (mIx (mIx (mN 0) (mN 3)) (mC (.int 2))))))
  (mSeq (mSet 8 (mLc (iSeq (mN 7)) (gN 10) (mOr (mTest (mEq (mIx (mN 10) (mC (.int 0))) (mC (.str "inner")))) (mTest (mIn (mCall m_row_label [10] (maCons (mN 10) maNil)) (mIx (mN 1) (mN 4))))) (mN 10) [10]))
  (mSeq (mIf (mNot (mTru (mN 8))) mBrk mSkip)
  (mSeq (mSet 9 (mIx (mN 8) (mMod (mN 6) (mF1 fLenG (mN 8)))))
  (mSeq (mSet 3 (mIx (mN 9) (mC (.int 3))))
  (mSeq (mDrop (mApp [5] (mN 5) (mTup (maCons (mCall m_row_label [9] (maCons (mN 9) maNil)) (maCons (mIx (mIx (mN 0) (mN 3)) (mC (.int 1))) maNil)))))
  (mIf (mTest (mEq (mIx (mN 9) (mC (.int 0))) (mC (.str "event")))) (mAug (fun i j => i + j) 4 (mC (.int 1))) mSkip))))))))
def b_run : MS :=
  (mSeq (mSet 3 (mC (.int 0)))
  (mSeq (mSet 4 (mC (.int 0)))
  (mSeq (mSet 5 (mLst maNil))
  (mSeq (mFor (iSeq (mN 2)) (gN 6) b_run_f1)
  (mRet (mF1 fTuple (mN 5)))))))
def m_run : Fn := runDef 3 11 b_run
def b_closure_f1 : MS :=
  (mIf (mAnd (mTest (mEq (mIx (mN 6) (mC (.int 0))) (mC (.str "")))) (mTest (mNotIn (mN 7) (mN 3)))) (mSeq (mAsgIx [3] (mC (.bl true)) (mN 3) (mN 7))
  (mDrop (mApp [4] (mN 4) (mN 7)))) mSkip)
def b_closure_f2 : MS :=
  (mFor (iSeq (mIx (mN 2) (mPop [4] (mN 4)))) (gT (gsCons (gN 6) (gsCons (gN 7) gsNil))) b_closure_f1)
def b_closure : MS :=
  (mSeq (mSet 2 (mIx (mN 0) (mC (.int 3))))
  (mSeq (mSet 3 (mDc (iSeq (mN 1)) (gN 5) mYes (mN 5) (mC (.bl true)) [5]))
  (mSeq (mSet 4 (mF1 fListG (mN 3)))
  (mSeq (mWhile (mTru (mN 4)) b_closure_f2)
  (mRet (mF1 fTuple (mF1 fSort (mN 3))))))))
def m_closure : Fn := runDef 2 8 b_closure
def b_after_f1 : MS :=
  (mSeq (mSet 4 (mLc2 (iSeq (mN 2)) (gN 5) mYes (iSeq (mIx (mIx (mN 0) (mC (.int 3))) (mN 5))) (gT (gsCons (gN 6) (gsCons (gN 7) gsNil))) (mTest (mEq (mN 6) (mN 3))) (mN 7) [5, 6, 7] [6, 7]))
  (mSet 2 (mCall m_closure [0, 4] (maCons (mN 0) (maCons (mN 4) maNil)))))
def b_after : MS :=
  (mSeq (mSet 2 (mCall m_closure [0] (maCons (mN 0) (maCons (mTup (maCons (mC (.int 0)) maNil)) maNil))))
  (mSeq (mFor (iSeq (mN 1)) (gN 3) b_after_f1)
  (mRet (mN 2))))
def m_after : Fn := runDef 2 8 b_after
def b_l_source : MS :=
  (mSeq (mSet 2 (mAdd (mMul (mC (.int 104729)) (mN 1)) (mC (.int 4421))))
  (mSeq (mIf (mTest (mLt (mN 1) (mF1 fLenG (mN 0)))) (mSet 2 (mF1 fInt (mIx (mN 0) (mN 1)))) mSkip)
  (mSeq (mSet 3 (mMod (mF1 fInt (mAdd (mN 2) (mMul (mC (.int 7)) (mN 1)))) (mC (.int 2147483629))))
  (mSeq (mIf (mTest (mGe (mN 2) (mPow (mC (.int 10)) (mC (.int 18))))) (mRet (mLst (maCons (mN 3) (maCons (mSub (mN 2) (mPow (mC (.int 10)) (mC (.int 18)))) (maCons (mAdd (mC (.int 16807)) (mMul (mC (.int 2)) (mN 1))) maNil))))) mSkip)
  (mRet (mLst (maCons (mN 3) (maCons (mC (.int 0)) (maCons (mAdd (mC (.int 16807)) (mMul (mC (.int 2)) (mN 1))) maNil)))))))))
def m_l_source : Fn := runDef 2 4 b_l_source
def b_l_draw : MS :=
  (mSeq (mIf (mTest (mGt (mIx (mN 0) (mC (.int 1))) (mC (.int 0)))) (mSeq (mSet 3 (mMod (mF1 fInt (mIx (mN 0) (mC (.int 1)))) (mN 1)))
  (mSeq (mAsgIx [0] (mDiv (mF1 fInt (mIx (mN 0) (mC (.int 1)))) (mN 1)) (mN 0) (mC (.int 1)))
  (mRet (mN 3)))) mSkip)
  (mSeq (mSet 2 (mMod (mF1 fInt (mAdd (mMul (mIx (mN 0) (mC (.int 0))) (mC (.int 48271))) (mIx (mN 0) (mC (.int 2))))) (mC (.int 2147483647))))
  (mSeq (mSet 2 (mMod (mF1 fInt (mAdd (mMul (mN 2) (mC (.int 69621))) (mC (.int 40692)))) (mC (.int 2147483629))))
  (mSeq (mAsgIx [0] (mN 2) (mN 0) (mC (.int 0)))
  (mRet (mMod (mF1 fInt (mDiv (mN 2) (mC (.int 173)))) (mN 1)))))))
def m_l_draw : Fn := runDef 2 4 b_l_draw
def b_l_taken_f1 : MS :=
  (mAsgIx [1] (mC (.bl true)) (mN 1) (mN 2))
def b_l_taken : MS :=
  (mSeq (mSet 0 (mC (.str "kind of names service in out var begins state on send quiet fault if do go end and or not then else join")))
  (mSeq (mSet 1 (mC (.dct true [] [])))
  (mSeq (mFor (iSeq (mF1 fWords (mAdd (mN 0) (mC (.str " hide talk win Truth No Yes Test"))))) (gN 2) b_l_taken_f1)
  (mRet (mN 1)))))
def m_l_taken : Fn := runDef 0 3 b_l_taken
def b_l_fresh_f1 : MS :=
  (mSet 4 (mAdd (mN 4) (mIx (mN 3) (mCall m_l_draw [0] (maCons (mN 0) (maCons (mC (.int 63)) maNil))))))
def b_l_fresh_f2 : MS :=
  (mSeq (mIf (mTest (mNotIn (mN 4) (mN 1))) mBrk mSkip)
  (mSet 4 (mAdd (mN 4) (mC (.str "_")))))
def b_l_fresh : MS :=
  (mSeq (mSet 3 (mC (.str "abcdefghijklmnopqrstuvwxyz0123456789_ABCDEFGHIJKLMNOPQRSTUVWXYZ")))
  (mSeq (mSet 4 (mIx (mN 3) (mCall m_l_draw [0] (maCons (mN 0) (maCons (mC (.int 26)) maNil)))))
  (mSeq (mIf (mTru (mN 2)) (mSet 4 (mF1 fUpper (mN 4))) mSkip)
  (mSeq (mFor (iRng (ma1 (mMul (mCall m_l_draw [0] (maCons (mN 0) (maCons (mC (.int 3)) maNil))) (mCall m_l_draw [0] (maCons (mN 0) (maCons (mC (.int 4)) maNil)))))) (gN 5) b_l_fresh_f1)
  (mSeq (mFor (iRng (ma1 (mAdd (mF1 fLenG (mN 1)) (mC (.int 1))))) (gN 5) b_l_fresh_f2)
  (mSeq (mAsgIx [1] (mC (.bl true)) (mN 1) (mN 4))
  (mRet (mN 4))))))))
def m_l_fresh : Fn := runDef 3 6 b_l_fresh
def b_l_doors_f1 : MS :=
  (mDrop (mApp [5] (mN 5) (mTup (maCons (mN 8) (maCons (mN 12) maNil)))))
def b_l_doors_f2 : MS :=
  (mSeq (mSet 8 (mCall m_l_fresh [0, 1] (maCons (mN 0) (maCons (mN 1) (maCons (mC (.bl false)) maNil)))))
  (mSeq (mSet 9 (mC .non))
  (mSeq (mSet 10 (mLst (maCons (mC .non) maNil)))
  (mSeq (mSet 11 (mCall m_l_draw [0] (maCons (mN 0) (maCons (mC (.int 6)) maNil))))
  (mSeq (mIf (mTest (mGt (mN 11) (mC (.int 3)))) (mSeq (mSet 9 (mCall m_l_fresh [0, 1] (maCons (mN 0) (maCons (mN 1) (maCons (mC (.bl true)) maNil)))))
  (mSet 10 (mLst (maCons (mC (.int 0)) (maCons (mC (.int 1)) maNil))))) mSkip)
  (mSeq (mIf (mTest (mEq (mN 11) (mC (.int 5)))) (mSet 10 (mLst (maCons (mCall m_l_fresh [0, 1] (maCons (mN 0) (maCons (mN 1) (maCons (mC (.bl true)) maNil)))) (maCons (mCall m_l_fresh [0, 1] (maCons (mN 0) (maCons (mN 1) (maCons (mC (.bl true)) maNil)))) maNil)))) mSkip)
  (mSeq (mIf (mTest (mEq (mCall m_l_draw [0] (maCons (mN 0) (maCons (mC (.int 2)) maNil))) (mC (.int 0)))) (mDrop (mApp [3] (mN 3) (mTup (maCons (mN 8) (maCons (mN 9) maNil))))) (mDrop (mApp [4] (mN 4) (mTup (maCons (mN 8) (maCons (mN 9) maNil))))))
  (mFor (iSeq (mN 10)) (gN 12) b_l_doors_f1))))))))
def b_l_doors : MS :=
  (mSeq (mSet 3 (mLst maNil))
  (mSeq (mSet 4 (mLst maNil))
  (mSeq (mSet 5 (mLst maNil))
  (mSeq (mSet 6 (mCall m_l_draw [0] (maCons (mN 0) (maCons (mAdd (mN 2) (mC (.int 1))) maNil))))
  (mSeq (mIf (mAnd (mTest (mEq (mN 6) (mC (.int 0)))) (mTest (mGt (mCall m_l_draw [0] (maCons (mN 0) (maCons (mC (.int 4)) maNil))) (mC (.int 0))))) (mSet 6 (mN 2)) mSkip)
  (mSeq (mFor (iRng (ma1 (mN 6))) (gN 7) b_l_doors_f2)
  (mRet (mTup (maCons (mF1 fTuple (mF1 fSort (mN 3))) (maCons (mF1 fTuple (mF1 fSort (mN 4))) (maCons (mF1 fSort (mN 5)) maNil)))))))))))
def m_l_doors : Fn := runDef 3 13 b_l_doors
def b_l_label : MS :=
  (mSeq (mSet 2 (mCall m_l_draw [0] (maCons (mN 0) (maCons (mC (.int 11)) maNil))))
  (mSeq (mIf (mTest (mEq (mN 2) (mC (.int 0)))) (mRet (mTup (maCons (mC (.str "")) (maCons (mC (.str "fault")) maNil)))) mSkip)
  (mSeq (mIf (mOr (mTest (mLt (mN 2) (mC (.int 3)))) (mTest (mEq (mF1 fLenG (mN 1)) (mC (.int 0))))) (mRet (mTup (maCons (mC (.str "")) (maCons (mC (.str "quiet")) maNil)))) mSkip)
  (mRet (mIx (mN 1) (mCall m_l_draw [0] (maCons (mN 0) (maCons (mF1 fLenG (mN 1)) maNil))))))))
def m_l_label : Fn := runDef 2 3 b_l_label
def b_l_steps_f1 : MS :=
  (mDrop (mApp [3] (mN 3) (mTup (maCons (mCall m_l_draw [0, 4] (maCons (mN 0) (maCons (mN 4) maNil))) (maCons (mCall m_l_label [0, 1] (maCons (mN 0) (maCons (mN 1) maNil))) (maCons (mN 4) maNil))))))
def b_l_steps_f2 : MS :=
  (mDrop (mApp [3] (mN 3) (mTup (maCons (mCall m_l_draw [0, 2] (maCons (mN 0) (maCons (mN 2) maNil))) (maCons (mCall m_l_label [0, 1] (maCons (mN 0) (maCons (mN 1) maNil))) (maCons (mCall m_l_draw [0, 2] (maCons (mN 0) (maCons (mN 2) maNil))) maNil))))))
def b_l_steps : MS :=
  (mSeq (mSet 3 (mLst maNil))
  (mSeq (mFor (iRng (ma2 (mC (.int 1)) (mN 2))) (gN 4) b_l_steps_f1)
  (mSeq (mFor (iRng (ma1 (mCall m_l_draw [0] (maCons (mN 0) (maCons (mAdd (mN 2) (mC (.int 3))) maNil))))) (gN 4) b_l_steps_f2)
  (mRet (mN 3)))))
def m_l_steps : Fn := runDef 3 5 b_l_steps
def b_l_met_f1 : MS :=
  (mIf (mAnd (mTest (mEq (mIx (mN 3) (mC (.int 0))) (mIx (mN 1) (mN 2)))) (mTest (mNotIn (mIx (mN 3) (mC (.int 2))) (mN 1)))) (mDrop (mApp [1] (mN 1) (mIx (mN 3) (mC (.int 2))))) mSkip)
def b_l_met_f2 : MS :=
  (mIf (mTest (mLt (mN 2) (mF1 fLenG (mN 1)))) (mFor (iSeq (mN 0)) (gN 3) b_l_met_f1) mSkip)
def b_l_met : MS :=
  (mSeq (mSet 1 (mLst (maCons (mC (.int 0)) maNil)))
  (mSeq (mFor (iRng (ma1 (mAdd (mF1 fLenG (mN 0)) (mC (.int 1))))) (gN 2) b_l_met_f2)
  (mRet (mN 1))))
def m_l_met : Fn := runDef 1 4 b_l_met
def b_l_graph_f1 : MS :=
  (mSeq (mSet 7 (mAdd (mN 4) (mCall m_l_draw [0] (maCons (mN 0) (maCons (mSub (mF1 fLenG (mN 3)) (mN 4)) maNil)))))
  (mSeq (mSet 8 (mIx (mN 3) (mN 4)))
  (mSeq (mAsgIx [3] (mIx (mN 3) (mN 7)) (mN 3) (mN 4))
  (mAsgIx [3] (mN 8) (mN 3) (mN 7)))))
def b_l_graph_f2 : MS :=
  (mIf (mTest (mEq (mIx (mN 10) (mC (.int 0))) (mN 6))) (mAsgIx [9] (mC (.bl true)) (mN 9) (mTup (maCons (mIx (mN 10) (mC (.int 1))) (maCons (mIndex (mN 3) (mIx (mN 10) (mC (.int 2)))) maNil)))) mSkip)
def b_l_graph_f3 : MS :=
  (mSeq (mSet 9 (mC (.dct true [] [])))
  (mSeq (mFor (iSeq (mN 2)) (gN 10) b_l_graph_f2)
  (mDrop (mApp [5] (mN 5) (mF1 fTuple (mF1 fSort (mN 9)))))))
def b_l_graph : MS :=
  (mSeq (mSet 3 (mCall m_l_met [2] (maCons (mN 2) maNil)))
  (mSeq (mFor (iRng (ma2 (mC (.int 1)) (mF1 fLenG (mN 3)))) (gN 4) b_l_graph_f1)
  (mSeq (mSet 5 (mLst maNil))
  (mSeq (mFor (iSeq (mN 3)) (gN 6) b_l_graph_f3)
  (mRet (mTup (maCons (mC (.str "graph")) (maCons (mIx (mN 1) (mC (.int 0))) (maCons (mIx (mN 1) (mC (.int 1))) (maCons (mF1 fTuple (mN 5)) maNil))))))))))
def m_l_graph : Fn := runDef 3 11 b_l_graph
def b_l_equal_f1 (self : Fn) : MS :=
  (mIf (mNot (mTru (mCall self [0, 1] (maCons (mIx (mN 0) (mN 2)) (maCons (mIx (mN 1) (mN 2)) maNil))))) (mRet (mC (.bl false))) mSkip)
def b_l_equal (self : Fn) : MS :=
  (mSeq (mIf (mTest (mIsN (mN 1) (mC .non))) (mRet (mIsN (mN 0) (mC .non))) mSkip)
  (mSeq (mIf (mTru (mF1 (fIsi "bool") (mN 1))) (mRet (mVal (mAnd (mTest (mF1 (fIsi "bool") (mN 0))) (mTest (mEq (mN 0) (mN 1)))))) mSkip)
  (mSeq (mIf (mTru (mF1 (fIsi "int") (mN 1))) (mRet (mVal (mAnd (mTest (mF1 (fIsi "int") (mN 0))) (mAnd (mNot (mTest (mF1 (fIsi "bool") (mN 0)))) (mTest (mEq (mN 0) (mN 1))))))) mSkip)
  (mSeq (mIf (mTru (mF1 (fIsi "str") (mN 1))) (mRet (mVal (mAnd (mTest (mF1 (fIsi "str") (mN 0))) (mTest (mEq (mN 0) (mN 1)))))) mSkip)
  (mSeq (mIf (mOr (mNot (mTru (mF1 (fIsi "tuple") (mN 0)))) (mTest (mNe (mF1 fLenG (mN 0)) (mF1 fLenG (mN 1))))) (mRet (mC (.bl false))) mSkip)
  (mSeq (mFor (iRng (ma1 (mF1 fLenG (mN 1)))) (gN 2) (b_l_equal_f1 self))
  (mRet (mC (.bl true)))))))))
def mr_l_equal : Nat → Fn
  | 0 => fun _ => none
  | n + 1 => runDef 2 3 (b_l_equal (mr_l_equal n))
def m_l_equal : Fn := mr_l_equal 6
def b_l_plain_f1 (self : Fn) : MS :=
  (mIf (mNot (mTru (mCall self [2] (maCons (mN 2) (maCons (mSub (mN 1) (mC (.int 1))) maNil))))) (mRet (mC (.bl false))) mSkip)
def b_l_plain (self : Fn) : MS :=
  (mSeq (mIf (mOr (mTest (mIsN (mN 0) (mC .non))) (mOr (mTru (mF1 (fIsi "int") (mN 0))) (mTru (mF1 (fIsi "str") (mN 0))))) (mRet (mC (.bl true))) mSkip)
  (mSeq (mIf (mOr (mNot (mTru (mF1 (fIsi "tuple") (mN 0)))) (mTest (mEq (mN 1) (mC (.int 0))))) (mRet (mC (.bl false))) mSkip)
  (mSeq (mFor (iSeq (mN 0)) (gN 2) (b_l_plain_f1 self))
  (mRet (mC (.bl true))))))
def mr_l_plain : Nat → Fn
  | 0 => fun _ => none
  | n + 1 => runDef 2 3 (b_l_plain (mr_l_plain n))
def m_l_plain : Fn := mr_l_plain 6
def b_l_course_f1 : MS :=
  (mSeq (mIf (mTest (mEq (mN 5) (mF1 fLenG (mN 1)))) mBrk mSkip)
  (mSeq (mSet 7 (mLc (iSeq (mIx (mN 0) (mN 4))) (gN 8) (mOr (mTest (mEq (mIx (mIx (mN 8) (mC (.int 0))) (mC (.int 0))) (mC (.str "")))) (mTest (mIn (mIx (mN 8) (mC (.int 0))) (mIx (mN 1) (mN 5))))) (mN 8) [8]))
  (mSeq (mIf (mTest (mEq (mF1 fLenG (mN 7)) (mC (.int 0)))) mBrk mSkip)
  (mSeq (mSet 8 (mIx (mN 7) (mMod (mF1 fInt (mN 6)) (mF1 fLenG (mN 7)))))
  (mSeq (mDrop (mApp [3] (mN 3) (mN 8)))
  (mSeq (mSet 4 (mIx (mN 8) (mC (.int 1))))
  (mIf (mTest (mNe (mIx (mIx (mN 8) (mC (.int 0))) (mC (.int 0))) (mC (.str "")))) (mSet 5 (mAdd (mN 5) (mC (.int 1)))) mSkip)))))))
def b_l_course : MS :=
  (mSeq (mSet 3 (mLst maNil))
  (mSeq (mSet 4 (mC (.int 0)))
  (mSeq (mSet 5 (mC (.int 0)))
  (mSeq (mFor (iSeq (mN 2)) (gN 6) b_l_course_f1)
  (mRet (mF1 fTuple (mN 3)))))))
def m_l_course : Fn := runDef 3 9 b_l_course
def b_l_offers_f1 : MS :=
  (mDrop (mApp [2] (mN 2) (mF1 fTuple (mLc (iSeq (mN 1)) (gN 5) (mOr (mTru (mN 3)) (mTest (mGt (mCall m_l_draw [0] (maCons (mN 0) (maCons (mC (.int 3)) maNil))) (mC (.int 0))))) (mN 5) [5]))))
def b_l_offers : MS :=
  (mSeq (mSet 2 (mLst maNil))
  (mSeq (mSet 3 (mEq (mCall m_l_draw [0] (maCons (mN 0) (maCons (mC (.int 3)) maNil))) (mC (.int 0))))
  (mSeq (mFor (iRng (ma1 (mCall m_l_draw [0] (maCons (mN 0) (maCons (mC (.int 21)) maNil))))) (gN 4) b_l_offers_f1)
  (mRet (mN 2)))))
def m_l_offers : Fn := runDef 2 6 b_l_offers
def b_l_pick : MS :=
  (mSeq (mIf (mTest (mEq (mCall m_l_draw [0] (maCons (mN 0) (maCons (mC (.int 6)) maNil))) (mC (.int 0)))) (mSeq (mSet 1 (mIx (mLst (maCons (mC (.int 1)) (maCons (mPow (mC (.int 10)) (mC (.int 9))) (maCons (mPow (mC (.int 10)) (mC (.int 30))) maNil)))) (mCall m_l_draw [0] (maCons (mN 0) (maCons (mC (.int 3)) maNil)))))
  (mRet (mAdd (mMul (mCall m_l_draw [0] (maCons (mN 0) (maCons (mC (.int 2147483629)) maNil))) (mN 1)) (mCall m_l_draw [0] (maCons (mN 0) (maCons (mC (.int 97)) maNil)))))) mSkip)
  (mRet (mCall m_l_draw [0] (maCons (mN 0) (maCons (mC (.int 12)) maNil)))))
def m_l_pick : Fn := runDef 1 2 b_l_pick
def b_l_ran : MS :=
  (mSeq (mSet 4 (mCall m_l_offers [0, 3] (maCons (mN 0) (maCons (mN 3) maNil))))
  (mSeq (mSet 5 (mLc (iRng (ma1 (mCall m_l_draw [0] (maCons (mN 0) (maCons (mC (.int 25)) maNil))))) (gN 13) mYes (mCall m_l_pick [0] (maCons (mN 0) maNil)) [13]))
  (mSeq (mSet 6 (mCall m_l_course [1, 4, 5] (maCons (mIx (mN 1) (mC (.int 3))) (maCons (mN 4) (maCons (mN 5) maNil)))))
  (mSeq (mSet 7 (mF1 fListG (mN 4)))
  (mSeq (mSet 8 (mF1 fListG (mN 5)))
  (mSeq (mSet 9 (mCall m_run [2, 7, 8] (maCons (mN 2) (maCons (mN 7) (maCons (mN 8) maNil)))))
  (mSeq (mIf (mOr (mTest (mNe (mN 7) (mN 4))) (mOr (mTest (mNe (mN 8) (mN 5))) (mNot (mTru (mCall m_l_equal [6, 9] (maCons (mN 9) (maCons (mN 6) maNil))))))) (mRet (mC (.bl false))) mSkip)
  (mSeq (mIf (mNot (mTru (mCall m_l_equal [6] (maCons (mCallK (1 + 2) [0, 2, 1] m_run [2] (maCons (mN 2) (maCons (mF1 fTuple (mN 5)) (maCons (mF1 fTuple (mN 4)) maNil)))) (maCons (mN 6) maNil))))) (mRet (mC (.bl false))) mSkip)
  (mSeq (mSet 10 (mF1 fTuple (mLc (iSeq (mN 6)) (gN 14) (mTest (mNe (mIx (mIx (mN 14) (mC (.int 0))) (mC (.int 0))) (mC (.str "")))) (mIx (mN 14) (mC (.int 0))) [14])))
  (mSeq (mSet 11 (mC (.int 0)))
  (mSeq (mIf (mTest (mGt (mF1 fLenG (mN 6)) (mC (.int 0)))) (mSet 11 (mIx (mIx (mN 6) (mSub (mF1 fLenG (mN 6)) (mC (.int 1)))) (mC (.int 1)))) mSkip)
  (mSeq (mSet 12 (mCall m_after [1, 10] (maCons (mN 1) (maCons (mN 10) maNil))))
  (mRet (mVal (mAnd (mTest (mF1 (fIsi "tuple") (mN 12))) (mTest (mIn (mN 11) (mN 12))))))))))))))))))
def m_l_ran : Fn := runDef 4 15 b_l_ran
def b_l_built_f1 : MS :=
  (mIf (mNot (mTru (mF1 (fIsi "tuple") (mN 6)))) (mRet (mC (.bl false))) mSkip)
def b_l_built_f2 : MS :=
  (mIf (mNot (mTru (mCall m_l_ran [1, 2, 3, 4] (maCons (mN 1) (maCons (mN 3) (maCons (mN 4) (maCons (mIx (mN 2) (mC (.int 2))) maNil))))))) (mRet (mC (.bl false))) mSkip)
def b_l_built : MS :=
  (mSeq (mSet 2 (mCall m_l_doors [0] (maCons (mN 0) (maCons (mCall m_l_taken [] maNil) (maCons (mC (.int 4)) maNil)))))
  (mSeq (mSet 3 (mCall m_l_graph [0, 2] (maCons (mN 0) (maCons (mN 2) (maCons (mCall m_l_steps [0, 2] (maCons (mN 0) (maCons (mIx (mN 2) (mC (.int 2))) (maCons (mAdd (mC (.int 1)) (mCall m_l_draw [0] (maCons (mN 0) (maCons (mC (.int 12)) maNil)))) maNil)))) maNil)))))
  (mSeq (mSet 4 (mCall m_build [3] (maCons (mN 3) maNil)))
  (mSeq (mSet 5 (mAdd (mF1 fLenG (mIx (mN 3) (mC (.int 3)))) (mF1 fSum (mLc (iSeq (mIx (mN 3) (mC (.int 3)))) (gN 6) mYes (mF1 fLenG (mN 6)) [6]))))
  (mSeq (mIf (mOr (mNot (mTru (mF1 (fIsi "tuple") (mN 4)))) (mOr (mTest (mGt (mF1 fLenG (mN 4)) (mMul (mC (.int 4)) (mN 5)))) (mNot (mTru (mCall m_l_plain [4] (maCons (mN 4) (maCons (mC (.int 40)) maNil))))))) (mRet (mC (.bl false))) mSkip)
  (mSeq (mFor (iSeq (mN 4)) (gN 6) b_l_built_f1)
  (mSeq (mFor (iRng (ma1 (mC (.int 2)))) (gN 7) b_l_built_f2)
  (mRet (mC (.bl true))))))))))
def m_l_built : Fn := runDef 2 8 b_l_built
def b_law_f1 : MS :=
  (mIf (mNot (mTru (mCall m_l_built [] (maCons (mCall m_l_source [0] (maCons (mN 0) (maCons (mMul (mC (.int 2)) (mN 1)) maNil))) (maCons (mCall m_l_source [0] (maCons (mN 0) (maCons (mAdd (mMul (mC (.int 2)) (mN 1)) (mC (.int 1))) maNil))) maNil))))) (mRet (mC (.bl false))) mSkip)
def b_law : MS :=
  (mSeq (mFor (iRng (ma1 (mC (.int 4)))) (gN 1) b_law_f1)
  (mRet (mC (.bl true))))
def m_law : Fn := runDef 1 2 b_law
section
variable {P : Program} {w : World} {K : PySem.W.Frag} {mg : Str → Option Value} {base : Heap}
theorem ok_build {f : Addr} {fd : FuncData} (B : Bl mg) (F : Fun K "build" "build" s_build f fd) : FnOk P w K mg base CX0 1 f fd ["graph"] (spOf P w K m_build) :=
  fn_sim F sc_build fun cdv A outer s H E hr =>
  (sss_cons (ss_set 1 sc_build.nd (se_lst sa_nil))
  (sss_cons (ss_set 2 sc_build.nd se_int)
  (sss_cons (ss_for PassesOwn.never rfl (si_seq (se_ix (hu9 hr) (se_name 0) se_int)) (sg_name 3 sc_build.nd) (sss_cons (ss_expr (se_app (ms := [1]) (se_name 1) (se_name 2)))
  (sss_one (ss_augAdd 2 sc_build.nd (se_add se_int (se_lenG (se_name 3) (by rfl) B.b_len))))))
  (sss_cons (ss_set 4 sc_build.nd (se_lst sa_nil))
  (sss_cons (ss_for PassesOwn.never rfl (si_enm (se_ix (hu9 hr) (se_name 0) se_int) (by rfl) B.b_enumerate) (sg_tup rfl (sgs_cons (sg_name 5 sc_build.nd) (sgs_cons (sg_name 3 sc_build.nd) sgs_nil)) (gs_lenS (gs_lenS gs_len0))) (sss_cons (ss_expr (se_app (ms := [4]) (se_name 4) (se_tup (sa_cons se_str (sa_cons (se_name 5) (sa_cons (se_lenG (se_name 3) (by rfl) B.b_len) sa_nil))))))
  (sss_one (ss_for PassesOwn.never rfl (si_seq (se_name 3)) (sg_tup rfl (sgs_cons (sg_name 6 sc_build.nd) (sgs_cons (sg_name 7 sc_build.nd) sgs_nil)) (gs_lenS (gs_lenS gs_len0))) (sss_one (ss_if (st_eqT (hu64 hr) (se_ix (hu9 hr) (se_name 6) se_int) se_str) (sss_one (ss_expr (se_app (ms := [4]) (se_name 4) (se_tup (sa_cons se_str (sa_cons (se_ix (hu9 hr) (se_name 6) se_int) (sa_cons se_non (sa_cons (se_ix (hu9 hr) (se_name 1) (se_name 7)) sa_nil)))))))) (sss_one (ss_expr (se_app (ms := [4]) (se_name 4) (se_tup (sa_cons se_str (sa_cons (se_ix (hu9 hr) (se_name 6) se_int) (sa_cons (se_ix (hu9 hr) (se_name 6) se_int) (sa_cons (se_ix (hu9 hr) (se_name 1) (se_name 7)) sa_nil))))))))))))))
  (sss_one (ss_ret (se_toTup (se_name 4) (by rfl) B.b_tuple))))))))
theorem ok_row_label {f : Addr} {fd : FuncData} (B : Bl mg) (F : Fun K "row_label" "row_label" s_row_label f fd) : FnOk P w K mg base CX0 1 f fd ["row"] (spOf P w K m_row_label) :=
  fn_sim F sc_row_label fun cdv A outer s H E hr =>
  (sss_cons (ss_if (st_eqT (hu64 hr) (se_ix (hu9 hr) (se_name 0) se_int) se_str) (sss_one (ss_ret (se_tup (sa_cons se_str (sa_cons (se_ix (hu9 hr) (se_name 0) se_int) sa_nil))))) sss_nil)
  (sss_one (ss_ret (se_tup (sa_cons (se_ix (hu9 hr) (se_name 0) se_int) (sa_cons (se_ix (hu9 hr) (se_name 0) se_int) sa_nil))))))
theorem ok_run {f : Addr} {fd : FuncData} (B : Bl mg) (d_row_label : Df P w K mg base 1 "row_label" m_row_label) (F : Fun K "run" "run" s_run f fd) : FnOk P w K mg base CX0 2 f fd ["rows", "offers", "picks"] (spOf P w K m_run) :=
  fn_sim F sc_run fun cdv A outer s H E hr =>
  (sss_cons (ss_set 3 sc_run.nd se_int)
  (sss_cons (ss_set 4 sc_run.nd se_int)
  (sss_cons (ss_set 5 sc_run.nd (se_lst sa_nil))
  (sss_cons (ss_for PassesOwn.never rfl (si_seq (se_name 2)) (sg_name 6 sc_run.nd) (sss_cons (ss_if (st_eqT (hu64 hr) (se_name 4) (se_lenG (se_name 1) (by rfl) B.b_len)) (sss_one ss_break) sss_nil)
  (sss_cons (ss_set 7 sc_run.nd (se_slLH (se_name 0) (se_add (se_name 3) se_int) (se_add (se_add (se_name 3) se_int) (se_ix (hu9 hr) (se_ix (hu9 hr) (se_name 0) (se_name 3)) se_int))))
  (sss_cons (ss_setLc 8 [("row", 10)] rfl sc_run.nd (si_seq (se_name 7)) (blkOk_by (own := [("row", 10)]) (N := ["rows", "offers", "picks", "head", "turn", "done", "pick", "steps", "able", "chosen", "row"]) (sc := defScope s_run) (by decide +kernel)) (fun _ _ _ _ _ => (sg_name 10 sc_run.nd)) (fun _ _ _ _ _ => (sts_one (SW.st (sw_or (st_eqT (hu64 hr) (se_ix (hu9 hr) (se_name 10) se_int) se_str) (sw_or1 (st_inT (hu65 hr) (se_call [10] d_row_label (hr.mono (by decide)) (sa_cons (se_name 10) sa_nil)) (se_ix (hu9 hr) (se_name 1) (se_name 4)))))))) (fun _ _ _ _ _ => (se_name 10)) (by rfl) (by rfl) (sw_true rfl rfl rfl (by decide +kernel)))
  (sss_cons (ss_if (st_not (st_tru (se_name 8))) (sss_one ss_break) sss_nil)
  (sss_cons (ss_set 9 sc_run.nd (se_ix (hu9 hr) (se_name 8) (se_mod (se_name 6) (se_lenG (se_name 8) (by rfl) B.b_len))))
  (sss_cons (ss_set 3 sc_run.nd (se_ix (hu9 hr) (se_name 9) se_int))
  (sss_cons (ss_expr (se_app (ms := [5]) (se_name 5) (se_tup (sa_cons (se_call [9] d_row_label (hr.mono (by decide)) (sa_cons (se_name 9) sa_nil)) (sa_cons (se_ix (hu9 hr) (se_ix (hu9 hr) (se_name 0) (se_name 3)) se_int) sa_nil)))))
  (sss_one (ss_if (st_eqT (hu64 hr) (se_ix (hu9 hr) (se_name 9) se_int) se_str) (sss_one (ss_augAdd 4 sc_run.nd se_int)) sss_nil))))))))))
  (sss_one (ss_ret (se_toTup (se_name 5) (by rfl) B.b_tuple)))))))
theorem ok_closure {f : Addr} {fd : FuncData} (B : Bl mg) (F : Fun K "closure" "closure" s_closure f fd) : FnOk P w K mg base CX0 1 f fd ["graph", "states"] (spOf P w K m_closure) :=
  fn_sim F sc_closure fun cdv A outer s H E hr =>
  (sss_cons (ss_set 2 sc_closure.nd (se_ix (hu9 hr) (se_name 0) se_int))
  (sss_cons (ss_setDc 3 [("state", 5)] rfl sc_closure.nd (si_seq (se_name 1)) (blkOk_by (own := [("state", 5)]) (N := ["graph", "states", "rows", "met", "stack", "state", "label", "target"]) (sc := defScope s_closure) (by decide +kernel)) (fun _ _ _ _ _ => (sg_name 5 sc_closure.nd)) (fun _ _ _ _ _ => sts_nil) (fun _ _ _ _ _ => (se_name 5)) (fun _ _ _ _ _ => se_bl))
  (sss_cons (ss_set 4 sc_closure.nd (se_listG rfl (se_name 3) (by rfl) B.b_list))
  (sss_cons (ss_while PassesOwn.never (st_tru (se_name 4)) (sss_one (ss_for PassesOwn.never rfl (si_seq (se_ix (hu9 hr) (se_name 2) (se_pop (ms := [4]) (se_name 4)))) (sg_tup rfl (sgs_cons (sg_name 6 sc_closure.nd) (sgs_cons (sg_name 7 sc_closure.nd) sgs_nil)) (gs_lenS (gs_lenS gs_len0))) (sss_one (ss_if (SW.st (sw_and (st_eqT (hu64 hr) (se_ix (hu9 hr) (se_name 6) se_int) se_str) (sw_and1 (st_notInT (hu65 hr) (se_name 7) (se_name 3))))) (sss_cons (ss_setIx [3] (hu9 hr) se_bl (se_name 3) (se_name 7))
  (sss_one (ss_expr (se_app (ms := [4]) (se_name 4) (se_name 7))))) sss_nil)))))
  (sss_one (ss_ret (se_toTup (se_sorted rfl (hu68 hr) (se_name 3) (by rfl) B.b_sorted) (by rfl) B.b_tuple)))))))
theorem ok_after {f : Addr} {fd : FuncData} (B : Bl mg) (d_closure : Df P w K mg base 1 "closure" m_closure) (F : Fun K "after" "after" s_after f fd) : FnOk P w K mg base CX0 2 f fd ["graph", "word"] (spOf P w K m_after) :=
  fn_sim F sc_after fun cdv A outer s H E hr =>
  (sss_cons (ss_set 2 sc_after.nd (se_call [0] d_closure (hr.mono (by decide)) (sa_cons (se_name 0) (sa_cons (se_tup (sa_cons se_int sa_nil)) sa_nil))))
  (sss_cons (ss_for PassesOwn.never rfl (si_seq (se_name 1)) (sg_name 3 sc_after.nd) (sss_cons (ss_setLc2 4 [("state", 5), ("label", 6), ("target", 7)] [6, 7] rfl sc_after.nd (si_seq (se_name 2)) (blkOk_by (own := [("state", 5), ("label", 6), ("target", 7)]) (N := ["graph", "word", "states", "event", "targets", "state", "label", "target"]) (sc := defScope s_after) (by decide +kernel)) (fun _ _ _ _ _ => (sg_name 5 sc_after.nd)) (fun _ _ _ _ _ => sts_nil) (fun _ _ _ _ _ => (si_seq (se_ix (hu9 hr) (se_ix (hu9 hr) (se_name 0) se_int) (se_name 5)))) (fun _ _ _ _ _ => (sg_tup rfl (sgs_cons (sg_name 6 sc_after.nd) (sgs_cons (sg_name 7 sc_after.nd) sgs_nil)) (gs_lenS (gs_lenS gs_len0)))) (fun _ _ _ _ _ => (sts_one (st_eqT (hu64 hr) (se_name 6) (se_name 3)))) (fun _ _ _ _ _ => (se_name 7)) (by decide) (by rfl) (by rfl) (sw_true rfl rfl rfl (by decide +kernel)))
  (sss_one (ss_set 2 sc_after.nd (se_call [0, 4] d_closure (hr.mono (by decide)) (sa_cons (se_name 0) (sa_cons (se_name 4) sa_nil)))))))
  (sss_one (ss_ret (se_name 2)))))
theorem ok_l_source {f : Addr} {fd : FuncData} (B : Bl mg) (F : Fun K "_law_source" "_law_source" s_l_source f fd) : FnOk P w K mg base CX0 1 f fd ["script", "place"] (spOf P w K m_l_source) :=
  fn_sim F sc_l_source fun cdv A outer s H E hr =>
  (sss_cons (ss_set 2 sc_l_source.nd (se_add (se_mul se_int (se_name 1)) se_int))
  (sss_cons (ss_if (st_lt (se_name 1) (se_lenG (se_name 0) (by rfl) B.b_len)) (sss_one (ss_set 2 sc_l_source.nd (se_toInt (se_ix (hu9 hr) (se_name 0) (se_name 1)) (by rfl) B.b_int))) sss_nil)
  (sss_cons (ss_set 3 sc_l_source.nd (se_mod (se_toInt (se_add (se_name 2) (se_mul se_int (se_name 1))) (by rfl) B.b_int) se_int))
  (sss_cons (ss_if (st_ge (se_name 2) (se_pow se_int se_int)) (sss_one (ss_ret (se_lst (sa_cons (se_name 3) (sa_cons (se_sub (se_name 2) (se_pow se_int se_int)) (sa_cons (se_add se_int (se_mul se_int (se_name 1))) sa_nil)))))) sss_nil)
  (sss_one (ss_ret (se_lst (sa_cons (se_name 3) (sa_cons se_int (sa_cons (se_add se_int (se_mul se_int (se_name 1))) sa_nil))))))))))
theorem ok_l_draw {f : Addr} {fd : FuncData} (B : Bl mg) (F : Fun K "_law_draw" "_law_draw" s_l_draw f fd) : FnOk P w K mg base CX0 1 f fd ["source", "many"] (spOf P w K m_l_draw) :=
  fn_sim F sc_l_draw fun cdv A outer s H E hr =>
  (sss_cons (ss_if (st_gt (se_ix (hu9 hr) (se_name 0) se_int) se_int) (sss_cons (ss_set 3 sc_l_draw.nd (se_mod (se_toInt (se_ix (hu9 hr) (se_name 0) se_int) (by rfl) B.b_int) (se_name 1)))
  (sss_cons (ss_setIx [0] (hu9 hr) (se_div (se_toInt (se_ix (hu9 hr) (se_name 0) se_int) (by rfl) B.b_int) (se_name 1)) (se_name 0) se_int)
  (sss_one (ss_ret (se_name 3))))) sss_nil)
  (sss_cons (ss_set 2 sc_l_draw.nd (se_mod (se_toInt (se_add (se_mul (se_ix (hu9 hr) (se_name 0) se_int) se_int) (se_ix (hu9 hr) (se_name 0) se_int)) (by rfl) B.b_int) se_int))
  (sss_cons (ss_set 2 sc_l_draw.nd (se_mod (se_toInt (se_add (se_mul (se_name 2) se_int) se_int) (by rfl) B.b_int) se_int))
  (sss_cons (ss_setIx [0] (hu9 hr) (se_name 2) (se_name 0) se_int)
  (sss_one (ss_ret (se_mod (se_toInt (se_div (se_name 2) se_int) (by rfl) B.b_int) (se_name 1))))))))
theorem ok_l_taken {f : Addr} {fd : FuncData} (B : Bl mg) (F : Fun K "_law_taken" "_law_taken" s_l_taken f fd) : FnOk P w K mg base CX0 1 f fd [] (spOf P w K m_l_taken) :=
  fn_sim F sc_l_taken fun cdv A outer s H E hr =>
  (sss_cons (ss_set 0 sc_l_taken.nd se_str)
  (sss_cons (ss_set 1 sc_l_taken.nd se_newD)
  (sss_cons (ss_for PassesOwn.never rfl (si_seq (se_words (se_add (se_name 0) se_str))) (sg_name 2 sc_l_taken.nd) (sss_one (ss_setIx [1] (hu9 hr) se_bl (se_name 1) (se_name 2))))
  (sss_one (ss_ret (se_name 1))))))
theorem ok_l_fresh {f : Addr} {fd : FuncData} (B : Bl mg) (d_l_draw : Df P w K mg base 1 "_law_draw" m_l_draw) (F : Fun K "_law_fresh" "_law_fresh" s_l_fresh f fd) : FnOk P w K mg base CX0 2 f fd ["source", "taken", "great"] (spOf P w K m_l_fresh) :=
  fn_sim F sc_l_fresh fun cdv A outer s H E hr =>
  (sss_cons (ss_set 3 sc_l_fresh.nd se_str)
  (sss_cons (ss_set 4 sc_l_fresh.nd (se_ix (hu9 hr) (se_name 3) (se_call [0] d_l_draw (hr.mono (by decide)) (sa_cons (se_name 0) (sa_cons se_int sa_nil)))))
  (sss_cons (ss_if (st_tru (se_name 2)) (sss_one (ss_set 4 sc_l_fresh.nd (se_upper (se_name 4)))) sss_nil)
  (sss_cons (ss_for PassesOwn.never rfl (si_rng1 (se_mul (se_call [0] d_l_draw (hr.mono (by decide)) (sa_cons (se_name 0) (sa_cons se_int sa_nil))) (se_call [0] d_l_draw (hr.mono (by decide)) (sa_cons (se_name 0) (sa_cons se_int sa_nil)))) (by rfl) B.b_range) (sg_name 5 sc_l_fresh.nd) (sss_one (ss_set 4 sc_l_fresh.nd (se_add (se_name 4) (se_ix (hu9 hr) (se_name 3) (se_call [0] d_l_draw (hr.mono (by decide)) (sa_cons (se_name 0) (sa_cons se_int sa_nil))))))))
  (sss_cons (ss_for PassesOwn.never rfl (si_rng1 (se_add (se_lenG (se_name 1) (by rfl) B.b_len) se_int) (by rfl) B.b_range) (sg_name 5 sc_l_fresh.nd) (sss_cons (ss_if (st_notInT (hu65 hr) (se_name 4) (se_name 1)) (sss_one ss_break) sss_nil)
  (sss_one (ss_set 4 sc_l_fresh.nd (se_add (se_name 4) se_str)))))
  (sss_cons (ss_setIx [1] (hu9 hr) se_bl (se_name 1) (se_name 4))
  (sss_one (ss_ret (se_name 4)))))))))
theorem ok_l_doors {f : Addr} {fd : FuncData} (B : Bl mg) (d_l_draw : Df P w K mg base 1 "_law_draw" m_l_draw) (d_l_fresh : Df P w K mg base 2 "_law_fresh" m_l_fresh) (F : Fun K "_law_doors" "_law_doors" s_l_doors f fd) : FnOk P w K mg base CX0 3 f fd ["source", "taken", "most"] (spOf P w K m_l_doors) :=
  fn_sim F sc_l_doors fun cdv A outer s H E hr =>
  (sss_cons (ss_set 3 sc_l_doors.nd (se_lst sa_nil))
  (sss_cons (ss_set 4 sc_l_doors.nd (se_lst sa_nil))
  (sss_cons (ss_set 5 sc_l_doors.nd (se_lst sa_nil))
  (sss_cons (ss_set 6 sc_l_doors.nd (se_call [0] d_l_draw (hr.mono (by decide)) (sa_cons (se_name 0) (sa_cons (se_add (se_name 2) se_int) sa_nil))))
  (sss_cons (ss_if (SW.st (sw_and (st_eqT (hu64 hr) (se_name 6) se_int) (sw_and1 (st_gt (se_call [0] d_l_draw (hr.mono (by decide)) (sa_cons (se_name 0) (sa_cons se_int sa_nil))) se_int)))) (sss_one (ss_set 6 sc_l_doors.nd (se_name 2))) sss_nil)
  (sss_cons (ss_for PassesOwn.never rfl (si_rng1 (se_name 6) (by rfl) B.b_range) (sg_name 7 sc_l_doors.nd) (sss_cons (ss_set 8 sc_l_doors.nd (se_call [0, 1] d_l_fresh (hr.mono (by decide)) (sa_cons (se_name 0) (sa_cons (se_name 1) (sa_cons se_bl sa_nil)))))
  (sss_cons (ss_set 9 sc_l_doors.nd se_non)
  (sss_cons (ss_set 10 sc_l_doors.nd (se_lst (sa_cons se_non sa_nil)))
  (sss_cons (ss_set 11 sc_l_doors.nd (se_call [0] d_l_draw (hr.mono (by decide)) (sa_cons (se_name 0) (sa_cons se_int sa_nil))))
  (sss_cons (ss_if (st_gt (se_name 11) se_int) (sss_cons (ss_set 9 sc_l_doors.nd (se_call [0, 1] d_l_fresh (hr.mono (by decide)) (sa_cons (se_name 0) (sa_cons (se_name 1) (sa_cons se_bl sa_nil)))))
  (sss_one (ss_set 10 sc_l_doors.nd (se_lst (sa_cons se_int (sa_cons se_int sa_nil)))))) sss_nil)
  (sss_cons (ss_if (st_eqT (hu64 hr) (se_name 11) se_int) (sss_one (ss_set 10 sc_l_doors.nd (se_lst (sa_cons (se_call [0, 1] d_l_fresh (hr.mono (by decide)) (sa_cons (se_name 0) (sa_cons (se_name 1) (sa_cons se_bl sa_nil)))) (sa_cons (se_call [0, 1] d_l_fresh (hr.mono (by decide)) (sa_cons (se_name 0) (sa_cons (se_name 1) (sa_cons se_bl sa_nil)))) sa_nil))))) sss_nil)
  (sss_cons (ss_if (st_eqT (hu64 hr) (se_call [0] d_l_draw (hr.mono (by decide)) (sa_cons (se_name 0) (sa_cons se_int sa_nil))) se_int) (sss_one (ss_expr (se_app (ms := [3]) (se_name 3) (se_tup (sa_cons (se_name 8) (sa_cons (se_name 9) sa_nil)))))) (sss_one (ss_expr (se_app (ms := [4]) (se_name 4) (se_tup (sa_cons (se_name 8) (sa_cons (se_name 9) sa_nil)))))))
  (sss_one (ss_for PassesOwn.never rfl (si_seq (se_name 10)) (sg_name 12 sc_l_doors.nd) (sss_one (ss_expr (se_app (ms := [5]) (se_name 5) (se_tup (sa_cons (se_name 8) (sa_cons (se_name 12) sa_nil))))))))))))))))
  (sss_one (ss_ret (se_tup (sa_cons (se_toTup (se_sorted rfl (hu68 hr) (se_name 3) (by rfl) B.b_sorted) (by rfl) B.b_tuple) (sa_cons (se_toTup (se_sorted rfl (hu68 hr) (se_name 4) (by rfl) B.b_sorted) (by rfl) B.b_tuple) (sa_cons (se_sorted rfl (hu68 hr) (se_name 5) (by rfl) B.b_sorted) sa_nil))))))))))))
theorem ok_l_label {f : Addr} {fd : FuncData} (B : Bl mg) (d_l_draw : Df P w K mg base 1 "_law_draw" m_l_draw) (F : Fun K "_law_label" "_law_label" s_l_label f fd) : FnOk P w K mg base CX0 2 f fd ["source", "events"] (spOf P w K m_l_label) :=
  fn_sim F sc_l_label fun cdv A outer s H E hr =>
  (sss_cons (ss_set 2 sc_l_label.nd (se_call [0] d_l_draw (hr.mono (by decide)) (sa_cons (se_name 0) (sa_cons se_int sa_nil))))
  (sss_cons (ss_if (st_eqT (hu64 hr) (se_name 2) se_int) (sss_one (ss_ret (se_tup (sa_cons se_str (sa_cons se_str sa_nil))))) sss_nil)
  (sss_cons (ss_if (SW.st (sw_or (st_lt (se_name 2) se_int) (sw_or1 (st_eqT (hu64 hr) (se_lenG (se_name 1) (by rfl) B.b_len) se_int)))) (sss_one (ss_ret (se_tup (sa_cons se_str (sa_cons se_str sa_nil))))) sss_nil)
  (sss_one (ss_ret (se_ix (hu9 hr) (se_name 1) (se_call [0] d_l_draw (hr.mono (by decide)) (sa_cons (se_name 0) (sa_cons (se_lenG (se_name 1) (by rfl) B.b_len) sa_nil)))))))))
theorem ok_l_steps {f : Addr} {fd : FuncData} (B : Bl mg) (d_l_label : Df P w K mg base 2 "_law_label" m_l_label) (d_l_draw : Df P w K mg base 1 "_law_draw" m_l_draw) (F : Fun K "_law_steps" "_law_steps" s_l_steps f fd) : FnOk P w K mg base CX0 3 f fd ["source", "events", "many"] (spOf P w K m_l_steps) :=
  fn_sim F sc_l_steps fun cdv A outer s H E hr =>
  (sss_cons (ss_set 3 sc_l_steps.nd (se_lst sa_nil))
  (sss_cons (ss_for PassesOwn.never rfl (si_rng2 se_int (se_name 2) (by rfl) B.b_range) (sg_name 4 sc_l_steps.nd) (sss_one (ss_expr (se_app (ms := [3]) (se_name 3) (se_tup (sa_cons (se_call [0, 4] d_l_draw (hr.mono (by decide)) (sa_cons (se_name 0) (sa_cons (se_name 4) sa_nil))) (sa_cons (se_call [0, 1] d_l_label (hr.mono (by decide)) (sa_cons (se_name 0) (sa_cons (se_name 1) sa_nil))) (sa_cons (se_name 4) sa_nil))))))))
  (sss_cons (ss_for PassesOwn.never rfl (si_rng1 (se_call [0] d_l_draw (hr.mono (by decide)) (sa_cons (se_name 0) (sa_cons (se_add (se_name 2) se_int) sa_nil))) (by rfl) B.b_range) (sg_name 4 sc_l_steps.nd) (sss_one (ss_expr (se_app (ms := [3]) (se_name 3) (se_tup (sa_cons (se_call [0, 2] d_l_draw (hr.mono (by decide)) (sa_cons (se_name 0) (sa_cons (se_name 2) sa_nil))) (sa_cons (se_call [0, 1] d_l_label (hr.mono (by decide)) (sa_cons (se_name 0) (sa_cons (se_name 1) sa_nil))) (sa_cons (se_call [0, 2] d_l_draw (hr.mono (by decide)) (sa_cons (se_name 0) (sa_cons (se_name 2) sa_nil))) sa_nil))))))))
  (sss_one (ss_ret (se_name 3))))))
theorem ok_l_met {f : Addr} {fd : FuncData} (B : Bl mg) (F : Fun K "_law_met" "_law_met" s_l_met f fd) : FnOk P w K mg base CX0 1 f fd ["steps"] (spOf P w K m_l_met) :=
  fn_sim F sc_l_met fun cdv A outer s H E hr =>
  (sss_cons (ss_set 1 sc_l_met.nd (se_lst (sa_cons se_int sa_nil)))
  (sss_cons (ss_for PassesOwn.never rfl (si_rng1 (se_add (se_lenG (se_name 0) (by rfl) B.b_len) se_int) (by rfl) B.b_range) (sg_name 2 sc_l_met.nd) (sss_one (ss_if (st_lt (se_name 2) (se_lenG (se_name 1) (by rfl) B.b_len)) (sss_one (ss_for PassesOwn.never rfl (si_seq (se_name 0)) (sg_name 3 sc_l_met.nd) (sss_one (ss_if (SW.st (sw_and (st_eqT (hu64 hr) (se_ix (hu9 hr) (se_name 3) se_int) (se_ix (hu9 hr) (se_name 1) (se_name 2))) (sw_and1 (st_notInT (hu65 hr) (se_ix (hu9 hr) (se_name 3) se_int) (se_name 1))))) (sss_one (ss_expr (se_app (ms := [1]) (se_name 1) (se_ix (hu9 hr) (se_name 3) se_int)))) sss_nil)))) sss_nil)))
  (sss_one (ss_ret (se_name 1)))))
theorem ok_l_graph {f : Addr} {fd : FuncData} (B : Bl mg) (d_l_met : Df P w K mg base 1 "_law_met" m_l_met) (d_l_draw : Df P w K mg base 1 "_law_draw" m_l_draw) (F : Fun K "_law_graph" "_law_graph" s_l_graph f fd) : FnOk P w K mg base CX0 2 f fd ["source", "doors", "steps"] (spOf P w K m_l_graph) :=
  fn_sim F sc_l_graph fun cdv A outer s H E hr =>
  (sss_cons (ss_set 3 sc_l_graph.nd (se_call [2] d_l_met (hr.mono (by decide)) (sa_cons (se_name 2) sa_nil)))
  (sss_cons (ss_for PassesOwn.never rfl (si_rng2 se_int (se_lenG (se_name 3) (by rfl) B.b_len) (by rfl) B.b_range) (sg_name 4 sc_l_graph.nd) (sss_cons (ss_set 7 sc_l_graph.nd (se_add (se_name 4) (se_call [0] d_l_draw (hr.mono (by decide)) (sa_cons (se_name 0) (sa_cons (se_sub (se_lenG (se_name 3) (by rfl) B.b_len) (se_name 4)) sa_nil)))))
  (sss_cons (ss_set 8 sc_l_graph.nd (se_ix (hu9 hr) (se_name 3) (se_name 4)))
  (sss_cons (ss_setIx [3] (hu9 hr) (se_ix (hu9 hr) (se_name 3) (se_name 7)) (se_name 3) (se_name 4))
  (sss_one (ss_setIx [3] (hu9 hr) (se_name 8) (se_name 3) (se_name 7)))))))
  (sss_cons (ss_set 5 sc_l_graph.nd (se_lst sa_nil))
  (sss_cons (ss_for PassesOwn.never rfl (si_seq (se_name 3)) (sg_name 6 sc_l_graph.nd) (sss_cons (ss_set 9 sc_l_graph.nd se_newD)
  (sss_cons (ss_for PassesOwn.never rfl (si_seq (se_name 2)) (sg_name 10 sc_l_graph.nd) (sss_one (ss_if (st_eqT (hu64 hr) (se_ix (hu9 hr) (se_name 10) se_int) (se_name 6)) (sss_one (ss_setIx [9] (hu9 hr) se_bl (se_name 9) (se_tup (sa_cons (se_ix (hu9 hr) (se_name 10) se_int) (sa_cons (se_index (hu65 hr) (se_name 3) (se_ix (hu9 hr) (se_name 10) se_int)) sa_nil))))) sss_nil)))
  (sss_one (ss_expr (se_app (ms := [5]) (se_name 5) (se_toTup (se_sorted rfl (hu68 hr) (se_name 9) (by rfl) B.b_sorted) (by rfl) B.b_tuple)))))))
  (sss_one (ss_ret (se_tup (sa_cons se_str (sa_cons (se_ix (hu9 hr) (se_name 1) se_int) (sa_cons (se_ix (hu9 hr) (se_name 1) se_int) (sa_cons (se_toTup (se_name 5) (by rfl) B.b_tuple) sa_nil)))))))))))
theorem okr_l_equal {f : Addr} {fd : FuncData} {k : Nat} (B : Bl mg) {sf : Fn} (ds : Df P w K mg base k "_law_equal" sf) (F : Fun K "_law_equal" "_law_equal" s_l_equal f fd) : FnOk P w K mg base CX0 (k + 1) f fd ["actual", "expected"] (spOf P w K (runDef 2 3 (b_l_equal sf))) :=
  fn_sim F sc_l_equal fun cdv A outer s H E hr =>
  (sss_cons (ss_if (st_isNT (se_name 1) se_non) (sss_one (ss_ret (se_isN (se_name 0) se_non))) sss_nil)
  (sss_cons (ss_if (st_tru (se_isi (se_name 1) (by decide +kernel) (by rfl) B.b_isinstance (by rfl) B.b_bool)) (sss_one (ss_ret (SB.se (sb_and (sb_val (se_isi (se_name 0) (by decide +kernel) (by rfl) B.b_isinstance (by rfl) B.b_bool)) (sb_one (sb_val (se_eq (hu64 hr) (se_name 0) (se_name 1)))))))) sss_nil)
  (sss_cons (ss_if (st_tru (se_isi (se_name 1) (by decide +kernel) (by rfl) B.b_isinstance (by rfl) B.b_int)) (sss_one (ss_ret (SB.se (sb_and (sb_val (se_isi (se_name 0) (by decide +kernel) (by rfl) B.b_isinstance (by rfl) B.b_int)) (sb_and (sb_not (sb_val (se_isi (se_name 0) (by decide +kernel) (by rfl) B.b_isinstance (by rfl) B.b_bool))) (sb_one (sb_val (se_eq (hu64 hr) (se_name 0) (se_name 1))))))))) sss_nil)
  (sss_cons (ss_if (st_tru (se_isi (se_name 1) (by decide +kernel) (by rfl) B.b_isinstance (by rfl) B.b_str)) (sss_one (ss_ret (SB.se (sb_and (sb_val (se_isi (se_name 0) (by decide +kernel) (by rfl) B.b_isinstance (by rfl) B.b_str)) (sb_one (sb_val (se_eq (hu64 hr) (se_name 0) (se_name 1)))))))) sss_nil)
  (sss_cons (ss_if (SW.st (sw_or (st_not (st_tru (se_isi (se_name 0) (by decide +kernel) (by rfl) B.b_isinstance (by rfl) B.b_tuple))) (sw_or1 (st_neT (hu64 hr) (se_lenG (se_name 0) (by rfl) B.b_len) (se_lenG (se_name 1) (by rfl) B.b_len))))) (sss_one (ss_ret se_bl)) sss_nil)
  (sss_cons (ss_for PassesOwn.never rfl (si_rng1 (se_lenG (se_name 1) (by rfl) B.b_len) (by rfl) B.b_range) (sg_name 2 sc_l_equal.nd) (sss_one (ss_if (st_not (st_tru (se_call [0, 1] ds hr (sa_cons (se_ix (hu9 hr) (se_name 0) (se_name 2)) (sa_cons (se_ix (hu9 hr) (se_name 1) (se_name 2)) sa_nil))))) (sss_one (ss_ret se_bl)) sss_nil)))
  (sss_one (ss_ret se_bl))))))))
theorem ok_l_equal {f : Addr} {fd : FuncData} (B : Bl mg) (F : Fun K "_law_equal" "_law_equal" s_l_equal f fd) (hm : mg "_law_equal" = some (.ref f)) (hb : Binds K fd ["actual", "expected"] []) : ∀ n, FnOk P w K mg base CX0 n f fd ["actual", "expected"] (spOf P w K (mr_l_equal n))
  | 0 => fnOk_none F sc_l_equal
  | n + 1 => okr_l_equal B ⟨⟨f, fd, _, ok_l_equal B F hm hb n, hm, F.kp, hb⟩⟩ F
theorem okr_l_plain {f : Addr} {fd : FuncData} {k : Nat} (B : Bl mg) {sf : Fn} (ds : Df P w K mg base k "_law_plain" sf) (F : Fun K "_law_plain" "_law_plain" s_l_plain f fd) : FnOk P w K mg base CX0 (k + 1) f fd ["value", "deep"] (spOf P w K (runDef 2 3 (b_l_plain sf))) :=
  fn_sim F sc_l_plain fun cdv A outer s H E hr =>
  (sss_cons (ss_if (SW.st (sw_or (st_isNT (se_name 0) se_non) (sw_or (st_tru (se_isi (se_name 0) (by decide +kernel) (by rfl) B.b_isinstance (by rfl) B.b_int)) (sw_or1 (st_tru (se_isi (se_name 0) (by decide +kernel) (by rfl) B.b_isinstance (by rfl) B.b_str)))))) (sss_one (ss_ret se_bl)) sss_nil)
  (sss_cons (ss_if (SW.st (sw_or (st_not (st_tru (se_isi (se_name 0) (by decide +kernel) (by rfl) B.b_isinstance (by rfl) B.b_tuple))) (sw_or1 (st_eqT (hu64 hr) (se_name 1) se_int)))) (sss_one (ss_ret se_bl)) sss_nil)
  (sss_cons (ss_for PassesOwn.never rfl (si_seq (se_name 0)) (sg_name 2 sc_l_plain.nd) (sss_one (ss_if (st_not (st_tru (se_call [2] ds hr (sa_cons (se_name 2) (sa_cons (se_sub (se_name 1) se_int) sa_nil))))) (sss_one (ss_ret se_bl)) sss_nil)))
  (sss_one (ss_ret se_bl)))))
theorem ok_l_plain {f : Addr} {fd : FuncData} (B : Bl mg) (F : Fun K "_law_plain" "_law_plain" s_l_plain f fd) (hm : mg "_law_plain" = some (.ref f)) (hb : Binds K fd ["value", "deep"] []) : ∀ n, FnOk P w K mg base CX0 n f fd ["value", "deep"] (spOf P w K (mr_l_plain n))
  | 0 => fnOk_none F sc_l_plain
  | n + 1 => okr_l_plain B ⟨⟨f, fd, _, ok_l_plain B F hm hb n, hm, F.kp, hb⟩⟩ F
theorem ok_l_course {f : Addr} {fd : FuncData} (B : Bl mg) (F : Fun K "_law_course" "_law_course" s_l_course f fd) : FnOk P w K mg base CX0 1 f fd ["rows", "offers", "picks"] (spOf P w K m_l_course) :=
  fn_sim F sc_l_course fun cdv A outer s H E hr =>
  (sss_cons (ss_set 3 sc_l_course.nd (se_lst sa_nil))
  (sss_cons (ss_set 4 sc_l_course.nd se_int)
  (sss_cons (ss_set 5 sc_l_course.nd se_int)
  (sss_cons (ss_for PassesOwn.never rfl (si_seq (se_name 2)) (sg_name 6 sc_l_course.nd) (sss_cons (ss_if (st_eqT (hu64 hr) (se_name 5) (se_lenG (se_name 1) (by rfl) B.b_len)) (sss_one ss_break) sss_nil)
  (sss_cons (ss_setLc 7 [("step", 8)] rfl sc_l_course.nd (si_seq (se_ix (hu9 hr) (se_name 0) (se_name 4))) (blkOk_by (own := [("step", 8)]) (N := ["rows", "offers", "picks", "told", "state", "at", "pick", "free", "step"]) (sc := defScope s_l_course) (by decide +kernel)) (fun _ _ _ _ _ => (sg_name 8 sc_l_course.nd)) (fun _ _ _ _ _ => (sts_one (SW.st (sw_or (st_eqT (hu64 hr) (se_ix (hu9 hr) (se_ix (hu9 hr) (se_name 8) se_int) se_int) se_str) (sw_or1 (st_inT (hu65 hr) (se_ix (hu9 hr) (se_name 8) se_int) (se_ix (hu9 hr) (se_name 1) (se_name 5)))))))) (fun _ _ _ _ _ => (se_name 8)) (by rfl) (by rfl) (sw_true rfl rfl rfl (by decide +kernel)))
  (sss_cons (ss_if (st_eqT (hu64 hr) (se_lenG (se_name 7) (by rfl) B.b_len) se_int) (sss_one ss_break) sss_nil)
  (sss_cons (ss_set 8 sc_l_course.nd (se_ix (hu9 hr) (se_name 7) (se_mod (se_toInt (se_name 6) (by rfl) B.b_int) (se_lenG (se_name 7) (by rfl) B.b_len))))
  (sss_cons (ss_expr (se_app (ms := [3]) (se_name 3) (se_name 8)))
  (sss_cons (ss_set 4 sc_l_course.nd (se_ix (hu9 hr) (se_name 8) se_int))
  (sss_one (ss_if (st_neT (hu64 hr) (se_ix (hu9 hr) (se_ix (hu9 hr) (se_name 8) se_int) se_int) se_str) (sss_one (ss_set 5 sc_l_course.nd (se_add (se_name 5) se_int))) sss_nil)))))))))
  (sss_one (ss_ret (se_toTup (se_name 3) (by rfl) B.b_tuple)))))))
theorem ok_l_offers {f : Addr} {fd : FuncData} (B : Bl mg) (d_l_draw : Df P w K mg base 1 "_law_draw" m_l_draw) (F : Fun K "_law_offers" "_law_offers" s_l_offers f fd) : FnOk P w K mg base CX0 2 f fd ["source", "events"] (spOf P w K m_l_offers) :=
  fn_sim F sc_l_offers fun cdv A outer s H E hr =>
  (sss_cons (ss_set 2 sc_l_offers.nd (se_lst sa_nil))
  (sss_cons (ss_set 3 sc_l_offers.nd (se_eq (hu64 hr) (se_call [0] d_l_draw (hr.mono (by decide)) (sa_cons (se_name 0) (sa_cons se_int sa_nil))) se_int))
  (sss_cons (ss_for PassesOwn.never rfl (si_rng1 (se_call [0] d_l_draw (hr.mono (by decide)) (sa_cons (se_name 0) (sa_cons se_int sa_nil))) (by rfl) B.b_range) (sg_name 4 sc_l_offers.nd) (sss_one (ss_expr (se_app (ms := [2]) (se_name 2) (se_toTup (se_lc [("event", 5)] rfl sc_l_offers.nd (si_seq (se_name 1)) (blkOk_by (own := [("event", 5)]) (N := ["source", "events", "offers", "whole", "k", "event"]) (sc := defScope s_l_offers) (by decide +kernel)) (fun _ _ _ _ _ => (sg_name 5 sc_l_offers.nd)) (fun _ _ _ _ _ => (sts_one (SW.st (sw_or (st_tru (se_name 3)) (sw_or1 (st_gt (se_call [0] d_l_draw (hr.mono (by decide)) (sa_cons (se_name 0) (sa_cons se_int sa_nil))) se_int)))))) (fun _ _ _ _ _ => (se_name 5))) (by rfl) B.b_tuple)))))
  (sss_one (ss_ret (se_name 2))))))
theorem ok_l_pick {f : Addr} {fd : FuncData} (B : Bl mg) (d_l_draw : Df P w K mg base 1 "_law_draw" m_l_draw) (F : Fun K "_law_pick" "_law_pick" s_l_pick f fd) : FnOk P w K mg base CX0 2 f fd ["source"] (spOf P w K m_l_pick) :=
  fn_sim F sc_l_pick fun cdv A outer s H E hr =>
  (sss_cons (ss_if (st_eqT (hu64 hr) (se_call [0] d_l_draw (hr.mono (by decide)) (sa_cons (se_name 0) (sa_cons se_int sa_nil))) se_int) (sss_cons (ss_set 1 sc_l_pick.nd (se_ix (hu9 hr) (se_lst (sa_cons se_int (sa_cons (se_pow se_int se_int) (sa_cons (se_pow se_int se_int) sa_nil)))) (se_call [0] d_l_draw (hr.mono (by decide)) (sa_cons (se_name 0) (sa_cons se_int sa_nil)))))
  (sss_one (ss_ret (se_add (se_mul (se_call [0] d_l_draw (hr.mono (by decide)) (sa_cons (se_name 0) (sa_cons se_int sa_nil))) (se_name 1)) (se_call [0] d_l_draw (hr.mono (by decide)) (sa_cons (se_name 0) (sa_cons se_int sa_nil))))))) sss_nil)
  (sss_one (ss_ret (se_call [0] d_l_draw (hr.mono (by decide)) (sa_cons (se_name 0) (sa_cons se_int sa_nil))))))
theorem ok_l_ran {f : Addr} {fd : FuncData} (B : Bl mg) (d_l_offers : Df P w K mg base 2 "_law_offers" m_l_offers) (d_l_draw : Df P w K mg base 1 "_law_draw" m_l_draw) (d_l_pick : Df P w K mg base 2 "_law_pick" m_l_pick) (d_l_course : Df P w K mg base 1 "_law_course" m_l_course) (d_run : Df P w K mg base 2 "run" m_run) (d_l_equal : Df P w K mg base 7 "_law_equal" m_l_equal) (d_after : Df P w K mg base 2 "after" m_after) (dk_run_0 : DfK P w K mg base 2 "run" ["picks", "offers"] 1 2 [0, 2, 1] m_run) (F : Fun K "_law_ran" "_law_ran" s_l_ran f fd) : FnOk P w K mg base CX0 8 f fd ["extra", "graph", "rows", "events"] (spOf P w K m_l_ran) :=
  fn_sim F sc_l_ran fun cdv A outer s H E hr =>
  (sss_cons (ss_set 4 sc_l_ran.nd (se_call [0, 3] d_l_offers (hr.mono (by decide)) (sa_cons (se_name 0) (sa_cons (se_name 3) sa_nil))))
  (sss_cons (ss_setLc 5 [("k", 13)] rfl sc_l_ran.nd (si_rng1 (se_call [0] d_l_draw (hr.mono (by decide)) (sa_cons (se_name 0) (sa_cons se_int sa_nil))) (by rfl) B.b_range) (blkOk_by (own := [("k", 13)]) (N := ["extra", "graph", "rows", "events", "offers", "picks", "due", "handed", "taken", "told", "word", "last", "led", "k", "step"]) (sc := defScope s_l_ran) (by decide +kernel)) (fun _ _ _ _ _ => (sg_name 13 sc_l_ran.nd)) (fun _ _ _ _ _ => sts_nil) (fun _ _ _ _ _ => (se_call [0] d_l_pick (hr.mono (by decide)) (sa_cons (se_name 0) sa_nil))) (by rfl) (by rfl) (sw_true rfl rfl rfl (by decide +kernel)))
  (sss_cons (ss_set 6 sc_l_ran.nd (se_call [1, 4, 5] d_l_course (hr.mono (by decide)) (sa_cons (se_ix (hu9 hr) (se_name 1) se_int) (sa_cons (se_name 4) (sa_cons (se_name 5) sa_nil)))))
  (sss_cons (ss_set 7 sc_l_ran.nd (se_listG rfl (se_name 4) (by rfl) B.b_list))
  (sss_cons (ss_set 8 sc_l_ran.nd (se_listG rfl (se_name 5) (by rfl) B.b_list))
  (sss_cons (ss_set 9 sc_l_ran.nd (se_call [2, 7, 8] d_run (hr.mono (by decide)) (sa_cons (se_name 2) (sa_cons (se_name 7) (sa_cons (se_name 8) sa_nil)))))
  (sss_cons (ss_if (SW.st (sw_or (st_neT (hu64 hr) (se_name 7) (se_name 4)) (sw_or (st_neT (hu64 hr) (se_name 8) (se_name 5)) (sw_or1 (st_not (st_tru (se_call [6, 9] d_l_equal (hr.mono (by decide)) (sa_cons (se_name 9) (sa_cons (se_name 6) sa_nil))))))))) (sss_one (ss_ret se_bl)) sss_nil)
  (sss_cons (ss_if (st_not (st_tru (se_call [6] d_l_equal (hr.mono (by decide)) (sa_cons (se_callK1 [2] dk_run_0 (hr.mono (by decide)) (se_name 2) (sk_cons (se_toTup (se_name 5) (by rfl) B.b_tuple) (sk_cons (se_toTup (se_name 4) (by rfl) B.b_tuple) sk_nil))) (sa_cons (se_name 6) sa_nil))))) (sss_one (ss_ret se_bl)) sss_nil)
  (sss_cons (ss_set 10 sc_l_ran.nd (se_toTup (se_lc [("step", 14)] rfl sc_l_ran.nd (si_seq (se_name 6)) (blkOk_by (own := [("step", 14)]) (N := ["extra", "graph", "rows", "events", "offers", "picks", "due", "handed", "taken", "told", "word", "last", "led", "k", "step"]) (sc := defScope s_l_ran) (by decide +kernel)) (fun _ _ _ _ _ => (sg_name 14 sc_l_ran.nd)) (fun _ _ _ _ _ => (sts_one (st_neT (hu64 hr) (se_ix (hu9 hr) (se_ix (hu9 hr) (se_name 14) se_int) se_int) se_str))) (fun _ _ _ _ _ => (se_ix (hu9 hr) (se_name 14) se_int))) (by rfl) B.b_tuple))
  (sss_cons (ss_set 11 sc_l_ran.nd se_int)
  (sss_cons (ss_if (st_gt (se_lenG (se_name 6) (by rfl) B.b_len) se_int) (sss_one (ss_set 11 sc_l_ran.nd (se_ix (hu9 hr) (se_ix (hu9 hr) (se_name 6) (se_sub (se_lenG (se_name 6) (by rfl) B.b_len) se_int)) se_int))) sss_nil)
  (sss_cons (ss_set 12 sc_l_ran.nd (se_call [1, 10] d_after (hr.mono (by decide)) (sa_cons (se_name 1) (sa_cons (se_name 10) sa_nil))))
  (sss_one (ss_ret (SB.se (sb_and (sb_val (se_isi (se_name 12) (by decide +kernel) (by rfl) B.b_isinstance (by rfl) B.b_tuple)) (sb_one (sb_val (se_in (hu65 hr) (se_name 11) (se_name 12))))))))))))))))))))
theorem ok_l_built {f : Addr} {fd : FuncData} (B : Bl mg) (d_l_doors : Df P w K mg base 3 "_law_doors" m_l_doors) (d_l_taken : Df P w K mg base 1 "_law_taken" m_l_taken) (d_l_graph : Df P w K mg base 2 "_law_graph" m_l_graph) (d_l_steps : Df P w K mg base 3 "_law_steps" m_l_steps) (d_l_draw : Df P w K mg base 1 "_law_draw" m_l_draw) (d_build : Df P w K mg base 1 "build" m_build) (d_l_plain : Df P w K mg base 7 "_law_plain" m_l_plain) (d_l_ran : Df P w K mg base 8 "_law_ran" m_l_ran) (F : Fun K "_law_built" "_law_built" s_l_built f fd) : FnOk P w K mg base CX0 9 f fd ["source", "extra"] (spOf P w K m_l_built) :=
  fn_sim F sc_l_built fun cdv A outer s H E hr =>
  (sss_cons (ss_set 2 sc_l_built.nd (se_call [0] d_l_doors (hr.mono (by decide)) (sa_cons (se_name 0) (sa_cons (se_call0 [] d_l_taken (hr.mono (by decide))) (sa_cons se_int sa_nil)))))
  (sss_cons (ss_set 3 sc_l_built.nd (se_call [0, 2] d_l_graph (hr.mono (by decide)) (sa_cons (se_name 0) (sa_cons (se_name 2) (sa_cons (se_call [0, 2] d_l_steps (hr.mono (by decide)) (sa_cons (se_name 0) (sa_cons (se_ix (hu9 hr) (se_name 2) se_int) (sa_cons (se_add se_int (se_call [0] d_l_draw (hr.mono (by decide)) (sa_cons (se_name 0) (sa_cons se_int sa_nil)))) sa_nil)))) sa_nil)))))
  (sss_cons (ss_set 4 sc_l_built.nd (se_call [3] d_build (hr.mono (by decide)) (sa_cons (se_name 3) sa_nil)))
  (sss_cons (ss_set 5 sc_l_built.nd (se_add (se_lenG (se_ix (hu9 hr) (se_name 3) se_int) (by rfl) B.b_len) (se_sum rfl (se_lc [("row", 6)] rfl sc_l_built.nd (si_seq (se_ix (hu9 hr) (se_name 3) se_int)) (blkOk_by (own := [("row", 6)]) (N := ["source", "extra", "doors", "graph", "rows", "parts", "row", "k"]) (sc := defScope s_l_built) (by decide +kernel)) (fun _ _ _ _ _ => (sg_name 6 sc_l_built.nd)) (fun _ _ _ _ _ => sts_nil) (fun _ _ _ _ _ => (se_lenG (se_name 6) (by rfl) B.b_len))) (by rfl) B.b_sum)))
  (sss_cons (ss_if (SW.st (sw_or (st_not (st_tru (se_isi (se_name 4) (by decide +kernel) (by rfl) B.b_isinstance (by rfl) B.b_tuple))) (sw_or (st_gt (se_lenG (se_name 4) (by rfl) B.b_len) (se_mul se_int (se_name 5))) (sw_or1 (st_not (st_tru (se_call [4] d_l_plain (hr.mono (by decide)) (sa_cons (se_name 4) (sa_cons se_int sa_nil))))))))) (sss_one (ss_ret se_bl)) sss_nil)
  (sss_cons (ss_for PassesOwn.never rfl (si_seq (se_name 4)) (sg_name 6 sc_l_built.nd) (sss_one (ss_if (st_not (st_tru (se_isi (se_name 6) (by decide +kernel) (by rfl) B.b_isinstance (by rfl) B.b_tuple))) (sss_one (ss_ret se_bl)) sss_nil)))
  (sss_cons (ss_for PassesOwn.never rfl (si_rng1 se_int (by rfl) B.b_range) (sg_name 7 sc_l_built.nd) (sss_one (ss_if (st_not (st_tru (se_call [1, 2, 3, 4] d_l_ran (hr.mono (by decide)) (sa_cons (se_name 1) (sa_cons (se_name 3) (sa_cons (se_name 4) (sa_cons (se_ix (hu9 hr) (se_name 2) se_int) sa_nil))))))) (sss_one (ss_ret se_bl)) sss_nil)))
  (sss_one (ss_ret se_bl)))))))))
theorem ok_law {f : Addr} {fd : FuncData} (B : Bl mg) (d_l_built : Df P w K mg base 9 "_law_built" m_l_built) (d_l_source : Df P w K mg base 1 "_law_source" m_l_source) (F : Fun K "law" "law" s_law f fd) : FnOk P w K mg base CX0 10 f fd ["script"] (spOf P w K m_law) :=
  fn_sim F sc_law fun cdv A outer s H E hr =>
  (sss_cons (ss_for PassesOwn.never rfl (si_rng1 se_int (by rfl) B.b_range) (sg_name 1 sc_law.nd) (sss_one (ss_if (st_not (st_tru (se_call [] d_l_built (hr.mono (by decide)) (sa_cons (se_call [0] d_l_source (hr.mono (by decide)) (sa_cons (se_name 0) (sa_cons (se_mul se_int (se_name 1)) sa_nil))) (sa_cons (se_call [0] d_l_source (hr.mono (by decide)) (sa_cons (se_name 0) (sa_cons (se_add (se_mul se_int (se_name 1)) se_int) sa_nil))) sa_nil))))) (sss_one (ss_ret se_bl)) sss_nil)))
  (sss_one (ss_ret se_bl)))
end
theorem all_mk {l : PySem.W.OpenLaw} {w : World} {K : PySem.W.Frag} {h : Heap} {mg : Str → Option Value} {fa f0 f1 f2 f3 f4 f5 f6 f7 f8 f9 f10 f11 f12 f13 f14 f15 f16 f17 f18 f19 f20 f21 : Addr} (X : K.In h) (G : h.Ns mainGlobals mg) (hfa : mg "law" = some (.ref fa))
    {od0 an0 od1 an1 od2 an2 od3 an3 od4 an4 od5 an5 od6 an6 od7 an7 od8 an8 od9 an9 od10 an10 od11 an11 od12 an12 od13 an13 od14 an14 od15 an15 od16 an16 od17 an17 od18 an18 od19 an19 od20 an20 od21 an21 : Option Addr} {sl0 sl1 sl2 sl3 sl4 sl5 sl6 sl7 sl8 sl9 sl10 sl11 sl12 sl13 sl14 sl15 sl16 sl17 sl18 sl19 sl20 sl21 : Array (Option Value)} {oc0 kV0 dc0 pm0 cd0 ct0 oc1 kV1 dc1 pm1 cd1 ct1 oc2 kV2 dc2 pm2 cd2 ct2 oc3 kV3 dc3 pm3 cd3 ct3 oc4 kV4 dc4 pm4 cd4 ct4 oc5 kV5 dc5 pm5 cd5 ct5 oc6 kV6 dc6 pm6 cd6 ct6 oc7 kV7 dc7 pm7 cd7 ct7 oc8 kV8 dc8 pm8 cd8 ct8 oc9 kV9 dc9 pm9 cd9 ct9 oc10 kV10 dc10 pm10 cd10 ct10 oc11 kV11 dc11 pm11 cd11 ct11 oc12 kV12 dc12 pm12 cd12 ct12 oc13 kV13 dc13 pm13 cd13 ct13 oc14 kV14 dc14 pm14 cd14 ct14 oc15 kV15 dc15 pm15 cd15 ct15 oc16 kV16 dc16 pm16 cd16 ct16 oc17 kV17 dc17 pm17 cd17 ct17 oc18 kV18 dc18 pm18 cd18 ct18 oc19 kV19 dc19 pm19 cd19 ct19 oc20 kV20 dc20 pm20 cd20 ct20 oc21 kV21 dc21 pm21 cd21 ct21 : Value}
    (a0 : PySem.W.nsIn K mainGlobals "build" = some (some (.ref f0))) (l0 : K.lookup f0 = some ⟨oc0, od0, .func (PySem.W.fnOf "build" "build" (defArgs s_build) (defBody s_build) (defScope s_build) .none kV0 dc0 pm0 an0 cd0 ct0), sl0⟩) (c0 : PySem.W.codeIn K cd0 "build" = true) (k0 : PySem.W.keepIn K (.ref f0) = true)
    (a1 : PySem.W.nsIn K mainGlobals "row_label" = some (some (.ref f1))) (l1 : K.lookup f1 = some ⟨oc1, od1, .func (PySem.W.fnOf "row_label" "row_label" (defArgs s_row_label) (defBody s_row_label) (defScope s_row_label) .none kV1 dc1 pm1 an1 cd1 ct1), sl1⟩) (c1 : PySem.W.codeIn K cd1 "row_label" = true) (k1 : PySem.W.keepIn K (.ref f1) = true)
    (a2 : PySem.W.nsIn K mainGlobals "run" = some (some (.ref f2))) (l2 : K.lookup f2 = some ⟨oc2, od2, .func (PySem.W.fnOf "run" "run" (defArgs s_run) (defBody s_run) (defScope s_run) .none kV2 dc2 pm2 an2 cd2 ct2), sl2⟩) (c2 : PySem.W.codeIn K cd2 "run" = true) (k2 : PySem.W.keepIn K (.ref f2) = true)
    (a3 : PySem.W.nsIn K mainGlobals "closure" = some (some (.ref f3))) (l3 : K.lookup f3 = some ⟨oc3, od3, .func (PySem.W.fnOf "closure" "closure" (defArgs s_closure) (defBody s_closure) (defScope s_closure) .none kV3 dc3 pm3 an3 cd3 ct3), sl3⟩) (c3 : PySem.W.codeIn K cd3 "closure" = true) (k3 : PySem.W.keepIn K (.ref f3) = true)
    (a4 : PySem.W.nsIn K mainGlobals "after" = some (some (.ref f4))) (l4 : K.lookup f4 = some ⟨oc4, od4, .func (PySem.W.fnOf "after" "after" (defArgs s_after) (defBody s_after) (defScope s_after) .none kV4 dc4 pm4 an4 cd4 ct4), sl4⟩) (c4 : PySem.W.codeIn K cd4 "after" = true) (k4 : PySem.W.keepIn K (.ref f4) = true)
    (a5 : PySem.W.nsIn K mainGlobals "_law_source" = some (some (.ref f5))) (l5 : K.lookup f5 = some ⟨oc5, od5, .func (PySem.W.fnOf "_law_source" "_law_source" (defArgs s_l_source) (defBody s_l_source) (defScope s_l_source) .none kV5 dc5 pm5 an5 cd5 ct5), sl5⟩) (c5 : PySem.W.codeIn K cd5 "_law_source" = true) (k5 : PySem.W.keepIn K (.ref f5) = true)
    (a6 : PySem.W.nsIn K mainGlobals "_law_draw" = some (some (.ref f6))) (l6 : K.lookup f6 = some ⟨oc6, od6, .func (PySem.W.fnOf "_law_draw" "_law_draw" (defArgs s_l_draw) (defBody s_l_draw) (defScope s_l_draw) .none kV6 dc6 pm6 an6 cd6 ct6), sl6⟩) (c6 : PySem.W.codeIn K cd6 "_law_draw" = true) (k6 : PySem.W.keepIn K (.ref f6) = true)
    (a7 : PySem.W.nsIn K mainGlobals "_law_taken" = some (some (.ref f7))) (l7 : K.lookup f7 = some ⟨oc7, od7, .func (PySem.W.fnOf "_law_taken" "_law_taken" (defArgs s_l_taken) (defBody s_l_taken) (defScope s_l_taken) .none kV7 dc7 pm7 an7 cd7 ct7), sl7⟩) (c7 : PySem.W.codeIn K cd7 "_law_taken" = true) (k7 : PySem.W.keepIn K (.ref f7) = true)
    (a8 : PySem.W.nsIn K mainGlobals "_law_fresh" = some (some (.ref f8))) (l8 : K.lookup f8 = some ⟨oc8, od8, .func (PySem.W.fnOf "_law_fresh" "_law_fresh" (defArgs s_l_fresh) (defBody s_l_fresh) (defScope s_l_fresh) .none kV8 dc8 pm8 an8 cd8 ct8), sl8⟩) (c8 : PySem.W.codeIn K cd8 "_law_fresh" = true) (k8 : PySem.W.keepIn K (.ref f8) = true)
    (a9 : PySem.W.nsIn K mainGlobals "_law_doors" = some (some (.ref f9))) (l9 : K.lookup f9 = some ⟨oc9, od9, .func (PySem.W.fnOf "_law_doors" "_law_doors" (defArgs s_l_doors) (defBody s_l_doors) (defScope s_l_doors) .none kV9 dc9 pm9 an9 cd9 ct9), sl9⟩) (c9 : PySem.W.codeIn K cd9 "_law_doors" = true) (k9 : PySem.W.keepIn K (.ref f9) = true)
    (a10 : PySem.W.nsIn K mainGlobals "_law_label" = some (some (.ref f10))) (l10 : K.lookup f10 = some ⟨oc10, od10, .func (PySem.W.fnOf "_law_label" "_law_label" (defArgs s_l_label) (defBody s_l_label) (defScope s_l_label) .none kV10 dc10 pm10 an10 cd10 ct10), sl10⟩) (c10 : PySem.W.codeIn K cd10 "_law_label" = true) (k10 : PySem.W.keepIn K (.ref f10) = true)
    (a11 : PySem.W.nsIn K mainGlobals "_law_steps" = some (some (.ref f11))) (l11 : K.lookup f11 = some ⟨oc11, od11, .func (PySem.W.fnOf "_law_steps" "_law_steps" (defArgs s_l_steps) (defBody s_l_steps) (defScope s_l_steps) .none kV11 dc11 pm11 an11 cd11 ct11), sl11⟩) (c11 : PySem.W.codeIn K cd11 "_law_steps" = true) (k11 : PySem.W.keepIn K (.ref f11) = true)
    (a12 : PySem.W.nsIn K mainGlobals "_law_met" = some (some (.ref f12))) (l12 : K.lookup f12 = some ⟨oc12, od12, .func (PySem.W.fnOf "_law_met" "_law_met" (defArgs s_l_met) (defBody s_l_met) (defScope s_l_met) .none kV12 dc12 pm12 an12 cd12 ct12), sl12⟩) (c12 : PySem.W.codeIn K cd12 "_law_met" = true) (k12 : PySem.W.keepIn K (.ref f12) = true)
    (a13 : PySem.W.nsIn K mainGlobals "_law_graph" = some (some (.ref f13))) (l13 : K.lookup f13 = some ⟨oc13, od13, .func (PySem.W.fnOf "_law_graph" "_law_graph" (defArgs s_l_graph) (defBody s_l_graph) (defScope s_l_graph) .none kV13 dc13 pm13 an13 cd13 ct13), sl13⟩) (c13 : PySem.W.codeIn K cd13 "_law_graph" = true) (k13 : PySem.W.keepIn K (.ref f13) = true)
    (a14 : PySem.W.nsIn K mainGlobals "_law_equal" = some (some (.ref f14))) (l14 : K.lookup f14 = some ⟨oc14, od14, .func (PySem.W.fnOf "_law_equal" "_law_equal" (defArgs s_l_equal) (defBody s_l_equal) (defScope s_l_equal) .none kV14 dc14 pm14 an14 cd14 ct14), sl14⟩) (c14 : PySem.W.codeIn K cd14 "_law_equal" = true) (k14 : PySem.W.keepIn K (.ref f14) = true)
    (a15 : PySem.W.nsIn K mainGlobals "_law_plain" = some (some (.ref f15))) (l15 : K.lookup f15 = some ⟨oc15, od15, .func (PySem.W.fnOf "_law_plain" "_law_plain" (defArgs s_l_plain) (defBody s_l_plain) (defScope s_l_plain) .none kV15 dc15 pm15 an15 cd15 ct15), sl15⟩) (c15 : PySem.W.codeIn K cd15 "_law_plain" = true) (k15 : PySem.W.keepIn K (.ref f15) = true)
    (a16 : PySem.W.nsIn K mainGlobals "_law_course" = some (some (.ref f16))) (l16 : K.lookup f16 = some ⟨oc16, od16, .func (PySem.W.fnOf "_law_course" "_law_course" (defArgs s_l_course) (defBody s_l_course) (defScope s_l_course) .none kV16 dc16 pm16 an16 cd16 ct16), sl16⟩) (c16 : PySem.W.codeIn K cd16 "_law_course" = true) (k16 : PySem.W.keepIn K (.ref f16) = true)
    (a17 : PySem.W.nsIn K mainGlobals "_law_offers" = some (some (.ref f17))) (l17 : K.lookup f17 = some ⟨oc17, od17, .func (PySem.W.fnOf "_law_offers" "_law_offers" (defArgs s_l_offers) (defBody s_l_offers) (defScope s_l_offers) .none kV17 dc17 pm17 an17 cd17 ct17), sl17⟩) (c17 : PySem.W.codeIn K cd17 "_law_offers" = true) (k17 : PySem.W.keepIn K (.ref f17) = true)
    (a18 : PySem.W.nsIn K mainGlobals "_law_pick" = some (some (.ref f18))) (l18 : K.lookup f18 = some ⟨oc18, od18, .func (PySem.W.fnOf "_law_pick" "_law_pick" (defArgs s_l_pick) (defBody s_l_pick) (defScope s_l_pick) .none kV18 dc18 pm18 an18 cd18 ct18), sl18⟩) (c18 : PySem.W.codeIn K cd18 "_law_pick" = true) (k18 : PySem.W.keepIn K (.ref f18) = true)
    (a19 : PySem.W.nsIn K mainGlobals "_law_ran" = some (some (.ref f19))) (l19 : K.lookup f19 = some ⟨oc19, od19, .func (PySem.W.fnOf "_law_ran" "_law_ran" (defArgs s_l_ran) (defBody s_l_ran) (defScope s_l_ran) .none kV19 dc19 pm19 an19 cd19 ct19), sl19⟩) (c19 : PySem.W.codeIn K cd19 "_law_ran" = true) (k19 : PySem.W.keepIn K (.ref f19) = true)
    (a20 : PySem.W.nsIn K mainGlobals "_law_built" = some (some (.ref f20))) (l20 : K.lookup f20 = some ⟨oc20, od20, .func (PySem.W.fnOf "_law_built" "_law_built" (defArgs s_l_built) (defBody s_l_built) (defScope s_l_built) .none kV20 dc20 pm20 an20 cd20 ct20), sl20⟩) (c20 : PySem.W.codeIn K cd20 "_law_built" = true) (k20 : PySem.W.keepIn K (.ref f20) = true)
    (a21 : PySem.W.nsIn K mainGlobals "law" = some (some (.ref f21))) (l21 : K.lookup f21 = some ⟨oc21, od21, .func (PySem.W.fnOf "law" "law" (defArgs s_law) (defBody s_law) (defScope s_law) .none kV21 dc21 pm21 an21 cd21 ct21), sl21⟩) (c21 : PySem.W.codeIn K cd21 "law" = true) (k21 : PySem.W.keepIn K (.ref f21) = true)
    (z_bool : PySem.W.nsIn K mainGlobals "bool" = some none) (z_enumerate : PySem.W.nsIn K mainGlobals "enumerate" = some none) (z_int : PySem.W.nsIn K mainGlobals "int" = some none) (z_isinstance : PySem.W.nsIn K mainGlobals "isinstance" = some none) (z_len : PySem.W.nsIn K mainGlobals "len" = some none) (z_list : PySem.W.nsIn K mainGlobals "list" = some none) (z_range : PySem.W.nsIn K mainGlobals "range" = some none) (z_sorted : PySem.W.nsIn K mainGlobals "sorted" = some none) (z_str : PySem.W.nsIn K mainGlobals "str" = some none) (z_sum : PySem.W.nsIn K mainGlobals "sum" = some none) (z_tuple : PySem.W.nsIn K mainGlobals "tuple" = some none) :
    ∃ fd : FuncData, (∀ (s : Shared) (v : Value), BindsTo s fd ⟨[v], []⟩ [("script", v)]) ∧ ∀ base : Heap, K.In base → base.Ns mainGlobals mg → FnOk l.prog w K mg base CX0 10 fa fd ["script"] (spOf l.prog w K m_law) := by
  have e := hfa.symm.trans (PySem.W.mg_of X G a21)
  cases e
  have B : Bl mg := ⟨PySem.W.mg_none_of X G z_bool, PySem.W.mg_none_of X G z_enumerate, PySem.W.mg_none_of X G z_int, PySem.W.mg_none_of X G z_isinstance, PySem.W.mg_none_of X G z_len, PySem.W.mg_none_of X G z_list, PySem.W.mg_none_of X G z_range, PySem.W.mg_none_of X G z_sorted, PySem.W.mg_none_of X G z_str, PySem.W.mg_none_of X G z_sum, PySem.W.mg_none_of X G z_tuple⟩
  have F0 := fun_mk (st := s_build) l0 c0 k0
  have b0 := F0.binds (ps := ["graph"]) fun _ _ _ _ _ _ us hl => match us, hl with | [_], _ => rfl
  have F1 := fun_mk (st := s_row_label) l1 c1 k1
  have b1 := F1.binds (ps := ["row"]) fun _ _ _ _ _ _ us hl => match us, hl with | [_], _ => rfl
  have F2 := fun_mk (st := s_run) l2 c2 k2
  have b2 := F2.binds (ps := ["rows", "offers", "picks"]) fun _ _ _ _ _ _ us hl => match us, hl with | [_, _, _], _ => rfl
  have F3 := fun_mk (st := s_closure) l3 c3 k3
  have b3 := F3.binds (ps := ["graph", "states"]) fun _ _ _ _ _ _ us hl => match us, hl with | [_, _], _ => rfl
  have F4 := fun_mk (st := s_after) l4 c4 k4
  have b4 := F4.binds (ps := ["graph", "word"]) fun _ _ _ _ _ _ us hl => match us, hl with | [_, _], _ => rfl
  have F5 := fun_mk (st := s_l_source) l5 c5 k5
  have b5 := F5.binds (ps := ["script", "place"]) fun _ _ _ _ _ _ us hl => match us, hl with | [_, _], _ => rfl
  have F6 := fun_mk (st := s_l_draw) l6 c6 k6
  have b6 := F6.binds (ps := ["source", "many"]) fun _ _ _ _ _ _ us hl => match us, hl with | [_, _], _ => rfl
  have F7 := fun_mk (st := s_l_taken) l7 c7 k7
  have b7 := F7.binds (ps := []) fun _ _ _ _ _ _ us hl => match us, hl with | [], _ => rfl
  have F8 := fun_mk (st := s_l_fresh) l8 c8 k8
  have b8 := F8.binds (ps := ["source", "taken", "great"]) fun _ _ _ _ _ _ us hl => match us, hl with | [_, _, _], _ => rfl
  have F9 := fun_mk (st := s_l_doors) l9 c9 k9
  have b9 := F9.binds (ps := ["source", "taken", "most"]) fun _ _ _ _ _ _ us hl => match us, hl with | [_, _, _], _ => rfl
  have F10 := fun_mk (st := s_l_label) l10 c10 k10
  have b10 := F10.binds (ps := ["source", "events"]) fun _ _ _ _ _ _ us hl => match us, hl with | [_, _], _ => rfl
  have F11 := fun_mk (st := s_l_steps) l11 c11 k11
  have b11 := F11.binds (ps := ["source", "events", "many"]) fun _ _ _ _ _ _ us hl => match us, hl with | [_, _, _], _ => rfl
  have F12 := fun_mk (st := s_l_met) l12 c12 k12
  have b12 := F12.binds (ps := ["steps"]) fun _ _ _ _ _ _ us hl => match us, hl with | [_], _ => rfl
  have F13 := fun_mk (st := s_l_graph) l13 c13 k13
  have b13 := F13.binds (ps := ["source", "doors", "steps"]) fun _ _ _ _ _ _ us hl => match us, hl with | [_, _, _], _ => rfl
  have F14 := fun_mk (st := s_l_equal) l14 c14 k14
  have b14 := F14.binds (ps := ["actual", "expected"]) fun _ _ _ _ _ _ us hl => match us, hl with | [_, _], _ => rfl
  have F15 := fun_mk (st := s_l_plain) l15 c15 k15
  have b15 := F15.binds (ps := ["value", "deep"]) fun _ _ _ _ _ _ us hl => match us, hl with | [_, _], _ => rfl
  have F16 := fun_mk (st := s_l_course) l16 c16 k16
  have b16 := F16.binds (ps := ["rows", "offers", "picks"]) fun _ _ _ _ _ _ us hl => match us, hl with | [_, _, _], _ => rfl
  have F17 := fun_mk (st := s_l_offers) l17 c17 k17
  have b17 := F17.binds (ps := ["source", "events"]) fun _ _ _ _ _ _ us hl => match us, hl with | [_, _], _ => rfl
  have F18 := fun_mk (st := s_l_pick) l18 c18 k18
  have b18 := F18.binds (ps := ["source"]) fun _ _ _ _ _ _ us hl => match us, hl with | [_], _ => rfl
  have F19 := fun_mk (st := s_l_ran) l19 c19 k19
  have b19 := F19.binds (ps := ["extra", "graph", "rows", "events"]) fun _ _ _ _ _ _ us hl => match us, hl with | [_, _, _, _], _ => rfl
  have F20 := fun_mk (st := s_l_built) l20 c20 k20
  have b20 := F20.binds (ps := ["source", "extra"]) fun _ _ _ _ _ _ us hl => match us, hl with | [_, _], _ => rfl
  have F21 := fun_mk (st := s_law) l21 c21 k21
  have b21 := F21.binds (ps := ["script"]) fun _ _ _ _ _ _ us hl => match us, hl with | [_], _ => rfl
  refine ⟨PySem.W.fnOf "law" "law" (defArgs s_law) (defBody s_law) (defScope s_law) .none kV21 dc21 pm21 an21 cd21 ct21, fun s v => .of_eq rfl, fun base _ _ => ?_⟩
  have d_build : Df l.prog w K mg base 1 "build" m_build := ⟨⟨_, _, _, ok_build B F0, PySem.W.mg_of X G a0, F0.kp, b0⟩⟩
  have d_row_label : Df l.prog w K mg base 1 "row_label" m_row_label := ⟨⟨_, _, _, ok_row_label B F1, PySem.W.mg_of X G a1, F1.kp, b1⟩⟩
  have d_run : Df l.prog w K mg base 2 "run" m_run := ⟨⟨_, _, _, ok_run B d_row_label F2, PySem.W.mg_of X G a2, F2.kp, b2⟩⟩
  have dk_run_0 : DfK l.prog w K mg base 2 "run" ["picks", "offers"] 1 2 [0, 2, 1] m_run := ⟨⟨_, _, _, ok_run B d_row_label F2, PySem.W.mg_of X G a2, F2.kp, kBinds_all (by decide) fun us ws h1 h2 => match us, ws, h1, h2 with | [_], [_, _], _, _ => rfl⟩, by decide⟩
  have d_closure : Df l.prog w K mg base 1 "closure" m_closure := ⟨⟨_, _, _, ok_closure B F3, PySem.W.mg_of X G a3, F3.kp, b3⟩⟩
  have d_after : Df l.prog w K mg base 2 "after" m_after := ⟨⟨_, _, _, ok_after B d_closure F4, PySem.W.mg_of X G a4, F4.kp, b4⟩⟩
  have d_l_source : Df l.prog w K mg base 1 "_law_source" m_l_source := ⟨⟨_, _, _, ok_l_source B F5, PySem.W.mg_of X G a5, F5.kp, b5⟩⟩
  have d_l_draw : Df l.prog w K mg base 1 "_law_draw" m_l_draw := ⟨⟨_, _, _, ok_l_draw B F6, PySem.W.mg_of X G a6, F6.kp, b6⟩⟩
  have d_l_taken : Df l.prog w K mg base 1 "_law_taken" m_l_taken := ⟨⟨_, _, _, ok_l_taken B F7, PySem.W.mg_of X G a7, F7.kp, b7⟩⟩
  have d_l_fresh : Df l.prog w K mg base 2 "_law_fresh" m_l_fresh := ⟨⟨_, _, _, ok_l_fresh B d_l_draw F8, PySem.W.mg_of X G a8, F8.kp, b8⟩⟩
  have d_l_doors : Df l.prog w K mg base 3 "_law_doors" m_l_doors := ⟨⟨_, _, _, ok_l_doors B d_l_draw d_l_fresh F9, PySem.W.mg_of X G a9, F9.kp, b9⟩⟩
  have d_l_label : Df l.prog w K mg base 2 "_law_label" m_l_label := ⟨⟨_, _, _, ok_l_label B d_l_draw F10, PySem.W.mg_of X G a10, F10.kp, b10⟩⟩
  have d_l_steps : Df l.prog w K mg base 3 "_law_steps" m_l_steps := ⟨⟨_, _, _, ok_l_steps B d_l_label d_l_draw F11, PySem.W.mg_of X G a11, F11.kp, b11⟩⟩
  have d_l_met : Df l.prog w K mg base 1 "_law_met" m_l_met := ⟨⟨_, _, _, ok_l_met B F12, PySem.W.mg_of X G a12, F12.kp, b12⟩⟩
  have d_l_graph : Df l.prog w K mg base 2 "_law_graph" m_l_graph := ⟨⟨_, _, _, ok_l_graph B d_l_met d_l_draw F13, PySem.W.mg_of X G a13, F13.kp, b13⟩⟩
  have d_l_equal : Df l.prog w K mg base 7 "_law_equal" m_l_equal := ⟨⟨_, _, _, (ok_l_equal B F14 (PySem.W.mg_of X G a14) b14 6).mono (by decide), PySem.W.mg_of X G a14, F14.kp, b14⟩⟩
  have d_l_plain : Df l.prog w K mg base 7 "_law_plain" m_l_plain := ⟨⟨_, _, _, (ok_l_plain B F15 (PySem.W.mg_of X G a15) b15 6).mono (by decide), PySem.W.mg_of X G a15, F15.kp, b15⟩⟩
  have d_l_course : Df l.prog w K mg base 1 "_law_course" m_l_course := ⟨⟨_, _, _, ok_l_course B F16, PySem.W.mg_of X G a16, F16.kp, b16⟩⟩
  have d_l_offers : Df l.prog w K mg base 2 "_law_offers" m_l_offers := ⟨⟨_, _, _, ok_l_offers B d_l_draw F17, PySem.W.mg_of X G a17, F17.kp, b17⟩⟩
  have d_l_pick : Df l.prog w K mg base 2 "_law_pick" m_l_pick := ⟨⟨_, _, _, ok_l_pick B d_l_draw F18, PySem.W.mg_of X G a18, F18.kp, b18⟩⟩
  have d_l_ran : Df l.prog w K mg base 8 "_law_ran" m_l_ran := ⟨⟨_, _, _, ok_l_ran B d_l_offers d_l_draw d_l_pick d_l_course d_run d_l_equal d_after dk_run_0 F19, PySem.W.mg_of X G a19, F19.kp, b19⟩⟩
  have d_l_built : Df l.prog w K mg base 9 "_law_built" m_l_built := ⟨⟨_, _, _, ok_l_built B d_l_doors d_l_taken d_l_graph d_l_steps d_l_draw d_build d_l_plain d_l_ran F20, PySem.W.mg_of X G a20, F20.kp, b20⟩⟩
  exact ok_law (w := w) (base := base) B d_l_built d_l_source F21
end K35
set_option Elab.async false
set_option linter.all false
set_option maxRecDepth 100000
set_option maxHeartbeats 4000000
namespace K35
open PySem PySem.Spec PyProof.Rows L2 G
def Src (d : D) : Prop := ∃ a b c : Int, d = .lst true [.int a, .int b, .int c] ∧ 0 ≤ a ∧ a < 2147483647 ∧ 0 ≤ b ∧ 0 ≤ c ∧ c < 100000
theorem log2_lt {x : Int} {n : Nat} (h : x.natAbs < 2 ^ n) (hn : 0 < n) : x.natAbs.log2 < n := by
  by_cases h0 : x.natAbs = 0
  · rw [h0]; simpa using hn
  · exact (Nat.log2_lt h0).mpr h
theorem draw_ok {S : D} {n : Int} (h : Src S) (h1 : 1 ≤ n) (h2 : n < 4000000000) : ∃ r S', Src S' ∧ 0 ≤ r ∧ r < n ∧ m_l_draw [S, .int n] = some (.int r, [S', .int n]) := by
  obtain ⟨a, b, c, rfl, a0, a1, b0, c0, c1⟩ := h
  have hn : 0 < n := by omega
  have hd : CDivW b n := ⟨hn, Nat.lt_trans (log2_lt (n := 32) (by omega) (by decide)) (by decide)⟩
  have hm : CMulW a 48271 := by
    have := log2_lt (x := a) (n := 31) (by omega) (by decide)
    show a.natAbs.log2 + (48271 : Int).natAbs.log2 < 1000000
    have h2 : (48271 : Int).natAbs.log2 = 15 := by decide +kernel
    omega
  by_cases hb : 0 < b
  · refine ⟨b % n, .lst true [.int a, .int (b / n), .int c], ⟨a, b / n, c, rfl, a0, a1, Int.ediv_nonneg b0 (by omega), c0, c1⟩, Int.emod_nonneg _ (by omega), Int.emod_lt_of_pos _ hn, ?_⟩
    simp [m_l_draw, runDef, b_l_draw, mSeq, mIf, mTest, mTru, mGt, mLt, mLe, mGe, mEq, mNe, mIsN, mNotN, mIn, mNotIn, mOp, maCons, maNil, mIx, kIx, mN, mC, mSet, mAsgIx, mRet, mRetN, mDrop, mF1, kf, ko, gets, owns, R.get, R.own, R.ok, R.kid, D.kids, D.at, D.pure, D.pureL, dAt, Sl.d?, ixD, ixN, fCmp, fLt, fLe, fGt, fGe, fMod, fDiv, fMul, fAdd, fSub, fInt, fAbs, fSetIx, kCh, enPut, Sl.put, D.put, D.setKid, argsOnly, outs, mMod, mDiv, mMul, mAdd, mSub, mSkip, mBrk, mCnt, mAnd, mOr, mNot, mVal, mIfE, mCall, kCall, imps, wbs, mTup, fTup, mLst, fLst, fLenG, fLen, fLenD, mPow, fPow, fIsN, fNotN, D.isNon, D.isHole, fIn, fNotIn, D.truth, mUnp, gN, gT, gsCons, gsNil, mApp, mPop, mMeth, maConsP, tyP, tyD, fL, lApp, lPop, sizeLine_eq, hb, hn, hd, hm]
  · have hb0 : b = 0 := by omega
    subst hb0
    have m1 : 0 ≤ (a * 48271 + c) % 2147483647 := Int.emod_nonneg _ (by decide)
    have m2 : (a * 48271 + c) % 2147483647 < 2147483647 := Int.emod_lt_of_pos _ (by decide)
    generalize hx : (a * 48271 + c) % 2147483647 = x at m1 m2
    have hm2 : CMulW x 69621 := by
      have := log2_lt (x := x) (n := 31) (by omega) (by decide)
      show x.natAbs.log2 + (69621 : Int).natAbs.log2 < 1000000
      have h2 : (69621 : Int).natAbs.log2 = 16 := by decide +kernel
      omega
    have m3 : 0 ≤ (x * 69621 + 40692) % 2147483629 := Int.emod_nonneg _ (by decide)
    have m4 : (x * 69621 + 40692) % 2147483629 < 2147483629 := Int.emod_lt_of_pos _ (by decide)
    generalize hy : (x * 69621 + 40692) % 2147483629 = y at m3 m4
    have hd2 : CDivW y 173 := ⟨by decide, by decide +kernel⟩
    refine ⟨y / 173 % n, .lst true [.int y, .int 0, .int c], ⟨y, 0, c, rfl, m3, by omega, by decide, c0, c1⟩, Int.emod_nonneg _ (by omega), Int.emod_lt_of_pos _ hn, ?_⟩
    simp [m_l_draw, runDef, b_l_draw, mSeq, mIf, mTest, mTru, mGt, mLt, mLe, mGe, mEq, mNe, mIsN, mNotN, mIn, mNotIn, mOp, maCons, maNil, mIx, kIx, mN, mC, mSet, mAsgIx, mRet, mRetN, mDrop, mF1, kf, ko, gets, owns, R.get, R.own, R.ok, R.kid, D.kids, D.at, D.pure, D.pureL, dAt, Sl.d?, ixD, ixN, fCmp, fLt, fLe, fGt, fGe, fMod, fDiv, fMul, fAdd, fSub, fInt, fAbs, fSetIx, kCh, enPut, Sl.put, D.put, D.setKid, argsOnly, outs, mMod, mDiv, mMul, mAdd, mSub, mSkip, mBrk, mCnt, mAnd, mOr, mNot, mVal, mIfE, mCall, kCall, imps, wbs, mTup, fTup, mLst, fLst, fLenG, fLen, fLenD, mPow, fPow, fIsN, fNotN, D.isNon, D.isHole, fIn, fNotIn, D.truth, mUnp, gN, gT, gsCons, gsNil, mApp, mPop, mMeth, maConsP, tyP, tyD, fL, lApp, lPop, sizeLine_eq, hn, hm, hm2, hd2, hx, hy]
theorem mulW {i j : Int} (h1 : i.natAbs < 2 ^ 64) (h2 : j.natAbs < 2 ^ 64) : CMulW i j := by
  have a := log2_lt h1 (by decide)
  have b := log2_lt h2 (by decide)
  show i.natAbs.log2 + j.natAbs.log2 < 1000000
  omega
theorem source_ok (ns : List Int) (j : Nat) (h1 : j < 100) : ∃ S, Src S ∧ m_l_source [.lst false (ns.map D.int), .int j] = some (S, [.lst false (ns.map D.int), .int j]) := by
  have w1 : CMulW 104729 j := mulW (by decide) (by omega)
  have w2 : CMulW 7 j := mulW (by decide) (by omega)
  have w3 : CMulW 2 j := mulW (by decide) (by omega)
  have e18 : ((10 : Int) ^ 18) = 1000000000000000000 := by decide
  have pw : (10 : Int).natAbs < 2 ^ 64 := by decide
  have q : ∀ cell : Int, 0 ≤ (cell + 7 * j) % 2147483629 ∧ (cell + 7 * j) % 2147483629 < 2147483647 := fun cell => ⟨Int.emod_nonneg _ (by decide), Int.lt_trans (Int.emod_lt_of_pos _ (by decide)) (by decide)⟩
  by_cases hp : j < ns.length
  · have hg : ns[j]? = some ns[j] := List.getElem?_eq_getElem hp
    by_cases hc : 1000000000000000000 ≤ ns[j]
    · refine ⟨.lst true [.int ((ns[j] + 7 * j) % 2147483629), .int (ns[j] - 1000000000000000000), .int (16807 + 2 * j)], ⟨_, _, _, rfl, (q _).1, (q _).2, by omega, by omega, by omega⟩, ?_⟩
      simp [m_l_source, runDef, b_l_source, mSeq, mIf, mTest, mTru, mGt, mLt, mLe, mGe, mEq, mNe, mIsN, mNotN, mIn, mNotIn, mOp, maCons, maNil, mIx, kIx, mN, mC, mSet, mAsgIx, mRet, mRetN, mDrop, mF1, kf, ko, gets, owns, R.get, R.own, R.ok, R.kid, D.kids, D.at, D.pure, D.pureL, dAt, Sl.d?, ixD, ixN, fCmp, fLt, fLe, fGt, fGe, fMod, fDiv, fMul, fAdd, fSub, fInt, fAbs, fSetIx, kCh, enPut, Sl.put, D.put, D.setKid, argsOnly, outs, mMod, mDiv, mMul, mAdd, mSub, mSkip, mBrk, mCnt, mAnd, mOr, mNot, mVal, mIfE, mCall, kCall, imps, wbs, mTup, fTup, mLst, fLst, fLenG, fLen, fLenD, mPow, fPow, fIsN, fNotN, D.isNon, D.isHole, fIn, fNotIn, D.truth, mUnp, gN, gT, gsCons, gsNil, mApp, mPop, mMeth, maConsP, tyP, tyD, fL, lApp, lPop, sizeLine_eq, hp, w1, w2, w3, hc, hg]
    · refine ⟨.lst true [.int ((ns[j] + 7 * j) % 2147483629), .int 0, .int (16807 + 2 * j)], ⟨_, _, _, rfl, (q _).1, (q _).2, by omega, by omega, by omega⟩, ?_⟩
      simp [m_l_source, runDef, b_l_source, mSeq, mIf, mTest, mTru, mGt, mLt, mLe, mGe, mEq, mNe, mIsN, mNotN, mIn, mNotIn, mOp, maCons, maNil, mIx, kIx, mN, mC, mSet, mAsgIx, mRet, mRetN, mDrop, mF1, kf, ko, gets, owns, R.get, R.own, R.ok, R.kid, D.kids, D.at, D.pure, D.pureL, dAt, Sl.d?, ixD, ixN, fCmp, fLt, fLe, fGt, fGe, fMod, fDiv, fMul, fAdd, fSub, fInt, fAbs, fSetIx, kCh, enPut, Sl.put, D.put, D.setKid, argsOnly, outs, mMod, mDiv, mMul, mAdd, mSub, mSkip, mBrk, mCnt, mAnd, mOr, mNot, mVal, mIfE, mCall, kCall, imps, wbs, mTup, fTup, mLst, fLst, fLenG, fLen, fLenD, mPow, fPow, fIsN, fNotN, D.isNon, D.isHole, fIn, fNotIn, D.truth, mUnp, gN, gT, gsCons, gsNil, mApp, mPop, mMeth, maConsP, tyP, tyD, fL, lApp, lPop, sizeLine_eq, hp, w1, w2, w3, hc, hg]
  · have hc : ¬ 1000000000000000000 ≤ (104729 * (j : Int) + 4421) := by omega
    refine ⟨.lst true [.int (((104729 * j + 4421) + 7 * j) % 2147483629), .int 0, .int (16807 + 2 * j)], ⟨_, _, _, rfl, (q _).1, (q _).2, by omega, by omega, by omega⟩, ?_⟩
    simp [m_l_source, runDef, b_l_source, mSeq, mIf, mTest, mTru, mGt, mLt, mLe, mGe, mEq, mNe, mIsN, mNotN, mIn, mNotIn, mOp, maCons, maNil, mIx, kIx, mN, mC, mSet, mAsgIx, mRet, mRetN, mDrop, mF1, kf, ko, gets, owns, R.get, R.own, R.ok, R.kid, D.kids, D.at, D.pure, D.pureL, dAt, Sl.d?, ixD, ixN, fCmp, fLt, fLe, fGt, fGe, fMod, fDiv, fMul, fAdd, fSub, fInt, fAbs, fSetIx, kCh, enPut, Sl.put, D.put, D.setKid, argsOnly, outs, mMod, mDiv, mMul, mAdd, mSub, mSkip, mBrk, mCnt, mAnd, mOr, mNot, mVal, mIfE, mCall, kCall, imps, wbs, mTup, fTup, mLst, fLst, fLenG, fLen, fLenD, mPow, fPow, fIsN, fNotN, D.isNon, D.isHole, fIn, fNotIn, D.truth, mUnp, gN, gT, gsCons, gsNil, mApp, mPop, mMeth, maConsP, tyP, tyD, fL, lApp, lPop, sizeLine_eq, hp, w1, w2, w3, hc]
end K35
set_option Elab.async false
set_option linter.all false
set_option maxRecDepth 100000
set_option maxHeartbeats 4000000
namespace K35
open PySem PySem.Spec PyProof.Rows L2 G
theorem seq_nx {a b : MS} {e e1 : En} (h : a.run e = some (.nx, e1)) : (mSeq a b).run e = b.run e1 := by simp [mSeq, h]
theorem seq_rt {a b : MS} {e e1 : En} {d : D} (h : a.run e = some (.rt d, e1)) : (mSeq a b).run e = some (.rt d, e1) := by simp [mSeq, h]
theorem for_run {it : MI} {g : MG} {b : MS} {e e1 : En} {ds : List D} {rs : List R} (h : it.run e = some (ds, rs, e1)) (ok : (rs.all fun r => r.okS (g.ms ++ b.ms)) = true) : (mFor it g b).run e = forGo g b ds e1 := by
  show ((it.run e).bind _) = _
  rw [h, Option.bind_some]
  dsimp only
  rw [if_pos ok]
theorem call_run {np n : Nat} {b : MS} {ds : List D} {d : D} {e' : En} {o : List D} (hl : ds.length = np) (h : b.run (ds.map Sl.arg ++ List.replicate (n - np) .un) = some (.rt d, e')) (ho : outs ds e' = some o) : runDef np n b ds = some (d, o) := by
  unfold runDef
  rw [if_pos hl, h]
  simp [ho]
theorem src_pure {S : D} (h : Src S) : S.pure = false := by
  obtain ⟨a, b, c, rfl, _⟩ := h
  rfl
theorem len_app (x y : Str) : (x ++ y).length = x.length + y.length := by
  show (x.cps ++ y.cps).size = x.cps.size + y.cps.size
  exact Array.size_append
def isStr : D → Bool
  | .str x => decide (x.length ≤ 100)
  | _ => false
def chkTaken : Option (D × List D) → Bool
  | some (.dct true ks vs, []) => ks.all isStr && decide (ks.length = vs.length) && decide (ks.length ≤ 100) && (vs.all D.pure)
  | _ => false
theorem taken_chk : chkTaken (m_l_taken []) = true := by decide +kernel
def Tak (n : Nat) (d : D) : Prop := ∃ ks vs, d = .dct true ks vs ∧ (∀ k ∈ ks, ∃ x, k = .str x) ∧ ks.length = vs.length ∧ ks.length ≤ n
theorem taken_ok : ∃ T, Tak 100 T ∧ m_l_taken [] = some (T, []) := by
  have h := taken_chk
  unfold chkTaken at h
  split at h
  · rename_i ks vs e
    simp only [Bool.and_eq_true, List.all_eq_true, decide_eq_true_eq] at h
    refine ⟨_, ⟨ks, vs, rfl, fun k hk => ?_, h.1.1.2, h.1.2⟩, e⟩
    have := h.1.1.1 k hk
    cases k with
    | str x => exact ⟨x, rfl⟩
    | _ => cases this
  · cases h
def sg : Str := "abcdefghijklmnopqrstuvwxyz0123456789_ABCDEFGHIJKLMNOPQRSTUVWXYZ"
theorem sg_len : sg.cps.toList.length = 63 := by decide +kernel
theorem sg_len2 : sg.length = 63 := by decide +kernel
theorem sg_at {r : Int} (h0 : 0 ≤ r) (h1 : r < 63) : ∃ c, atI sg.cps.toList r = some c ∧ c ∈ sg.cps.toList := by
  have hl : r.toNat < sg.cps.toList.length := by rw [sg_len]; omega
  refine ⟨sg.cps.toList[r.toNat], ?_, List.getElem_mem hl⟩
  unfold atI ixN
  rw [if_pos h0, if_pos (by rw [sg_len]; omega), Option.bind_some, List.getElem?_eq_getElem hl]
theorem ok_app {x y : Str} (hx : PyData.strOk x = true) (hy : PyData.strOk y = true) : PyData.strOk (x ++ y) = true := by
  show ((x.cps ++ y.cps).all _) = true
  rw [Array.all_append]
  exact Bool.and_eq_true_iff.mpr ⟨hx, hy⟩
theorem sg_one : ∀ c ∈ sg.cps.toList, PyData.strOk ⟨#[c]⟩ = true := by decide +kernel
theorem fresh_f1 {S T G s5 : D} {w : Str} {s : Sl} (hS : Src S) (hw : w.length + 1 ≤ 16777216) : ∃ S' c, Src S' ∧ PyData.strOk ⟨#[c]⟩ = true ∧ b_l_fresh_f1.run [.arg S, .arg T, .arg G, .val (.str sg), .val (.str w), s] = some (.nx, [.arg S', .arg T, .arg G, .val (.str sg), .val (.str (w ++ ⟨#[c]⟩)), s]) := by
  obtain ⟨r, S', h1, h2, h3, hd⟩ := draw_ok (n := 63) hS (by decide) (by decide)
  obtain ⟨c, hc, hm⟩ := sg_at h2 h3
  have hp := src_pure hS
  have l1 : (⟨#[c]⟩ : Str).length = 1 := rfl
  refine ⟨S', c, h1, sg_one c hm, ?_⟩
  simp [b_l_fresh_f1, mSeq, mIf, mTest, mTru, mGt, mLt, mLe, mGe, mEq, mNe, mIsN, mNotN, mIn, mNotIn, mOp, maCons, maNil, mIx, kIx, mN, mC, mSet, mAsgIx, mRet, mRetN, mDrop, mF1, kf, ko, gets, owns, R.get, R.own, R.ok, R.kid, D.kids, D.at, D.pure, D.pureL, dAt, Sl.d?, ixD, ixN, fCmp, fLt, fLe, fGt, fGe, fMod, fDiv, fMul, fAdd, fSub, fInt, fAbs, fSetIx, kCh, enPut, Sl.put, D.put, D.setKid, argsOnly, outs, mMod, mDiv, mMul, mAdd, mSub, mSkip, mBrk, mCnt, mAnd, mOr, mNot, mVal, mIfE, mCall, kCall, imps, wbs, mTup, fTup, mLst, fLst, fLenG, fLen, fLenD, mPow, fPow, fIsN, fNotN, D.isNon, D.isHole, fIn, fNotIn, D.truth, mUnp, gN, gT, gsCons, gsNil, mApp, mPop, mMeth, maConsP, tyP, tyD, fL, lApp, lPop, sizeLine_eq, hd, hp, hc, sg_len2, l1, hw]
theorem forGo_nil {g : MG} {b : MS} {e : En} : forGo g b [] e = some (.nx, e) := rfl
theorem forGo_nx {g : MG} {b : MS} {d : D} {ds : List D} {e e1 e2 : En} (h1 : g.run d e = some e1) (h2 : b.run e1 = some (.nx, e2)) : forGo g b (d :: ds) e = forGo g b ds e2 := by
  show ((g.run d e).bind _) = _
  rw [h1, Option.bind_some, h2]; rfl
theorem forGo_bk {g : MG} {b : MS} {d : D} {ds : List D} {e e1 e2 : En} (h1 : g.run d e = some e1) (h2 : b.run e1 = some (.bk, e2)) : forGo g b (d :: ds) e = some (.nx, e2) := by
  show ((g.run d e).bind _) = _
  rw [h1, Option.bind_some, h2]; rfl
theorem fresh_loop1 {T G : D} : ∀ (ds : List D) (S : D) (w : Str) (s : Sl), (∀ d ∈ ds, d.pure = true) → Src S → PyData.strOk w = true → w.length + ds.length ≤ 1000000 →
    ∃ S' w' s', Src S' ∧ PyData.strOk w' = true ∧ w'.length = w.length + ds.length ∧ forGo (gN 5) b_l_fresh_f1 ds [.arg S, .arg T, .arg G, .val (.str sg), .val (.str w), s] = some (.nx, [.arg S', .arg T, .arg G, .val (.str sg), .val (.str w'), s'])
  | [], S, w, s, _, hS, ho, _ => ⟨S, w, s, hS, ho, rfl, rfl⟩
  | d :: ds, S, w, s, hd, hS, ho, hw => by
    rw [List.length_cons] at hw
    obtain ⟨S1, c, h1, h0, h2⟩ := fresh_f1 (T := T) (G := G) (s5 := .non) (s := .val d) hS (show w.length + 1 ≤ 16777216 by omega)
    have l1 : (w ++ (⟨#[c]⟩ : Str)).length = w.length + 1 := len_app w _
    obtain ⟨S', w', s', k1, k0, k2, k3⟩ := fresh_loop1 ds S1 (w ++ ⟨#[c]⟩) (.val d) (fun x hx => hd x (List.mem_cons_of_mem _ hx)) h1 (ok_app ho h0) (by rw [l1]; omega)
    refine ⟨S', w', s', k1, k0, by rw [k2, l1, List.length_cons]; omega, ?_⟩
    rw [forGo_nx (e1 := [.arg S, .arg T, .arg G, .val (.str sg), .val (.str w), .val d]) (by simp [gN, hd d List.mem_cons_self]) h2]
    exact k3
theorem nodup_len {α : Type} [DecidableEq α] : ∀ {xs ys : List α}, xs.Nodup → (∀ x ∈ xs, x ∈ ys) → xs.length ≤ ys.length
  | [], _, _, _ => Nat.zero_le _
  | x :: xs, ys, hn, hs => by
    obtain ⟨h1, h2⟩ := List.nodup_cons.mp hn
    have ih := nodup_len (ys := ys.erase x) h2 fun y hy => by
      have hne : y ≠ x := fun e => h1 (e ▸ hy)
      exact (List.mem_erase_of_ne hne).mpr (hs y (List.mem_cons_of_mem _ hy))
    have hx := hs x List.mem_cons_self
    have := List.length_erase_of_mem hx
    have hp : 0 < ys.length := List.length_pos_of_mem hx
    rw [List.length_cons]
    omega
theorem keyOk_str {ks : List D} {x : Str} (h : ∀ k ∈ ks, ∃ x, k = .str x) : keyOk ks (.str x) = true := by
  unfold keyOk
  show (ks.all fun d => d.toK.isSome) = true
  rw [List.all_eq_true]
  intro k hk
  obtain ⟨y, rfl⟩ := h k hk
  rfl
theorem kidx_mem {ks : List D} {k : D} : (kidx ks k).isSome = true ↔ k ∈ ks := by
  constructor
  · intro h
    obtain ⟨n, e⟩ := Option.isSome_iff_exists.mp h
    exact List.mem_of_getElem? (kidx_some e)
  · intro h
    cases e : kidx ks k with
    | some n => rfl
    | none => exact absurd h (kidx_none e)
theorem fresh_f2_bk {S G : D} {ks vs : List D} {w : Str} {s : Sl} (hk : ∀ k ∈ ks, ∃ x, k = .str x) (h : D.str w ∉ ks) : b_l_fresh_f2.run [.arg S, .arg (.dct true ks vs), .arg G, .val (.str sg), .val (.str w), s] = some (.bk, [.arg S, .arg (.dct true ks vs), .arg G, .val (.str sg), .val (.str w), s]) := by
  have e : kidx ks (.str w) = none := by
    cases e : kidx ks (.str w) with
    | none => rfl
    | some n => exact absurd (kidx_mem.mp (by rw [e]; rfl)) h
  simp [b_l_fresh_f2, mSeq, mIf, mTest, mTru, mGt, mLt, mLe, mGe, mEq, mNe, mIsN, mNotN, mIn, mNotIn, mOp, maCons, maNil, mIx, kIx, mN, mC, mSet, mAsgIx, mRet, mRetN, mDrop, mF1, kf, ko, gets, owns, R.get, R.own, R.ok, R.kid, D.kids, D.at, D.pure, D.pureL, dAt, Sl.d?, ixD, ixN, fCmp, fLt, fLe, fGt, fGe, fMod, fDiv, fMul, fAdd, fSub, fInt, fAbs, fSetIx, kCh, enPut, Sl.put, D.put, D.setKid, argsOnly, outs, mMod, mDiv, mMul, mAdd, mSub, mSkip, mBrk, mCnt, mAnd, mOr, mNot, mVal, mIfE, mCall, kCall, imps, wbs, mTup, fTup, mLst, fLst, fLenG, fLen, fLenD, mPow, fPow, fIsN, fNotN, D.isNon, D.isHole, fIn, fNotIn, D.truth, mUnp, gN, gT, gsCons, gsNil, mApp, mPop, mMeth, maConsP, tyP, tyD, fL, lApp, lPop, sizeLine_eq, inD, keyOk_str hk, e]
theorem fresh_f2_nx {S G : D} {ks vs : List D} {w : Str} {s : Sl} (hk : ∀ k ∈ ks, ∃ x, k = .str x) (h : D.str w ∈ ks) (hw : w.length + 1 ≤ 16777216) : b_l_fresh_f2.run [.arg S, .arg (.dct true ks vs), .arg G, .val (.str sg), .val (.str w), s] = some (.nx, [.arg S, .arg (.dct true ks vs), .arg G, .val (.str sg), .val (.str (w ++ "_")), s]) := by
  obtain ⟨n, e⟩ := Option.isSome_iff_exists.mp (kidx_mem.mpr h)
  have l1 : ("_" : Str).length = 1 := by decide +kernel
  simp [b_l_fresh_f2, mSeq, mIf, mTest, mTru, mGt, mLt, mLe, mGe, mEq, mNe, mIsN, mNotN, mIn, mNotIn, mOp, maCons, maNil, mIx, kIx, mN, mC, mSet, mAsgIx, mRet, mRetN, mDrop, mF1, kf, ko, gets, owns, R.get, R.own, R.ok, R.kid, D.kids, D.at, D.pure, D.pureL, dAt, Sl.d?, ixD, ixN, fCmp, fLt, fLe, fGt, fGe, fMod, fDiv, fMul, fAdd, fSub, fInt, fAbs, fSetIx, kCh, enPut, Sl.put, D.put, D.setKid, argsOnly, outs, mMod, mDiv, mMul, mAdd, mSub, mSkip, mBrk, mCnt, mAnd, mOr, mNot, mVal, mIfE, mCall, kCall, imps, wbs, mTup, fTup, mLst, fLst, fLenG, fLen, fLenD, mPow, fPow, fIsN, fNotN, D.isNon, D.isHole, fIn, fNotIn, D.truth, mUnp, gN, gT, gsCons, gsNil, mApp, mPop, mMeth, maConsP, tyP, tyD, fL, lApp, lPop, sizeLine_eq, inD, keyOk_str hk, e, l1, hw]
theorem fresh_loop2 {S G : D} {ks vs : List D} (hk : ∀ k ∈ ks, ∃ x, k = .str x) : ∀ (ds : List D) (seen : List Str) (w : Str) (s : Sl), (∀ d ∈ ds, d.pure = true) → PyData.strOk w = true → seen.Nodup → (∀ x ∈ seen, D.str x ∈ ks ∧ x.length < w.length) → ks.length < seen.length + ds.length → w.length + ds.length ≤ 1000000 →
    ∃ w' s', D.str w' ∉ ks ∧ PyData.strOk w' = true ∧ w.length ≤ w'.length ∧ w'.length ≤ w.length + ds.length ∧ forGo (gN 5) b_l_fresh_f2 ds [.arg S, .arg (.dct true ks vs), .arg G, .val (.str sg), .val (.str w), s] = some (.nx, [.arg S, .arg (.dct true ks vs), .arg G, .val (.str sg), .val (.str w'), s'])
  | [], seen, w, s, _, _, hn, hs, hl, _ => by
    exfalso
    have h1 : (seen.map D.str).Nodup := List.Pairwise.map D.str (fun a b h e => h (by injection e)) hn
    have := nodup_len h1 fun x hx => by
      obtain ⟨y, hy, rfl⟩ := List.mem_map.mp hx
      exact (hs y hy).1
    rw [List.length_map] at this
    simp at hl
    omega
  | d :: ds, seen, w, s, hd, ho, hn, hs, hl, hw => by
    rw [List.length_cons] at hl hw
    have hg : (gN 5).run d [.arg S, .arg (.dct true ks vs), .arg G, .val (.str sg), .val (.str w), s] = some [.arg S, .arg (.dct true ks vs), .arg G, .val (.str sg), .val (.str w), .val d] := by simp [gN, hd d List.mem_cons_self]
    by_cases h : D.str w ∈ ks
    · have l1 : (w ++ ("_" : Str)).length = w.length + 1 := by rw [len_app, show ("_" : Str).length = 1 by decide +kernel]
      obtain ⟨w', s', a1, a0, a2, a3, a4⟩ := fresh_loop2 hk ds (w :: seen) (w ++ "_") (.val d) (fun x hx => hd x (List.mem_cons_of_mem _ hx)) (ok_app ho (by decide +kernel)) (List.nodup_cons.mpr ⟨fun z => Nat.lt_irrefl _ (hs w z).2, hn⟩) (fun x hx => by
        rw [l1]
        rcases List.mem_cons.mp hx with rfl | hx
        · exact ⟨h, Nat.lt_succ_self _⟩
        · exact ⟨(hs x hx).1, Nat.lt_succ_of_lt (hs x hx).2⟩) (by rw [List.length_cons]; omega) (by rw [l1]; omega)
      refine ⟨w', s', a1, a0, by omega, by rw [List.length_cons]; omega, ?_⟩
      rw [forGo_nx hg (fresh_f2_nx hk h (by omega))]
      exact a4
    · exact ⟨w, .val d, h, ho, Nat.le_refl _, by omega, forGo_bk hg (fresh_f2_bk hk h)⟩
end K35
set_option Elab.async false
set_option linter.all false
set_option maxRecDepth 100000
set_option maxHeartbeats 4000000
namespace K35
open PySem PySem.Spec PyProof.Rows L2 G
theorem up_len : ∀ r : Fin 26, 1 ≤ (Txt.upper ⟨#[sg.cps.toList.getD r.val 0]⟩).length ∧ (Txt.upper ⟨#[sg.cps.toList.getD r.val 0]⟩).length ≤ 3 ∧ PyData.strOk (Txt.upper ⟨#[sg.cps.toList.getD r.val 0]⟩) = true := by decide +kernel
theorem sg_at26 {r : Int} (h0 : 0 ≤ r) (h1 : r < 26) : ∃ c, atI sg.cps.toList r = some c ∧ c ∈ sg.cps.toList ∧ 1 ≤ (Txt.upper ⟨#[c]⟩).length ∧ (Txt.upper ⟨#[c]⟩).length ≤ 3 ∧ PyData.strOk (Txt.upper ⟨#[c]⟩) = true := by
  have hl : r.toNat < sg.cps.toList.length := by rw [sg_len]; omega
  have hu := up_len ⟨r.toNat, by omega⟩
  have e : sg.cps.toList.getD r.toNat 0 = sg.cps.toList[r.toNat] := by rw [List.getD_eq_getElem?_getD, List.getElem?_eq_getElem hl]; rfl
  dsimp only at hu
  rw [e] at hu
  refine ⟨sg.cps.toList[r.toNat], ?_, List.getElem_mem hl, hu⟩
  unfold atI ixN
  rw [if_pos h0, if_pos (by rw [sg_len]; omega), Option.bind_some, List.getElem?_eq_getElem hl]
theorem dRange_pure (a b : Int) : ∀ d ∈ dRange a b, d.pure = true := fun d hd => by
  obtain ⟨k, _, rfl⟩ := List.mem_map.mp hd
  rfl
theorem dRange_len (a b : Int) : (dRange a b).length = (b - a).toNat := by unfold dRange; rw [List.length_map, List.length_range]
theorem toK_all {ks : List D} (hk : ∀ k ∈ ks, ∃ x, k = .str x) : (ks.all fun k => k.toK.isSome) = true := by
  rw [List.all_eq_true]
  intro k h
  obtain ⟨x, rfl⟩ := hk k h
  rfl
theorem fresh_q4 {S1 : D} (h1 : Src S1) {T G A B : D} : ∃ S3 r, Src S3 ∧ 0 ≤ r ∧ r ≤ 6 ∧ (iRng (ma1 (mMul (mCall m_l_draw [0] (maCons (mN 0) (maCons (mC (.int 3)) maNil))) (mCall m_l_draw [0] (maCons (mN 0) (maCons (mC (.int 4)) maNil)))))).run [.arg S1, .arg T, .arg G, .val A, .val B, .un] =
      some (dRange 0 r, [], [.arg S3, .arg T, .arg G, .val A, .val B, .un]) := by
  obtain ⟨r1, S2, a1, a2, a3, hd1⟩ := draw_ok (n := 3) h1 (by decide) (by decide)
  obtain ⟨r2, S3, b1, b2, b3, hd2⟩ := draw_ok (n := 4) a1 (by decide) (by decide)
  have hp1 := src_pure h1
  have hp2 := src_pure a1
  have hm : CMulW r1 r2 := mulW (by omega) (by omega)
  have hr : 0 ≤ r1 * r2 ∧ r1 * r2 ≤ 6 := by
    have e1 : r1 = 0 ∨ r1 = 1 ∨ r1 = 2 := by omega
    rcases e1 with rfl | rfl | rfl <;> omega
  have x1 : (-4611686018427387904 : Int) ≤ r1 * r2 := by omega
  have x2 : r1 * r2 < (4611686018427387904 : Int) := by omega
  exact ⟨S3, r1 * r2, b1, hr.1, hr.2, by simp [iRng, mSeq, mIf, mTest, mTru, mGt, mLt, mLe, mGe, mEq, mNe, mIsN, mNotN, mIn, mNotIn, mOp, maCons, maNil, mIx, kIx, mN, mC, mSet, mAsgIx, mRet, mRetN, mDrop, mF1, kf, ko, gets, owns, R.get, R.own, R.ok, R.kid, D.kids, D.at, D.pure, D.pureL, dAt, Sl.d?, ixD, ixN, fCmp, fLt, fLe, fGt, fGe, fMod, fDiv, fMul, fAdd, fSub, fInt, fAbs, fSetIx, kCh, enPut, Sl.put, D.put, D.setKid, argsOnly, outs, mMod, mDiv, mMul, mAdd, mSub, mSkip, mBrk, mCnt, mAnd, mOr, mNot, mVal, mIfE, mCall, kCall, imps, wbs, mTup, fTup, mLst, fLst, fLenG, fLen, fLenD, mPow, fPow, fIsN, fNotN, D.isNon, D.isHole, fIn, fNotIn, D.truth, mUnp, gN, gT, gsCons, gsNil, mApp, mPop, mMeth, maConsP, tyP, tyD, fL, lApp, lPop, sizeLine_eq, hd1, hd2, hp1, hp2, hm, x1, x2]⟩
theorem irng1 {m : ME} {env env' : En} {j : Int} (h : m.run env = some (.v (.int j), env')) (h1 : -4611686018427387904 ≤ j) (h2 : j < 4611686018427387904) : (iRng (ma1 m)).run env = some (dRange 0 j, [], env') := by
  simp [iRng, mSeq, mIf, mTest, mTru, mGt, mLt, mLe, mGe, mEq, mNe, mIsN, mNotN, mIn, mNotIn, mOp, maCons, maNil, mIx, kIx, mN, mC, mSet, mAsgIx, mRet, mRetN, mDrop, mF1, kf, ko, gets, owns, R.get, R.own, R.ok, R.kid, D.kids, D.at, D.pure, D.pureL, dAt, Sl.d?, ixD, ixN, fCmp, fLt, fLe, fGt, fGe, fMod, fDiv, fMul, fAdd, fSub, fInt, fAbs, fSetIx, kCh, enPut, Sl.put, D.put, D.setKid, argsOnly, outs, mMod, mDiv, mMul, mAdd, mSub, mSkip, mBrk, mCnt, mAnd, mOr, mNot, mVal, mIfE, mCall, kCall, imps, wbs, mTup, fTup, mLst, fLst, fLenG, fLen, fLenD, mPow, fPow, fIsN, fNotN, D.isNon, D.isHole, fIn, fNotIn, D.truth, mUnp, gN, gT, gsCons, gsNil, mApp, mPop, mMeth, maConsP, tyP, tyD, fL, lApp, lPop, sizeLine_eq, h, h1, h2]
theorem irng2 {m n : ME} {env e1 env' : En} {i j : Int} (h : m.run env = some (.v (.int i), e1)) (h' : n.run e1 = some (.v (.int j), env')) (h1 : -4611686018427387904 ≤ i) (h2 : i < 4611686018427387904) (h3 : -4611686018427387904 ≤ j) (h4 : j < 4611686018427387904) : (iRng (ma2 m n)).run env = some (dRange i j, [], env') := by
  simp [iRng, mSeq, mIf, mTest, mTru, mGt, mLt, mLe, mGe, mEq, mNe, mIsN, mNotN, mIn, mNotIn, mOp, maCons, maNil, mIx, kIx, mN, mC, mSet, mAsgIx, mRet, mRetN, mDrop, mF1, kf, ko, gets, owns, R.get, R.own, R.ok, R.kid, D.kids, D.at, D.pure, D.pureL, dAt, Sl.d?, ixD, ixN, fCmp, fLt, fLe, fGt, fGe, fMod, fDiv, fMul, fAdd, fSub, fInt, fAbs, fSetIx, kCh, enPut, Sl.put, D.put, D.setKid, argsOnly, outs, mMod, mDiv, mMul, mAdd, mSub, mSkip, mBrk, mCnt, mAnd, mOr, mNot, mVal, mIfE, mCall, kCall, imps, wbs, mTup, fTup, mLst, fLst, fLenG, fLen, fLenD, mPow, fPow, fIsN, fNotN, D.isNon, D.isHole, fIn, fNotIn, D.truth, mUnp, gN, gT, gsCons, gsNil, mApp, mPop, mMeth, maConsP, tyP, tyD, fL, lApp, lPop, sizeLine_eq, h, h', h1, h2, h3, h4]
theorem fresh_q5 {ks vs : List D} (hk : ∀ k ∈ ks, ∃ x, k = .str x) (hn : ks.length ≤ 1000) {S G A B : D} {s : Sl} : (iRng (ma1 (mAdd (mF1 fLenG (mN 1)) (mC (.int 1))))).run [.arg S, .arg (.dct true ks vs), .arg G, .val A, .val B, s] = some (dRange 0 ((ks.length : Int) + 1), [], [.arg S, .arg (.dct true ks vs), .arg G, .val A, .val B, s]) := by
  have hall : (∀ x, x ∈ ks → x.toK.isSome = true) = True := eq_true (List.all_eq_true.mp (toK_all hk))
  refine irng1 ?_ (by omega) (by omega)
  simp [mSeq, mIf, mTest, mTru, mGt, mLt, mLe, mGe, mEq, mNe, mIsN, mNotN, mIn, mNotIn, mOp, maCons, maNil, mIx, kIx, mN, mC, mSet, mAsgIx, mRet, mRetN, mDrop, mF1, kf, ko, gets, owns, R.get, R.own, R.ok, R.kid, D.kids, D.at, D.pure, D.pureL, dAt, Sl.d?, ixD, ixN, fCmp, fLt, fLe, fGt, fGe, fMod, fDiv, fMul, fAdd, fSub, fInt, fAbs, fSetIx, kCh, enPut, Sl.put, D.put, D.setKid, argsOnly, outs, mMod, mDiv, mMul, mAdd, mSub, mSkip, mBrk, mCnt, mAnd, mOr, mNot, mVal, mIfE, mCall, kCall, imps, wbs, mTup, fTup, mLst, fLst, fLenG, fLen, fLenD, mPow, fPow, fIsN, fNotN, D.isNon, D.isHole, fIn, fNotIn, D.truth, mUnp, gN, gT, gsCons, gsNil, mApp, mPop, mMeth, maConsP, tyP, tyD, fL, lApp, lPop, sizeLine_eq, hall]
theorem fresh_q6 {ks vs : List D} (hk : ∀ k ∈ ks, ∃ x, k = .str x) {S G A : D} {s : Sl} {w : Str} (hn : ks.length ≤ 1000) (e : kidx ks (.str w) = none) : (mAsgIx [1] (mC (.bl true)) (mN 1) (mN 4)).run [.arg S, .arg (.dct true ks vs), .arg G, .val A, .val (.str w), s] = some (.nx, [.arg S, .arg (.dct true (ks ++ [.str w]) (vs ++ [.bl true])), .arg G, .val A, .val (.str w), s]) := by
  have ht : ks.length < 16777216 := by omega
  simp [mSeq, mIf, mTest, mTru, mGt, mLt, mLe, mGe, mEq, mNe, mIsN, mNotN, mIn, mNotIn, mOp, maCons, maNil, mIx, kIx, mN, mC, mSet, mAsgIx, mRet, mRetN, mDrop, mF1, kf, ko, gets, owns, R.get, R.own, R.ok, R.kid, D.kids, D.at, D.pure, D.pureL, dAt, Sl.d?, ixD, ixN, fCmp, fLt, fLe, fGt, fGe, fMod, fDiv, fMul, fAdd, fSub, fInt, fAbs, fSetIx, kCh, enPut, Sl.put, D.put, D.setKid, argsOnly, outs, mMod, mDiv, mMul, mAdd, mSub, mSkip, mBrk, mCnt, mAnd, mOr, mNot, mVal, mIfE, mCall, kCall, imps, wbs, mTup, fTup, mLst, fLst, fLenG, fLen, fLenD, mPow, fPow, fIsN, fNotN, D.isNon, D.isHole, fIn, fNotIn, D.truth, mUnp, gN, gT, gsCons, gsNil, mApp, mPop, mMeth, maConsP, tyP, tyD, fL, lApp, lPop, sizeLine_eq, keyOk_str hk, e, dPut, ht]
theorem fresh_ok {S : D} {ks vs : List D} {g : Bool} (hS : Src S) (hk : ∀ k ∈ ks, ∃ x, k = .str x) (hn : ks.length ≤ 1000) :
    ∃ w S', Src S' ∧ D.str w ∉ ks ∧ (1 ≤ w.length ∧ PyData.strOk w = true) ∧ m_l_fresh [S, .dct true ks vs, .bl g] = some (.str w, [S', .dct true (ks ++ [.str w]) (vs ++ [.bl true]), .bl g]) := by
  -- the first sign
  obtain ⟨r, S1, h1, h2, h3, hd⟩ := draw_ok (n := 26) hS (by decide) (by decide)
  obtain ⟨c, hc, u0, u1, u2, u3⟩ := sg_at26 h2 h3
  have hp := src_pure hS
  have l1 : (⟨#[c]⟩ : Str).length = 1 := rfl
  -- great or not
  obtain ⟨w1, hw1, hw2, hw3, q3⟩ : ∃ w1 : Str, 1 ≤ w1.length ∧ w1.length ≤ 3 ∧ PyData.strOk w1 = true ∧ (mIf (mTru (mN 2)) (mSet 4 (mF1 fUpper (mN 4))) mSkip).run [.arg S1, .arg (.dct true ks vs), .arg (.bl g), .val (.str sg), .val (.str ⟨#[c]⟩), .un] = some (.nx, [.arg S1, .arg (.dct true ks vs), .arg (.bl g), .val (.str sg), .val (.str w1), .un]) := by
    cases g with
    | true => exact ⟨_, u1, u2, u3, by simp [mSeq, mIf, mTest, mTru, mGt, mLt, mLe, mGe, mEq, mNe, mIsN, mNotN, mIn, mNotIn, mOp, maCons, maNil, mIx, kIx, mN, mC, mSet, mAsgIx, mRet, mRetN, mDrop, mF1, kf, ko, gets, owns, R.get, R.own, R.ok, R.kid, D.kids, D.at, D.pure, D.pureL, dAt, Sl.d?, ixD, ixN, fCmp, fLt, fLe, fGt, fGe, fMod, fDiv, fMul, fAdd, fSub, fInt, fAbs, fSetIx, kCh, enPut, Sl.put, D.put, D.setKid, argsOnly, outs, mMod, mDiv, mMul, mAdd, mSub, mSkip, mBrk, mCnt, mAnd, mOr, mNot, mVal, mIfE, mCall, kCall, imps, wbs, mTup, fTup, mLst, fLst, fLenG, fLen, fLenD, mPow, fPow, fIsN, fNotN, D.isNon, D.isHole, fIn, fNotIn, D.truth, mUnp, gN, gT, gsCons, gsNil, mApp, mPop, mMeth, maConsP, tyP, tyD, fL, lApp, lPop, sizeLine_eq, fUpper, l1]⟩
    | false => exact ⟨⟨#[c]⟩, by rw [l1]; exact Nat.le_refl _, by rw [l1]; decide, sg_one c u0, by simp [mSeq, mIf, mTest, mTru, mGt, mLt, mLe, mGe, mEq, mNe, mIsN, mNotN, mIn, mNotIn, mOp, maCons, maNil, mIx, kIx, mN, mC, mSet, mAsgIx, mRet, mRetN, mDrop, mF1, kf, ko, gets, owns, R.get, R.own, R.ok, R.kid, D.kids, D.at, D.pure, D.pureL, dAt, Sl.d?, ixD, ixN, fCmp, fLt, fLe, fGt, fGe, fMod, fDiv, fMul, fAdd, fSub, fInt, fAbs, fSetIx, kCh, enPut, Sl.put, D.put, D.setKid, argsOnly, outs, mMod, mDiv, mMul, mAdd, mSub, mSkip, mBrk, mCnt, mAnd, mOr, mNot, mVal, mIfE, mCall, kCall, imps, wbs, mTup, fTup, mLst, fLst, fLenG, fLen, fLenD, mPow, fPow, fIsN, fNotN, D.isNon, D.isHole, fIn, fNotIn, D.truth, mUnp, gN, gT, gsCons, gsNil, mApp, mPop, mMeth, maConsP, tyP, tyD, fL, lApp, lPop, sizeLine_eq]⟩
  obtain ⟨S3, r, b1, r1, r2, q4⟩ := fresh_q4 h1 (T := .dct true ks vs) (G := .bl g) (A := .str sg) (B := .str w1)
  obtain ⟨S4, w2, s4, c1, c0, c2, c3⟩ := fresh_loop1 (T := .dct true ks vs) (G := .bl g) (dRange 0 r) S3 w1 .un (dRange_pure _ _) b1 hw3 (by rw [dRange_len]; omega)
  have q5 := fresh_q5 (vs := vs) hk hn (S := S4) (G := .bl g) (A := .str sg) (B := .str w2) (s := s4)
  obtain ⟨w3, s5, d1, d0, d2, d3, d4⟩ := fresh_loop2 (S := S4) (G := .bl g) (vs := vs) hk (dRange 0 ((ks.length : Int) + 1)) [] w2 s4 (dRange_pure _ _) c0 List.nodup_nil (fun _ z => nomatch z) (by rw [dRange_len]; simp) (by rw [dRange_len] at c2 ⊢; omega)
  refine ⟨w3, S4, c1, d1, ⟨by omega, d0⟩, ?_⟩
  have e : kidx ks (.str w3) = none := by
    cases e : kidx ks (.str w3) with
    | none => rfl
    | some n => exact absurd (kidx_mem.mp (by rw [e]; rfl)) d1
  refine call_run (e' := argsOnly [.arg S4, .arg (.dct true (ks ++ [.str w3]) (vs ++ [.bl true])), .arg (.bl g), .val (.str sg), .val (.str w3), s5]) rfl ?_ (by simp [outs, argsOnly])
  show (b_l_fresh).run [.arg S, .arg (.dct true ks vs), .arg (.bl g), .un, .un, .un] = _
  unfold b_l_fresh
  rw [seq_nx (e1 := [.arg S, .arg (.dct true ks vs), .arg (.bl g), .val (.str sg), .un, .un]) (by simp [mSeq, mIf, mTest, mTru, mGt, mLt, mLe, mGe, mEq, mNe, mIsN, mNotN, mIn, mNotIn, mOp, maCons, maNil, mIx, kIx, mN, mC, mSet, mAsgIx, mRet, mRetN, mDrop, mF1, kf, ko, gets, owns, R.get, R.own, R.ok, R.kid, D.kids, D.at, D.pure, D.pureL, dAt, Sl.d?, ixD, ixN, fCmp, fLt, fLe, fGt, fGe, fMod, fDiv, fMul, fAdd, fSub, fInt, fAbs, fSetIx, kCh, enPut, Sl.put, D.put, D.setKid, argsOnly, outs, mMod, mDiv, mMul, mAdd, mSub, mSkip, mBrk, mCnt, mAnd, mOr, mNot, mVal, mIfE, mCall, kCall, imps, wbs, mTup, fTup, mLst, fLst, fLenG, fLen, fLenD, mPow, fPow, fIsN, fNotN, D.isNon, D.isHole, fIn, fNotIn, D.truth, mUnp, gN, gT, gsCons, gsNil, mApp, mPop, mMeth, maConsP, tyP, tyD, fL, lApp, lPop, sizeLine_eq, sg]),
    seq_nx (e1 := [.arg S1, .arg (.dct true ks vs), .arg (.bl g), .val (.str sg), .val (.str ⟨#[c]⟩), .un]) (by simp [mSeq, mIf, mTest, mTru, mGt, mLt, mLe, mGe, mEq, mNe, mIsN, mNotN, mIn, mNotIn, mOp, maCons, maNil, mIx, kIx, mN, mC, mSet, mAsgIx, mRet, mRetN, mDrop, mF1, kf, ko, gets, owns, R.get, R.own, R.ok, R.kid, D.kids, D.at, D.pure, D.pureL, dAt, Sl.d?, ixD, ixN, fCmp, fLt, fLe, fGt, fGe, fMod, fDiv, fMul, fAdd, fSub, fInt, fAbs, fSetIx, kCh, enPut, Sl.put, D.put, D.setKid, argsOnly, outs, mMod, mDiv, mMul, mAdd, mSub, mSkip, mBrk, mCnt, mAnd, mOr, mNot, mVal, mIfE, mCall, kCall, imps, wbs, mTup, fTup, mLst, fLst, fLenG, fLen, fLenD, mPow, fPow, fIsN, fNotN, D.isNon, D.isHole, fIn, fNotIn, D.truth, mUnp, gN, gT, gsCons, gsNil, mApp, mPop, mMeth, maConsP, tyP, tyD, fL, lApp, lPop, sizeLine_eq, hd, hp, hc, sg_len2]),
    seq_nx q3, seq_nx ((for_run q4 rfl).trans c3), seq_nx ((for_run q5 rfl).trans d4)]
  rw [seq_nx (fresh_q6 hk hn e)]
  simp [mSeq, mIf, mTest, mTru, mGt, mLt, mLe, mGe, mEq, mNe, mIsN, mNotN, mIn, mNotIn, mOp, maCons, maNil, mIx, kIx, mN, mC, mSet, mAsgIx, mRet, mRetN, mDrop, mF1, kf, ko, gets, owns, R.get, R.own, R.ok, R.kid, D.kids, D.at, D.pure, D.pureL, dAt, Sl.d?, ixD, ixN, fCmp, fLt, fLe, fGt, fGe, fMod, fDiv, fMul, fAdd, fSub, fInt, fAbs, fSetIx, kCh, enPut, Sl.put, D.put, D.setKid, argsOnly, outs, mMod, mDiv, mMul, mAdd, mSub, mSkip, mBrk, mCnt, mAnd, mOr, mNot, mVal, mIfE, mCall, kCall, imps, wbs, mTup, fTup, mLst, fLst, fLenG, fLen, fLenD, mPow, fPow, fIsN, fNotN, D.isNon, D.isHole, fIn, fNotIn, D.truth, mUnp, gN, gT, gsCons, gsNil, mApp, mPop, mMeth, maConsP, tyP, tyD, fL, lApp, lPop, sizeLine_eq]
end K35
set_option Elab.async false
set_option linter.all false
set_option maxRecDepth 100000
set_option maxHeartbeats 4000000
namespace K35
open PySem PySem.Spec PyProof.Rows L2 G
theorem fEq_int {i j : Int} : fEq [.int i, .int j] = some (.bl (decide (i = j))) := by
  simp [fEq, eqD, D.flat, scal]
theorem fEq_str {i j : Str} : fEq [.str i, .str j] = some (.bl (decide (i = j))) := by
  simp [fEq, eqD, D.flat, scal]
theorem fNe_int {i j : Int} : fNe [.int i, .int j] = some (.bl (!decide (i = j))) := by
  simp [fNe, eqD, D.flat, scal]
theorem fNe_str {i j : Str} : fNe [.str i, .str j] = some (.bl (!decide (i = j))) := by
  simp [fNe, eqD, D.flat, scal]
def Alk (v v' : D) : Prop := (v = .non ∧ v' = .non) ∨ (∃ i j, v = .int i ∧ v' = .int j) ∨ ∃ x y, v = .str x ∧ v' = .str y ∧ PyData.strOk x = true ∧ PyData.strOk y = true
theorem Alk.pure {v v' : D} (h : Alk v v') : v.pure = true ∧ v.plain = true ∧ sib v.toPy v'.toPy = true ∧ v.toPy.depth = 0 ∧ v.toPy.plain = true := by
  rcases h with ⟨rfl, rfl⟩ | ⟨i, j, rfl, rfl⟩ | ⟨x, y, rfl, rfl, _, _⟩ <;> exact ⟨rfl, rfl, by simp [D.toPy, sib], by simp [D.toPy, PyData.depth], by simp [D.toPy, PyData.plain]⟩
def Prs (N : Str → Prop) (ds : List D) : Prop := (∀ d ∈ ds, ∃ x v, d = .tup [.str x, v] ∧ N x ∧ Alk v v) ∧ ∀ x v v', D.tup [.str x, v] ∈ ds → D.tup [.str x, v'] ∈ ds → Alk v v'
theorem prs_nil {N : Str → Prop} : Prs N [] := ⟨fun _ h => (nomatch h), fun _ _ _ h => (nomatch h)⟩
theorem prs_mono {N N' : Str → Prop} {ds : List D} (h : Prs N ds) (hn : ∀ x, N x → N' x) : Prs N' ds := ⟨fun d hd => by
  obtain ⟨x, v, e, n, a⟩ := h.1 d hd
  exact ⟨x, v, e, hn x n, a⟩, h.2⟩
theorem prs_add {N N' : Str → Prop} {ds : List D} {w : Str} {vs : List D} (h : Prs N ds) (hn : ∀ x, N x → N' x) (hw : N' w) (hd : ¬ N w) (ha : ∀ v ∈ vs, ∀ v' ∈ vs, Alk v v') : Prs N' (ds ++ vs.map fun v => .tup [.str w, v]) := by
  have hx : ∀ x v, D.tup [.str x, v] ∈ ds → x ≠ w := fun x v hm e => by
    obtain ⟨y, u, e1, n, _⟩ := h.1 _ hm
    injection e1 with e1
    injection e1 with e1 _
    injection e1 with e1
    exact hd (e ▸ e1 ▸ n)
  refine ⟨fun d hm => ?_, fun x v v' h1 h2 => ?_⟩
  · rcases List.mem_append.mp hm with hm | hm
    · obtain ⟨x, v, e, n, a⟩ := h.1 d hm
      exact ⟨x, v, e, hn x n, a⟩
    · obtain ⟨v, hv, rfl⟩ := List.mem_map.mp hm
      exact ⟨w, v, rfl, hw, ha v hv v hv⟩
  · rcases List.mem_append.mp h1 with h1 | h1
    · rcases List.mem_append.mp h2 with h2 | h2
      · exact h.2 x v v' h1 h2
      · obtain ⟨u, hu, e⟩ := List.mem_map.mp h2
        injection e with e
        injection e with e _
        injection e with e
        exact absurd e.symm (hx _ _ h1)
    · obtain ⟨u, hu, e⟩ := List.mem_map.mp h1
      injection e with e
      injection e with e e'
      injection e with e
      injection e' with e' _
      rcases List.mem_append.mp h2 with h2 | h2
      · exact absurd e.symm (hx _ _ h2)
      · obtain ⟨u', hu', e2⟩ := List.mem_map.mp h2
        injection e2 with e2
        injection e2 with e2 e2'
        injection e2' with e2' _
        subst e' e2'
        exact ha _ hu _ hu'
theorem prs_sub {N : Str → Prop} {ds ds' : List D} (h : Prs N ds) (hs : ∀ d ∈ ds', d ∈ ds) : Prs N ds' := ⟨fun d hd => h.1 d (hs d hd), fun x v v' h1 h2 => h.2 x v v' (hs _ h1) (hs _ h2)⟩
theorem pureL_all : ∀ {ds : List D}, (∀ d ∈ ds, d.pure = true) → D.pureL ds = true
  | [], _ => by rw [D.pureL]
  | d :: ds, h => by rw [D.pureL, h d List.mem_cons_self, pureL_all fun x hx => h x (List.mem_cons_of_mem _ hx)]; rfl
theorem plainL_all : ∀ {ds : List D}, (∀ d ∈ ds, d.plain = true) → D.plainL ds = true
  | [], _ => by rw [D.plainL]
  | d :: ds, h => by rw [D.plainL, h d List.mem_cons_self, plainL_all fun x hx => h x (List.mem_cons_of_mem _ hx)]; rfl
theorem prs_ok {N : Str → Prop} {ds : List D} (h : Prs N ds) (hl : ds.length ≤ 1000) : okSort (D.toPyL ds) = true := by
  unfold okSort
  rw [toPyL_map]
  simp only [Bool.and_eq_true, Bool.or_eq_true, List.all_eq_true, decide_eq_true_eq, List.length_map]
  have hs : sizeLine = 16777216 := sizeLine_eq
  refine ⟨⟨⟨⟨fun d hd d' hd' => ?_, fun d hd => ?_⟩, fun d hd => ?_⟩, .inl fun d hd => ?_⟩, by rw [hs]; omega⟩
  · obtain ⟨u, hu, rfl⟩ := List.mem_map.mp hd
    obtain ⟨u', hu', rfl⟩ := List.mem_map.mp hd'
    obtain ⟨x, v, rfl, _, a⟩ := h.1 u hu
    obtain ⟨x', v', rfl, _, a'⟩ := h.1 u' hu'
    simp only [D.toPy, D.toPyL, sib, sibAll, Bool.true_and, Bool.or_true, Bool.and_true, Bool.or_eq_true, Bool.not_eq_true', PyData.eqv]
    by_cases e : x = x'
    · subst e
      exact .inr (h.2 x v v' hu hu').pure.2.2.1
    · exact .inl (by simp [e])
  · obtain ⟨u, hu, rfl⟩ := List.mem_map.mp hd
    obtain ⟨x, v, rfl, _, a⟩ := h.1 u hu
    simp [D.toPy, D.toPyL, PyData.plain, PyData.plainAll, a.pure.2.2.2.2]
  · obtain ⟨u, hu, rfl⟩ := List.mem_map.mp hd
    obtain ⟨x, v, rfl, _, a⟩ := h.1 u hu
    simp [D.toPy, D.toPyL, PyData.depth, PyData.depthAll, a.pure.2.2.2.1]
  · obtain ⟨u, hu, rfl⟩ := List.mem_map.mp hd
    obtain ⟨x, v, rfl, _, a⟩ := h.1 u hu
    simp [D.toPy, D.toPyL]
theorem prs_pure {N : Str → Prop} {ds : List D} (h : Prs N ds) : D.pureL ds = true ∧ D.plainL ds = true := ⟨pureL_all fun d hd => by
  obtain ⟨x, v, rfl, _, a⟩ := h.1 d hd
  simp [D.pure, D.pureL, a.pure.1], plainL_all fun d hd => by
  obtain ⟨x, v, rfl, _, a⟩ := h.1 d hd
  simp [D.plain, D.plainL, a.pure.2.1]⟩
theorem prs_sort {N : Str → Prop} {ds : List D} {m : Bool} (h : Prs N ds) (hl : ds.length ≤ 1000) : fSort [.lst m ds] = some (.lst true (sortD ds)) := by
  show (if (D.pureL ds && D.plainL ds && okSort (D.toPyL ds)) = true then some (D.lst true (sortD ds)) else none) = _
  rw [(prs_pure h).1, (prs_pure h).2, prs_ok h hl]
  rfl
theorem prs_sorted {N : Str → Prop} {ds : List D} (h : Prs N ds) : Prs N (sortD ds) := prs_sub h fun d hd => sortD_mem.mp hd
end K35
set_option Elab.async false
set_option linter.all false
set_option maxRecDepth 100000
set_option maxHeartbeats 4000000
namespace K35
open PySem PySem.Spec PyProof.Rows L2 G
theorem doors_loop1 {a0 a1 a2 a3 a4 a6 a7 a9 a10 a11 : Sl} {w : Str} : ∀ (xs E : List D) (s : Sl), (∀ d ∈ xs, d.pure = true) → E.length + xs.length ≤ 1000 →
    ∃ s', forGo (gN 12) b_l_doors_f1 xs [a0, a1, a2, a3, a4, .val (.lst true E), a6, a7, .val (.str w), a9, a10, a11, s] = some (.nx, [a0, a1, a2, a3, a4, .val (.lst true (E ++ xs.map fun v => .tup [.str w, v])), a6, a7, .val (.str w), a9, a10, a11, s'])
  | [], E, s, _, _ => ⟨s, by rw [forGo_nil]; simp⟩
  | x :: xs, E, s, hp, hl => by
    rw [List.length_cons] at hl
    have hx := hp x List.mem_cons_self
    have he : E.length < 16777216 := by omega
    obtain ⟨s', ih⟩ := doors_loop1 (a0 := a0) (a1 := a1) (a2 := a2) (a3 := a3) (a4 := a4) (a6 := a6) (a7 := a7) (a9 := a9) (a10 := a10) (a11 := a11) (w := w) xs (E ++ [.tup [.str w, x]]) (.val x) (fun d hd => hp d (List.mem_cons_of_mem _ hd)) (by rw [List.length_append, List.length_singleton]; omega)
    refine ⟨s', ?_⟩
    rw [forGo_nx (e1 := [a0, a1, a2, a3, a4, .val (.lst true E), a6, a7, .val (.str w), a9, a10, a11, .val x]) (e2 := [a0, a1, a2, a3, a4, .val (.lst true (E ++ [.tup [.str w, x]])), a6, a7, .val (.str w), a9, a10, a11, .val x]) (by simp [mSeq, mIf, mTest, mTru, mGt, mLt, mLe, mGe, mEq, mNe, mIsN, mNotN, mIn, mNotIn, mOp, maCons, maNil, mIx, kIx, mN, mC, mSet, mAsgIx, mRet, mRetN, mDrop, mF1, kf, ko, gets, owns, R.get, R.own, R.ok, R.kid, D.kids, D.at, D.pure, D.pureL, dAt, Sl.d?, ixD, ixN, fCmp, fLt, fLe, fGt, fGe, fMod, fDiv, fMul, fAdd, fSub, fInt, fAbs, fSetIx, kCh, enPut, Sl.put, D.put, D.setKid, argsOnly, outs, mMod, mDiv, mMul, mAdd, mSub, mSkip, mBrk, mCnt, mAnd, mOr, mNot, mVal, mIfE, mCall, kCall, imps, wbs, mTup, fTup, mLst, fLst, fLenG, fLen, fLenD, mPow, fPow, fIsN, fNotN, D.isNon, D.isHole, fIn, fNotIn, D.truth, mUnp, gN, gT, gsCons, gsNil, mApp, mPop, mMeth, maConsP, tyP, tyD, fL, lApp, lPop, sizeLine_eq, fEq_int, fEq_str, fNe_int, fNe_str, hx]) (by simp [b_l_doors_f1, mSeq, mIf, mTest, mTru, mGt, mLt, mLe, mGe, mEq, mNe, mIsN, mNotN, mIn, mNotIn, mOp, maCons, maNil, mIx, kIx, mN, mC, mSet, mAsgIx, mRet, mRetN, mDrop, mF1, kf, ko, gets, owns, R.get, R.own, R.ok, R.kid, D.kids, D.at, D.pure, D.pureL, dAt, Sl.d?, ixD, ixN, fCmp, fLt, fLe, fGt, fGe, fMod, fDiv, fMul, fAdd, fSub, fInt, fAbs, fSetIx, kCh, enPut, Sl.put, D.put, D.setKid, argsOnly, outs, mMod, mDiv, mMul, mAdd, mSub, mSkip, mBrk, mCnt, mAnd, mOr, mNot, mVal, mIfE, mCall, kCall, imps, wbs, mTup, fTup, mLst, fLst, fLenG, fLen, fLenD, mPow, fPow, fIsN, fNotN, D.isNon, D.isHole, fIn, fNotIn, D.truth, mUnp, gN, gT, gsCons, gsNil, mApp, mPop, mMeth, maConsP, tyP, tyD, fL, lApp, lPop, sizeLine_eq, fEq_int, fEq_str, fNe_int, fNe_str, hx, he]), ih]
    simp
def InK (ks : List D) (x : Str) : Prop := D.str x ∈ ks ∧ 1 ≤ x.length ∧ PyData.strOk x = true
theorem tak_add {n : Nat} {ks vs : List D} {w : Str} (h : Tak n (.dct true ks vs)) : Tak (n + 1) (.dct true (ks ++ [.str w]) (vs ++ [.bl true])) := by
  obtain ⟨ks', vs', e, h1, h2, h3⟩ := h
  injection e with _ e1 e2
  subst e1 e2
  refine ⟨_, _, rfl, fun k hk => ?_, by rw [List.length_append, List.length_append, h2]; rfl, by rw [List.length_append]; exact Nat.add_le_add_right h3 1⟩
  rcases List.mem_append.mp hk with hk | hk
  · exact h1 k hk
  · rw [List.mem_singleton] at hk
    exact ⟨w, hk⟩
theorem fresh_tak {n : Nat} {S : D} {ks vs : List D} (g : Bool) (hS : Src S) (hT : Tak n (.dct true ks vs)) (hn : n ≤ 900) :
    ∃ w S' ks' vs', Src S' ∧ Tak (n + 1) (.dct true ks' vs') ∧ ¬ InK ks w ∧ InK ks' w ∧ (∀ x, InK ks x → InK ks' x) ∧ m_l_fresh [S, .dct true ks vs, .bl g] = some (.str w, [S', .dct true ks' vs', .bl g]) := by
  obtain ⟨ks', vs', e, h1, h2, h3⟩ := id hT
  injection e with _ e1 e2
  subst e1 e2
  obtain ⟨w, S', a, b, c, d⟩ := fresh_ok (vs := vs) (g := g) hS h1 (by omega)
  exact ⟨w, S', _, _, a, tak_add hT, fun h => b h.1, ⟨List.mem_append_right _ (List.mem_singleton_self _), c⟩, fun x h => ⟨List.mem_append_left _ h.1, h.2⟩, d⟩
theorem tak_le {m n : Nat} {d : D} (h : Tak m d) (l : m ≤ n) : Tak n d := by
  obtain ⟨ks, vs, e, h1, h2, h3⟩ := h
  exact ⟨ks, vs, e, h1, h2, by omega⟩
def kindB (rest : MS) : MS :=
  (mSeq (mIf (mTest (mGt (mN 11) (mC (.int 3)))) (mSeq (mSet 9 (mCall m_l_fresh [0, 1] (maCons (mN 0) (maCons (mN 1) (maCons (mC (.bl true)) maNil)))))
  (mSet 10 (mLst (maCons (mC (.int 0)) (maCons (mC (.int 1)) maNil))))) mSkip)
  (mSeq (mIf (mTest (mEq (mN 11) (mC (.int 5)))) (mSet 10 (mLst (maCons (mCall m_l_fresh [0, 1] (maCons (mN 0) (maCons (mN 1) (maCons (mC (.bl true)) maNil)))) (maCons (mCall m_l_fresh [0, 1] (maCons (mN 0) (maCons (mN 1) (maCons (mC (.bl true)) maNil)))) maNil)))) mSkip)
  rest))
theorem alk_str {x y : Str} {ks ks' : List D} (h : InK ks x) (h' : InK ks' y) : Alk (.str x) (.str y) := .inr (.inr ⟨x, y, rfl, rfl, h.2.2, h'.2.2⟩)
theorem alk_int (x y : Int) : Alk (.int x) (.int y) := .inr (.inl ⟨x, y, rfl, rfl⟩)
theorem alk_non : Alk .non .non := .inl ⟨rfl, rfl⟩
theorem tak_pure {n : Nat} {ks vs : List D} : (D.dct true ks vs).pure = false := rfl
theorem doors_kind {n : Nat} {S : D} {ks vs : List D} {a2 a3 a4 a5 a6 a7 s12 : Sl} {w : Str} {r : Int} (hS : Src S) (hT : Tak n (.dct true ks vs)) (hn : n ≤ 800) (h0 : 0 ≤ r) (h1 : r < 6) (rest : MS) :
    ∃ S' ks' vs' t xs, Src S' ∧ Tak (n + 3) (.dct true ks' vs') ∧ (∀ x, InK ks x → InK ks' x) ∧ Alk t t ∧ (∀ v ∈ xs, ∀ v' ∈ xs, Alk v v') ∧ xs.length ≤ 2 ∧
      (kindB rest).run [.arg S, .arg (.dct true ks vs), a2, a3, a4, a5, a6, a7, .val (.str w), .val .non, .val (.lst true [.non]), .val (.int r), s12] =
        rest.run [.arg S', .arg (.dct true ks' vs'), a2, a3, a4, a5, a6, a7, .val (.str w), .val t, .val (.lst true xs), .val (.int r), s12] := by
  have ps := src_pure hS
  have hz : sizeLine = 16777216 := sizeLine_eq
  by_cases c1 : r > 3
  · obtain ⟨t, S1, k1, v1, b1, b2, b3, b4, b5, b6⟩ := fresh_tak true hS hT (by omega)
    have p1 := src_pure b1
    have q1 : (mIf (mTest (mGt (mN 11) (mC (.int 3)))) (mSeq (mSet 9 (mCall m_l_fresh [0, 1] (maCons (mN 0) (maCons (mN 1) (maCons (mC (.bl true)) maNil))))) (mSet 10 (mLst (maCons (mC (.int 0)) (maCons (mC (.int 1)) maNil))))) mSkip).run [.arg S, .arg (.dct true ks vs), a2, a3, a4, a5, a6, a7, .val (.str w), .val .non, .val (.lst true [.non]), .val (.int r), s12] =
        some (.nx, [.arg S1, .arg (.dct true k1 v1), a2, a3, a4, a5, a6, a7, .val (.str w), .val (.str t), .val (.lst true [.int 0, .int 1]), .val (.int r), s12]) := by
      simp [mSeq, mIf, mTest, mTru, mGt, mLt, mLe, mGe, mEq, mNe, mIsN, mNotN, mIn, mNotIn, mOp, maCons, maNil, mIx, kIx, mN, mC, mSet, mAsgIx, mRet, mRetN, mDrop, mF1, kf, ko, gets, owns, R.get, R.own, R.ok, R.kid, D.kids, D.at, D.pure, D.pureL, dAt, Sl.d?, ixD, ixN, fCmp, fLt, fLe, fGt, fGe, fMod, fDiv, fMul, fAdd, fSub, fInt, fAbs, fSetIx, kCh, enPut, Sl.put, D.put, D.setKid, argsOnly, outs, mMod, mDiv, mMul, mAdd, mSub, mSkip, mBrk, mCnt, mAnd, mOr, mNot, mVal, mIfE, mCall, kCall, imps, wbs, mTup, fTup, mLst, fLst, fLenG, fLen, fLenD, mPow, fPow, fIsN, fNotN, D.isNon, D.isHole, fIn, fNotIn, D.truth, mUnp, gN, gT, gsCons, gsNil, mApp, mPop, mMeth, maConsP, tyP, tyD, fL, lApp, lPop, sizeLine_eq, fEq_int, fEq_str, fNe_int, fNe_str, c1, b6, ps]
    by_cases c2 : r = 5
    · subst c2
      obtain ⟨x, S2, k2, v2, d1, d2, d3, d4, d5, d6⟩ := fresh_tak true b1 b2 (by omega)
      obtain ⟨y, S3, k3, v3, e1, e2, e3, e4, e5, e6⟩ := fresh_tak true d1 d2 (by omega)
      have p2 := src_pure d1
      refine ⟨S3, k3, v3, .str t, [.str x, .str y], e1, e2, fun z hz => e5 z (d5 z (b5 z hz)), alk_str b4 b4, fun v hv v' hv' => ?_, by simp, ?_⟩
      · simp only [List.mem_cons, List.not_mem_nil, or_false] at hv hv'
        rcases hv with rfl | rfl <;> rcases hv' with rfl | rfl <;> first | exact alk_str d4 d4 | exact alk_str d4 e4 | exact alk_str e4 d4 | exact alk_str e4 e4
      · unfold kindB
        rw [seq_nx q1, seq_nx]
        simp [mSeq, mIf, mTest, mTru, mGt, mLt, mLe, mGe, mEq, mNe, mIsN, mNotN, mIn, mNotIn, mOp, maCons, maNil, mIx, kIx, mN, mC, mSet, mAsgIx, mRet, mRetN, mDrop, mF1, kf, ko, gets, owns, R.get, R.own, R.ok, R.kid, D.kids, D.at, D.pure, D.pureL, dAt, Sl.d?, ixD, ixN, fCmp, fLt, fLe, fGt, fGe, fMod, fDiv, fMul, fAdd, fSub, fInt, fAbs, fSetIx, kCh, enPut, Sl.put, D.put, D.setKid, argsOnly, outs, mMod, mDiv, mMul, mAdd, mSub, mSkip, mBrk, mCnt, mAnd, mOr, mNot, mVal, mIfE, mCall, kCall, imps, wbs, mTup, fTup, mLst, fLst, fLenG, fLen, fLenD, mPow, fPow, fIsN, fNotN, D.isNon, D.isHole, fIn, fNotIn, D.truth, mUnp, gN, gT, gsCons, gsNil, mApp, mPop, mMeth, maConsP, tyP, tyD, fL, lApp, lPop, sizeLine_eq, fEq_int, fEq_str, fNe_int, fNe_str, d6, e6, p1, p2]
    · refine ⟨S1, k1, v1, .str t, [.int 0, .int 1], b1, tak_le b2 (by omega), b5, alk_str b4 b4, fun v hv v' hv' => ?_, by simp, ?_⟩
      · simp only [List.mem_cons, List.not_mem_nil, or_false] at hv hv'
        rcases hv with rfl | rfl <;> rcases hv' with rfl | rfl <;> exact alk_int _ _
      · unfold kindB
        rw [seq_nx q1, seq_nx]
        simp [mSeq, mIf, mTest, mTru, mGt, mLt, mLe, mGe, mEq, mNe, mIsN, mNotN, mIn, mNotIn, mOp, maCons, maNil, mIx, kIx, mN, mC, mSet, mAsgIx, mRet, mRetN, mDrop, mF1, kf, ko, gets, owns, R.get, R.own, R.ok, R.kid, D.kids, D.at, D.pure, D.pureL, dAt, Sl.d?, ixD, ixN, fCmp, fLt, fLe, fGt, fGe, fMod, fDiv, fMul, fAdd, fSub, fInt, fAbs, fSetIx, kCh, enPut, Sl.put, D.put, D.setKid, argsOnly, outs, mMod, mDiv, mMul, mAdd, mSub, mSkip, mBrk, mCnt, mAnd, mOr, mNot, mVal, mIfE, mCall, kCall, imps, wbs, mTup, fTup, mLst, fLst, fLenG, fLen, fLenD, mPow, fPow, fIsN, fNotN, D.isNon, D.isHole, fIn, fNotIn, D.truth, mUnp, gN, gT, gsCons, gsNil, mApp, mPop, mMeth, maConsP, tyP, tyD, fL, lApp, lPop, sizeLine_eq, fEq_int, fEq_str, fNe_int, fNe_str, c2]
  · have c2 : ¬ r = 5 := by omega
    refine ⟨S, ks, vs, .non, [.non], hS, tak_le hT (by omega), fun _ h => h, alk_non, fun v hv v' hv' => ?_, by simp, ?_⟩
    · rw [List.mem_singleton] at hv hv'
      subst hv hv'
      exact alk_non
    · unfold kindB
      rw [seq_nx (e1 := [.arg S, .arg (.dct true ks vs), a2, a3, a4, a5, a6, a7, .val (.str w), .val .non, .val (.lst true [.non]), .val (.int r), s12]) (by simp [mSeq, mIf, mTest, mTru, mGt, mLt, mLe, mGe, mEq, mNe, mIsN, mNotN, mIn, mNotIn, mOp, maCons, maNil, mIx, kIx, mN, mC, mSet, mAsgIx, mRet, mRetN, mDrop, mF1, kf, ko, gets, owns, R.get, R.own, R.ok, R.kid, D.kids, D.at, D.pure, D.pureL, dAt, Sl.d?, ixD, ixN, fCmp, fLt, fLe, fGt, fGe, fMod, fDiv, fMul, fAdd, fSub, fInt, fAbs, fSetIx, kCh, enPut, Sl.put, D.put, D.setKid, argsOnly, outs, mMod, mDiv, mMul, mAdd, mSub, mSkip, mBrk, mCnt, mAnd, mOr, mNot, mVal, mIfE, mCall, kCall, imps, wbs, mTup, fTup, mLst, fLst, fLenG, fLen, fLenD, mPow, fPow, fIsN, fNotN, D.isNon, D.isHole, fIn, fNotIn, D.truth, mUnp, gN, gT, gsCons, gsNil, mApp, mPop, mMeth, maConsP, tyP, tyD, fL, lApp, lPop, sizeLine_eq, fEq_int, fEq_str, fNe_int, fNe_str, c1]), seq_nx]
      simp [mSeq, mIf, mTest, mTru, mGt, mLt, mLe, mGe, mEq, mNe, mIsN, mNotN, mIn, mNotIn, mOp, maCons, maNil, mIx, kIx, mN, mC, mSet, mAsgIx, mRet, mRetN, mDrop, mF1, kf, ko, gets, owns, R.get, R.own, R.ok, R.kid, D.kids, D.at, D.pure, D.pureL, dAt, Sl.d?, ixD, ixN, fCmp, fLt, fLe, fGt, fGe, fMod, fDiv, fMul, fAdd, fSub, fInt, fAbs, fSetIx, kCh, enPut, Sl.put, D.put, D.setKid, argsOnly, outs, mMod, mDiv, mMul, mAdd, mSub, mSkip, mBrk, mCnt, mAnd, mOr, mNot, mVal, mIfE, mCall, kCall, imps, wbs, mTup, fTup, mLst, fLst, fLenG, fLen, fLenD, mPow, fPow, fIsN, fNotN, D.isNon, D.isHole, fIn, fNotIn, D.truth, mUnp, gN, gT, gsCons, gsNil, mApp, mPop, mMeth, maConsP, tyP, tyD, fL, lApp, lPop, sizeLine_eq, fEq_int, fEq_str, fNe_int, fNe_str, c2]
end K35
set_option Elab.async false
set_option linter.all false
set_option maxRecDepth 100000
set_option maxHeartbeats 4000000
namespace K35
open PySem PySem.Spec PyProof.Rows L2 G
def DInv (n m : Nat) (S : D) (ks vs I O E : List D) : Prop := Src S ∧ Tak n (.dct true ks vs) ∧ Prs (InK ks) (I ++ O) ∧ Prs (InK ks) E ∧ I.length + O.length ≤ m ∧ E.length ≤ 2 * m
theorem doors_put {N N' : Str → Prop} {I O : List D} {w : Str} {t : D} (h : Prs N (I ++ O)) (hn : ∀ x, N x → N' x) (hw : N' w) (hd : ¬ N w) (ht : Alk t t) : Prs N' (I ++ [.tup [.str w, t]] ++ O) ∧ Prs N' (I ++ (O ++ [.tup [.str w, t]])) := by
  have := prs_add (vs := [t]) h hn hw hd (fun v hv v' hv' => by rw [List.mem_singleton] at hv hv'; subst hv hv'; exact ht)
  refine ⟨prs_sub this fun d hd => ?_, prs_sub this fun d hd => ?_⟩
  · simp only [List.mem_append, List.map_cons, List.map_nil] at hd ⊢
    rcases hd with (h | h) | h
    · exact .inl (.inl h)
    · exact .inr h
    · exact .inl (.inr h)
  · simp only [List.mem_append, List.map_cons, List.map_nil] at hd ⊢
    rcases hd with h | h | h
    · exact .inl (.inl h)
    · exact .inl (.inr h)
    · exact .inr h
theorem doors_f2 {n m : Nat} {S : D} {ks vs I O E : List D} {a2 a6 a7 s8 s9 s10 s11 s12 : Sl} (h : DInv n m S ks vs I O E) (hn : n ≤ 700) (hm : m ≤ 100) :
    ∃ S' ks' vs' I' O' E' t8 t9 t10 t11 t12, DInv (n + 4) (m + 1) S' ks' vs' I' O' E' ∧
      b_l_doors_f2.run [.arg S, .arg (.dct true ks vs), a2, .val (.lst true I), .val (.lst true O), .val (.lst true E), a6, a7, s8, s9, s10, s11, s12] =
        some (.nx, [.arg S', .arg (.dct true ks' vs'), a2, .val (.lst true I'), .val (.lst true O'), .val (.lst true E'), a6, a7, t8, t9, t10, t11, t12]) := by
  obtain ⟨hS, hT, h1, h2, h3, h4⟩ := h
  obtain ⟨w, S1, k1, v1, b1, b2, b3, b4, b5, b6⟩ := fresh_tak false hS hT (by omega)
  obtain ⟨r, S2, c1, c2, c3, c4⟩ := draw_ok (n := 6) b1 (by decide) (by decide)
  obtain ⟨S3, k3, v3, t, xs, d1, d2, d3, d4, d5, d6, d7⟩ := doors_kind (n := n + 1) (S := S2) (ks := k1) (vs := v1) (a2 := a2) (a3 := .val (.lst true I)) (a4 := .val (.lst true O)) (a5 := .val (.lst true E)) (a6 := a6) (a7 := a7) (s12 := s12) (w := w) c1 b2 (by omega) c2 c3
    (mSeq (mIf (mTest (mEq (mCall m_l_draw [0] (maCons (mN 0) (maCons (mC (.int 2)) maNil))) (mC (.int 0)))) (mDrop (mApp [3] (mN 3) (mTup (maCons (mN 8) (maCons (mN 9) maNil))))) (mDrop (mApp [4] (mN 4) (mTup (maCons (mN 8) (maCons (mN 9) maNil))))))
  (mFor (iSeq (mN 10)) (gN 12) b_l_doors_f1))
  obtain ⟨q, S4, e1, e2, e3, e4⟩ := draw_ok (n := 2) d1 (by decide) (by decide)
  have ps := src_pure hS
  have p1 := src_pure b1
  have p3 := src_pure d1
  have pt : t.pure = true := d4.pure.1
  have pxs : ∀ d ∈ xs, d.pure = true := fun d hd => (d5 d hd d hd).pure.1
  have pxl := pureL_all pxs
  have li : I.length < 16777216 := by omega
  have lo : O.length < 16777216 := by omega
  obtain ⟨p5, p6⟩ := doors_put h1 (fun x hx => d3 x (b5 x hx)) (d3 w b4) b3 d4
  have p7 : Prs (InK k3) (E ++ xs.map fun v => .tup [.str w, v]) := prs_add h2 (fun x hx => d3 x (b5 x hx)) (d3 w b4) b3 d5
  have head : ∀ {rest : MS}, (mSeq (mSet 8 (mCall m_l_fresh [0, 1] (maCons (mN 0) (maCons (mN 1) (maCons (mC (.bl false)) maNil)))))
  (mSeq (mSet 9 (mC .non))
  (mSeq (mSet 10 (mLst (maCons (mC .non) maNil)))
  (mSeq (mSet 11 (mCall m_l_draw [0] (maCons (mN 0) (maCons (mC (.int 6)) maNil)))) rest)))).run [.arg S, .arg (.dct true ks vs), a2, .val (.lst true I), .val (.lst true O), .val (.lst true E), a6, a7, s8, s9, s10, s11, s12] =
      rest.run [.arg S2, .arg (.dct true k1 v1), a2, .val (.lst true I), .val (.lst true O), .val (.lst true E), a6, a7, .val (.str w), .val .non, .val (.lst true [.non]), .val (.int r), s12] := fun {rest} => by
    rw [seq_nx (e1 := [.arg S1, .arg (.dct true k1 v1), a2, .val (.lst true I), .val (.lst true O), .val (.lst true E), a6, a7, .val (.str w), s9, s10, s11, s12]) (by simp [mSeq, mIf, mTest, mTru, mGt, mLt, mLe, mGe, mEq, mNe, mIsN, mNotN, mIn, mNotIn, mOp, maCons, maNil, mIx, kIx, mN, mC, mSet, mAsgIx, mRet, mRetN, mDrop, mF1, kf, ko, gets, owns, R.get, R.own, R.ok, R.kid, D.kids, D.at, D.pure, D.pureL, dAt, Sl.d?, ixD, ixN, fCmp, fLt, fLe, fGt, fGe, fMod, fDiv, fMul, fAdd, fSub, fInt, fAbs, fSetIx, kCh, enPut, Sl.put, D.put, D.setKid, argsOnly, outs, mMod, mDiv, mMul, mAdd, mSub, mSkip, mBrk, mCnt, mAnd, mOr, mNot, mVal, mIfE, mCall, kCall, imps, wbs, mTup, fTup, mLst, fLst, fLenG, fLen, fLenD, mPow, fPow, fIsN, fNotN, D.isNon, D.isHole, fIn, fNotIn, D.truth, mUnp, gN, gT, gsCons, gsNil, mApp, mPop, mMeth, maConsP, tyP, tyD, fL, lApp, lPop, sizeLine_eq, fEq_int, fEq_str, fNe_int, fNe_str, b6, ps]),
      seq_nx (e1 := [.arg S1, .arg (.dct true k1 v1), a2, .val (.lst true I), .val (.lst true O), .val (.lst true E), a6, a7, .val (.str w), .val .non, s10, s11, s12]) (by simp [mSeq, mIf, mTest, mTru, mGt, mLt, mLe, mGe, mEq, mNe, mIsN, mNotN, mIn, mNotIn, mOp, maCons, maNil, mIx, kIx, mN, mC, mSet, mAsgIx, mRet, mRetN, mDrop, mF1, kf, ko, gets, owns, R.get, R.own, R.ok, R.kid, D.kids, D.at, D.pure, D.pureL, dAt, Sl.d?, ixD, ixN, fCmp, fLt, fLe, fGt, fGe, fMod, fDiv, fMul, fAdd, fSub, fInt, fAbs, fSetIx, kCh, enPut, Sl.put, D.put, D.setKid, argsOnly, outs, mMod, mDiv, mMul, mAdd, mSub, mSkip, mBrk, mCnt, mAnd, mOr, mNot, mVal, mIfE, mCall, kCall, imps, wbs, mTup, fTup, mLst, fLst, fLenG, fLen, fLenD, mPow, fPow, fIsN, fNotN, D.isNon, D.isHole, fIn, fNotIn, D.truth, mUnp, gN, gT, gsCons, gsNil, mApp, mPop, mMeth, maConsP, tyP, tyD, fL, lApp, lPop, sizeLine_eq, fEq_int, fEq_str, fNe_int, fNe_str]),
      seq_nx (e1 := [.arg S1, .arg (.dct true k1 v1), a2, .val (.lst true I), .val (.lst true O), .val (.lst true E), a6, a7, .val (.str w), .val .non, .val (.lst true [.non]), s11, s12]) (by simp [mSeq, mIf, mTest, mTru, mGt, mLt, mLe, mGe, mEq, mNe, mIsN, mNotN, mIn, mNotIn, mOp, maCons, maNil, mIx, kIx, mN, mC, mSet, mAsgIx, mRet, mRetN, mDrop, mF1, kf, ko, gets, owns, R.get, R.own, R.ok, R.kid, D.kids, D.at, D.pure, D.pureL, dAt, Sl.d?, ixD, ixN, fCmp, fLt, fLe, fGt, fGe, fMod, fDiv, fMul, fAdd, fSub, fInt, fAbs, fSetIx, kCh, enPut, Sl.put, D.put, D.setKid, argsOnly, outs, mMod, mDiv, mMul, mAdd, mSub, mSkip, mBrk, mCnt, mAnd, mOr, mNot, mVal, mIfE, mCall, kCall, imps, wbs, mTup, fTup, mLst, fLst, fLenG, fLen, fLenD, mPow, fPow, fIsN, fNotN, D.isNon, D.isHole, fIn, fNotIn, D.truth, mUnp, gN, gT, gsCons, gsNil, mApp, mPop, mMeth, maConsP, tyP, tyD, fL, lApp, lPop, sizeLine_eq, fEq_int, fEq_str, fNe_int, fNe_str]),
      seq_nx (e1 := [.arg S2, .arg (.dct true k1 v1), a2, .val (.lst true I), .val (.lst true O), .val (.lst true E), a6, a7, .val (.str w), .val .non, .val (.lst true [.non]), .val (.int r), s12]) (by simp [mSeq, mIf, mTest, mTru, mGt, mLt, mLe, mGe, mEq, mNe, mIsN, mNotN, mIn, mNotIn, mOp, maCons, maNil, mIx, kIx, mN, mC, mSet, mAsgIx, mRet, mRetN, mDrop, mF1, kf, ko, gets, owns, R.get, R.own, R.ok, R.kid, D.kids, D.at, D.pure, D.pureL, dAt, Sl.d?, ixD, ixN, fCmp, fLt, fLe, fGt, fGe, fMod, fDiv, fMul, fAdd, fSub, fInt, fAbs, fSetIx, kCh, enPut, Sl.put, D.put, D.setKid, argsOnly, outs, mMod, mDiv, mMul, mAdd, mSub, mSkip, mBrk, mCnt, mAnd, mOr, mNot, mVal, mIfE, mCall, kCall, imps, wbs, mTup, fTup, mLst, fLst, fLenG, fLen, fLenD, mPow, fPow, fIsN, fNotN, D.isNon, D.isHole, fIn, fNotIn, D.truth, mUnp, gN, gT, gsCons, gsNil, mApp, mPop, mMeth, maConsP, tyP, tyD, fL, lApp, lPop, sizeLine_eq, fEq_int, fEq_str, fNe_int, fNe_str, c4, p1])]
  have tail : ∀ (I' O' : List D), ∃ s', (mFor (iSeq (mN 10)) (gN 12) b_l_doors_f1).run [.arg S4, .arg (.dct true k3 v3), a2, .val (.lst true I'), .val (.lst true O'), .val (.lst true E), a6, a7, .val (.str w), .val t, .val (.lst true xs), .val (.int r), s12] =
      some (.nx, [.arg S4, .arg (.dct true k3 v3), a2, .val (.lst true I'), .val (.lst true O'), .val (.lst true (E ++ xs.map fun v => .tup [.str w, v])), a6, a7, .val (.str w), .val t, .val (.lst true xs), .val (.int r), s']) := fun I' O' => by
    obtain ⟨s', hs⟩ := doors_loop1 (a0 := .arg S4) (a1 := .arg (.dct true k3 v3)) (a2 := a2) (a3 := .val (.lst true I')) (a4 := .val (.lst true O')) (a6 := a6) (a7 := a7) (a9 := .val t) (a10 := .val (.lst true xs)) (a11 := .val (.int r)) (w := w) xs E s12 pxs (by omega)
    refine ⟨s', (for_run (ds := xs) (rs := [.p 10 []]) (by simp [iSeq, D.items, mSeq, mIf, mTest, mTru, mGt, mLt, mLe, mGe, mEq, mNe, mIsN, mNotN, mIn, mNotIn, mOp, maCons, maNil, mIx, kIx, mN, mC, mSet, mAsgIx, mRet, mRetN, mDrop, mF1, kf, ko, gets, owns, R.get, R.own, R.ok, R.kid, D.kids, D.at, D.pure, D.pureL, dAt, Sl.d?, ixD, ixN, fCmp, fLt, fLe, fGt, fGe, fMod, fDiv, fMul, fAdd, fSub, fInt, fAbs, fSetIx, kCh, enPut, Sl.put, D.put, D.setKid, argsOnly, outs, mMod, mDiv, mMul, mAdd, mSub, mSkip, mBrk, mCnt, mAnd, mOr, mNot, mVal, mIfE, mCall, kCall, imps, wbs, mTup, fTup, mLst, fLst, fLenG, fLen, fLenD, mPow, fPow, fIsN, fNotN, D.isNon, D.isHole, fIn, fNotIn, D.truth, mUnp, gN, gT, gsCons, gsNil, mApp, mPop, mMeth, maConsP, tyP, tyD, fL, lApp, lPop, sizeLine_eq, fEq_int, fEq_str, fNe_int, fNe_str, pxl]) rfl).trans hs⟩
  have he : (E ++ xs.map fun v => D.tup [.str w, v]).length ≤ 2 * (m + 1) := by rw [List.length_append, List.length_map]; omega
  by_cases c : q = 0
  · obtain ⟨s', hs⟩ := tail (I ++ [.tup [.str w, t]]) O
    refine ⟨S4, k3, v3, I ++ [.tup [.str w, t]], O, _, .val (.str w), .val t, .val (.lst true xs), .val (.int r), s', ⟨e1, tak_le d2 (by omega), p5, p7, by rw [List.length_append, List.length_singleton]; omega, he⟩, ?_⟩
    refine (head (rest := kindB _)).trans (d7.trans ?_)
    rw [seq_nx (e1 := [.arg S4, .arg (.dct true k3 v3), a2, .val (.lst true (I ++ [.tup [.str w, t]])), .val (.lst true O), .val (.lst true E), a6, a7, .val (.str w), .val t, .val (.lst true xs), .val (.int r), s12]) (by simp [mSeq, mIf, mTest, mTru, mGt, mLt, mLe, mGe, mEq, mNe, mIsN, mNotN, mIn, mNotIn, mOp, maCons, maNil, mIx, kIx, mN, mC, mSet, mAsgIx, mRet, mRetN, mDrop, mF1, kf, ko, gets, owns, R.get, R.own, R.ok, R.kid, D.kids, D.at, D.pure, D.pureL, dAt, Sl.d?, ixD, ixN, fCmp, fLt, fLe, fGt, fGe, fMod, fDiv, fMul, fAdd, fSub, fInt, fAbs, fSetIx, kCh, enPut, Sl.put, D.put, D.setKid, argsOnly, outs, mMod, mDiv, mMul, mAdd, mSub, mSkip, mBrk, mCnt, mAnd, mOr, mNot, mVal, mIfE, mCall, kCall, imps, wbs, mTup, fTup, mLst, fLst, fLenG, fLen, fLenD, mPow, fPow, fIsN, fNotN, D.isNon, D.isHole, fIn, fNotIn, D.truth, mUnp, gN, gT, gsCons, gsNil, mApp, mPop, mMeth, maConsP, tyP, tyD, fL, lApp, lPop, sizeLine_eq, fEq_int, fEq_str, fNe_int, fNe_str, e4, c, p3, pt, li])]
    exact hs
  · obtain ⟨s', hs⟩ := tail I (O ++ [.tup [.str w, t]])
    refine ⟨S4, k3, v3, I, O ++ [.tup [.str w, t]], _, .val (.str w), .val t, .val (.lst true xs), .val (.int r), s', ⟨e1, tak_le d2 (by omega), p6, p7, by rw [List.length_append, List.length_singleton]; omega, he⟩, ?_⟩
    refine (head (rest := kindB _)).trans (d7.trans ?_)
    rw [seq_nx (e1 := [.arg S4, .arg (.dct true k3 v3), a2, .val (.lst true I), .val (.lst true (O ++ [.tup [.str w, t]])), .val (.lst true E), a6, a7, .val (.str w), .val t, .val (.lst true xs), .val (.int r), s12]) (by simp [mSeq, mIf, mTest, mTru, mGt, mLt, mLe, mGe, mEq, mNe, mIsN, mNotN, mIn, mNotIn, mOp, maCons, maNil, mIx, kIx, mN, mC, mSet, mAsgIx, mRet, mRetN, mDrop, mF1, kf, ko, gets, owns, R.get, R.own, R.ok, R.kid, D.kids, D.at, D.pure, D.pureL, dAt, Sl.d?, ixD, ixN, fCmp, fLt, fLe, fGt, fGe, fMod, fDiv, fMul, fAdd, fSub, fInt, fAbs, fSetIx, kCh, enPut, Sl.put, D.put, D.setKid, argsOnly, outs, mMod, mDiv, mMul, mAdd, mSub, mSkip, mBrk, mCnt, mAnd, mOr, mNot, mVal, mIfE, mCall, kCall, imps, wbs, mTup, fTup, mLst, fLst, fLenG, fLen, fLenD, mPow, fPow, fIsN, fNotN, D.isNon, D.isHole, fIn, fNotIn, D.truth, mUnp, gN, gT, gsCons, gsNil, mApp, mPop, mMeth, maConsP, tyP, tyD, fL, lApp, lPop, sizeLine_eq, fEq_int, fEq_str, fNe_int, fNe_str, e4, c, p3, pt, lo])]
    exact hs
end K35
set_option Elab.async false
set_option linter.all false
set_option maxRecDepth 100000
set_option maxHeartbeats 4000000
namespace K35
open PySem PySem.Spec PyProof.Rows L2 G
theorem doors_loop2 {a2 a6 : Sl} : ∀ (ds : List D) {n m : Nat} {S : D} {ks vs I O E : List D} {s7 s8 s9 s10 s11 s12 : Sl}, (∀ d ∈ ds, d.pure = true) → DInv n m S ks vs I O E → n + 4 * ds.length ≤ 700 → m + ds.length ≤ 100 →
    ∃ S' ks' vs' I' O' E' t7 t8 t9 t10 t11 t12, DInv (n + 4 * ds.length) (m + ds.length) S' ks' vs' I' O' E' ∧
      forGo (gN 7) b_l_doors_f2 ds [.arg S, .arg (.dct true ks vs), a2, .val (.lst true I), .val (.lst true O), .val (.lst true E), a6, s7, s8, s9, s10, s11, s12] =
        some (.nx, [.arg S', .arg (.dct true ks' vs'), a2, .val (.lst true I'), .val (.lst true O'), .val (.lst true E'), a6, t7, t8, t9, t10, t11, t12])
  | [], n, m, S, ks, vs, I, O, E, s7, s8, s9, s10, s11, s12, _, h, _, _ => ⟨S, ks, vs, I, O, E, s7, s8, s9, s10, s11, s12, h, forGo_nil⟩
  | d :: ds, n, m, S, ks, vs, I, O, E, s7, s8, s9, s10, s11, s12, hp, h, hn, hm => by
    rw [List.length_cons] at hn hm ⊢
    obtain ⟨S1, k1, v1, I1, O1, E1, t8, t9, t10, t11, t12, h1, h2⟩ := doors_f2 (a2 := a2) (a6 := a6) (a7 := .val d) (s8 := s8) (s9 := s9) (s10 := s10) (s11 := s11) (s12 := s12) h (by omega) (by omega)
    obtain ⟨S2, k2, v2, I2, O2, E2, u7, u8, u9, u10, u11, u12, h3, h4⟩ := doors_loop2 (a2 := a2) (a6 := a6) ds (s7 := .val d) (s8 := t8) (s9 := t9) (s10 := t10) (s11 := t11) (s12 := t12) (fun x hx => hp x (List.mem_cons_of_mem _ hx)) h1 (by omega) (by omega)
    refine ⟨S2, k2, v2, I2, O2, E2, u7, u8, u9, u10, u11, u12, ?_, ?_⟩
    · have e1 : n + 4 * (ds.length + 1) = n + 4 + 4 * ds.length := by omega
      have e2 : m + (ds.length + 1) = m + 1 + ds.length := by omega
      rw [e1, e2]; exact h3
    · have hd := hp d List.mem_cons_self
      rw [forGo_nx (e1 := [.arg S, .arg (.dct true ks vs), a2, .val (.lst true I), .val (.lst true O), .val (.lst true E), a6, .val d, s8, s9, s10, s11, s12]) (by simp [gN, hd]) h2]
      exact h4
def Evs (E : List D) : Prop := Prs (fun x => 1 ≤ x.length ∧ PyData.strOk x = true) E
theorem doors_ok {S : D} {ks vs : List D} {n : Int} (hS : Src S) (hT : Tak 100 (.dct true ks vs)) (h0 : 0 ≤ n) (h1 : n ≤ 20) :
    ∃ S' ks' vs' I O E, Src S' ∧ D.pureL I = true ∧ D.pureL O = true ∧ D.plainL I = true ∧ D.plainL O = true ∧ Evs E ∧ E.length ≤ 2 * n.toNat ∧
      m_l_doors [S, .dct true ks vs, .int n] = some (.tup [.tup I, .tup O, .lst true E], [S', .dct true ks' vs', .int n]) := by
  obtain ⟨r, S1, b1, b2, b3, b4⟩ := draw_ok (n := n + 1) hS (by omega) (by omega)
  have ps := src_pure hS
  have p1 := src_pure b1
  obtain ⟨j, S2, c1, c2, c3, c4⟩ : ∃ j S2, Src S2 ∧ 0 ≤ j ∧ j ≤ n ∧ (mIf (mAnd (mTest (mEq (mN 6) (mC (.int 0)))) (mTest (mGt (mCall m_l_draw [0] (maCons (mN 0) (maCons (mC (.int 4)) maNil))) (mC (.int 0))))) (mSet 6 (mN 2)) mSkip).run [.arg S1, .arg (.dct true ks vs), .arg (.int n), .val (.lst true []), .val (.lst true []), .val (.lst true []), .val (.int r), .un, .un, .un, .un, .un, .un] =
      some (.nx, [.arg S2, .arg (.dct true ks vs), .arg (.int n), .val (.lst true []), .val (.lst true []), .val (.lst true []), .val (.int j), .un, .un, .un, .un, .un, .un]) := by
    by_cases hr : r = 0
    · obtain ⟨q, S2, d1, d2, d3, d4⟩ := draw_ok (n := 4) b1 (by decide) (by decide)
      by_cases hq : q > 0
      · exact ⟨n, S2, d1, h0, Int.le_refl n, by simp [mSeq, mIf, mTest, mTru, mGt, mLt, mLe, mGe, mEq, mNe, mIsN, mNotN, mIn, mNotIn, mOp, maCons, maNil, mIx, kIx, mN, mC, mSet, mAsgIx, mRet, mRetN, mDrop, mF1, kf, ko, gets, owns, R.get, R.own, R.ok, R.kid, D.kids, D.at, D.pure, D.pureL, dAt, Sl.d?, ixD, ixN, fCmp, fLt, fLe, fGt, fGe, fMod, fDiv, fMul, fAdd, fSub, fInt, fAbs, fSetIx, kCh, enPut, Sl.put, D.put, D.setKid, argsOnly, outs, mMod, mDiv, mMul, mAdd, mSub, mSkip, mBrk, mCnt, mAnd, mOr, mNot, mVal, mIfE, mCall, kCall, imps, wbs, mTup, fTup, mLst, fLst, fLenG, fLen, fLenD, mPow, fPow, fIsN, fNotN, D.isNon, D.isHole, fIn, fNotIn, D.truth, mUnp, gN, gT, gsCons, gsNil, mApp, mPop, mMeth, maConsP, tyP, tyD, fL, lApp, lPop, sizeLine_eq, fEq_int, fEq_str, fNe_int, fNe_str, hr, d4, hq, p1]⟩
      · exact ⟨r, S2, d1, b2, by omega, by simp [mSeq, mIf, mTest, mTru, mGt, mLt, mLe, mGe, mEq, mNe, mIsN, mNotN, mIn, mNotIn, mOp, maCons, maNil, mIx, kIx, mN, mC, mSet, mAsgIx, mRet, mRetN, mDrop, mF1, kf, ko, gets, owns, R.get, R.own, R.ok, R.kid, D.kids, D.at, D.pure, D.pureL, dAt, Sl.d?, ixD, ixN, fCmp, fLt, fLe, fGt, fGe, fMod, fDiv, fMul, fAdd, fSub, fInt, fAbs, fSetIx, kCh, enPut, Sl.put, D.put, D.setKid, argsOnly, outs, mMod, mDiv, mMul, mAdd, mSub, mSkip, mBrk, mCnt, mAnd, mOr, mNot, mVal, mIfE, mCall, kCall, imps, wbs, mTup, fTup, mLst, fLst, fLenG, fLen, fLenD, mPow, fPow, fIsN, fNotN, D.isNon, D.isHole, fIn, fNotIn, D.truth, mUnp, gN, gT, gsCons, gsNil, mApp, mPop, mMeth, maConsP, tyP, tyD, fL, lApp, lPop, sizeLine_eq, fEq_int, fEq_str, fNe_int, fNe_str, hr, d4, hq, p1]⟩
    · exact ⟨r, S1, b1, b2, by omega, by simp [mSeq, mIf, mTest, mTru, mGt, mLt, mLe, mGe, mEq, mNe, mIsN, mNotN, mIn, mNotIn, mOp, maCons, maNil, mIx, kIx, mN, mC, mSet, mAsgIx, mRet, mRetN, mDrop, mF1, kf, ko, gets, owns, R.get, R.own, R.ok, R.kid, D.kids, D.at, D.pure, D.pureL, dAt, Sl.d?, ixD, ixN, fCmp, fLt, fLe, fGt, fGe, fMod, fDiv, fMul, fAdd, fSub, fInt, fAbs, fSetIx, kCh, enPut, Sl.put, D.put, D.setKid, argsOnly, outs, mMod, mDiv, mMul, mAdd, mSub, mSkip, mBrk, mCnt, mAnd, mOr, mNot, mVal, mIfE, mCall, kCall, imps, wbs, mTup, fTup, mLst, fLst, fLenG, fLen, fLenD, mPow, fPow, fIsN, fNotN, D.isNon, D.isHole, fIn, fNotIn, D.truth, mUnp, gN, gT, gsCons, gsNil, mApp, mPop, mMeth, maConsP, tyP, tyD, fL, lApp, lPop, sizeLine_eq, fEq_int, fEq_str, fNe_int, fNe_str, hr]⟩
  have hpr : ∀ d ∈ dRange 0 j, d.pure = true := dRange_pure 0 j
  have hlen : (dRange 0 j).length ≤ n.toNat := by rw [dRange_len]; omega
  obtain ⟨S3, k3, v3, I, O, E, t7, t8, t9, t10, t11, t12, ⟨e1, e2, e3, e4, e5, e6⟩, e7⟩ := doors_loop2 (a2 := .arg (.int n)) (a6 := .val (.int j)) (dRange 0 j) (n := 100) (m := 0) (S := S2) (ks := ks) (vs := vs) (I := []) (O := []) (E := []) (s7 := .un) (s8 := .un) (s9 := .un) (s10 := .un) (s11 := .un) (s12 := .un) hpr ⟨c1, hT, prs_nil, prs_nil, by simp, by simp⟩ (by omega) (by omega)
  have hI : Prs (InK k3) I := prs_sub e3 fun d hd => List.mem_append_left _ hd
  have hO : Prs (InK k3) O := prs_sub e3 fun d hd => List.mem_append_right _ hd
  have qI := prs_pure (prs_sorted hI)
  have qO := prs_pure (prs_sorted hO)
  refine ⟨S3, k3, v3, sortD I, sortD O, sortD E, e1, qI.1, qO.1, qI.2, qO.2, prs_mono (prs_sorted e4) fun x h => h.2, by rw [sortD_length]; omega, ?_⟩
  have sI := prs_sort (m := true) hI (by omega)
  have sO := prs_sort (m := true) hO (by omega)
  have sE := prs_sort (m := true) e4 (by omega)
  have q : (iRng (ma1 (mN 6))).run [.arg S2, .arg (.dct true ks vs), .arg (.int n), .val (.lst true []), .val (.lst true []), .val (.lst true []), .val (.int j), .un, .un, .un, .un, .un, .un] = some (dRange 0 j, [], [.arg S2, .arg (.dct true ks vs), .arg (.int n), .val (.lst true []), .val (.lst true []), .val (.lst true []), .val (.int j), .un, .un, .un, .un, .un, .un]) := by
    have x1 : (-4611686018427387904 : Int) ≤ j := by omega
    have x2 : j < (4611686018427387904 : Int) := by omega
    simp [iRng, mSeq, mIf, mTest, mTru, mGt, mLt, mLe, mGe, mEq, mNe, mIsN, mNotN, mIn, mNotIn, mOp, maCons, maNil, mIx, kIx, mN, mC, mSet, mAsgIx, mRet, mRetN, mDrop, mF1, kf, ko, gets, owns, R.get, R.own, R.ok, R.kid, D.kids, D.at, D.pure, D.pureL, dAt, Sl.d?, ixD, ixN, fCmp, fLt, fLe, fGt, fGe, fMod, fDiv, fMul, fAdd, fSub, fInt, fAbs, fSetIx, kCh, enPut, Sl.put, D.put, D.setKid, argsOnly, outs, mMod, mDiv, mMul, mAdd, mSub, mSkip, mBrk, mCnt, mAnd, mOr, mNot, mVal, mIfE, mCall, kCall, imps, wbs, mTup, fTup, mLst, fLst, fLenG, fLen, fLenD, mPow, fPow, fIsN, fNotN, D.isNon, D.isHole, fIn, fNotIn, D.truth, mUnp, gN, gT, gsCons, gsNil, mApp, mPop, mMeth, maConsP, tyP, tyD, fL, lApp, lPop, sizeLine_eq, fEq_int, fEq_str, fNe_int, fNe_str, x1, x2]
  refine call_run (e' := argsOnly [.arg S3, .arg (.dct true k3 v3), .arg (.int n), .val (.lst true I), .val (.lst true O), .val (.lst true E), .val (.int j), t7, t8, t9, t10, t11, t12]) rfl ?_ (by simp [outs, argsOnly])
  show (b_l_doors).run [.arg S, .arg (.dct true ks vs), .arg (.int n), .un, .un, .un, .un, .un, .un, .un, .un, .un, .un] = _
  unfold b_l_doors
  rw [seq_nx (e1 := [.arg S, .arg (.dct true ks vs), .arg (.int n), .val (.lst true []), .un, .un, .un, .un, .un, .un, .un, .un, .un]) (by simp [mSeq, mIf, mTest, mTru, mGt, mLt, mLe, mGe, mEq, mNe, mIsN, mNotN, mIn, mNotIn, mOp, maCons, maNil, mIx, kIx, mN, mC, mSet, mAsgIx, mRet, mRetN, mDrop, mF1, kf, ko, gets, owns, R.get, R.own, R.ok, R.kid, D.kids, D.at, D.pure, D.pureL, dAt, Sl.d?, ixD, ixN, fCmp, fLt, fLe, fGt, fGe, fMod, fDiv, fMul, fAdd, fSub, fInt, fAbs, fSetIx, kCh, enPut, Sl.put, D.put, D.setKid, argsOnly, outs, mMod, mDiv, mMul, mAdd, mSub, mSkip, mBrk, mCnt, mAnd, mOr, mNot, mVal, mIfE, mCall, kCall, imps, wbs, mTup, fTup, mLst, fLst, fLenG, fLen, fLenD, mPow, fPow, fIsN, fNotN, D.isNon, D.isHole, fIn, fNotIn, D.truth, mUnp, gN, gT, gsCons, gsNil, mApp, mPop, mMeth, maConsP, tyP, tyD, fL, lApp, lPop, sizeLine_eq, fEq_int, fEq_str, fNe_int, fNe_str]),
    seq_nx (e1 := [.arg S, .arg (.dct true ks vs), .arg (.int n), .val (.lst true []), .val (.lst true []), .un, .un, .un, .un, .un, .un, .un, .un]) (by simp [mSeq, mIf, mTest, mTru, mGt, mLt, mLe, mGe, mEq, mNe, mIsN, mNotN, mIn, mNotIn, mOp, maCons, maNil, mIx, kIx, mN, mC, mSet, mAsgIx, mRet, mRetN, mDrop, mF1, kf, ko, gets, owns, R.get, R.own, R.ok, R.kid, D.kids, D.at, D.pure, D.pureL, dAt, Sl.d?, ixD, ixN, fCmp, fLt, fLe, fGt, fGe, fMod, fDiv, fMul, fAdd, fSub, fInt, fAbs, fSetIx, kCh, enPut, Sl.put, D.put, D.setKid, argsOnly, outs, mMod, mDiv, mMul, mAdd, mSub, mSkip, mBrk, mCnt, mAnd, mOr, mNot, mVal, mIfE, mCall, kCall, imps, wbs, mTup, fTup, mLst, fLst, fLenG, fLen, fLenD, mPow, fPow, fIsN, fNotN, D.isNon, D.isHole, fIn, fNotIn, D.truth, mUnp, gN, gT, gsCons, gsNil, mApp, mPop, mMeth, maConsP, tyP, tyD, fL, lApp, lPop, sizeLine_eq, fEq_int, fEq_str, fNe_int, fNe_str]),
    seq_nx (e1 := [.arg S, .arg (.dct true ks vs), .arg (.int n), .val (.lst true []), .val (.lst true []), .val (.lst true []), .un, .un, .un, .un, .un, .un, .un]) (by simp [mSeq, mIf, mTest, mTru, mGt, mLt, mLe, mGe, mEq, mNe, mIsN, mNotN, mIn, mNotIn, mOp, maCons, maNil, mIx, kIx, mN, mC, mSet, mAsgIx, mRet, mRetN, mDrop, mF1, kf, ko, gets, owns, R.get, R.own, R.ok, R.kid, D.kids, D.at, D.pure, D.pureL, dAt, Sl.d?, ixD, ixN, fCmp, fLt, fLe, fGt, fGe, fMod, fDiv, fMul, fAdd, fSub, fInt, fAbs, fSetIx, kCh, enPut, Sl.put, D.put, D.setKid, argsOnly, outs, mMod, mDiv, mMul, mAdd, mSub, mSkip, mBrk, mCnt, mAnd, mOr, mNot, mVal, mIfE, mCall, kCall, imps, wbs, mTup, fTup, mLst, fLst, fLenG, fLen, fLenD, mPow, fPow, fIsN, fNotN, D.isNon, D.isHole, fIn, fNotIn, D.truth, mUnp, gN, gT, gsCons, gsNil, mApp, mPop, mMeth, maConsP, tyP, tyD, fL, lApp, lPop, sizeLine_eq, fEq_int, fEq_str, fNe_int, fNe_str]),
    seq_nx (e1 := [.arg S1, .arg (.dct true ks vs), .arg (.int n), .val (.lst true []), .val (.lst true []), .val (.lst true []), .val (.int r), .un, .un, .un, .un, .un, .un]) (by simp [mSeq, mIf, mTest, mTru, mGt, mLt, mLe, mGe, mEq, mNe, mIsN, mNotN, mIn, mNotIn, mOp, maCons, maNil, mIx, kIx, mN, mC, mSet, mAsgIx, mRet, mRetN, mDrop, mF1, kf, ko, gets, owns, R.get, R.own, R.ok, R.kid, D.kids, D.at, D.pure, D.pureL, dAt, Sl.d?, ixD, ixN, fCmp, fLt, fLe, fGt, fGe, fMod, fDiv, fMul, fAdd, fSub, fInt, fAbs, fSetIx, kCh, enPut, Sl.put, D.put, D.setKid, argsOnly, outs, mMod, mDiv, mMul, mAdd, mSub, mSkip, mBrk, mCnt, mAnd, mOr, mNot, mVal, mIfE, mCall, kCall, imps, wbs, mTup, fTup, mLst, fLst, fLenG, fLen, fLenD, mPow, fPow, fIsN, fNotN, D.isNon, D.isHole, fIn, fNotIn, D.truth, mUnp, gN, gT, gsCons, gsNil, mApp, mPop, mMeth, maConsP, tyP, tyD, fL, lApp, lPop, sizeLine_eq, fEq_int, fEq_str, fNe_int, fNe_str, b4, ps]),
    seq_nx c4, seq_nx ((for_run q rfl).trans e7)]
  simp [mSeq, mIf, mTest, mTru, mGt, mLt, mLe, mGe, mEq, mNe, mIsN, mNotN, mIn, mNotIn, mOp, maCons, maNil, mIx, kIx, mN, mC, mSet, mAsgIx, mRet, mRetN, mDrop, mF1, kf, ko, gets, owns, R.get, R.own, R.ok, R.kid, D.kids, D.at, D.pure, D.pureL, dAt, Sl.d?, ixD, ixN, fCmp, fLt, fLe, fGt, fGe, fMod, fDiv, fMul, fAdd, fSub, fInt, fAbs, fSetIx, kCh, enPut, Sl.put, D.put, D.setKid, argsOnly, outs, mMod, mDiv, mMul, mAdd, mSub, mSkip, mBrk, mCnt, mAnd, mOr, mNot, mVal, mIfE, mCall, kCall, imps, wbs, mTup, fTup, mLst, fLst, fLenG, fLen, fLenD, mPow, fPow, fIsN, fNotN, D.isNon, D.isHole, fIn, fNotIn, D.truth, mUnp, gN, gT, gsCons, gsNil, mApp, mPop, mMeth, maConsP, tyP, tyD, fL, lApp, lPop, sizeLine_eq, fEq_int, fEq_str, fNe_int, fNe_str, sI, sO, sE, qI.1, qO.1, fTuple, D.items]
end K35
set_option Elab.async false
set_option linter.all false
set_option maxRecDepth 100000
set_option maxHeartbeats 4000000
namespace K35
open PySem PySem.Spec PyProof.Rows L2 G
def Lab (E : List D) (d : D) : Prop := d = .tup [.str "", .str "fault"] ∨ d = .tup [.str "", .str "quiet"] ∨ d ∈ E
theorem evs_pure {E : List D} (h : Evs E) {d : D} (hd : d ∈ E) : d.pure = true ∧ d.plain = true := by
  obtain ⟨x, v, rfl, _, a⟩ := h.1 d hd
  exact ⟨by simp [D.pure, D.pureL, a.pure.1], by simp [D.plain, D.plainL, a.pure.2.1]⟩
theorem lab_pure {E : List D} (h : Evs E) {d : D} (hd : Lab E d) : d.pure = true ∧ d.plain = true := by
  rcases hd with rfl | rfl | hd
  · exact ⟨rfl, rfl⟩
  · exact ⟨rfl, rfl⟩
  · exact evs_pure h hd
theorem ixN_ok {n : Nat} {r : Int} (h0 : 0 ≤ r) (h1 : r < n) : ixN n r = some r.toNat := by
  unfold ixN
  rw [if_pos h0, if_pos (by omega)]
theorem label_ok {S : D} {E : List D} (hS : Src S) (hE : Evs E) (hl : E.length ≤ 1000) :
    ∃ d S', Src S' ∧ Lab E d ∧ m_l_label [S, .lst true E] = some (d, [S', .lst true E]) := by
  obtain ⟨r, S1, b1, b2, b3, b4⟩ := draw_ok (n := 11) hS (by decide) (by decide)
  have ps := src_pure hS
  have p1 := src_pure b1
  have hp : D.pureL E = true := pureL_all fun d hd => (evs_pure hE hd).1
  have st : (mSet 2 (mCall m_l_draw [0] (maCons (mN 0) (maCons (mC (.int 11)) maNil)))).run [.arg S, .arg (.lst true E), .un] = some (.nx, [.arg S1, .arg (.lst true E), .val (.int r)]) := by
    simp [mSeq, mIf, mTest, mTru, mGt, mLt, mLe, mGe, mEq, mNe, mIsN, mNotN, mIn, mNotIn, mOp, maCons, maNil, mIx, kIx, mN, mC, mSet, mAsgIx, mRet, mRetN, mDrop, mF1, kf, ko, gets, owns, R.get, R.own, R.ok, R.kid, D.kids, D.at, D.pure, D.pureL, dAt, Sl.d?, ixD, ixN, fCmp, fLt, fLe, fGt, fGe, fMod, fDiv, fMul, fAdd, fSub, fInt, fAbs, fSetIx, kCh, enPut, Sl.put, D.put, D.setKid, argsOnly, outs, mMod, mDiv, mMul, mAdd, mSub, mSkip, mBrk, mCnt, mAnd, mOr, mNot, mVal, mIfE, mCall, kCall, imps, wbs, mTup, fTup, mLst, fLst, fLenG, fLen, fLenD, mPow, fPow, fIsN, fNotN, D.isNon, D.isHole, fIn, fNotIn, D.truth, mUnp, gN, gT, gsCons, gsNil, mApp, mPop, mMeth, maConsP, tyP, tyD, fL, lApp, lPop, sizeLine_eq, fEq_int, fEq_str, fNe_int, fNe_str, b4, ps]
  have go : ∀ d S2, b_l_label.run [.arg S, .arg (.lst true E), .un] = some (.rt d, argsOnly [.arg S2, .arg (.lst true E), .val (.int r)]) → m_l_label [S, .lst true E] = some (d, [S2, .lst true E]) := fun d S2 h =>
    call_run rfl h (by simp [outs, argsOnly])
  by_cases c1 : r = 0
  · refine ⟨_, S1, b1, .inl rfl, go _ _ ?_⟩
    unfold b_l_label
    rw [seq_nx st, seq_rt (e1 := argsOnly [.arg S1, .arg (.lst true E), .val (.int r)]) (d := .tup [.str "", .str "fault"]) (by simp [mSeq, mIf, mTest, mTru, mGt, mLt, mLe, mGe, mEq, mNe, mIsN, mNotN, mIn, mNotIn, mOp, maCons, maNil, mIx, kIx, mN, mC, mSet, mAsgIx, mRet, mRetN, mDrop, mF1, kf, ko, gets, owns, R.get, R.own, R.ok, R.kid, D.kids, D.at, D.pure, D.pureL, dAt, Sl.d?, ixD, ixN, fCmp, fLt, fLe, fGt, fGe, fMod, fDiv, fMul, fAdd, fSub, fInt, fAbs, fSetIx, kCh, enPut, Sl.put, D.put, D.setKid, argsOnly, outs, mMod, mDiv, mMul, mAdd, mSub, mSkip, mBrk, mCnt, mAnd, mOr, mNot, mVal, mIfE, mCall, kCall, imps, wbs, mTup, fTup, mLst, fLst, fLenG, fLen, fLenD, mPow, fPow, fIsN, fNotN, D.isNon, D.isHole, fIn, fNotIn, D.truth, mUnp, gN, gT, gsCons, gsNil, mApp, mPop, mMeth, maConsP, tyP, tyD, fL, lApp, lPop, sizeLine_eq, fEq_int, fEq_str, fNe_int, fNe_str, c1])]
  · have s2 : (mIf (mTest (mEq (mN 2) (mC (.int 0)))) (mRet (mTup (maCons (mC (.str "")) (maCons (mC (.str "fault")) maNil)))) mSkip).run [.arg S1, .arg (.lst true E), .val (.int r)] = some (.nx, [.arg S1, .arg (.lst true E), .val (.int r)]) := by simp [mSeq, mIf, mTest, mTru, mGt, mLt, mLe, mGe, mEq, mNe, mIsN, mNotN, mIn, mNotIn, mOp, maCons, maNil, mIx, kIx, mN, mC, mSet, mAsgIx, mRet, mRetN, mDrop, mF1, kf, ko, gets, owns, R.get, R.own, R.ok, R.kid, D.kids, D.at, D.pure, D.pureL, dAt, Sl.d?, ixD, ixN, fCmp, fLt, fLe, fGt, fGe, fMod, fDiv, fMul, fAdd, fSub, fInt, fAbs, fSetIx, kCh, enPut, Sl.put, D.put, D.setKid, argsOnly, outs, mMod, mDiv, mMul, mAdd, mSub, mSkip, mBrk, mCnt, mAnd, mOr, mNot, mVal, mIfE, mCall, kCall, imps, wbs, mTup, fTup, mLst, fLst, fLenG, fLen, fLenD, mPow, fPow, fIsN, fNotN, D.isNon, D.isHole, fIn, fNotIn, D.truth, mUnp, gN, gT, gsCons, gsNil, mApp, mPop, mMeth, maConsP, tyP, tyD, fL, lApp, lPop, sizeLine_eq, fEq_int, fEq_str, fNe_int, fNe_str, c1]
    by_cases c2 : r < 3 ∨ E.length = 0
    · refine ⟨_, S1, b1, .inr (.inl rfl), go _ _ ?_⟩
      unfold b_l_label
      rw [seq_nx st, seq_nx s2, seq_rt (e1 := argsOnly [.arg S1, .arg (.lst true E), .val (.int r)]) (d := .tup [.str "", .str "quiet"]) ?_]
      rcases c2 with c2 | c2
      · simp [mSeq, mIf, mTest, mTru, mGt, mLt, mLe, mGe, mEq, mNe, mIsN, mNotN, mIn, mNotIn, mOp, maCons, maNil, mIx, kIx, mN, mC, mSet, mAsgIx, mRet, mRetN, mDrop, mF1, kf, ko, gets, owns, R.get, R.own, R.ok, R.kid, D.kids, D.at, D.pure, D.pureL, dAt, Sl.d?, ixD, ixN, fCmp, fLt, fLe, fGt, fGe, fMod, fDiv, fMul, fAdd, fSub, fInt, fAbs, fSetIx, kCh, enPut, Sl.put, D.put, D.setKid, argsOnly, outs, mMod, mDiv, mMul, mAdd, mSub, mSkip, mBrk, mCnt, mAnd, mOr, mNot, mVal, mIfE, mCall, kCall, imps, wbs, mTup, fTup, mLst, fLst, fLenG, fLen, fLenD, mPow, fPow, fIsN, fNotN, D.isNon, D.isHole, fIn, fNotIn, D.truth, mUnp, gN, gT, gsCons, gsNil, mApp, mPop, mMeth, maConsP, tyP, tyD, fL, lApp, lPop, sizeLine_eq, fEq_int, fEq_str, fNe_int, fNe_str, c2]
      · by_cases c3 : r < 3
        · simp [mSeq, mIf, mTest, mTru, mGt, mLt, mLe, mGe, mEq, mNe, mIsN, mNotN, mIn, mNotIn, mOp, maCons, maNil, mIx, kIx, mN, mC, mSet, mAsgIx, mRet, mRetN, mDrop, mF1, kf, ko, gets, owns, R.get, R.own, R.ok, R.kid, D.kids, D.at, D.pure, D.pureL, dAt, Sl.d?, ixD, ixN, fCmp, fLt, fLe, fGt, fGe, fMod, fDiv, fMul, fAdd, fSub, fInt, fAbs, fSetIx, kCh, enPut, Sl.put, D.put, D.setKid, argsOnly, outs, mMod, mDiv, mMul, mAdd, mSub, mSkip, mBrk, mCnt, mAnd, mOr, mNot, mVal, mIfE, mCall, kCall, imps, wbs, mTup, fTup, mLst, fLst, fLenG, fLen, fLenD, mPow, fPow, fIsN, fNotN, D.isNon, D.isHole, fIn, fNotIn, D.truth, mUnp, gN, gT, gsCons, gsNil, mApp, mPop, mMeth, maConsP, tyP, tyD, fL, lApp, lPop, sizeLine_eq, fEq_int, fEq_str, fNe_int, fNe_str, c3]
        · simp [mSeq, mIf, mTest, mTru, mGt, mLt, mLe, mGe, mEq, mNe, mIsN, mNotN, mIn, mNotIn, mOp, maCons, maNil, mIx, kIx, mN, mC, mSet, mAsgIx, mRet, mRetN, mDrop, mF1, kf, ko, gets, owns, R.get, R.own, R.ok, R.kid, D.kids, D.at, D.pure, D.pureL, dAt, Sl.d?, ixD, ixN, fCmp, fLt, fLe, fGt, fGe, fMod, fDiv, fMul, fAdd, fSub, fInt, fAbs, fSetIx, kCh, enPut, Sl.put, D.put, D.setKid, argsOnly, outs, mMod, mDiv, mMul, mAdd, mSub, mSkip, mBrk, mCnt, mAnd, mOr, mNot, mVal, mIfE, mCall, kCall, imps, wbs, mTup, fTup, mLst, fLst, fLenG, fLen, fLenD, mPow, fPow, fIsN, fNotN, D.isNon, D.isHole, fIn, fNotIn, D.truth, mUnp, gN, gT, gsCons, gsNil, mApp, mPop, mMeth, maConsP, tyP, tyD, fL, lApp, lPop, sizeLine_eq, fEq_int, fEq_str, fNe_int, fNe_str, c3, List.length_eq_zero_iff.mp c2]
    · have c3 : ¬ r < 3 := fun z => c2 (.inl z)
      have c4 : ¬ ((E.length : Int) = 0) := fun z => c2 (.inr (by omega))
      have c5 : ¬ E = [] := fun z => c2 (.inr (by rw [z]; rfl))
      obtain ⟨q, S2, e1, e2, e3, e4⟩ := draw_ok (n := (E.length : Int)) b1 (by omega) (by omega)
      have hq : q.toNat < E.length := by omega
      have hm : E[q.toNat] ∈ E := List.getElem_mem hq
      refine ⟨E[q.toNat], S2, e1, .inr (.inr hm), go _ _ ?_⟩
      have pd := (evs_pure hE hm).1
      unfold b_l_label
      rw [seq_nx st, seq_nx s2, seq_nx (e1 := [.arg S1, .arg (.lst true E), .val (.int r)]) (by simp [mSeq, mIf, mTest, mTru, mGt, mLt, mLe, mGe, mEq, mNe, mIsN, mNotN, mIn, mNotIn, mOp, maCons, maNil, mIx, kIx, mN, mC, mSet, mAsgIx, mRet, mRetN, mDrop, mF1, kf, ko, gets, owns, R.get, R.own, R.ok, R.kid, D.kids, D.at, D.pure, D.pureL, dAt, Sl.d?, ixD, ixN, fCmp, fLt, fLe, fGt, fGe, fMod, fDiv, fMul, fAdd, fSub, fInt, fAbs, fSetIx, kCh, enPut, Sl.put, D.put, D.setKid, argsOnly, outs, mMod, mDiv, mMul, mAdd, mSub, mSkip, mBrk, mCnt, mAnd, mOr, mNot, mVal, mIfE, mCall, kCall, imps, wbs, mTup, fTup, mLst, fLst, fLenG, fLen, fLenD, mPow, fPow, fIsN, fNotN, D.isNon, D.isHole, fIn, fNotIn, D.truth, mUnp, gN, gT, gsCons, gsNil, mApp, mPop, mMeth, maConsP, tyP, tyD, fL, lApp, lPop, sizeLine_eq, fEq_int, fEq_str, fNe_int, fNe_str, c3, c5])]
      have hi := ixN_ok e2 e3
      unfold ixN at hi
      simp [mSeq, mIf, mTest, mTru, mGt, mLt, mLe, mGe, mEq, mNe, mIsN, mNotN, mIn, mNotIn, mOp, maCons, maNil, mIx, kIx, mN, mC, mSet, mAsgIx, mRet, mRetN, mDrop, mF1, kf, ko, gets, owns, R.get, R.own, R.ok, R.kid, D.kids, D.at, D.pure, D.pureL, dAt, Sl.d?, ixD, ixN, fCmp, fLt, fLe, fGt, fGe, fMod, fDiv, fMul, fAdd, fSub, fInt, fAbs, fSetIx, kCh, enPut, Sl.put, D.put, D.setKid, argsOnly, outs, mMod, mDiv, mMul, mAdd, mSub, mSkip, mBrk, mCnt, mAnd, mOr, mNot, mVal, mIfE, mCall, kCall, imps, wbs, mTup, fTup, mLst, fLst, fLenG, fLen, fLenD, mPow, fPow, fIsN, fNotN, D.isNon, D.isHole, fIn, fNotIn, D.truth, mUnp, gN, gT, gsCons, gsNil, mApp, mPop, mMeth, maConsP, tyP, tyD, fL, lApp, lPop, sizeLine_eq, fEq_int, fEq_str, fNe_int, fNe_str, e4, p1, hi, hq, pd]
def Stp (E : List D) (k : Int) (d : D) : Prop := ∃ i l j, d = .tup [.int i, l, .int j] ∧ 0 ≤ i ∧ i < k ∧ Lab E l ∧ 0 ≤ j ∧ j < k
theorem steps_f1 {S : D} {E T : List D} {k j : Int} (hS : Src S) (hE : Evs E) (hl : E.length ≤ 1000) (hT : T.length ≤ 1000) (h1 : 1 ≤ j) (h2 : j < k) (h3 : k ≤ 1000) :
    ∃ S' d, Src S' ∧ Stp E k d ∧ b_l_steps_f1.run [.arg S, .arg (.lst true E), .arg (.int k), .val (.lst true T), .val (.int j)] = some (.nx, [.arg S', .arg (.lst true E), .arg (.int k), .val (.lst true (T ++ [d])), .val (.int j)]) := by
  obtain ⟨r, S1, b1, b2, b3, b4⟩ := draw_ok (n := j) hS h1 (by omega)
  obtain ⟨l, S2, c1, c2, c3⟩ := label_ok b1 hE hl
  have ps := src_pure hS
  have p1 := src_pure b1
  have pl := (lab_pure hE c2).1
  have ht : T.length < 16777216 := by omega
  refine ⟨S2, .tup [.int r, l, .int j], c1, ⟨r, l, j, rfl, b2, by omega, c2, by omega, h2⟩, ?_⟩
  simp [b_l_steps_f1, mSeq, mIf, mTest, mTru, mGt, mLt, mLe, mGe, mEq, mNe, mIsN, mNotN, mIn, mNotIn, mOp, maCons, maNil, mIx, kIx, mN, mC, mSet, mAsgIx, mRet, mRetN, mDrop, mF1, kf, ko, gets, owns, R.get, R.own, R.ok, R.kid, D.kids, D.at, D.pure, D.pureL, dAt, Sl.d?, ixD, ixN, fCmp, fLt, fLe, fGt, fGe, fMod, fDiv, fMul, fAdd, fSub, fInt, fAbs, fSetIx, kCh, enPut, Sl.put, D.put, D.setKid, argsOnly, outs, mMod, mDiv, mMul, mAdd, mSub, mSkip, mBrk, mCnt, mAnd, mOr, mNot, mVal, mIfE, mCall, kCall, imps, wbs, mTup, fTup, mLst, fLst, fLenG, fLen, fLenD, mPow, fPow, fIsN, fNotN, D.isNon, D.isHole, fIn, fNotIn, D.truth, mUnp, gN, gT, gsCons, gsNil, mApp, mPop, mMeth, maConsP, tyP, tyD, fL, lApp, lPop, sizeLine_eq, fEq_int, fEq_str, fNe_int, fNe_str, b4, ps, p1, c3, pl, ht]
theorem steps_f2 {S : D} {E T : List D} {k : Int} {s : Sl} (hS : Src S) (hE : Evs E) (hl : E.length ≤ 1000) (hT : T.length ≤ 10000) (h1 : 1 ≤ k) (h3 : k ≤ 1000) :
    ∃ S' d, Src S' ∧ Stp E k d ∧ b_l_steps_f2.run [.arg S, .arg (.lst true E), .arg (.int k), .val (.lst true T), s] = some (.nx, [.arg S', .arg (.lst true E), .arg (.int k), .val (.lst true (T ++ [d])), s]) := by
  obtain ⟨r, S1, b1, b2, b3, b4⟩ := draw_ok (n := k) hS h1 (by omega)
  obtain ⟨l, S2, c1, c2, c3⟩ := label_ok b1 hE hl
  obtain ⟨q, S3, e1, e2, e3, e4⟩ := draw_ok (n := k) c1 h1 (by omega)
  have ps := src_pure hS
  have p1 := src_pure b1
  have p2 := src_pure c1
  have pl := (lab_pure hE c2).1
  have ht : T.length < 16777216 := by omega
  refine ⟨S3, .tup [.int r, l, .int q], e1, ⟨r, l, q, rfl, b2, b3, c2, e2, e3⟩, ?_⟩
  simp [b_l_steps_f2, mSeq, mIf, mTest, mTru, mGt, mLt, mLe, mGe, mEq, mNe, mIsN, mNotN, mIn, mNotIn, mOp, maCons, maNil, mIx, kIx, mN, mC, mSet, mAsgIx, mRet, mRetN, mDrop, mF1, kf, ko, gets, owns, R.get, R.own, R.ok, R.kid, D.kids, D.at, D.pure, D.pureL, dAt, Sl.d?, ixD, ixN, fCmp, fLt, fLe, fGt, fGe, fMod, fDiv, fMul, fAdd, fSub, fInt, fAbs, fSetIx, kCh, enPut, Sl.put, D.put, D.setKid, argsOnly, outs, mMod, mDiv, mMul, mAdd, mSub, mSkip, mBrk, mCnt, mAnd, mOr, mNot, mVal, mIfE, mCall, kCall, imps, wbs, mTup, fTup, mLst, fLst, fLenG, fLen, fLenD, mPow, fPow, fIsN, fNotN, D.isNon, D.isHole, fIn, fNotIn, D.truth, mUnp, gN, gT, gsCons, gsNil, mApp, mPop, mMeth, maConsP, tyP, tyD, fL, lApp, lPop, sizeLine_eq, fEq_int, fEq_str, fNe_int, fNe_str, b4, ps, p1, p2, c3, e4, pl, ht]
theorem steps_l1 {E : List D} {k : Int} (hE : Evs E) (hl : E.length ≤ 1000) (h3 : k ≤ 500) : ∀ (js : List Int) (S : D) (T : List D) (s : Sl), (∀ j ∈ js, 1 ≤ j ∧ j < k) → Src S → T.length + js.length ≤ 1000 → (∀ d ∈ T, Stp E k d) →
    ∃ S' T' s', Src S' ∧ T'.length = T.length + js.length ∧ (∀ d ∈ T', Stp E k d) ∧ forGo (gN 4) b_l_steps_f1 (js.map D.int) [.arg S, .arg (.lst true E), .arg (.int k), .val (.lst true T), s] = some (.nx, [.arg S', .arg (.lst true E), .arg (.int k), .val (.lst true T'), s'])
  | [], S, T, s, _, hS, _, hT => ⟨S, T, s, hS, rfl, hT, forGo_nil⟩
  | j :: js, S, T, s, hj, hS, ht, hT => by
    rw [List.length_cons] at ht
    obtain ⟨j1, j2⟩ := hj j List.mem_cons_self
    obtain ⟨S1, d, b1, b2, b3⟩ := steps_f1 (T := T) hS hE hl (by omega) j1 j2 (by omega)
    obtain ⟨S2, T2, s2, c1, c2, c3, c4⟩ := steps_l1 hE hl h3 js S1 (T ++ [d]) (.val (.int j)) (fun x hx => hj x (List.mem_cons_of_mem _ hx)) b1 (by rw [List.length_append, List.length_singleton]; omega) fun x hx => by
      rcases List.mem_append.mp hx with hx | hx
      · exact hT x hx
      · rw [List.mem_singleton] at hx; exact hx ▸ b2
    refine ⟨S2, T2, s2, c1, by rw [c2, List.length_append, List.length_singleton, List.length_cons]; omega, c3, ?_⟩
    rw [List.map_cons, forGo_nx (e1 := [.arg S, .arg (.lst true E), .arg (.int k), .val (.lst true T), .val (.int j)]) (by simp [gN, mSeq, mIf, mTest, mTru, mGt, mLt, mLe, mGe, mEq, mNe, mIsN, mNotN, mIn, mNotIn, mOp, maCons, maNil, mIx, kIx, mN, mC, mSet, mAsgIx, mRet, mRetN, mDrop, mF1, kf, ko, gets, owns, R.get, R.own, R.ok, R.kid, D.kids, D.at, D.pure, D.pureL, dAt, Sl.d?, ixD, ixN, fCmp, fLt, fLe, fGt, fGe, fMod, fDiv, fMul, fAdd, fSub, fInt, fAbs, fSetIx, kCh, enPut, Sl.put, D.put, D.setKid, argsOnly, outs, mMod, mDiv, mMul, mAdd, mSub, mSkip, mBrk, mCnt, mAnd, mOr, mNot, mVal, mIfE, mCall, kCall, imps, wbs, mTup, fTup, mLst, fLst, fLenG, fLen, fLenD, mPow, fPow, fIsN, fNotN, D.isNon, D.isHole, fIn, fNotIn, D.truth, mUnp, gN, gT, gsCons, gsNil, mApp, mPop, mMeth, maConsP, tyP, tyD, fL, lApp, lPop, sizeLine_eq, fEq_int, fEq_str, fNe_int, fNe_str]) b3]
    exact c4
theorem steps_l2 {E : List D} {k : Int} (hE : Evs E) (hl : E.length ≤ 1000) (h1 : 1 ≤ k) (h3 : k ≤ 500) : ∀ (js : List D) (S : D) (T : List D) (s : Sl), (∀ j ∈ js, j.pure = true) → Src S → T.length + js.length ≤ 10000 → (∀ d ∈ T, Stp E k d) →
    ∃ S' T' s', Src S' ∧ T'.length = T.length + js.length ∧ (∀ d ∈ T', Stp E k d) ∧ forGo (gN 4) b_l_steps_f2 js [.arg S, .arg (.lst true E), .arg (.int k), .val (.lst true T), s] = some (.nx, [.arg S', .arg (.lst true E), .arg (.int k), .val (.lst true T'), s'])
  | [], S, T, s, _, hS, _, hT => ⟨S, T, s, hS, rfl, hT, forGo_nil⟩
  | j :: js, S, T, s, hj, hS, ht, hT => by
    rw [List.length_cons] at ht
    have j1 := hj j List.mem_cons_self
    obtain ⟨S1, d, b1, b2, b3⟩ := steps_f2 (T := T) (s := .val j) hS hE hl (by omega) h1 (by omega)
    obtain ⟨S2, T2, s2, c1, c2, c3, c4⟩ := steps_l2 hE hl h1 h3 js S1 (T ++ [d]) (.val j) (fun x hx => hj x (List.mem_cons_of_mem _ hx)) b1 (by rw [List.length_append, List.length_singleton]; omega) fun x hx => by
      rcases List.mem_append.mp hx with hx | hx
      · exact hT x hx
      · rw [List.mem_singleton] at hx; exact hx ▸ b2
    refine ⟨S2, T2, s2, c1, by rw [c2, List.length_append, List.length_singleton, List.length_cons]; omega, c3, ?_⟩
    rw [forGo_nx (e1 := [.arg S, .arg (.lst true E), .arg (.int k), .val (.lst true T), .val j]) (by simp [gN, j1]) b3]
    exact c4
theorem steps_ok {S : D} {E : List D} {k : Int} (hS : Src S) (hE : Evs E) (hl : E.length ≤ 1000) (h1 : 1 ≤ k) (h3 : k ≤ 400) :
    ∃ S' T, Src S' ∧ (∀ d ∈ T, Stp E k d) ∧ T.length ≤ 1000 ∧ m_l_steps [S, .lst true E, .int k] = some (.lst true T, [S', .lst true E, .int k]) := by
  have q1 : (iRng (ma2 (mC (.int 1)) (mN 2))).run [.arg S, .arg (.lst true E), .arg (.int k), .val (.lst true []), .un] = some (dRange 1 k, [], [.arg S, .arg (.lst true E), .arg (.int k), .val (.lst true []), .un]) := by
    have x1 : (-4611686018427387904 : Int) ≤ k := by omega
    have x2 : k < (4611686018427387904 : Int) := by omega
    simp [iRng, mSeq, mIf, mTest, mTru, mGt, mLt, mLe, mGe, mEq, mNe, mIsN, mNotN, mIn, mNotIn, mOp, maCons, maNil, mIx, kIx, mN, mC, mSet, mAsgIx, mRet, mRetN, mDrop, mF1, kf, ko, gets, owns, R.get, R.own, R.ok, R.kid, D.kids, D.at, D.pure, D.pureL, dAt, Sl.d?, ixD, ixN, fCmp, fLt, fLe, fGt, fGe, fMod, fDiv, fMul, fAdd, fSub, fInt, fAbs, fSetIx, kCh, enPut, Sl.put, D.put, D.setKid, argsOnly, outs, mMod, mDiv, mMul, mAdd, mSub, mSkip, mBrk, mCnt, mAnd, mOr, mNot, mVal, mIfE, mCall, kCall, imps, wbs, mTup, fTup, mLst, fLst, fLenG, fLen, fLenD, mPow, fPow, fIsN, fNotN, D.isNon, D.isHole, fIn, fNotIn, D.truth, mUnp, gN, gT, gsCons, gsNil, mApp, mPop, mMeth, maConsP, tyP, tyD, fL, lApp, lPop, sizeLine_eq, fEq_int, fEq_str, fNe_int, fNe_str, x1, x2]
  have hd : dRange 1 k = ((List.range (k - 1).toNat).map fun i : Nat => (1 : Int) + i).map D.int := by
    unfold dRange
    rw [List.map_map]; rfl
  obtain ⟨S1, T1, s1, b1, b2, b3, b4⟩ := steps_l1 (E := E) hE hl (k := k) (by omega) ((List.range (k - 1).toNat).map fun i : Nat => (1 : Int) + i) S [] .un (fun j hj => by
    obtain ⟨i, hi, rfl⟩ := List.mem_map.mp hj
    have := List.mem_range.mp hi
    omega) hS (by simp; omega) (fun _ z => (nomatch z))
  rw [← hd] at b4
  obtain ⟨r, S2, c1, c2, c3, c4⟩ := draw_ok (n := k + 3) b1 (by omega) (by omega)
  have p1 := src_pure b1
  have q2 : (iRng (ma1 (mCall m_l_draw [0] (maCons (mN 0) (maCons (mAdd (mN 2) (mC (.int 3))) maNil))))).run [.arg S1, .arg (.lst true E), .arg (.int k), .val (.lst true T1), s1] = some (dRange 0 r, [], [.arg S2, .arg (.lst true E), .arg (.int k), .val (.lst true T1), s1]) :=
    irng1 (by simp [mSeq, mIf, mTest, mTru, mGt, mLt, mLe, mGe, mEq, mNe, mIsN, mNotN, mIn, mNotIn, mOp, maCons, maNil, mIx, kIx, mN, mC, mSet, mAsgIx, mRet, mRetN, mDrop, mF1, kf, ko, gets, owns, R.get, R.own, R.ok, R.kid, D.kids, D.at, D.pure, D.pureL, dAt, Sl.d?, ixD, ixN, fCmp, fLt, fLe, fGt, fGe, fMod, fDiv, fMul, fAdd, fSub, fInt, fAbs, fSetIx, kCh, enPut, Sl.put, D.put, D.setKid, argsOnly, outs, mMod, mDiv, mMul, mAdd, mSub, mSkip, mBrk, mCnt, mAnd, mOr, mNot, mVal, mIfE, mCall, kCall, imps, wbs, mTup, fTup, mLst, fLst, fLenG, fLen, fLenD, mPow, fPow, fIsN, fNotN, D.isNon, D.isHole, fIn, fNotIn, D.truth, mUnp, gN, gT, gsCons, gsNil, mApp, mPop, mMeth, maConsP, tyP, tyD, fL, lApp, lPop, sizeLine_eq, fEq_int, fEq_str, fNe_int, fNe_str, c4, p1]) (by omega) (by omega)
  obtain ⟨S3, T3, s3, d1, d2, d3, d4⟩ := steps_l2 (E := E) hE hl (k := k) h1 (by omega) (dRange 0 r) S2 T1 s1 (dRange_pure 0 r) c1 (by rw [dRange_len, b2]; simp; omega) b3
  refine ⟨S3, T3, d1, d3, by rw [d2, b2, dRange_len]; simp; omega, ?_⟩
  refine call_run (e' := argsOnly [.arg S3, .arg (.lst true E), .arg (.int k), .val (.lst true T3), s3]) rfl ?_ (by simp [outs, argsOnly])
  show (b_l_steps).run [.arg S, .arg (.lst true E), .arg (.int k), .un, .un] = _
  unfold b_l_steps
  rw [seq_nx (e1 := [.arg S, .arg (.lst true E), .arg (.int k), .val (.lst true []), .un]) (by simp [mSeq, mIf, mTest, mTru, mGt, mLt, mLe, mGe, mEq, mNe, mIsN, mNotN, mIn, mNotIn, mOp, maCons, maNil, mIx, kIx, mN, mC, mSet, mAsgIx, mRet, mRetN, mDrop, mF1, kf, ko, gets, owns, R.get, R.own, R.ok, R.kid, D.kids, D.at, D.pure, D.pureL, dAt, Sl.d?, ixD, ixN, fCmp, fLt, fLe, fGt, fGe, fMod, fDiv, fMul, fAdd, fSub, fInt, fAbs, fSetIx, kCh, enPut, Sl.put, D.put, D.setKid, argsOnly, outs, mMod, mDiv, mMul, mAdd, mSub, mSkip, mBrk, mCnt, mAnd, mOr, mNot, mVal, mIfE, mCall, kCall, imps, wbs, mTup, fTup, mLst, fLst, fLenG, fLen, fLenD, mPow, fPow, fIsN, fNotN, D.isNon, D.isHole, fIn, fNotIn, D.truth, mUnp, gN, gT, gsCons, gsNil, mApp, mPop, mMeth, maConsP, tyP, tyD, fL, lApp, lPop, sizeLine_eq, fEq_int, fEq_str, fNe_int, fNe_str]),
    seq_nx ((for_run q1 rfl).trans b4), seq_nx ((for_run q2 rfl).trans d4)]
  simp [mSeq, mIf, mTest, mTru, mGt, mLt, mLe, mGe, mEq, mNe, mIsN, mNotN, mIn, mNotIn, mOp, maCons, maNil, mIx, kIx, mN, mC, mSet, mAsgIx, mRet, mRetN, mDrop, mF1, kf, ko, gets, owns, R.get, R.own, R.ok, R.kid, D.kids, D.at, D.pure, D.pureL, dAt, Sl.d?, ixD, ixN, fCmp, fLt, fLe, fGt, fGe, fMod, fDiv, fMul, fAdd, fSub, fInt, fAbs, fSetIx, kCh, enPut, Sl.put, D.put, D.setKid, argsOnly, outs, mMod, mDiv, mMul, mAdd, mSub, mSkip, mBrk, mCnt, mAnd, mOr, mNot, mVal, mIfE, mCall, kCall, imps, wbs, mTup, fTup, mLst, fLst, fLenG, fLen, fLenD, mPow, fPow, fIsN, fNotN, D.isNon, D.isHole, fIn, fNotIn, D.truth, mUnp, gN, gT, gsCons, gsNil, mApp, mPop, mMeth, maConsP, tyP, tyD, fL, lApp, lPop, sizeLine_eq, fEq_int, fEq_str, fNe_int, fNe_str]
end K35
set_option Elab.async false
set_option linter.all false
set_option maxRecDepth 100000
set_option maxHeartbeats 4000000
namespace K35
open PySem PySem.Spec PyProof.Rows L2 G
theorem ints_plain (os : List Int) : D.plainL (os.map D.int) = true := plainL_all fun d hd => by
  obtain ⟨i, _, rfl⟩ := List.mem_map.mp hd
  rfl
theorem ints_pure (os : List Int) : D.pureL (os.map D.int) = true := pureL_all fun d hd => by
  obtain ⟨i, _, rfl⟩ := List.mem_map.mp hd
  rfl
theorem ints_toPy (os : List Int) : D.toPyL (os.map D.int) = os.map PyData.int := by
  rw [toPyL_map, List.map_map]
  exact List.map_congr_left fun i _ => by simp [D.toPy]
theorem canLay_ints : ∀ os : List Int, PyData.canLayAll0 (os.map PyData.int) = true
  | [] => by simp [PyData.canLayAll0]
  | i :: os => by rw [List.map_cons, PyData.canLayAll0, canLay_ints os]; simp [PyData.canLay0]
theorem depth_ints : ∀ os : List Int, PyData.depthAll (os.map PyData.int) = 0
  | [] => by simp [PyData.depthAll]
  | i :: os => by rw [List.map_cons, PyData.depthAll, depth_ints os]; simp [PyData.depth]
theorem shaped_int (i : Int) : SeqAt.shaped (.int i) = true := by simp [SeqAt.shaped, PyData.canLay0, PyData.depth]
theorem shaped_ints (os : List Int) : SeqAt.shaped (.list (os.map PyData.int)) = true := by
  simp [SeqAt.shaped, PyData.canLay0, PyData.depth, canLay_ints, depth_ints]
theorem inD_ints {m : Bool} {os : List Int} {j : Int} : inD (.int j) (.lst m (os.map D.int)) = some (decide (j ∈ os)) := by
  show (if (true && D.plainL (os.map D.int) && SeqAt.shaped (.int j) && SeqAt.shaped (.list (D.toPyL (os.map D.int)))) = true then some ((D.toPyL (os.map D.int)).any fun z => PyData.eqv z (.int j)) else none) = _
  rw [ints_plain, ints_toPy, shaped_int, shaped_ints]
  simp only [Bool.and_self, if_true, Option.some.injEq]
  rw [List.any_map]
  induction os with
  | nil => rfl
  | cons o os ih =>
    rw [List.any_cons, ih]
    have e : (o == j) = decide (j = o) := by rw [Bool.beq_eq_decide_eq]; exact decide_eq_decide.mpr eq_comm
    simp [PyData.eqv, Function.comp, e]
theorem fIndex_ints {m : Bool} {os : List Int} {j : Int} (h : j ∈ os) : ∃ n : Nat, n < os.length ∧ os[n]? = some j ∧ fIndex [.lst m (os.map D.int), .int j] = some (.int n) := by
  have e : fIndex [.lst m (os.map D.int), .int j] = ((D.toPyL (os.map D.int)).findIdx? fun z => PyData.eqv z (.int j)).map fun n => .int (n : Nat) := by
    show (if (true && D.plainL (os.map D.int) && SeqAt.shaped (.int j) && SeqAt.shaped (.list (D.toPyL (os.map D.int)))) = true then _ else none) = _
    rw [ints_plain, ints_toPy, shaped_int, shaped_ints]
    rfl
  rw [e, ints_toPy, List.findIdx?_map]
  have hs : (os.findIdx? ((fun z => PyData.eqv z (.int j)) ∘ PyData.int)).isSome = true := by
    rw [List.findIdx?_isSome, List.any_eq_true]
    exact ⟨j, h, by simp [PyData.eqv]⟩
  obtain ⟨n, en⟩ := Option.isSome_iff_exists.mp hs
  rw [en]
  obtain ⟨hn, hp, _⟩ := List.findIdx?_eq_some_iff_getElem.mp en
  refine ⟨n, hn, ?_, rfl⟩
  rw [List.getElem?_eq_getElem hn]
  simp only [Function.comp, PyData.eqv, beq_iff_eq] at hp
  rw [hp]
end K35
set_option Elab.async false
set_option linter.all false
set_option maxRecDepth 100000
set_option maxHeartbeats 4000000
namespace K35
open PySem PySem.Spec PyProof.Rows L2 G
theorem ints_app {os : List Int} {j : Int} : os.map D.int ++ [D.int j] = (os ++ [j]).map D.int := by simp
theorem met_f1 {T : D} {os : List Int} {t : Nat} {c i j : Int} {l : D} (ht : os[t]? = some c) (hl : os.length ≤ 10000) :
    b_l_met_f1.run [.arg T, .val (.lst true (os.map D.int)), .val (.int t), .val (.tup [.int i, l, .int j])] =
      some (.nx, [.arg T, .val (.lst true ((if i = c ∧ j ∉ os then os ++ [j] else os).map D.int)), .val (.int t), .val (.tup [.int i, l, .int j])]) := by
  have h1 : t < os.length := (List.getElem?_eq_some_iff.mp ht).1
  have h2 : (0 : Int) ≤ t := by omega
  have h3 : os.length < 16777216 := by omega
  have h4 : os[t] = c := by rw [List.getElem?_eq_getElem h1] at ht; exact Option.some.inj ht
  by_cases e1 : i = c
  · by_cases e2 : j ∈ os
    · simp [b_l_met_f1, mSeq, mIf, mTest, mTru, mGt, mLt, mLe, mGe, mEq, mNe, mIsN, mNotN, mIn, mNotIn, mOp, maCons, maNil, mIx, kIx, mN, mC, mSet, mAsgIx, mRet, mRetN, mDrop, mF1, kf, ko, gets, owns, R.get, R.own, R.ok, R.kid, D.kids, D.at, D.pure, D.pureL, dAt, Sl.d?, ixD, ixN, fCmp, fLt, fLe, fGt, fGe, fMod, fDiv, fMul, fAdd, fSub, fInt, fAbs, fSetIx, kCh, enPut, Sl.put, D.put, D.setKid, argsOnly, outs, mMod, mDiv, mMul, mAdd, mSub, mSkip, mBrk, mCnt, mAnd, mOr, mNot, mVal, mIfE, mCall, kCall, imps, wbs, mTup, fTup, mLst, fLst, fLenG, fLen, fLenD, mPow, fPow, fIsN, fNotN, D.isNon, D.isHole, fIn, fNotIn, D.truth, mUnp, gN, gT, gsCons, gsNil, mApp, mPop, mMeth, maConsP, tyP, tyD, fL, lApp, lPop, sizeLine_eq, fEq_int, fEq_str, fNe_int, fNe_str, inD_ints, h4, h1, e1, e2]
    · simp [b_l_met_f1, mSeq, mIf, mTest, mTru, mGt, mLt, mLe, mGe, mEq, mNe, mIsN, mNotN, mIn, mNotIn, mOp, maCons, maNil, mIx, kIx, mN, mC, mSet, mAsgIx, mRet, mRetN, mDrop, mF1, kf, ko, gets, owns, R.get, R.own, R.ok, R.kid, D.kids, D.at, D.pure, D.pureL, dAt, Sl.d?, ixD, ixN, fCmp, fLt, fLe, fGt, fGe, fMod, fDiv, fMul, fAdd, fSub, fInt, fAbs, fSetIx, kCh, enPut, Sl.put, D.put, D.setKid, argsOnly, outs, mMod, mDiv, mMul, mAdd, mSub, mSkip, mBrk, mCnt, mAnd, mOr, mNot, mVal, mIfE, mCall, kCall, imps, wbs, mTup, fTup, mLst, fLst, fLenG, fLen, fLenD, mPow, fPow, fIsN, fNotN, D.isNon, D.isHole, fIn, fNotIn, D.truth, mUnp, gN, gT, gsCons, gsNil, mApp, mPop, mMeth, maConsP, tyP, tyD, fL, lApp, lPop, sizeLine_eq, fEq_int, fEq_str, fNe_int, fNe_str, inD_ints, h4, h1, e1, e2, h3]
  · simp [b_l_met_f1, mSeq, mIf, mTest, mTru, mGt, mLt, mLe, mGe, mEq, mNe, mIsN, mNotN, mIn, mNotIn, mOp, maCons, maNil, mIx, kIx, mN, mC, mSet, mAsgIx, mRet, mRetN, mDrop, mF1, kf, ko, gets, owns, R.get, R.own, R.ok, R.kid, D.kids, D.at, D.pure, D.pureL, dAt, Sl.d?, ixD, ixN, fCmp, fLt, fLe, fGt, fGe, fMod, fDiv, fMul, fAdd, fSub, fInt, fAbs, fSetIx, kCh, enPut, Sl.put, D.put, D.setKid, argsOnly, outs, mMod, mDiv, mMul, mAdd, mSub, mSkip, mBrk, mCnt, mAnd, mOr, mNot, mVal, mIfE, mCall, kCall, imps, wbs, mTup, fTup, mLst, fLst, fLenG, fLen, fLenD, mPow, fPow, fIsN, fNotN, D.isNon, D.isHole, fIn, fNotIn, D.truth, mUnp, gN, gT, gsCons, gsNil, mApp, mPop, mMeth, maConsP, tyP, tyD, fL, lApp, lPop, sizeLine_eq, fEq_int, fEq_str, fNe_int, fNe_str, inD_ints, h4, h1, e1]
def dstOf : D → Int
  | .tup [_, _, .int j] => j
  | _ => 0
theorem met_l1 {T : D} {E : List D} {k : Int} {t : Nat} {c : Int} : ∀ (ds : List D) (os : List Int) (s : Sl), (∀ d ∈ ds, Stp E k d) → (∀ d ∈ ds, d.pure = true) → os.Nodup → os[t]? = some c → os.length + ds.length ≤ 9000 →
    ∃ more s', (os ++ more).Nodup ∧ (∀ x ∈ more, x ∈ ds.map dstOf) ∧ (∀ l j, D.tup [.int c, l, .int j] ∈ ds → j ∈ os ++ more) ∧ more.length ≤ ds.length ∧
      forGo (gN 3) b_l_met_f1 ds [.arg T, .val (.lst true (os.map D.int)), .val (.int t), s] = some (.nx, [.arg T, .val (.lst true ((os ++ more).map D.int)), .val (.int t), s'])
  | [], os, s, _, _, hn, _, _ => ⟨[], s, by rw [List.append_nil]; exact hn, fun _ z => (nomatch z), fun _ _ z => (nomatch z), Nat.le_refl _, by rw [List.append_nil]; exact forGo_nil⟩
  | d :: ds, os, s, hd, hp, hn, hc, hl => by
    rw [List.length_cons] at hl
    obtain ⟨i, l, j, rfl, i0, i1, _, j0, j1⟩ := hd d List.mem_cons_self
    have hg : (gN 3).run (.tup [.int i, l, .int j]) [.arg T, .val (.lst true (os.map D.int)), .val (.int t), s] = some [.arg T, .val (.lst true (os.map D.int)), .val (.int t), .val (.tup [.int i, l, .int j])] := by
      have := hp _ List.mem_cons_self
      simp [gN, this]
    have st := met_f1 (T := T) (i := i) (j := j) (l := l) hc (by omega)
    by_cases h : i = c ∧ j ∉ os
    · rw [if_pos h] at st
      obtain ⟨more, s', a1, a2, a3, a4, a5⟩ := met_l1 (T := T) (t := t) ds (os ++ [j]) (.val (.tup [.int i, l, .int j])) (fun x hx => hd x (List.mem_cons_of_mem _ hx)) (fun x hx => hp x (List.mem_cons_of_mem _ hx))
        (List.nodup_append.mpr ⟨hn, List.nodup_cons.mpr ⟨(fun z => nomatch z), List.nodup_nil⟩, fun a ha b hb e => by rw [List.mem_singleton] at hb; subst hb e; exact h.2 ha⟩)
        (by rw [List.getElem?_append_left (List.getElem?_eq_some_iff.mp hc).1]; exact hc) (by rw [List.length_append, List.length_singleton]; omega)
      rw [List.append_assoc] at a1 a3 a5
      refine ⟨[j] ++ more, s', a1, fun x hx => ?_, fun l' j' hm => ?_, by rw [List.length_append, List.length_singleton, List.length_cons]; omega, ?_⟩
      · rw [List.map_cons]
        rcases List.mem_append.mp hx with hx | hx
        · rw [List.mem_singleton] at hx; exact hx ▸ List.mem_cons_self
        · exact List.mem_cons_of_mem _ (a2 x hx)
      · rcases List.mem_cons.mp hm with e | hm
        · injection e with e; injection e with _ e; injection e with _ e; injection e with e _; injection e with e
          subst e
          exact List.mem_append_right _ (List.mem_append_left _ (List.mem_singleton_self _))
        · exact a3 l' j' hm
      · rw [forGo_nx hg st]; exact a5
    · rw [if_neg h] at st
      obtain ⟨more, s', a1, a2, a3, a4, a5⟩ := met_l1 (T := T) (t := t) ds os (.val (.tup [.int i, l, .int j])) (fun x hx => hd x (List.mem_cons_of_mem _ hx)) (fun x hx => hp x (List.mem_cons_of_mem _ hx)) hn hc (by omega)
      refine ⟨more, s', a1, fun x hx => List.mem_cons_of_mem _ (a2 x hx), fun l' j' hm => ?_, by rw [List.length_cons]; omega, ?_⟩
      · rcases List.mem_cons.mp hm with e | hm
        · injection e with e; injection e with e1 e; injection e with _ e; injection e with e _; injection e with e
          injection e1 with e1
          subst e e1
          by_cases hj : j' ∈ os
          · exact List.mem_append_left _ hj
          · exact absurd ⟨rfl, hj⟩ h
        · exact a3 l' j' hm
      · rw [forGo_nx hg st]; exact a5
end K35
set_option Elab.async false
set_option linter.all false
set_option maxRecDepth 100000
set_option maxHeartbeats 4000000
namespace K35
open PySem PySem.Spec PyProof.Rows L2 G
def MInv (T : List D) (t : Nat) (os : List Int) : Prop := os.Nodup ∧ os[0]? = some 0 ∧ (∀ x ∈ os, x ∈ 0 :: T.map dstOf) ∧ ∀ i, i < t → ∀ c, os[i]? = some c → ∀ l j, D.tup [.int c, l, .int j] ∈ T → j ∈ os
theorem minv_len {T : List D} {t : Nat} {os : List Int} (h : MInv T t os) : os.length ≤ T.length + 1 := by
  have := nodup_len h.1 h.2.2.1
  rwa [List.length_cons, List.length_map] at this
theorem met_f2 {T : List D} {E : List D} {k : Int} {t : Nat} {os : List Int} {s : Sl} (hT : ∀ d ∈ T, Stp E k d) (hp : ∀ d ∈ T, d.pure = true) (hl : T.length ≤ 2000) (h : MInv T t os) :
    ∃ os' s', MInv T (t + 1) os' ∧ b_l_met_f2.run [.arg (.lst true T), .val (.lst true (os.map D.int)), .val (.int t), s] = some (.nx, [.arg (.lst true T), .val (.lst true (os'.map D.int)), .val (.int t), s']) := by
  have hn := minv_len h
  have pT := pureL_all hp
  by_cases c : t < os.length
  · obtain ⟨more, s', a1, a2, a3, a4, a5⟩ := met_l1 (T := .lst true T) (t := t) (c := os[t]) T os s hT hp h.1 (List.getElem?_eq_getElem c) (by omega)
    refine ⟨os ++ more, s', ⟨a1, ?_, fun x hx => ?_, fun i hi c' hc' l j hm => ?_⟩, ?_⟩
    · rw [List.getElem?_append_left (by omega)]; exact h.2.1
    · rcases List.mem_append.mp hx with hx | hx
      · exact h.2.2.1 x hx
      · exact List.mem_cons_of_mem _ (a2 x hx)
    · by_cases e : i = t
      · subst e
        rw [List.getElem?_append_left c, List.getElem?_eq_getElem c] at hc'
        injection hc' with hc'
        subst hc'
        exact a3 l j hm
      · rw [List.getElem?_append_left (by omega)] at hc'
        exact List.mem_append_left _ (h.2.2.2 i (by omega) c' hc' l j hm)
    · have q : (mFor (iSeq (mN 0)) (gN 3) b_l_met_f1).run [.arg (.lst true T), .val (.lst true (os.map D.int)), .val (.int t), s] = some (.nx, [.arg (.lst true T), .val (.lst true ((os ++ more).map D.int)), .val (.int t), s']) :=
        (for_run (ds := T) (rs := [.p 0 []]) (by simp [iSeq, D.items, mSeq, mIf, mTest, mTru, mGt, mLt, mLe, mGe, mEq, mNe, mIsN, mNotN, mIn, mNotIn, mOp, maCons, maNil, mIx, kIx, mN, mC, mSet, mAsgIx, mRet, mRetN, mDrop, mF1, kf, ko, gets, owns, R.get, R.own, R.ok, R.kid, D.kids, D.at, D.pure, D.pureL, dAt, Sl.d?, ixD, ixN, fCmp, fLt, fLe, fGt, fGe, fMod, fDiv, fMul, fAdd, fSub, fInt, fAbs, fSetIx, kCh, enPut, Sl.put, D.put, D.setKid, argsOnly, outs, mMod, mDiv, mMul, mAdd, mSub, mSkip, mBrk, mCnt, mAnd, mOr, mNot, mVal, mIfE, mCall, kCall, imps, wbs, mTup, fTup, mLst, fLst, fLenG, fLen, fLenD, mPow, fPow, fIsN, fNotN, D.isNon, D.isHole, fIn, fNotIn, D.truth, mUnp, gN, gT, gsCons, gsNil, mApp, mPop, mMeth, maConsP, tyP, tyD, fL, lApp, lPop, sizeLine_eq, fEq_int, fEq_str, fNe_int, fNe_str, pT]) rfl).trans a5
      unfold b_l_met_f2
      have qt : (mTest (mLt (mN 2) (mF1 fLenG (mN 1)))).run [.arg (.lst true T), .val (.lst true (os.map D.int)), .val (.int t), s] = some (true, [.arg (.lst true T), .val (.lst true (os.map D.int)), .val (.int t), s]) := by
        simp [mSeq, mIf, mTest, mTru, mGt, mLt, mLe, mGe, mEq, mNe, mIsN, mNotN, mIn, mNotIn, mOp, maCons, maNil, mIx, kIx, mN, mC, mSet, mAsgIx, mRet, mRetN, mDrop, mF1, kf, ko, gets, owns, R.get, R.own, R.ok, R.kid, D.kids, D.at, D.pure, D.pureL, dAt, Sl.d?, ixD, ixN, fCmp, fLt, fLe, fGt, fGe, fMod, fDiv, fMul, fAdd, fSub, fInt, fAbs, fSetIx, kCh, enPut, Sl.put, D.put, D.setKid, argsOnly, outs, mMod, mDiv, mMul, mAdd, mSub, mSkip, mBrk, mCnt, mAnd, mOr, mNot, mVal, mIfE, mCall, kCall, imps, wbs, mTup, fTup, mLst, fLst, fLenG, fLen, fLenD, mPow, fPow, fIsN, fNotN, D.isNon, D.isHole, fIn, fNotIn, D.truth, mUnp, gN, gT, gsCons, gsNil, mApp, mPop, mMeth, maConsP, tyP, tyD, fL, lApp, lPop, sizeLine_eq, fEq_int, fEq_str, fNe_int, fNe_str, c, ints_pure]
      simp only [mIf, qt, Option.bind_some, if_true]
      exact q
  · refine ⟨os, s, ⟨h.1, h.2.1, h.2.2.1, fun i hi c' hc' => h.2.2.2 i (by have := (List.getElem?_eq_some_iff.mp hc').1; omega) c' hc'⟩, ?_⟩
    simp [b_l_met_f2, mSeq, mIf, mTest, mTru, mGt, mLt, mLe, mGe, mEq, mNe, mIsN, mNotN, mIn, mNotIn, mOp, maCons, maNil, mIx, kIx, mN, mC, mSet, mAsgIx, mRet, mRetN, mDrop, mF1, kf, ko, gets, owns, R.get, R.own, R.ok, R.kid, D.kids, D.at, D.pure, D.pureL, dAt, Sl.d?, ixD, ixN, fCmp, fLt, fLe, fGt, fGe, fMod, fDiv, fMul, fAdd, fSub, fInt, fAbs, fSetIx, kCh, enPut, Sl.put, D.put, D.setKid, argsOnly, outs, mMod, mDiv, mMul, mAdd, mSub, mSkip, mBrk, mCnt, mAnd, mOr, mNot, mVal, mIfE, mCall, kCall, imps, wbs, mTup, fTup, mLst, fLst, fLenG, fLen, fLenD, mPow, fPow, fIsN, fNotN, D.isNon, D.isHole, fIn, fNotIn, D.truth, mUnp, gN, gT, gsCons, gsNil, mApp, mPop, mMeth, maConsP, tyP, tyD, fL, lApp, lPop, sizeLine_eq, fEq_int, fEq_str, fNe_int, fNe_str, c, ints_pure]
theorem met_l2 {T : List D} {E : List D} {k : Int} (hT : ∀ d ∈ T, Stp E k d) (hp : ∀ d ∈ T, d.pure = true) (hl : T.length ≤ 2000) : ∀ (n t : Nat) (os : List Int) (s2 s : Sl), MInv T t os →
    ∃ os' s2' s', MInv T (t + n) os' ∧ forGo (gN 2) b_l_met_f2 ((List.range' t n).map fun i : Nat => D.int i) [.arg (.lst true T), .val (.lst true (os.map D.int)), s2, s] = some (.nx, [.arg (.lst true T), .val (.lst true (os'.map D.int)), s2', s'])
  | 0, t, os, s2, s, h => ⟨os, s2, s, h, forGo_nil⟩
  | n + 1, t, os, s2, s, h => by
    obtain ⟨os1, s1, a1, a2⟩ := met_f2 (s := s) hT hp hl h
    obtain ⟨os2, u2, u3, b1, b2⟩ := met_l2 hT hp hl n (t + 1) os1 (.val (.int t)) s1 a1
    refine ⟨os2, u2, u3, by rw [Nat.add_succ, ← Nat.succ_add]; exact b1, ?_⟩
    rw [List.range'_succ, List.map_cons, forGo_nx (e1 := [.arg (.lst true T), .val (.lst true (os.map D.int)), .val (.int t), s]) (by simp [gN, mSeq, mIf, mTest, mTru, mGt, mLt, mLe, mGe, mEq, mNe, mIsN, mNotN, mIn, mNotIn, mOp, maCons, maNil, mIx, kIx, mN, mC, mSet, mAsgIx, mRet, mRetN, mDrop, mF1, kf, ko, gets, owns, R.get, R.own, R.ok, R.kid, D.kids, D.at, D.pure, D.pureL, dAt, Sl.d?, ixD, ixN, fCmp, fLt, fLe, fGt, fGe, fMod, fDiv, fMul, fAdd, fSub, fInt, fAbs, fSetIx, kCh, enPut, Sl.put, D.put, D.setKid, argsOnly, outs, mMod, mDiv, mMul, mAdd, mSub, mSkip, mBrk, mCnt, mAnd, mOr, mNot, mVal, mIfE, mCall, kCall, imps, wbs, mTup, fTup, mLst, fLst, fLenG, fLen, fLenD, mPow, fPow, fIsN, fNotN, D.isNon, D.isHole, fIn, fNotIn, D.truth, mUnp, gN, gT, gsCons, gsNil, mApp, mPop, mMeth, maConsP, tyP, tyD, fL, lApp, lPop, sizeLine_eq, fEq_int, fEq_str, fNe_int, fNe_str]) a2]
    exact b2
theorem dRange_0 (m : Nat) : dRange 0 (m : Int) = (List.range' 0 m).map fun i : Nat => D.int i := by
  unfold dRange
  rw [List.range_eq_range']
  simp
def MOk (T : List D) (os : List Int) : Prop := os.Nodup ∧ os[0]? = some 0 ∧ (∀ x ∈ os, x ∈ 0 :: T.map dstOf) ∧ ∀ c ∈ os, ∀ l j, D.tup [.int c, l, .int j] ∈ T → j ∈ os
theorem met_ok {T : List D} {E : List D} {k : Int} (hT : ∀ d ∈ T, Stp E k d) (hp : ∀ d ∈ T, d.pure = true) (hl : T.length ≤ 2000) :
    ∃ os, MOk T os ∧ m_l_met [.lst true T] = some (.lst true (os.map D.int), [.lst true T]) := by
  have pT := pureL_all hp
  have q : (iRng (ma1 (mAdd (mF1 fLenG (mN 0)) (mC (.int 1))))).run [.arg (.lst true T), .val (.lst true ([0].map D.int)), .un, .un] = some (dRange 0 ((T.length + 1 : Nat) : Int), [], [.arg (.lst true T), .val (.lst true ([0].map D.int)), .un, .un]) :=
    irng1 (by simp [mSeq, mIf, mTest, mTru, mGt, mLt, mLe, mGe, mEq, mNe, mIsN, mNotN, mIn, mNotIn, mOp, maCons, maNil, mIx, kIx, mN, mC, mSet, mAsgIx, mRet, mRetN, mDrop, mF1, kf, ko, gets, owns, R.get, R.own, R.ok, R.kid, D.kids, D.at, D.pure, D.pureL, dAt, Sl.d?, ixD, ixN, fCmp, fLt, fLe, fGt, fGe, fMod, fDiv, fMul, fAdd, fSub, fInt, fAbs, fSetIx, kCh, enPut, Sl.put, D.put, D.setKid, argsOnly, outs, mMod, mDiv, mMul, mAdd, mSub, mSkip, mBrk, mCnt, mAnd, mOr, mNot, mVal, mIfE, mCall, kCall, imps, wbs, mTup, fTup, mLst, fLst, fLenG, fLen, fLenD, mPow, fPow, fIsN, fNotN, D.isNon, D.isHole, fIn, fNotIn, D.truth, mUnp, gN, gT, gsCons, gsNil, mApp, mPop, mMeth, maConsP, tyP, tyD, fL, lApp, lPop, sizeLine_eq, fEq_int, fEq_str, fNe_int, fNe_str, pT]) (by omega) (by omega)
  obtain ⟨os, s2, s3, a1, a2⟩ := met_l2 hT hp hl (T.length + 1) 0 [0] .un .un ⟨by simp, rfl, fun x hx => by rw [List.mem_singleton] at hx; subst hx; exact List.mem_cons_self, fun i hi => absurd hi (Nat.not_lt_zero i)⟩
  rw [← dRange_0] at a2
  have hn := minv_len a1
  refine ⟨os, ⟨a1.1, a1.2.1, a1.2.2.1, fun c hc l j hm => ?_⟩, ?_⟩
  · obtain ⟨i, hi, e⟩ := List.getElem_of_mem hc
    exact a1.2.2.2 i (by omega) c (by rw [List.getElem?_eq_getElem hi, e]) l j hm
  refine call_run (e' := argsOnly [.arg (.lst true T), .val (.lst true (os.map D.int)), s2, s3]) rfl ?_ (by simp [outs, argsOnly])
  show (b_l_met).run [.arg (.lst true T), .un, .un, .un] = _
  unfold b_l_met
  rw [seq_nx (e1 := [.arg (.lst true T), .val (.lst true ([0].map D.int)), .un, .un]) (by simp [mSeq, mIf, mTest, mTru, mGt, mLt, mLe, mGe, mEq, mNe, mIsN, mNotN, mIn, mNotIn, mOp, maCons, maNil, mIx, kIx, mN, mC, mSet, mAsgIx, mRet, mRetN, mDrop, mF1, kf, ko, gets, owns, R.get, R.own, R.ok, R.kid, D.kids, D.at, D.pure, D.pureL, dAt, Sl.d?, ixD, ixN, fCmp, fLt, fLe, fGt, fGe, fMod, fDiv, fMul, fAdd, fSub, fInt, fAbs, fSetIx, kCh, enPut, Sl.put, D.put, D.setKid, argsOnly, outs, mMod, mDiv, mMul, mAdd, mSub, mSkip, mBrk, mCnt, mAnd, mOr, mNot, mVal, mIfE, mCall, kCall, imps, wbs, mTup, fTup, mLst, fLst, fLenG, fLen, fLenD, mPow, fPow, fIsN, fNotN, D.isNon, D.isHole, fIn, fNotIn, D.truth, mUnp, gN, gT, gsCons, gsNil, mApp, mPop, mMeth, maConsP, tyP, tyD, fL, lApp, lPop, sizeLine_eq, fEq_int, fEq_str, fNe_int, fNe_str]), seq_nx ((for_run q rfl).trans a2)]
  simp [mSeq, mIf, mTest, mTru, mGt, mLt, mLe, mGe, mEq, mNe, mIsN, mNotN, mIn, mNotIn, mOp, maCons, maNil, mIx, kIx, mN, mC, mSet, mAsgIx, mRet, mRetN, mDrop, mF1, kf, ko, gets, owns, R.get, R.own, R.ok, R.kid, D.kids, D.at, D.pure, D.pureL, dAt, Sl.d?, ixD, ixN, fCmp, fLt, fLe, fGt, fGe, fMod, fDiv, fMul, fAdd, fSub, fInt, fAbs, fSetIx, kCh, enPut, Sl.put, D.put, D.setKid, argsOnly, outs, mMod, mDiv, mMul, mAdd, mSub, mSkip, mBrk, mCnt, mAnd, mOr, mNot, mVal, mIfE, mCall, kCall, imps, wbs, mTup, fTup, mLst, fLst, fLenG, fLen, fLenD, mPow, fPow, fIsN, fNotN, D.isNon, D.isHole, fIn, fNotIn, D.truth, mUnp, gN, gT, gsCons, gsNil, mApp, mPop, mMeth, maConsP, tyP, tyD, fL, lApp, lPop, sizeLine_eq, fEq_int, fEq_str, fNe_int, fNe_str, ints_pure]
end K35
set_option Elab.async false
set_option linter.all false
set_option maxRecDepth 100000
set_option maxHeartbeats 4000000
namespace K35
open PySem PySem.Spec PyProof.Rows L2 G
theorem swap_perm {os : List Int} {i j : Nat} (hi : i < os.length) (hj : j < os.length) : ((os.set i os[j]).set j os[i]).Perm os := by
  rw [List.perm_iff_count]
  intro x
  have hj' : j < (os.set i os[j]).length := by rw [List.length_set]; exact hj
  rw [List.count_set hj', List.count_set hi, List.getElem_set]
  have p1 : os[i] = x → 0 < os.count x := fun e => List.count_pos_iff.mpr (e ▸ List.getElem_mem hi)
  have p2 : os[j] = x → 0 < os.count x := fun e => List.count_pos_iff.mpr (e ▸ List.getElem_mem hj)
  by_cases e : i = j
  · subst e
    simp
    split
    · rename_i h; have := p1 h; omega
    · rfl
  · simp only [e, if_false]
    by_cases a1 : os[i] = x
    · have := p1 a1
      by_cases a2 : os[j] = x
      · simp [a1, a2]; omega
      · simp [a1, a2]; omega
    · by_cases a2 : os[j] = x
      · have := p2 a2
        simp [a1, a2]
      · simp [a1, a2]
theorem graph_f1 {S : D} {os : List Int} {a1 a2 s5 s6 s7 s8 s9 s10 : Sl} {t : Nat} (hS : Src S) (h0 : 1 ≤ t) (ht : t < os.length) (hl : os.length ≤ 5000) :
    ∃ (S' : D) (os' : List Int) (u7 u8 : Sl), Src S' ∧ os'.Perm os ∧ os'[0]? = os[0]? ∧ b_l_graph_f1.run [.arg S, a1, a2, .val (.lst true (os.map D.int)), .val (.int t), s5, s6, s7, s8, s9, s10] = some (.nx, [.arg S', a1, a2, .val (.lst true (os'.map D.int)), .val (.int t), s5, s6, u7, u8, s9, s10]) := by
  obtain ⟨r, S1, b1, b2, b3, b4⟩ := draw_ok (n := (os.length : Int) - t) hS (by omega) (by omega)
  have ps := src_pure hS
  obtain ⟨n, rfl⟩ := Int.eq_ofNat_of_zero_le b2
  have hm : t + n < os.length := by omega
  refine ⟨S1, (os.set t os[t + n]).set (t + n) os[t], .val (.int ((t + n : Nat) : Int)), .val (.int os[t]), b1, swap_perm ht hm, ?_, ?_⟩
  · rw [List.getElem?_set_ne (by omega), List.getElem?_set_ne (by omega)]
  · have x1 : (0 : Int) ≤ t := by omega
    have x2 : (0 : Int) ≤ ((t + n : Nat) : Int) := by omega
    unfold b_l_graph_f1
    rw [seq_nx (e1 := [.arg S1, a1, a2, .val (.lst true (os.map D.int)), .val (.int t), s5, s6, .val (.int ((t + n : Nat) : Int)), s8, s9, s10]) (by simp [mSeq, mIf, mTest, mTru, mGt, mLt, mLe, mGe, mEq, mNe, mIsN, mNotN, mIn, mNotIn, mOp, maCons, maNil, mIx, kIx, mN, mC, mSet, mAsgIx, mRet, mRetN, mDrop, mF1, kf, ko, gets, owns, R.get, R.own, R.ok, R.kid, D.kids, D.at, D.pure, D.pureL, dAt, Sl.d?, ixD, ixN, fCmp, fLt, fLe, fGt, fGe, fMod, fDiv, fMul, fAdd, fSub, fInt, fAbs, fSetIx, kCh, enPut, Sl.put, D.put, D.setKid, argsOnly, outs, mMod, mDiv, mMul, mAdd, mSub, mSkip, mBrk, mCnt, mAnd, mOr, mNot, mVal, mIfE, mCall, kCall, imps, wbs, mTup, fTup, mLst, fLst, fLenG, fLen, fLenD, mPow, fPow, fIsN, fNotN, D.isNon, D.isHole, fIn, fNotIn, D.truth, mUnp, gN, gT, gsCons, gsNil, mApp, mPop, mMeth, maConsP, tyP, tyD, fL, lApp, lPop, sizeLine_eq, fEq_int, fEq_str, fNe_int, fNe_str, b4, ps, ints_pure]),
      seq_nx (e1 := [.arg S1, a1, a2, .val (.lst true (os.map D.int)), .val (.int t), s5, s6, .val (.int ((t + n : Nat) : Int)), .val (.int os[t]), s9, s10]) (by simp [mSeq, mIf, mTest, mTru, mGt, mLt, mLe, mGe, mEq, mNe, mIsN, mNotN, mIn, mNotIn, mOp, maCons, maNil, mIx, kIx, mN, mC, mSet, mAsgIx, mRet, mRetN, mDrop, mF1, kf, ko, gets, owns, R.get, R.own, R.ok, R.kid, D.kids, D.at, D.pure, D.pureL, dAt, Sl.d?, ixD, ixN, fCmp, fLt, fLe, fGt, fGe, fMod, fDiv, fMul, fAdd, fSub, fInt, fAbs, fSetIx, kCh, enPut, Sl.put, D.put, D.setKid, argsOnly, outs, mMod, mDiv, mMul, mAdd, mSub, mSkip, mBrk, mCnt, mAnd, mOr, mNot, mVal, mIfE, mCall, kCall, imps, wbs, mTup, fTup, mLst, fLst, fLenG, fLen, fLenD, mPow, fPow, fIsN, fNotN, D.isNon, D.isHole, fIn, fNotIn, D.truth, mUnp, gN, gT, gsCons, gsNil, mApp, mPop, mMeth, maConsP, tyP, tyD, fL, lApp, lPop, sizeLine_eq, fEq_int, fEq_str, fNe_int, fNe_str, ht]),
      seq_nx (e1 := [.arg S1, a1, a2, .val (.lst true ((os.set t os[t + n]).map D.int)), .val (.int t), s5, s6, .val (.int ((t + n : Nat) : Int)), .val (.int os[t]), s9, s10]) (by
        generalize t + n = m at hm x2
        simp [mSeq, mIf, mTest, mTru, mGt, mLt, mLe, mGe, mEq, mNe, mIsN, mNotN, mIn, mNotIn, mOp, maCons, maNil, mIx, kIx, mN, mC, mSet, mAsgIx, mRet, mRetN, mDrop, mF1, kf, ko, gets, owns, R.get, R.own, R.ok, R.kid, D.kids, D.at, D.pure, D.pureL, dAt, Sl.d?, ixD, ixN, fCmp, fLt, fLe, fGt, fGe, fMod, fDiv, fMul, fAdd, fSub, fInt, fAbs, fSetIx, kCh, enPut, Sl.put, D.put, D.setKid, argsOnly, outs, mMod, mDiv, mMul, mAdd, mSub, mSkip, mBrk, mCnt, mAnd, mOr, mNot, mVal, mIfE, mCall, kCall, imps, wbs, mTup, fTup, mLst, fLst, fLenG, fLen, fLenD, mPow, fPow, fIsN, fNotN, D.isNon, D.isHole, fIn, fNotIn, D.truth, mUnp, gN, gT, gsCons, gsNil, mApp, mPop, mMeth, maConsP, tyP, tyD, fL, lApp, lPop, sizeLine_eq, fEq_int, fEq_str, fNe_int, fNe_str, ht, hm])]
    generalize t + n = m at hm x2
    simp [mSeq, mIf, mTest, mTru, mGt, mLt, mLe, mGe, mEq, mNe, mIsN, mNotN, mIn, mNotIn, mOp, maCons, maNil, mIx, kIx, mN, mC, mSet, mAsgIx, mRet, mRetN, mDrop, mF1, kf, ko, gets, owns, R.get, R.own, R.ok, R.kid, D.kids, D.at, D.pure, D.pureL, dAt, Sl.d?, ixD, ixN, fCmp, fLt, fLe, fGt, fGe, fMod, fDiv, fMul, fAdd, fSub, fInt, fAbs, fSetIx, kCh, enPut, Sl.put, D.put, D.setKid, argsOnly, outs, mMod, mDiv, mMul, mAdd, mSub, mSkip, mBrk, mCnt, mAnd, mOr, mNot, mVal, mIfE, mCall, kCall, imps, wbs, mTup, fTup, mLst, fLst, fLenG, fLen, fLenD, mPow, fPow, fIsN, fNotN, D.isNon, D.isHole, fIn, fNotIn, D.truth, mUnp, gN, gT, gsCons, gsNil, mApp, mPop, mMeth, maConsP, tyP, tyD, fL, lApp, lPop, sizeLine_eq, fEq_int, fEq_str, fNe_int, fNe_str, ht, hm]
theorem graph_l1 {a1 a2 s5 s6 s9 s10 : Sl} : ∀ (n t : Nat) (os : List Int) (S : D) (s4 s7 s8 : Sl), Src S → 1 ≤ t → t + n ≤ os.length → os.length ≤ 5000 →
    ∃ (S' : D) (os' : List Int) (u4 u7 u8 : Sl), Src S' ∧ os'.Perm os ∧ os'[0]? = os[0]? ∧ forGo (gN 4) b_l_graph_f1 ((List.range' t n).map fun i : Nat => D.int i) [.arg S, a1, a2, .val (.lst true (os.map D.int)), s4, s5, s6, s7, s8, s9, s10] = some (.nx, [.arg S', a1, a2, .val (.lst true (os'.map D.int)), u4, s5, s6, u7, u8, s9, s10])
  | 0, t, os, S, s4, s7, s8, hS, _, _, _ => ⟨S, os, s4, s7, s8, hS, .refl _, rfl, forGo_nil⟩
  | n + 1, t, os, S, s4, s7, s8, hS, h1, h2, h3 => by
    obtain ⟨S1, o1, v7, v8, b1, b2, b3, b4⟩ := graph_f1 (a1 := a1) (a2 := a2) (s5 := s5) (s6 := s6) (s7 := s7) (s8 := s8) (s9 := s9) (s10 := s10) (t := t) hS h1 (show t < os.length by omega) h3
    have hl := b2.length_eq
    obtain ⟨S2, o2, w4, w7, w8, c1, c2, c3, c4⟩ := graph_l1 (a1 := a1) (a2 := a2) (s5 := s5) (s6 := s6) (s9 := s9) (s10 := s10) n (t + 1) o1 S1 (.val (.int t)) v7 v8 b1 (by omega) (by omega) (by omega)
    refine ⟨S2, o2, w4, w7, w8, c1, c2.trans b2, c3.trans b3, ?_⟩
    rw [List.range'_succ, List.map_cons, forGo_nx (e1 := [.arg S, a1, a2, .val (.lst true (os.map D.int)), .val (.int t), s5, s6, s7, s8, s9, s10]) (by simp [gN, mSeq, mIf, mTest, mTru, mGt, mLt, mLe, mGe, mEq, mNe, mIsN, mNotN, mIn, mNotIn, mOp, maCons, maNil, mIx, kIx, mN, mC, mSet, mAsgIx, mRet, mRetN, mDrop, mF1, kf, ko, gets, owns, R.get, R.own, R.ok, R.kid, D.kids, D.at, D.pure, D.pureL, dAt, Sl.d?, ixD, ixN, fCmp, fLt, fLe, fGt, fGe, fMod, fDiv, fMul, fAdd, fSub, fInt, fAbs, fSetIx, kCh, enPut, Sl.put, D.put, D.setKid, argsOnly, outs, mMod, mDiv, mMul, mAdd, mSub, mSkip, mBrk, mCnt, mAnd, mOr, mNot, mVal, mIfE, mCall, kCall, imps, wbs, mTup, fTup, mLst, fLst, fLenG, fLen, fLenD, mPow, fPow, fIsN, fNotN, D.isNon, D.isHole, fIn, fNotIn, D.truth, mUnp, gN, gT, gsCons, gsNil, mApp, mPop, mMeth, maConsP, tyP, tyD, fL, lApp, lPop, sizeLine_eq, fEq_int, fEq_str, fNe_int, fNe_str]) b4]
    exact c4
end K35
set_option Elab.async false
set_option linter.all false
set_option maxRecDepth 100000
set_option maxHeartbeats 4000000
namespace K35
open PySem PySem.Spec PyProof.Rows L2 G
theorem lab_pair {E : List D} (hE : Evs E) {d : D} (h : Lab E d) : ∃ x v, d = .tup [.str x, v] ∧ Alk v v ∧ PyData.strOk x = true := by
  rcases h with rfl | rfl | h
  · exact ⟨_, _, rfl, .inr (.inr ⟨_, _, rfl, rfl, by decide +kernel, by decide +kernel⟩), by decide +kernel⟩
  · exact ⟨_, _, rfl, .inr (.inr ⟨_, _, rfl, rfl, by decide +kernel, by decide +kernel⟩), by decide +kernel⟩
  · obtain ⟨x, v, e, n, a⟩ := hE.1 d h
    exact ⟨x, v, e, a, n.2⟩
theorem lab_alk {E : List D} (hE : Evs E) {x : Str} {v v' : D} (h : Lab E (.tup [.str x, v])) (h' : Lab E (.tup [.str x, v'])) : Alk v v' := by
  have inner : ∀ {u : D} {w : Str}, Lab E (.tup [.str x, u]) → x = "" → ∃ y, u = .str y ∧ PyData.strOk y = true := fun {u w} h e => by
    rcases h with h | h | h
    · injection h with h; injection h with _ h; injection h with h _
      exact ⟨_, h, by decide +kernel⟩
    · injection h with h; injection h with _ h; injection h with h _
      exact ⟨_, h, by decide +kernel⟩
    · obtain ⟨y, w, e1, n, _⟩ := hE.1 _ h
      injection e1 with e1; injection e1 with e1 _; injection e1 with e1
      have := n.1
      rw [← e1, e] at this
      exact absurd this (by decide +kernel)
  by_cases e : x = ""
  · obtain ⟨y, rfl, o⟩ := inner (w := "") h e
    obtain ⟨y', rfl, o'⟩ := inner (w := "") h' e
    exact .inr (.inr ⟨y, y', rfl, rfl, o, o'⟩)
  · have out : ∀ {u : D}, Lab E (.tup [.str x, u]) → D.tup [.str x, u] ∈ E := fun {u} h => by
      rcases h with h | h | h
      · injection h with h; injection h with h _; injection h with h; exact absurd h e
      · injection h with h; injection h with h _; injection h with h; exact absurd h e
      · exact h
    exact hE.2 x v v' (out h) (out h')
def Edge (E : List D) (n : Nat) (d : D) : Prop := ∃ (L : D) (j : Nat), d = .tup [L, .int j] ∧ Lab E L ∧ j < n
theorem edges_ok {E : List D} {n : Nat} {ds : List D} (hE : Evs E) (h : ∀ d ∈ ds, Edge E n d) (hl : ds.length ≤ 5000) : okSort (D.toPyL ds) = true := by
  unfold okSort
  rw [toPyL_map]
  simp only [Bool.and_eq_true, Bool.or_eq_true, List.all_eq_true, decide_eq_true_eq, List.length_map]
  have hs : sizeLine = 16777216 := sizeLine_eq
  refine ⟨⟨⟨⟨fun d hd d' hd' => ?_, fun d hd => ?_⟩, fun d hd => ?_⟩, .inl fun d hd => ?_⟩, by rw [hs]; omega⟩
  · obtain ⟨u, hu, rfl⟩ := List.mem_map.mp hd
    obtain ⟨u', hu', rfl⟩ := List.mem_map.mp hd'
    obtain ⟨L, j, rfl, l, _⟩ := h u hu
    obtain ⟨L', j', rfl, l', _⟩ := h u' hu'
    obtain ⟨x, v, rfl, a, _⟩ := lab_pair hE l
    obtain ⟨x', v', rfl, a', _⟩ := lab_pair hE l'
    simp only [D.toPy, D.toPyL, sib, sibAll, Bool.true_and, Bool.or_true, Bool.and_true, Bool.or_eq_true, Bool.not_eq_true', PyData.eqv]
    by_cases e : x = x'
    · subst e
      exact .inr (lab_alk hE l l').pure.2.2.1
    · exact .inl (by simp [e])
  · obtain ⟨u, hu, rfl⟩ := List.mem_map.mp hd
    obtain ⟨L, j, rfl, l, _⟩ := h u hu
    obtain ⟨x, v, rfl, a, _⟩ := lab_pair hE l
    simp [D.toPy, D.toPyL, PyData.plain, PyData.plainAll, a.pure.2.2.2.2]
  · obtain ⟨u, hu, rfl⟩ := List.mem_map.mp hd
    obtain ⟨L, j, rfl, l, _⟩ := h u hu
    obtain ⟨x, v, rfl, a, _⟩ := lab_pair hE l
    simp [D.toPy, D.toPyL, PyData.depth, PyData.depthAll, a.pure.2.2.2.1]
  · obtain ⟨u, hu, rfl⟩ := List.mem_map.mp hd
    obtain ⟨L, j, rfl, l, _⟩ := h u hu
    simp [D.toPy, D.toPyL]
theorem edge_keyOk {E : List D} {n : Nat} {ks : List D} {d : D} (hE : Evs E) (h : ∀ d ∈ ks, Edge E n d) (hd : Edge E n d) : keyOk ks d = true := by
  obtain ⟨L, j, rfl, l, _⟩ := hd
  obtain ⟨x, v, rfl, a, _⟩ := lab_pair hE l
  have hall : (ks.all D.isTup) = true := by
    rw [List.all_eq_true]
    intro k hk
    obtain ⟨L', j', rfl, _⟩ := h k hk
    rfl
  rcases a with ⟨rfl, _⟩ | ⟨i, _, rfl, _⟩ | ⟨y, _, rfl, _⟩ <;> simp [keyOk, D.toK, D.toN, D.toNL, hall, D.isTup, NestedKey.depth, NestedKey.depthAll]
end K35
set_option Elab.async false
set_option linter.all false
set_option maxRecDepth 100000
set_option maxHeartbeats 4000000
namespace K35
open PySem PySem.Spec PyProof.Rows L2 G
theorem edge_pure {E : List D} {n : Nat} {d : D} (hE : Evs E) (h : Edge E n d) : d.pure = true ∧ d.plain = true := by
  obtain ⟨L, j, rfl, l, _⟩ := h
  have := lab_pure hE l
  exact ⟨by simp [D.pure, D.pureL, this.1], by simp [D.plain, D.plainL, this.2]⟩
theorem put_keys {E : List D} {n : Nat} {ks vs : List D} {k v : D} (h : ∀ d ∈ ks, Edge E n d) (hk : Edge E n k) : (∀ d ∈ (dPut ks vs k v).1, Edge E n d) ∧ (dPut ks vs k v).1.length ≤ ks.length + 1 := by
  unfold dPut
  split
  · exact ⟨h, Nat.le_succ _⟩
  · refine ⟨fun d hd => ?_, by rw [List.length_append]; exact Nat.le_refl _⟩
    rcases List.mem_append.mp hd with hd | hd
    · exact h d hd
    · rw [List.mem_singleton] at hd; exact hd ▸ hk
theorem graph_f2 {S : D} {E : List D} {os : List Int} {ks vs : List D} {a1 a2 s4 s5 s7 s8 : Sl} {c i j : Int} {l : D} (hE : Evs E) (hk : ∀ d ∈ ks, Edge E os.length d) (hl : ks.length ≤ 5000) (hL : Lab E l) (hj : i = c → j ∈ os) :
    ∃ ks' vs' : List D, (∀ d ∈ ks', Edge E os.length d) ∧ ks'.length ≤ ks.length + 1 ∧ b_l_graph_f2.run [.arg S, a1, a2, .val (.lst true (os.map D.int)), s4, s5, .val (.int c), s7, s8, .val (.dct true ks vs), .val (.tup [.int i, l, .int j])] =
      some (.nx, [.arg S, a1, a2, .val (.lst true (os.map D.int)), s4, s5, .val (.int c), s7, s8, .val (.dct true ks' vs'), .val (.tup [.int i, l, .int j])]) := by
  by_cases e : i = c
  · obtain ⟨n, h1, h2, h3⟩ := fIndex_ints (m := true) (hj e)
    have hd : Edge E os.length (.tup [l, .int n]) := ⟨l, n, rfl, hL, h1⟩
    obtain ⟨p1, p2⟩ := put_keys (vs := vs) (v := .bl true) hk hd
    have hko := edge_keyOk hE hk hd
    have pl := (lab_pure hE hL).1
    have ht : ks.length < 16777216 := by omega
    refine ⟨_, (dPut ks vs (.tup [l, .int n]) (.bl true)).2, p1, p2, ?_⟩
    simp [b_l_graph_f2, mSeq, mIf, mTest, mTru, mGt, mLt, mLe, mGe, mEq, mNe, mIsN, mNotN, mIn, mNotIn, mOp, maCons, maNil, mIx, kIx, mN, mC, mSet, mAsgIx, mRet, mRetN, mDrop, mF1, kf, ko, gets, owns, R.get, R.own, R.ok, R.kid, D.kids, D.at, D.pure, D.pureL, dAt, Sl.d?, ixD, ixN, fCmp, fLt, fLe, fGt, fGe, fMod, fDiv, fMul, fAdd, fSub, fInt, fAbs, fSetIx, kCh, enPut, Sl.put, D.put, D.setKid, argsOnly, outs, mMod, mDiv, mMul, mAdd, mSub, mSkip, mBrk, mCnt, mAnd, mOr, mNot, mVal, mIfE, mCall, kCall, imps, wbs, mTup, fTup, mLst, fLst, fLenG, fLen, fLenD, mPow, fPow, fIsN, fNotN, D.isNon, D.isHole, fIn, fNotIn, D.truth, mUnp, gN, gT, gsCons, gsNil, mApp, mPop, mMeth, maConsP, tyP, tyD, fL, lApp, lPop, sizeLine_eq, fEq_int, fEq_str, fNe_int, fNe_str, e, mIndex, h3, hko, pl, ht]
  · exact ⟨ks, vs, hk, Nat.le_succ _, by simp [b_l_graph_f2, mSeq, mIf, mTest, mTru, mGt, mLt, mLe, mGe, mEq, mNe, mIsN, mNotN, mIn, mNotIn, mOp, maCons, maNil, mIx, kIx, mN, mC, mSet, mAsgIx, mRet, mRetN, mDrop, mF1, kf, ko, gets, owns, R.get, R.own, R.ok, R.kid, D.kids, D.at, D.pure, D.pureL, dAt, Sl.d?, ixD, ixN, fCmp, fLt, fLe, fGt, fGe, fMod, fDiv, fMul, fAdd, fSub, fInt, fAbs, fSetIx, kCh, enPut, Sl.put, D.put, D.setKid, argsOnly, outs, mMod, mDiv, mMul, mAdd, mSub, mSkip, mBrk, mCnt, mAnd, mOr, mNot, mVal, mIfE, mCall, kCall, imps, wbs, mTup, fTup, mLst, fLst, fLenG, fLen, fLenD, mPow, fPow, fIsN, fNotN, D.isNon, D.isHole, fIn, fNotIn, D.truth, mUnp, gN, gT, gsCons, gsNil, mApp, mPop, mMeth, maConsP, tyP, tyD, fL, lApp, lPop, sizeLine_eq, fEq_int, fEq_str, fNe_int, fNe_str, e]⟩
theorem graph_l2 {S : D} {E : List D} {k : Int} {os : List Int} {a1 a2 s4 s5 s7 s8 : Sl} {c : Int} (hE : Evs E) : ∀ (ds : List D) (ks vs : List D) (s : Sl), (∀ d ∈ ds, Stp E k d) → (∀ d ∈ ds, d.pure = true) → (∀ l j, D.tup [.int c, l, .int j] ∈ ds → j ∈ os) → (∀ d ∈ ks, Edge E os.length d) → ks.length + ds.length ≤ 5000 →
    ∃ (ks' vs' : List D) (s' : Sl), (∀ d ∈ ks', Edge E os.length d) ∧ ks'.length ≤ ks.length + ds.length ∧ forGo (gN 10) b_l_graph_f2 ds [.arg S, a1, a2, .val (.lst true (os.map D.int)), s4, s5, .val (.int c), s7, s8, .val (.dct true ks vs), s] =
      some (.nx, [.arg S, a1, a2, .val (.lst true (os.map D.int)), s4, s5, .val (.int c), s7, s8, .val (.dct true ks' vs'), s'])
  | [], ks, vs, s, _, _, _, hk, _ => ⟨ks, vs, s, hk, Nat.le_refl _, forGo_nil⟩
  | d :: ds, ks, vs, s, hd, hp, hj, hk, hl => by
    rw [List.length_cons] at hl
    obtain ⟨i, l, j, rfl, _, _, hL, _, _⟩ := hd d List.mem_cons_self
    obtain ⟨k1, v1, b1, b2, b3⟩ := graph_f2 (S := S) (vs := vs) (a1 := a1) (a2 := a2) (s4 := s4) (s5 := s5) (s7 := s7) (s8 := s8) (c := c) (i := i) (j := j) hE hk (by omega) hL (fun e => hj l j (e ▸ List.mem_cons_self))
    obtain ⟨k2, v2, s2, c1, c2, c3⟩ := graph_l2 (S := S) (a1 := a1) (a2 := a2) (s4 := s4) (s5 := s5) (s7 := s7) (s8 := s8) (c := c) hE ds k1 v1 (.val (.tup [.int i, l, .int j])) (fun x hx => hd x (List.mem_cons_of_mem _ hx)) (fun x hx => hp x (List.mem_cons_of_mem _ hx)) (fun l j hm => hj l j (List.mem_cons_of_mem _ hm)) b1 (by omega)
    refine ⟨k2, v2, s2, c1, by rw [List.length_cons]; omega, ?_⟩
    have := (lab_pure hE hL).1
    rw [forGo_nx (e1 := [.arg S, a1, a2, .val (.lst true (os.map D.int)), s4, s5, .val (.int c), s7, s8, .val (.dct true ks vs), .val (.tup [.int i, l, .int j])]) (by simp [gN, mSeq, mIf, mTest, mTru, mGt, mLt, mLe, mGe, mEq, mNe, mIsN, mNotN, mIn, mNotIn, mOp, maCons, maNil, mIx, kIx, mN, mC, mSet, mAsgIx, mRet, mRetN, mDrop, mF1, kf, ko, gets, owns, R.get, R.own, R.ok, R.kid, D.kids, D.at, D.pure, D.pureL, dAt, Sl.d?, ixD, ixN, fCmp, fLt, fLe, fGt, fGe, fMod, fDiv, fMul, fAdd, fSub, fInt, fAbs, fSetIx, kCh, enPut, Sl.put, D.put, D.setKid, argsOnly, outs, mMod, mDiv, mMul, mAdd, mSub, mSkip, mBrk, mCnt, mAnd, mOr, mNot, mVal, mIfE, mCall, kCall, imps, wbs, mTup, fTup, mLst, fLst, fLenG, fLen, fLenD, mPow, fPow, fIsN, fNotN, D.isNon, D.isHole, fIn, fNotIn, D.truth, mUnp, gN, gT, gsCons, gsNil, mApp, mPop, mMeth, maConsP, tyP, tyD, fL, lApp, lPop, sizeLine_eq, fEq_int, fEq_str, fNe_int, fNe_str, this]) b3]
    exact c3
def RowOk (E : List D) (n : Nat) (d : D) : Prop := ∃ es, d = .tup es ∧ (∀ e ∈ es, Edge E n e) ∧ es.length ≤ 5000
theorem graph_f3 {S : D} {E T : List D} {k : Int} {os : List Int} {a1 s4 s7 s8 s9 s10 : Sl} {Rs : List D} {c : Int} (hE : Evs E) (hT : ∀ d ∈ T, Stp E k d) (hp : ∀ d ∈ T, d.pure = true) (hl : T.length ≤ 4000) (hc : ∀ l j, D.tup [.int c, l, .int j] ∈ T → j ∈ os) (hR : Rs.length ≤ 5000) :
    ∃ (d : D) (u9 u10 : Sl), RowOk E os.length d ∧ b_l_graph_f3.run [.arg S, a1, .arg (.lst true T), .val (.lst true (os.map D.int)), s4, .val (.lst true Rs), .val (.int c), s7, s8, s9, s10] =
      some (.nx, [.arg S, a1, .arg (.lst true T), .val (.lst true (os.map D.int)), s4, .val (.lst true (Rs ++ [d])), .val (.int c), s7, s8, u9, u10]) := by
  obtain ⟨ks, vs, s', b1, b2, b3⟩ := graph_l2 (S := S) (a1 := a1) (a2 := .arg (.lst true T)) (s4 := s4) (s5 := .val (.lst true Rs)) (s7 := s7) (s8 := s8) (c := c) (os := os) hE T [] [] s10 hT hp hc (fun _ z => (nomatch z)) (by simp; omega)
  rw [List.length_nil, Nat.zero_add] at b2
  have ok := edges_ok hE b1 (by omega)
  have pT := pureL_all hp
  have pe : D.pureL (sortD ks) = true := pureL_all fun d hd => (edge_pure hE (b1 d (sortD_mem.mp hd))).1
  have fs : fSort [.dct true ks vs] = some (.lst true (sortD ks)) := by
    show (if okSort (D.toPyL ks) = true then some (D.lst true (sortD ks)) else none) = _
    rw [ok]; rfl
  have hr : Rs.length < 16777216 := by omega
  refine ⟨.tup (sortD ks), .val (.dct true ks vs), s', ⟨_, rfl, fun e he => b1 e (sortD_mem.mp he), by rw [sortD_length]; omega⟩, ?_⟩
  unfold b_l_graph_f3
  rw [seq_nx (e1 := [.arg S, a1, .arg (.lst true T), .val (.lst true (os.map D.int)), s4, .val (.lst true Rs), .val (.int c), s7, s8, .val (.dct true [] []), s10]) (by simp [mSeq, mIf, mTest, mTru, mGt, mLt, mLe, mGe, mEq, mNe, mIsN, mNotN, mIn, mNotIn, mOp, maCons, maNil, mIx, kIx, mN, mC, mSet, mAsgIx, mRet, mRetN, mDrop, mF1, kf, ko, gets, owns, R.get, R.own, R.ok, R.kid, D.kids, D.at, D.pure, D.pureL, dAt, Sl.d?, ixD, ixN, fCmp, fLt, fLe, fGt, fGe, fMod, fDiv, fMul, fAdd, fSub, fInt, fAbs, fSetIx, kCh, enPut, Sl.put, D.put, D.setKid, argsOnly, outs, mMod, mDiv, mMul, mAdd, mSub, mSkip, mBrk, mCnt, mAnd, mOr, mNot, mVal, mIfE, mCall, kCall, imps, wbs, mTup, fTup, mLst, fLst, fLenG, fLen, fLenD, mPow, fPow, fIsN, fNotN, D.isNon, D.isHole, fIn, fNotIn, D.truth, mUnp, gN, gT, gsCons, gsNil, mApp, mPop, mMeth, maConsP, tyP, tyD, fL, lApp, lPop, sizeLine_eq, fEq_int, fEq_str, fNe_int, fNe_str]),
    seq_nx ((for_run (ds := T) (rs := [.p 2 []]) (by simp [iSeq, D.items, mSeq, mIf, mTest, mTru, mGt, mLt, mLe, mGe, mEq, mNe, mIsN, mNotN, mIn, mNotIn, mOp, maCons, maNil, mIx, kIx, mN, mC, mSet, mAsgIx, mRet, mRetN, mDrop, mF1, kf, ko, gets, owns, R.get, R.own, R.ok, R.kid, D.kids, D.at, D.pure, D.pureL, dAt, Sl.d?, ixD, ixN, fCmp, fLt, fLe, fGt, fGe, fMod, fDiv, fMul, fAdd, fSub, fInt, fAbs, fSetIx, kCh, enPut, Sl.put, D.put, D.setKid, argsOnly, outs, mMod, mDiv, mMul, mAdd, mSub, mSkip, mBrk, mCnt, mAnd, mOr, mNot, mVal, mIfE, mCall, kCall, imps, wbs, mTup, fTup, mLst, fLst, fLenG, fLen, fLenD, mPow, fPow, fIsN, fNotN, D.isNon, D.isHole, fIn, fNotIn, D.truth, mUnp, gN, gT, gsCons, gsNil, mApp, mPop, mMeth, maConsP, tyP, tyD, fL, lApp, lPop, sizeLine_eq, fEq_int, fEq_str, fNe_int, fNe_str, pT]) rfl).trans b3)]
  simp [mSeq, mIf, mTest, mTru, mGt, mLt, mLe, mGe, mEq, mNe, mIsN, mNotN, mIn, mNotIn, mOp, maCons, maNil, mIx, kIx, mN, mC, mSet, mAsgIx, mRet, mRetN, mDrop, mF1, kf, ko, gets, owns, R.get, R.own, R.ok, R.kid, D.kids, D.at, D.pure, D.pureL, dAt, Sl.d?, ixD, ixN, fCmp, fLt, fLe, fGt, fGe, fMod, fDiv, fMul, fAdd, fSub, fInt, fAbs, fSetIx, kCh, enPut, Sl.put, D.put, D.setKid, argsOnly, outs, mMod, mDiv, mMul, mAdd, mSub, mSkip, mBrk, mCnt, mAnd, mOr, mNot, mVal, mIfE, mCall, kCall, imps, wbs, mTup, fTup, mLst, fLst, fLenG, fLen, fLenD, mPow, fPow, fIsN, fNotN, D.isNon, D.isHole, fIn, fNotIn, D.truth, mUnp, gN, gT, gsCons, gsNil, mApp, mPop, mMeth, maConsP, tyP, tyD, fL, lApp, lPop, sizeLine_eq, fEq_int, fEq_str, fNe_int, fNe_str, fs, fTuple, D.items, pe, hr]
theorem graph_l3 {S : D} {E T : List D} {k : Int} {os : List Int} {a1 s4 s7 s8 : Sl} (hE : Evs E) (hT : ∀ d ∈ T, Stp E k d) (hp : ∀ d ∈ T, d.pure = true) (hl : T.length ≤ 4000) : ∀ (cs : List Int) (Rs : List D) (s6 s9 s10 : Sl), (∀ c ∈ cs, ∀ l j, D.tup [.int c, l, .int j] ∈ T → j ∈ os) → (∀ d ∈ Rs, RowOk E os.length d) → Rs.length + cs.length ≤ 5000 →
    ∃ (Rs' : List D) (u6 u9 u10 : Sl), (∀ d ∈ Rs', RowOk E os.length d) ∧ Rs'.length = Rs.length + cs.length ∧ forGo (gN 6) b_l_graph_f3 (cs.map D.int) [.arg S, a1, .arg (.lst true T), .val (.lst true (os.map D.int)), s4, .val (.lst true Rs), s6, s7, s8, s9, s10] =
      some (.nx, [.arg S, a1, .arg (.lst true T), .val (.lst true (os.map D.int)), s4, .val (.lst true Rs'), u6, s7, s8, u9, u10])
  | [], Rs, s6, s9, s10, _, hR, _ => ⟨Rs, s6, s9, s10, hR, rfl, forGo_nil⟩
  | c :: cs, Rs, s6, s9, s10, hc, hR, hn => by
    rw [List.length_cons] at hn
    obtain ⟨d, u9, u10, b1, b2⟩ := graph_f3 (S := S) (a1 := a1) (s4 := s4) (s7 := s7) (s8 := s8) (s9 := s9) (s10 := s10) (os := os) (Rs := Rs) (c := c) hE hT hp hl (hc c List.mem_cons_self) (by omega)
    obtain ⟨Rs', w6, w9, w10, c1, c2, c3⟩ := graph_l3 (S := S) (a1 := a1) (s4 := s4) (s7 := s7) (s8 := s8) (os := os) hE hT hp hl cs (Rs ++ [d]) (.val (.int c)) u9 u10 (fun x hx => hc x (List.mem_cons_of_mem _ hx)) (fun x hx => by
      rcases List.mem_append.mp hx with hx | hx
      · exact hR x hx
      · rw [List.mem_singleton] at hx; exact hx ▸ b1) (by rw [List.length_append, List.length_singleton]; omega)
    refine ⟨Rs', w6, w9, w10, c1, by rw [c2, List.length_append, List.length_singleton, List.length_cons]; omega, ?_⟩
    rw [List.map_cons, forGo_nx (e1 := [.arg S, a1, .arg (.lst true T), .val (.lst true (os.map D.int)), s4, .val (.lst true Rs), .val (.int c), s7, s8, s9, s10]) (by simp [gN, mSeq, mIf, mTest, mTru, mGt, mLt, mLe, mGe, mEq, mNe, mIsN, mNotN, mIn, mNotIn, mOp, maCons, maNil, mIx, kIx, mN, mC, mSet, mAsgIx, mRet, mRetN, mDrop, mF1, kf, ko, gets, owns, R.get, R.own, R.ok, R.kid, D.kids, D.at, D.pure, D.pureL, dAt, Sl.d?, ixD, ixN, fCmp, fLt, fLe, fGt, fGe, fMod, fDiv, fMul, fAdd, fSub, fInt, fAbs, fSetIx, kCh, enPut, Sl.put, D.put, D.setKid, argsOnly, outs, mMod, mDiv, mMul, mAdd, mSub, mSkip, mBrk, mCnt, mAnd, mOr, mNot, mVal, mIfE, mCall, kCall, imps, wbs, mTup, fTup, mLst, fLst, fLenG, fLen, fLenD, mPow, fPow, fIsN, fNotN, D.isNon, D.isHole, fIn, fNotIn, D.truth, mUnp, gN, gT, gsCons, gsNil, mApp, mPop, mMeth, maConsP, tyP, tyD, fL, lApp, lPop, sizeLine_eq, fEq_int, fEq_str, fNe_int, fNe_str]) b2]
    exact c3
theorem dr1 (n : Nat) : dRange 1 (n : Int) = (List.range' 1 (n - 1)).map fun i : Nat => D.int i := by
  unfold dRange
  rw [List.range_eq_range', show ((n : Int) - 1).toNat = n - 1 by omega]
  refine List.ext_getElem (by simp) fun i h h' => ?_
  simp
theorem graph_rng {a0 a1 a2 s4 s5 s6 s7 s8 s9 s10 : Sl} {n : Nat} {os : List Int} (hn : os.length = n) (h : n ≤ 5000) : (iRng (ma2 (mC (.int 1)) (mF1 fLenG (mN 3)))).run [a0, a1, a2, .val (.lst true (os.map D.int)), s4, s5, s6, s7, s8, s9, s10] =
    some (dRange 1 (n : Int), [], [a0, a1, a2, .val (.lst true (os.map D.int)), s4, s5, s6, s7, s8, s9, s10]) := by
  have q : (mF1 fLenG (mN 3)).run [a0, a1, a2, .val (.lst true (os.map D.int)), s4, s5, s6, s7, s8, s9, s10] = some (.v (.int n), [a0, a1, a2, .val (.lst true (os.map D.int)), s4, s5, s6, s7, s8, s9, s10]) := by
    simp [mSeq, mIf, mTest, mTru, mGt, mLt, mLe, mGe, mEq, mNe, mIsN, mNotN, mIn, mNotIn, mOp, maCons, maNil, mIx, kIx, mN, mC, mSet, mAsgIx, mRet, mRetN, mDrop, mF1, kf, ko, gets, owns, R.get, R.own, R.ok, R.kid, D.kids, D.at, D.pure, D.pureL, dAt, Sl.d?, ixD, ixN, fCmp, fLt, fLe, fGt, fGe, fMod, fDiv, fMul, fAdd, fSub, fInt, fAbs, fSetIx, kCh, enPut, Sl.put, D.put, D.setKid, argsOnly, outs, mMod, mDiv, mMul, mAdd, mSub, mSkip, mBrk, mCnt, mAnd, mOr, mNot, mVal, mIfE, mCall, kCall, imps, wbs, mTup, fTup, mLst, fLst, fLenG, fLen, fLenD, mPow, fPow, fIsN, fNotN, D.isNon, D.isHole, fIn, fNotIn, D.truth, mUnp, gN, gT, gsCons, gsNil, mApp, mPop, mMeth, maConsP, tyP, tyD, fL, lApp, lPop, sizeLine_eq, fEq_int, fEq_str, fNe_int, fNe_str, hn]
  have x3 : (-4611686018427387904 : Int) ≤ n := by omega
  have x4 : (n : Int) < 4611686018427387904 := by omega
  generalize (n : Int) = z at q x3 x4
  exact irng2 rfl q (by decide) (by decide) x3 x4
theorem graph_s1 {m : Fn} {S : D} {I O T E1 : List D} {os : List Int} (a2 : m [.lst true T] = some (.lst true (os.map D.int), [.lst true T])) (pT : D.pureL T = true) :
    (mSet 3 (mCall m [2] (maCons (mN 2) maNil))).run [.arg S, .arg (.tup [.tup I, .tup O, .lst true E1]), .arg (.lst true T), .un, .un, .un, .un, .un, .un, .un, .un] = some (.nx, [.arg S, .arg (.tup [.tup I, .tup O, .lst true E1]), .arg (.lst true T), .val (.lst true (os.map D.int)), .un, .un, .un, .un, .un, .un, .un]) := by
  simp [mSeq, mIf, mTest, mTru, mGt, mLt, mLe, mGe, mEq, mNe, mIsN, mNotN, mIn, mNotIn, mOp, maCons, maNil, mIx, kIx, mN, mC, mSet, mAsgIx, mRet, mRetN, mDrop, mF1, kf, ko, gets, owns, R.get, R.own, R.ok, R.kid, D.kids, D.at, D.pure, D.pureL, dAt, Sl.d?, ixD, ixN, fCmp, fLt, fLe, fGt, fGe, fMod, fDiv, fMul, fAdd, fSub, fInt, fAbs, fSetIx, kCh, enPut, Sl.put, D.put, D.setKid, argsOnly, outs, mMod, mDiv, mMul, mAdd, mSub, mSkip, mBrk, mCnt, mAnd, mOr, mNot, mVal, mIfE, mCall, kCall, imps, wbs, mTup, fTup, mLst, fLst, fLenG, fLen, fLenD, mPow, fPow, fIsN, fNotN, D.isNon, D.isHole, fIn, fNotIn, D.truth, mUnp, gN, gT, gsCons, gsNil, mApp, mPop, mMeth, maConsP, tyP, tyD, fL, lApp, lPop, sizeLine_eq, fEq_int, fEq_str, fNe_int, fNe_str, a2, pT]
theorem graph_s3 {a0 a1 a2 s3 s4 s6 s7 s8 s9 s10 : Sl} : (mSet 5 (mLst maNil)).run [a0, a1, a2, s3, s4, .un, s6, s7, s8, s9, s10] = some (.nx, [a0, a1, a2, s3, s4, .val (.lst true []), s6, s7, s8, s9, s10]) := by
  simp [mSeq, mIf, mTest, mTru, mGt, mLt, mLe, mGe, mEq, mNe, mIsN, mNotN, mIn, mNotIn, mOp, maCons, maNil, mIx, kIx, mN, mC, mSet, mAsgIx, mRet, mRetN, mDrop, mF1, kf, ko, gets, owns, R.get, R.own, R.ok, R.kid, D.kids, D.at, D.pure, D.pureL, dAt, Sl.d?, ixD, ixN, fCmp, fLt, fLe, fGt, fGe, fMod, fDiv, fMul, fAdd, fSub, fInt, fAbs, fSetIx, kCh, enPut, Sl.put, D.put, D.setKid, argsOnly, outs, mMod, mDiv, mMul, mAdd, mSub, mSkip, mBrk, mCnt, mAnd, mOr, mNot, mVal, mIfE, mCall, kCall, imps, wbs, mTup, fTup, mLst, fLst, fLenG, fLen, fLenD, mPow, fPow, fIsN, fNotN, D.isNon, D.isHole, fIn, fNotIn, D.truth, mUnp, gN, gT, gsCons, gsNil, mApp, mPop, mMeth, maConsP, tyP, tyD, fL, lApp, lPop, sizeLine_eq, fEq_int, fEq_str, fNe_int, fNe_str]
theorem graph_s4 {a0 a1 a2 s4 s5 s6 s7 s8 s9 s10 : Sl} {os : List Int} : (iSeq (mN 3)).run [a0, a1, a2, .val (.lst true (os.map D.int)), s4, s5, s6, s7, s8, s9, s10] =
      some (os.map D.int, [.p 3 []], [a0, a1, a2, .val (.lst true (os.map D.int)), s4, s5, s6, s7, s8, s9, s10]) := by
  simp [iSeq, D.items, mSeq, mIf, mTest, mTru, mGt, mLt, mLe, mGe, mEq, mNe, mIsN, mNotN, mIn, mNotIn, mOp, maCons, maNil, mIx, kIx, mN, mC, mSet, mAsgIx, mRet, mRetN, mDrop, mF1, kf, ko, gets, owns, R.get, R.own, R.ok, R.kid, D.kids, D.at, D.pure, D.pureL, dAt, Sl.d?, ixD, ixN, fCmp, fLt, fLe, fGt, fGe, fMod, fDiv, fMul, fAdd, fSub, fInt, fAbs, fSetIx, kCh, enPut, Sl.put, D.put, D.setKid, argsOnly, outs, mMod, mDiv, mMul, mAdd, mSub, mSkip, mBrk, mCnt, mAnd, mOr, mNot, mVal, mIfE, mCall, kCall, imps, wbs, mTup, fTup, mLst, fLst, fLenG, fLen, fLenD, mPow, fPow, fIsN, fNotN, D.isNon, D.isHole, fIn, fNotIn, D.truth, mUnp, gN, gT, gsCons, gsNil, mApp, mPop, mMeth, maConsP, tyP, tyD, fL, lApp, lPop, sizeLine_eq, fEq_int, fEq_str, fNe_int, fNe_str]
theorem graph_s5 {I O T E1 Rs : List D} {S1 : D} {s3 u4 u6 u7 u8 u9 u10 : Sl} (pR : D.pureL Rs = true) (pI : D.pureL I = true) (pO : D.pureL O = true) :
    (mRet (mTup (maCons (mC (.str "graph")) (maCons (mIx (mN 1) (mC (.int 0))) (maCons (mIx (mN 1) (mC (.int 1))) (maCons (mF1 fTuple (mN 5)) maNil)))))).run [.arg S1, .arg (.tup [.tup I, .tup O, .lst true E1]), .arg (.lst true T), s3, u4, .val (.lst true Rs), u6, u7, u8, u9, u10] =
      some (.rt (.tup [.str "graph", .tup I, .tup O, .tup Rs]), argsOnly [.arg S1, .arg (.tup [.tup I, .tup O, .lst true E1]), .arg (.lst true T), s3, u4, .val (.lst true Rs), u6, u7, u8, u9, u10]) := by
  simp [mSeq, mIf, mTest, mTru, mGt, mLt, mLe, mGe, mEq, mNe, mIsN, mNotN, mIn, mNotIn, mOp, maCons, maNil, mIx, kIx, mN, mC, mSet, mAsgIx, mRet, mRetN, mDrop, mF1, kf, ko, gets, owns, R.get, R.own, R.ok, R.kid, D.kids, D.at, D.pure, D.pureL, dAt, Sl.d?, ixD, ixN, fCmp, fLt, fLe, fGt, fGe, fMod, fDiv, fMul, fAdd, fSub, fInt, fAbs, fSetIx, kCh, enPut, Sl.put, D.put, D.setKid, argsOnly, outs, mMod, mDiv, mMul, mAdd, mSub, mSkip, mBrk, mCnt, mAnd, mOr, mNot, mVal, mIfE, mCall, kCall, imps, wbs, mTup, fTup, mLst, fLst, fLenG, fLen, fLenD, mPow, fPow, fIsN, fNotN, D.isNon, D.isHole, fIn, fNotIn, D.truth, mUnp, gN, gT, gsCons, gsNil, mApp, mPop, mMeth, maConsP, tyP, tyD, fL, lApp, lPop, sizeLine_eq, fEq_int, fEq_str, fNe_int, fNe_str, fTuple, D.items, pR, pI, pO]
theorem graph_ok {S : D} {E T I O E1 : List D} {k : Int} (hS : Src S) (hE : Evs E) (hT : ∀ d ∈ T, Stp E k d) (hp : ∀ d ∈ T, d.pure = true) (hl : T.length ≤ 2000) (pI : D.pureL I = true) (pO : D.pureL O = true) :
    ∃ (S' : D) (Rs : List D), Src S' ∧ (∀ d ∈ Rs, RowOk E Rs.length d) ∧ 1 ≤ Rs.length ∧ Rs.length ≤ 2001 ∧ m_l_graph [S, .tup [.tup I, .tup O, .lst true E1], .lst true T] =
      some (.tup [.str "graph", .tup I, .tup O, .tup Rs], [S', .tup [.tup I, .tup O, .lst true E1], .lst true T]) := by
  obtain ⟨os, ⟨o1, o2, o3, o4⟩, a2⟩ := met_ok hT hp hl
  have hos : os ≠ [] := fun z => by rw [z] at o2; cases o2
  have h1 : 1 ≤ os.length := List.length_pos_iff.mpr hos
  have hlen : os.length ≤ 2001 := by
    have := nodup_len o1 o3
    rw [List.length_cons, List.length_map] at this
    omega
  obtain ⟨S1, q1, u4, u7, u8, b1, b2, b3, b4⟩ := graph_l1 (a1 := .arg (.tup [.tup I, .tup O, .lst true E1])) (a2 := .arg (.lst true T)) (s5 := .un) (s6 := .un) (s9 := .un) (s10 := .un) (os.length - 1) 1 os S .un .un .un hS (Nat.le_refl _) (by omega) (by omega)
  have hq : q1.length = os.length := b2.length_eq
  obtain ⟨Rs, u6, u9, u10, c1, c2, c3⟩ := graph_l3 (S := S1) (a1 := .arg (.tup [.tup I, .tup O, .lst true E1])) (s4 := u4) (s7 := u7) (s8 := u8) (os := q1) hE hT hp (by omega) q1 [] .un .un .un (fun c hc l j hm => b2.mem_iff.mpr (o4 c (b2.mem_iff.mp hc) l j hm)) (fun _ z => nomatch z) (by simp; omega)
  rw [List.length_nil, Nat.zero_add] at c2
  have pT := pureL_all hp
  have ps := src_pure hS
  have pR : D.pureL Rs = true := pureL_all fun d hd => by
    obtain ⟨es, rfl, h, _⟩ := c1 d hd
    show D.pureL es = true
    exact pureL_all fun e he => (edge_pure hE (h e he)).1
  have e1 := dr1 os.length
  refine ⟨S1, Rs, b1, by rw [c2]; exact c1, by omega, by omega, ?_⟩
  refine call_run (e' := argsOnly [.arg S1, .arg (.tup [.tup I, .tup O, .lst true E1]), .arg (.lst true T), .val (.lst true (q1.map D.int)), u4, .val (.lst true Rs), u6, u7, u8, u9, u10]) rfl ?_ (by simp [outs, argsOnly])
  show (b_l_graph).run [.arg S, .arg (.tup [.tup I, .tup O, .lst true E1]), .arg (.lst true T), .un, .un, .un, .un, .un, .un, .un, .un] = _
  have r1 := graph_rng (a0 := .arg S) (a1 := .arg (.tup [.tup I, .tup O, .lst true E1])) (a2 := .arg (.lst true T)) (s4 := .un) (s5 := .un) (s6 := .un) (s7 := .un) (s8 := .un) (s9 := .un) (s10 := .un) (os := os) rfl (by omega)
  unfold b_l_graph
  rw [seq_nx (graph_s1 a2 pT), seq_nx ((for_run r1 rfl).trans (by rw [e1]; exact b4)), seq_nx graph_s3, seq_nx ((for_run graph_s4 rfl).trans c3)]
  exact graph_s5 pR pI pO
end K35
set_option Elab.async false
set_option linter.all false
set_option maxRecDepth 100000
set_option maxHeartbeats 4000000
namespace K35
open PySem PySem.Spec PyProof.Rows L2 G
def nt (n : Nat) : D := .int n
def nam : D → Str
  | .tup (.str x :: _) => x
  | _ => ""
abbrev Row := List (D × Nat)
def encE (p : D × Nat) : D := .tup [p.1, .int p.2]
def encR (es : Row) : D := .tup (es.map encE)
def row (Rw : List Row) (i : Nat) : Row := Rw.getD i []
def Gr (E : List D) (Rw : List Row) : Prop := Evs E ∧ 1 ≤ Rw.length ∧ Rw.length ≤ 2001 ∧ ∀ es ∈ Rw, es.length ≤ 5000 ∧ ∀ p ∈ es, Lab E p.1 ∧ p.2 < Rw.length
def encG (I O : List D) (Rw : List Row) : D := .tup [.str "graph", .tup I, .tup O, .tup (Rw.map encR)]
theorem list_of {α β : Type} {P : β → Prop} {f : β → α} : ∀ {ds : List α}, (∀ d ∈ ds, ∃ b, d = f b ∧ P b) → ∃ bs : List β, ds = bs.map f ∧ ∀ b ∈ bs, P b
  | [], _ => ⟨([] : List β), rfl, fun x hx => nomatch hx⟩
  | d :: ds, h => by
    obtain ⟨b, rfl, hb⟩ := h d List.mem_cons_self
    obtain ⟨bs, rfl, hbs⟩ := list_of (P := P) (f := f) fun x hx => h x (List.mem_cons_of_mem _ hx)
    exact ⟨b :: bs, rfl, fun x hx => by
      rcases List.mem_cons.mp hx with rfl | hx
      · exact hb
      · exact hbs x hx⟩
theorem rows_of {E Rs : List D} (hE : Evs E) (h : ∀ d ∈ Rs, RowOk E Rs.length d) (h1 : 1 ≤ Rs.length) (h2 : Rs.length ≤ 2001) : ∃ Rw, Rs = Rw.map encR ∧ Gr E Rw := by
  obtain ⟨Rw, e, hr⟩ := list_of (ds := Rs) (f := encR) (P := fun es => es.length ≤ 5000 ∧ ∀ p ∈ es, Lab E p.1 ∧ p.2 < Rs.length) fun d hd => by
    obtain ⟨es, rfl, a, b⟩ := h d hd
    obtain ⟨ps, rfl, q⟩ := list_of (ds := es) (f := encE) (P := fun p => Lab E p.1 ∧ p.2 < Rs.length) fun e he => by
      obtain ⟨L, j, rfl, l, hj⟩ := a e he
      exact ⟨(L, j), rfl, l, hj⟩
    rw [List.length_map] at b
    exact ⟨ps, rfl, b, q⟩
  have hl : Rs.length = Rw.length := by rw [e, List.length_map]
  rw [hl] at hr h1 h2
  exact ⟨Rw, e, hE, h1, h2, hr⟩
theorem row_mem {Rw : List Row} {i : Nat} (h : i < Rw.length) : row Rw i ∈ Rw := by
  unfold row
  rw [List.getD_eq_getElem?_getD, List.getElem?_eq_getElem h]
  exact List.getElem_mem h
theorem row_at {Rw : List Row} {i : Nat} (h : i < Rw.length) : (Rw.map encR)[i]? = some (encR (row Rw i)) := by
  unfold row
  rw [List.getElem?_map, List.getD_eq_getElem?_getD, List.getElem?_eq_getElem h]
  rfl
theorem row_pure {E : List D} {Rw : List Row} (hG : Gr E Rw) : D.pureL (Rw.map encR) = true := pureL_all fun d hd => by
  obtain ⟨es, he, rfl⟩ := List.mem_map.mp hd
  show D.pureL (es.map encE) = true
  exact pureL_all fun e hx => by
    obtain ⟨p, hp, rfl⟩ := List.mem_map.mp hx
    have := (lab_pure hG.1 ((hG.2.2.2 es he).2 p hp).1).1
    simp [encE, D.pure, D.pureL, this]
inductive Inn (Rw : List Row) : Nat → Nat → Prop
  | refl (i : Nat) : Inn Rw i i
  | step {i j t : Nat} {L : D} : Inn Rw i j → (L, t) ∈ row Rw j → nam L = "" → Inn Rw i t
theorem nts_pure (ss : List Nat) : D.pureL (ss.map nt) = true := pureL_all fun d hd => by
  obtain ⟨i, _, rfl⟩ := List.mem_map.mp hd
  rfl
theorem nts_toK (ss : List Nat) : ((ss.map nt).all fun d => d.toK.isSome) = true := by
  rw [List.all_eq_true]
  intro d hd
  obtain ⟨i, _, rfl⟩ := List.mem_map.mp hd
  rfl
theorem nts_keyOk (ss : List Nat) (t : Nat) : keyOk (ss.map nt) (.int t) = true := nts_toK ss
theorem nt_inj {i j : Nat} (h : nt i = nt j) : i = j := by
  unfold nt at h
  injection h with h
  omega
theorem nts_mem {ss : List Nat} {t : Nat} : nt t ∈ ss.map nt ↔ t ∈ ss := by
  constructor
  · intro h
    obtain ⟨i, hi, e⟩ := List.mem_map.mp h
    exact nt_inj e ▸ hi
  · exact fun h => List.mem_map_of_mem h
theorem nts_kidx_none {ss : List Nat} {t : Nat} (h : t ∉ ss) : kidx (ss.map nt) (.int t) = none := by
  cases e : kidx (ss.map nt) (.int t) with
  | none => rfl
  | some n => exact absurd (nts_mem.mp (kidx_mem.mp (by rw [show nt t = D.int t from rfl, e]; rfl))) h
theorem nts_kidx_some {ss : List Nat} {t : Nat} (h : t ∈ ss) : ∃ n, kidx (ss.map nt) (.int t) = some n := Option.isSome_iff_exists.mp (kidx_mem.mpr (nts_mem.mpr h))
theorem nodup_lt {n : Nat} {ms : List Nat} (h : ms.Nodup) (hl : ∀ i ∈ ms, i < n) : ms.length ≤ n := by
  have := nodup_len (ys := List.range n) h fun i hi => List.mem_range.mpr (hl i hi)
  rwa [List.length_range] at this
theorem closure_f1_add {g s r s5 : Sl} {ks vs sts : List D} {v : D} {t : Nat} (ke : keyOk ks (.int t) = true) (ki : kidx ks (.int t) = none) (hl : ks.length < 16777216) (hs : sts.length < 16777216) (pv : v.pure = true) :
    b_closure_f1.run [g, s, r, .val (.dct true ks vs), .val (.lst true sts), s5, .val (.tup [.str "", v]), .val (.int t)] =
      some (.nx, [g, s, r, .val (.dct true (ks ++ [.int t]) (vs ++ [.bl true])), .val (.lst true (sts ++ [.int t])), s5, .val (.tup [.str "", v]), .val (.int t)]) := by
  simp [b_closure_f1, mSeq, mIf, mTest, mTru, mGt, mLt, mLe, mGe, mEq, mNe, mIsN, mNotN, mIn, mNotIn, mOp, maCons, maNil, mIx, kIx, mN, mC, mSet, mAsgIx, mRet, mRetN, mDrop, mF1, kf, ko, gets, owns, R.get, R.own, R.ok, R.kid, D.kids, D.at, D.pure, D.pureL, dAt, Sl.d?, ixD, ixN, fCmp, fLt, fLe, fGt, fGe, fMod, fDiv, fMul, fAdd, fSub, fInt, fAbs, fSetIx, kCh, enPut, Sl.put, D.put, D.setKid, argsOnly, outs, mMod, mDiv, mMul, mAdd, mSub, mSkip, mBrk, mCnt, mAnd, mOr, mNot, mVal, mIfE, mCall, kCall, imps, wbs, mTup, fTup, mLst, fLst, fLenG, fLen, fLenD, mPow, fPow, fIsN, fNotN, D.isNon, D.isHole, fIn, fNotIn, D.truth, mUnp, gN, gT, gsCons, gsNil, mApp, mPop, mMeth, maConsP, tyP, tyD, fL, lApp, lPop, sizeLine_eq, fEq_int, fEq_str, fNe_int, fNe_str, inD, ke, ki, dPut, hl, hs, pv]
theorem closure_f1_skip {g s r s4 s5 : Sl} {ks vs : List D} {v : D} {x : Str} {t : Nat} (ke : keyOk ks (.int t) = true) (h : x ≠ "" ∨ ∃ n, kidx ks (.int t) = some n) (pv : v.pure = true) :
    b_closure_f1.run [g, s, r, .val (.dct true ks vs), s4, s5, .val (.tup [.str x, v]), .val (.int t)] =
      some (.nx, [g, s, r, .val (.dct true ks vs), s4, s5, .val (.tup [.str x, v]), .val (.int t)]) := by
  by_cases e : x = ""
  · obtain ⟨n, ki⟩ := h.resolve_left (fun z => z e)
    simp [b_closure_f1, mSeq, mIf, mTest, mTru, mGt, mLt, mLe, mGe, mEq, mNe, mIsN, mNotN, mIn, mNotIn, mOp, maCons, maNil, mIx, kIx, mN, mC, mSet, mAsgIx, mRet, mRetN, mDrop, mF1, kf, ko, gets, owns, R.get, R.own, R.ok, R.kid, D.kids, D.at, D.pure, D.pureL, dAt, Sl.d?, ixD, ixN, fCmp, fLt, fLe, fGt, fGe, fMod, fDiv, fMul, fAdd, fSub, fInt, fAbs, fSetIx, kCh, enPut, Sl.put, D.put, D.setKid, argsOnly, outs, mMod, mDiv, mMul, mAdd, mSub, mSkip, mBrk, mCnt, mAnd, mOr, mNot, mVal, mIfE, mCall, kCall, imps, wbs, mTup, fTup, mLst, fLst, fLenG, fLen, fLenD, mPow, fPow, fIsN, fNotN, D.isNon, D.isHole, fIn, fNotIn, D.truth, mUnp, gN, gT, gsCons, gsNil, mApp, mPop, mMeth, maConsP, tyP, tyD, fL, lApp, lPop, sizeLine_eq, fEq_int, fEq_str, fNe_int, fNe_str, inD, ke, ki, pv, e]
  · simp [b_closure_f1, mSeq, mIf, mTest, mTru, mGt, mLt, mLe, mGe, mEq, mNe, mIsN, mNotN, mIn, mNotIn, mOp, maCons, maNil, mIx, kIx, mN, mC, mSet, mAsgIx, mRet, mRetN, mDrop, mF1, kf, ko, gets, owns, R.get, R.own, R.ok, R.kid, D.kids, D.at, D.pure, D.pureL, dAt, Sl.d?, ixD, ixN, fCmp, fLt, fLe, fGt, fGe, fMod, fDiv, fMul, fAdd, fSub, fInt, fAbs, fSetIx, kCh, enPut, Sl.put, D.put, D.setKid, argsOnly, outs, mMod, mDiv, mMul, mAdd, mSub, mSkip, mBrk, mCnt, mAnd, mOr, mNot, mVal, mIfE, mCall, kCall, imps, wbs, mTup, fTup, mLst, fLst, fLenG, fLen, fLenD, mPow, fPow, fIsN, fNotN, D.isNon, D.isHole, fIn, fNotIn, D.truth, mUnp, gN, gT, gsCons, gsNil, mApp, mPop, mMeth, maConsP, tyP, tyD, fL, lApp, lPop, sizeLine_eq, fEq_int, fEq_str, fNe_int, fNe_str, inD, ke, pv, e]
theorem closure_l1 {E : List D} {g s r s5 : Sl} {n : Nat} (hE : Evs E) (hn : n ≤ 5000) : ∀ (es : Row) (ms st : List Nat) (vs : List D) (s6 s7 : Sl), (∀ p ∈ es, Lab E p.1 ∧ p.2 < n) → ms.Nodup → (∀ i ∈ ms, i < n) → st.length ≤ ms.length →
    ∃ (nw : List Nat) (vs' : List D) (u6 u7 : Sl), (ms ++ nw).Nodup ∧ (∀ t ∈ nw, t < n ∧ ∃ L, (L, t) ∈ es ∧ nam L = "") ∧ (∀ p ∈ es, nam p.1 = "" → p.2 ∈ ms ++ nw) ∧
      forGo (gT (gsCons (gN 6) (gsCons (gN 7) gsNil))) b_closure_f1 (es.map encE) [g, s, r, .val (.dct true (ms.map nt) vs), .val (.lst true (st.map nt)), s5, s6, s7] =
        some (.nx, [g, s, r, .val (.dct true ((ms ++ nw).map nt) vs'), .val (.lst true ((st ++ nw).map nt)), s5, u6, u7])
  | [], ms, st, vs, s6, s7, _, hd, _, _ => ⟨[], vs, s6, s7, by rw [List.append_nil]; exact hd, by simp, by simp, by rw [List.append_nil, List.append_nil]; exact forGo_nil⟩
  | (L, t) :: es, ms, st, vs, s6, s7, he, hd, hm, hs => by
    obtain ⟨lL, lt⟩ := he _ List.mem_cons_self
    have he' : ∀ p ∈ es, Lab E p.1 ∧ p.2 < n := fun p hp => he p (List.mem_cons_of_mem _ hp)
    have pl := (lab_pure hE lL).1
    obtain ⟨x, v, rfl, a, _⟩ := lab_pair hE lL
    have pv := a.pure.1
    have lm := nodup_lt hd hm
    have hnam : nam (.tup [.str x, v]) = x := rfl
    have htar : (gT (gsCons (gN 6) (gsCons (gN 7) gsNil))).run (encE (.tup [.str x, v], t)) [g, s, r, .val (.dct true (ms.map nt) vs), .val (.lst true (st.map nt)), s5, s6, s7] =
        some [g, s, r, .val (.dct true (ms.map nt) vs), .val (.lst true (st.map nt)), s5, .val (.tup [.str x, v]), .val (.int t)] := by
      simp [encE, gT, gsCons, gsNil, gN, D.pure, D.pureL, pv]
    by_cases c : x = "" ∧ t ∉ ms
    · obtain ⟨rfl, ht⟩ := c
      have hb := closure_f1_add (g := g) (s := s) (r := r) (s5 := s5) (vs := vs) (sts := st.map nt) (nts_keyOk ms t) (nts_kidx_none ht) (by rw [List.length_map]; omega) (by rw [List.length_map]; omega) pv
      have hd' : (ms ++ [t]).Nodup := by
        rw [List.nodup_append]
        exact ⟨hd, by simp, fun a ha b hb e => by rw [List.mem_singleton] at hb; exact ht (hb ▸ e ▸ ha)⟩
      obtain ⟨nw, vs', u6, u7, c1, c2, c3, c4⟩ := closure_l1 (g := g) (s := s) (r := r) (s5 := s5) hE hn es (ms ++ [t]) (st ++ [t]) (vs ++ [.bl true]) (.val (.tup [.str "", v])) (.val (.int t)) he' hd'
        (fun i hi => by
          rcases List.mem_append.mp hi with hi | hi
          · exact hm i hi
          · rw [List.mem_singleton] at hi; exact hi ▸ lt) (by rw [List.length_append, List.length_append]; exact Nat.add_le_add_right hs 1)
      have e1 : ms ++ t :: nw = ms ++ [t] ++ nw := by simp
      have e2 : st ++ t :: nw = st ++ [t] ++ nw := by simp
      have e3 : (ms ++ [t]).map nt = ms.map nt ++ [.int t] := by rw [List.map_append]; rfl
      have e4 : (st ++ [t]).map nt = st.map nt ++ [.int t] := by rw [List.map_append]; rfl
      refine ⟨t :: nw, vs', u6, u7, by rw [e1]; exact c1, fun j hj => ?_, fun p hp hx => ?_, ?_⟩
      · rcases List.mem_cons.mp hj with rfl | hj
        · exact ⟨lt, _, List.mem_cons_self, hnam⟩
        · obtain ⟨q1, L, q2, q3⟩ := c2 j hj
          exact ⟨q1, L, List.mem_cons_of_mem _ q2, q3⟩
      · rw [e1]
        rcases List.mem_cons.mp hp with rfl | hp
        · exact List.mem_append_left _ (List.mem_append_right _ List.mem_cons_self)
        · exact c3 p hp hx
      · rw [e1, e2, ← c4, List.map_cons, forGo_nx htar hb, e3, e4]
    · have hb := closure_f1_skip (g := g) (s := s) (r := r) (s5 := s5) (s4 := .val (.lst true (st.map nt))) (vs := vs) (x := x) (nts_keyOk ms t) (by
        by_cases e : x = ""
        · exact .inr (nts_kidx_some (Decidable.byContradiction fun z => c ⟨e, z⟩))
        · exact .inl e) pv
      obtain ⟨nw, vs', u6, u7, c1, c2, c3, c4⟩ := closure_l1 (g := g) (s := s) (r := r) (s5 := s5) hE hn es ms st vs (.val (.tup [.str x, v])) (.val (.int t)) he' hd hm hs
      refine ⟨nw, vs', u6, u7, c1, fun j hj => ?_, fun p hp hx => ?_, ?_⟩
      · obtain ⟨q1, L, q2, q3⟩ := c2 j hj
        exact ⟨q1, L, List.mem_cons_of_mem _ q2, q3⟩
      · rcases List.mem_cons.mp hp with rfl | hp
        · exact List.mem_append_left _ (Decidable.byContradiction fun z => c ⟨hx, z⟩)
        · exact c3 p hp hx
      · rw [← c4, List.map_cons, forGo_nx htar hb]
theorem lPop_last {l : List D} {x : D} : lPop (l ++ [x]) [] = some (l, x) := by
  simp [lPop]
def CInv (Rw : List Row) (ss ms st : List Nat) : Prop := ms.Nodup ∧ (∀ i ∈ ms, i < Rw.length) ∧ (∀ i ∈ st, i ∈ ms) ∧ st.length ≤ ms.length ∧ (∀ i ∈ ss, i ∈ ms) ∧ (∀ j ∈ ms, ∃ i ∈ ss, Inn Rw i j) ∧ ∀ i ∈ ms, i ∉ st → ∀ p ∈ row Rw i, nam p.1 = "" → p.2 ∈ ms
theorem closure_f2 {E : List D} {Rw : List Row} {ss ms st : List Nat} {i : Nat} {g s s5 s6 s7 : Sl} {vs : List D} (hG : Gr E Rw) (h : CInv Rw ss ms (st ++ [i])) :
    ∃ (nw : List Nat) (vs' : List D) (u6 u7 : Sl), CInv Rw ss (ms ++ nw) (st ++ nw) ∧ b_closure_f2.run [g, s, .val (.tup (Rw.map encR)), .val (.dct true (ms.map nt) vs), .val (.lst true ((st ++ [i]).map nt)), s5, s6, s7] =
      some (.nx, [g, s, .val (.tup (Rw.map encR)), .val (.dct true ((ms ++ nw).map nt) vs'), .val (.lst true ((st ++ nw).map nt)), s5, u6, u7]) := by
  obtain ⟨h1, h2, h3, h4, h5, h6, h7⟩ := h
  have hi : i ∈ ms := h3 i (List.mem_append_right _ List.mem_cons_self)
  have li := h2 i hi
  rw [List.length_append, List.length_singleton] at h4
  have hr := hG.2.2.2 _ (row_mem li)
  obtain ⟨nw, vs', u6, u7, c1, c2, c3, c4⟩ := closure_l1 (g := g) (s := s) (r := .val (.tup (Rw.map encR))) (s5 := s5) hG.1 (Nat.le_trans hG.2.2.1 (by decide)) (row Rw i) ms st vs s6 s7 hr.2 h1 h2 (by omega)
  refine ⟨nw, vs', u6, u7, ⟨c1, fun j hj => ?_, fun j hj => ?_, by rw [List.length_append, List.length_append]; omega, fun j hj => List.mem_append_left _ (h5 j hj), fun j hj => ?_, fun j hj hn p hp hx => ?_⟩, ?_⟩
  · rcases List.mem_append.mp hj with hj | hj
    · exact h2 j hj
    · exact (c2 j hj).1
  · rcases List.mem_append.mp hj with hj | hj
    · exact List.mem_append_left _ (h3 j (List.mem_append_left _ hj))
    · exact List.mem_append_right _ hj
  · rcases List.mem_append.mp hj with hj | hj
    · exact h6 j hj
    · obtain ⟨_, L, q2, q3⟩ := c2 j hj
      obtain ⟨k, hk, w⟩ := h6 i hi
      exact ⟨k, hk, .step w q2 q3⟩
  · have hn1 : j ∉ st := fun z => hn (List.mem_append_left _ z)
    have hn2 : j ∉ nw := fun z => hn (List.mem_append_right _ z)
    have hj' : j ∈ ms := (List.mem_append.mp hj).resolve_right hn2
    by_cases e : j = i
    · subst e; exact c3 p hp hx
    · exact List.mem_append_left _ (h7 j hj' (fun z => by
        rcases List.mem_append.mp z with z | z
        · exact hn1 z
        · rw [List.mem_singleton] at z; exact e z) p hp hx)
  · have ra := row_at li
    have e4 : (st ++ [i]).map nt = st.map nt ++ [.int i] := by rw [List.map_append]; rfl
    have q : (iSeq (mIx (mN 2) (mPop [4] (mN 4)))).run [g, s, .val (.tup (Rw.map encR)), .val (.dct true (ms.map nt) vs), .val (.lst true ((st ++ [i]).map nt)), s5, s6, s7] =
        some ((row Rw i).map encE, [.p 2 [i]], [g, s, .val (.tup (Rw.map encR)), .val (.dct true (ms.map nt) vs), .val (.lst true (st.map nt)), s5, s6, s7]) := by
      rw [e4]
      generalize Rw.map encR = Rs at ra
      generalize st.map nt = sts
      obtain ⟨l1, r1⟩ := List.getElem?_eq_some_iff.mp ra
      simp [iSeq, mSeq, mIf, mTest, mTru, mGt, mLt, mLe, mGe, mEq, mNe, mIsN, mNotN, mIn, mNotIn, mOp, maCons, maNil, mIx, kIx, mN, mC, mSet, mAsgIx, mRet, mRetN, mDrop, mF1, kf, ko, gets, owns, R.get, R.own, R.ok, R.kid, D.kids, D.at, D.pure, D.pureL, dAt, Sl.d?, ixD, ixN, fCmp, fLt, fLe, fGt, fGe, fMod, fDiv, fMul, fAdd, fSub, fInt, fAbs, fSetIx, kCh, enPut, Sl.put, D.put, D.setKid, argsOnly, outs, mMod, mDiv, mMul, mAdd, mSub, mSkip, mBrk, mCnt, mAnd, mOr, mNot, mVal, mIfE, mCall, kCall, imps, wbs, mTup, fTup, mLst, fLst, fLenG, fLen, fLenD, mPow, fPow, fIsN, fNotN, D.isNon, D.isHole, fIn, fNotIn, D.truth, mUnp, gN, gT, gsCons, gsNil, mApp, mPop, mMeth, maConsP, tyP, tyD, fL, lApp, lPop, sizeLine_eq, fEq_int, fEq_str, fNe_int, fNe_str, lPop_last, l1, r1, encR, D.items]
    exact (for_run q rfl).trans c4
theorem closure_w {E : List D} {Rw : List Row} {ss : List Nat} {g s s5 : Sl} (hG : Gr E Rw) : ∀ (fuel : Nat) (ms st : List Nat) (vs : List D) (s6 s7 : Sl), Rw.length + st.length < fuel + ms.length → CInv Rw ss ms st →
    ∃ (ms' : List Nat) (vs' : List D) (u6 u7 : Sl), CInv Rw ss ms' [] ∧ whileGo (mTru (mN 4)) b_closure_f2 fuel [g, s, .val (.tup (Rw.map encR)), .val (.dct true (ms.map nt) vs), .val (.lst true (st.map nt)), s5, s6, s7] =
      some (.nx, [g, s, .val (.tup (Rw.map encR)), .val (.dct true (ms'.map nt) vs'), .val (.lst true []), s5, u6, u7])
  | 0, ms, st, vs, s6, s7, hf, h => by
    have := nodup_lt h.1 h.2.1
    omega
  | fuel + 1, ms, st, vs, s6, s7, hf, h => by
    rcases List.eq_nil_or_concat st with rfl | ⟨st0, i, rfl⟩
    · refine ⟨ms, vs, s6, s7, h, ?_⟩
      have q : (mTru (mN 4)).run [g, s, .val (.tup (Rw.map encR)), .val (.dct true (ms.map nt) vs), .val (.lst true []), s5, s6, s7] = some (false, [g, s, .val (.tup (Rw.map encR)), .val (.dct true (ms.map nt) vs), .val (.lst true []), s5, s6, s7]) := by
        simp [mSeq, mIf, mTest, mTru, mGt, mLt, mLe, mGe, mEq, mNe, mIsN, mNotN, mIn, mNotIn, mOp, maCons, maNil, mIx, kIx, mN, mC, mSet, mAsgIx, mRet, mRetN, mDrop, mF1, kf, ko, gets, owns, R.get, R.own, R.ok, R.kid, D.kids, D.at, D.pure, D.pureL, dAt, Sl.d?, ixD, ixN, fCmp, fLt, fLe, fGt, fGe, fMod, fDiv, fMul, fAdd, fSub, fInt, fAbs, fSetIx, kCh, enPut, Sl.put, D.put, D.setKid, argsOnly, outs, mMod, mDiv, mMul, mAdd, mSub, mSkip, mBrk, mCnt, mAnd, mOr, mNot, mVal, mIfE, mCall, kCall, imps, wbs, mTup, fTup, mLst, fLst, fLenG, fLen, fLenD, mPow, fPow, fIsN, fNotN, D.isNon, D.isHole, fIn, fNotIn, D.truth, mUnp, gN, gT, gsCons, gsNil, mApp, mPop, mMeth, maConsP, tyP, tyD, fL, lApp, lPop, sizeLine_eq, fEq_int, fEq_str, fNe_int, fNe_str]
      show (((mTru (mN 4)).run [g, s, .val (.tup (Rw.map encR)), .val (.dct true (ms.map nt) vs), .val (.lst true []), s5, s6, s7]).bind _) = _
      rw [q]
      rfl
    · rw [List.concat_eq_append] at h hf ⊢
      obtain ⟨nw, v1, u6, u7, c1, c2⟩ := closure_f2 (g := g) (s := s) (s5 := s5) (s6 := s6) (s7 := s7) (vs := vs) hG h
      rw [List.length_append, List.length_singleton] at hf
      obtain ⟨ms', v2, w6, w7, d1, d2⟩ := closure_w (g := g) (s := s) (s5 := s5) hG fuel (ms ++ nw) (st0 ++ nw) v1 u6 u7 (by rw [List.length_append, List.length_append]; omega) c1
      refine ⟨ms', v2, w6, w7, d1, ?_⟩
      have q : (mTru (mN 4)).run [g, s, .val (.tup (Rw.map encR)), .val (.dct true (ms.map nt) vs), .val (.lst true ((st0 ++ [i]).map nt)), s5, s6, s7] = some (true, [g, s, .val (.tup (Rw.map encR)), .val (.dct true (ms.map nt) vs), .val (.lst true ((st0 ++ [i]).map nt)), s5, s6, s7]) := by
        rw [show (st0 ++ [i]).map nt = st0.map nt ++ [.int i] by rw [List.map_append]; rfl]
        generalize st0.map nt = sts
        simp [mSeq, mIf, mTest, mTru, mGt, mLt, mLe, mGe, mEq, mNe, mIsN, mNotN, mIn, mNotIn, mOp, maCons, maNil, mIx, kIx, mN, mC, mSet, mAsgIx, mRet, mRetN, mDrop, mF1, kf, ko, gets, owns, R.get, R.own, R.ok, R.kid, D.kids, D.at, D.pure, D.pureL, dAt, Sl.d?, ixD, ixN, fCmp, fLt, fLe, fGt, fGe, fMod, fDiv, fMul, fAdd, fSub, fInt, fAbs, fSetIx, kCh, enPut, Sl.put, D.put, D.setKid, argsOnly, outs, mMod, mDiv, mMul, mAdd, mSub, mSkip, mBrk, mCnt, mAnd, mOr, mNot, mVal, mIfE, mCall, kCall, imps, wbs, mTup, fTup, mLst, fLst, fLenG, fLen, fLenD, mPow, fPow, fIsN, fNotN, D.isNon, D.isHole, fIn, fNotIn, D.truth, mUnp, gN, gT, gsCons, gsNil, mApp, mPop, mMeth, maConsP, tyP, tyD, fL, lApp, lPop, sizeLine_eq, fEq_int, fEq_str, fNe_int, fNe_str]
      rw [← d2]
      show (((mTru (mN 4)).run [g, s, .val (.tup (Rw.map encR)), .val (.dct true (ms.map nt) vs), .val (.lst true ((st0 ++ [i]).map nt)), s5, s6, s7]).bind _) = _
      rw [q, Option.bind_some, if_pos rfl, c2]
      rfl
theorem closure_dc1 {g s r s3 s4 s6 s7 : Sl} {i : Nat} {ds ks vs : List D} (ke : (ks.all fun d => d.toK.isSome) = true) (hl : ks.length < 16777216) :
    dcGo (gN 5) mYes (mN 5) (mC (.bl true)) [5] (nt i :: ds) [g, s, r, s3, s4, .un, s6, s7] (ks, vs) = dcGo (gN 5) mYes (mN 5) (mC (.bl true)) [5] ds [g, s, r, s3, s4, .un, s6, s7] (dPut ks vs (nt i) (.bl true)) := by
  have hs : ks.length < sizeLine := by rw [sizeLine_eq]; exact hl
  have e : (((nt i).toK.isSome && (ks.all fun d => d.toK.isSome)) = true ∧ ks.length < sizeLine) := ⟨by rw [ke]; rfl, hs⟩
  show (if ((nt i).toK.isSome && (ks.all fun d => d.toK.isSome)) = true ∧ ks.length < sizeLine then _ else none) = _
  rw [if_pos e]
  rfl
theorem closure_dc {n : Nat} {g s r s3 s4 s6 s7 : Sl} (hn : n ≤ 5000) : ∀ (ss ms : List Nat) (vs : List D), ms.Nodup → (∀ i ∈ ms, i < n) → (∀ i ∈ ss, i < n) →
    ∃ (ms' : List Nat) (vs' : List D), ms'.Nodup ∧ (∀ i ∈ ms', i < n) ∧ (∀ i, i ∈ ms' ↔ i ∈ ms ∨ i ∈ ss) ∧ dcGo (gN 5) mYes (mN 5) (mC (.bl true)) [5] (ss.map nt) [g, s, r, s3, s4, .un, s6, s7] (ms.map nt, vs) = some ((ms'.map nt, vs'), [g, s, r, s3, s4, .un, s6, s7])
  | [], ms, vs, h1, h2, _ => ⟨ms, vs, h1, h2, fun i => by simp, rfl⟩
  | i :: ss, ms, vs, h1, h2, h3 => by
    have hl := nodup_lt h1 h2
    have li := h3 i List.mem_cons_self
    have h3' : ∀ i ∈ ss, i < n := fun j hj => h3 j (List.mem_cons_of_mem _ hj)
    have st := closure_dc1 (g := g) (s := s) (r := r) (s3 := s3) (s4 := s4) (s6 := s6) (s7 := s7) (i := i) (ds := ss.map nt) (vs := vs) (nts_toK ms) (by rw [List.length_map]; omega)
    by_cases c : i ∈ ms
    · obtain ⟨j, e⟩ := nts_kidx_some c
      obtain ⟨ms', vs', a1, a2, a3, a4⟩ := closure_dc (g := g) (s := s) (r := r) (s3 := s3) (s4 := s4) (s6 := s6) (s7 := s7) hn ss ms (vs.set j (.bl true)) h1 h2 h3'
      refine ⟨ms', vs', a1, a2, fun k => ?_, ?_⟩
      · rw [a3 k, List.mem_cons]
        constructor
        · rintro (h | h)
          · exact .inl h
          · exact .inr (.inr h)
        · rintro (h | rfl | h)
          · exact .inl h
          · exact .inl c
          · exact .inr h
      · rw [List.map_cons, st, ← a4]
        unfold dPut
        rw [show nt i = D.int i from rfl, e]
    · have e := nts_kidx_none c
      obtain ⟨ms', vs', a1, a2, a3, a4⟩ := closure_dc (g := g) (s := s) (r := r) (s3 := s3) (s4 := s4) (s6 := s6) (s7 := s7) hn ss (ms ++ [i]) (vs ++ [.bl true])
        (by
          rw [List.nodup_append]
          exact ⟨h1, by simp, fun a ha b hb e => by rw [List.mem_singleton] at hb; exact c (hb ▸ e ▸ ha)⟩)
        (fun j hj => by
          rcases List.mem_append.mp hj with hj | hj
          · exact h2 j hj
          · rw [List.mem_singleton] at hj; exact hj ▸ li) h3'
      refine ⟨ms', vs', a1, a2, fun k => ?_, ?_⟩
      · rw [a3 k, List.mem_append, List.mem_singleton, List.mem_cons, or_assoc]
      · rw [List.map_cons, st, ← a4]
        unfold dPut
        rw [show nt i = D.int i from rfl, e, List.map_append]
        rfl
theorem nts_sort {ms : List Nat} (hl : ms.length ≤ 16777216) : okSort (D.toPyL (ms.map nt)) = true := by
  unfold okSort
  rw [toPyL_map]
  simp only [Bool.and_eq_true, Bool.or_eq_true, List.all_eq_true, decide_eq_true_eq, List.length_map]
  have hs : sizeLine = 16777216 := sizeLine_eq
  have key : ∀ d ∈ (ms.map nt).map D.toPy, ∃ i : Int, d = .int i := fun d hd => by
    obtain ⟨u, hu, rfl⟩ := List.mem_map.mp hd
    obtain ⟨i, _, rfl⟩ := List.mem_map.mp hu
    exact ⟨i, by simp [nt, D.toPy]⟩
  refine ⟨⟨⟨⟨fun d hd d' hd' => ?_, fun d hd => ?_⟩, fun d hd => ?_⟩, .inr fun d hd => ?_⟩, by rw [hs]; omega⟩
  · obtain ⟨i, rfl⟩ := key d hd
    obtain ⟨j, rfl⟩ := key d' hd'
    simp [sib]
  · obtain ⟨i, rfl⟩ := key d hd
    simp [PyData.plain]
  · obtain ⟨i, rfl⟩ := key d hd
    simp [PyData.depth]
  · obtain ⟨i, rfl⟩ := key d hd
    rfl
theorem closure_ok {E I O : List D} {Rw : List Row} (hG : Gr E Rw) (pI : D.pureL I = true) (pO : D.pureL O = true) {ss : List Nat} {c : D} (hc : c.items = some (ss.map nt)) (hs : ∀ i ∈ ss, i < Rw.length) :
    ∃ ms : List Nat, ms.Nodup ∧ (∀ j ∈ ms, j < Rw.length) ∧ (∀ j, j ∈ ms ↔ ∃ i ∈ ss, Inn Rw i j) ∧ m_closure [encG I O Rw, c] = some (.tup (sortD (ms.map nt)), [encG I O Rw, c]) := by
  obtain ⟨m0, v0, a1, a2, a3, a4⟩ := closure_dc (n := Rw.length) (g := .arg (encG I O Rw)) (s := .arg c) (r := .val (.tup (Rw.map encR))) (s3 := .un) (s4 := .un) (s6 := .un) (s7 := .un) (Nat.le_trans hG.2.2.1 (by decide)) ss [] [] List.nodup_nil (fun _ h => nomatch h) hs
  have l0 := nodup_lt a1 a2
  have i0 : CInv Rw ss m0 m0 := ⟨a1, a2, fun _ h => h, Nat.le_refl _, fun i hi => (a3 i).mpr (.inr hi), fun j hj => ⟨j, ((a3 j).mp hj).resolve_left (fun z => nomatch z), .refl j⟩, fun i hi hn => absurd hi hn⟩
  obtain ⟨ms, v1, u6, u7, b1, b2⟩ := closure_w (g := .arg (encG I O Rw)) (s := .arg c) (s5 := .un) hG wfuel m0 m0 v0 .un .un (by
    have : wfuel = 1099511627776 := by decide
    have := hG.2.2.1
    omega) i0
  obtain ⟨h1, h2, h3, h4, h5, h6, h7⟩ := b1
  have lm := nodup_lt h1 h2
  have hn := hG.2.2.1
  refine ⟨ms, h1, h2, fun j => ⟨h6 j, ?_⟩, ?_⟩
  · rintro ⟨i, hi, w⟩
    induction w with
    | refl => exact h5 i hi
    | step w hm hx ih => exact h7 _ ih (fun z => nomatch z) _ hm hx
  have pR := row_pure hG
  have q1 : (mSet 2 (mIx (mN 0) (mC (.int 3)))).run [.arg (encG I O Rw), .arg c, .un, .un, .un, .un, .un, .un] = some (.nx, [.arg (encG I O Rw), .arg c, .val (.tup (Rw.map encR)), .un, .un, .un, .un, .un]) := by
    unfold encG
    generalize Rw.map encR = Rs at pR
    simp [mSeq, mIf, mTest, mTru, mGt, mLt, mLe, mGe, mEq, mNe, mIsN, mNotN, mIn, mNotIn, mOp, maCons, maNil, mIx, kIx, mN, mC, mSet, mAsgIx, mRet, mRetN, mDrop, mF1, kf, ko, gets, owns, R.get, R.own, R.ok, R.kid, D.kids, D.at, D.pure, D.pureL, dAt, Sl.d?, ixD, ixN, fCmp, fLt, fLe, fGt, fGe, fMod, fDiv, fMul, fAdd, fSub, fInt, fAbs, fSetIx, kCh, enPut, Sl.put, D.put, D.setKid, argsOnly, outs, mMod, mDiv, mMul, mAdd, mSub, mSkip, mBrk, mCnt, mAnd, mOr, mNot, mVal, mIfE, mCall, kCall, imps, wbs, mTup, fTup, mLst, fLst, fLenG, fLen, fLenD, mPow, fPow, fIsN, fNotN, D.isNon, D.isHole, fIn, fNotIn, D.truth, mUnp, gN, gT, gsCons, gsNil, mApp, mPop, mMeth, maConsP, tyP, tyD, fL, lApp, lPop, sizeLine_eq, fEq_int, fEq_str, fNe_int, fNe_str, pR]
  have q2 : (mSet 3 (mDc (iSeq (mN 1)) (gN 5) mYes (mN 5) (mC (.bl true)) [5])).run [.arg (encG I O Rw), .arg c, .val (.tup (Rw.map encR)), .un, .un, .un, .un, .un] = some (.nx, [.arg (encG I O Rw), .arg c, .val (.tup (Rw.map encR)), .val (.dct true (m0.map nt) v0), .un, .un, .un, .un]) := by
    have q : (iSeq (mN 1)).run [.arg (encG I O Rw), .arg c, .val (.tup (Rw.map encR)), .un, .un, .un, .un, .un] = some (ss.map nt, [.p 1 []], [.arg (encG I O Rw), .arg c, .val (.tup (Rw.map encR)), .un, .un, .un, .un, .un]) := by
      generalize ss.map nt = sss at hc
      simp [iSeq, mSeq, mIf, mTest, mTru, mGt, mLt, mLe, mGe, mEq, mNe, mIsN, mNotN, mIn, mNotIn, mOp, maCons, maNil, mIx, kIx, mN, mC, mSet, mAsgIx, mRet, mRetN, mDrop, mF1, kf, ko, gets, owns, R.get, R.own, R.ok, R.kid, D.kids, D.at, D.pure, D.pureL, dAt, Sl.d?, ixD, ixN, fCmp, fLt, fLe, fGt, fGe, fMod, fDiv, fMul, fAdd, fSub, fInt, fAbs, fSetIx, kCh, enPut, Sl.put, D.put, D.setKid, argsOnly, outs, mMod, mDiv, mMul, mAdd, mSub, mSkip, mBrk, mCnt, mAnd, mOr, mNot, mVal, mIfE, mCall, kCall, imps, wbs, mTup, fTup, mLst, fLst, fLenG, fLen, fLenD, mPow, fPow, fIsN, fNotN, D.isNon, D.isHole, fIn, fNotIn, D.truth, mUnp, gN, gT, gsCons, gsNil, mApp, mPop, mMeth, maConsP, tyP, tyD, fL, lApp, lPop, sizeLine_eq, fEq_int, fEq_str, fNe_int, fNe_str, hc]
    have qq : (mDc (iSeq (mN 1)) (gN 5) mYes (mN 5) (mC (.bl true)) [5]).run [.arg (encG I O Rw), .arg c, .val (.tup (Rw.map encR)), .un, .un, .un, .un, .un] = some (.v (.dct true (m0.map nt) v0), [.arg (encG I O Rw), .arg c, .val (.tup (Rw.map encR)), .un, .un, .un, .un, .un]) := by
      unfold mDc
      dsimp only
      rw [q, Option.bind_some, if_pos (by rfl)]
      dsimp only
      rw [show wipeE [.arg (encG I O Rw), .arg c, .val (.tup (Rw.map encR)), .un, .un, .un, .un, .un] [5] = [.arg (encG I O Rw), .arg c, .val (.tup (Rw.map encR)), .un, .un, .un, .un, .un] by simp [wipeE]]
      rw [show (([], []) : List D × List D) = (([] : List Nat).map nt, []) from rfl, a4]
      simp [backE]
    generalize mDc (iSeq (mN 1)) (gN 5) mYes (mN 5) (mC (.bl true)) [5] = m at qq
    simp [mSeq, mIf, mTest, mTru, mGt, mLt, mLe, mGe, mEq, mNe, mIsN, mNotN, mIn, mNotIn, mOp, maCons, maNil, mIx, kIx, mN, mC, mSet, mAsgIx, mRet, mRetN, mDrop, mF1, kf, ko, gets, owns, R.get, R.own, R.ok, R.kid, D.kids, D.at, D.pure, D.pureL, dAt, Sl.d?, ixD, ixN, fCmp, fLt, fLe, fGt, fGe, fMod, fDiv, fMul, fAdd, fSub, fInt, fAbs, fSetIx, kCh, enPut, Sl.put, D.put, D.setKid, argsOnly, outs, mMod, mDiv, mMul, mAdd, mSub, mSkip, mBrk, mCnt, mAnd, mOr, mNot, mVal, mIfE, mCall, kCall, imps, wbs, mTup, fTup, mLst, fLst, fLenG, fLen, fLenD, mPow, fPow, fIsN, fNotN, D.isNon, D.isHole, fIn, fNotIn, D.truth, mUnp, gN, gT, gsCons, gsNil, mApp, mPop, mMeth, maConsP, tyP, tyD, fL, lApp, lPop, sizeLine_eq, fEq_int, fEq_str, fNe_int, fNe_str, qq]
  have q3 : (mSet 4 (mF1 fListG (mN 3))).run [.arg (encG I O Rw), .arg c, .val (.tup (Rw.map encR)), .val (.dct true (m0.map nt) v0), .un, .un, .un, .un] = some (.nx, [.arg (encG I O Rw), .arg c, .val (.tup (Rw.map encR)), .val (.dct true (m0.map nt) v0), .val (.lst true (m0.map nt)), .un, .un, .un]) := by
    have hz : (m0.map nt).length ≤ 16777216 := by rw [List.length_map]; omega
    generalize m0.map nt = mss at hz
    simp [mSeq, mIf, mTest, mTru, mGt, mLt, mLe, mGe, mEq, mNe, mIsN, mNotN, mIn, mNotIn, mOp, maCons, maNil, mIx, kIx, mN, mC, mSet, mAsgIx, mRet, mRetN, mDrop, mF1, kf, ko, gets, owns, R.get, R.own, R.ok, R.kid, D.kids, D.at, D.pure, D.pureL, dAt, Sl.d?, ixD, ixN, fCmp, fLt, fLe, fGt, fGe, fMod, fDiv, fMul, fAdd, fSub, fInt, fAbs, fSetIx, kCh, enPut, Sl.put, D.put, D.setKid, argsOnly, outs, mMod, mDiv, mMul, mAdd, mSub, mSkip, mBrk, mCnt, mAnd, mOr, mNot, mVal, mIfE, mCall, kCall, imps, wbs, mTup, fTup, mLst, fLst, fLenG, fLen, fLenD, mPow, fPow, fIsN, fNotN, D.isNon, D.isHole, fIn, fNotIn, D.truth, mUnp, gN, gT, gsCons, gsNil, mApp, mPop, mMeth, maConsP, tyP, tyD, fL, lApp, lPop, sizeLine_eq, fEq_int, fEq_str, fNe_int, fNe_str, fListG, fListD, hz]
  have q5 : (mRet (mF1 fTuple (mF1 fSort (mN 3)))).run [.arg (encG I O Rw), .arg c, .val (.tup (Rw.map encR)), .val (.dct true (ms.map nt) v1), .val (.lst true []), .un, u6, u7] = some (.rt (.tup (sortD (ms.map nt))), argsOnly [.arg (encG I O Rw), .arg c, .val (.tup (Rw.map encR)), .val (.dct true (ms.map nt) v1), .val (.lst true []), .un, u6, u7]) := by
    have hz := nts_sort (ms := ms) (by omega)
    have pS : D.pureL (sortD (ms.map nt)) = true := pureL_all fun d hd => by
      obtain ⟨i, _, rfl⟩ := List.mem_map.mp (sortD_mem.mp hd)
      rfl
    generalize ms.map nt = mss at hz pS
    have fs : fSort [.dct true mss v1] = some (.lst true (sortD mss)) := by
      show (if okSort (D.toPyL mss) = true then some (D.lst true (sortD mss)) else none) = _
      rw [hz]; rfl
    simp [mSeq, mIf, mTest, mTru, mGt, mLt, mLe, mGe, mEq, mNe, mIsN, mNotN, mIn, mNotIn, mOp, maCons, maNil, mIx, kIx, mN, mC, mSet, mAsgIx, mRet, mRetN, mDrop, mF1, kf, ko, gets, owns, R.get, R.own, R.ok, R.kid, D.kids, D.at, D.pure, D.pureL, dAt, Sl.d?, ixD, ixN, fCmp, fLt, fLe, fGt, fGe, fMod, fDiv, fMul, fAdd, fSub, fInt, fAbs, fSetIx, kCh, enPut, Sl.put, D.put, D.setKid, argsOnly, outs, mMod, mDiv, mMul, mAdd, mSub, mSkip, mBrk, mCnt, mAnd, mOr, mNot, mVal, mIfE, mCall, kCall, imps, wbs, mTup, fTup, mLst, fLst, fLenG, fLen, fLenD, mPow, fPow, fIsN, fNotN, D.isNon, D.isHole, fIn, fNotIn, D.truth, mUnp, gN, gT, gsCons, gsNil, mApp, mPop, mMeth, maConsP, tyP, tyD, fL, lApp, lPop, sizeLine_eq, fEq_int, fEq_str, fNe_int, fNe_str, fs, fTuple, D.items, pS]
  refine call_run (e' := argsOnly [.arg (encG I O Rw), .arg c, .val (.tup (Rw.map encR)), .val (.dct true (ms.map nt) v1), .val (.lst true []), .un, u6, u7]) rfl ?_ (by simp [outs, argsOnly])
  show b_closure.run [.arg (encG I O Rw), .arg c, .un, .un, .un, .un, .un, .un] = _
  unfold b_closure
  rw [seq_nx q1, seq_nx q2, seq_nx q3, seq_nx b2]
  exact q5
end K35
set_option Elab.async false
set_option linter.all false
set_option maxRecDepth 100000
set_option maxHeartbeats 4000000
namespace K35
open PySem PySem.Spec PyProof.Rows L2 G
theorem sortD_nt (ms : List Nat) : sortD (ms.map nt) = (ms.mergeSort fun a b => decide (a ≤ b)).map nt := by
  unfold sortD
  refine (List.map_mergeSort fun a _ b _ => ?_).symm
  show _ = (!PySem.W.dataLt (nt b).toPy (nt a).toPy)
  rw [show (nt a).toPy = .int (a : Int) by simp [nt, D.toPy], show (nt b).toPy = .int (b : Int) by simp [nt, D.toPy], PySem.W.dataLt_int]
  by_cases h : a ≤ b
  · have h' : ¬ ((b : Int) < a) := by omega
    simp [h, h']
  · have h' : ((b : Int) < a) := by omega
    simp [h, h']
def srt (ms : List Nat) : List Nat := ms.mergeSort fun a b => decide (a ≤ b)
theorem srt_mem {ms : List Nat} {i : Nat} : i ∈ srt ms ↔ i ∈ ms := (List.mergeSort_perm _ _).mem_iff
theorem srt_len (ms : List Nat) : (srt ms).length = ms.length := (List.mergeSort_perm _ _).length_eq
theorem srt_nodup {ms : List Nat} (h : ms.Nodup) : (srt ms).Nodup := (List.mergeSort_perm _ _).nodup_iff.mpr h
theorem srt_pw (ms : List Nat) : (srt ms).Pairwise fun a b => a ≤ b := by
  have h := List.pairwise_mergeSort (le := fun a b : Nat => decide (a ≤ b)) (fun a b c h1 h2 => by
    simp only [decide_eq_true_eq] at *
    omega) (fun a b => by
    simp only [Bool.or_eq_true, decide_eq_true_eq]
    omega) ms
  exact h.imp fun h => by simpa using h
theorem srt_ext {ms ms' : List Nat} (h : ms.Nodup) (h' : ms'.Nodup) (e : ∀ i, i ∈ ms ↔ i ∈ ms') : srt ms = srt ms' := by
  refine List.Perm.eq_of_pairwise (le := fun a b : Nat => a ≤ b) (fun a b _ _ h1 h2 => by omega) (srt_pw ms) (srt_pw ms') ?_
  exact ((List.mergeSort_perm _ _).trans ((List.perm_ext_iff_of_nodup h h').mpr e)).trans (List.mergeSort_perm _ _).symm
def lbEq (a b : D) : Bool := PyData.eqv a.toPy b.toPy
theorem lab_shaped {E : List D} (hE : Evs E) {d : D} (h : Lab E d) : SeqAt.shaped d.toPy = true ∧ d.plain = true ∧ d.flat = none := by
  have hp := (lab_pure hE h).2
  obtain ⟨x, v, rfl, a, ox⟩ := lab_pair hE h
  refine ⟨?_, hp, by simp [D.flat]⟩
  rcases a with ⟨rfl, _⟩ | ⟨i, _, rfl, _⟩ | ⟨y, _, rfl, _, oy, _⟩ <;> simp [D.toPy, D.toPyL, SeqAt.shaped, PyData.canLay0, PyData.canLayAll0, PyData.depth, PyData.depthAll, *]
theorem lab_eq {E : List D} (hE : Evs E) {a b : D} (h : Lab E a) (h' : Lab E b) : fEq [a, b] = some (.bl (lbEq a b)) := by
  obtain ⟨h1, h2, h3⟩ := lab_shaped hE h
  obtain ⟨h1', h2', h3'⟩ := lab_shaped hE h'
  simp [fEq, eqD, h1, h2, h3, h1', h2', h3', lbEq]
theorem lbEq_nam {E : List D} (hE : Evs E) {a b : D} (h : Lab E a) (h' : Lab E b) (e : lbEq a b = true) : nam a = nam b := by
  obtain ⟨x, v, rfl, _, _⟩ := lab_pair hE h
  obtain ⟨y, u, rfl, _, _⟩ := lab_pair hE h'
  simp [lbEq, D.toPy, D.toPyL, PyData.eqv, PyData.eqvAll] at e
  exact e.1
theorem ev_nam {E : List D} (hE : Evs E) {d : D} (h : d ∈ E) : nam d ≠ "" := by
  obtain ⟨x, v, rfl, n, _⟩ := hE.1 d h
  intro e
  have e : x = "" := e
  rw [e] at n
  exact absurd n.1 (by decide +kernel)
theorem nam_ev {E : List D} {d : D} (h : Lab E d) (hn : nam d ≠ "") : d ∈ E := by
  rcases h with rfl | rfl | h
  · exact absurd rfl hn
  · exact absurd rfl hn
  · exact h
inductive Rch (Rw : List Row) (ws : List D) : Nat → Nat → Prop
  | z : Rch Rw ws 0 0
  | inn {s k t : Nat} {L : D} : Rch Rw ws s k → (L, t) ∈ row Rw s → nam L = "" → Rch Rw ws t k
  | ev {s k t : Nat} {L W : D} : Rch Rw ws s k → (L, t) ∈ row Rw s → ws[k]? = some W → lbEq L W = true → Rch Rw ws t (k + 1)
theorem rch_inn {Rw : List Row} {ws : List D} {i j k : Nat} (h : Rch Rw ws i k) (w : Inn Rw i j) : Rch Rw ws j k := by
  induction w with
  | refl => exact h
  | step _ hm hx ih => exact .inn ih hm hx
theorem rch_0 {Rw : List Row} {ws : List D} {j k : Nat} (h : Rch Rw ws j k) : k = 0 → Inn Rw 0 j := by
  induction h with
  | z => exact fun _ => .refl 0
  | inn _ hm hx ih => exact fun e => .step (ih e) hm hx
  | ev => exact fun e => nomatch e
theorem rch_s {Rw : List Row} {ws : List D} {j m k : Nat} (h : Rch Rw ws j m) : m = k + 1 → ∃ s L W i, Rch Rw ws s k ∧ (L, i) ∈ row Rw s ∧ ws[k]? = some W ∧ lbEq L W = true ∧ Inn Rw i j := by
  induction h with
  | z => exact fun e => nomatch e
  | inn _ hm hx ih =>
    intro e
    obtain ⟨s, L, W, i, a, b, c, d, w⟩ := ih e
    exact ⟨s, L, W, i, a, b, c, d, .step w hm hx⟩
  | ev h hm hw he =>
    intro e
    obtain rfl : _ = k := Nat.succ.inj e
    exact ⟨_, _, _, _, h, hm, hw, he, .refl _⟩
theorem rch_part {Rw : List Row} {ws : List D} {j m k : Nat} (h : Rch Rw ws j m) (hk : k ≤ m) : ∃ i, Rch Rw (ws.take k) i k := by
  have tak : ∀ {i l : Nat}, Rch Rw ws i l → l ≤ k → Rch Rw (ws.take k) i l := fun {i l} h => by
    induction h with
    | z => exact fun _ => .z
    | inn _ hm hx ih => exact fun hl => .inn (ih hl) hm hx
    | ev _ hm hw he ih => exact fun hl => .ev (ih (by omega)) hm (by rw [List.getElem?_take_of_lt (by omega)]; exact hw) he
  have ex : ∃ i, Rch Rw ws i k := by
    induction h with
    | z => exact ⟨0, by rw [Nat.le_zero.mp hk]; exact .z⟩
    | inn _ _ _ ih => exact ih hk
    | ev h hm hw he ih =>
      rcases Nat.lt_or_ge k (_ + 1) with q | q
      · exact ih (Nat.le_of_lt_succ q)
      · rw [Nat.le_antisymm hk q]
        exact ⟨_, Rch.ev h hm hw he⟩
  obtain ⟨i, hi⟩ := ex
  exact ⟨i, tak hi (Nat.le_refl k)⟩
theorem inn_lt {E : List D} {Rw : List Row} (hG : Gr E Rw) {i j : Nat} (h : Inn Rw i j) (hi : i < Rw.length) : j < Rw.length := by
  induction h with
  | refl => exact hi
  | step _ hm _ ih => exact ((hG.2.2.2 _ (row_mem ih)).2 _ hm).2
theorem rch_lt {E : List D} {Rw : List Row} (hG : Gr E Rw) {ws : List D} {j k : Nat} (h : Rch Rw ws j k) : j < Rw.length := by
  induction h with
  | z => exact hG.2.1
  | inn _ hm _ ih => exact ((hG.2.2.2 _ (row_mem ih)).2 _ hm).2
  | ev _ hm _ _ ih => exact ((hG.2.2.2 _ (row_mem ih)).2 _ hm).2
def hit (W : D) (es : Row) : List Nat := (es.filter fun p => lbEq p.1 W).map fun p => p.2
theorem after_lc {E : List D} {W : D} {g a1 s2 s4 : Sl} {n : Nat} (hE : Evs E) (hW : W ∈ E) (s5 : D) : ∀ (es : Row) (acc : List Nat), (∀ p ∈ es, Lab E p.1 ∧ p.2 < n) → acc.length + es.length ≤ 16000000 →
    lcGo (gT (gsCons (gN 6) (gsCons (gN 7) gsNil))) (mTest (mEq (mN 6) (mN 3))) (mN 7) [6, 7] (es.map encE) [g, a1, s2, .val W, s4, .val s5, .un, .un] (acc.map nt) =
      some ((acc ++ hit W es).map nt, [g, a1, s2, .val W, s4, .val s5, .un, .un])
  | [], acc, _, _ => by simp [lcGo, hit]
  | (L, t) :: es, acc, he, hl => by
    rw [List.length_cons] at hl
    obtain ⟨lL, lt⟩ := he _ List.mem_cons_self
    have pl := (lab_pure hE lL).1
    have pw := (evs_pure hE hW).1
    have eq := lab_eq hE lL (.inr (.inr hW))
    have ih := fun acc' h => after_lc (g := g) (a1 := a1) (s2 := s2) (s4 := s4) hE hW s5 es acc' (fun p hp => he p (List.mem_cons_of_mem _ hp)) h
    have htar : (gT (gsCons (gN 6) (gsCons (gN 7) gsNil))).run (encE (L, t)) [g, a1, s2, .val W, s4, .val s5, .un, .un] = some [g, a1, s2, .val W, s4, .val s5, .val L, .val (.int t)] := by
      simp [encE, gT, gsCons, gsNil, gN, D.pure, D.pureL, pl]
    have htest : (mTest (mEq (mN 6) (mN 3))).run [g, a1, s2, .val W, s4, .val s5, .val L, .val (.int t)] = some (lbEq L W, [g, a1, s2, .val W, s4, .val s5, .val L, .val (.int t)]) := by
      simp [mSeq, mIf, mTest, mTru, mGt, mLt, mLe, mGe, mEq, mNe, mIsN, mNotN, mIn, mNotIn, mOp, maCons, maNil, mIx, kIx, mN, mC, mSet, mAsgIx, mRet, mRetN, mDrop, mF1, kf, ko, gets, owns, R.get, R.own, R.ok, R.kid, D.kids, D.at, D.pure, D.pureL, dAt, Sl.d?, ixD, ixN, fCmp, fLt, fLe, fGt, fGe, fMod, fDiv, fMul, fAdd, fSub, fInt, fAbs, fSetIx, kCh, enPut, Sl.put, D.put, D.setKid, argsOnly, outs, mMod, mDiv, mMul, mAdd, mSub, mSkip, mBrk, mCnt, mAnd, mOr, mNot, mVal, mIfE, mCall, kCall, imps, wbs, mTup, fTup, mLst, fLst, fLenG, fLen, fLenD, mPow, fPow, fIsN, fNotN, D.isNon, D.isHole, fIn, fNotIn, D.truth, mUnp, gN, gT, gsCons, gsNil, mApp, mPop, mMeth, maConsP, tyP, tyD, fL, lApp, lPop, sizeLine_eq, fEq_int, fEq_str, fNe_int, fNe_str, eq]
    have hz : acc.length < sizeLine := by rw [sizeLine_eq]; omega
    have te : (mN 7).run [g, a1, s2, .val W, s4, .val s5, .val L, .val (.int t)] = some (.p 7 [], [g, a1, s2, .val W, s4, .val s5, .val L, .val (.int t)]) := by simp [mN]
    have ow : R.own (.p 7 []) [g, a1, s2, .val W, s4, .val s5, .val L, .val (.int t)] = some (.int t) := by simp [mSeq, mIf, mTest, mTru, mGt, mLt, mLe, mGe, mEq, mNe, mIsN, mNotN, mIn, mNotIn, mOp, maCons, maNil, mIx, kIx, mN, mC, mSet, mAsgIx, mRet, mRetN, mDrop, mF1, kf, ko, gets, owns, R.get, R.own, R.ok, R.kid, D.kids, D.at, D.pure, D.pureL, dAt, Sl.d?, ixD, ixN, fCmp, fLt, fLe, fGt, fGe, fMod, fDiv, fMul, fAdd, fSub, fInt, fAbs, fSetIx, kCh, enPut, Sl.put, D.put, D.setKid, argsOnly, outs, mMod, mDiv, mMul, mAdd, mSub, mSkip, mBrk, mCnt, mAnd, mOr, mNot, mVal, mIfE, mCall, kCall, imps, wbs, mTup, fTup, mLst, fLst, fLenG, fLen, fLenD, mPow, fPow, fIsN, fNotN, D.isNon, D.isHole, fIn, fNotIn, D.truth, mUnp, gN, gT, gsCons, gsNil, mApp, mPop, mMeth, maConsP, tyP, tyD, fL, lApp, lPop, sizeLine_eq, fEq_int, fEq_str, fNe_int, fNe_str]
    have wp : wipeE [g, a1, s2, .val W, s4, .val s5, .val L, .val (.int t)] [6, 7] = [g, a1, s2, .val W, s4, .val s5, .un, .un] := by simp [wipeE]
    rw [List.map_cons, lcGo, htar, Option.bind_some, htest, Option.bind_some]
    dsimp only
    by_cases c : lbEq L W = true
    · have hit1 : hit W ((L, t) :: es) = t :: hit W es := by simp [hit, c]
      have e1 : (acc ++ [t]).map nt = acc.map nt ++ [.int t] := by rw [List.map_append]; rfl
      have := ih (acc ++ [t]) (by rw [List.length_append, List.length_singleton]; omega)
      rw [e1] at this
      rw [if_pos c, hit1, show acc ++ t :: hit W es = acc ++ [t] ++ hit W es by simp, ← this, te, Option.bind_some]
      dsimp only
      rw [ow, Option.bind_some, if_pos (by rw [List.length_map]; exact hz), wp]
    · have hit1 : hit W ((L, t) :: es) = hit W es := by simp [hit, c]
      have := ih acc (by omega)
      rw [if_neg c, hit1, ← this, wp]
end K35
set_option Elab.async false
set_option linter.all false
set_option maxRecDepth 100000
set_option maxHeartbeats 4000000
namespace K35
open PySem PySem.Spec PyProof.Rows L2 G
theorem hit_mem {W : D} {es : Row} {t : Nat} : t ∈ hit W es ↔ ∃ L, (L, t) ∈ es ∧ lbEq L W = true := by
  unfold hit
  rw [List.mem_map]
  constructor
  · rintro ⟨⟨L, t'⟩, h, rfl⟩
    rw [List.mem_filter] at h
    exact ⟨L, h.1, h.2⟩
  · rintro ⟨L, h, e⟩
    exact ⟨(L, t), List.mem_filter.mpr ⟨h, e⟩, rfl⟩
theorem hit_len (W : D) (es : Row) : (hit W es).length ≤ es.length := by
  unfold hit
  rw [List.length_map]
  exact List.length_filter_le _ _
theorem encG_pure {E I O : List D} {Rw : List Row} (hG : Gr E Rw) (pI : D.pureL I = true) (pO : D.pureL O = true) : (encG I O Rw).pure = true := by
  simp [encG, D.pure, D.pureL, pI, pO, row_pure hG]
theorem after_lc2 {E I O : List D} {Rw : List Row} {W : D} {a1 s2 s4 : Sl} (hG : Gr E Rw) (hW : W ∈ E) : ∀ (ss acc : List Nat), (∀ i ∈ ss, i < Rw.length) → acc.length + 5000 * ss.length ≤ 16000000 →
    lc2Go (gN 5) mYes (iSeq (mIx (mIx (mN 0) (mC (.int 3))) (mN 5))) (gT (gsCons (gN 6) (gsCons (gN 7) gsNil))) (mTest (mEq (mN 6) (mN 3))) (mN 7) [5, 6, 7] [6, 7] (ss.map nt) [.arg (encG I O Rw), a1, s2, .val W, s4, .un, .un, .un] (acc.map nt) =
      some ((acc ++ ss.flatMap fun i => hit W (row Rw i)).map nt, [.arg (encG I O Rw), a1, s2, .val W, s4, .un, .un, .un])
  | [], acc, _, _ => by simp [lc2Go]
  | i :: ss, acc, hs, hl => by
    rw [List.length_cons] at hl
    have li := hs i List.mem_cons_self
    have hr := hG.2.2.2 _ (row_mem li)
    have h1 := after_lc (g := .arg (encG I O Rw)) (a1 := a1) (s2 := s2) (s4 := s4) hG.1 hW (.int i) (row Rw i) acc hr.2 (by omega)
    have hh := hit_len W (row Rw i)
    have h2 := after_lc2 (I := I) (O := O) (a1 := a1) (s2 := s2) (s4 := s4) hG hW ss (acc ++ hit W (row Rw i)) (fun j hj => hs j (List.mem_cons_of_mem _ hj)) (by rw [List.length_append]; omega)
    have ra := row_at li
    have q : (iSeq (mIx (mIx (mN 0) (mC (.int 3))) (mN 5))).run [.arg (encG I O Rw), a1, s2, .val W, s4, .val (.int i), .un, .un] =
        some ((row Rw i).map encE, [.p 0 [3, i]], [.arg (encG I O Rw), a1, s2, .val W, s4, .val (.int i), .un, .un]) := by
      unfold encG
      generalize Rw.map encR = Rs at ra
      obtain ⟨l1, r1⟩ := List.getElem?_eq_some_iff.mp ra
      simp [iSeq, mSeq, mIf, mTest, mTru, mGt, mLt, mLe, mGe, mEq, mNe, mIsN, mNotN, mIn, mNotIn, mOp, maCons, maNil, mIx, kIx, mN, mC, mSet, mAsgIx, mRet, mRetN, mDrop, mF1, kf, ko, gets, owns, R.get, R.own, R.ok, R.kid, D.kids, D.at, D.pure, D.pureL, dAt, Sl.d?, ixD, ixN, fCmp, fLt, fLe, fGt, fGe, fMod, fDiv, fMul, fAdd, fSub, fInt, fAbs, fSetIx, kCh, enPut, Sl.put, D.put, D.setKid, argsOnly, outs, mMod, mDiv, mMul, mAdd, mSub, mSkip, mBrk, mCnt, mAnd, mOr, mNot, mVal, mIfE, mCall, kCall, imps, wbs, mTup, fTup, mLst, fLst, fLenG, fLen, fLenD, mPow, fPow, fIsN, fNotN, D.isNon, D.isHole, fIn, fNotIn, D.truth, mUnp, gN, gT, gsCons, gsNil, mApp, mPop, mMeth, maConsP, tyP, tyD, fL, lApp, lPop, sizeLine_eq, fEq_int, fEq_str, fNe_int, fNe_str, l1, r1, encR, D.items]
    have w1 : wipeE [.arg (encG I O Rw), a1, s2, .val W, s4, .val (.int i), .un, .un] [6, 7] = [.arg (encG I O Rw), a1, s2, .val W, s4, .val (.int i), .un, .un] := by simp [wipeE]
    have w2 : wipeE [.arg (encG I O Rw), a1, s2, .val W, s4, .val (.int i), .un, .un] [5, 6, 7] = [.arg (encG I O Rw), a1, s2, .val W, s4, .un, .un, .un] := by simp [wipeE]
    have g5 : (gN 5).run (nt i) [.arg (encG I O Rw), a1, s2, .val W, s4, .un, .un, .un] = some [.arg (encG I O Rw), a1, s2, .val W, s4, .val (.int i), .un, .un] := by simp [gN, nt, D.pure]
    have y5 : mYes.run [.arg (encG I O Rw), a1, s2, .val W, s4, .val (.int i), .un, .un] = some (true, [.arg (encG I O Rw), a1, s2, .val W, s4, .val (.int i), .un, .un]) := rfl
    rw [List.map_cons, lc2Go, g5, Option.bind_some, y5, Option.bind_some, if_pos rfl, q, Option.bind_some, if_pos (by rfl), w1, h1, Option.bind_some]
    dsimp only
    rw [w2, h2, List.flatMap_cons, List.append_assoc]
theorem after_f1 {E I O ws : List D} {Rw : List Row} {W : D} {s4 : Sl} {ss : List Nat} (hG : Gr E Rw) (pI : D.pureL I = true) (pO : D.pureL O = true) (hW : W ∈ E) (hs : ∀ i ∈ ss, i < Rw.length) (hl : ss.length ≤ 2001) :
    ∃ (ms : List Nat) (u4 : Sl), ms.Nodup ∧ (∀ j, j ∈ ms ↔ ∃ i ∈ ss.flatMap (fun i => hit W (row Rw i)), Inn Rw i j) ∧
      b_after_f1.run [.arg (encG I O Rw), .arg (.tup ws), .val (.tup (ss.map nt)), .val W, s4, .un, .un, .un] =
        some (.nx, [.arg (encG I O Rw), .arg (.tup ws), .val (.tup ((srt ms).map nt)), .val W, u4, .un, .un, .un]) := by
  have pG := encG_pure hG pI pO
  have pS := nts_pure ss
  have lc := after_lc2 (I := I) (O := O) (a1 := .arg (.tup ws)) (s2 := .val (.tup (ss.map nt))) (s4 := s4) hG hW ss [] hs (by rw [List.length_nil]; omega)
  rw [List.nil_append, List.map_nil] at lc
  generalize hts : (ss.flatMap fun i => hit W (row Rw i)) = ts at lc
  obtain ⟨ms, a1, a2, a3, a4⟩ := closure_ok hG pI pO (ss := ts) (c := .lst true (ts.map nt)) rfl fun j hj => by
    rw [← hts] at hj
    obtain ⟨i, hi, h⟩ := List.mem_flatMap.mp hj
    obtain ⟨L, h, _⟩ := hit_mem.mp h
    exact ((hG.2.2.2 _ (row_mem (hs i hi))).2 _ h).2
  rw [sortD_nt] at a4
  refine ⟨ms, .val (.lst true (ts.map nt)), a1, a3, ?_⟩
  have q : (mLc2 (iSeq (mN 2)) (gN 5) mYes (iSeq (mIx (mIx (mN 0) (mC (.int 3))) (mN 5))) (gT (gsCons (gN 6) (gsCons (gN 7) gsNil))) (mTest (mEq (mN 6) (mN 3))) (mN 7) [5, 6, 7] [6, 7]).run [.arg (encG I O Rw), .arg (.tup ws), .val (.tup (ss.map nt)), .val W, s4, .un, .un, .un] =
      some (.v (.lst true (ts.map nt)), [.arg (encG I O Rw), .arg (.tup ws), .val (.tup (ss.map nt)), .val W, s4, .un, .un, .un]) := by
    have q1 : (iSeq (mN 2)).run [.arg (encG I O Rw), .arg (.tup ws), .val (.tup (ss.map nt)), .val W, s4, .un, .un, .un] = some (ss.map nt, [.p 2 []], [.arg (encG I O Rw), .arg (.tup ws), .val (.tup (ss.map nt)), .val W, s4, .un, .un, .un]) := by
      generalize ss.map nt = sss
      simp [iSeq, mSeq, mIf, mTest, mTru, mGt, mLt, mLe, mGe, mEq, mNe, mIsN, mNotN, mIn, mNotIn, mOp, maCons, maNil, mIx, kIx, mN, mC, mSet, mAsgIx, mRet, mRetN, mDrop, mF1, kf, ko, gets, owns, R.get, R.own, R.ok, R.kid, D.kids, D.at, D.pure, D.pureL, dAt, Sl.d?, ixD, ixN, fCmp, fLt, fLe, fGt, fGe, fMod, fDiv, fMul, fAdd, fSub, fInt, fAbs, fSetIx, kCh, enPut, Sl.put, D.put, D.setKid, argsOnly, outs, mMod, mDiv, mMul, mAdd, mSub, mSkip, mBrk, mCnt, mAnd, mOr, mNot, mVal, mIfE, mCall, kCall, imps, wbs, mTup, fTup, mLst, fLst, fLenG, fLen, fLenD, mPow, fPow, fIsN, fNotN, D.isNon, D.isHole, fIn, fNotIn, D.truth, mUnp, gN, gT, gsCons, gsNil, mApp, mPop, mMeth, maConsP, tyP, tyD, fL, lApp, lPop, sizeLine_eq, fEq_int, fEq_str, fNe_int, fNe_str, D.items]
    unfold mLc2
    dsimp only
    rw [q1, Option.bind_some, if_pos (by rfl)]
    dsimp only
    rw [show wipeE [.arg (encG I O Rw), .arg (.tup ws), .val (.tup (ss.map nt)), .val W, s4, .un, .un, .un] [5, 6, 7] = [.arg (encG I O Rw), .arg (.tup ws), .val (.tup (ss.map nt)), .val W, s4, .un, .un, .un] by simp [wipeE], lc]
    simp [backE]
  have pT := nts_pure ts
  have pM := nts_pure (srt ms)
  unfold b_after_f1
  have e1 : (mSet 4 (mLc2 (iSeq (mN 2)) (gN 5) mYes (iSeq (mIx (mIx (mN 0) (mC (.int 3))) (mN 5))) (gT (gsCons (gN 6) (gsCons (gN 7) gsNil))) (mTest (mEq (mN 6) (mN 3))) (mN 7) [5, 6, 7] [6, 7])).run [.arg (encG I O Rw), .arg (.tup ws), .val (.tup (ss.map nt)), .val W, s4, .un, .un, .un] =
      some (.nx, [.arg (encG I O Rw), .arg (.tup ws), .val (.tup (ss.map nt)), .val W, .val (.lst true (ts.map nt)), .un, .un, .un]) := by
    generalize (mLc2 (iSeq (mN 2)) (gN 5) mYes (iSeq (mIx (mIx (mN 0) (mC (.int 3))) (mN 5))) (gT (gsCons (gN 6) (gsCons (gN 7) gsNil))) (mTest (mEq (mN 6) (mN 3))) (mN 7) [5, 6, 7] [6, 7]) = m at q
    generalize ts.map nt = tss at q pT
    simp [mSeq, mIf, mTest, mTru, mGt, mLt, mLe, mGe, mEq, mNe, mIsN, mNotN, mIn, mNotIn, mOp, maCons, maNil, mIx, kIx, mN, mC, mSet, mAsgIx, mRet, mRetN, mDrop, mF1, kf, ko, gets, owns, R.get, R.own, R.ok, R.kid, D.kids, D.at, D.pure, D.pureL, dAt, Sl.d?, ixD, ixN, fCmp, fLt, fLe, fGt, fGe, fMod, fDiv, fMul, fAdd, fSub, fInt, fAbs, fSetIx, kCh, enPut, Sl.put, D.put, D.setKid, argsOnly, outs, mMod, mDiv, mMul, mAdd, mSub, mSkip, mBrk, mCnt, mAnd, mOr, mNot, mVal, mIfE, mCall, kCall, imps, wbs, mTup, fTup, mLst, fLst, fLenG, fLen, fLenD, mPow, fPow, fIsN, fNotN, D.isNon, D.isHole, fIn, fNotIn, D.truth, mUnp, gN, gT, gsCons, gsNil, mApp, mPop, mMeth, maConsP, tyP, tyD, fL, lApp, lPop, sizeLine_eq, fEq_int, fEq_str, fNe_int, fNe_str, q]
  rw [seq_nx e1]
  change m_closure [encG I O Rw, .lst true (ts.map nt)] = some (.tup ((srt ms).map nt), [encG I O Rw, .lst true (ts.map nt)]) at a4
  generalize m_closure = m at a4
  generalize ts.map nt = tss at a4 pT
  generalize (srt ms).map nt = mss at a4 pM
  generalize encG I O Rw = G at a4 pG
  simp [mSeq, mIf, mTest, mTru, mGt, mLt, mLe, mGe, mEq, mNe, mIsN, mNotN, mIn, mNotIn, mOp, maCons, maNil, mIx, kIx, mN, mC, mSet, mAsgIx, mRet, mRetN, mDrop, mF1, kf, ko, gets, owns, R.get, R.own, R.ok, R.kid, D.kids, D.at, D.pure, D.pureL, dAt, Sl.d?, ixD, ixN, fCmp, fLt, fLe, fGt, fGe, fMod, fDiv, fMul, fAdd, fSub, fInt, fAbs, fSetIx, kCh, enPut, Sl.put, D.put, D.setKid, argsOnly, outs, mMod, mDiv, mMul, mAdd, mSub, mSkip, mBrk, mCnt, mAnd, mOr, mNot, mVal, mIfE, mCall, kCall, imps, wbs, mTup, fTup, mLst, fLst, fLenG, fLen, fLenD, mPow, fPow, fIsN, fNotN, D.isNon, D.isHole, fIn, fNotIn, D.truth, mUnp, gN, gT, gsCons, gsNil, mApp, mPop, mMeth, maConsP, tyP, tyD, fL, lApp, lPop, sizeLine_eq, fEq_int, fEq_str, fNe_int, fNe_str, a4, pG, pT, pM]
theorem after_l {E I O ws : List D} {Rw : List Row} (hG : Gr E Rw) (pI : D.pureL I = true) (pO : D.pureL O = true) (hW : ∀ W ∈ ws, W ∈ E) : ∀ (vs : List D) (k : Nat) (ms : List Nat) (s3 s4 : Sl), ms.Nodup → (∀ i, i ∈ ms ↔ Rch Rw ws i k) → k + vs.length = ws.length → (∀ i, vs[i]? = ws[k + i]?) →
    ∃ (ms' : List Nat) (u3 u4 : Sl), ms'.Nodup ∧ (∀ i, i ∈ ms' ↔ Rch Rw ws i ws.length) ∧ forGo (gN 3) b_after_f1 vs [.arg (encG I O Rw), .arg (.tup ws), .val (.tup ((srt ms).map nt)), s3, s4, .un, .un, .un] =
      some (.nx, [.arg (encG I O Rw), .arg (.tup ws), .val (.tup ((srt ms').map nt)), u3, u4, .un, .un, .un])
  | [], k, ms, s3, s4, h1, h2, h3, h4 => by
    rw [List.length_nil, Nat.add_zero] at h3
    exact ⟨ms, s3, s4, h1, by rw [← h3]; exact h2, forGo_nil⟩
  | W :: vs, k, ms, s3, s4, h1, h2, h3, h4 => by
    rw [List.length_cons] at h3
    have wk : ws[k]? = some W := by rw [← Nat.add_zero k, ← h4 0]; rfl
    have hw := hW W (List.mem_of_getElem? wk)
    have lt : ∀ i ∈ ms, i < Rw.length := fun i hi => rch_lt hG ((h2 i).mp hi)
    obtain ⟨m1, u4, a1, a2, a3⟩ := after_f1 (ws := ws) (s4 := s4) (ss := srt ms) hG pI pO hw (fun i hi => lt i (srt_mem.mp hi)) (by rw [srt_len]; exact Nat.le_trans (nodup_lt h1 lt) hG.2.2.1)
    have k2 : ∀ i, i ∈ m1 ↔ Rch Rw ws i (k + 1) := fun j => by
      rw [a2 j]
      constructor
      · rintro ⟨i, hi, w⟩
        obtain ⟨s, hs, h⟩ := List.mem_flatMap.mp hi
        obtain ⟨L, h, e⟩ := hit_mem.mp h
        exact rch_inn (.ev ((h2 s).mp (srt_mem.mp hs)) h wk e) w
      · intro h
        obtain ⟨s, L, W', i, b1, b2, b3, b4, w⟩ := rch_s h rfl
        obtain rfl : W = W' := Option.some.inj (wk.symm.trans b3)
        exact ⟨i, List.mem_flatMap.mpr ⟨s, srt_mem.mpr ((h2 s).mpr b1), hit_mem.mpr ⟨L, b2, b4⟩⟩, w⟩
    obtain ⟨m2, v3, v4, c1, c2, c3⟩ := after_l (I := I) (O := O) hG pI pO hW vs (k + 1) m1 (.val W) u4 a1 k2 (by omega) (fun i => by rw [Nat.add_assoc, Nat.add_comm 1 i, ← h4 (i + 1)]; rfl)
    have pw := (evs_pure hG.1 hw).1
    refine ⟨m2, v3, v4, c1, c2, ?_⟩
    rw [← c3, forGo_nx (by simp [gN, pw]) a3]
theorem after_ok {E I O ws : List D} {Rw : List Row} (hG : Gr E Rw) (pI : D.pureL I = true) (pO : D.pureL O = true) (hW : ∀ W ∈ ws, W ∈ E) :
    ∃ ms : List Nat, ms.Nodup ∧ (∀ i, i ∈ ms ↔ Rch Rw ws i ws.length) ∧ m_after [encG I O Rw, .tup ws] = some (.tup ((srt ms).map nt), [encG I O Rw, .tup ws]) := by
  have pG := encG_pure hG pI pO
  obtain ⟨m0, a1, a2, a3, a4⟩ := closure_ok hG pI pO (ss := [0]) (c := .tup ([0].map nt)) rfl (fun i hi => by rw [List.mem_singleton] at hi; subst hi; exact hG.2.1)
  rw [sortD_nt] at a4
  have pM := nts_pure (srt m0)
  have k0 : ∀ i, i ∈ m0 ↔ Rch Rw ws i 0 := fun j => by
    rw [a3 j]
    constructor
    · rintro ⟨i, hi, w⟩
      rw [List.mem_singleton] at hi
      subst hi
      exact rch_inn .z w
    · exact fun h => ⟨0, List.mem_singleton_self 0, rch_0 h rfl⟩
  obtain ⟨ms, u3, u4, b1, b2, b3⟩ := after_l (I := I) (O := O) hG pI pO hW ws 0 m0 .un .un a1 k0 (Nat.zero_add _) (fun i => by rw [Nat.zero_add])
  have pW : D.pureL ws = true := pureL_all fun d hd => (evs_pure hG.1 (hW d hd)).1
  have pM2 := nts_pure (srt ms)
  refine ⟨ms, b1, b2, ?_⟩
  refine call_run (e' := argsOnly [.arg (encG I O Rw), .arg (.tup ws), .val (.tup ((srt ms).map nt)), u3, u4, .un, .un, .un]) rfl ?_ (by simp [outs, argsOnly])
  show b_after.run [.arg (encG I O Rw), .arg (.tup ws), .un, .un, .un, .un, .un, .un] = _
  change m_closure [encG I O Rw, .tup [.int (0 : Nat)]] = some (.tup ((srt m0).map nt), [encG I O Rw, .tup [.int (0 : Nat)]]) at a4
  generalize (srt m0).map nt = mss at a4 pM b3
  generalize (srt ms).map nt = mss2 at pM2 b3
  generalize encG I O Rw = G at a4 pG b3
  unfold b_after
  have q : (iSeq (mN 1)).run [.arg G, .arg (.tup ws), .val (.tup mss), .un, .un, .un, .un, .un] = some (ws, [.p 1 []], [.arg G, .arg (.tup ws), .val (.tup mss), .un, .un, .un, .un, .un]) := by
    simp [iSeq, mSeq, mIf, mTest, mTru, mGt, mLt, mLe, mGe, mEq, mNe, mIsN, mNotN, mIn, mNotIn, mOp, maCons, maNil, mIx, kIx, mN, mC, mSet, mAsgIx, mRet, mRetN, mDrop, mF1, kf, ko, gets, owns, R.get, R.own, R.ok, R.kid, D.kids, D.at, D.pure, D.pureL, dAt, Sl.d?, ixD, ixN, fCmp, fLt, fLe, fGt, fGe, fMod, fDiv, fMul, fAdd, fSub, fInt, fAbs, fSetIx, kCh, enPut, Sl.put, D.put, D.setKid, argsOnly, outs, mMod, mDiv, mMul, mAdd, mSub, mSkip, mBrk, mCnt, mAnd, mOr, mNot, mVal, mIfE, mCall, kCall, imps, wbs, mTup, fTup, mLst, fLst, fLenG, fLen, fLenD, mPow, fPow, fIsN, fNotN, D.isNon, D.isHole, fIn, fNotIn, D.truth, mUnp, gN, gT, gsCons, gsNil, mApp, mPop, mMeth, maConsP, tyP, tyD, fL, lApp, lPop, sizeLine_eq, fEq_int, fEq_str, fNe_int, fNe_str, D.items]
  have a5 : m_closure [G, .tup [.int 0]] = some (.tup mss, [G, .tup [.int 0]]) := a4
  generalize m_closure = m at a5
  rw [seq_nx (e1 := [.arg G, .arg (.tup ws), .val (.tup mss), .un, .un, .un, .un, .un]) (by simp [mSeq, mIf, mTest, mTru, mGt, mLt, mLe, mGe, mEq, mNe, mIsN, mNotN, mIn, mNotIn, mOp, maCons, maNil, mIx, kIx, mN, mC, mSet, mAsgIx, mRet, mRetN, mDrop, mF1, kf, ko, gets, owns, R.get, R.own, R.ok, R.kid, D.kids, D.at, D.pure, D.pureL, dAt, Sl.d?, ixD, ixN, fCmp, fLt, fLe, fGt, fGe, fMod, fDiv, fMul, fAdd, fSub, fInt, fAbs, fSetIx, kCh, enPut, Sl.put, D.put, D.setKid, argsOnly, outs, mMod, mDiv, mMul, mAdd, mSub, mSkip, mBrk, mCnt, mAnd, mOr, mNot, mVal, mIfE, mCall, kCall, imps, wbs, mTup, fTup, mLst, fLst, fLenG, fLen, fLenD, mPow, fPow, fIsN, fNotN, D.isNon, D.isHole, fIn, fNotIn, D.truth, mUnp, gN, gT, gsCons, gsNil, mApp, mPop, mMeth, maConsP, tyP, tyD, fL, lApp, lPop, sizeLine_eq, fEq_int, fEq_str, fNe_int, fNe_str, a5, pG, pM]),
    seq_nx ((for_run q rfl).trans b3)]
  simp [mSeq, mIf, mTest, mTru, mGt, mLt, mLe, mGe, mEq, mNe, mIsN, mNotN, mIn, mNotIn, mOp, maCons, maNil, mIx, kIx, mN, mC, mSet, mAsgIx, mRet, mRetN, mDrop, mF1, kf, ko, gets, owns, R.get, R.own, R.ok, R.kid, D.kids, D.at, D.pure, D.pureL, dAt, Sl.d?, ixD, ixN, fCmp, fLt, fLe, fGt, fGe, fMod, fDiv, fMul, fAdd, fSub, fInt, fAbs, fSetIx, kCh, enPut, Sl.put, D.put, D.setKid, argsOnly, outs, mMod, mDiv, mMul, mAdd, mSub, mSkip, mBrk, mCnt, mAnd, mOr, mNot, mVal, mIfE, mCall, kCall, imps, wbs, mTup, fTup, mLst, fLst, fLenG, fLen, fLenD, mPow, fPow, fIsN, fNotN, D.isNon, D.isHole, fIn, fNotIn, D.truth, mUnp, gN, gT, gsCons, gsNil, mApp, mPop, mMeth, maConsP, tyP, tyD, fL, lApp, lPop, sizeLine_eq, fEq_int, fEq_str, fNe_int, fNe_str, pM2]
end K35
set_option Elab.async false
set_option linter.all false
set_option maxRecDepth 100000
set_option maxHeartbeats 4000000
namespace K35
open PySem PySem.Spec PyProof.Rows L2 G
theorem rng_z {m : ME} {r : R} {e : En} {z : Int} (h : m.run e = some (r, e)) (hg : r.get e = some (.int z)) (h1 : -4611686018427387904 ≤ z) (h2 : z < 4611686018427387904) : (iRng (ma1 m)).run e = some (dRange 0 z, [], e) := by
  have ok : r.ok [] = true := by
    cases r with
    | v d => rfl
    | p j π => cases π <;> rfl
  simp only [R.get] at hg
  simp [iRng, ma1, maCons, maNil, h, ok, gets, R.get, h1, h2]
  simp [hg, h1, h2]
theorem rng_n {m : ME} {r : R} {e : En} {n : Nat} (h : m.run e = some (r, e)) (hg : r.get e = some (.int n)) (hn : n ≤ 100000000) : (iRng (ma1 m)).run e = some (dRange 0 (n : Int), [], e) :=
  rng_z h hg (by omega) (by omega)
theorem eq_s1 {xx : List D} : (mIf (mTest (mIsN (mN 1) (mC .non))) (mRet (mIsN (mN 0) (mC .non))) mSkip).run [.arg (.tup xx), .arg (.tup xx), .un] = some (.nx, [.arg (.tup xx), .arg (.tup xx), .un]) := by
  simp [mSeq, mIf, mTest, mTru, mGt, mLt, mLe, mGe, mEq, mNe, mIsN, mNotN, mIn, mNotIn, mOp, maCons, maNil, mIx, kIx, mN, mC, mSet, mAsgIx, mRet, mRetN, mDrop, mF1, kf, ko, gets, owns, R.get, R.own, R.ok, R.kid, D.kids, D.at, D.pure, D.pureL, dAt, Sl.d?, ixD, ixN, fCmp, fLt, fLe, fGt, fGe, fMod, fDiv, fMul, fAdd, fSub, fInt, fAbs, fSetIx, kCh, enPut, Sl.put, D.put, D.setKid, argsOnly, outs, mMod, mDiv, mMul, mAdd, mSub, mSkip, mBrk, mCnt, mAnd, mOr, mNot, mVal, mIfE, mCall, kCall, imps, wbs, mTup, fTup, mLst, fLst, fLenG, fLen, fLenD, mPow, fPow, fIsN, fNotN, D.isNon, D.isHole, fIn, fNotIn, D.truth, mUnp, gN, gT, gsCons, gsNil, mApp, mPop, mMeth, maConsP, tyP, tyD, fL, lApp, lPop, sizeLine_eq, fEq_int, fEq_str, fNe_int, fNe_str]
theorem eq_s2 {xx : List D} {g : List D → Option D} {b : MS} (h : g [.tup xx] = some (.bl false)) : (mIf (mTru (mF1 g (mN 1))) b mSkip).run [.arg (.tup xx), .arg (.tup xx), .un] = some (.nx, [.arg (.tup xx), .arg (.tup xx), .un]) := by
  simp [mSeq, mIf, mTest, mTru, mGt, mLt, mLe, mGe, mEq, mNe, mIsN, mNotN, mIn, mNotIn, mOp, maCons, maNil, mIx, kIx, mN, mC, mSet, mAsgIx, mRet, mRetN, mDrop, mF1, kf, ko, gets, owns, R.get, R.own, R.ok, R.kid, D.kids, D.at, D.pure, D.pureL, dAt, Sl.d?, ixD, ixN, fCmp, fLt, fLe, fGt, fGe, fMod, fDiv, fMul, fAdd, fSub, fInt, fAbs, fSetIx, kCh, enPut, Sl.put, D.put, D.setKid, argsOnly, outs, mMod, mDiv, mMul, mAdd, mSub, mSkip, mBrk, mCnt, mAnd, mOr, mNot, mVal, mIfE, mCall, kCall, imps, wbs, mTup, fTup, mLst, fLst, fLenG, fLen, fLenD, mPow, fPow, fIsN, fNotN, D.isNon, D.isHole, fIn, fNotIn, D.truth, mUnp, gN, gT, gsCons, gsNil, mApp, mPop, mMeth, maConsP, tyP, tyD, fL, lApp, lPop, sizeLine_eq, fEq_int, fEq_str, fNe_int, fNe_str, h]
theorem eq_s3 {xx : List D} {g : List D → Option D} {b : MS} (h : g [.tup xx] = some (.bl true)) : (mIf (mOr (mNot (mTru (mF1 g (mN 0)))) (mTest (mNe (mF1 fLenG (mN 0)) (mF1 fLenG (mN 1))))) b mSkip).run [.arg (.tup xx), .arg (.tup xx), .un] = some (.nx, [.arg (.tup xx), .arg (.tup xx), .un]) := by
  simp [mSeq, mIf, mTest, mTru, mGt, mLt, mLe, mGe, mEq, mNe, mIsN, mNotN, mIn, mNotIn, mOp, maCons, maNil, mIx, kIx, mN, mC, mSet, mAsgIx, mRet, mRetN, mDrop, mF1, kf, ko, gets, owns, R.get, R.own, R.ok, R.kid, D.kids, D.at, D.pure, D.pureL, dAt, Sl.d?, ixD, ixN, fCmp, fLt, fLe, fGt, fGe, fMod, fDiv, fMul, fAdd, fSub, fInt, fAbs, fSetIx, kCh, enPut, Sl.put, D.put, D.setKid, argsOnly, outs, mMod, mDiv, mMul, mAdd, mSub, mSkip, mBrk, mCnt, mAnd, mOr, mNot, mVal, mIfE, mCall, kCall, imps, wbs, mTup, fTup, mLst, fLst, fLenG, fLen, fLenD, mPow, fPow, fIsN, fNotN, D.isNon, D.isHole, fIn, fNotIn, D.truth, mUnp, gN, gT, gsCons, gsNil, mApp, mPop, mMeth, maConsP, tyP, tyD, fL, lApp, lPop, sizeLine_eq, fEq_int, fEq_str, fNe_int, fNe_str, h]
theorem rng_call {m : ME} {e e' : En} {n : Int} (h : m.run e = some (.v (.int n), e')) (h0 : 0 ≤ n) (hn : n ≤ 100000000) : (iRng (ma1 m)).run e = some (dRange 0 n, [], e') := by
  have x3 : (-4611686018427387904 : Int) ≤ n := by omega
  have x4 : n < 4611686018427387904 := by omega
  exact irng1 h x3 x4
theorem lc_filt {g : MG} {tt : MT} {te : ME} {vs : List Nat} {env : En} {p : D → Bool} {f : D → D} : ∀ (ds acc : List D), (∀ d ∈ ds, ∃ e, g.run d env = some e ∧ ∃ e2, tt.run e = some (p d, e2) ∧ (p d = true → ∃ r e', te.run e2 = some (r, e') ∧ r.own e' = some (f d) ∧ wipeE e' vs = env) ∧ (p d = false → wipeE e2 vs = env)) → acc.length + ds.length ≤ 16777215 →
    lcGo g tt te vs ds env acc = some (acc ++ (ds.filter p).map f, env)
  | [], acc, _, _ => by simp [lcGo]
  | d :: ds, acc, h, hl => by
    rw [List.length_cons] at hl
    obtain ⟨e, h1, e2, h2, h3, h4⟩ := h d List.mem_cons_self
    have ih := fun acc' h' => lc_filt (g := g) (tt := tt) (te := te) (vs := vs) (env := env) (p := p) (f := f) ds acc' (fun x hx => h x (List.mem_cons_of_mem _ hx)) h'
    rw [lcGo, h1, Option.bind_some, h2, Option.bind_some]
    dsimp only
    cases c : p d with
    | true =>
      obtain ⟨r, e', k1, k2, k3⟩ := h3 c
      have hz : acc.length < sizeLine := by rw [sizeLine_eq]; omega
      rw [if_pos rfl, k1, Option.bind_some]
      dsimp only
      rw [k2, Option.bind_some, if_pos hz, k3, ih _ (by rw [List.length_append, List.length_singleton]; omega), List.filter_cons_of_pos c, List.map_cons, List.append_assoc]
      rfl
    | false =>
      rw [if_neg Bool.false_ne_true, h4 c, ih _ (by omega), List.filter_cons_of_neg (by rw [c]; exact Bool.false_ne_true)]
theorem lc_map {g : MG} {te : ME} {vs : List Nat} {env : En} {f : D → D} (ds acc : List D) (h : ∀ d ∈ ds, ∃ e r e', g.run d env = some e ∧ te.run e = some (r, e') ∧ r.own e' = some (f d) ∧ wipeE e' vs = env) (hl : acc.length + ds.length ≤ 16777215) :
    lcGo g mYes te vs ds env acc = some (acc ++ ds.map f, env) := by
  have := lc_filt (g := g) (tt := mYes) (te := te) (vs := vs) (env := env) (p := fun _ => true) (f := f) ds acc (fun d hd => by
    obtain ⟨e, r, e', h1, h2, h3, h4⟩ := h d hd
    exact ⟨e, h1, e, rfl, fun _ => ⟨r, e', h2, h3, h4⟩, fun z => nomatch z⟩) hl
  rwa [List.filter_eq_self.mpr fun _ _ => rfl] at this
theorem lc_run1 {it : MI} {g : MG} {tt : MT} {te : ME} {v : Nat} {e0 e1 e2 : En} {ds zs : List D} {rs : List R} (h : it.run e0 = some (ds, rs, e1)) (ok : lcOk g tt te [v] rs e1 = true) (hz : lcGo g tt te [v] ds (e1.set v .un) [] = some (zs, e2)) :
    (mLc it g tt te [v]).run e0 = some (.v (.lst true zs), e2.set v (e1[v]?.getD .un)) := by
  unfold mLc
  dsimp only
  rw [h, Option.bind_some]
  dsimp only
  rw [if_pos ok, show wipeE e1 [v] = e1.set v .un from rfl, hz]
  rfl
def PI (s : Sl) : Prop := s = .un ∨ ∃ k : Int, s = .val (.int k)
theorem PI.pure {e : En} {i : Nat} {s : Sl} (h : PI s) (he : e[i]? = some s) : pureSl e i = true := by
  unfold pureSl dAt
  rw [he]
  rcases h with rfl | ⟨k, rfl⟩ <;> rfl
def Sim : Nat → D → Prop
  | 0, _ => False
  | _ + 1, .non => True
  | _ + 1, .int _ => True
  | _ + 1, .str _ => True
  | n + 1, .tup ds => ds.length ≤ 100000 ∧ ∀ d ∈ ds, Sim n d
  | _ + 1, _ => False
theorem Sim.pure : ∀ {n : Nat} {d : D}, Sim n d → d.pure = true
  | 0, d, h => h.elim
  | n + 1, .non, _ => rfl
  | n + 1, .int _, _ => rfl
  | n + 1, .str _, _ => rfl
  | n + 1, .tup ds, h => pureL_all fun d hd => Sim.pure (h.2 d hd)
  | n + 1, .bl _, h => h.elim
  | n + 1, .lst _ _, h => h.elim
  | n + 1, .dct _ _ _, h => h.elim
  | n + 1, .set _ _, h => h.elim
  | n + 1, .hole, h => h.elim
theorem equal_non (self : Fn) : runDef 2 3 (b_l_equal self) [.non, .non] = some (.bl true, [.non, .non]) := by
  refine call_run (e' := argsOnly [.arg .non, .arg .non, .un]) rfl ?_ (by simp [outs, argsOnly])
  show (b_l_equal self).run [.arg .non, .arg .non, .un] = _
  simp [b_l_equal, mSeq, mIf, mTest, mTru, mGt, mLt, mLe, mGe, mEq, mNe, mIsN, mNotN, mIn, mNotIn, mOp, maCons, maNil, mIx, kIx, mN, mC, mSet, mAsgIx, mRet, mRetN, mDrop, mF1, kf, ko, gets, owns, R.get, R.own, R.ok, R.kid, D.kids, D.at, D.pure, D.pureL, dAt, Sl.d?, ixD, ixN, fCmp, fLt, fLe, fGt, fGe, fMod, fDiv, fMul, fAdd, fSub, fInt, fAbs, fSetIx, kCh, enPut, Sl.put, D.put, D.setKid, argsOnly, outs, mMod, mDiv, mMul, mAdd, mSub, mSkip, mBrk, mCnt, mAnd, mOr, mNot, mVal, mIfE, mCall, kCall, imps, wbs, mTup, fTup, mLst, fLst, fLenG, fLen, fLenD, mPow, fPow, fIsN, fNotN, D.isNon, D.isHole, fIn, fNotIn, D.truth, mUnp, gN, gT, gsCons, gsNil, mApp, mPop, mMeth, maConsP, tyP, tyD, fL, lApp, lPop, sizeLine_eq, fEq_int, fEq_str, fNe_int, fNe_str]
theorem equal_int (self : Fn) (i : Int) : runDef 2 3 (b_l_equal self) [.int i, .int i] = some (.bl true, [.int i, .int i]) := by
  have k1 : kitB "int" "bool" = some false := by decide +kernel
  have k2 : kitB "int" "int" = some true := by decide +kernel
  refine call_run (e' := argsOnly [.arg (.int i), .arg (.int i), .un]) rfl ?_ (by simp [outs, argsOnly])
  show (b_l_equal self).run [.arg (.int i), .arg (.int i), .un] = _
  simp [b_l_equal, mSeq, mIf, mTest, mTru, mGt, mLt, mLe, mGe, mEq, mNe, mIsN, mNotN, mIn, mNotIn, mOp, maCons, maNil, mIx, kIx, mN, mC, mSet, mAsgIx, mRet, mRetN, mDrop, mF1, kf, ko, gets, owns, R.get, R.own, R.ok, R.kid, D.kids, D.at, D.pure, D.pureL, dAt, Sl.d?, ixD, ixN, fCmp, fLt, fLe, fGt, fGe, fMod, fDiv, fMul, fAdd, fSub, fInt, fAbs, fSetIx, kCh, enPut, Sl.put, D.put, D.setKid, argsOnly, outs, mMod, mDiv, mMul, mAdd, mSub, mSkip, mBrk, mCnt, mAnd, mOr, mNot, mVal, mIfE, mCall, kCall, imps, wbs, mTup, fTup, mLst, fLst, fLenG, fLen, fLenD, mPow, fPow, fIsN, fNotN, D.isNon, D.isHole, fIn, fNotIn, D.truth, mUnp, gN, gT, gsCons, gsNil, mApp, mPop, mMeth, maConsP, tyP, tyD, fL, lApp, lPop, sizeLine_eq, fEq_int, fEq_str, fNe_int, fNe_str, fIsi, D.ty, k1, k2]
theorem equal_str (self : Fn) (x : Str) : runDef 2 3 (b_l_equal self) [.str x, .str x] = some (.bl true, [.str x, .str x]) := by
  have k1 : kitB "str" "bool" = some false := by decide +kernel
  have k2 : kitB "str" "int" = some false := by decide +kernel
  have k3 : kitB "str" "str" = some true := by decide +kernel
  refine call_run (e' := argsOnly [.arg (.str x), .arg (.str x), .un]) rfl ?_ (by simp [outs, argsOnly])
  show (b_l_equal self).run [.arg (.str x), .arg (.str x), .un] = _
  simp [b_l_equal, mSeq, mIf, mTest, mTru, mGt, mLt, mLe, mGe, mEq, mNe, mIsN, mNotN, mIn, mNotIn, mOp, maCons, maNil, mIx, kIx, mN, mC, mSet, mAsgIx, mRet, mRetN, mDrop, mF1, kf, ko, gets, owns, R.get, R.own, R.ok, R.kid, D.kids, D.at, D.pure, D.pureL, dAt, Sl.d?, ixD, ixN, fCmp, fLt, fLe, fGt, fGe, fMod, fDiv, fMul, fAdd, fSub, fInt, fAbs, fSetIx, kCh, enPut, Sl.put, D.put, D.setKid, argsOnly, outs, mMod, mDiv, mMul, mAdd, mSub, mSkip, mBrk, mCnt, mAnd, mOr, mNot, mVal, mIfE, mCall, kCall, imps, wbs, mTup, fTup, mLst, fLst, fLenG, fLen, fLenD, mPow, fPow, fIsN, fNotN, D.isNon, D.isHole, fIn, fNotIn, D.truth, mUnp, gN, gT, gsCons, gsNil, mApp, mPop, mMeth, maConsP, tyP, tyD, fL, lApp, lPop, sizeLine_eq, fEq_int, fEq_str, fNe_int, fNe_str, fIsi, D.ty, k1, k2, k3]
theorem equal_l {self : Fn} {xs : List D} (h : ∀ d ∈ xs, self [d, d] = some (.bl true, [d, d])) (hp : ∀ d ∈ xs, d.pure = true) : ∀ (k t : Nat) (s : Sl), t + k = xs.length →
    ∃ u, forGo (gN 2) (b_l_equal_f1 self) ((List.range' t k).map fun i : Nat => D.int i) [.arg (.tup xs), .arg (.tup xs), s] = some (.nx, [.arg (.tup xs), .arg (.tup xs), u])
  | 0, t, s, _ => ⟨s, forGo_nil⟩
  | k + 1, t, s, hk => by
    obtain ⟨u, hu⟩ := equal_l (self := self) (xs := xs) h hp k (t + 1) (.val (.int t)) (by omega)
    have ht : t < xs.length := by omega
    have hs := h _ (List.getElem_mem ht)
    have hpd := hp _ (List.getElem_mem ht)
    obtain ⟨d, r1⟩ : ∃ d, xs[t] = d := ⟨_, rfl⟩
    rw [r1] at hs hpd
    refine ⟨u, ?_⟩
    rw [List.range'_succ, List.map_cons]
    have hb : (b_l_equal_f1 self).run [.arg (.tup xs), .arg (.tup xs), .val (.int t)] = some (.nx, [.arg (.tup xs), .arg (.tup xs), .val (.int t)]) := by
      simp [b_l_equal_f1, mSeq, mIf, mTest, mTru, mGt, mLt, mLe, mGe, mEq, mNe, mIsN, mNotN, mIn, mNotIn, mOp, maCons, maNil, mIx, kIx, mN, mC, mSet, mAsgIx, mRet, mRetN, mDrop, mF1, kf, ko, gets, owns, R.get, R.own, R.ok, R.kid, D.kids, D.at, D.pure, D.pureL, dAt, Sl.d?, ixD, ixN, fCmp, fLt, fLe, fGt, fGe, fMod, fDiv, fMul, fAdd, fSub, fInt, fAbs, fSetIx, kCh, enPut, Sl.put, D.put, D.setKid, argsOnly, outs, mMod, mDiv, mMul, mAdd, mSub, mSkip, mBrk, mCnt, mAnd, mOr, mNot, mVal, mIfE, mCall, kCall, imps, wbs, mTup, fTup, mLst, fLst, fLenG, fLen, fLenD, mPow, fPow, fIsN, fNotN, D.isNon, D.isHole, fIn, fNotIn, D.truth, mUnp, gN, gT, gsCons, gsNil, mApp, mPop, mMeth, maConsP, tyP, tyD, fL, lApp, lPop, sizeLine_eq, fEq_int, fEq_str, fNe_int, fNe_str, ht, r1, hs, hpd]
    rw [forGo_nx (by simp [gN, D.pure]) hb]
    exact hu
theorem equal_tup {self : Fn} {xx : List D} (h : ∀ d ∈ xx, self [d, d] = some (.bl true, [d, d])) (hp : ∀ d ∈ xx, d.pure = true) (hl : xx.length ≤ 100000) : runDef 2 3 (b_l_equal self) [.tup xx, .tup xx] = some (.bl true, [.tup xx, .tup xx]) := by
  obtain ⟨u, hu⟩ := equal_l h hp xx.length 0 .un (Nat.zero_add _)
  rw [← dRange_0] at hu
  have k1 : kitB "tuple" "bool" = some false := by decide +kernel
  have k2 : kitB "tuple" "int" = some false := by decide +kernel
  have k3 : kitB "tuple" "str" = some false := by decide +kernel
  have k4 : kitB "tuple" "tuple" = some true := by decide +kernel
  refine call_run (e' := argsOnly [.arg (.tup xx), .arg (.tup xx), u]) rfl ?_ (by simp [outs, argsOnly])
  show (b_l_equal self).run [.arg (.tup xx), .arg (.tup xx), .un] = _
  have q : (iRng (ma1 (mF1 fLenG (mN 1)))).run [.arg (.tup xx), .arg (.tup xx), .un] = some (dRange 0 (xx.length : Int), [], [.arg (.tup xx), .arg (.tup xx), .un]) :=
    rng_n (r := .v (.int xx.length)) (by simp [mSeq, mIf, mTest, mTru, mGt, mLt, mLe, mGe, mEq, mNe, mIsN, mNotN, mIn, mNotIn, mOp, maCons, maNil, mIx, kIx, mN, mC, mSet, mAsgIx, mRet, mRetN, mDrop, mF1, kf, ko, gets, owns, R.get, R.own, R.ok, R.kid, D.kids, D.at, D.pure, D.pureL, dAt, Sl.d?, ixD, ixN, fCmp, fLt, fLe, fGt, fGe, fMod, fDiv, fMul, fAdd, fSub, fInt, fAbs, fSetIx, kCh, enPut, Sl.put, D.put, D.setKid, argsOnly, outs, mMod, mDiv, mMul, mAdd, mSub, mSkip, mBrk, mCnt, mAnd, mOr, mNot, mVal, mIfE, mCall, kCall, imps, wbs, mTup, fTup, mLst, fLst, fLenG, fLen, fLenD, mPow, fPow, fIsN, fNotN, D.isNon, D.isHole, fIn, fNotIn, D.truth, mUnp, gN, gT, gsCons, gsNil, mApp, mPop, mMeth, maConsP, tyP, tyD, fL, lApp, lPop, sizeLine_eq, fEq_int, fEq_str, fNe_int, fNe_str]) rfl (by omega)
  have fr := (for_run (g := gN 2) (b := b_l_equal_f1 self) q rfl).trans hu
  unfold b_l_equal
  have f1 : fIsi "bool" [.tup xx] = some (.bl false) := by simp [fIsi, D.ty, k1]
  have f2 : fIsi "int" [.tup xx] = some (.bl false) := by simp [fIsi, D.ty, k2]
  have f3 : fIsi "str" [.tup xx] = some (.bl false) := by simp [fIsi, D.ty, k3]
  have f4 : fIsi "tuple" [.tup xx] = some (.bl true) := by simp [fIsi, D.ty, k4]
  rw [seq_nx eq_s1, seq_nx (eq_s2 f1), seq_nx (eq_s2 f2), seq_nx (eq_s2 f3), seq_nx (eq_s3 f4), seq_nx fr]
  simp [mRet, mC, argsOnly, R.own]
theorem mr_succ (n : Nat) : mr_l_equal (n + 1) = runDef 2 3 (b_l_equal (mr_l_equal n)) := rfl
theorem equal_sim : ∀ (n : Nat) (d : D), Sim n d → mr_l_equal n [d, d] = some (.bl true, [d, d])
  | 0, d, h => h.elim
  | n + 1, .non, _ => by rw [mr_succ]; exact equal_non _
  | n + 1, .int i, _ => by rw [mr_succ]; exact equal_int _ i
  | n + 1, .str x, _ => by rw [mr_succ]; exact equal_str _ x
  | n + 1, .tup ds, h => by rw [mr_succ]; exact equal_tup (fun d hd => equal_sim n d (h.2 d hd)) (fun d hd => (h.2 d hd).pure) h.1
  | n + 1, .bl _, h => h.elim
  | n + 1, .lst _ _, h => h.elim
  | n + 1, .dct _ _ _, h => h.elim
  | n + 1, .set _ _, h => h.elim
  | n + 1, .hole, h => h.elim
theorem plain_base {self : Fn} {d : D} {k : Int} (h : d.isHole = false) (hd : d.isNon = true ∨ fIsi "int" [d] = some (.bl true) ∨ (fIsi "int" [d] = some (.bl false) ∧ fIsi "str" [d] = some (.bl true))) (hp : d.pure = true) : runDef 2 3 (b_l_plain self) [d, .int k] = some (.bl true, [d, .int k]) := by
  refine call_run (e' := argsOnly [.arg d, .arg (.int k), .un]) rfl ?_ (by simp [outs, argsOnly])
  show (b_l_plain self).run [.arg d, .arg (.int k), .un] = _
  have x1 : (mOr (mTest (mIsN (mN 0) (mC .non))) (mOr (mTru (mF1 (fIsi "int") (mN 0))) (mTru (mF1 (fIsi "str") (mN 0))))).run [.arg d, .arg (.int k), .un] = some (true, [.arg d, .arg (.int k), .un]) := by
    generalize fIsi "int" = g1 at hd ⊢
    generalize fIsi "str" = g2 at hd ⊢
    by_cases c : d.isNon = true
    · simp [mOr, mTest, mTru, mIsN, mOp, maCons, maNil, mN, mC, kf, gets, R.get, R.ok, dAt, Sl.d?, D.at, fIsN, h, c]
    · rcases hd with q | q | ⟨q1, q2⟩
      · exact absurd q c
      · simp [mOr, mTest, mTru, mIsN, mOp, maCons, maNil, mN, mC, mF1, kf, gets, R.get, R.ok, dAt, Sl.d?, D.at, fIsN, h, c, q, D.truth]
      · simp [mOr, mTest, mTru, mIsN, mOp, maCons, maNil, mN, mC, mF1, kf, gets, R.get, R.ok, dAt, Sl.d?, D.at, fIsN, h, c, q1, q2, D.truth]
  unfold b_l_plain
  refine seq_rt ?_
  unfold mIf
  dsimp only
  rw [x1, Option.bind_some, if_pos rfl]
  rfl
theorem plain_l {self : Fn} {x0 : Sl} {k : Int} : ∀ (xs : List D) (s : Sl), (∀ d ∈ xs, d.pure = true ∧ self [d, .int (k - 1)] = some (.bl true, [d, .int (k - 1)])) →
    ∃ u, forGo (gN 2) (b_l_plain_f1 self) xs [x0, .arg (.int k), s] = some (.nx, [x0, .arg (.int k), u])
  | [], s, _ => ⟨s, forGo_nil⟩
  | d :: xs, s, h => by
    obtain ⟨h1, h2⟩ := h d List.mem_cons_self
    obtain ⟨u, hu⟩ := plain_l (self := self) (x0 := x0) (k := k) xs (.val d) fun y hy => h y (List.mem_cons_of_mem _ hy)
    have hb : (b_l_plain_f1 self).run [x0, .arg (.int k), .val d] = some (.nx, [x0, .arg (.int k), .val d]) := by
      simp [b_l_plain_f1, mSeq, mIf, mTest, mTru, mGt, mLt, mLe, mGe, mEq, mNe, mIsN, mNotN, mIn, mNotIn, mOp, maCons, maNil, mIx, kIx, mN, mC, mSet, mAsgIx, mRet, mRetN, mDrop, mF1, kf, ko, gets, owns, R.get, R.own, R.ok, R.kid, D.kids, D.at, D.pure, D.pureL, dAt, Sl.d?, ixD, ixN, fCmp, fLt, fLe, fGt, fGe, fMod, fDiv, fMul, fAdd, fSub, fInt, fAbs, fSetIx, kCh, enPut, Sl.put, D.put, D.setKid, argsOnly, outs, mMod, mDiv, mMul, mAdd, mSub, mSkip, mBrk, mCnt, mAnd, mOr, mNot, mVal, mIfE, mCall, kCall, imps, wbs, mTup, fTup, mLst, fLst, fLenG, fLen, fLenD, mPow, fPow, fIsN, fNotN, D.isNon, D.isHole, fIn, fNotIn, D.truth, mUnp, gN, gT, gsCons, gsNil, mApp, mPop, mMeth, maConsP, tyP, tyD, fL, lApp, lPop, sizeLine_eq, fEq_int, fEq_str, fNe_int, fNe_str, h1, h2]
    exact ⟨u, (forGo_nx (by simp [gN, h1]) hb).trans hu⟩
theorem plain_tup {self : Fn} {xx : List D} {k : Int} (hk : k ≠ 0) (h : ∀ d ∈ xx, d.pure = true ∧ self [d, .int (k - 1)] = some (.bl true, [d, .int (k - 1)])) : runDef 2 3 (b_l_plain self) [.tup xx, .int k] = some (.bl true, [.tup xx, .int k]) := by
  obtain ⟨u, hu⟩ := plain_l (x0 := .arg (.tup xx)) xx .un h
  have k2 : kitB "tuple" "int" = some false := by decide +kernel
  have k3 : kitB "tuple" "str" = some false := by decide +kernel
  have k4 : kitB "tuple" "tuple" = some true := by decide +kernel
  have f2 : fIsi "int" [.tup xx] = some (.bl false) := by simp [fIsi, D.ty, k2]
  have f3 : fIsi "str" [.tup xx] = some (.bl false) := by simp [fIsi, D.ty, k3]
  have f4 : fIsi "tuple" [.tup xx] = some (.bl true) := by simp [fIsi, D.ty, k4]
  have pX : D.pureL xx = true := pureL_all fun d hd => (h d hd).1
  refine call_run (e' := argsOnly [.arg (.tup xx), .arg (.int k), u]) rfl ?_ (by simp [outs, argsOnly])
  show (b_l_plain self).run [.arg (.tup xx), .arg (.int k), .un] = _
  have x1 : ∀ b : MS, (mIf (mOr (mTest (mIsN (mN 0) (mC .non))) (mOr (mTru (mF1 (fIsi "int") (mN 0))) (mTru (mF1 (fIsi "str") (mN 0))))) b mSkip).run [.arg (.tup xx), .arg (.int k), .un] = some (.nx, [.arg (.tup xx), .arg (.int k), .un]) := fun b => by
    generalize fIsi "int" = g1 at f2 ⊢
    generalize fIsi "str" = g2 at f3 ⊢
    simp [mSeq, mIf, mTest, mTru, mGt, mLt, mLe, mGe, mEq, mNe, mIsN, mNotN, mIn, mNotIn, mOp, maCons, maNil, mIx, kIx, mN, mC, mSet, mAsgIx, mRet, mRetN, mDrop, mF1, kf, ko, gets, owns, R.get, R.own, R.ok, R.kid, D.kids, D.at, D.pure, D.pureL, dAt, Sl.d?, ixD, ixN, fCmp, fLt, fLe, fGt, fGe, fMod, fDiv, fMul, fAdd, fSub, fInt, fAbs, fSetIx, kCh, enPut, Sl.put, D.put, D.setKid, argsOnly, outs, mMod, mDiv, mMul, mAdd, mSub, mSkip, mBrk, mCnt, mAnd, mOr, mNot, mVal, mIfE, mCall, kCall, imps, wbs, mTup, fTup, mLst, fLst, fLenG, fLen, fLenD, mPow, fPow, fIsN, fNotN, D.isNon, D.isHole, fIn, fNotIn, D.truth, mUnp, gN, gT, gsCons, gsNil, mApp, mPop, mMeth, maConsP, tyP, tyD, fL, lApp, lPop, sizeLine_eq, fEq_int, fEq_str, fNe_int, fNe_str, f2, f3]
  have x2 : ∀ b : MS, (mIf (mOr (mNot (mTru (mF1 (fIsi "tuple") (mN 0)))) (mTest (mEq (mN 1) (mC (.int 0))))) b mSkip).run [.arg (.tup xx), .arg (.int k), .un] = some (.nx, [.arg (.tup xx), .arg (.int k), .un]) := fun b => by
    generalize fIsi "tuple" = g1 at f4 ⊢
    simp [mSeq, mIf, mTest, mTru, mGt, mLt, mLe, mGe, mEq, mNe, mIsN, mNotN, mIn, mNotIn, mOp, maCons, maNil, mIx, kIx, mN, mC, mSet, mAsgIx, mRet, mRetN, mDrop, mF1, kf, ko, gets, owns, R.get, R.own, R.ok, R.kid, D.kids, D.at, D.pure, D.pureL, dAt, Sl.d?, ixD, ixN, fCmp, fLt, fLe, fGt, fGe, fMod, fDiv, fMul, fAdd, fSub, fInt, fAbs, fSetIx, kCh, enPut, Sl.put, D.put, D.setKid, argsOnly, outs, mMod, mDiv, mMul, mAdd, mSub, mSkip, mBrk, mCnt, mAnd, mOr, mNot, mVal, mIfE, mCall, kCall, imps, wbs, mTup, fTup, mLst, fLst, fLenG, fLen, fLenD, mPow, fPow, fIsN, fNotN, D.isNon, D.isHole, fIn, fNotIn, D.truth, mUnp, gN, gT, gsCons, gsNil, mApp, mPop, mMeth, maConsP, tyP, tyD, fL, lApp, lPop, sizeLine_eq, fEq_int, fEq_str, fNe_int, fNe_str, f4, hk]
  have q : (iSeq (mN 0)).run [.arg (.tup xx), .arg (.int k), .un] = some (xx, [.p 0 []], [.arg (.tup xx), .arg (.int k), .un]) := by
    simp [iSeq, mSeq, mIf, mTest, mTru, mGt, mLt, mLe, mGe, mEq, mNe, mIsN, mNotN, mIn, mNotIn, mOp, maCons, maNil, mIx, kIx, mN, mC, mSet, mAsgIx, mRet, mRetN, mDrop, mF1, kf, ko, gets, owns, R.get, R.own, R.ok, R.kid, D.kids, D.at, D.pure, D.pureL, dAt, Sl.d?, ixD, ixN, fCmp, fLt, fLe, fGt, fGe, fMod, fDiv, fMul, fAdd, fSub, fInt, fAbs, fSetIx, kCh, enPut, Sl.put, D.put, D.setKid, argsOnly, outs, mMod, mDiv, mMul, mAdd, mSub, mSkip, mBrk, mCnt, mAnd, mOr, mNot, mVal, mIfE, mCall, kCall, imps, wbs, mTup, fTup, mLst, fLst, fLenG, fLen, fLenD, mPow, fPow, fIsN, fNotN, D.isNon, D.isHole, fIn, fNotIn, D.truth, mUnp, gN, gT, gsCons, gsNil, mApp, mPop, mMeth, maConsP, tyP, tyD, fL, lApp, lPop, sizeLine_eq, fEq_int, fEq_str, fNe_int, fNe_str, D.items]
  have ok : ([R.p 0 []].all fun r => r.okS ((gN 2).ms ++ (b_l_plain_f1 self).ms)) = true := by
    rfl
  unfold b_l_plain
  rw [seq_nx (x1 _), seq_nx (x2 _), seq_nx ((for_run q ok).trans hu)]
  simp [mRet, mC, argsOnly, R.own]
theorem mp_succ (n : Nat) : mr_l_plain (n + 1) = runDef 2 3 (b_l_plain (mr_l_plain n)) := rfl
theorem plain_sim : ∀ (n : Nat) (d : D) (k : Int), Sim n d → (n : Int) ≤ k → mr_l_plain n [d, .int k] = some (.bl true, [d, .int k])
  | 0, d, k, h, _ => h.elim
  | n + 1, .non, k, _, _ => by rw [mp_succ]; exact plain_base rfl (.inl rfl) rfl
  | n + 1, .int i, k, _, _ => by
    rw [mp_succ]
    have k1 : kitB "int" "int" = some true := by decide +kernel
    exact plain_base rfl (.inr (.inl (by simp [fIsi, D.ty, k1]))) rfl
  | n + 1, .str x, k, _, _ => by
    rw [mp_succ]
    have k1 : kitB "str" "int" = some false := by decide +kernel
    have k2 : kitB "str" "str" = some true := by decide +kernel
    exact plain_base rfl (.inr (.inr ⟨by simp [fIsi, D.ty, k1], by simp [fIsi, D.ty, k2]⟩)) rfl
  | n + 1, .tup ds, k, h, hk => by
    rw [mp_succ]
    exact plain_tup (by omega) fun d hd => ⟨(h.2 d hd).pure, plain_sim n d (k - 1) (h.2 d hd) (by omega)⟩
  | n + 1, .bl _, _, h, _ => h.elim
  | n + 1, .lst _ _, _, h, _ => h.elim
  | n + 1, .dct _ _ _, _, h, _ => h.elim
  | n + 1, .set _ _, _, h, _ => h.elim
  | n + 1, .hole, _, h, _ => h.elim
end K35
set_option Elab.async false
set_option linter.all false
set_option maxRecDepth 100000
set_option maxHeartbeats 4000000
namespace K35
open PySem PySem.Spec PyProof.Rows L2 G
def hsum : List Row → Nat
  | [] => 0
  | es :: rs => 1 + es.length + hsum rs
def hd (Rw : List Row) (i : Nat) : Nat := hsum (Rw.take i)
def headsF : Nat → List Row → List Nat
  | _, [] => []
  | m, es :: rs => m :: headsF (m + (1 + es.length)) rs
theorem headsF_at : ∀ {rs : List Row} {m i : Nat}, i < rs.length → (headsF m rs)[i]? = some (m + hd rs i)
  | [], m, i, h => absurd h (Nat.not_lt_zero _)
  | es :: rs, m, 0, _ => by simp [headsF, hd, hsum]
  | es :: rs, m, i + 1, h => by
    have := headsF_at (rs := rs) (m := m + (1 + es.length)) (i := i) (by simpa using h)
    rw [headsF, List.getElem?_cons_succ, this]
    simp [hd, hsum, Nat.add_assoc]
theorem headsF_len : ∀ (rs : List Row) (m : Nat), (headsF m rs).length = rs.length
  | [], _ => rfl
  | es :: rs, m => by rw [headsF, List.length_cons, headsF_len rs, List.length_cons]
def vl : D → D
  | .tup [_, v] => v
  | _ => .non
def stepR (Rw : List Row) (p : D × Nat) : D := if nam p.1 = "" then .tup [.str "inner", vl p.1, .non, nt (hd Rw p.2)] else .tup [.str "event", .str (nam p.1), vl p.1, nt (hd Rw p.2)]
def stR (s : Nat) (es : Row) : D := .tup [.str "state", nt s, .int es.length]
def blk (Rw : List Row) (s : Nat) (es : Row) : List D := stR s es :: es.map (stepR Rw)
def brF (Rw : List Row) : Nat → List Row → List D
  | _, [] => []
  | i, es :: rs => blk Rw i es ++ brF Rw (i + 1) rs
theorem brF_len (Rw : List Row) : ∀ (rs : List Row) (i : Nat), (brF Rw i rs).length = hsum rs
  | [], _ => rfl
  | es :: rs, i => by rw [brF, List.length_append, brF_len Rw rs, blk, List.length_cons, List.length_map, hsum]; omega
theorem brF_split (Rw : List Row) : ∀ (rs : List Row) (j i : Nat), i < rs.length → ∃ pre post, brF Rw j rs = pre ++ (blk Rw (j + i) (row rs i) ++ post) ∧ pre.length = hd rs i
  | [], _, i, h => absurd h (Nat.not_lt_zero _)
  | es :: rs, j, 0, _ => ⟨[], brF Rw (j + 1) rs, rfl, rfl⟩
  | es :: rs, j, i + 1, h => by
    obtain ⟨pre, post, e, l⟩ := brF_split Rw rs (j + 1) i (by simpa using h)
    refine ⟨blk Rw j es ++ pre, post, ?_, ?_⟩
    · rw [brF, e, List.append_assoc, show row (es :: rs) (i + 1) = row rs i by simp [row], show j + (i + 1) = j + 1 + i by omega]
    · rw [List.length_append, l, blk, List.length_cons, List.length_map]
      simp [hd, hsum]
      omega
def BR (Rw : List Row) : List D := brF Rw 0 Rw
theorem BR_at {Rw : List Row} {i : Nat} (h : i < Rw.length) : (BR Rw)[hd Rw i]? = some (stR i (row Rw i)) := by
  obtain ⟨pre, post, e, l⟩ := brF_split Rw Rw 0 i h
  unfold BR
  rw [e, ← l, List.getElem?_append_right (Nat.le_refl _), Nat.sub_self, Nat.zero_add]
  rfl
theorem BR_cut {Rw : List Row} {i : Nat} (h : i < Rw.length) : ((BR Rw).drop (hd Rw i + 1)).take (row Rw i).length = (row Rw i).map (stepR Rw) := by
  obtain ⟨pre, post, e, l⟩ := brF_split Rw Rw 0 i h
  unfold BR
  rw [e, ← l, ← List.drop_drop, List.drop_left, Nat.zero_add, blk, List.cons_append, List.drop_succ_cons, List.drop_zero]
  rw [List.take_append_of_le_length (by rw [List.length_map]; exact Nat.le_refl _), List.take_of_length_le (by rw [List.length_map]; exact Nat.le_refl _)]
theorem BR_le {Rw : List Row} {i : Nat} (h : i < Rw.length) : hd Rw i + 1 + (row Rw i).length ≤ (BR Rw).length := by
  obtain ⟨pre, post, e, l⟩ := brF_split Rw Rw 0 i h
  unfold BR
  rw [e, ← l, List.length_append, List.length_append, blk, List.length_cons, List.length_map]
  omega
theorem hsum_le : ∀ (rs : List Row), (∀ es ∈ rs, es.length ≤ 5000) → hsum rs ≤ 5001 * rs.length
  | [], _ => Nat.le_refl _
  | es :: rs, h => by
    have := hsum_le rs fun x hx => h x (List.mem_cons_of_mem _ hx)
    have := h es List.mem_cons_self
    rw [hsum, List.length_cons]
    omega
theorem BR_len {E : List D} {Rw : List Row} (hG : Gr E Rw) : (BR Rw).length ≤ 11000000 := by
  unfold BR
  rw [brF_len]
  have := hsum_le Rw fun es he => (hG.2.2.2 es he).1
  have := hG.2.2.1
  omega
theorem encR_pure {E : List D} {es : Row} {n : Nat} (hE : Evs E) (h : ∀ p ∈ es, Lab E p.1 ∧ p.2 < n) : D.pureL (es.map encE) = true := pureL_all fun e hx => by
  obtain ⟨p, hp, rfl⟩ := List.mem_map.mp hx
  simp [encE, D.pure, D.pureL, (lab_pure hE (h p hp).1).1]
theorem build_l1 {E : List D} {a0 s4 s5 s6 s7 : Sl} {n : Nat} (hE : Evs E) : ∀ (rs : List Row) (hs : List Nat) (m : Nat) (s3 : Sl), (∀ es ∈ rs, ∀ p ∈ es, Lab E p.1 ∧ p.2 < n) → hs.length + rs.length ≤ 16000000 →
    ∃ u3, forGo (gN 3) b_build_f1 (rs.map encR) [a0, .val (.lst true (hs.map nt)), .val (nt m), s3, s4, s5, s6, s7] = some (.nx, [a0, .val (.lst true ((hs ++ headsF m rs).map nt)), .val (nt (m + hsum rs)), u3, s4, s5, s6, s7])
  | [], hs, m, s3, _, _ => ⟨s3, by simp only [headsF, hsum, List.append_nil, List.map_nil, Nat.add_zero]; exact forGo_nil⟩
  | es :: rs, hs, m, s3, he, hl => by
    rw [List.length_cons] at hl
    have pe := encR_pure hE (he es List.mem_cons_self)
    obtain ⟨u3, hu⟩ := build_l1 (a0 := a0) (s4 := s4) (s5 := s5) (s6 := s6) (s7 := s7) (n := n) hE rs (hs ++ [m]) (m + (1 + es.length)) (.val (encR es)) (fun x hx => he x (List.mem_cons_of_mem _ hx)) (by rw [List.length_append, List.length_singleton]; omega)
    refine ⟨u3, ?_⟩
    have g3 : (gN 3).run (encR es) [a0, .val (.lst true (hs.map nt)), .val (nt m), s3, s4, s5, s6, s7] = some [a0, .val (.lst true (hs.map nt)), .val (nt m), .val (encR es), s4, s5, s6, s7] := by
      simp [gN, encR, D.pure, pe]
    have hz : (hs.map nt).length < 16777216 := by rw [List.length_map]; omega
    have hb : b_build_f1.run [a0, .val (.lst true (hs.map nt)), .val (nt m), .val (encR es), s4, s5, s6, s7] = some (.nx, [a0, .val (.lst true ((hs ++ [m]).map nt)), .val (nt (m + (1 + es.length))), .val (encR es), s4, s5, s6, s7]) := by
      rw [List.map_append, show [m].map nt = [nt m] from rfl]
      have hl2 : (es.map encE).length = es.length := List.length_map _
      unfold encR
      generalize hs.map nt = hh at hz ⊢
      generalize es.map encE = ee at hl2
      simp [b_build_f1, mAug, mSeq, mIf, mTest, mTru, mGt, mLt, mLe, mGe, mEq, mNe, mIsN, mNotN, mIn, mNotIn, mOp, maCons, maNil, mIx, kIx, mN, mC, mSet, mAsgIx, mRet, mRetN, mDrop, mF1, kf, ko, gets, owns, R.get, R.own, R.ok, R.kid, D.kids, D.at, D.pure, D.pureL, dAt, Sl.d?, ixD, ixN, fCmp, fLt, fLe, fGt, fGe, fMod, fDiv, fMul, fAdd, fSub, fInt, fAbs, fSetIx, kCh, enPut, Sl.put, D.put, D.setKid, argsOnly, outs, mMod, mDiv, mMul, mAdd, mSub, mSkip, mBrk, mCnt, mAnd, mOr, mNot, mVal, mIfE, mCall, kCall, imps, wbs, mTup, fTup, mLst, fLst, fLenG, fLen, fLenD, mPow, fPow, fIsN, fNotN, D.isNon, D.isHole, fIn, fNotIn, D.truth, mUnp, gN, gT, gsCons, gsNil, mApp, mPop, mMeth, maConsP, tyP, tyD, fL, lApp, lPop, sizeLine_eq, fEq_int, fEq_str, fNe_int, fNe_str, nt, hz, hl2]
    rw [List.map_cons, forGo_nx g3 hb, hu, headsF, hsum, show hs ++ m :: headsF (m + (1 + es.length)) rs = hs ++ [m] ++ headsF (m + (1 + es.length)) rs by simp, Nat.add_assoc]
theorem build_f2 {E : List D} {a0 s2 s3 s5 : Sl} {hs out : List D} {L : D} {t h : Nat} {Rw : List Row} (hE : Evs E) (hL : Lab E L) (hh : hs[t]? = some (nt (hd Rw t))) (hz : out.length < 16777216) :
    b_build_f2.run [a0, .val (.lst true hs), s2, s3, .val (.lst true out), s5, .val L, .val (.int t)] = some (.nx, [a0, .val (.lst true hs), s2, s3, .val (.lst true (out ++ [stepR Rw (L, t)])), s5, .val L, .val (.int t)]) := by
  obtain ⟨l1, r1⟩ := List.getElem?_eq_some_iff.mp hh
  obtain ⟨x, v, e, a, _⟩ := lab_pair hE hL
  have pv := a.pure.1
  have hv : vl L = v := by rw [e]; rfl
  have hx : nam L = x := by rw [e]; rfl
  unfold stepR
  dsimp only
  rw [hv, hx]
  generalize hd Rw t = ht at r1
  subst e
  by_cases c : x = ""
  · simp [b_build_f2, mSeq, mIf, mTest, mTru, mGt, mLt, mLe, mGe, mEq, mNe, mIsN, mNotN, mIn, mNotIn, mOp, maCons, maNil, mIx, kIx, mN, mC, mSet, mAsgIx, mRet, mRetN, mDrop, mF1, kf, ko, gets, owns, R.get, R.own, R.ok, R.kid, D.kids, D.at, D.pure, D.pureL, dAt, Sl.d?, ixD, ixN, fCmp, fLt, fLe, fGt, fGe, fMod, fDiv, fMul, fAdd, fSub, fInt, fAbs, fSetIx, kCh, enPut, Sl.put, D.put, D.setKid, argsOnly, outs, mMod, mDiv, mMul, mAdd, mSub, mSkip, mBrk, mCnt, mAnd, mOr, mNot, mVal, mIfE, mCall, kCall, imps, wbs, mTup, fTup, mLst, fLst, fLenG, fLen, fLenD, mPow, fPow, fIsN, fNotN, D.isNon, D.isHole, fIn, fNotIn, D.truth, mUnp, gN, gT, gsCons, gsNil, mApp, mPop, mMeth, maConsP, tyP, tyD, fL, lApp, lPop, sizeLine_eq, fEq_int, fEq_str, fNe_int, fNe_str, nt, c, l1, r1, pv, hz]
  · simp [b_build_f2, mSeq, mIf, mTest, mTru, mGt, mLt, mLe, mGe, mEq, mNe, mIsN, mNotN, mIn, mNotIn, mOp, maCons, maNil, mIx, kIx, mN, mC, mSet, mAsgIx, mRet, mRetN, mDrop, mF1, kf, ko, gets, owns, R.get, R.own, R.ok, R.kid, D.kids, D.at, D.pure, D.pureL, dAt, Sl.d?, ixD, ixN, fCmp, fLt, fLe, fGt, fGe, fMod, fDiv, fMul, fAdd, fSub, fInt, fAbs, fSetIx, kCh, enPut, Sl.put, D.put, D.setKid, argsOnly, outs, mMod, mDiv, mMul, mAdd, mSub, mSkip, mBrk, mCnt, mAnd, mOr, mNot, mVal, mIfE, mCall, kCall, imps, wbs, mTup, fTup, mLst, fLst, fLenG, fLen, fLenD, mPow, fPow, fIsN, fNotN, D.isNon, D.isHole, fIn, fNotIn, D.truth, mUnp, gN, gT, gsCons, gsNil, mApp, mPop, mMeth, maConsP, tyP, tyD, fL, lApp, lPop, sizeLine_eq, fEq_int, fEq_str, fNe_int, fNe_str, nt, c, l1, r1, pv, hz]
theorem build_l2 {E : List D} {a0 s2 s3 s5 : Sl} {hs : List D} {Rw : List Row} {n : Nat} (hE : Evs E) (hh : ∀ t, t < n → hs[t]? = some (nt (hd Rw t))) : ∀ (es : Row) (out : List D) (s6 s7 : Sl), (∀ p ∈ es, Lab E p.1 ∧ p.2 < n) → out.length + es.length ≤ 16000000 →
    ∃ u6 u7, forGo (gT (gsCons (gN 6) (gsCons (gN 7) gsNil))) b_build_f2 (es.map encE) [a0, .val (.lst true hs), s2, s3, .val (.lst true out), s5, s6, s7] = some (.nx, [a0, .val (.lst true hs), s2, s3, .val (.lst true (out ++ es.map (stepR Rw))), s5, u6, u7])
  | [], out, s6, s7, _, _ => ⟨s6, s7, by simp only [List.map_nil, List.append_nil]; exact forGo_nil⟩
  | (L, t) :: es, out, s6, s7, he, hl => by
    rw [List.length_cons] at hl
    obtain ⟨lL, lt⟩ : Lab E L ∧ t < n := he _ List.mem_cons_self
    have pl := (lab_pure hE lL).1
    obtain ⟨u6, u7, hu⟩ := build_l2 (a0 := a0) (s2 := s2) (s3 := s3) (s5 := s5) hE hh es (out ++ [stepR Rw (L, t)]) (.val L) (.val (.int t)) (fun p hp => he p (List.mem_cons_of_mem _ hp)) (by rw [List.length_append, List.length_singleton]; omega)
    have htar : (gT (gsCons (gN 6) (gsCons (gN 7) gsNil))).run (encE (L, t)) [a0, .val (.lst true hs), s2, s3, .val (.lst true out), s5, s6, s7] = some [a0, .val (.lst true hs), s2, s3, .val (.lst true out), s5, .val L, .val (.int t)] := by
      simp [encE, gT, gsCons, gsNil, gN, D.pure, D.pureL, pl]
    have hb := build_f2 (a0 := a0) (s2 := s2) (s3 := s3) (s5 := s5) (out := out) (h := 0) hE lL (hh t lt) (by omega)
    refine ⟨u6, u7, ?_⟩
    rw [List.map_cons, forGo_nx htar hb, hu, List.map_cons, List.append_assoc]
    rfl
theorem build_l3 {E : List D} {a0 s2 : Sl} {hs : List D} {Rw : List Row} {n : Nat} (hE : Evs E) (hh : ∀ t, t < n → hs[t]? = some (nt (hd Rw t))) : ∀ (rs : List Row) (i : Nat) (out : List D) (s3 s5 s6 s7 : Sl), (∀ es ∈ rs, es.length ≤ 5000 ∧ ∀ p ∈ es, Lab E p.1 ∧ p.2 < n) → out.length + 5001 * rs.length ≤ 16000000 →
    ∃ u3 u5 u6 u7, forGo (gT (gsCons (gN 5) (gsCons (gN 3) gsNil))) b_build_f3 (((rs.map encR).zipIdx i).map fun p => .tup [.int p.2, p.1]) [a0, .val (.lst true hs), s2, s3, .val (.lst true out), s5, s6, s7] = some (.nx, [a0, .val (.lst true hs), s2, u3, .val (.lst true (out ++ brF Rw i rs)), u5, u6, u7])
  | [], i, out, s3, s5, s6, s7, _, _ => ⟨s3, s5, s6, s7, by rw [show brF Rw i [] = [] from rfl, List.append_nil]; exact forGo_nil⟩
  | es :: rs, i, out, s3, s5, s6, s7, he, hl => by
    rw [List.length_cons] at hl
    obtain ⟨h1, h2⟩ := he es List.mem_cons_self
    have pe := encR_pure hE h2
    obtain ⟨v6, v7, hv⟩ := build_l2 (a0 := a0) (s2 := s2) (s3 := .val (encR es)) (s5 := .val (.int i)) hE hh es (out ++ [stR i es]) s6 s7 h2 (by rw [List.length_append, List.length_singleton]; omega)
    obtain ⟨u3, u5, u6, u7, hu⟩ := build_l3 (a0 := a0) (s2 := s2) hE hh rs (i + 1) (out ++ blk Rw i es) (.val (encR es)) (.val (.int i)) v6 v7 (fun x hx => he x (List.mem_cons_of_mem _ hx)) (by rw [List.length_append, blk, List.length_cons, List.length_map]; omega)
    refine ⟨u3, u5, u6, u7, ?_⟩
    have htar : (gT (gsCons (gN 5) (gsCons (gN 3) gsNil))).run (.tup [.int i, encR es]) [a0, .val (.lst true hs), s2, s3, .val (.lst true out), s5, s6, s7] = some [a0, .val (.lst true hs), s2, .val (encR es), .val (.lst true out), .val (.int i), s6, s7] := by
      simp [encR, gT, gsCons, gsNil, gN, D.pure, D.pureL, pe]
    have hz : out.length < 16777216 := by omega
    have x1 : (mDrop (mApp [4] (mN 4) (mTup (maCons (mC (.str "state")) (maCons (mN 5) (maCons (mF1 fLenG (mN 3)) maNil)))))).run [a0, .val (.lst true hs), s2, .val (encR es), .val (.lst true out), .val (.int i), s6, s7] = some (.nx, [a0, .val (.lst true hs), s2, .val (encR es), .val (.lst true (out ++ [stR i es])), .val (.int i), s6, s7]) := by
      have hl2 : (es.map encE).length = es.length := List.length_map _
      unfold encR stR
      generalize es.map encE = ee at hl2
      simp [mSeq, mIf, mTest, mTru, mGt, mLt, mLe, mGe, mEq, mNe, mIsN, mNotN, mIn, mNotIn, mOp, maCons, maNil, mIx, kIx, mN, mC, mSet, mAsgIx, mRet, mRetN, mDrop, mF1, kf, ko, gets, owns, R.get, R.own, R.ok, R.kid, D.kids, D.at, D.pure, D.pureL, dAt, Sl.d?, ixD, ixN, fCmp, fLt, fLe, fGt, fGe, fMod, fDiv, fMul, fAdd, fSub, fInt, fAbs, fSetIx, kCh, enPut, Sl.put, D.put, D.setKid, argsOnly, outs, mMod, mDiv, mMul, mAdd, mSub, mSkip, mBrk, mCnt, mAnd, mOr, mNot, mVal, mIfE, mCall, kCall, imps, wbs, mTup, fTup, mLst, fLst, fLenG, fLen, fLenD, mPow, fPow, fIsN, fNotN, D.isNon, D.isHole, fIn, fNotIn, D.truth, mUnp, gN, gT, gsCons, gsNil, mApp, mPop, mMeth, maConsP, tyP, tyD, fL, lApp, lPop, sizeLine_eq, fEq_int, fEq_str, fNe_int, fNe_str, nt, hz, hl2]
    have hq : (iSeq (mN 3)).run [a0, .val (.lst true hs), s2, .val (encR es), .val (.lst true (out ++ [stR i es])), .val (.int i), s6, s7] = some (es.map encE, [.p 3 []], [a0, .val (.lst true hs), s2, .val (encR es), .val (.lst true (out ++ [stR i es])), .val (.int i), s6, s7]) := by
      unfold encR
      generalize es.map encE = ee
      simp [iSeq, mSeq, mIf, mTest, mTru, mGt, mLt, mLe, mGe, mEq, mNe, mIsN, mNotN, mIn, mNotIn, mOp, maCons, maNil, mIx, kIx, mN, mC, mSet, mAsgIx, mRet, mRetN, mDrop, mF1, kf, ko, gets, owns, R.get, R.own, R.ok, R.kid, D.kids, D.at, D.pure, D.pureL, dAt, Sl.d?, ixD, ixN, fCmp, fLt, fLe, fGt, fGe, fMod, fDiv, fMul, fAdd, fSub, fInt, fAbs, fSetIx, kCh, enPut, Sl.put, D.put, D.setKid, argsOnly, outs, mMod, mDiv, mMul, mAdd, mSub, mSkip, mBrk, mCnt, mAnd, mOr, mNot, mVal, mIfE, mCall, kCall, imps, wbs, mTup, fTup, mLst, fLst, fLenG, fLen, fLenD, mPow, fPow, fIsN, fNotN, D.isNon, D.isHole, fIn, fNotIn, D.truth, mUnp, gN, gT, gsCons, gsNil, mApp, mPop, mMeth, maConsP, tyP, tyD, fL, lApp, lPop, sizeLine_eq, fEq_int, fEq_str, fNe_int, fNe_str, D.items]
    have hb : b_build_f3.run [a0, .val (.lst true hs), s2, .val (encR es), .val (.lst true out), .val (.int i), s6, s7] = some (.nx, [a0, .val (.lst true hs), s2, .val (encR es), .val (.lst true (out ++ blk Rw i es)), .val (.int i), v6, v7]) := by
      unfold b_build_f3
      rw [seq_nx x1]
      refine ((for_run hq rfl).trans hv).trans ?_
      rw [blk, List.append_assoc, List.singleton_append]
    rw [List.map_cons, List.zipIdx_cons, List.map_cons, brF, ← List.append_assoc]
    exact (forGo_nx htar hb).trans hu
theorem build_ok {E I O : List D} {Rw : List Row} (hG : Gr E Rw) (pI : D.pureL I = true) (pO : D.pureL O = true) : D.pureL (BR Rw) = true → m_build [encG I O Rw] = some (.tup (BR Rw), [encG I O Rw]) := by
  intro pB
  have hn := hG.2.2.1
  obtain ⟨u3, h1⟩ := build_l1 (a0 := .arg (encG I O Rw)) (s4 := .un) (s5 := .un) (s6 := .un) (s7 := .un) (n := Rw.length) hG.1 Rw [] 0 .un (fun es he => (hG.2.2.2 es he).2) (by rw [List.length_nil]; omega)
  rw [List.nil_append] at h1
  have hh : ∀ t, t < Rw.length → ((headsF 0 Rw).map nt)[t]? = some (nt (hd Rw t)) := fun t ht => by
    rw [List.getElem?_map, headsF_at ht, Nat.zero_add]
    rfl
  obtain ⟨v3, v5, v6, v7, h2⟩ := build_l3 (a0 := .arg (encG I O Rw)) (s2 := .val (nt (0 + hsum Rw))) (hs := (headsF 0 Rw).map nt) (Rw := Rw) hG.1 hh Rw 0 [] u3 .un .un .un hG.2.2.2 (by rw [List.length_nil]; omega)
  rw [List.nil_append] at h2
  refine call_run (e' := argsOnly [.arg (encG I O Rw), .val (.lst true ((headsF 0 Rw).map nt)), .val (nt (0 + hsum Rw)), v3, .val (.lst true (BR Rw)), v5, v6, v7]) rfl ?_ (by simp [outs, argsOnly])
  show b_build.run [.arg (encG I O Rw), .un, .un, .un, .un, .un, .un, .un] = _
  have q1 : (iSeq (mIx (mN 0) (mC (.int 3)))).run [.arg (encG I O Rw), .val (.lst true (([] : List Nat).map nt)), .val (nt 0), .un, .un, .un, .un, .un] = some (Rw.map encR, [.p 0 [3]], [.arg (encG I O Rw), .val (.lst true (([] : List Nat).map nt)), .val (nt 0), .un, .un, .un, .un, .un]) := by
    unfold encG
    generalize Rw.map encR = Rs
    simp [iSeq, mSeq, mIf, mTest, mTru, mGt, mLt, mLe, mGe, mEq, mNe, mIsN, mNotN, mIn, mNotIn, mOp, maCons, maNil, mIx, kIx, mN, mC, mSet, mAsgIx, mRet, mRetN, mDrop, mF1, kf, ko, gets, owns, R.get, R.own, R.ok, R.kid, D.kids, D.at, D.pure, D.pureL, dAt, Sl.d?, ixD, ixN, fCmp, fLt, fLe, fGt, fGe, fMod, fDiv, fMul, fAdd, fSub, fInt, fAbs, fSetIx, kCh, enPut, Sl.put, D.put, D.setKid, argsOnly, outs, mMod, mDiv, mMul, mAdd, mSub, mSkip, mBrk, mCnt, mAnd, mOr, mNot, mVal, mIfE, mCall, kCall, imps, wbs, mTup, fTup, mLst, fLst, fLenG, fLen, fLenD, mPow, fPow, fIsN, fNotN, D.isNon, D.isHole, fIn, fNotIn, D.truth, mUnp, gN, gT, gsCons, gsNil, mApp, mPop, mMeth, maConsP, tyP, tyD, fL, lApp, lPop, sizeLine_eq, fEq_int, fEq_str, fNe_int, fNe_str, D.items]
  have q2 : (iEnm (mIx (mN 0) (mC (.int 3)))).run [.arg (encG I O Rw), .val (.lst true ((headsF 0 Rw).map nt)), .val (nt (0 + hsum Rw)), u3, .val (.lst true []), .un, .un, .un] = some (((Rw.map encR).zipIdx 0).map fun p => .tup [.int p.2, p.1], [.p 0 [3]], [.arg (encG I O Rw), .val (.lst true ((headsF 0 Rw).map nt)), .val (nt (0 + hsum Rw)), u3, .val (.lst true []), .un, .un, .un]) := by
    unfold encG
    generalize Rw.map encR = Rs
    generalize (headsF 0 Rw).map nt = hh
    simp [iEnm, enumD, mSeq, mIf, mTest, mTru, mGt, mLt, mLe, mGe, mEq, mNe, mIsN, mNotN, mIn, mNotIn, mOp, maCons, maNil, mIx, kIx, mN, mC, mSet, mAsgIx, mRet, mRetN, mDrop, mF1, kf, ko, gets, owns, R.get, R.own, R.ok, R.kid, D.kids, D.at, D.pure, D.pureL, dAt, Sl.d?, ixD, ixN, fCmp, fLt, fLe, fGt, fGe, fMod, fDiv, fMul, fAdd, fSub, fInt, fAbs, fSetIx, kCh, enPut, Sl.put, D.put, D.setKid, argsOnly, outs, mMod, mDiv, mMul, mAdd, mSub, mSkip, mBrk, mCnt, mAnd, mOr, mNot, mVal, mIfE, mCall, kCall, imps, wbs, mTup, fTup, mLst, fLst, fLenG, fLen, fLenD, mPow, fPow, fIsN, fNotN, D.isNon, D.isHole, fIn, fNotIn, D.truth, mUnp, gN, gT, gsCons, gsNil, mApp, mPop, mMeth, maConsP, tyP, tyD, fL, lApp, lPop, sizeLine_eq, fEq_int, fEq_str, fNe_int, fNe_str, D.items, R.ok]
  unfold b_build
  rw [seq_nx (e1 := [.arg (encG I O Rw), .val (.lst true (([] : List Nat).map nt)), .un, .un, .un, .un, .un, .un]) (by
    generalize encG I O Rw = G
    simp [mSeq, mIf, mTest, mTru, mGt, mLt, mLe, mGe, mEq, mNe, mIsN, mNotN, mIn, mNotIn, mOp, maCons, maNil, mIx, kIx, mN, mC, mSet, mAsgIx, mRet, mRetN, mDrop, mF1, kf, ko, gets, owns, R.get, R.own, R.ok, R.kid, D.kids, D.at, D.pure, D.pureL, dAt, Sl.d?, ixD, ixN, fCmp, fLt, fLe, fGt, fGe, fMod, fDiv, fMul, fAdd, fSub, fInt, fAbs, fSetIx, kCh, enPut, Sl.put, D.put, D.setKid, argsOnly, outs, mMod, mDiv, mMul, mAdd, mSub, mSkip, mBrk, mCnt, mAnd, mOr, mNot, mVal, mIfE, mCall, kCall, imps, wbs, mTup, fTup, mLst, fLst, fLenG, fLen, fLenD, mPow, fPow, fIsN, fNotN, D.isNon, D.isHole, fIn, fNotIn, D.truth, mUnp, gN, gT, gsCons, gsNil, mApp, mPop, mMeth, maConsP, tyP, tyD, fL, lApp, lPop, sizeLine_eq, fEq_int, fEq_str, fNe_int, fNe_str]), seq_nx (e1 := [.arg (encG I O Rw), .val (.lst true (([] : List Nat).map nt)), .val (nt 0), .un, .un, .un, .un, .un]) (by
    generalize encG I O Rw = G
    simp [mSeq, mIf, mTest, mTru, mGt, mLt, mLe, mGe, mEq, mNe, mIsN, mNotN, mIn, mNotIn, mOp, maCons, maNil, mIx, kIx, mN, mC, mSet, mAsgIx, mRet, mRetN, mDrop, mF1, kf, ko, gets, owns, R.get, R.own, R.ok, R.kid, D.kids, D.at, D.pure, D.pureL, dAt, Sl.d?, ixD, ixN, fCmp, fLt, fLe, fGt, fGe, fMod, fDiv, fMul, fAdd, fSub, fInt, fAbs, fSetIx, kCh, enPut, Sl.put, D.put, D.setKid, argsOnly, outs, mMod, mDiv, mMul, mAdd, mSub, mSkip, mBrk, mCnt, mAnd, mOr, mNot, mVal, mIfE, mCall, kCall, imps, wbs, mTup, fTup, mLst, fLst, fLenG, fLen, fLenD, mPow, fPow, fIsN, fNotN, D.isNon, D.isHole, fIn, fNotIn, D.truth, mUnp, gN, gT, gsCons, gsNil, mApp, mPop, mMeth, maConsP, tyP, tyD, fL, lApp, lPop, sizeLine_eq, fEq_int, fEq_str, fNe_int, fNe_str, nt]), seq_nx ((for_run q1 rfl).trans h1),
    seq_nx (e1 := [.arg (encG I O Rw), .val (.lst true ((headsF 0 Rw).map nt)), .val (nt (0 + hsum Rw)), u3, .val (.lst true []), .un, .un, .un]) (by
    generalize encG I O Rw = G
    generalize (headsF 0 Rw).map nt = hh
    simp [mSeq, mIf, mTest, mTru, mGt, mLt, mLe, mGe, mEq, mNe, mIsN, mNotN, mIn, mNotIn, mOp, maCons, maNil, mIx, kIx, mN, mC, mSet, mAsgIx, mRet, mRetN, mDrop, mF1, kf, ko, gets, owns, R.get, R.own, R.ok, R.kid, D.kids, D.at, D.pure, D.pureL, dAt, Sl.d?, ixD, ixN, fCmp, fLt, fLe, fGt, fGe, fMod, fDiv, fMul, fAdd, fSub, fInt, fAbs, fSetIx, kCh, enPut, Sl.put, D.put, D.setKid, argsOnly, outs, mMod, mDiv, mMul, mAdd, mSub, mSkip, mBrk, mCnt, mAnd, mOr, mNot, mVal, mIfE, mCall, kCall, imps, wbs, mTup, fTup, mLst, fLst, fLenG, fLen, fLenD, mPow, fPow, fIsN, fNotN, D.isNon, D.isHole, fIn, fNotIn, D.truth, mUnp, gN, gT, gsCons, gsNil, mApp, mPop, mMeth, maConsP, tyP, tyD, fL, lApp, lPop, sizeLine_eq, fEq_int, fEq_str, fNe_int, fNe_str]), seq_nx ((for_run q2 rfl).trans h2)]
  have e : brF Rw 0 Rw = BR Rw := rfl
  rw [e]
  generalize encG I O Rw = G
  generalize (headsF 0 Rw).map nt = hh
  generalize BR Rw = br at pB ⊢
  simp [mSeq, mIf, mTest, mTru, mGt, mLt, mLe, mGe, mEq, mNe, mIsN, mNotN, mIn, mNotIn, mOp, maCons, maNil, mIx, kIx, mN, mC, mSet, mAsgIx, mRet, mRetN, mDrop, mF1, kf, ko, gets, owns, R.get, R.own, R.ok, R.kid, D.kids, D.at, D.pure, D.pureL, dAt, Sl.d?, ixD, ixN, fCmp, fLt, fLe, fGt, fGe, fMod, fDiv, fMul, fAdd, fSub, fInt, fAbs, fSetIx, kCh, enPut, Sl.put, D.put, D.setKid, argsOnly, outs, mMod, mDiv, mMul, mAdd, mSub, mSkip, mBrk, mCnt, mAnd, mOr, mNot, mVal, mIfE, mCall, kCall, imps, wbs, mTup, fTup, mLst, fLst, fLenG, fLen, fLenD, mPow, fPow, fIsN, fNotN, D.isNon, D.isHole, fIn, fNotIn, D.truth, mUnp, gN, gT, gsCons, gsNil, mApp, mPop, mMeth, maConsP, tyP, tyD, fL, lApp, lPop, sizeLine_eq, fEq_int, fEq_str, fNe_int, fNe_str, fTuple, D.items, pB]
end K35
set_option Elab.async false
set_option linter.all false
set_option maxRecDepth 100000
set_option maxHeartbeats 4000000
namespace K35
open PySem PySem.Spec PyProof.Rows L2 G
def memL (L : D) (evs : List D) : Bool := evs.any fun z => PyData.eqv z.toPy L.toPy
theorem ev_lay {E : List D} (hE : Evs E) {z : D} (h : z ∈ E) : PyData.canLay0 z.toPy = true ∧ z.toPy.depth ≤ 1 ∧ z.plain = true := by
  have hp := (evs_pure hE h).2
  obtain ⟨x, v, rfl, a, ox⟩ := lab_pair hE (.inr (.inr h))
  refine ⟨?_, ?_, hp⟩
  · rcases a with ⟨rfl, _⟩ | ⟨i, _, rfl, _⟩ | ⟨y, _, rfl, _, oy, _⟩ <;> simp [D.toPy, D.toPyL, PyData.canLay0, PyData.canLayAll0, *]
  · rcases a with ⟨rfl, _⟩ | ⟨i, _, rfl, _⟩ | ⟨y, _, rfl, _, oy, _⟩ <;> simp [D.toPy, D.toPyL, PyData.depth, PyData.depthAll]
theorem evs_lay {E : List D} (hE : Evs E) : ∀ {zs : List D}, (∀ z ∈ zs, z ∈ E) → PyData.canLayAll0 (D.toPyL zs) = true ∧ PyData.depthAll (D.toPyL zs) ≤ 1
  | [], _ => by simp [D.toPyL, PyData.canLayAll0, PyData.depthAll]
  | z :: zs, h => by
    obtain ⟨a, b, _⟩ := ev_lay hE (h z List.mem_cons_self)
    obtain ⟨c, d⟩ := evs_lay hE fun x hx => h x (List.mem_cons_of_mem _ hx)
    rw [D.toPyL, PyData.canLayAll0, PyData.depthAll, a, c]
    exact ⟨rfl, by omega⟩
theorem evs_shaped {E : List D} (hE : Evs E) {zs : List D} (h : ∀ z ∈ zs, z ∈ E) : SeqAt.shaped (.list (D.toPyL zs)) = true := by
  obtain ⟨a, b⟩ := evs_lay hE h
  unfold SeqAt.shaped
  rw [PyData.canLay0, PyData.depth, a, Bool.true_and, decide_eq_true_eq]
  omega
theorem any_map {zs : List D} {q : PyData → Bool} : (D.toPyL zs).any q = zs.any fun z => q z.toPy := by
  rw [toPyL_map, List.any_map]
  rfl
theorem inD_ev {E zs : List D} {L : D} (hE : Evs E) (hL : Lab E L) (h : ∀ z ∈ zs, z ∈ E) : inD L (.tup zs) = some (memL L zs) := by
  obtain ⟨s1, p1, _⟩ := lab_shaped hE hL
  have s2 := evs_shaped hE h
  have p2 : D.plainL zs = true := plainL_all fun z hz => (evs_pure hE (h z hz)).2
  obtain ⟨x, v, e, _, _⟩ := lab_pair hE hL
  have e1 : inD L (.tup zs) = if (L.plain && D.plainL zs && SeqAt.shaped L.toPy && SeqAt.shaped (.list (D.toPyL zs))) = true then some ((D.toPyL zs).any fun z => PyData.eqv z L.toPy) else none := by
    subst e
    rfl
  rw [e1, p1, p2, s1, s2]
  simp only [Bool.and_self, if_true]
  rw [any_map]
  rfl
def able (ofs : List (List D)) (k : Nat) (p : D × Nat) : Bool := decide (nam p.1 = "") || memL p.1 (ofs.getD k [])
def pick1 (fr : Row) (p : Int) : D × Nat := fr.getD (p % (fr.length : Int)).toNat (.non, 0)
def crs (Rw : List Row) (ofs : List (List D)) : List Int → Nat → Nat → Row
  | [], _, _ => []
  | p :: ps, s, k => if k = ofs.length ∨ (row Rw s).filter (able ofs k) = [] then [] else
    pick1 ((row Rw s).filter (able ofs k)) p :: crs Rw ofs ps (pick1 ((row Rw s).filter (able ofs k)) p).2 (if nam (pick1 ((row Rw s).filter (able ofs k)) p).1 = "" then k else k + 1)
def Ofs (E : List D) (ofs : List (List D)) : Prop := ofs.length ≤ 40 ∧ ∀ evs ∈ ofs, ∀ z ∈ evs, z ∈ E
def ofD (ofs : List (List D)) : List D := ofs.map D.tup
def OD (ofs : List (List D)) (d : D) : Prop := d = .lst true (ofD ofs) ∨ d = .tup (ofD ofs)
theorem ofD_pure {E : List D} {ofs : List (List D)} (hE : Evs E) (h : Ofs E ofs) : D.pureL (ofD ofs) = true := pureL_all fun d hd => by
  obtain ⟨evs, he, rfl⟩ := List.mem_map.mp hd
  show D.pureL evs = true
  exact pureL_all fun z hz => (evs_pure hE (h.2 evs he z hz)).1
theorem ofD_at {ofs : List (List D)} {k : Nat} (h : k < ofs.length) : (ofD ofs)[k]? = some (.tup (ofs.getD k [])) := by
  unfold ofD
  rw [List.getElem?_map, List.getD_eq_getElem?_getD, List.getElem?_eq_getElem h]
  rfl
theorem pick1_mem {fr : Row} {p : Int} (h : fr ≠ []) : ∃ j : Nat, j < fr.length ∧ p % (fr.length : Int) = j ∧ fr[j]? = some (pick1 fr p) ∧ pick1 fr p ∈ fr := by
  have hl : 0 < fr.length := List.length_pos_iff.mpr h
  have h0 : 0 ≤ p % (fr.length : Int) := Int.emod_nonneg _ (by omega)
  have h1 : p % (fr.length : Int) < fr.length := Int.emod_lt_of_pos _ (by omega)
  have hj : (p % (fr.length : Int)).toNat < fr.length := by omega
  have e : fr[(p % (fr.length : Int)).toNat]? = some (pick1 fr p) := by
    unfold pick1
    rw [List.getD_eq_getElem?_getD, List.getElem?_eq_getElem hj]
    rfl
  exact ⟨(p % (fr.length : Int)).toNat, hj, by omega, e, List.mem_of_getElem? e⟩
def PR (s : Sl) : Prop := s = .un ∨ ∃ d, s = .val d ∧ d.pure = true
def tsC : MT := (mOr (mTest (mEq (mIx (mIx (mN 8) (mC (.int 0))) (mC (.int 0))) (mC (.str "")))) (mTest (mIn (mIx (mN 8) (mC (.int 0))) (mIx (mN 1) (mN 5)))))
def ableD (ofs : List (List D)) (k : Nat) : D → Bool
  | .tup [L, .int t] => able ofs k (L, t.toNat)
  | _ => false
theorem ableD_enc (ofs : List (List D)) (k : Nat) (p : D × Nat) : ableD ofs k (encE p) = able ofs k p := by simp [ableD, encE]
theorem course_tst {E : List D} {a0 a2 s3 s4 s6 s7 : Sl} {od : D} {ofs : List (List D)} {k : Nat} {p : D × Nat} (hE : Evs E) (ho : Ofs E ofs) (hod : OD ofs od) (hk : k < ofs.length) (hL : Lab E p.1) :
    tsC.run [a0, .arg od, a2, s3, s4, .val (nt k), s6, s7, .val (encE p)] = some (able ofs k p, [a0, .arg od, a2, s3, s4, .val (nt k), s6, s7, .val (encE p)]) := by
  obtain ⟨L, t⟩ := p
  have hL : Lab E L := hL
  have at0 := ofD_at hk
  have mem : ∀ z ∈ ofs.getD k [], z ∈ E := fun z hz => by
    rw [List.getD_eq_getElem?_getD, List.getElem?_eq_getElem hk] at hz
    exact ho.2 _ (List.getElem_mem hk) z hz
  have hin := inD_ev hE hL mem
  have ha : able ofs k (L, t) = (decide (nam L = "") || memL L (ofs.getD k [])) := rfl
  rw [ha]
  generalize memL L (ofs.getD k []) = b at hin ⊢
  generalize ofs.getD k [] = evs at hin at0
  unfold OD at hod
  generalize ofD ofs = oo at hod at0
  obtain ⟨l1, r1⟩ := List.getElem?_eq_some_iff.mp at0
  obtain ⟨x, v, e, a, _⟩ := lab_pair hE hL
  subst e
  have hx : nam (.tup [.str x, v]) = x := rfl
  rw [hx]
  rcases hod with rfl | rfl <;> by_cases c : x = "" <;> simp [tsC, mSeq, mIf, mTest, mTru, mGt, mLt, mLe, mGe, mEq, mNe, mIsN, mNotN, mIn, mNotIn, mOp, maCons, maNil, mIx, kIx, mN, mC, mSet, mAsgIx, mRet, mRetN, mDrop, mF1, kf, ko, gets, owns, R.get, R.own, R.ok, R.kid, D.kids, D.at, D.pure, D.pureL, dAt, Sl.d?, ixD, ixN, fCmp, fLt, fLe, fGt, fGe, fMod, fDiv, fMul, fAdd, fSub, fInt, fAbs, fSetIx, kCh, enPut, Sl.put, D.put, D.setKid, argsOnly, outs, mMod, mDiv, mMul, mAdd, mSub, mSkip, mBrk, mCnt, mAnd, mOr, mNot, mVal, mIfE, mCall, kCall, imps, wbs, mTup, fTup, mLst, fLst, fLenG, fLen, fLenD, mPow, fPow, fIsN, fNotN, D.isNon, D.isHole, fIn, fNotIn, D.truth, mUnp, gN, gT, gsCons, gsNil, mApp, mPop, mMeth, maConsP, tyP, tyD, fL, lApp, lPop, sizeLine_eq, fEq_int, fEq_str, fNe_int, fNe_str, encE, nt, c, l1, r1, hin]
theorem course_f1 {E : List D} {Rw : List Row} {a2 s7 s8 : Sl} {od : D} {ofs : List (List D)} {told : Row} {s k : Nat} {p : Int} (hG : Gr E Rw) (ho : Ofs E ofs) (hod : OD ofs od) (hs : s < Rw.length) (hk : k ≤ ofs.length) (ht : told.length ≤ 1000) (h8 : PR s8) :
    ∃ (u7 u8 : Sl), PR u8 ∧ ((k = ofs.length ∨ (row Rw s).filter (able ofs k) = []) ∧ b_l_course_f1.run [.arg (.tup (Rw.map encR)), .arg od, a2, .val (.lst true (told.map encE)), .val (nt s), .val (nt k), .val (.int p), s7, s8] = some (.bk, [.arg (.tup (Rw.map encR)), .arg od, a2, .val (.lst true (told.map encE)), .val (nt s), .val (nt k), .val (.int p), u7, u8]) ∨
      (¬ (k = ofs.length ∨ (row Rw s).filter (able ofs k) = [])) ∧ b_l_course_f1.run [.arg (.tup (Rw.map encR)), .arg od, a2, .val (.lst true (told.map encE)), .val (nt s), .val (nt k), .val (.int p), s7, s8] =
        some (.nx, [.arg (.tup (Rw.map encR)), .arg od, a2, .val (.lst true ((told ++ [pick1 ((row Rw s).filter (able ofs k)) p]).map encE)), .val (nt (pick1 ((row Rw s).filter (able ofs k)) p).2), .val (nt (if nam (pick1 ((row Rw s).filter (able ofs k)) p).1 = "" then k else k + 1)), .val (.int p), u7, u8])) := by
  have hol : (ofD ofs).length = ofs.length := List.length_map _
  by_cases c : k = ofs.length
  · refine ⟨s7, s8, h8, .inl ⟨.inl c, ?_⟩⟩
    rw [c, ← hol]
    unfold OD at hod
    generalize ofD ofs = oo at hod
    generalize Rw.map encR = Rs
    generalize told.map encE = tt
    rcases hod with rfl | rfl <;> simp [b_l_course_f1, mSeq, mIf, mTest, mTru, mGt, mLt, mLe, mGe, mEq, mNe, mIsN, mNotN, mIn, mNotIn, mOp, maCons, maNil, mIx, kIx, mN, mC, mSet, mAsgIx, mRet, mRetN, mDrop, mF1, kf, ko, gets, owns, R.get, R.own, R.ok, R.kid, D.kids, D.at, D.pure, D.pureL, dAt, Sl.d?, ixD, ixN, fCmp, fLt, fLe, fGt, fGe, fMod, fDiv, fMul, fAdd, fSub, fInt, fAbs, fSetIx, kCh, enPut, Sl.put, D.put, D.setKid, argsOnly, outs, mMod, mDiv, mMul, mAdd, mSub, mSkip, mBrk, mCnt, mAnd, mOr, mNot, mVal, mIfE, mCall, kCall, imps, wbs, mTup, fTup, mLst, fLst, fLenG, fLen, fLenD, mPow, fPow, fIsN, fNotN, D.isNon, D.isHole, fIn, fNotIn, D.truth, mUnp, gN, gT, gsCons, gsNil, mApp, mPop, mMeth, maConsP, tyP, tyD, fL, lApp, lPop, sizeLine_eq, fEq_int, fEq_str, fNe_int, fNe_str, nt]
  have hk' : k < ofs.length := by omega
  have hr := hG.2.2.2 _ (row_mem hs)
  have ra := row_at hs
  have x1 : ∀ s7 : Sl, (mIf (mTest (mEq (mN 5) (mF1 fLenG (mN 1)))) mBrk mSkip).run [.arg (.tup (Rw.map encR)), .arg od, a2, .val (.lst true (told.map encE)), .val (nt s), .val (nt k), .val (.int p), s7, s8] = some (.nx, [.arg (.tup (Rw.map encR)), .arg od, a2, .val (.lst true (told.map encE)), .val (nt s), .val (nt k), .val (.int p), s7, s8]) := fun s7 => by
    have hc : ¬ ((k : Int) = ((ofD ofs).length : Nat)) := by rw [hol]; omega
    unfold OD at hod
    generalize ofD ofs = oo at hod hc
    generalize Rw.map encR = Rs
    generalize told.map encE = tt
    rcases hod with rfl | rfl <;> simp [mSeq, mIf, mTest, mTru, mGt, mLt, mLe, mGe, mEq, mNe, mIsN, mNotN, mIn, mNotIn, mOp, maCons, maNil, mIx, kIx, mN, mC, mSet, mAsgIx, mRet, mRetN, mDrop, mF1, kf, ko, gets, owns, R.get, R.own, R.ok, R.kid, D.kids, D.at, D.pure, D.pureL, dAt, Sl.d?, ixD, ixN, fCmp, fLt, fLe, fGt, fGe, fMod, fDiv, fMul, fAdd, fSub, fInt, fAbs, fSetIx, kCh, enPut, Sl.put, D.put, D.setKid, argsOnly, outs, mMod, mDiv, mMul, mAdd, mSub, mSkip, mBrk, mCnt, mAnd, mOr, mNot, mVal, mIfE, mCall, kCall, imps, wbs, mTup, fTup, mLst, fLst, fLenG, fLen, fLenD, mPow, fPow, fIsN, fNotN, D.isNon, D.isHole, fIn, fNotIn, D.truth, mUnp, gN, gT, gsCons, gsNil, mApp, mPop, mMeth, maConsP, tyP, tyD, fL, lApp, lPop, sizeLine_eq, fEq_int, fEq_str, fNe_int, fNe_str, nt, hc]
  have q : (iSeq (mIx (mN 0) (mN 4))).run [.arg (.tup (Rw.map encR)), .arg od, a2, .val (.lst true (told.map encE)), .val (nt s), .val (nt k), .val (.int p), s7, s8] = some ((row Rw s).map encE, [.p 0 [s]], [.arg (.tup (Rw.map encR)), .arg od, a2, .val (.lst true (told.map encE)), .val (nt s), .val (nt k), .val (.int p), s7, s8]) := by
    generalize Rw.map encR = Rs at ra
    generalize told.map encE = tt
    obtain ⟨l1, r1⟩ := List.getElem?_eq_some_iff.mp ra
    simp [iSeq, mSeq, mIf, mTest, mTru, mGt, mLt, mLe, mGe, mEq, mNe, mIsN, mNotN, mIn, mNotIn, mOp, maCons, maNil, mIx, kIx, mN, mC, mSet, mAsgIx, mRet, mRetN, mDrop, mF1, kf, ko, gets, owns, R.get, R.own, R.ok, R.kid, D.kids, D.at, D.pure, D.pureL, dAt, Sl.d?, ixD, ixN, fCmp, fLt, fLe, fGt, fGe, fMod, fDiv, fMul, fAdd, fSub, fInt, fAbs, fSetIx, kCh, enPut, Sl.put, D.put, D.setKid, argsOnly, outs, mMod, mDiv, mMul, mAdd, mSub, mSkip, mBrk, mCnt, mAnd, mOr, mNot, mVal, mIfE, mCall, kCall, imps, wbs, mTup, fTup, mLst, fLst, fLenG, fLen, fLenD, mPow, fPow, fIsN, fNotN, D.isNon, D.isHole, fIn, fNotIn, D.truth, mUnp, gN, gT, gsCons, gsNil, mApp, mPop, mMeth, maConsP, tyP, tyD, fL, lApp, lPop, sizeLine_eq, fEq_int, fEq_str, fNe_int, fNe_str, nt, l1, r1, encR, D.items]
  have z := lc_filt (g := gN 8) (tt := tsC) (te := mN 8) (vs := [8]) (env := [.arg (.tup (Rw.map encR)), .arg od, a2, .val (.lst true (told.map encE)), .val (nt s), .val (nt k), .val (.int p), s7, .un]) (p := ableD ofs k) (f := id) ((row Rw s).map encE) [] (fun d hd => by
    obtain ⟨e, he, rfl⟩ := List.mem_map.mp hd
    have pl := (lab_pure hG.1 (hr.2 e he).1).1
    have pe : (encE e).pure = true := by simp [encE, D.pure, D.pureL, pl]
    refine ⟨[.arg (.tup (Rw.map encR)), .arg od, a2, .val (.lst true (told.map encE)), .val (nt s), .val (nt k), .val (.int p), s7, .val (encE e)], by simp [gN, pe], [.arg (.tup (Rw.map encR)), .arg od, a2, .val (.lst true (told.map encE)), .val (nt s), .val (nt k), .val (.int p), s7, .val (encE e)], by rw [ableD_enc]; exact course_tst hG.1 ho hod hk' (hr.2 e he).1, fun _ => ⟨.p 8 [], [.arg (.tup (Rw.map encR)), .arg od, a2, .val (.lst true (told.map encE)), .val (nt s), .val (nt k), .val (.int p), s7, .val (encE e)], by simp [mN], by
      generalize encE e = d at pe
      simp [mSeq, mIf, mTest, mTru, mGt, mLt, mLe, mGe, mEq, mNe, mIsN, mNotN, mIn, mNotIn, mOp, maCons, maNil, mIx, kIx, mN, mC, mSet, mAsgIx, mRet, mRetN, mDrop, mF1, kf, ko, gets, owns, R.get, R.own, R.ok, R.kid, D.kids, D.at, D.pure, D.pureL, dAt, Sl.d?, ixD, ixN, fCmp, fLt, fLe, fGt, fGe, fMod, fDiv, fMul, fAdd, fSub, fInt, fAbs, fSetIx, kCh, enPut, Sl.put, D.put, D.setKid, argsOnly, outs, mMod, mDiv, mMul, mAdd, mSub, mSkip, mBrk, mCnt, mAnd, mOr, mNot, mVal, mIfE, mCall, kCall, imps, wbs, mTup, fTup, mLst, fLst, fLenG, fLen, fLenD, mPow, fPow, fIsN, fNotN, D.isNon, D.isHole, fIn, fNotIn, D.truth, mUnp, gN, gT, gsCons, gsNil, mApp, mPop, mMeth, maConsP, tyP, tyD, fL, lApp, lPop, sizeLine_eq, fEq_int, fEq_str, fNe_int, fNe_str, pe], by simp [wipeE]⟩, fun _ => by simp [wipeE]⟩) (by rw [List.length_map, List.length_nil]; omega)
  have ok : lcOk (gN 8) tsC (mN 8) [8] [.p 0 [s]] [.arg (.tup (Rw.map encR)), .arg od, a2, .val (.lst true (told.map encE)), .val (nt s), .val (nt k), .val (.int p), s7, s8] = true := by
    have p8 : pureSl [.arg (.tup (Rw.map encR)), .arg od, a2, .val (.lst true (told.map encE)), .val (nt s), .val (nt k), .val (.int p), s7, s8] 8 = true := by
      rcases h8 with rfl | ⟨d, rfl, hd⟩
      · rfl
      · exact hd
    unfold lcOk
    simp only [List.all_cons, List.all_nil, p8]
    rfl
  have zz := lc_run1 q ok z
  have ef : (((row Rw s).map encE).filter (ableD ofs k)).map id = ((row Rw s).filter (able ofs k)).map encE := by
    rw [List.map_id, List.filter_map]
    exact congrArg (List.map encE) (List.filter_congr fun e _ => ableD_enc ofs k e)
  rw [List.nil_append, ef] at zz
  change _ = some (R.v (.lst true (((row Rw s).filter (able ofs k)).map encE)), [Sl.arg (.tup (Rw.map encR)), .arg od, a2, .val (.lst true (told.map encE)), .val (nt s), .val (nt k), .val (.int p), s7, s8]) at zz
  have frp : ∀ e ∈ (row Rw s).filter (able ofs k), Lab E e.1 ∧ e.2 < Rw.length := fun e he => hr.2 e (List.mem_filter.mp he).1
  generalize hfr : (row Rw s).filter (able ofs k) = fr at zz frp
  have x2 : (mSet 7 (mLc (iSeq (mIx (mN 0) (mN 4))) (gN 8) tsC (mN 8) [8])).run [.arg (.tup (Rw.map encR)), .arg od, a2, .val (.lst true (told.map encE)), .val (nt s), .val (nt k), .val (.int p), s7, s8] = some (.nx, [.arg (.tup (Rw.map encR)), .arg od, a2, .val (.lst true (told.map encE)), .val (nt s), .val (nt k), .val (.int p), .val (.lst true (fr.map encE)), s8]) := by
    show ((mLc (iSeq (mIx (mN 0) (mN 4))) (gN 8) tsC (mN 8) [8]).run _).bind _ = _
    rw [zz]
    rfl
  by_cases cf : fr = []
  · refine ⟨.val (.lst true []), s8, h8, .inl ⟨.inr cf, ?_⟩⟩
    subst cf
    unfold b_l_course_f1
    rw [seq_nx (x1 s7)]
    change (mSeq (mSet 7 (mLc (iSeq (mIx (mN 0) (mN 4))) (gN 8) tsC (mN 8) [8])) _).run _ = _
    rw [seq_nx x2]
    generalize Rw.map encR = Rs
    generalize told.map encE = tt
    simp [mSeq, mIf, mTest, mTru, mGt, mLt, mLe, mGe, mEq, mNe, mIsN, mNotN, mIn, mNotIn, mOp, maCons, maNil, mIx, kIx, mN, mC, mSet, mAsgIx, mRet, mRetN, mDrop, mF1, kf, ko, gets, owns, R.get, R.own, R.ok, R.kid, D.kids, D.at, D.pure, D.pureL, dAt, Sl.d?, ixD, ixN, fCmp, fLt, fLe, fGt, fGe, fMod, fDiv, fMul, fAdd, fSub, fInt, fAbs, fSetIx, kCh, enPut, Sl.put, D.put, D.setKid, argsOnly, outs, mMod, mDiv, mMul, mAdd, mSub, mSkip, mBrk, mCnt, mAnd, mOr, mNot, mVal, mIfE, mCall, kCall, imps, wbs, mTup, fTup, mLst, fLst, fLenG, fLen, fLenD, mPow, fPow, fIsN, fNotN, D.isNon, D.isHole, fIn, fNotIn, D.truth, mUnp, gN, gT, gsCons, gsNil, mApp, mPop, mMeth, maConsP, tyP, tyD, fL, lApp, lPop, sizeLine_eq, fEq_int, fEq_str, fNe_int, fNe_str]
  · obtain ⟨j, hj, ej, at1, mem⟩ := pick1_mem (p := p) cf
    refine ⟨.val (.lst true (fr.map encE)), .val (encE (pick1 fr p)), ?_, .inr ⟨fun h => h.elim c cf, ?_⟩⟩
    · obtain ⟨lL, _⟩ := frp _ mem
      exact .inr ⟨_, rfl, by simp [encE, D.pure, D.pureL, (lab_pure hG.1 lL).1]⟩
    obtain ⟨lL, lt⟩ := frp _ mem
    generalize pick1 fr p = st at at1 lL lt
    obtain ⟨L, t⟩ := st
    have lL : Lab E L := lL
    have pl := (lab_pure hG.1 lL).1
    have pe : (encE (L, t)).pure = true := by simp [encE, D.pure, D.pureL, pl]
    have hfl : (fr.map encE).length = fr.length := List.length_map _
    have at2 : (fr.map encE)[j]? = some (encE (L, t)) := by rw [List.getElem?_map, at1]; rfl
    have fp0 : 0 < fr.length := List.length_pos_iff.mpr cf
    obtain ⟨x, v, e, a, _⟩ := lab_pair hG.1 lL
    have hx : nam L = x := by rw [e]; rfl
    have tlen : (told.map encE).length < 16777216 := by rw [List.length_map]; omega
    have em : (told ++ [(L, t)]).map encE = told.map encE ++ [.tup [L, .int t]] := by rw [List.map_append]; rfl
    rw [em, hx]
    unfold b_l_course_f1
    rw [seq_nx (x1 s7)]
    change (mSeq (mSet 7 (mLc (iSeq (mIx (mN 0) (mN 4))) (gN 8) tsC (mN 8) [8])) _).run _ = _
    rw [seq_nx x2]
    rw [← hfl] at ej fp0 hj
    generalize fr.map encE = fe at at2 ej fp0 hj
    generalize Rw.map encR = Rs
    generalize told.map encE = tt at tlen
    obtain ⟨l1, r1⟩ := List.getElem?_eq_some_iff.mp at2
    have hne : ¬ ((fe.length : Int) = 0) := by omega
    have hnn : fe ≠ [] := fun z => by rw [z] at fp0; exact absurd fp0 (by decide)
    have hpos : (0 : Int) < fe.length := by omega
    have x3 : (mIf (mTest (mEq (mF1 fLenG (mN 7)) (mC (.int 0)))) mBrk mSkip).run [.arg (.tup Rs), .arg od, a2, .val (.lst true tt), .val (nt s), .val (nt k), .val (.int p), .val (.lst true fe), s8] = some (.nx, [.arg (.tup Rs), .arg od, a2, .val (.lst true tt), .val (nt s), .val (nt k), .val (.int p), .val (.lst true fe), s8]) := by
      simp [mSeq, mIf, mTest, mTru, mGt, mLt, mLe, mGe, mEq, mNe, mIsN, mNotN, mIn, mNotIn, mOp, maCons, maNil, mIx, kIx, mN, mC, mSet, mAsgIx, mRet, mRetN, mDrop, mF1, kf, ko, gets, owns, R.get, R.own, R.ok, R.kid, D.kids, D.at, D.pure, D.pureL, dAt, Sl.d?, ixD, ixN, fCmp, fLt, fLe, fGt, fGe, fMod, fDiv, fMul, fAdd, fSub, fInt, fAbs, fSetIx, kCh, enPut, Sl.put, D.put, D.setKid, argsOnly, outs, mMod, mDiv, mMul, mAdd, mSub, mSkip, mBrk, mCnt, mAnd, mOr, mNot, mVal, mIfE, mCall, kCall, imps, wbs, mTup, fTup, mLst, fLst, fLenG, fLen, fLenD, mPow, fPow, fIsN, fNotN, D.isNon, D.isHole, fIn, fNotIn, D.truth, mUnp, gN, gT, gsCons, gsNil, mApp, mPop, mMeth, maConsP, tyP, tyD, fL, lApp, lPop, sizeLine_eq, fEq_int, fEq_str, fNe_int, fNe_str, hnn]
    have x4 : (mSet 8 (mIx (mN 7) (mMod (mF1 fInt (mN 6)) (mF1 fLenG (mN 7))))).run [.arg (.tup Rs), .arg od, a2, .val (.lst true tt), .val (nt s), .val (nt k), .val (.int p), .val (.lst true fe), s8] = some (.nx, [.arg (.tup Rs), .arg od, a2, .val (.lst true tt), .val (nt s), .val (nt k), .val (.int p), .val (.lst true fe), .val (.tup [L, .int t])]) := by
      simp [mSeq, mIf, mTest, mTru, mGt, mLt, mLe, mGe, mEq, mNe, mIsN, mNotN, mIn, mNotIn, mOp, maCons, maNil, mIx, kIx, mN, mC, mSet, mAsgIx, mRet, mRetN, mDrop, mF1, kf, ko, gets, owns, R.get, R.own, R.ok, R.kid, D.kids, D.at, D.pure, D.pureL, dAt, Sl.d?, ixD, ixN, fCmp, fLt, fLe, fGt, fGe, fMod, fDiv, fMul, fAdd, fSub, fInt, fAbs, fSetIx, kCh, enPut, Sl.put, D.put, D.setKid, argsOnly, outs, mMod, mDiv, mMul, mAdd, mSub, mSkip, mBrk, mCnt, mAnd, mOr, mNot, mVal, mIfE, mCall, kCall, imps, wbs, mTup, fTup, mLst, fLst, fLenG, fLen, fLenD, mPow, fPow, fIsN, fNotN, D.isNon, D.isHole, fIn, fNotIn, D.truth, mUnp, gN, gT, gsCons, gsNil, mApp, mPop, mMeth, maConsP, tyP, tyD, fL, lApp, lPop, sizeLine_eq, fEq_int, fEq_str, fNe_int, fNe_str, hpos, fp0, hnn, ej, l1, r1, encE, pl]
    have x5 : (mDrop (mApp [3] (mN 3) (mN 8))).run [.arg (.tup Rs), .arg od, a2, .val (.lst true tt), .val (nt s), .val (nt k), .val (.int p), .val (.lst true fe), .val (.tup [L, .int t])] = some (.nx, [.arg (.tup Rs), .arg od, a2, .val (.lst true (tt ++ [.tup [L, .int t]])), .val (nt s), .val (nt k), .val (.int p), .val (.lst true fe), .val (.tup [L, .int t])]) := by
      simp [mSeq, mIf, mTest, mTru, mGt, mLt, mLe, mGe, mEq, mNe, mIsN, mNotN, mIn, mNotIn, mOp, maCons, maNil, mIx, kIx, mN, mC, mSet, mAsgIx, mRet, mRetN, mDrop, mF1, kf, ko, gets, owns, R.get, R.own, R.ok, R.kid, D.kids, D.at, D.pure, D.pureL, dAt, Sl.d?, ixD, ixN, fCmp, fLt, fLe, fGt, fGe, fMod, fDiv, fMul, fAdd, fSub, fInt, fAbs, fSetIx, kCh, enPut, Sl.put, D.put, D.setKid, argsOnly, outs, mMod, mDiv, mMul, mAdd, mSub, mSkip, mBrk, mCnt, mAnd, mOr, mNot, mVal, mIfE, mCall, kCall, imps, wbs, mTup, fTup, mLst, fLst, fLenG, fLen, fLenD, mPow, fPow, fIsN, fNotN, D.isNon, D.isHole, fIn, fNotIn, D.truth, mUnp, gN, gT, gsCons, gsNil, mApp, mPop, mMeth, maConsP, tyP, tyD, fL, lApp, lPop, sizeLine_eq, fEq_int, fEq_str, fNe_int, fNe_str, pl, tlen]
    have x6 : (mSet 4 (mIx (mN 8) (mC (.int 1)))).run [.arg (.tup Rs), .arg od, a2, .val (.lst true (tt ++ [.tup [L, .int t]])), .val (nt s), .val (nt k), .val (.int p), .val (.lst true fe), .val (.tup [L, .int t])] = some (.nx, [.arg (.tup Rs), .arg od, a2, .val (.lst true (tt ++ [.tup [L, .int t]])), .val (nt t), .val (nt k), .val (.int p), .val (.lst true fe), .val (.tup [L, .int t])]) := by
      generalize tt ++ [.tup [L, .int t]] = t2
      simp [mSeq, mIf, mTest, mTru, mGt, mLt, mLe, mGe, mEq, mNe, mIsN, mNotN, mIn, mNotIn, mOp, maCons, maNil, mIx, kIx, mN, mC, mSet, mAsgIx, mRet, mRetN, mDrop, mF1, kf, ko, gets, owns, R.get, R.own, R.ok, R.kid, D.kids, D.at, D.pure, D.pureL, dAt, Sl.d?, ixD, ixN, fCmp, fLt, fLe, fGt, fGe, fMod, fDiv, fMul, fAdd, fSub, fInt, fAbs, fSetIx, kCh, enPut, Sl.put, D.put, D.setKid, argsOnly, outs, mMod, mDiv, mMul, mAdd, mSub, mSkip, mBrk, mCnt, mAnd, mOr, mNot, mVal, mIfE, mCall, kCall, imps, wbs, mTup, fTup, mLst, fLst, fLenG, fLen, fLenD, mPow, fPow, fIsN, fNotN, D.isNon, D.isHole, fIn, fNotIn, D.truth, mUnp, gN, gT, gsCons, gsNil, mApp, mPop, mMeth, maConsP, tyP, tyD, fL, lApp, lPop, sizeLine_eq, fEq_int, fEq_str, fNe_int, fNe_str, nt]
    have x7 : (mIf (mTest (mNe (mIx (mIx (mN 8) (mC (.int 0))) (mC (.int 0))) (mC (.str "")))) (mSet 5 (mAdd (mN 5) (mC (.int 1)))) mSkip).run [.arg (.tup Rs), .arg od, a2, .val (.lst true (tt ++ [.tup [L, .int t]])), .val (nt t), .val (nt k), .val (.int p), .val (.lst true fe), .val (.tup [L, .int t])] =
        some (.nx, [.arg (.tup Rs), .arg od, a2, .val (.lst true (tt ++ [.tup [L, .int t]])), .val (nt t), .val (nt (if x = "" then k else k + 1)), .val (.int p), .val (.lst true fe), .val (.tup [L, .int t])]) := by
      generalize tt ++ [.tup [L, .int t]] = t2
      subst e
      by_cases cx : x = "" <;> simp [mSeq, mIf, mTest, mTru, mGt, mLt, mLe, mGe, mEq, mNe, mIsN, mNotN, mIn, mNotIn, mOp, maCons, maNil, mIx, kIx, mN, mC, mSet, mAsgIx, mRet, mRetN, mDrop, mF1, kf, ko, gets, owns, R.get, R.own, R.ok, R.kid, D.kids, D.at, D.pure, D.pureL, dAt, Sl.d?, ixD, ixN, fCmp, fLt, fLe, fGt, fGe, fMod, fDiv, fMul, fAdd, fSub, fInt, fAbs, fSetIx, kCh, enPut, Sl.put, D.put, D.setKid, argsOnly, outs, mMod, mDiv, mMul, mAdd, mSub, mSkip, mBrk, mCnt, mAnd, mOr, mNot, mVal, mIfE, mCall, kCall, imps, wbs, mTup, fTup, mLst, fLst, fLenG, fLen, fLenD, mPow, fPow, fIsN, fNotN, D.isNon, D.isHole, fIn, fNotIn, D.truth, mUnp, gN, gT, gsCons, gsNil, mApp, mPop, mMeth, maConsP, tyP, tyD, fL, lApp, lPop, sizeLine_eq, fEq_int, fEq_str, fNe_int, fNe_str, nt, cx]
    rw [seq_nx x3, seq_nx x4, seq_nx x5, seq_nx x6]
    exact x7
end K35
set_option Elab.async false
set_option linter.all false
set_option maxRecDepth 100000
set_option maxHeartbeats 4000000
namespace K35
open PySem PySem.Spec PyProof.Rows L2 G
def PD (ps : List Int) (d : D) : Prop := d = .lst true (ps.map D.int) ∨ d = .tup (ps.map D.int)
theorem crs_step {Rw : List Row} {ofs : List (List D)} {p : Int} {ps : List Int} {s k : Nat} (h : ¬ (k = ofs.length ∨ (row Rw s).filter (able ofs k) = [])) : crs Rw ofs (p :: ps) s k = pick1 ((row Rw s).filter (able ofs k)) p :: crs Rw ofs ps (pick1 ((row Rw s).filter (able ofs k)) p).2 (if nam (pick1 ((row Rw s).filter (able ofs k)) p).1 = "" then k else k + 1) := by
  rw [crs, if_neg h]
theorem crs_stop {Rw : List Row} {ofs : List (List D)} {p : Int} {ps : List Int} {s k : Nat} (h : k = ofs.length ∨ (row Rw s).filter (able ofs k) = []) : crs Rw ofs (p :: ps) s k = [] := by
  rw [crs, if_pos h]
theorem pick_lt {E : List D} {Rw : List Row} {ofs : List (List D)} {p : Int} {s k : Nat} (hG : Gr E Rw) (hs : s < Rw.length) (h : ¬ (k = ofs.length ∨ (row Rw s).filter (able ofs k) = [])) : (pick1 ((row Rw s).filter (able ofs k)) p).2 < Rw.length ∧ Lab E (pick1 ((row Rw s).filter (able ofs k)) p).1 ∧ pick1 ((row Rw s).filter (able ofs k)) p ∈ row Rw s := by
  obtain ⟨j, _, _, _, mem⟩ := pick1_mem (p := p) (fun z => h (.inr z))
  have hm := (List.mem_filter.mp mem).1
  have := (hG.2.2.2 _ (row_mem hs)).2 _ hm
  exact ⟨this.2, this.1, hm⟩
theorem course_l {E : List D} {Rw : List Row} {a2 : Sl} {od : D} {ofs : List (List D)} (hG : Gr E Rw) (ho : Ofs E ofs) (hod : OD ofs od) : ∀ (ps : List Int) (told : Row) (s k : Nat) (s6 s7 s8 : Sl), PR s8 → s < Rw.length → k ≤ ofs.length → told.length + ps.length ≤ 1000 →
    ∃ u4 u5 u6 u7 u8, forGo (gN 6) b_l_course_f1 (ps.map D.int) [.arg (.tup (Rw.map encR)), .arg od, a2, .val (.lst true (told.map encE)), .val (nt s), .val (nt k), s6, s7, s8] =
      some (.nx, [.arg (.tup (Rw.map encR)), .arg od, a2, .val (.lst true ((told ++ crs Rw ofs ps s k).map encE)), u4, u5, u6, u7, u8])
  | [], told, s, k, s6, s7, s8, _, _, _, _ => ⟨.val (nt s), .val (nt k), s6, s7, s8, by rw [show crs Rw ofs [] s k = [] from rfl, List.append_nil]; exact forGo_nil⟩
  | p :: ps, told, s, k, s6, s7, s8, h8, hs, hk, hl => by
    rw [List.length_cons] at hl
    have g6 : (gN 6).run (.int p) [.arg (.tup (Rw.map encR)), .arg od, a2, .val (.lst true (told.map encE)), .val (nt s), .val (nt k), s6, s7, s8] = some [.arg (.tup (Rw.map encR)), .arg od, a2, .val (.lst true (told.map encE)), .val (nt s), .val (nt k), .val (.int p), s7, s8] := by simp [gN, D.pure]
    obtain ⟨u7, u8, p8, h⟩ := course_f1 (a2 := a2) (s7 := s7) (told := told) (p := p) hG ho hod hs hk (by omega) h8
    rw [List.map_cons]
    rcases h with ⟨hc, hb⟩ | ⟨hc, hb⟩
    · rw [crs_stop hc, List.append_nil]
      exact ⟨.val (nt s), .val (nt k), .val (.int p), u7, u8, forGo_bk g6 hb⟩
    · obtain ⟨q1, q2, _⟩ := pick_lt (p := p) hG hs hc
      rw [crs_step hc]
      generalize pick1 ((row Rw s).filter (able ofs k)) p = st at hb q1 q2 ⊢
      obtain ⟨v4, v5, v6, v7, v8, hv⟩ := course_l (a2 := a2) hG ho hod ps (told ++ [st]) st.2 (if nam st.1 = "" then k else k + 1) (.val (.int p)) u7 u8 p8 q1 (by split <;> omega) (by rw [List.length_append, List.length_singleton]; omega)
      refine ⟨v4, v5, v6, v7, v8, (forGo_nx g6 hb).trans ?_⟩
      rw [hv, List.append_assoc]
      rfl
theorem crs_lab {E : List D} {Rw : List Row} {ofs : List (List D)} (hG : Gr E Rw) : ∀ (ps : List Int) (s k : Nat), s < Rw.length → ∀ st ∈ crs Rw ofs ps s k, Lab E st.1
  | [], s, k, _, st, h => nomatch h
  | p :: ps, s, k, hs, st, h => by
    by_cases c : k = ofs.length ∨ (row Rw s).filter (able ofs k) = []
    · rw [crs_stop c] at h; cases h
    · obtain ⟨q1, q2, _⟩ := pick_lt (p := p) hG hs c
      rw [crs_step c] at h
      rcases List.mem_cons.mp h with rfl | h
      · exact q2
      · exact crs_lab hG ps _ _ q1 st h
theorem crs_len (Rw : List Row) (ofs : List (List D)) : ∀ (ps : List Int) (s k : Nat), (crs Rw ofs ps s k).length ≤ ps.length
  | [], s, k => Nat.le_refl _
  | p :: ps, s, k => by
    by_cases c : k = ofs.length ∨ (row Rw s).filter (able ofs k) = []
    · rw [crs_stop c]; exact Nat.zero_le _
    · rw [crs_step c, List.length_cons, List.length_cons]
      exact Nat.succ_le_succ (crs_len Rw ofs ps _ _)
theorem steps_pure {E : List D} {st : Row} (hE : Evs E) (h : ∀ p ∈ st, Lab E p.1) : D.pureL (st.map encE) = true := pureL_all fun e hx => by
  obtain ⟨p, hp, rfl⟩ := List.mem_map.mp hx
  simp [encE, D.pure, D.pureL, (lab_pure hE (h p hp)).1]
theorem od_pure {E : List D} {ofs : List (List D)} (hE : Evs E) (ho : Ofs E ofs) : D.pureL (ofD ofs) = true := ofD_pure hE ho
theorem course_ok {E : List D} {Rw : List Row} {od : D} {ofs : List (List D)} {ps : List Int} (hG : Gr E Rw) (ho : Ofs E ofs) (hod : OD ofs od) (hl : ps.length ≤ 900) :
    m_l_course [.tup (Rw.map encR), od, .lst true (ps.map D.int)] = some (.tup ((crs Rw ofs ps 0 0).map encE), [.tup (Rw.map encR), od, .lst true (ps.map D.int)]) := by
  obtain ⟨u4, u5, u6, u7, u8, h⟩ := course_l (a2 := .arg (.lst true (ps.map D.int))) hG ho hod ps [] 0 0 .un .un .un (.inl rfl) hG.2.1 (Nat.zero_le _) (by rw [List.length_nil]; omega)
  rw [List.nil_append] at h
  have pS := steps_pure hG.1 (crs_lab (ofs := ofs) hG ps 0 0 hG.2.1)
  generalize (crs Rw ofs ps 0 0).map encE = cc at h pS ⊢
  have pI := ints_pure ps
  generalize Rw.map encR = Rs at h ⊢
  refine call_run (e' := argsOnly [.arg (.tup Rs), .arg od, .arg (.lst true (ps.map D.int)), .val (.lst true cc), u4, u5, u6, u7, u8]) rfl ?_ (by simp [outs, argsOnly])
  show b_l_course.run [.arg (.tup Rs), .arg od, .arg (.lst true (ps.map D.int)), .un, .un, .un, .un, .un, .un] = _
  have e0 : (([] : Row).map encE) = [] := rfl
  rw [e0] at h
  generalize ps.map D.int = pp at h pI ⊢
  have q : (iSeq (mN 2)).run [.arg (.tup Rs), .arg od, .arg (.lst true pp), .val (.lst true []), .val (nt 0), .val (nt 0), .un, .un, .un] = some (pp, [.p 2 []], [.arg (.tup Rs), .arg od, .arg (.lst true pp), .val (.lst true []), .val (nt 0), .val (nt 0), .un, .un, .un]) := by
    simp [iSeq, mSeq, mIf, mTest, mTru, mGt, mLt, mLe, mGe, mEq, mNe, mIsN, mNotN, mIn, mNotIn, mOp, maCons, maNil, mIx, kIx, mN, mC, mSet, mAsgIx, mRet, mRetN, mDrop, mF1, kf, ko, gets, owns, R.get, R.own, R.ok, R.kid, D.kids, D.at, D.pure, D.pureL, dAt, Sl.d?, ixD, ixN, fCmp, fLt, fLe, fGt, fGe, fMod, fDiv, fMul, fAdd, fSub, fInt, fAbs, fSetIx, kCh, enPut, Sl.put, D.put, D.setKid, argsOnly, outs, mMod, mDiv, mMul, mAdd, mSub, mSkip, mBrk, mCnt, mAnd, mOr, mNot, mVal, mIfE, mCall, kCall, imps, wbs, mTup, fTup, mLst, fLst, fLenG, fLen, fLenD, mPow, fPow, fIsN, fNotN, D.isNon, D.isHole, fIn, fNotIn, D.truth, mUnp, gN, gT, gsCons, gsNil, mApp, mPop, mMeth, maConsP, tyP, tyD, fL, lApp, lPop, sizeLine_eq, fEq_int, fEq_str, fNe_int, fNe_str, D.items]
  unfold b_l_course
  rw [seq_nx (e1 := [.arg (.tup Rs), .arg od, .arg (.lst true pp), .val (.lst true []), .un, .un, .un, .un, .un]) (by simp [mSeq, mIf, mTest, mTru, mGt, mLt, mLe, mGe, mEq, mNe, mIsN, mNotN, mIn, mNotIn, mOp, maCons, maNil, mIx, kIx, mN, mC, mSet, mAsgIx, mRet, mRetN, mDrop, mF1, kf, ko, gets, owns, R.get, R.own, R.ok, R.kid, D.kids, D.at, D.pure, D.pureL, dAt, Sl.d?, ixD, ixN, fCmp, fLt, fLe, fGt, fGe, fMod, fDiv, fMul, fAdd, fSub, fInt, fAbs, fSetIx, kCh, enPut, Sl.put, D.put, D.setKid, argsOnly, outs, mMod, mDiv, mMul, mAdd, mSub, mSkip, mBrk, mCnt, mAnd, mOr, mNot, mVal, mIfE, mCall, kCall, imps, wbs, mTup, fTup, mLst, fLst, fLenG, fLen, fLenD, mPow, fPow, fIsN, fNotN, D.isNon, D.isHole, fIn, fNotIn, D.truth, mUnp, gN, gT, gsCons, gsNil, mApp, mPop, mMeth, maConsP, tyP, tyD, fL, lApp, lPop, sizeLine_eq, fEq_int, fEq_str, fNe_int, fNe_str]),
    seq_nx (e1 := [.arg (.tup Rs), .arg od, .arg (.lst true pp), .val (.lst true []), .val (nt 0), .un, .un, .un, .un]) (by simp [mSeq, mIf, mTest, mTru, mGt, mLt, mLe, mGe, mEq, mNe, mIsN, mNotN, mIn, mNotIn, mOp, maCons, maNil, mIx, kIx, mN, mC, mSet, mAsgIx, mRet, mRetN, mDrop, mF1, kf, ko, gets, owns, R.get, R.own, R.ok, R.kid, D.kids, D.at, D.pure, D.pureL, dAt, Sl.d?, ixD, ixN, fCmp, fLt, fLe, fGt, fGe, fMod, fDiv, fMul, fAdd, fSub, fInt, fAbs, fSetIx, kCh, enPut, Sl.put, D.put, D.setKid, argsOnly, outs, mMod, mDiv, mMul, mAdd, mSub, mSkip, mBrk, mCnt, mAnd, mOr, mNot, mVal, mIfE, mCall, kCall, imps, wbs, mTup, fTup, mLst, fLst, fLenG, fLen, fLenD, mPow, fPow, fIsN, fNotN, D.isNon, D.isHole, fIn, fNotIn, D.truth, mUnp, gN, gT, gsCons, gsNil, mApp, mPop, mMeth, maConsP, tyP, tyD, fL, lApp, lPop, sizeLine_eq, fEq_int, fEq_str, fNe_int, fNe_str, nt]),
    seq_nx (e1 := [.arg (.tup Rs), .arg od, .arg (.lst true pp), .val (.lst true []), .val (nt 0), .val (nt 0), .un, .un, .un]) (by simp [mSeq, mIf, mTest, mTru, mGt, mLt, mLe, mGe, mEq, mNe, mIsN, mNotN, mIn, mNotIn, mOp, maCons, maNil, mIx, kIx, mN, mC, mSet, mAsgIx, mRet, mRetN, mDrop, mF1, kf, ko, gets, owns, R.get, R.own, R.ok, R.kid, D.kids, D.at, D.pure, D.pureL, dAt, Sl.d?, ixD, ixN, fCmp, fLt, fLe, fGt, fGe, fMod, fDiv, fMul, fAdd, fSub, fInt, fAbs, fSetIx, kCh, enPut, Sl.put, D.put, D.setKid, argsOnly, outs, mMod, mDiv, mMul, mAdd, mSub, mSkip, mBrk, mCnt, mAnd, mOr, mNot, mVal, mIfE, mCall, kCall, imps, wbs, mTup, fTup, mLst, fLst, fLenG, fLen, fLenD, mPow, fPow, fIsN, fNotN, D.isNon, D.isHole, fIn, fNotIn, D.truth, mUnp, gN, gT, gsCons, gsNil, mApp, mPop, mMeth, maConsP, tyP, tyD, fL, lApp, lPop, sizeLine_eq, fEq_int, fEq_str, fNe_int, fNe_str, nt]),
    seq_nx ((for_run q rfl).trans h)]
  simp [mSeq, mIf, mTest, mTru, mGt, mLt, mLe, mGe, mEq, mNe, mIsN, mNotN, mIn, mNotIn, mOp, maCons, maNil, mIx, kIx, mN, mC, mSet, mAsgIx, mRet, mRetN, mDrop, mF1, kf, ko, gets, owns, R.get, R.own, R.ok, R.kid, D.kids, D.at, D.pure, D.pureL, dAt, Sl.d?, ixD, ixN, fCmp, fLt, fLe, fGt, fGe, fMod, fDiv, fMul, fAdd, fSub, fInt, fAbs, fSetIx, kCh, enPut, Sl.put, D.put, D.setKid, argsOnly, outs, mMod, mDiv, mMul, mAdd, mSub, mSkip, mBrk, mCnt, mAnd, mOr, mNot, mVal, mIfE, mCall, kCall, imps, wbs, mTup, fTup, mLst, fLst, fLenG, fLen, fLenD, mPow, fPow, fIsN, fNotN, D.isNon, D.isHole, fIn, fNotIn, D.truth, mUnp, gN, gT, gsCons, gsNil, mApp, mPop, mMeth, maConsP, tyP, tyD, fL, lApp, lPop, sizeLine_eq, fEq_int, fEq_str, fNe_int, fNe_str, fTuple, D.items, pS]
theorem ev_ne : (("event" : Str) = "inner") = False := eq_false (by decide +kernel)
theorem label_in {x : Str} {v : D} {h : Nat} (hv : v.pure = true) : m_row_label [.tup [.str "inner", v, .non, nt h]] = some (.tup [.str "", v], [.tup [.str "inner", v, .non, nt h]]) := by
  refine call_run (e' := argsOnly [.arg (.tup [.str "inner", v, .non, nt h])]) rfl ?_ (by simp [outs, argsOnly])
  show b_row_label.run [.arg (.tup [.str "inner", v, .non, nt h])] = _
  simp [b_row_label, mSeq, mIf, mTest, mTru, mGt, mLt, mLe, mGe, mEq, mNe, mIsN, mNotN, mIn, mNotIn, mOp, maCons, maNil, mIx, kIx, mN, mC, mSet, mAsgIx, mRet, mRetN, mDrop, mF1, kf, ko, gets, owns, R.get, R.own, R.ok, R.kid, D.kids, D.at, D.pure, D.pureL, dAt, Sl.d?, ixD, ixN, fCmp, fLt, fLe, fGt, fGe, fMod, fDiv, fMul, fAdd, fSub, fInt, fAbs, fSetIx, kCh, enPut, Sl.put, D.put, D.setKid, argsOnly, outs, mMod, mDiv, mMul, mAdd, mSub, mSkip, mBrk, mCnt, mAnd, mOr, mNot, mVal, mIfE, mCall, kCall, imps, wbs, mTup, fTup, mLst, fLst, fLenG, fLen, fLenD, mPow, fPow, fIsN, fNotN, D.isNon, D.isHole, fIn, fNotIn, D.truth, mUnp, gN, gT, gsCons, gsNil, mApp, mPop, mMeth, maConsP, tyP, tyD, fL, lApp, lPop, sizeLine_eq, fEq_int, fEq_str, fNe_int, fNe_str, nt, hv]
theorem label_ev {x : Str} {v : D} {h : Nat} (hv : v.pure = true) : m_row_label [.tup [.str "event", .str x, v, nt h]] = some (.tup [.str x, v], [.tup [.str "event", .str x, v, nt h]]) := by
  refine call_run (e' := argsOnly [.arg (.tup [.str "event", .str x, v, nt h])]) rfl ?_ (by simp [outs, argsOnly])
  show b_row_label.run [.arg (.tup [.str "event", .str x, v, nt h])] = _
  simp [b_row_label, mSeq, mIf, mTest, mTru, mGt, mLt, mLe, mGe, mEq, mNe, mIsN, mNotN, mIn, mNotIn, mOp, maCons, maNil, mIx, kIx, mN, mC, mSet, mAsgIx, mRet, mRetN, mDrop, mF1, kf, ko, gets, owns, R.get, R.own, R.ok, R.kid, D.kids, D.at, D.pure, D.pureL, dAt, Sl.d?, ixD, ixN, fCmp, fLt, fLe, fGt, fGe, fMod, fDiv, fMul, fAdd, fSub, fInt, fAbs, fSetIx, kCh, enPut, Sl.put, D.put, D.setKid, argsOnly, outs, mMod, mDiv, mMul, mAdd, mSub, mSkip, mBrk, mCnt, mAnd, mOr, mNot, mVal, mIfE, mCall, kCall, imps, wbs, mTup, fTup, mLst, fLst, fLenG, fLen, fLenD, mPow, fPow, fIsN, fNotN, D.isNon, D.isHole, fIn, fNotIn, D.truth, mUnp, gN, gT, gsCons, gsNil, mApp, mPop, mMeth, maConsP, tyP, tyD, fL, lApp, lPop, sizeLine_eq, fEq_int, fEq_str, fNe_int, fNe_str, nt, hv, ev_ne]
theorem rlabel_ok {E : List D} {Rw : List Row} {L : D} {t : Nat} (hE : Evs E) (hL : Lab E L) : m_row_label [stepR Rw (L, t)] = some (L, [stepR Rw (L, t)]) := by
  obtain ⟨x, v, rfl, a, _⟩ := lab_pair hE hL
  have pv := a.pure.1
  unfold stepR
  dsimp only
  rw [show nam (D.tup [.str x, v]) = x from rfl, show vl (D.tup [.str x, v]) = v from rfl]
  by_cases c : x = ""
  · rw [if_pos c, c]
    exact label_in (x := x) pv
  · rw [if_neg c]
    exact label_ev pv
theorem stepR_pure {E : List D} {Rw : List Row} {p : D × Nat} (hE : Evs E) (hL : Lab E p.1) : (stepR Rw p).pure = true := by
  obtain ⟨L, t⟩ := p
  obtain ⟨x, v, e, a, _⟩ := lab_pair hE hL
  have e : L = .tup [.str x, v] := e
  subst e
  have pv := a.pure.1
  unfold stepR
  dsimp only
  rw [show vl (D.tup [.str x, v]) = v from rfl]
  split <;> simp [D.pure, D.pureL, nt, pv]
theorem BR_pure {E : List D} {Rw : List Row} (hG : Gr E Rw) : D.pureL (BR Rw) = true := by
  have key : ∀ (rs : List Row) (i : Nat), (∀ es ∈ rs, ∀ p ∈ es, Lab E p.1) → ∀ d ∈ brF Rw i rs, d.pure = true := fun rs => by
    induction rs with
    | nil => intro i _ d hd; cases hd
    | cons es rs ih =>
      intro i h d hd
      rw [brF, blk] at hd
      rcases List.mem_append.mp hd with hd | hd
      · rcases List.mem_cons.mp hd with rfl | hd
        · rfl
        · obtain ⟨p, hp, rfl⟩ := List.mem_map.mp hd
          exact stepR_pure hG.1 (h es List.mem_cons_self p hp)
      · exact ih (i + 1) (fun x hx => h x (List.mem_cons_of_mem _ hx)) d hd
  exact pureL_all (key Rw 0 fun es he p hp => ((hG.2.2.2 es he).2 p hp).1)
def tsR : MT := (mOr (mTest (mEq (mIx (mN 10) (mC (.int 0))) (mC (.str "inner")))) (mTest (mIn (mCall m_row_label [10] (maCons (mN 10) maNil)) (mIx (mN 1) (mN 4)))))
theorem run_tst {E : List D} {Rw : List Row} {a0 a2 s3 s5 s6 s7 s8 s9 : Sl} {od : D} {ofs : List (List D)} {k : Nat} {p : D × Nat} (hE : Evs E) (ho : Ofs E ofs) (hod : OD ofs od) (hk : k < ofs.length) (hL : Lab E p.1) :
    tsR.run [a0, .arg od, a2, s3, .val (nt k), s5, s6, s7, s8, s9, .val (stepR Rw p)] = some (able ofs k p, [a0, .arg od, a2, s3, .val (nt k), s5, s6, s7, s8, s9, .val (stepR Rw p)]) := by
  obtain ⟨L, t⟩ := p
  have hL : Lab E L := hL
  have at0 := ofD_at hk
  have mem : ∀ z ∈ ofs.getD k [], z ∈ E := fun z hz => by
    rw [List.getD_eq_getElem?_getD, List.getElem?_eq_getElem hk] at hz
    exact ho.2 _ (List.getElem_mem hk) z hz
  have hin := inD_ev hE hL mem
  have ha : able ofs k (L, t) = (decide (nam L = "") || memL L (ofs.getD k [])) := rfl
  have hlab := rlabel_ok (Rw := Rw) (t := t) hE hL
  have hsp := stepR_pure (Rw := Rw) (p := (L, t)) hE hL
  rw [ha]
  generalize memL L (ofs.getD k []) = b at hin ⊢
  generalize ofs.getD k [] = evs at hin at0
  unfold OD at hod
  generalize ofD ofs = oo at hod at0
  obtain ⟨l1, r1⟩ := List.getElem?_eq_some_iff.mp at0
  have pl := (lab_pure hE hL).1
  obtain ⟨x, v, e, a, _⟩ := lab_pair hE hL
  have hx : nam L = x := by rw [e]; rfl
  have pv := a.pure.1
  generalize hml : m_row_label = ml at hlab
  have he : stepR Rw (L, t) = if x = "" then .tup [.str "inner", v, .non, nt (hd Rw t)] else .tup [.str "event", .str x, v, nt (hd Rw t)] := by
    unfold stepR
    dsimp only
    rw [hx, e]
    rfl
  have x2 : (mTest (mIn (mCall ml [10] (maCons (mN 10) maNil)) (mIx (mN 1) (mN 4)))).run [a0, .arg od, a2, s3, .val (nt k), s5, s6, s7, s8, s9, .val (stepR Rw (L, t))] = some (b, [a0, .arg od, a2, s3, .val (nt k), s5, s6, s7, s8, s9, .val (stepR Rw (L, t))]) := by
    generalize stepR Rw (L, t) = sr at hlab hsp ⊢
    rcases hod with rfl | rfl <;> simp [mSeq, mIf, mTest, mTru, mGt, mLt, mLe, mGe, mEq, mNe, mIsN, mNotN, mIn, mNotIn, mOp, maCons, maNil, mIx, kIx, mN, mC, mSet, mAsgIx, mRet, mRetN, mDrop, mF1, kf, ko, gets, owns, R.get, R.own, R.ok, R.kid, D.kids, D.at, D.pure, D.pureL, dAt, Sl.d?, ixD, ixN, fCmp, fLt, fLe, fGt, fGe, fMod, fDiv, fMul, fAdd, fSub, fInt, fAbs, fSetIx, kCh, enPut, Sl.put, D.put, D.setKid, argsOnly, outs, mMod, mDiv, mMul, mAdd, mSub, mSkip, mBrk, mCnt, mAnd, mOr, mNot, mVal, mIfE, mCall, kCall, imps, wbs, mTup, fTup, mLst, fLst, fLenG, fLen, fLenD, mPow, fPow, fIsN, fNotN, D.isNon, D.isHole, fIn, fNotIn, D.truth, mUnp, gN, gT, gsCons, gsNil, mApp, mPop, mMeth, maConsP, tyP, tyD, fL, lApp, lPop, sizeLine_eq, fEq_int, fEq_str, fNe_int, fNe_str, nt, hlab, hsp, l1, r1, hin]
  have x1 : (mTest (mEq (mIx (mN 10) (mC (.int 0))) (mC (.str "inner")))).run [a0, .arg od, a2, s3, .val (nt k), s5, s6, s7, s8, s9, .val (stepR Rw (L, t))] = some (decide (x = ""), [a0, .arg od, a2, s3, .val (nt k), s5, s6, s7, s8, s9, .val (stepR Rw (L, t))]) := by
    rw [he]
    by_cases c : x = ""
    · simp [mSeq, mIf, mTest, mTru, mGt, mLt, mLe, mGe, mEq, mNe, mIsN, mNotN, mIn, mNotIn, mOp, maCons, maNil, mIx, kIx, mN, mC, mSet, mAsgIx, mRet, mRetN, mDrop, mF1, kf, ko, gets, owns, R.get, R.own, R.ok, R.kid, D.kids, D.at, D.pure, D.pureL, dAt, Sl.d?, ixD, ixN, fCmp, fLt, fLe, fGt, fGe, fMod, fDiv, fMul, fAdd, fSub, fInt, fAbs, fSetIx, kCh, enPut, Sl.put, D.put, D.setKid, argsOnly, outs, mMod, mDiv, mMul, mAdd, mSub, mSkip, mBrk, mCnt, mAnd, mOr, mNot, mVal, mIfE, mCall, kCall, imps, wbs, mTup, fTup, mLst, fLst, fLenG, fLen, fLenD, mPow, fPow, fIsN, fNotN, D.isNon, D.isHole, fIn, fNotIn, D.truth, mUnp, gN, gT, gsCons, gsNil, mApp, mPop, mMeth, maConsP, tyP, tyD, fL, lApp, lPop, sizeLine_eq, fEq_int, fEq_str, fNe_int, fNe_str, c]
    · simp [mSeq, mIf, mTest, mTru, mGt, mLt, mLe, mGe, mEq, mNe, mIsN, mNotN, mIn, mNotIn, mOp, maCons, maNil, mIx, kIx, mN, mC, mSet, mAsgIx, mRet, mRetN, mDrop, mF1, kf, ko, gets, owns, R.get, R.own, R.ok, R.kid, D.kids, D.at, D.pure, D.pureL, dAt, Sl.d?, ixD, ixN, fCmp, fLt, fLe, fGt, fGe, fMod, fDiv, fMul, fAdd, fSub, fInt, fAbs, fSetIx, kCh, enPut, Sl.put, D.put, D.setKid, argsOnly, outs, mMod, mDiv, mMul, mAdd, mSub, mSkip, mBrk, mCnt, mAnd, mOr, mNot, mVal, mIfE, mCall, kCall, imps, wbs, mTup, fTup, mLst, fLst, fLenG, fLen, fLenD, mPow, fPow, fIsN, fNotN, D.isNon, D.isHole, fIn, fNotIn, D.truth, mUnp, gN, gT, gsCons, gsNil, mApp, mPop, mMeth, maConsP, tyP, tyD, fL, lApp, lPop, sizeLine_eq, fEq_int, fEq_str, fNe_int, fNe_str, c, ev_ne]
  rw [hx]
  generalize [a0, .arg od, a2, s3, .val (nt k), s5, s6, s7, s8, s9, .val (stepR Rw (L, t))] = Env at x1 x2 ⊢
  unfold tsR
  rw [hml]
  generalize mTest (mIn (mCall ml [10] (maCons (mN 10) maNil)) (mIx (mN 1) (mN 4))) = t2 at x2 ⊢
  generalize mTest (mEq (mIx (mN 10) (mC (.int 0))) (mC (.str "inner"))) = t1 at x1 ⊢
  by_cases c : x = ""
  · simp [mOr, x1, x2, c]
  · simp [mOr, x1, x2, c]
end K35
set_option Elab.async false
set_option linter.all false
set_option maxRecDepth 100000
set_option maxHeartbeats 4000000
namespace K35
open PySem PySem.Spec PyProof.Rows L2 G
theorem cut_ok {br : List D} {a b : Nat} (ha : a ≤ br.length) (hb : b ≤ br.length) (hp : D.pureL br = true) : fSlLH [.tup br, .int a, .int b] = some (.tup ((br.drop a).take (b - a))) := by
  show (if D.pureL br = true then some (D.tup (G.cutD br (some (a : Int)) (some (b : Int)))) else none) = _
  rw [if_pos hp]
  unfold G.cutD
  rw [HT.sIx_nat, HT.sIx_nat, Nat.min_eq_left ha, Nat.min_eq_left hb]
theorem run_x2 {a1 a2 s4 s5 s6 s7 s8 s9 s10 : Sl} {br xs : List D} {h len : Nat} {s : Nat} (hb : br[h]? = some (.tup [.str "state", nt s, .int len])) (hc : fSlLH [.tup br, .int ((h : Int) + 1), .int ((h : Int) + 1 + len)] = some (.tup xs)) :
    (mSet 7 (mSlLH (mN 0) (mAdd (mN 3) (mC (.int 1))) (mAdd (mAdd (mN 3) (mC (.int 1))) (mIx (mIx (mN 0) (mN 3)) (mC (.int 2)))))).run [.arg (.tup br), a1, a2, .val (nt h), s4, s5, s6, s7, s8, s9, s10] = some (.nx, [.arg (.tup br), a1, a2, .val (nt h), s4, s5, s6, .val (.tup xs), s8, s9, s10]) := by
  obtain ⟨l1, r1⟩ := List.getElem?_eq_some_iff.mp hb
  have q : (mSlLH (mN 0) (mAdd (mN 3) (mC (.int 1))) (mAdd (mAdd (mN 3) (mC (.int 1))) (mIx (mIx (mN 0) (mN 3)) (mC (.int 2))))).run [.arg (.tup br), a1, a2, .val (nt h), s4, s5, s6, s7, s8, s9, s10] = some (.v (.tup xs), [.arg (.tup br), a1, a2, .val (nt h), s4, s5, s6, s7, s8, s9, s10]) := by
    unfold mSlLH
    generalize fSlLH = fs at hc ⊢
    simp [mSeq, mIf, mTest, mTru, mGt, mLt, mLe, mGe, mEq, mNe, mIsN, mNotN, mIn, mNotIn, mOp, maCons, maNil, mIx, kIx, mN, mC, mSet, mAsgIx, mRet, mRetN, mDrop, mF1, kf, ko, gets, owns, R.get, R.own, R.ok, R.kid, D.kids, D.at, D.pure, D.pureL, dAt, Sl.d?, ixD, ixN, fCmp, fLt, fLe, fGt, fGe, fMod, fDiv, fMul, fAdd, fSub, fInt, fAbs, fSetIx, kCh, enPut, Sl.put, D.put, D.setKid, argsOnly, outs, mMod, mDiv, mMul, mAdd, mSub, mSkip, mBrk, mCnt, mAnd, mOr, mNot, mVal, mIfE, mCall, kCall, imps, wbs, mTup, fTup, mLst, fLst, fLenG, fLen, fLenD, mPow, fPow, fIsN, fNotN, D.isNon, D.isHole, fIn, fNotIn, D.truth, mUnp, gN, gT, gsCons, gsNil, mApp, mPop, mMeth, maConsP, tyP, tyD, fL, lApp, lPop, sizeLine_eq, fEq_int, fEq_str, fNe_int, fNe_str, nt, l1, r1, hc]
  show ((mSlLH (mN 0) (mAdd (mN 3) (mC (.int 1))) (mAdd (mAdd (mN 3) (mC (.int 1))) (mIx (mIx (mN 0) (mN 3)) (mC (.int 2))))).run _).bind _ = _
  rw [q]
  rfl
theorem lcR {E : List D} {Rw : List Row} {a0 a2 s3 s5 s6 s8 s9 : Sl} {v7 od : D} {ofs : List (List D)} {k : Nat} (hG : Gr E Rw) (ho : Ofs E ofs) (hod : OD ofs od) (hk : k < ofs.length) : ∀ (es acc : Row), (∀ p ∈ es, Lab E p.1 ∧ p.2 < Rw.length) → acc.length + es.length ≤ 16000000 →
    lcGo (gN 10) tsR (mN 10) [10] (es.map (stepR Rw)) [a0, .arg od, a2, s3, .val (nt k), s5, s6, .val v7, s8, s9, .un] (acc.map (stepR Rw)) = some ((acc ++ es.filter (able ofs k)).map (stepR Rw), [a0, .arg od, a2, s3, .val (nt k), s5, s6, .val v7, s8, s9, .un])
  | [], acc, _, _ => by simp [lcGo]
  | p :: es, acc, he, hl => by
    rw [List.length_cons] at hl
    obtain ⟨lL, _⟩ := he p List.mem_cons_self
    have psr := stepR_pure (Rw := Rw) (p := p) hG.1 lL
    have ih := fun acc' h => lcR (a0 := a0) (a2 := a2) (s3 := s3) (s5 := s5) (s6 := s6) (s8 := s8) (s9 := s9) (v7 := v7) hG ho hod hk es acc' (fun x hx => he x (List.mem_cons_of_mem _ hx)) h
    have g10 : (gN 10).run (stepR Rw p) [a0, .arg od, a2, s3, .val (nt k), s5, s6, .val v7, s8, s9, .un] = some [a0, .arg od, a2, s3, .val (nt k), s5, s6, .val v7, s8, s9, .val (stepR Rw p)] := by
      generalize stepR Rw p = sr at psr
      simp [gN, psr]
    have tt := run_tst (Rw := Rw) (a0 := a0) (a2 := a2) (s3 := s3) (s5 := s5) (s6 := s6) (s7 := .val v7) (s8 := s8) (s9 := s9) (p := p) hG.1 ho hod hk lL
    have ow : R.own (.p 10 []) [a0, .arg od, a2, s3, .val (nt k), s5, s6, .val v7, s8, s9, .val (stepR Rw p)] = some (stepR Rw p) := by
      generalize stepR Rw p = sr at psr
      simp [mSeq, mIf, mTest, mTru, mGt, mLt, mLe, mGe, mEq, mNe, mIsN, mNotN, mIn, mNotIn, mOp, maCons, maNil, mIx, kIx, mN, mC, mSet, mAsgIx, mRet, mRetN, mDrop, mF1, kf, ko, gets, owns, R.get, R.own, R.ok, R.kid, D.kids, D.at, D.pure, D.pureL, dAt, Sl.d?, ixD, ixN, fCmp, fLt, fLe, fGt, fGe, fMod, fDiv, fMul, fAdd, fSub, fInt, fAbs, fSetIx, kCh, enPut, Sl.put, D.put, D.setKid, argsOnly, outs, mMod, mDiv, mMul, mAdd, mSub, mSkip, mBrk, mCnt, mAnd, mOr, mNot, mVal, mIfE, mCall, kCall, imps, wbs, mTup, fTup, mLst, fLst, fLenG, fLen, fLenD, mPow, fPow, fIsN, fNotN, D.isNon, D.isHole, fIn, fNotIn, D.truth, mUnp, gN, gT, gsCons, gsNil, mApp, mPop, mMeth, maConsP, tyP, tyD, fL, lApp, lPop, sizeLine_eq, fEq_int, fEq_str, fNe_int, fNe_str, psr]
    have wp : wipeE [a0, .arg od, a2, s3, .val (nt k), s5, s6, .val v7, s8, s9, .val (stepR Rw p)] [10] = [a0, .arg od, a2, s3, .val (nt k), s5, s6, .val v7, s8, s9, .un] := by simp [wipeE]
    have hz : (acc.map (stepR Rw)).length < sizeLine := by rw [sizeLine_eq, List.length_map]; omega
    rw [List.map_cons, lcGo, g10, Option.bind_some, tt, Option.bind_some]
    dsimp only
    by_cases c : able ofs k p = true
    · rw [if_pos c, show (mN 10).run [a0, .arg od, a2, s3, .val (nt k), s5, s6, .val v7, s8, s9, .val (stepR Rw p)] = some (.p 10 [], [a0, .arg od, a2, s3, .val (nt k), s5, s6, .val v7, s8, s9, .val (stepR Rw p)]) from rfl, Option.bind_some]
      dsimp only
      rw [ow, Option.bind_some, if_pos hz, wp, List.filter_cons_of_pos c]
      have := ih (acc ++ [p]) (by rw [List.length_append, List.length_singleton]; omega)
      rw [List.map_append] at this
      rw [show acc ++ p :: es.filter (able ofs k) = acc ++ [p] ++ es.filter (able ofs k) by simp, ← this]
      rfl
    · rw [if_neg c, wp, List.filter_cons_of_neg c]
      exact ih acc (by omega)
theorem run_f1 {E : List D} {Rw : List Row} {a2 s7 s8 s9 : Sl} {od : D} {ofs : List (List D)} {told : Row} {s k : Nat} {p : Int} (hG : Gr E Rw) (ho : Ofs E ofs) (hod : OD ofs od) (hs : s < Rw.length) (hk : k ≤ ofs.length) (ht : told.length ≤ 1000) :
    ∃ (u7 u8 u9 : Sl), ((k = ofs.length ∨ (row Rw s).filter (able ofs k) = []) ∧ b_run_f1.run [.arg (.tup (BR Rw)), .arg od, a2, .val (nt (hd Rw s)), .val (nt k), .val (.lst true (told.map encE)), .val (.int p), s7, s8, s9, .un] = some (.bk, [.arg (.tup (BR Rw)), .arg od, a2, .val (nt (hd Rw s)), .val (nt k), .val (.lst true (told.map encE)), .val (.int p), u7, u8, u9, .un]) ∨
      (¬ (k = ofs.length ∨ (row Rw s).filter (able ofs k) = [])) ∧ b_run_f1.run [.arg (.tup (BR Rw)), .arg od, a2, .val (nt (hd Rw s)), .val (nt k), .val (.lst true (told.map encE)), .val (.int p), s7, s8, s9, .un] =
        some (.nx, [.arg (.tup (BR Rw)), .arg od, a2, .val (nt (hd Rw (pick1 ((row Rw s).filter (able ofs k)) p).2)), .val (nt (if nam (pick1 ((row Rw s).filter (able ofs k)) p).1 = "" then k else k + 1)), .val (.lst true ((told ++ [pick1 ((row Rw s).filter (able ofs k)) p]).map encE)), .val (.int p), u7, u8, u9, .un])) := by
  have hol : (ofD ofs).length = ofs.length := List.length_map _
  have pB := BR_pure hG
  by_cases c : k = ofs.length
  · refine ⟨s7, s8, s9, .inl ⟨.inl c, ?_⟩⟩
    rw [c, ← hol]
    unfold OD at hod
    generalize ofD ofs = oo at hod
    generalize BR Rw = Rs
    generalize told.map encE = tt
    rcases hod with rfl | rfl <;> simp [b_run_f1, mSeq, mIf, mTest, mTru, mGt, mLt, mLe, mGe, mEq, mNe, mIsN, mNotN, mIn, mNotIn, mOp, maCons, maNil, mIx, kIx, mN, mC, mSet, mAsgIx, mRet, mRetN, mDrop, mF1, kf, ko, gets, owns, R.get, R.own, R.ok, R.kid, D.kids, D.at, D.pure, D.pureL, dAt, Sl.d?, ixD, ixN, fCmp, fLt, fLe, fGt, fGe, fMod, fDiv, fMul, fAdd, fSub, fInt, fAbs, fSetIx, kCh, enPut, Sl.put, D.put, D.setKid, argsOnly, outs, mMod, mDiv, mMul, mAdd, mSub, mSkip, mBrk, mCnt, mAnd, mOr, mNot, mVal, mIfE, mCall, kCall, imps, wbs, mTup, fTup, mLst, fLst, fLenG, fLen, fLenD, mPow, fPow, fIsN, fNotN, D.isNon, D.isHole, fIn, fNotIn, D.truth, mUnp, gN, gT, gsCons, gsNil, mApp, mPop, mMeth, maConsP, tyP, tyD, fL, lApp, lPop, sizeLine_eq, fEq_int, fEq_str, fNe_int, fNe_str, nt]
  have hk' : k < ofs.length := by omega
  have hr := hG.2.2.2 _ (row_mem hs)
  have x1 : (mIf (mTest (mEq (mN 4) (mF1 fLenG (mN 1)))) mBrk mSkip).run [.arg (.tup (BR Rw)), .arg od, a2, .val (nt (hd Rw s)), .val (nt k), .val (.lst true (told.map encE)), .val (.int p), s7, s8, s9, .un] = some (.nx, [.arg (.tup (BR Rw)), .arg od, a2, .val (nt (hd Rw s)), .val (nt k), .val (.lst true (told.map encE)), .val (.int p), s7, s8, s9, .un]) := by
    have hc : ¬ ((k : Int) = ((ofD ofs).length : Nat)) := by rw [hol]; omega
    unfold OD at hod
    generalize ofD ofs = oo at hod hc
    generalize BR Rw = Rs
    generalize told.map encE = tt
    generalize nt (hd Rw s) = h0
    rcases hod with rfl | rfl <;> simp [mSeq, mIf, mTest, mTru, mGt, mLt, mLe, mGe, mEq, mNe, mIsN, mNotN, mIn, mNotIn, mOp, maCons, maNil, mIx, kIx, mN, mC, mSet, mAsgIx, mRet, mRetN, mDrop, mF1, kf, ko, gets, owns, R.get, R.own, R.ok, R.kid, D.kids, D.at, D.pure, D.pureL, dAt, Sl.d?, ixD, ixN, fCmp, fLt, fLe, fGt, fGe, fMod, fDiv, fMul, fAdd, fSub, fInt, fAbs, fSetIx, kCh, enPut, Sl.put, D.put, D.setKid, argsOnly, outs, mMod, mDiv, mMul, mAdd, mSub, mSkip, mBrk, mCnt, mAnd, mOr, mNot, mVal, mIfE, mCall, kCall, imps, wbs, mTup, fTup, mLst, fLst, fLenG, fLen, fLenD, mPow, fPow, fIsN, fNotN, D.isNon, D.isHole, fIn, fNotIn, D.truth, mUnp, gN, gT, gsCons, gsNil, mApp, mPop, mMeth, maConsP, tyP, tyD, fL, lApp, lPop, sizeLine_eq, fEq_int, fEq_str, fNe_int, fNe_str, nt, hc]
  have hcut : fSlLH [.tup (BR Rw), .int ((hd Rw s : Int) + 1), .int ((hd Rw s : Int) + 1 + (row Rw s).length)] = some (.tup ((row Rw s).map (stepR Rw))) := by
    have hle := BR_le hs
    have := cut_ok (br := BR Rw) (a := hd Rw s + 1) (b := hd Rw s + 1 + (row Rw s).length) (by omega) hle pB
    rw [Nat.add_sub_cancel_left, BR_cut hs] at this
    rw [← this]
    congr 1
  have x2 := run_x2 (a1 := .arg od) (a2 := a2) (s4 := .val (nt k)) (s5 := .val (.lst true (told.map encE))) (s6 := .val (.int p)) (s7 := s7) (s8 := s8) (s9 := s9) (s10 := .un) (BR_at hs) hcut
  have q : (iSeq (mN 7)).run [.arg (.tup (BR Rw)), .arg od, a2, .val (nt (hd Rw s)), .val (nt k), .val (.lst true (told.map encE)), .val (.int p), .val (.tup ((row Rw s).map (stepR Rw))), s8, s9, .un] = some ((row Rw s).map (stepR Rw), [.p 7 []], [.arg (.tup (BR Rw)), .arg od, a2, .val (nt (hd Rw s)), .val (nt k), .val (.lst true (told.map encE)), .val (.int p), .val (.tup ((row Rw s).map (stepR Rw))), s8, s9, .un]) := by
    generalize BR Rw = Rs
    generalize told.map encE = tt
    generalize (row Rw s).map (stepR Rw) = sr
    simp [iSeq, mSeq, mIf, mTest, mTru, mGt, mLt, mLe, mGe, mEq, mNe, mIsN, mNotN, mIn, mNotIn, mOp, maCons, maNil, mIx, kIx, mN, mC, mSet, mAsgIx, mRet, mRetN, mDrop, mF1, kf, ko, gets, owns, R.get, R.own, R.ok, R.kid, D.kids, D.at, D.pure, D.pureL, dAt, Sl.d?, ixD, ixN, fCmp, fLt, fLe, fGt, fGe, fMod, fDiv, fMul, fAdd, fSub, fInt, fAbs, fSetIx, kCh, enPut, Sl.put, D.put, D.setKid, argsOnly, outs, mMod, mDiv, mMul, mAdd, mSub, mSkip, mBrk, mCnt, mAnd, mOr, mNot, mVal, mIfE, mCall, kCall, imps, wbs, mTup, fTup, mLst, fLst, fLenG, fLen, fLenD, mPow, fPow, fIsN, fNotN, D.isNon, D.isHole, fIn, fNotIn, D.truth, mUnp, gN, gT, gsCons, gsNil, mApp, mPop, mMeth, maConsP, tyP, tyD, fL, lApp, lPop, sizeLine_eq, fEq_int, fEq_str, fNe_int, fNe_str, D.items]
  have z : lcGo (gN 10) tsR (mN 10) [10] ((row Rw s).map (stepR Rw)) [.arg (.tup (BR Rw)), .arg od, a2, .val (nt (hd Rw s)), .val (nt k), .val (.lst true (told.map encE)), .val (.int p), .val (.tup ((row Rw s).map (stepR Rw))), s8, s9, .un] [] = some (((row Rw s).filter (able ofs k)).map (stepR Rw), [.arg (.tup (BR Rw)), .arg od, a2, .val (nt (hd Rw s)), .val (nt k), .val (.lst true (told.map encE)), .val (.int p), .val (.tup ((row Rw s).map (stepR Rw))), s8, s9, .un]) := by
    generalize D.tup ((row Rw s).map (stepR Rw)) = v7
    exact lcR hG ho hod hk' (row Rw s) [] hr.2 (by rw [List.length_nil]; omega)
  have zz := lc_run1 (tt := tsR) (g := gN 10) (te := mN 10) (v := 10) q (by rfl) z
  change _ = some (R.v (.lst true (((row Rw s).filter (able ofs k)).map (stepR Rw))), [Sl.arg (.tup (BR Rw)), .arg od, a2, .val (nt (hd Rw s)), .val (nt k), .val (.lst true (told.map encE)), .val (.int p), .val (.tup ((row Rw s).map (stepR Rw))), s8, s9, .un]) at zz
  have frp : ∀ e ∈ (row Rw s).filter (able ofs k), Lab E e.1 ∧ e.2 < Rw.length := fun e he => hr.2 e (List.mem_filter.mp he).1
  generalize hfr : (row Rw s).filter (able ofs k) = fr at zz frp
  generalize D.tup ((row Rw s).map (stepR Rw)) = v7 at x2 zz
  have x3 : (mSet 8 (mLc (iSeq (mN 7)) (gN 10) tsR (mN 10) [10])).run [.arg (.tup (BR Rw)), .arg od, a2, .val (nt (hd Rw s)), .val (nt k), .val (.lst true (told.map encE)), .val (.int p), .val v7, s8, s9, .un] = some (.nx, [.arg (.tup (BR Rw)), .arg od, a2, .val (nt (hd Rw s)), .val (nt k), .val (.lst true (told.map encE)), .val (.int p), .val v7, .val (.lst true (fr.map (stepR Rw))), s9, .un]) := by
    show ((mLc (iSeq (mN 7)) (gN 10) tsR (mN 10) [10]).run _).bind _ = _
    rw [zz]
    rfl
  by_cases cf : fr = []
  · refine ⟨.val v7, .val (.lst true []), s9, .inl ⟨.inr cf, ?_⟩⟩
    subst cf
    unfold b_run_f1
    rw [seq_nx x1, seq_nx x2]
    change (mSeq (mSet 8 (mLc (iSeq (mN 7)) (gN 10) tsR (mN 10) [10])) _).run _ = _
    rw [seq_nx x3]
    generalize BR Rw = Rs
    generalize told.map encE = tt
    generalize nt (hd Rw s) = h0
    simp [mSeq, mIf, mTest, mTru, mGt, mLt, mLe, mGe, mEq, mNe, mIsN, mNotN, mIn, mNotIn, mOp, maCons, maNil, mIx, kIx, mN, mC, mSet, mAsgIx, mRet, mRetN, mDrop, mF1, kf, ko, gets, owns, R.get, R.own, R.ok, R.kid, D.kids, D.at, D.pure, D.pureL, dAt, Sl.d?, ixD, ixN, fCmp, fLt, fLe, fGt, fGe, fMod, fDiv, fMul, fAdd, fSub, fInt, fAbs, fSetIx, kCh, enPut, Sl.put, D.put, D.setKid, argsOnly, outs, mMod, mDiv, mMul, mAdd, mSub, mSkip, mBrk, mCnt, mAnd, mOr, mNot, mVal, mIfE, mCall, kCall, imps, wbs, mTup, fTup, mLst, fLst, fLenG, fLen, fLenD, mPow, fPow, fIsN, fNotN, D.isNon, D.isHole, fIn, fNotIn, D.truth, mUnp, gN, gT, gsCons, gsNil, mApp, mPop, mMeth, maConsP, tyP, tyD, fL, lApp, lPop, sizeLine_eq, fEq_int, fEq_str, fNe_int, fNe_str]
  · obtain ⟨j, hj, ej, at1, mem⟩ := pick1_mem (p := p) cf
    obtain ⟨lL, lt⟩ := frp _ mem
    refine ⟨.val v7, .val (.lst true (fr.map (stepR Rw))), .val (stepR Rw (pick1 fr p)), .inr ⟨fun h => h.elim c cf, ?_⟩⟩
    generalize pick1 fr p = st at at1 lL lt
    obtain ⟨L, t⟩ := st
    have lL : Lab E L := lL
    have lt : t < Rw.length := lt
    have pl := (lab_pure hG.1 lL).1
    have psr := stepR_pure (Rw := Rw) (p := (L, t)) hG.1 lL
    have hfl : (fr.map (stepR Rw)).length = fr.length := List.length_map _
    have at2 : (fr.map (stepR Rw))[j]? = some (stepR Rw (L, t)) := by rw [List.getElem?_map, at1]; rfl
    have fp0 : 0 < fr.length := List.length_pos_iff.mpr cf
    have hlab := rlabel_ok (Rw := Rw) (t := t) hG.1 lL
    have bt := BR_at lt
    obtain ⟨x, v, e, a, _⟩ := lab_pair hG.1 lL
    have hx : nam L = x := by rw [e]; rfl
    have pv := a.pure.1
    have he : stepR Rw (L, t) = if x = "" then .tup [.str "inner", v, .non, nt (hd Rw t)] else .tup [.str "event", .str x, v, nt (hd Rw t)] := by
      unfold stepR
      dsimp only
      rw [hx, e]
      rfl
    have tlen : (told.map encE).length < 16777216 := by rw [List.length_map]; omega
    have em : (told ++ [(L, t)]).map encE = told.map encE ++ [.tup [L, .int t]] := by rw [List.map_append]; rfl
    rw [em, hx]
    unfold b_run_f1
    rw [seq_nx x1, seq_nx x2]
    change (mSeq (mSet 8 (mLc (iSeq (mN 7)) (gN 10) tsR (mN 10) [10])) _).run _ = _
    rw [seq_nx x3]
    rw [← hfl] at ej fp0 hj
    generalize fr.map (stepR Rw) = fe at at2 ej fp0 hj
    unfold stR at bt
    generalize BR Rw = Rs at bt
    generalize told.map encE = tt at tlen
    generalize nt (hd Rw s) = h0
    obtain ⟨l1, r1⟩ := List.getElem?_eq_some_iff.mp at2
    obtain ⟨l2, r2⟩ := List.getElem?_eq_some_iff.mp bt
    have hnn : fe ≠ [] := fun z => by rw [z] at fp0; exact absurd fp0 (by decide)
    have hpos : (0 : Int) < fe.length := by omega
    have x4 : (mIf (mNot (mTru (mN 8))) mBrk mSkip).run [.arg (.tup Rs), .arg od, a2, .val h0, .val (nt k), .val (.lst true tt), .val (.int p), .val v7, .val (.lst true fe), s9, .un] = some (.nx, [.arg (.tup Rs), .arg od, a2, .val h0, .val (nt k), .val (.lst true tt), .val (.int p), .val v7, .val (.lst true fe), s9, .un]) := by
      simp [mSeq, mIf, mTest, mTru, mGt, mLt, mLe, mGe, mEq, mNe, mIsN, mNotN, mIn, mNotIn, mOp, maCons, maNil, mIx, kIx, mN, mC, mSet, mAsgIx, mRet, mRetN, mDrop, mF1, kf, ko, gets, owns, R.get, R.own, R.ok, R.kid, D.kids, D.at, D.pure, D.pureL, dAt, Sl.d?, ixD, ixN, fCmp, fLt, fLe, fGt, fGe, fMod, fDiv, fMul, fAdd, fSub, fInt, fAbs, fSetIx, kCh, enPut, Sl.put, D.put, D.setKid, argsOnly, outs, mMod, mDiv, mMul, mAdd, mSub, mSkip, mBrk, mCnt, mAnd, mOr, mNot, mVal, mIfE, mCall, kCall, imps, wbs, mTup, fTup, mLst, fLst, fLenG, fLen, fLenD, mPow, fPow, fIsN, fNotN, D.isNon, D.isHole, fIn, fNotIn, D.truth, mUnp, gN, gT, gsCons, gsNil, mApp, mPop, mMeth, maConsP, tyP, tyD, fL, lApp, lPop, sizeLine_eq, fEq_int, fEq_str, fNe_int, fNe_str, hnn]
    have x5 : (mSet 9 (mIx (mN 8) (mMod (mN 6) (mF1 fLenG (mN 8))))).run [.arg (.tup Rs), .arg od, a2, .val h0, .val (nt k), .val (.lst true tt), .val (.int p), .val v7, .val (.lst true fe), s9, .un] = some (.nx, [.arg (.tup Rs), .arg od, a2, .val h0, .val (nt k), .val (.lst true tt), .val (.int p), .val v7, .val (.lst true fe), .val (stepR Rw (L, t)), .un]) := by
      generalize stepR Rw (L, t) = sr at r1 psr ⊢
      simp [mSeq, mIf, mTest, mTru, mGt, mLt, mLe, mGe, mEq, mNe, mIsN, mNotN, mIn, mNotIn, mOp, maCons, maNil, mIx, kIx, mN, mC, mSet, mAsgIx, mRet, mRetN, mDrop, mF1, kf, ko, gets, owns, R.get, R.own, R.ok, R.kid, D.kids, D.at, D.pure, D.pureL, dAt, Sl.d?, ixD, ixN, fCmp, fLt, fLe, fGt, fGe, fMod, fDiv, fMul, fAdd, fSub, fInt, fAbs, fSetIx, kCh, enPut, Sl.put, D.put, D.setKid, argsOnly, outs, mMod, mDiv, mMul, mAdd, mSub, mSkip, mBrk, mCnt, mAnd, mOr, mNot, mVal, mIfE, mCall, kCall, imps, wbs, mTup, fTup, mLst, fLst, fLenG, fLen, fLenD, mPow, fPow, fIsN, fNotN, D.isNon, D.isHole, fIn, fNotIn, D.truth, mUnp, gN, gT, gsCons, gsNil, mApp, mPop, mMeth, maConsP, tyP, tyD, fL, lApp, lPop, sizeLine_eq, fEq_int, fEq_str, fNe_int, fNe_str, hpos, fp0, hnn, ej, l1, r1, psr]
    have x6 : (mSet 3 (mIx (mN 9) (mC (.int 3)))).run [.arg (.tup Rs), .arg od, a2, .val h0, .val (nt k), .val (.lst true tt), .val (.int p), .val v7, .val (.lst true fe), .val (stepR Rw (L, t)), .un] = some (.nx, [.arg (.tup Rs), .arg od, a2, .val (nt (hd Rw t)), .val (nt k), .val (.lst true tt), .val (.int p), .val v7, .val (.lst true fe), .val (stepR Rw (L, t)), .un]) := by
      rw [he]
      by_cases cx : x = "" <;> simp [mSeq, mIf, mTest, mTru, mGt, mLt, mLe, mGe, mEq, mNe, mIsN, mNotN, mIn, mNotIn, mOp, maCons, maNil, mIx, kIx, mN, mC, mSet, mAsgIx, mRet, mRetN, mDrop, mF1, kf, ko, gets, owns, R.get, R.own, R.ok, R.kid, D.kids, D.at, D.pure, D.pureL, dAt, Sl.d?, ixD, ixN, fCmp, fLt, fLe, fGt, fGe, fMod, fDiv, fMul, fAdd, fSub, fInt, fAbs, fSetIx, kCh, enPut, Sl.put, D.put, D.setKid, argsOnly, outs, mMod, mDiv, mMul, mAdd, mSub, mSkip, mBrk, mCnt, mAnd, mOr, mNot, mVal, mIfE, mCall, kCall, imps, wbs, mTup, fTup, mLst, fLst, fLenG, fLen, fLenD, mPow, fPow, fIsN, fNotN, D.isNon, D.isHole, fIn, fNotIn, D.truth, mUnp, gN, gT, gsCons, gsNil, mApp, mPop, mMeth, maConsP, tyP, tyD, fL, lApp, lPop, sizeLine_eq, fEq_int, fEq_str, fNe_int, fNe_str, nt, cx]
    have x7 : (mDrop (mApp [5] (mN 5) (mTup (maCons (mCall m_row_label [9] (maCons (mN 9) maNil)) (maCons (mIx (mIx (mN 0) (mN 3)) (mC (.int 1))) maNil))))).run [.arg (.tup Rs), .arg od, a2, .val (nt (hd Rw t)), .val (nt k), .val (.lst true tt), .val (.int p), .val v7, .val (.lst true fe), .val (stepR Rw (L, t)), .un] =
        some (.nx, [.arg (.tup Rs), .arg od, a2, .val (nt (hd Rw t)), .val (nt k), .val (.lst true (tt ++ [.tup [L, .int t]])), .val (.int p), .val v7, .val (.lst true fe), .val (stepR Rw (L, t)), .un]) := by
      generalize m_row_label = ml at hlab ⊢
      generalize stepR Rw (L, t) = sr at hlab psr ⊢
      simp [mSeq, mIf, mTest, mTru, mGt, mLt, mLe, mGe, mEq, mNe, mIsN, mNotN, mIn, mNotIn, mOp, maCons, maNil, mIx, kIx, mN, mC, mSet, mAsgIx, mRet, mRetN, mDrop, mF1, kf, ko, gets, owns, R.get, R.own, R.ok, R.kid, D.kids, D.at, D.pure, D.pureL, dAt, Sl.d?, ixD, ixN, fCmp, fLt, fLe, fGt, fGe, fMod, fDiv, fMul, fAdd, fSub, fInt, fAbs, fSetIx, kCh, enPut, Sl.put, D.put, D.setKid, argsOnly, outs, mMod, mDiv, mMul, mAdd, mSub, mSkip, mBrk, mCnt, mAnd, mOr, mNot, mVal, mIfE, mCall, kCall, imps, wbs, mTup, fTup, mLst, fLst, fLenG, fLen, fLenD, mPow, fPow, fIsN, fNotN, D.isNon, D.isHole, fIn, fNotIn, D.truth, mUnp, gN, gT, gsCons, gsNil, mApp, mPop, mMeth, maConsP, tyP, tyD, fL, lApp, lPop, sizeLine_eq, fEq_int, fEq_str, fNe_int, fNe_str, nt, hlab, psr, l2, r2, pl, tlen]
    have x8 : (mIf (mTest (mEq (mIx (mN 9) (mC (.int 0))) (mC (.str "event")))) (mAug (fun i j => i + j) 4 (mC (.int 1))) mSkip).run [.arg (.tup Rs), .arg od, a2, .val (nt (hd Rw t)), .val (nt k), .val (.lst true (tt ++ [.tup [L, .int t]])), .val (.int p), .val v7, .val (.lst true fe), .val (stepR Rw (L, t)), .un] =
        some (.nx, [.arg (.tup Rs), .arg od, a2, .val (nt (hd Rw t)), .val (nt (if x = "" then k else k + 1)), .val (.lst true (tt ++ [.tup [L, .int t]])), .val (.int p), .val v7, .val (.lst true fe), .val (stepR Rw (L, t)), .un]) := by
      have ie_ne : (("inner" : Str) = "event") = False := eq_false (by decide +kernel)
      generalize tt ++ [.tup [L, .int t]] = t2
      rw [he]
      by_cases cx : x = "" <;> simp [mAug, mSeq, mIf, mTest, mTru, mGt, mLt, mLe, mGe, mEq, mNe, mIsN, mNotN, mIn, mNotIn, mOp, maCons, maNil, mIx, kIx, mN, mC, mSet, mAsgIx, mRet, mRetN, mDrop, mF1, kf, ko, gets, owns, R.get, R.own, R.ok, R.kid, D.kids, D.at, D.pure, D.pureL, dAt, Sl.d?, ixD, ixN, fCmp, fLt, fLe, fGt, fGe, fMod, fDiv, fMul, fAdd, fSub, fInt, fAbs, fSetIx, kCh, enPut, Sl.put, D.put, D.setKid, argsOnly, outs, mMod, mDiv, mMul, mAdd, mSub, mSkip, mBrk, mCnt, mAnd, mOr, mNot, mVal, mIfE, mCall, kCall, imps, wbs, mTup, fTup, mLst, fLst, fLenG, fLen, fLenD, mPow, fPow, fIsN, fNotN, D.isNon, D.isHole, fIn, fNotIn, D.truth, mUnp, gN, gT, gsCons, gsNil, mApp, mPop, mMeth, maConsP, tyP, tyD, fL, lApp, lPop, sizeLine_eq, fEq_int, fEq_str, fNe_int, fNe_str, nt, cx, ie_ne]
    rw [seq_nx x4, seq_nx x5, seq_nx x6, seq_nx x7]
    exact x8
end K35
set_option Elab.async false
set_option linter.all false
set_option maxRecDepth 100000
set_option maxHeartbeats 4000000
namespace K35
open PySem PySem.Spec PyProof.Rows L2 G
theorem run_l {E : List D} {Rw : List Row} {a2 : Sl} {od : D} {ofs : List (List D)} (hG : Gr E Rw) (ho : Ofs E ofs) (hod : OD ofs od) : ∀ (ps : List Int) (told : Row) (s k : Nat) (s6 s7 s8 s9 : Sl), s < Rw.length → k ≤ ofs.length → told.length + ps.length ≤ 1000 →
    ∃ u3 u4 u6 u7 u8 u9, forGo (gN 6) b_run_f1 (ps.map D.int) [.arg (.tup (BR Rw)), .arg od, a2, .val (nt (hd Rw s)), .val (nt k), .val (.lst true (told.map encE)), s6, s7, s8, s9, .un] =
      some (.nx, [.arg (.tup (BR Rw)), .arg od, a2, u3, u4, .val (.lst true ((told ++ crs Rw ofs ps s k).map encE)), u6, u7, u8, u9, .un])
  | [], told, s, k, s6, s7, s8, s9, _, _, _ => ⟨.val (nt (hd Rw s)), .val (nt k), s6, s7, s8, s9, by rw [show crs Rw ofs [] s k = [] from rfl, List.append_nil]; exact forGo_nil⟩
  | p :: ps, told, s, k, s6, s7, s8, s9, hs, hk, hl => by
    rw [List.length_cons] at hl
    have g6 : (gN 6).run (.int p) [.arg (.tup (BR Rw)), .arg od, a2, .val (nt (hd Rw s)), .val (nt k), .val (.lst true (told.map encE)), s6, s7, s8, s9, .un] = some [.arg (.tup (BR Rw)), .arg od, a2, .val (nt (hd Rw s)), .val (nt k), .val (.lst true (told.map encE)), .val (.int p), s7, s8, s9, .un] := by simp [gN, D.pure]
    obtain ⟨u7, u8, u9, h⟩ := run_f1 (a2 := a2) (s7 := s7) (s8 := s8) (s9 := s9) (told := told) (p := p) hG ho hod hs hk (by omega)
    rw [List.map_cons]
    rcases h with ⟨hc, hb⟩ | ⟨hc, hb⟩
    · rw [crs_stop hc, List.append_nil]
      exact ⟨.val (nt (hd Rw s)), .val (nt k), .val (.int p), u7, u8, u9, forGo_bk g6 hb⟩
    · obtain ⟨q1, q2, _⟩ := pick_lt (p := p) hG hs hc
      rw [crs_step hc]
      generalize pick1 ((row Rw s).filter (able ofs k)) p = st at hb q1 q2 ⊢
      obtain ⟨v3, v4, v6, v7, v8, v9, hv⟩ := run_l (a2 := a2) hG ho hod ps (told ++ [st]) st.2 (if nam st.1 = "" then k else k + 1) (.val (.int p)) u7 u8 u9 q1 (by split <;> omega) (by rw [List.length_append, List.length_singleton]; omega)
      refine ⟨v3, v4, v6, v7, v8, v9, (forGo_nx g6 hb).trans ?_⟩
      rw [hv, List.append_assoc]
      rfl
theorem run_ok {E : List D} {Rw : List Row} {od pd : D} {ofs : List (List D)} {ps : List Int} (hG : Gr E Rw) (ho : Ofs E ofs) (hod : OD ofs od) (hpd : PD ps pd) (hl : ps.length ≤ 900) :
    m_run [.tup (BR Rw), od, pd] = some (.tup ((crs Rw ofs ps 0 0).map encE), [.tup (BR Rw), od, pd]) := by
  obtain ⟨u3, u4, u6, u7, u8, u9, h⟩ := run_l (a2 := .arg pd) hG ho hod ps [] 0 0 .un .un .un .un hG.2.1 (Nat.zero_le _) (by rw [List.length_nil]; omega)
  rw [List.nil_append] at h
  have pS := steps_pure hG.1 (crs_lab (ofs := ofs) hG ps 0 0 hG.2.1)
  generalize (crs Rw ofs ps 0 0).map encE = cc at h pS ⊢
  have pI := ints_pure ps
  rw [show hd Rw 0 = 0 by simp [hd, hsum], show (([] : Row).map encE) = [] from rfl] at h
  generalize BR Rw = Rs at h ⊢
  refine call_run (e' := argsOnly [.arg (.tup Rs), .arg od, .arg pd, u3, u4, .val (.lst true cc), u6, u7, u8, u9, .un]) rfl ?_ (by simp [outs, argsOnly])
  show b_run.run [.arg (.tup Rs), .arg od, .arg pd, .un, .un, .un, .un, .un, .un, .un, .un] = _
  unfold PD at hpd
  generalize ps.map D.int = pp at h pI hpd ⊢
  have q : (iSeq (mN 2)).run [.arg (.tup Rs), .arg od, .arg pd, .val (nt 0), .val (nt 0), .val (.lst true []), .un, .un, .un, .un, .un] = some (pp, [.p 2 []], [.arg (.tup Rs), .arg od, .arg pd, .val (nt 0), .val (nt 0), .val (.lst true []), .un, .un, .un, .un, .un]) := by
    rcases hpd with rfl | rfl <;> simp [iSeq, mSeq, mIf, mTest, mTru, mGt, mLt, mLe, mGe, mEq, mNe, mIsN, mNotN, mIn, mNotIn, mOp, maCons, maNil, mIx, kIx, mN, mC, mSet, mAsgIx, mRet, mRetN, mDrop, mF1, kf, ko, gets, owns, R.get, R.own, R.ok, R.kid, D.kids, D.at, D.pure, D.pureL, dAt, Sl.d?, ixD, ixN, fCmp, fLt, fLe, fGt, fGe, fMod, fDiv, fMul, fAdd, fSub, fInt, fAbs, fSetIx, kCh, enPut, Sl.put, D.put, D.setKid, argsOnly, outs, mMod, mDiv, mMul, mAdd, mSub, mSkip, mBrk, mCnt, mAnd, mOr, mNot, mVal, mIfE, mCall, kCall, imps, wbs, mTup, fTup, mLst, fLst, fLenG, fLen, fLenD, mPow, fPow, fIsN, fNotN, D.isNon, D.isHole, fIn, fNotIn, D.truth, mUnp, gN, gT, gsCons, gsNil, mApp, mPop, mMeth, maConsP, tyP, tyD, fL, lApp, lPop, sizeLine_eq, fEq_int, fEq_str, fNe_int, fNe_str, D.items]
  unfold b_run
  rw [seq_nx (e1 := [.arg (.tup Rs), .arg od, .arg pd, .val (nt 0), .un, .un, .un, .un, .un, .un, .un]) (by simp [mSeq, mIf, mTest, mTru, mGt, mLt, mLe, mGe, mEq, mNe, mIsN, mNotN, mIn, mNotIn, mOp, maCons, maNil, mIx, kIx, mN, mC, mSet, mAsgIx, mRet, mRetN, mDrop, mF1, kf, ko, gets, owns, R.get, R.own, R.ok, R.kid, D.kids, D.at, D.pure, D.pureL, dAt, Sl.d?, ixD, ixN, fCmp, fLt, fLe, fGt, fGe, fMod, fDiv, fMul, fAdd, fSub, fInt, fAbs, fSetIx, kCh, enPut, Sl.put, D.put, D.setKid, argsOnly, outs, mMod, mDiv, mMul, mAdd, mSub, mSkip, mBrk, mCnt, mAnd, mOr, mNot, mVal, mIfE, mCall, kCall, imps, wbs, mTup, fTup, mLst, fLst, fLenG, fLen, fLenD, mPow, fPow, fIsN, fNotN, D.isNon, D.isHole, fIn, fNotIn, D.truth, mUnp, gN, gT, gsCons, gsNil, mApp, mPop, mMeth, maConsP, tyP, tyD, fL, lApp, lPop, sizeLine_eq, fEq_int, fEq_str, fNe_int, fNe_str, nt]),
    seq_nx (e1 := [.arg (.tup Rs), .arg od, .arg pd, .val (nt 0), .val (nt 0), .un, .un, .un, .un, .un, .un]) (by simp [mSeq, mIf, mTest, mTru, mGt, mLt, mLe, mGe, mEq, mNe, mIsN, mNotN, mIn, mNotIn, mOp, maCons, maNil, mIx, kIx, mN, mC, mSet, mAsgIx, mRet, mRetN, mDrop, mF1, kf, ko, gets, owns, R.get, R.own, R.ok, R.kid, D.kids, D.at, D.pure, D.pureL, dAt, Sl.d?, ixD, ixN, fCmp, fLt, fLe, fGt, fGe, fMod, fDiv, fMul, fAdd, fSub, fInt, fAbs, fSetIx, kCh, enPut, Sl.put, D.put, D.setKid, argsOnly, outs, mMod, mDiv, mMul, mAdd, mSub, mSkip, mBrk, mCnt, mAnd, mOr, mNot, mVal, mIfE, mCall, kCall, imps, wbs, mTup, fTup, mLst, fLst, fLenG, fLen, fLenD, mPow, fPow, fIsN, fNotN, D.isNon, D.isHole, fIn, fNotIn, D.truth, mUnp, gN, gT, gsCons, gsNil, mApp, mPop, mMeth, maConsP, tyP, tyD, fL, lApp, lPop, sizeLine_eq, fEq_int, fEq_str, fNe_int, fNe_str, nt]),
    seq_nx (e1 := [.arg (.tup Rs), .arg od, .arg pd, .val (nt 0), .val (nt 0), .val (.lst true []), .un, .un, .un, .un, .un]) (by simp [mSeq, mIf, mTest, mTru, mGt, mLt, mLe, mGe, mEq, mNe, mIsN, mNotN, mIn, mNotIn, mOp, maCons, maNil, mIx, kIx, mN, mC, mSet, mAsgIx, mRet, mRetN, mDrop, mF1, kf, ko, gets, owns, R.get, R.own, R.ok, R.kid, D.kids, D.at, D.pure, D.pureL, dAt, Sl.d?, ixD, ixN, fCmp, fLt, fLe, fGt, fGe, fMod, fDiv, fMul, fAdd, fSub, fInt, fAbs, fSetIx, kCh, enPut, Sl.put, D.put, D.setKid, argsOnly, outs, mMod, mDiv, mMul, mAdd, mSub, mSkip, mBrk, mCnt, mAnd, mOr, mNot, mVal, mIfE, mCall, kCall, imps, wbs, mTup, fTup, mLst, fLst, fLenG, fLen, fLenD, mPow, fPow, fIsN, fNotN, D.isNon, D.isHole, fIn, fNotIn, D.truth, mUnp, gN, gT, gsCons, gsNil, mApp, mPop, mMeth, maConsP, tyP, tyD, fL, lApp, lPop, sizeLine_eq, fEq_int, fEq_str, fNe_int, fNe_str]),
    seq_nx ((for_run q rfl).trans h)]
  simp [mSeq, mIf, mTest, mTru, mGt, mLt, mLe, mGe, mEq, mNe, mIsN, mNotN, mIn, mNotIn, mOp, maCons, maNil, mIx, kIx, mN, mC, mSet, mAsgIx, mRet, mRetN, mDrop, mF1, kf, ko, gets, owns, R.get, R.own, R.ok, R.kid, D.kids, D.at, D.pure, D.pureL, dAt, Sl.d?, ixD, ixN, fCmp, fLt, fLe, fGt, fGe, fMod, fDiv, fMul, fAdd, fSub, fInt, fAbs, fSetIx, kCh, enPut, Sl.put, D.put, D.setKid, argsOnly, outs, mMod, mDiv, mMul, mAdd, mSub, mSkip, mBrk, mCnt, mAnd, mOr, mNot, mVal, mIfE, mCall, kCall, imps, wbs, mTup, fTup, mLst, fLst, fLenG, fLen, fLenD, mPow, fPow, fIsN, fNotN, D.isNon, D.isHole, fIn, fNotIn, D.truth, mUnp, gN, gT, gsCons, gsNil, mApp, mPop, mMeth, maConsP, tyP, tyD, fL, lApp, lPop, sizeLine_eq, fEq_int, fEq_str, fNe_int, fNe_str, fTuple, D.items, pS]
def tsO : MT := (mOr (mTru (mN 3)) (mTest (mGt (mCall m_l_draw [0] (maCons (mN 0) (maCons (mC (.int 3)) maNil))) (mC (.int 0)))))
theorem offers_lc {E : List D} {s2 s4 : Sl} {ev : D} {wh : Bool} (hE : Evs E) : ∀ (es acc : List D) (S : D), (∀ z ∈ es, z ∈ E) → (∀ z ∈ acc, z ∈ E) → Src S → acc.length + es.length ≤ 100000 →
    ∃ (S' : D) (zs : List D), Src S' ∧ (∀ z ∈ zs, z ∈ E) ∧ lcGo (gN 5) tsO (mN 5) [5] es [.arg S, .arg ev, s2, .val (.bl wh), s4, .un] acc = some (zs, [.arg S', .arg ev, s2, .val (.bl wh), s4, .un])
  | [], acc, S, _, hA, hS, _ => ⟨S, acc, hS, hA, rfl⟩
  | d :: es, acc, S, he, hA, hS, hl => by
    rw [List.length_cons] at hl
    have hd := he d List.mem_cons_self
    have pd := (evs_pure hE hd).1
    have g5 : (gN 5).run d [.arg S, .arg ev, s2, .val (.bl wh), s4, .un] = some [.arg S, .arg ev, s2, .val (.bl wh), s4, .val d] := by simp [gN, pd]
    obtain ⟨r, S1, b1, b2, b3, b4⟩ := draw_ok (n := 3) hS (by decide) (by decide)
    have pS := src_pure hS
    have p1 := src_pure b1
    obtain ⟨S2, b, c1, ht⟩ : ∃ (S2 : D) (b : Bool), Src S2 ∧ tsO.run [.arg S, .arg ev, s2, .val (.bl wh), s4, .val d] = some (b, [.arg S2, .arg ev, s2, .val (.bl wh), s4, .val d]) := by
      unfold tsO
      generalize m_l_draw = md at b4 ⊢
      cases wh with
      | true => exact ⟨S, true, hS, by simp [mSeq, mIf, mTest, mTru, mGt, mLt, mLe, mGe, mEq, mNe, mIsN, mNotN, mIn, mNotIn, mOp, maCons, maNil, mIx, kIx, mN, mC, mSet, mAsgIx, mRet, mRetN, mDrop, mF1, kf, ko, gets, owns, R.get, R.own, R.ok, R.kid, D.kids, D.at, D.pure, D.pureL, dAt, Sl.d?, ixD, ixN, fCmp, fLt, fLe, fGt, fGe, fMod, fDiv, fMul, fAdd, fSub, fInt, fAbs, fSetIx, kCh, enPut, Sl.put, D.put, D.setKid, argsOnly, outs, mMod, mDiv, mMul, mAdd, mSub, mSkip, mBrk, mCnt, mAnd, mOr, mNot, mVal, mIfE, mCall, kCall, imps, wbs, mTup, fTup, mLst, fLst, fLenG, fLen, fLenD, mPow, fPow, fIsN, fNotN, D.isNon, D.isHole, fIn, fNotIn, D.truth, mUnp, gN, gT, gsCons, gsNil, mApp, mPop, mMeth, maConsP, tyP, tyD, fL, lApp, lPop, sizeLine_eq, fEq_int, fEq_str, fNe_int, fNe_str]⟩
      | false => exact ⟨S1, decide (0 < r), b1, by simp [mSeq, mIf, mTest, mTru, mGt, mLt, mLe, mGe, mEq, mNe, mIsN, mNotN, mIn, mNotIn, mOp, maCons, maNil, mIx, kIx, mN, mC, mSet, mAsgIx, mRet, mRetN, mDrop, mF1, kf, ko, gets, owns, R.get, R.own, R.ok, R.kid, D.kids, D.at, D.pure, D.pureL, dAt, Sl.d?, ixD, ixN, fCmp, fLt, fLe, fGt, fGe, fMod, fDiv, fMul, fAdd, fSub, fInt, fAbs, fSetIx, kCh, enPut, Sl.put, D.put, D.setKid, argsOnly, outs, mMod, mDiv, mMul, mAdd, mSub, mSkip, mBrk, mCnt, mAnd, mOr, mNot, mVal, mIfE, mCall, kCall, imps, wbs, mTup, fTup, mLst, fLst, fLenG, fLen, fLenD, mPow, fPow, fIsN, fNotN, D.isNon, D.isHole, fIn, fNotIn, D.truth, mUnp, gN, gT, gsCons, gsNil, mApp, mPop, mMeth, maConsP, tyP, tyD, fL, lApp, lPop, sizeLine_eq, fEq_int, fEq_str, fNe_int, fNe_str, b4, pS, p1]⟩
    have ow : R.own (.p 5 []) [.arg S2, .arg ev, s2, .val (.bl wh), s4, .val d] = some d := by simp [mSeq, mIf, mTest, mTru, mGt, mLt, mLe, mGe, mEq, mNe, mIsN, mNotN, mIn, mNotIn, mOp, maCons, maNil, mIx, kIx, mN, mC, mSet, mAsgIx, mRet, mRetN, mDrop, mF1, kf, ko, gets, owns, R.get, R.own, R.ok, R.kid, D.kids, D.at, D.pure, D.pureL, dAt, Sl.d?, ixD, ixN, fCmp, fLt, fLe, fGt, fGe, fMod, fDiv, fMul, fAdd, fSub, fInt, fAbs, fSetIx, kCh, enPut, Sl.put, D.put, D.setKid, argsOnly, outs, mMod, mDiv, mMul, mAdd, mSub, mSkip, mBrk, mCnt, mAnd, mOr, mNot, mVal, mIfE, mCall, kCall, imps, wbs, mTup, fTup, mLst, fLst, fLenG, fLen, fLenD, mPow, fPow, fIsN, fNotN, D.isNon, D.isHole, fIn, fNotIn, D.truth, mUnp, gN, gT, gsCons, gsNil, mApp, mPop, mMeth, maConsP, tyP, tyD, fL, lApp, lPop, sizeLine_eq, fEq_int, fEq_str, fNe_int, fNe_str, pd]
    have wp : wipeE [.arg S2, .arg ev, s2, .val (.bl wh), s4, .val d] [5] = [.arg S2, .arg ev, s2, .val (.bl wh), s4, .un] := by simp [wipeE]
    have hz : acc.length < sizeLine := by rw [sizeLine_eq]; omega
    rw [lcGo, g5, Option.bind_some, ht, Option.bind_some]
    dsimp only
    cases b with
    | true =>
      rw [if_pos rfl, show (mN 5).run [.arg S2, .arg ev, s2, .val (.bl wh), s4, .val d] = some (.p 5 [], [.arg S2, .arg ev, s2, .val (.bl wh), s4, .val d]) from rfl, Option.bind_some]
      dsimp only
      rw [ow, Option.bind_some, if_pos hz, wp]
      exact offers_lc hE es (acc ++ [d]) S2 (fun x hx => he x (List.mem_cons_of_mem _ hx)) (fun z hz => by
        rcases List.mem_append.mp hz with hz | hz
        · exact hA z hz
        · rw [List.mem_singleton] at hz; exact hz ▸ hd) c1 (by rw [List.length_append, List.length_singleton]; omega)
    | false =>
      rw [if_neg Bool.false_ne_true, wp]
      exact offers_lc hE es acc S2 (fun x hx => he x (List.mem_cons_of_mem _ hx)) hA c1 (by omega)
theorem offers_f1 {E : List D} {S : D} {ofs : List (List D)} {s4 : Sl} {wh : Bool} (hE : Evs E) (hl : E.length ≤ 1000) (hS : Src S) (ho : ∀ evs ∈ ofs, ∀ z ∈ evs, z ∈ E) (hn : ofs.length ≤ 1000) :
    ∃ (S' : D) (zs : List D), Src S' ∧ (∀ z ∈ zs, z ∈ E) ∧ b_l_offers_f1.run [.arg S, .arg (.lst true E), .val (.lst true (ofD ofs)), .val (.bl wh), s4, .un] = some (.nx, [.arg S', .arg (.lst true E), .val (.lst true (ofD (ofs ++ [zs]))), .val (.bl wh), s4, .un]) := by
  obtain ⟨S1, zs, a1, a2, a3⟩ := offers_lc (s2 := .val (.lst true (ofD ofs))) (s4 := s4) (ev := .lst true E) (wh := wh) hE E [] S (fun _ h => h) (by simp) hS (by rw [List.length_nil]; omega)
  refine ⟨S1, zs, a1, a2, ?_⟩
  have pz : D.pureL zs = true := pureL_all fun z hz => (evs_pure hE (a2 z hz)).1
  have q : (iSeq (mN 1)).run [.arg S, .arg (.lst true E), .val (.lst true (ofD ofs)), .val (.bl wh), s4, .un] = some (E, [.p 1 []], [.arg S, .arg (.lst true E), .val (.lst true (ofD ofs)), .val (.bl wh), s4, .un]) := by
    generalize ofD ofs = oo
    simp [iSeq, mSeq, mIf, mTest, mTru, mGt, mLt, mLe, mGe, mEq, mNe, mIsN, mNotN, mIn, mNotIn, mOp, maCons, maNil, mIx, kIx, mN, mC, mSet, mAsgIx, mRet, mRetN, mDrop, mF1, kf, ko, gets, owns, R.get, R.own, R.ok, R.kid, D.kids, D.at, D.pure, D.pureL, dAt, Sl.d?, ixD, ixN, fCmp, fLt, fLe, fGt, fGe, fMod, fDiv, fMul, fAdd, fSub, fInt, fAbs, fSetIx, kCh, enPut, Sl.put, D.put, D.setKid, argsOnly, outs, mMod, mDiv, mMul, mAdd, mSub, mSkip, mBrk, mCnt, mAnd, mOr, mNot, mVal, mIfE, mCall, kCall, imps, wbs, mTup, fTup, mLst, fLst, fLenG, fLen, fLenD, mPow, fPow, fIsN, fNotN, D.isNon, D.isHole, fIn, fNotIn, D.truth, mUnp, gN, gT, gsCons, gsNil, mApp, mPop, mMeth, maConsP, tyP, tyD, fL, lApp, lPop, sizeLine_eq, fEq_int, fEq_str, fNe_int, fNe_str, D.items]
  have zz := lc_run1 (tt := tsO) (g := gN 5) (te := mN 5) (v := 5) q (by rfl) a3
  change _ = some (R.v (.lst true zs), [Sl.arg S1, .arg (.lst true E), .val (.lst true (ofD ofs)), .val (.bl wh), s4, .un]) at zz
  have eo : ofD (ofs ++ [zs]) = ofD ofs ++ [.tup zs] := by unfold ofD; rw [List.map_append]; rfl
  have hz : (ofD ofs).length < 16777216 := by unfold ofD; rw [List.length_map]; omega
  rw [eo]
  show (mDrop (mApp [2] (mN 2) (mF1 fTuple (mLc (iSeq (mN 1)) (gN 5) tsO (mN 5) [5])))).run _ = _
  generalize mLc (iSeq (mN 1)) (gN 5) tsO (mN 5) [5] = ml at zz
  generalize ofD ofs = oo at zz hz ⊢
  simp [mSeq, mIf, mTest, mTru, mGt, mLt, mLe, mGe, mEq, mNe, mIsN, mNotN, mIn, mNotIn, mOp, maCons, maNil, mIx, kIx, mN, mC, mSet, mAsgIx, mRet, mRetN, mDrop, mF1, kf, ko, gets, owns, R.get, R.own, R.ok, R.kid, D.kids, D.at, D.pure, D.pureL, dAt, Sl.d?, ixD, ixN, fCmp, fLt, fLe, fGt, fGe, fMod, fDiv, fMul, fAdd, fSub, fInt, fAbs, fSetIx, kCh, enPut, Sl.put, D.put, D.setKid, argsOnly, outs, mMod, mDiv, mMul, mAdd, mSub, mSkip, mBrk, mCnt, mAnd, mOr, mNot, mVal, mIfE, mCall, kCall, imps, wbs, mTup, fTup, mLst, fLst, fLenG, fLen, fLenD, mPow, fPow, fIsN, fNotN, D.isNon, D.isHole, fIn, fNotIn, D.truth, mUnp, gN, gT, gsCons, gsNil, mApp, mPop, mMeth, maConsP, tyP, tyD, fL, lApp, lPop, sizeLine_eq, fEq_int, fEq_str, fNe_int, fNe_str, zz, fTuple, D.items, pz, hz]
theorem offers_l {E : List D} {wh : Bool} (hE : Evs E) (hl : E.length ≤ 1000) : ∀ (ds : List D) (ofs : List (List D)) (S : D) (s4 : Sl), (∀ d ∈ ds, d.pure = true) → Src S → (∀ evs ∈ ofs, ∀ z ∈ evs, z ∈ E) → ofs.length + ds.length ≤ 900 →
    ∃ (S' : D) (ofs' : List (List D)) (u4 : Sl), Src S' ∧ (∀ evs ∈ ofs', ∀ z ∈ evs, z ∈ E) ∧ ofs'.length = ofs.length + ds.length ∧ forGo (gN 4) b_l_offers_f1 ds [.arg S, .arg (.lst true E), .val (.lst true (ofD ofs)), .val (.bl wh), s4, .un] = some (.nx, [.arg S', .arg (.lst true E), .val (.lst true (ofD ofs')), .val (.bl wh), u4, .un])
  | [], ofs, S, s4, _, hS, ho, _ => ⟨S, ofs, s4, hS, ho, rfl, forGo_nil⟩
  | d :: ds, ofs, S, s4, hd, hS, ho, hn => by
    rw [List.length_cons] at hn
    have g4 : (gN 4).run d [.arg S, .arg (.lst true E), .val (.lst true (ofD ofs)), .val (.bl wh), s4, .un] = some [.arg S, .arg (.lst true E), .val (.lst true (ofD ofs)), .val (.bl wh), .val d, .un] := by simp [gN, hd d List.mem_cons_self]
    obtain ⟨S1, zs, a1, a2, a3⟩ := offers_f1 (s4 := .val d) (wh := wh) hE hl hS ho (by omega)
    obtain ⟨S2, o2, u4, b1, b2, b3, b4⟩ := offers_l (wh := wh) hE hl ds (ofs ++ [zs]) S1 (.val d) (fun x hx => hd x (List.mem_cons_of_mem _ hx)) a1 (fun evs he => by
      rcases List.mem_append.mp he with he | he
      · exact ho evs he
      · rw [List.mem_singleton] at he; rw [he]; exact a2) (by rw [List.length_append, List.length_singleton]; omega)
    exact ⟨S2, o2, u4, b1, b2, by rw [b3, List.length_append, List.length_singleton, List.length_cons]; omega, (forGo_nx g4 a3).trans b4⟩
theorem offers_ok {E : List D} {S : D} (hE : Evs E) (hl : E.length ≤ 1000) (hS : Src S) : ∃ (S' : D) (ofs : List (List D)), Src S' ∧ Ofs E ofs ∧ m_l_offers [S, .lst true E] = some (.lst true (ofD ofs), [S', .lst true E]) := by
  obtain ⟨r, S1, a1, a2, a3, a4⟩ := draw_ok (n := 3) hS (by decide) (by decide)
  obtain ⟨r2, S2, b1, b2, b3, b4⟩ := draw_ok (n := 21) a1 (by decide) (by decide)
  obtain ⟨S3, ofs, u4, c1, c2, c3, c4⟩ := offers_l (wh := decide (r = 0)) hE hl (dRange 0 r2) [] S2 .un (dRange_pure 0 _) b1 (by simp) (by rw [dRange_len, List.length_nil]; omega)
  rw [dRange_len, List.length_nil] at c3
  refine ⟨S3, ofs, c1, ⟨by omega, c2⟩, ?_⟩
  have p0 := src_pure hS
  have p1 := src_pure a1
  have p2 := src_pure b1
  refine call_run (e' := argsOnly [.arg S3, .arg (.lst true E), .val (.lst true (ofD ofs)), .val (.bl (decide (r = 0))), u4, .un]) rfl ?_ (by simp [outs, argsOnly])
  show b_l_offers.run [.arg S, .arg (.lst true E), .un, .un, .un, .un] = _
  have x1 : (mSet 2 (mLst maNil)).run [.arg S, .arg (.lst true E), .un, .un, .un, .un] = some (.nx, [.arg S, .arg (.lst true E), .val (.lst true (ofD [])), .un, .un, .un]) := by
    simp [mSeq, mIf, mTest, mTru, mGt, mLt, mLe, mGe, mEq, mNe, mIsN, mNotN, mIn, mNotIn, mOp, maCons, maNil, mIx, kIx, mN, mC, mSet, mAsgIx, mRet, mRetN, mDrop, mF1, kf, ko, gets, owns, R.get, R.own, R.ok, R.kid, D.kids, D.at, D.pure, D.pureL, dAt, Sl.d?, ixD, ixN, fCmp, fLt, fLe, fGt, fGe, fMod, fDiv, fMul, fAdd, fSub, fInt, fAbs, fSetIx, kCh, enPut, Sl.put, D.put, D.setKid, argsOnly, outs, mMod, mDiv, mMul, mAdd, mSub, mSkip, mBrk, mCnt, mAnd, mOr, mNot, mVal, mIfE, mCall, kCall, imps, wbs, mTup, fTup, mLst, fLst, fLenG, fLen, fLenD, mPow, fPow, fIsN, fNotN, D.isNon, D.isHole, fIn, fNotIn, D.truth, mUnp, gN, gT, gsCons, gsNil, mApp, mPop, mMeth, maConsP, tyP, tyD, fL, lApp, lPop, sizeLine_eq, fEq_int, fEq_str, fNe_int, fNe_str, ofD]
  have x2 : (mSet 3 (mEq (mCall m_l_draw [0] (maCons (mN 0) (maCons (mC (.int 3)) maNil))) (mC (.int 0)))).run [.arg S, .arg (.lst true E), .val (.lst true (ofD [])), .un, .un, .un] = some (.nx, [.arg S1, .arg (.lst true E), .val (.lst true (ofD [])), .val (.bl (decide (r = 0))), .un, .un]) := by
    generalize m_l_draw = md at a4 ⊢
    generalize ofD [] = oo
    simp [mSeq, mIf, mTest, mTru, mGt, mLt, mLe, mGe, mEq, mNe, mIsN, mNotN, mIn, mNotIn, mOp, maCons, maNil, mIx, kIx, mN, mC, mSet, mAsgIx, mRet, mRetN, mDrop, mF1, kf, ko, gets, owns, R.get, R.own, R.ok, R.kid, D.kids, D.at, D.pure, D.pureL, dAt, Sl.d?, ixD, ixN, fCmp, fLt, fLe, fGt, fGe, fMod, fDiv, fMul, fAdd, fSub, fInt, fAbs, fSetIx, kCh, enPut, Sl.put, D.put, D.setKid, argsOnly, outs, mMod, mDiv, mMul, mAdd, mSub, mSkip, mBrk, mCnt, mAnd, mOr, mNot, mVal, mIfE, mCall, kCall, imps, wbs, mTup, fTup, mLst, fLst, fLenG, fLen, fLenD, mPow, fPow, fIsN, fNotN, D.isNon, D.isHole, fIn, fNotIn, D.truth, mUnp, gN, gT, gsCons, gsNil, mApp, mPop, mMeth, maConsP, tyP, tyD, fL, lApp, lPop, sizeLine_eq, fEq_int, fEq_str, fNe_int, fNe_str, a4, p0, p1]
  have dr : (mCall m_l_draw [0] (maCons (mN 0) (maCons (mC (.int 21)) maNil))).run [.arg S1, .arg (.lst true E), .val (.lst true (ofD [])), .val (.bl (decide (r = 0))), .un, .un] = some (.v (.int r2), [.arg S2, .arg (.lst true E), .val (.lst true (ofD [])), .val (.bl (decide (r = 0))), .un, .un]) := by
    generalize m_l_draw = md at b4 ⊢
    generalize ofD [] = oo
    simp [mSeq, mIf, mTest, mTru, mGt, mLt, mLe, mGe, mEq, mNe, mIsN, mNotN, mIn, mNotIn, mOp, maCons, maNil, mIx, kIx, mN, mC, mSet, mAsgIx, mRet, mRetN, mDrop, mF1, kf, ko, gets, owns, R.get, R.own, R.ok, R.kid, D.kids, D.at, D.pure, D.pureL, dAt, Sl.d?, ixD, ixN, fCmp, fLt, fLe, fGt, fGe, fMod, fDiv, fMul, fAdd, fSub, fInt, fAbs, fSetIx, kCh, enPut, Sl.put, D.put, D.setKid, argsOnly, outs, mMod, mDiv, mMul, mAdd, mSub, mSkip, mBrk, mCnt, mAnd, mOr, mNot, mVal, mIfE, mCall, kCall, imps, wbs, mTup, fTup, mLst, fLst, fLenG, fLen, fLenD, mPow, fPow, fIsN, fNotN, D.isNon, D.isHole, fIn, fNotIn, D.truth, mUnp, gN, gT, gsCons, gsNil, mApp, mPop, mMeth, maConsP, tyP, tyD, fL, lApp, lPop, sizeLine_eq, fEq_int, fEq_str, fNe_int, fNe_str, b4, p1, p2]
  have rg := rng_call dr b2 (by omega)
  unfold b_l_offers
  rw [seq_nx x1, seq_nx x2, seq_nx ((for_run rg rfl).trans c4)]
  generalize ofD ofs = oo
  simp [mSeq, mIf, mTest, mTru, mGt, mLt, mLe, mGe, mEq, mNe, mIsN, mNotN, mIn, mNotIn, mOp, maCons, maNil, mIx, kIx, mN, mC, mSet, mAsgIx, mRet, mRetN, mDrop, mF1, kf, ko, gets, owns, R.get, R.own, R.ok, R.kid, D.kids, D.at, D.pure, D.pureL, dAt, Sl.d?, ixD, ixN, fCmp, fLt, fLe, fGt, fGe, fMod, fDiv, fMul, fAdd, fSub, fInt, fAbs, fSetIx, kCh, enPut, Sl.put, D.put, D.setKid, argsOnly, outs, mMod, mDiv, mMul, mAdd, mSub, mSkip, mBrk, mCnt, mAnd, mOr, mNot, mVal, mIfE, mCall, kCall, imps, wbs, mTup, fTup, mLst, fLst, fLenG, fLen, fLenD, mPow, fPow, fIsN, fNotN, D.isNon, D.isHole, fIn, fNotIn, D.truth, mUnp, gN, gT, gsCons, gsNil, mApp, mPop, mMeth, maConsP, tyP, tyD, fL, lApp, lPop, sizeLine_eq, fEq_int, fEq_str, fNe_int, fNe_str]
theorem mulB {i j : Int} (h1 : i.natAbs < 2 ^ 100) (h2 : j.natAbs < 2 ^ 100) : CMulW i j := by
  have a := log2_lt (n := 100) h1 (by decide)
  have b := log2_lt (n := 100) h2 (by decide)
  show i.natAbs.log2 + j.natAbs.log2 < 1000000
  omega
theorem pick_s1 {S S1 : D} {r : Int} {b : MS} (h : m_l_draw [S, .int 6] = some (.int r, [S1, .int 6])) (p0 : S.pure = false) (p1 : S1.pure = false) : (mIf (mTest (mEq (mCall m_l_draw [0] (maCons (mN 0) (maCons (mC (.int 6)) maNil))) (mC (.int 0)))) b mSkip).run [.arg S, .un] = if r = 0 then b.run [.arg S1, .un] else some (.nx, [.arg S1, .un]) := by
  generalize m_l_draw = md at h ⊢
  by_cases c : r = 0 <;> simp [mSeq, mIf, mTest, mTru, mGt, mLt, mLe, mGe, mEq, mNe, mIsN, mNotN, mIn, mNotIn, mOp, maCons, maNil, mIx, kIx, mN, mC, mSet, mAsgIx, mRet, mRetN, mDrop, mF1, kf, ko, gets, owns, R.get, R.own, R.ok, R.kid, D.kids, D.at, D.pure, D.pureL, dAt, Sl.d?, ixD, ixN, fCmp, fLt, fLe, fGt, fGe, fMod, fDiv, fMul, fAdd, fSub, fInt, fAbs, fSetIx, kCh, enPut, Sl.put, D.put, D.setKid, argsOnly, outs, mMod, mDiv, mMul, mAdd, mSub, mSkip, mBrk, mCnt, mAnd, mOr, mNot, mVal, mIfE, mCall, kCall, imps, wbs, mTup, fTup, mLst, fLst, fLenG, fLen, fLenD, mPow, fPow, fIsN, fNotN, D.isNon, D.isHole, fIn, fNotIn, D.truth, mUnp, gN, gT, gsCons, gsNil, mApp, mPop, mMeth, maConsP, tyP, tyD, fL, lApp, lPop, sizeLine_eq, fEq_int, fEq_str, fNe_int, fNe_str, h, p0, p1, c]
theorem pick_ok {S : D} (hS : Src S) : ∃ (S' : D) (p : Int), Src S' ∧ m_l_pick [S] = some (.int p, [S']) := by
  obtain ⟨r, S1, a1, a2, a3, a4⟩ := draw_ok (n := 6) hS (by decide) (by decide)
  have p0 := src_pure hS
  have p1 := src_pure a1
  have x1 := fun b => pick_s1 (b := b) a4 p0 p1
  by_cases c : r = 0
  · obtain ⟨r2, S2, b1, b2, b3, b4⟩ := draw_ok (n := 3) a1 (by decide) (by decide)
    obtain ⟨r3, S3, c1, c2, c3, c4⟩ := draw_ok (n := 2147483629) b1 (by decide) (by decide)
    obtain ⟨r4, S4, d1, d2, d3, d4⟩ := draw_ok (n := 97) c1 (by decide) (by decide)
    have p2 := src_pure b1
    have p3 := src_pure c1
    have p4 := src_pure d1
    obtain ⟨g, hg, x2⟩ : ∃ g : Int, g.natAbs < 2 ^ 100 ∧ (mSet 1 (mIx (mLst (maCons (mC (.int 1)) (maCons (mPow (mC (.int 10)) (mC (.int 9))) (maCons (mPow (mC (.int 10)) (mC (.int 30))) maNil)))) (mCall m_l_draw [0] (maCons (mN 0) (maCons (mC (.int 3)) maNil))))).run [.arg S1, .un] = some (.nx, [.arg S2, .val (.int g)]) := by
      have l9 : (mPow (mC (.int 10)) (mC (.int 9))).run [.arg S1, .un] = some (.v (.int 1000000000), [.arg S1, .un]) := by rfl
      have l30 : (mPow (mC (.int 10)) (mC (.int 30))).run [.arg S1, .un] = some (.v (.int 1000000000000000000000000000000), [.arg S1, .un]) := by rfl
      have m9 : (mPow (mC (.int 10)) (mC (.int 9))).ms = [] := rfl
      have m30 : (mPow (mC (.int 10)) (mC (.int 30))).ms = [] := rfl
      generalize mPow (mC (.int 10)) (mC (.int 9)) = q9 at l9 m9 ⊢
      generalize mPow (mC (.int 10)) (mC (.int 30)) = q30 at l30 m30 ⊢
      generalize m_l_draw = md at b4 ⊢
      have h3 : r2 = 0 ∨ r2 = 1 ∨ r2 = 2 := by omega
      rcases h3 with rfl | rfl | rfl
      · exact ⟨1, by decide, by simp [mSeq, mIf, mTest, mTru, mGt, mLt, mLe, mGe, mEq, mNe, mIsN, mNotN, mIn, mNotIn, mOp, maCons, maNil, mIx, kIx, mN, mC, mSet, mAsgIx, mRet, mRetN, mDrop, mF1, kf, ko, gets, owns, R.get, R.own, R.ok, R.kid, D.kids, D.at, D.pure, D.pureL, dAt, Sl.d?, ixD, ixN, fCmp, fLt, fLe, fGt, fGe, fMod, fDiv, fMul, fAdd, fSub, fInt, fAbs, fSetIx, kCh, enPut, Sl.put, D.put, D.setKid, argsOnly, outs, mMod, mDiv, mMul, mAdd, mSub, mSkip, mBrk, mCnt, mAnd, mOr, mNot, mVal, mIfE, mCall, kCall, imps, wbs, mTup, fTup, mLst, fLst, fLenG, fLen, fLenD, mPow, fPow, fIsN, fNotN, D.isNon, D.isHole, fIn, fNotIn, D.truth, mUnp, gN, gT, gsCons, gsNil, mApp, mPop, mMeth, maConsP, tyP, tyD, fL, lApp, lPop, sizeLine_eq, fEq_int, fEq_str, fNe_int, fNe_str, l9, l30, m9, m30, b4, p1, p2]⟩
      · exact ⟨1000000000, by decide, by simp [mSeq, mIf, mTest, mTru, mGt, mLt, mLe, mGe, mEq, mNe, mIsN, mNotN, mIn, mNotIn, mOp, maCons, maNil, mIx, kIx, mN, mC, mSet, mAsgIx, mRet, mRetN, mDrop, mF1, kf, ko, gets, owns, R.get, R.own, R.ok, R.kid, D.kids, D.at, D.pure, D.pureL, dAt, Sl.d?, ixD, ixN, fCmp, fLt, fLe, fGt, fGe, fMod, fDiv, fMul, fAdd, fSub, fInt, fAbs, fSetIx, kCh, enPut, Sl.put, D.put, D.setKid, argsOnly, outs, mMod, mDiv, mMul, mAdd, mSub, mSkip, mBrk, mCnt, mAnd, mOr, mNot, mVal, mIfE, mCall, kCall, imps, wbs, mTup, fTup, mLst, fLst, fLenG, fLen, fLenD, mPow, fPow, fIsN, fNotN, D.isNon, D.isHole, fIn, fNotIn, D.truth, mUnp, gN, gT, gsCons, gsNil, mApp, mPop, mMeth, maConsP, tyP, tyD, fL, lApp, lPop, sizeLine_eq, fEq_int, fEq_str, fNe_int, fNe_str, l9, l30, m9, m30, b4, p1, p2]⟩
      · exact ⟨1000000000000000000000000000000, by decide, by simp [mSeq, mIf, mTest, mTru, mGt, mLt, mLe, mGe, mEq, mNe, mIsN, mNotN, mIn, mNotIn, mOp, maCons, maNil, mIx, kIx, mN, mC, mSet, mAsgIx, mRet, mRetN, mDrop, mF1, kf, ko, gets, owns, R.get, R.own, R.ok, R.kid, D.kids, D.at, D.pure, D.pureL, dAt, Sl.d?, ixD, ixN, fCmp, fLt, fLe, fGt, fGe, fMod, fDiv, fMul, fAdd, fSub, fInt, fAbs, fSetIx, kCh, enPut, Sl.put, D.put, D.setKid, argsOnly, outs, mMod, mDiv, mMul, mAdd, mSub, mSkip, mBrk, mCnt, mAnd, mOr, mNot, mVal, mIfE, mCall, kCall, imps, wbs, mTup, fTup, mLst, fLst, fLenG, fLen, fLenD, mPow, fPow, fIsN, fNotN, D.isNon, D.isHole, fIn, fNotIn, D.truth, mUnp, gN, gT, gsCons, gsNil, mApp, mPop, mMeth, maConsP, tyP, tyD, fL, lApp, lPop, sizeLine_eq, fEq_int, fEq_str, fNe_int, fNe_str, l9, l30, m9, m30, b4, p1, p2]⟩
    have hm : CMulW r3 g := mulB (by omega) hg
    refine ⟨S4, r3 * g + r4, d1, ?_⟩
    refine call_run (e' := argsOnly [.arg S4, .val (.int g)]) rfl ?_ (by simp [outs, argsOnly])
    show b_l_pick.run [.arg S, .un] = _
    unfold b_l_pick
    refine seq_rt ?_
    rw [x1, if_pos c, seq_nx x2]
    generalize m_l_draw = md at c4 d4 ⊢
    simp [mSeq, mIf, mTest, mTru, mGt, mLt, mLe, mGe, mEq, mNe, mIsN, mNotN, mIn, mNotIn, mOp, maCons, maNil, mIx, kIx, mN, mC, mSet, mAsgIx, mRet, mRetN, mDrop, mF1, kf, ko, gets, owns, R.get, R.own, R.ok, R.kid, D.kids, D.at, D.pure, D.pureL, dAt, Sl.d?, ixD, ixN, fCmp, fLt, fLe, fGt, fGe, fMod, fDiv, fMul, fAdd, fSub, fInt, fAbs, fSetIx, kCh, enPut, Sl.put, D.put, D.setKid, argsOnly, outs, mMod, mDiv, mMul, mAdd, mSub, mSkip, mBrk, mCnt, mAnd, mOr, mNot, mVal, mIfE, mCall, kCall, imps, wbs, mTup, fTup, mLst, fLst, fLenG, fLen, fLenD, mPow, fPow, fIsN, fNotN, D.isNon, D.isHole, fIn, fNotIn, D.truth, mUnp, gN, gT, gsCons, gsNil, mApp, mPop, mMeth, maConsP, tyP, tyD, fL, lApp, lPop, sizeLine_eq, fEq_int, fEq_str, fNe_int, fNe_str, c4, d4, p2, p3, p4, hm]
  · obtain ⟨r2, S2, b1, b2, b3, b4⟩ := draw_ok (n := 12) a1 (by decide) (by decide)
    have p2 := src_pure b1
    refine ⟨S2, r2, b1, ?_⟩
    refine call_run (e' := argsOnly [.arg S2, .un]) rfl ?_ (by simp [outs, argsOnly])
    show b_l_pick.run [.arg S, .un] = _
    unfold b_l_pick
    rw [seq_nx (by rw [x1, if_neg c])]
    generalize m_l_draw = md at b4 ⊢
    simp [mSeq, mIf, mTest, mTru, mGt, mLt, mLe, mGe, mEq, mNe, mIsN, mNotN, mIn, mNotIn, mOp, maCons, maNil, mIx, kIx, mN, mC, mSet, mAsgIx, mRet, mRetN, mDrop, mF1, kf, ko, gets, owns, R.get, R.own, R.ok, R.kid, D.kids, D.at, D.pure, D.pureL, dAt, Sl.d?, ixD, ixN, fCmp, fLt, fLe, fGt, fGe, fMod, fDiv, fMul, fAdd, fSub, fInt, fAbs, fSetIx, kCh, enPut, Sl.put, D.put, D.setKid, argsOnly, outs, mMod, mDiv, mMul, mAdd, mSub, mSkip, mBrk, mCnt, mAnd, mOr, mNot, mVal, mIfE, mCall, kCall, imps, wbs, mTup, fTup, mLst, fLst, fLenG, fLen, fLenD, mPow, fPow, fIsN, fNotN, D.isNon, D.isHole, fIn, fNotIn, D.truth, mUnp, gN, gT, gsCons, gsNil, mApp, mPop, mMeth, maConsP, tyP, tyD, fL, lApp, lPop, sizeLine_eq, fEq_int, fEq_str, fNe_int, fNe_str, b4, p1, p2]
end K35
set_option Elab.async false
set_option linter.all false
set_option maxRecDepth 100000
set_option maxHeartbeats 4000000
namespace K35
open PySem PySem.Spec PyProof.Rows L2 G
theorem sim_val {v : D} (h : Alk v v) (n : Nat) : Sim (n + 1) v := by
  rcases h with ⟨rfl, _⟩ | ⟨i, _, rfl, _⟩ | ⟨x, _, rfl, _⟩ <;> exact trivial
theorem sim_lab {E : List D} (hE : Evs E) {L : D} (h : Lab E L) (n : Nat) : Sim (n + 2) L := by
  obtain ⟨x, v, rfl, a, _⟩ := lab_pair hE h
  refine ⟨(show 2 ≤ 100000 by decide), fun d hd => ?_⟩
  rcases List.mem_cons.mp hd with rfl | hd
  · exact trivial
  · rw [List.mem_singleton] at hd
    rw [hd]
    exact sim_val a n
theorem sim_step {E : List D} (hE : Evs E) {p : D × Nat} (h : Lab E p.1) (n : Nat) : Sim (n + 3) (encE p) := by
  refine ⟨(show 2 ≤ 100000 by decide), fun d hd => ?_⟩
  rcases List.mem_cons.mp hd with rfl | hd
  · exact sim_lab hE h n
  · rw [List.mem_singleton] at hd
    rw [hd]
    exact trivial
theorem sim_steps {E : List D} (hE : Evs E) {st : Row} (h : ∀ p ∈ st, Lab E p.1) (hl : st.length ≤ 100000) : Sim 6 (.tup (st.map encE)) := by
  refine ⟨by rw [List.length_map]; exact hl, fun d hd => ?_⟩
  obtain ⟨p, hp, rfl⟩ := List.mem_map.mp hd
  exact sim_step hE (h p hp) 2
theorem eqv_all {n : Nat} (ih : ∀ d : D, Sim n d → PyData.eqv d.toPy d.toPy = true) : ∀ ds : List D, (∀ d ∈ ds, Sim n d) → PyData.eqvAll (D.toPyL ds) (D.toPyL ds) = true
  | [], _ => by simp [D.toPyL, PyData.eqvAll]
  | d :: ds, h => by
    rw [D.toPyL, PyData.eqvAll, ih d (h d List.mem_cons_self), eqv_all ih ds fun x hx => h x (List.mem_cons_of_mem _ hx)]
    rfl
theorem sim_eqv : ∀ {n : Nat} {d : D}, Sim n d → PyData.eqv d.toPy d.toPy = true
  | 0, d, h => h.elim
  | n + 1, .non, _ => by simp [D.toPy, PyData.eqv]
  | n + 1, .int _, _ => by simp [D.toPy, PyData.eqv]
  | n + 1, .str _, _ => by simp [D.toPy, PyData.eqv]
  | n + 1, .tup ds, h => by
    rw [D.toPy, PyData.eqv]
    exact eqv_all (fun d hd => sim_eqv hd) ds h.2
  | n + 1, .bl _, h => h.elim
  | n + 1, .lst _ _, h => h.elim
  | n + 1, .dct _ _ _, h => h.elim
  | n + 1, .set _ _, h => h.elim
  | n + 1, .hole, h => h.elim
theorem eqv_list : ∀ {ds : List D}, (∀ d ∈ ds, PyData.eqv d.toPy d.toPy = true) → PyData.eqvAll (D.toPyL ds) (D.toPyL ds) = true
  | [], _ => by simp [D.toPyL, PyData.eqvAll]
  | d :: ds, h => by
    rw [D.toPyL, PyData.eqvAll, h d List.mem_cons_self, eqv_list fun x hx => h x (List.mem_cons_of_mem _ hx)]
    rfl
theorem lst_ne {ds : List D} (h : ∀ d ∈ ds, PyData.eqv d.toPy d.toPy = true) (hp : D.plainL ds = true) (hs : SeqAt.shaped (.list (D.toPyL ds)) = true) : fNe [.lst true ds, .lst true ds] = some (.bl false) := by
  have e : eqD (.lst true ds) (.lst true ds) = some true := by
    show (if (D.plainL ds && D.plainL ds && SeqAt.shaped (.list (D.toPyL ds)) && SeqAt.shaped (.list (D.toPyL ds))) = true then some (PyData.eqv (.list (D.toPyL ds)) (.list (D.toPyL ds))) else none) = _
    rw [hp, hs, PyData.eqv, eqv_list h]
    rfl
  show (eqD _ _).map _ = _
  rw [e]
  rfl
theorem ints_ne (ps : List Int) : fNe [.lst true (ps.map D.int), .lst true (ps.map D.int)] = some (.bl false) := by
  refine lst_ne (fun d hd => ?_) (ints_plain ps) (by rw [ints_toPy]; exact shaped_ints ps)
  obtain ⟨i, _, rfl⟩ := List.mem_map.mp hd
  exact sim_eqv (n := 1) trivial
theorem ofs_lay {E : List D} (hE : Evs E) : ∀ (ofs : List (List D)), (∀ evs ∈ ofs, ∀ z ∈ evs, z ∈ E) → PyData.canLayAll0 (D.toPyL (ofD ofs)) = true ∧ PyData.depthAll (D.toPyL (ofD ofs)) ≤ 2
  | [], _ => by simp [ofD, D.toPyL, PyData.canLayAll0, PyData.depthAll]
  | evs :: ofs, h => by
    obtain ⟨a, b⟩ := evs_lay hE (h evs List.mem_cons_self)
    obtain ⟨c, d⟩ := ofs_lay hE ofs fun x hx => h x (List.mem_cons_of_mem _ hx)
    have e : D.toPyL (ofD (evs :: ofs)) = .tuple (D.toPyL evs) :: D.toPyL (ofD ofs) := by
      show D.toPyL (.tup evs :: ofD ofs) = _
      rw [D.toPyL, D.toPy]
    rw [e, PyData.canLayAll0, PyData.depthAll, PyData.canLay0, PyData.depth, a, c]
    exact ⟨rfl, by omega⟩
theorem ofs_ne {E : List D} (hE : Evs E) {ofs : List (List D)} (ho : Ofs E ofs) : fNe [.lst true (ofD ofs), .lst true (ofD ofs)] = some (.bl false) := by
  obtain ⟨a, b⟩ := ofs_lay hE ofs ho.2
  refine lst_ne (fun d hd => ?_) (plainL_all fun d hd => ?_) ?_
  · obtain ⟨evs, he, rfl⟩ := List.mem_map.mp hd
    rw [D.toPy, PyData.eqv]
    exact eqv_list fun z hz => sim_eqv (sim_lab hE (.inr (.inr (ho.2 evs he z hz))) 0)
  · obtain ⟨evs, he, rfl⟩ := List.mem_map.mp hd
    exact plainL_all fun z hz => (evs_pure hE (ho.2 evs he z hz)).2
  · unfold SeqAt.shaped
    rw [PyData.canLay0, PyData.depth, a, Bool.true_and, decide_eq_true_eq]
    omega
inductive Pth (Rw : List Row) : Row → Nat → Prop
  | nil : Pth Rw [] 0
  | snoc {st : Row} {s t : Nat} {L : D} : Pth Rw st s → (L, t) ∈ row Rw s → Pth Rw (st ++ [(L, t)]) t
def wordOf (st : Row) : List D := (st.filter fun p => decide (nam p.1 ≠ "")).map fun p => p.1
theorem crs_pth {E : List D} {Rw : List Row} {ofs : List (List D)} (hG : Gr E Rw) : ∀ (ps : List Int) (told : Row) (s k : Nat), s < Rw.length → Pth Rw told s → ∃ t, Pth Rw (told ++ crs Rw ofs ps s k) t
  | [], told, s, k, _, h => ⟨s, by rw [show crs Rw ofs [] s k = [] from rfl, List.append_nil]; exact h⟩
  | p :: ps, told, s, k, hs, h => by
    by_cases c : k = ofs.length ∨ (row Rw s).filter (able ofs k) = []
    · rw [crs_stop c, List.append_nil]; exact ⟨s, h⟩
    · obtain ⟨q1, q2, q3⟩ := pick_lt (p := p) hG hs c
      rw [crs_step c]
      generalize pick1 ((row Rw s).filter (able ofs k)) p = st at q1 q2 q3 ⊢
      obtain ⟨t, ht⟩ := crs_pth hG ps (told ++ [st]) st.2 (if nam st.1 = "" then k else k + 1) q1 (.snoc h q3)
      refine ⟨t, ?_⟩
      rw [List.append_assoc] at ht
      exact ht
theorem rch_app {Rw : List Row} {ws xs : List D} {s k : Nat} (h : Rch Rw ws s k) : Rch Rw (ws ++ xs) s k := by
  induction h with
  | z => exact .z
  | inn _ hm hx ih => exact .inn ih hm hx
  | ev _ hm hw he ih => exact .ev ih hm (by rw [List.getElem?_append_left (List.getElem?_eq_some_iff.mp hw).1]; exact hw) he
theorem pth_rch {E : List D} {Rw : List Row} (hE : Evs E) {st : Row} {s : Nat} (h : Pth Rw st s) : (∀ p ∈ st, Lab E p.1) → Rch Rw (wordOf st) s (wordOf st).length := by
  induction h with
  | nil => exact fun _ => .z
  | @snoc st s t L h hm ih =>
    intro hl
    have lL : Lab E L := hl _ (List.mem_append_right _ (List.mem_singleton_self _))
    have ih := ih fun p hp => hl p (List.mem_append_left _ hp)
    by_cases c : nam L = ""
    · have e : wordOf (st ++ [(L, t)]) = wordOf st := by
        unfold wordOf
        rw [List.filter_append]
        simp [c]
      rw [e]
      exact .inn ih hm c
    · have e : wordOf (st ++ [(L, t)]) = wordOf st ++ [L] := by
        unfold wordOf
        rw [List.filter_append]
        simp [c]
      rw [e, List.length_append, List.length_singleton]
      exact .ev (rch_app ih) hm (by rw [List.getElem?_append_right (Nat.le_refl _), Nat.sub_self]; rfl) (sim_eqv (sim_lab hE lL 0))
theorem pth_last {Rw : List Row} {st : Row} {s : Nat} (h : Pth Rw st s) : (st = [] ∧ s = 0) ∨ ∃ L, st[st.length - 1]? = some (L, s) ∧ st ≠ [] := by
  cases h with
  | nil => exact .inl ⟨rfl, rfl⟩
  | @snoc st s _ L _ hm => exact .inr ⟨L, by rw [List.length_append, List.length_singleton, Nat.add_sub_cancel, List.getElem?_append_right (Nat.le_refl _), Nat.sub_self]; rfl, by simp⟩
theorem word_in {E : List D} {st : Row} (h : ∀ p ∈ st, Lab E p.1) : ∀ W ∈ wordOf st, W ∈ E := fun W hW => by
  unfold wordOf at hW
  obtain ⟨p, hp, rfl⟩ := List.mem_map.mp hW
  rw [List.mem_filter, decide_eq_true_eq] at hp
  exact nam_ev (h p hp.1) hp.2
end K35
set_option Elab.async false
set_option linter.all false
set_option maxRecDepth 100000
set_option maxHeartbeats 4000000
namespace K35
open PySem PySem.Spec PyProof.Rows L2 G
theorem ran_s4 {mo : Fn} {X X' G : D} {br E oo : List D} (h : mo [X, .lst true E] = some (.lst true oo, [X', .lst true E])) (p0 : X.pure = false) (p1 : X'.pure = false) :
    (mSet 4 (mCall mo [0, 3] (maCons (mN 0) (maCons (mN 3) maNil)))).run [.arg X, .arg G, .arg (.tup br), .arg (.lst true E), .un, .un, .un, .un, .un, .un, .un, .un, .un, .un, .un] = some (.nx, [.arg X', .arg G, .arg (.tup br), .arg (.lst true E), .val (.lst true oo), .un, .un, .un, .un, .un, .un, .un, .un, .un, .un]) := by
  simp [mSeq, mIf, mTest, mTru, mGt, mLt, mLe, mGe, mEq, mNe, mIsN, mNotN, mIn, mNotIn, mOp, maCons, maNil, mIx, kIx, mN, mC, mSet, mAsgIx, mRet, mRetN, mDrop, mF1, kf, ko, gets, owns, R.get, R.own, R.ok, R.kid, D.kids, D.at, D.pure, D.pureL, dAt, Sl.d?, ixD, ixN, fCmp, fLt, fLe, fGt, fGe, fMod, fDiv, fMul, fAdd, fSub, fInt, fAbs, fSetIx, kCh, enPut, Sl.put, D.put, D.setKid, argsOnly, outs, mMod, mDiv, mMul, mAdd, mSub, mSkip, mBrk, mCnt, mAnd, mOr, mNot, mVal, mIfE, mCall, kCall, imps, wbs, mTup, fTup, mLst, fLst, fLenG, fLen, fLenD, mPow, fPow, fIsN, fNotN, D.isNon, D.isHole, fIn, fNotIn, D.truth, mUnp, gN, gT, gsCons, gsNil, mApp, mPop, mMeth, maConsP, tyP, tyD, fL, lApp, lPop, sizeLine_eq, fEq_int, fEq_str, fNe_int, fNe_str, h, p0, p1]
theorem ran_lc {G : D} {br E oo : List D} : ∀ (ds : List D) (acc : List Int) (X : D), (∀ d ∈ ds, d.pure = true) → Src X → acc.length + ds.length ≤ 900 →
    ∃ (X' : D) (ps : List Int), Src X' ∧ ps.length = acc.length + ds.length ∧ lcGo (gN 13) mYes (mCall m_l_pick [0] (maCons (mN 0) maNil)) [13] ds [.arg X, .arg G, .arg (.tup br), .arg (.lst true E), .val (.lst true oo), .un, .un, .un, .un, .un, .un, .un, .un, .un, .un] (acc.map D.int) =
      some (ps.map D.int, [.arg X', .arg G, .arg (.tup br), .arg (.lst true E), .val (.lst true oo), .un, .un, .un, .un, .un, .un, .un, .un, .un, .un])
  | [], acc, X, _, hX, _ => ⟨X, acc, hX, rfl, rfl⟩
  | d :: ds, acc, X, hd, hX, hl => by
    rw [List.length_cons] at hl
    have pd := hd d List.mem_cons_self
    obtain ⟨X1, p, a1, a2⟩ := pick_ok hX
    obtain ⟨X2, ps, b1, b2, b3⟩ := ran_lc (G := G) (br := br) (E := E) (oo := oo) ds (acc ++ [p]) X1 (fun x hx => hd x (List.mem_cons_of_mem _ hx)) a1 (by rw [List.length_append, List.length_singleton]; omega)
    refine ⟨X2, ps, b1, by rw [b2, List.length_append, List.length_singleton, List.length_cons]; omega, ?_⟩
    rw [← b3]
    have p0 := src_pure hX
    have p1 := src_pure a1
    have g13 : (gN 13).run d [.arg X, .arg G, .arg (.tup br), .arg (.lst true E), .val (.lst true oo), .un, .un, .un, .un, .un, .un, .un, .un, .un, .un] = some [.arg X, .arg G, .arg (.tup br), .arg (.lst true E), .val (.lst true oo), .un, .un, .un, .un, .un, .un, .un, .un, .val d, .un] := by simp [gN, pd]
    have te : (mCall m_l_pick [0] (maCons (mN 0) maNil)).run [.arg X, .arg G, .arg (.tup br), .arg (.lst true E), .val (.lst true oo), .un, .un, .un, .un, .un, .un, .un, .un, .val d, .un] = some (.v (.int p), [.arg X1, .arg G, .arg (.tup br), .arg (.lst true E), .val (.lst true oo), .un, .un, .un, .un, .un, .un, .un, .un, .val d, .un]) := by
      generalize m_l_pick = mp at a2 ⊢
      simp [mSeq, mIf, mTest, mTru, mGt, mLt, mLe, mGe, mEq, mNe, mIsN, mNotN, mIn, mNotIn, mOp, maCons, maNil, mIx, kIx, mN, mC, mSet, mAsgIx, mRet, mRetN, mDrop, mF1, kf, ko, gets, owns, R.get, R.own, R.ok, R.kid, D.kids, D.at, D.pure, D.pureL, dAt, Sl.d?, ixD, ixN, fCmp, fLt, fLe, fGt, fGe, fMod, fDiv, fMul, fAdd, fSub, fInt, fAbs, fSetIx, kCh, enPut, Sl.put, D.put, D.setKid, argsOnly, outs, mMod, mDiv, mMul, mAdd, mSub, mSkip, mBrk, mCnt, mAnd, mOr, mNot, mVal, mIfE, mCall, kCall, imps, wbs, mTup, fTup, mLst, fLst, fLenG, fLen, fLenD, mPow, fPow, fIsN, fNotN, D.isNon, D.isHole, fIn, fNotIn, D.truth, mUnp, gN, gT, gsCons, gsNil, mApp, mPop, mMeth, maConsP, tyP, tyD, fL, lApp, lPop, sizeLine_eq, fEq_int, fEq_str, fNe_int, fNe_str, a2, p0, p1]
    have wp : wipeE [.arg X1, .arg G, .arg (.tup br), .arg (.lst true E), .val (.lst true oo), .un, .un, .un, .un, .un, .un, .un, .un, .val d, .un] [13] = [.arg X1, .arg G, .arg (.tup br), .arg (.lst true E), .val (.lst true oo), .un, .un, .un, .un, .un, .un, .un, .un, .un, .un] := by simp [wipeE]
    have hz : (acc.map D.int).length < sizeLine := by rw [sizeLine_eq, List.length_map]; omega
    rw [lcGo, g13, Option.bind_some, show mYes.run [.arg X, .arg G, .arg (.tup br), .arg (.lst true E), .val (.lst true oo), .un, .un, .un, .un, .un, .un, .un, .un, .val d, .un] = some (true, [.arg X, .arg G, .arg (.tup br), .arg (.lst true E), .val (.lst true oo), .un, .un, .un, .un, .un, .un, .un, .un, .val d, .un]) from rfl, Option.bind_some]
    dsimp only
    rw [if_pos rfl, te, Option.bind_some]
    dsimp only
    rw [show R.own (.v (.int p)) [.arg X1, .arg G, .arg (.tup br), .arg (.lst true E), .val (.lst true oo), .un, .un, .un, .un, .un, .un, .un, .un, .val d, .un] = some (.int p) from rfl, Option.bind_some, if_pos hz, wp, List.map_append]
    rfl
theorem ran_s5 {G : D} {br E oo : List D} {X : D} (hX : Src X) : ∃ (X' : D) (ps : List Int), Src X' ∧ ps.length ≤ 25 ∧ (mSet 5 (mLc (iRng (ma1 (mCall m_l_draw [0] (maCons (mN 0) (maCons (mC (.int 25)) maNil))))) (gN 13) mYes (mCall m_l_pick [0] (maCons (mN 0) maNil)) [13])).run [.arg X, .arg G, .arg (.tup br), .arg (.lst true E), .val (.lst true oo), .un, .un, .un, .un, .un, .un, .un, .un, .un, .un] =
    some (.nx, [.arg X', .arg G, .arg (.tup br), .arg (.lst true E), .val (.lst true oo), .val (.lst true (ps.map D.int)), .un, .un, .un, .un, .un, .un, .un, .un, .un]) := by
  obtain ⟨r, X1, a1, a2, a3, a4⟩ := draw_ok (n := 25) hX (by decide) (by decide)
  obtain ⟨X2, ps, b1, b2, b3⟩ := ran_lc (G := G) (br := br) (E := E) (oo := oo) (dRange 0 r) [] X1 (dRange_pure 0 _) a1 (by rw [dRange_len, List.length_nil]; omega)
  rw [dRange_len, List.length_nil] at b2
  refine ⟨X2, ps, b1, by omega, ?_⟩
  have p0 := src_pure hX
  have p1 := src_pure a1
  have dr : (mCall m_l_draw [0] (maCons (mN 0) (maCons (mC (.int 25)) maNil))).run [.arg X, .arg G, .arg (.tup br), .arg (.lst true E), .val (.lst true oo), .un, .un, .un, .un, .un, .un, .un, .un, .un, .un] = some (.v (.int r), [.arg X1, .arg G, .arg (.tup br), .arg (.lst true E), .val (.lst true oo), .un, .un, .un, .un, .un, .un, .un, .un, .un, .un]) := by
    generalize m_l_draw = md at a4 ⊢
    simp [mSeq, mIf, mTest, mTru, mGt, mLt, mLe, mGe, mEq, mNe, mIsN, mNotN, mIn, mNotIn, mOp, maCons, maNil, mIx, kIx, mN, mC, mSet, mAsgIx, mRet, mRetN, mDrop, mF1, kf, ko, gets, owns, R.get, R.own, R.ok, R.kid, D.kids, D.at, D.pure, D.pureL, dAt, Sl.d?, ixD, ixN, fCmp, fLt, fLe, fGt, fGe, fMod, fDiv, fMul, fAdd, fSub, fInt, fAbs, fSetIx, kCh, enPut, Sl.put, D.put, D.setKid, argsOnly, outs, mMod, mDiv, mMul, mAdd, mSub, mSkip, mBrk, mCnt, mAnd, mOr, mNot, mVal, mIfE, mCall, kCall, imps, wbs, mTup, fTup, mLst, fLst, fLenG, fLen, fLenD, mPow, fPow, fIsN, fNotN, D.isNon, D.isHole, fIn, fNotIn, D.truth, mUnp, gN, gT, gsCons, gsNil, mApp, mPop, mMeth, maConsP, tyP, tyD, fL, lApp, lPop, sizeLine_eq, fEq_int, fEq_str, fNe_int, fNe_str, a4, p0, p1]
  have rg := rng_call dr a2 (by omega)
  have zz := lc_run1 (tt := mYes) (g := gN 13) (te := mCall m_l_pick [0] (maCons (mN 0) maNil)) (v := 13) rg (by rfl) b3
  show ((mLc (iRng (ma1 (mCall m_l_draw [0] (maCons (mN 0) (maCons (mC (.int 25)) maNil))))) (gN 13) mYes (mCall m_l_pick [0] (maCons (mN 0) maNil)) [13]).run _).bind _ = _
  rw [zz]
  rfl
theorem ran_s6 {mc : Fn} {X I O : D} {Rs br E oo pp cc : List D} (h : mc [.tup Rs, .lst true oo, .lst true pp] = some (.tup cc, [.tup Rs, .lst true oo, .lst true pp])) (pR : D.pureL Rs = true) (pC : D.pureL cc = true) :
    (mSet 6 (mCall mc [1, 4, 5] (maCons (mIx (mN 1) (mC (.int 3))) (maCons (mN 4) (maCons (mN 5) maNil))))).run [.arg X, .arg (.tup [.str "graph", I, O, .tup Rs]), .arg (.tup br), .arg (.lst true E), .val (.lst true oo), .val (.lst true pp), .un, .un, .un, .un, .un, .un, .un, .un, .un] =
      some (.nx, [.arg X, .arg (.tup [.str "graph", I, O, .tup Rs]), .arg (.tup br), .arg (.lst true E), .val (.lst true oo), .val (.lst true pp), .val (.tup cc), .un, .un, .un, .un, .un, .un, .un, .un]) := by
  simp [mSeq, mIf, mTest, mTru, mGt, mLt, mLe, mGe, mEq, mNe, mIsN, mNotN, mIn, mNotIn, mOp, maCons, maNil, mIx, kIx, mN, mC, mSet, mAsgIx, mRet, mRetN, mDrop, mF1, kf, ko, gets, owns, R.get, R.own, R.ok, R.kid, D.kids, D.at, D.pure, D.pureL, dAt, Sl.d?, ixD, ixN, fCmp, fLt, fLe, fGt, fGe, fMod, fDiv, fMul, fAdd, fSub, fInt, fAbs, fSetIx, kCh, enPut, Sl.put, D.put, D.setKid, argsOnly, outs, mMod, mDiv, mMul, mAdd, mSub, mSkip, mBrk, mCnt, mAnd, mOr, mNot, mVal, mIfE, mCall, kCall, imps, wbs, mTup, fTup, mLst, fLst, fLenG, fLen, fLenD, mPow, fPow, fIsN, fNotN, D.isNon, D.isHole, fIn, fNotIn, D.truth, mUnp, gN, gT, gsCons, gsNil, mApp, mPop, mMeth, maConsP, tyP, tyD, fL, lApp, lPop, sizeLine_eq, fEq_int, fEq_str, fNe_int, fNe_str, h, pR, pC]
theorem ran_s7 {X G : D} {br E oo pp cc : List D} (po : D.pureL oo = true) : (mSet 7 (mF1 fListG (mN 4))).run [.arg X, .arg G, .arg (.tup br), .arg (.lst true E), .val (.lst true oo), .val (.lst true pp), .val (.tup cc), .un, .un, .un, .un, .un, .un, .un, .un] =
    some (.nx, [.arg X, .arg G, .arg (.tup br), .arg (.lst true E), .val (.lst true oo), .val (.lst true pp), .val (.tup cc), .val (.lst true oo), .un, .un, .un, .un, .un, .un, .un]) := by
  simp [mSeq, mIf, mTest, mTru, mGt, mLt, mLe, mGe, mEq, mNe, mIsN, mNotN, mIn, mNotIn, mOp, maCons, maNil, mIx, kIx, mN, mC, mSet, mAsgIx, mRet, mRetN, mDrop, mF1, kf, ko, gets, owns, R.get, R.own, R.ok, R.kid, D.kids, D.at, D.pure, D.pureL, dAt, Sl.d?, ixD, ixN, fCmp, fLt, fLe, fGt, fGe, fMod, fDiv, fMul, fAdd, fSub, fInt, fAbs, fSetIx, kCh, enPut, Sl.put, D.put, D.setKid, argsOnly, outs, mMod, mDiv, mMul, mAdd, mSub, mSkip, mBrk, mCnt, mAnd, mOr, mNot, mVal, mIfE, mCall, kCall, imps, wbs, mTup, fTup, mLst, fLst, fLenG, fLen, fLenD, mPow, fPow, fIsN, fNotN, D.isNon, D.isHole, fIn, fNotIn, D.truth, mUnp, gN, gT, gsCons, gsNil, mApp, mPop, mMeth, maConsP, tyP, tyD, fL, lApp, lPop, sizeLine_eq, fEq_int, fEq_str, fNe_int, fNe_str, fListG, fList, D.items, po]
theorem ran_s8 {X G : D} {br E oo pp cc : List D} (pp0 : D.pureL pp = true) : (mSet 8 (mF1 fListG (mN 5))).run [.arg X, .arg G, .arg (.tup br), .arg (.lst true E), .val (.lst true oo), .val (.lst true pp), .val (.tup cc), .val (.lst true oo), .un, .un, .un, .un, .un, .un, .un] =
    some (.nx, [.arg X, .arg G, .arg (.tup br), .arg (.lst true E), .val (.lst true oo), .val (.lst true pp), .val (.tup cc), .val (.lst true oo), .val (.lst true pp), .un, .un, .un, .un, .un, .un]) := by
  simp [mSeq, mIf, mTest, mTru, mGt, mLt, mLe, mGe, mEq, mNe, mIsN, mNotN, mIn, mNotIn, mOp, maCons, maNil, mIx, kIx, mN, mC, mSet, mAsgIx, mRet, mRetN, mDrop, mF1, kf, ko, gets, owns, R.get, R.own, R.ok, R.kid, D.kids, D.at, D.pure, D.pureL, dAt, Sl.d?, ixD, ixN, fCmp, fLt, fLe, fGt, fGe, fMod, fDiv, fMul, fAdd, fSub, fInt, fAbs, fSetIx, kCh, enPut, Sl.put, D.put, D.setKid, argsOnly, outs, mMod, mDiv, mMul, mAdd, mSub, mSkip, mBrk, mCnt, mAnd, mOr, mNot, mVal, mIfE, mCall, kCall, imps, wbs, mTup, fTup, mLst, fLst, fLenG, fLen, fLenD, mPow, fPow, fIsN, fNotN, D.isNon, D.isHole, fIn, fNotIn, D.truth, mUnp, gN, gT, gsCons, gsNil, mApp, mPop, mMeth, maConsP, tyP, tyD, fL, lApp, lPop, sizeLine_eq, fEq_int, fEq_str, fNe_int, fNe_str, fListG, fList, D.items, pp0]
theorem ran_s9 {mr : Fn} {X G : D} {br E oo pp cc : List D} (h : mr [.tup br, .lst true oo, .lst true pp] = some (.tup cc, [.tup br, .lst true oo, .lst true pp])) (pB : D.pureL br = true) (pC : D.pureL cc = true) : (mSet 9 (mCall mr [2, 7, 8] (maCons (mN 2) (maCons (mN 7) (maCons (mN 8) maNil))))).run [.arg X, .arg G, .arg (.tup br), .arg (.lst true E), .val (.lst true oo), .val (.lst true pp), .val (.tup cc), .val (.lst true oo), .val (.lst true pp), .un, .un, .un, .un, .un, .un] =
    some (.nx, [.arg X, .arg G, .arg (.tup br), .arg (.lst true E), .val (.lst true oo), .val (.lst true pp), .val (.tup cc), .val (.lst true oo), .val (.lst true pp), .val (.tup cc), .un, .un, .un, .un, .un]) := by
  simp [mSeq, mIf, mTest, mTru, mGt, mLt, mLe, mGe, mEq, mNe, mIsN, mNotN, mIn, mNotIn, mOp, maCons, maNil, mIx, kIx, mN, mC, mSet, mAsgIx, mRet, mRetN, mDrop, mF1, kf, ko, gets, owns, R.get, R.own, R.ok, R.kid, D.kids, D.at, D.pure, D.pureL, dAt, Sl.d?, ixD, ixN, fCmp, fLt, fLe, fGt, fGe, fMod, fDiv, fMul, fAdd, fSub, fInt, fAbs, fSetIx, kCh, enPut, Sl.put, D.put, D.setKid, argsOnly, outs, mMod, mDiv, mMul, mAdd, mSub, mSkip, mBrk, mCnt, mAnd, mOr, mNot, mVal, mIfE, mCall, kCall, imps, wbs, mTup, fTup, mLst, fLst, fLenG, fLen, fLenD, mPow, fPow, fIsN, fNotN, D.isNon, D.isHole, fIn, fNotIn, D.truth, mUnp, gN, gT, gsCons, gsNil, mApp, mPop, mMeth, maConsP, tyP, tyD, fL, lApp, lPop, sizeLine_eq, fEq_int, fEq_str, fNe_int, fNe_str, h, pB, pC]
theorem ran_s10 {mq : Fn} {b : MS} {X G : D} {br E oo pp cc : List D} (h1 : fNe [.lst true oo, .lst true oo] = some (.bl false)) (h2 : fNe [.lst true pp, .lst true pp] = some (.bl false)) (hq : mq [.tup cc, .tup cc] = some (.bl true, [.tup cc, .tup cc])) (pC : D.pureL cc = true) :
    (mIf (mOr (mTest (mNe (mN 7) (mN 4))) (mOr (mTest (mNe (mN 8) (mN 5))) (mNot (mTru (mCall mq [6, 9] (maCons (mN 9) (maCons (mN 6) maNil))))))) b mSkip).run [.arg X, .arg G, .arg (.tup br), .arg (.lst true E), .val (.lst true oo), .val (.lst true pp), .val (.tup cc), .val (.lst true oo), .val (.lst true pp), .val (.tup cc), .un, .un, .un, .un, .un] =
      some (.nx, [.arg X, .arg G, .arg (.tup br), .arg (.lst true E), .val (.lst true oo), .val (.lst true pp), .val (.tup cc), .val (.lst true oo), .val (.lst true pp), .val (.tup cc), .un, .un, .un, .un, .un]) := by
  simp [mSeq, mIf, mTest, mTru, mGt, mLt, mLe, mGe, mEq, mNe, mIsN, mNotN, mIn, mNotIn, mOp, maCons, maNil, mIx, kIx, mN, mC, mSet, mAsgIx, mRet, mRetN, mDrop, mF1, kf, ko, gets, owns, R.get, R.own, R.ok, R.kid, D.kids, D.at, D.pure, D.pureL, dAt, Sl.d?, ixD, ixN, fCmp, fLt, fLe, fGt, fGe, fMod, fDiv, fMul, fAdd, fSub, fInt, fAbs, fSetIx, kCh, enPut, Sl.put, D.put, D.setKid, argsOnly, outs, mMod, mDiv, mMul, mAdd, mSub, mSkip, mBrk, mCnt, mAnd, mOr, mNot, mVal, mIfE, mCall, kCall, imps, wbs, mTup, fTup, mLst, fLst, fLenG, fLen, fLenD, mPow, fPow, fIsN, fNotN, D.isNon, D.isHole, fIn, fNotIn, D.truth, mUnp, gN, gT, gsCons, gsNil, mApp, mPop, mMeth, maConsP, tyP, tyD, fL, lApp, lPop, sizeLine_eq, fEq_int, fEq_str, fNe_int, fNe_str, h1, h2, hq, pC]
theorem ran_s11 {mq mr : Fn} {b : MS} {X G : D} {br E oo pp cc : List D} {s7 s8 s9 : Sl} (h : mr [.tup br, .tup oo, .tup pp] = some (.tup cc, [.tup br, .tup oo, .tup pp])) (hq : mq [.tup cc, .tup cc] = some (.bl true, [.tup cc, .tup cc])) (pB : D.pureL br = true) (po : D.pureL oo = true) (pp0 : D.pureL pp = true) (pC : D.pureL cc = true) :
    (mIf (mNot (mTru (mCall mq [6] (maCons (mCallK (1 + 2) [0, 2, 1] mr [2] (maCons (mN 2) (maCons (mF1 fTuple (mN 5)) (maCons (mF1 fTuple (mN 4)) maNil)))) (maCons (mN 6) maNil))))) b mSkip).run [.arg X, .arg G, .arg (.tup br), .arg (.lst true E), .val (.lst true oo), .val (.lst true pp), .val (.tup cc), s7, s8, s9, .un, .un, .un, .un, .un] =
      some (.nx, [.arg X, .arg G, .arg (.tup br), .arg (.lst true E), .val (.lst true oo), .val (.lst true pp), .val (.tup cc), s7, s8, s9, .un, .un, .un, .un, .un]) := by
  simp [mSeq, mIf, mTest, mTru, mGt, mLt, mLe, mGe, mEq, mNe, mIsN, mNotN, mIn, mNotIn, mOp, maCons, maNil, mIx, kIx, mN, mC, mSet, mAsgIx, mRet, mRetN, mDrop, mF1, kf, ko, gets, owns, R.get, R.own, R.ok, R.kid, D.kids, D.at, D.pure, D.pureL, dAt, Sl.d?, ixD, ixN, fCmp, fLt, fLe, fGt, fGe, fMod, fDiv, fMul, fAdd, fSub, fInt, fAbs, fSetIx, kCh, enPut, Sl.put, D.put, D.setKid, argsOnly, outs, mMod, mDiv, mMul, mAdd, mSub, mSkip, mBrk, mCnt, mAnd, mOr, mNot, mVal, mIfE, mCall, kCall, imps, wbs, mTup, fTup, mLst, fLst, fLenG, fLen, fLenD, mPow, fPow, fIsN, fNotN, D.isNon, D.isHole, fIn, fNotIn, D.truth, mUnp, gN, gT, gsCons, gsNil, mApp, mPop, mMeth, maConsP, tyP, tyD, fL, lApp, lPop, sizeLine_eq, fEq_int, fEq_str, fNe_int, fNe_str, mCallK, kCallK, permL, fTuple, D.items, h, hq, pB, po, pp0, pC]
def tsW : MT := mTest (mNe (mIx (mIx (mN 14) (mC (.int 0))) (mC (.int 0))) (mC (.str "")))
theorem ran_s12 {E : List D} {a0 a1 a2 a3 s4 s5 s7 s8 s9 : Sl} {st : Row} (hE : Evs E) (h : ∀ p ∈ st, Lab E p.1) (hl : st.length ≤ 1000) :
    (mSet 10 (mF1 fTuple (mLc (iSeq (mN 6)) (gN 14) tsW (mIx (mN 14) (mC (.int 0))) [14]))).run [a0, a1, a2, a3, s4, s5, .val (.tup (st.map encE)), s7, s8, s9, .un, .un, .un, .un, .un] =
      some (.nx, [a0, a1, a2, a3, s4, s5, .val (.tup (st.map encE)), s7, s8, s9, .val (.tup (wordOf st)), .un, .un, .un, .un]) := by
  have q : (iSeq (mN 6)).run [a0, a1, a2, a3, s4, s5, .val (.tup (st.map encE)), s7, s8, s9, .un, .un, .un, .un, .un] = some (st.map encE, [.p 6 []], [a0, a1, a2, a3, s4, s5, .val (.tup (st.map encE)), s7, s8, s9, .un, .un, .un, .un, .un]) := by
    generalize st.map encE = ss
    simp [iSeq, mSeq, mIf, mTest, mTru, mGt, mLt, mLe, mGe, mEq, mNe, mIsN, mNotN, mIn, mNotIn, mOp, maCons, maNil, mIx, kIx, mN, mC, mSet, mAsgIx, mRet, mRetN, mDrop, mF1, kf, ko, gets, owns, R.get, R.own, R.ok, R.kid, D.kids, D.at, D.pure, D.pureL, dAt, Sl.d?, ixD, ixN, fCmp, fLt, fLe, fGt, fGe, fMod, fDiv, fMul, fAdd, fSub, fInt, fAbs, fSetIx, kCh, enPut, Sl.put, D.put, D.setKid, argsOnly, outs, mMod, mDiv, mMul, mAdd, mSub, mSkip, mBrk, mCnt, mAnd, mOr, mNot, mVal, mIfE, mCall, kCall, imps, wbs, mTup, fTup, mLst, fLst, fLenG, fLen, fLenD, mPow, fPow, fIsN, fNotN, D.isNon, D.isHole, fIn, fNotIn, D.truth, mUnp, gN, gT, gsCons, gsNil, mApp, mPop, mMeth, maConsP, tyP, tyD, fL, lApp, lPop, sizeLine_eq, fEq_int, fEq_str, fNe_int, fNe_str, D.items]
  have z := lc_filt (g := gN 14) (tt := tsW) (te := mIx (mN 14) (mC (.int 0))) (vs := [14]) (env := [a0, a1, a2, a3, s4, s5, .val (.tup (st.map encE)), s7, s8, s9, .un, .un, .un, .un, .un]) (p := fun d => match d with
    | .tup [L, _] => decide (nam L ≠ "")
    | _ => false) (f := fun d => match d with
    | .tup [L, _] => L
    | _ => .non) (st.map encE) [] (fun d hd => by
    obtain ⟨e, he, rfl⟩ := List.mem_map.mp hd
    obtain ⟨L, t⟩ := e
    have hL : Lab E L := h _ he
    have pl := (lab_pure hE hL).1
    obtain ⟨x, v, ee, a, _⟩ := lab_pair hE hL
    generalize D.tup (st.map encE) = V6
    refine ⟨[a0, a1, a2, a3, s4, s5, .val V6, s7, s8, s9, .un, .un, .un, .un, .val (.tup [L, .int t])], by simp [gN, encE, D.pure, D.pureL, pl], [a0, a1, a2, a3, s4, s5, .val V6, s7, s8, s9, .un, .un, .un, .un, .val (.tup [L, .int t])], ?_, fun _ => ⟨.p 14 [0], [a0, a1, a2, a3, s4, s5, .val V6, s7, s8, s9, .un, .un, .un, .un, .val (.tup [L, .int t])], by simp [mSeq, mIf, mTest, mTru, mGt, mLt, mLe, mGe, mEq, mNe, mIsN, mNotN, mIn, mNotIn, mOp, maCons, maNil, mIx, kIx, mN, mC, mSet, mAsgIx, mRet, mRetN, mDrop, mF1, kf, ko, gets, owns, R.get, R.own, R.ok, R.kid, D.kids, D.at, D.pure, D.pureL, dAt, Sl.d?, ixD, ixN, fCmp, fLt, fLe, fGt, fGe, fMod, fDiv, fMul, fAdd, fSub, fInt, fAbs, fSetIx, kCh, enPut, Sl.put, D.put, D.setKid, argsOnly, outs, mMod, mDiv, mMul, mAdd, mSub, mSkip, mBrk, mCnt, mAnd, mOr, mNot, mVal, mIfE, mCall, kCall, imps, wbs, mTup, fTup, mLst, fLst, fLenG, fLen, fLenD, mPow, fPow, fIsN, fNotN, D.isNon, D.isHole, fIn, fNotIn, D.truth, mUnp, gN, gT, gsCons, gsNil, mApp, mPop, mMeth, maConsP, tyP, tyD, fL, lApp, lPop, sizeLine_eq, fEq_int, fEq_str, fNe_int, fNe_str], by simp [mSeq, mIf, mTest, mTru, mGt, mLt, mLe, mGe, mEq, mNe, mIsN, mNotN, mIn, mNotIn, mOp, maCons, maNil, mIx, kIx, mN, mC, mSet, mAsgIx, mRet, mRetN, mDrop, mF1, kf, ko, gets, owns, R.get, R.own, R.ok, R.kid, D.kids, D.at, D.pure, D.pureL, dAt, Sl.d?, ixD, ixN, fCmp, fLt, fLe, fGt, fGe, fMod, fDiv, fMul, fAdd, fSub, fInt, fAbs, fSetIx, kCh, enPut, Sl.put, D.put, D.setKid, argsOnly, outs, mMod, mDiv, mMul, mAdd, mSub, mSkip, mBrk, mCnt, mAnd, mOr, mNot, mVal, mIfE, mCall, kCall, imps, wbs, mTup, fTup, mLst, fLst, fLenG, fLen, fLenD, mPow, fPow, fIsN, fNotN, D.isNon, D.isHole, fIn, fNotIn, D.truth, mUnp, gN, gT, gsCons, gsNil, mApp, mPop, mMeth, maConsP, tyP, tyD, fL, lApp, lPop, sizeLine_eq, fEq_int, fEq_str, fNe_int, fNe_str, encE, pl], by simp [wipeE]⟩, fun _ => by simp [wipeE]⟩
    show tsW.run _ = some (decide (nam L ≠ ""), _)
    have hx : nam L = x := by rw [ee]; rfl
    rw [hx, ee]
    by_cases c : x = "" <;> simp [tsW, mSeq, mIf, mTest, mTru, mGt, mLt, mLe, mGe, mEq, mNe, mIsN, mNotN, mIn, mNotIn, mOp, maCons, maNil, mIx, kIx, mN, mC, mSet, mAsgIx, mRet, mRetN, mDrop, mF1, kf, ko, gets, owns, R.get, R.own, R.ok, R.kid, D.kids, D.at, D.pure, D.pureL, dAt, Sl.d?, ixD, ixN, fCmp, fLt, fLe, fGt, fGe, fMod, fDiv, fMul, fAdd, fSub, fInt, fAbs, fSetIx, kCh, enPut, Sl.put, D.put, D.setKid, argsOnly, outs, mMod, mDiv, mMul, mAdd, mSub, mSkip, mBrk, mCnt, mAnd, mOr, mNot, mVal, mIfE, mCall, kCall, imps, wbs, mTup, fTup, mLst, fLst, fLenG, fLen, fLenD, mPow, fPow, fIsN, fNotN, D.isNon, D.isHole, fIn, fNotIn, D.truth, mUnp, gN, gT, gsCons, gsNil, mApp, mPop, mMeth, maConsP, tyP, tyD, fL, lApp, lPop, sizeLine_eq, fEq_int, fEq_str, fNe_int, fNe_str, c]) (by rw [List.length_map, List.length_nil]; omega)
  have ew : ([] ++ ((st.map encE).filter fun d => match d with
    | .tup [L, _] => decide (nam L ≠ "")
    | _ => false).map fun d => match d with
    | .tup [L, _] => L
    | _ => .non) = wordOf st := by
    rw [List.nil_append, List.filter_map, List.map_map]
    rfl
  rw [ew] at z
  have zz := lc_run1 (tt := tsW) (g := gN 14) (te := mIx (mN 14) (mC (.int 0))) (v := 14) q (by rfl) z
  have pw : D.pureL (wordOf st) = true := pureL_all fun d hd => (evs_pure hE (word_in h d hd)).1
  change _ = some (R.v (.lst true (wordOf st)), [a0, a1, a2, a3, s4, s5, .val (.tup (st.map encE)), s7, s8, s9, .un, .un, .un, .un, .un]) at zz
  generalize mLc (iSeq (mN 6)) (gN 14) tsW (mIx (mN 14) (mC (.int 0))) [14] = ml at zz ⊢
  generalize wordOf st = ww at zz pw ⊢
  generalize st.map encE = ss at zz ⊢
  simp [mSeq, mIf, mTest, mTru, mGt, mLt, mLe, mGe, mEq, mNe, mIsN, mNotN, mIn, mNotIn, mOp, maCons, maNil, mIx, kIx, mN, mC, mSet, mAsgIx, mRet, mRetN, mDrop, mF1, kf, ko, gets, owns, R.get, R.own, R.ok, R.kid, D.kids, D.at, D.pure, D.pureL, dAt, Sl.d?, ixD, ixN, fCmp, fLt, fLe, fGt, fGe, fMod, fDiv, fMul, fAdd, fSub, fInt, fAbs, fSetIx, kCh, enPut, Sl.put, D.put, D.setKid, argsOnly, outs, mMod, mDiv, mMul, mAdd, mSub, mSkip, mBrk, mCnt, mAnd, mOr, mNot, mVal, mIfE, mCall, kCall, imps, wbs, mTup, fTup, mLst, fLst, fLenG, fLen, fLenD, mPow, fPow, fIsN, fNotN, D.isNon, D.isHole, fIn, fNotIn, D.truth, mUnp, gN, gT, gsCons, gsNil, mApp, mPop, mMeth, maConsP, tyP, tyD, fL, lApp, lPop, sizeLine_eq, fEq_int, fEq_str, fNe_int, fNe_str, zz, fTuple, D.items, pw]
theorem ran_s14 {a0 a1 a2 a3 s4 s5 s7 s8 s9 s10 : Sl} {st : Row} {t : Nat} (h : (st = [] ∧ t = 0) ∨ ∃ L, st[st.length - 1]? = some (L, t) ∧ st ≠ []) :
    (mIf (mTest (mGt (mF1 fLenG (mN 6)) (mC (.int 0)))) (mSet 11 (mIx (mIx (mN 6) (mSub (mF1 fLenG (mN 6)) (mC (.int 1)))) (mC (.int 1)))) mSkip).run [a0, a1, a2, a3, s4, s5, .val (.tup (st.map encE)), s7, s8, s9, s10, .val (.int 0), .un, .un, .un] =
      some (.nx, [a0, a1, a2, a3, s4, s5, .val (.tup (st.map encE)), s7, s8, s9, s10, .val (.int t), .un, .un, .un]) := by
  rcases h with ⟨rfl, rfl⟩ | ⟨L, h1, h2⟩
  · simp [mSeq, mIf, mTest, mTru, mGt, mLt, mLe, mGe, mEq, mNe, mIsN, mNotN, mIn, mNotIn, mOp, maCons, maNil, mIx, kIx, mN, mC, mSet, mAsgIx, mRet, mRetN, mDrop, mF1, kf, ko, gets, owns, R.get, R.own, R.ok, R.kid, D.kids, D.at, D.pure, D.pureL, dAt, Sl.d?, ixD, ixN, fCmp, fLt, fLe, fGt, fGe, fMod, fDiv, fMul, fAdd, fSub, fInt, fAbs, fSetIx, kCh, enPut, Sl.put, D.put, D.setKid, argsOnly, outs, mMod, mDiv, mMul, mAdd, mSub, mSkip, mBrk, mCnt, mAnd, mOr, mNot, mVal, mIfE, mCall, kCall, imps, wbs, mTup, fTup, mLst, fLst, fLenG, fLen, fLenD, mPow, fPow, fIsN, fNotN, D.isNon, D.isHole, fIn, fNotIn, D.truth, mUnp, gN, gT, gsCons, gsNil, mApp, mPop, mMeth, maConsP, tyP, tyD, fL, lApp, lPop, sizeLine_eq, fEq_int, fEq_str, fNe_int, fNe_str]
  · have hl : 0 < st.length := List.length_pos_iff.mpr h2
    have e1 : (st.map encE)[st.length - 1]? = some (.tup [L, .int t]) := by rw [List.getElem?_map, h1]; rfl
    have hm : (st.map encE).length = st.length := List.length_map _
    rw [← hm] at e1 hl
    generalize st.map encE = ss at e1 hl
    obtain ⟨l1, r1⟩ := List.getElem?_eq_some_iff.mp e1
    have hpos : (0 : Int) < ss.length := by omega
    have hnn : ss ≠ [] := fun z => by rw [z] at hl; exact absurd hl (by decide)
    have b1 : (0 : Int) ≤ (ss.length : Int) - 1 := by omega
    have b2 : (ss.length : Int) - 1 < ss.length := by omega
    have b3 : ((ss.length : Int) - 1).toNat = ss.length - 1 := by omega
    have b4 : (1 : Int) ≤ ss.length := by omega
    simp [mSeq, mIf, mTest, mTru, mGt, mLt, mLe, mGe, mEq, mNe, mIsN, mNotN, mIn, mNotIn, mOp, maCons, maNil, mIx, kIx, mN, mC, mSet, mAsgIx, mRet, mRetN, mDrop, mF1, kf, ko, gets, owns, R.get, R.own, R.ok, R.kid, D.kids, D.at, D.pure, D.pureL, dAt, Sl.d?, ixD, ixN, fCmp, fLt, fLe, fGt, fGe, fMod, fDiv, fMul, fAdd, fSub, fInt, fAbs, fSetIx, kCh, enPut, Sl.put, D.put, D.setKid, argsOnly, outs, mMod, mDiv, mMul, mAdd, mSub, mSkip, mBrk, mCnt, mAnd, mOr, mNot, mVal, mIfE, mCall, kCall, imps, wbs, mTup, fTup, mLst, fLst, fLenG, fLen, fLenD, mPow, fPow, fIsN, fNotN, D.isNon, D.isHole, fIn, fNotIn, D.truth, mUnp, gN, gT, gsCons, gsNil, mApp, mPop, mMeth, maConsP, tyP, tyD, fL, lApp, lPop, sizeLine_eq, fEq_int, fEq_str, fNe_int, fNe_str, hl, hpos, hnn, b1, b2, b3, b4, l1, r1]
theorem ran_s15 {mf : Fn} {X G : D} {a2 a3 s4 s5 s6 s7 s8 s9 s11 : Sl} {ww ld : List D} (h : mf [G, .tup ww] = some (.tup ld, [G, .tup ww])) (pG : G.pure = true) (pw : D.pureL ww = true) (pl : D.pureL ld = true) :
    (mSet 12 (mCall mf [1, 10] (maCons (mN 1) (maCons (mN 10) maNil)))).run [.arg X, .arg G, a2, a3, s4, s5, s6, s7, s8, s9, .val (.tup ww), s11, .un, .un, .un] = some (.nx, [.arg X, .arg G, a2, a3, s4, s5, s6, s7, s8, s9, .val (.tup ww), s11, .val (.tup ld), .un, .un]) := by
  simp [mSeq, mIf, mTest, mTru, mGt, mLt, mLe, mGe, mEq, mNe, mIsN, mNotN, mIn, mNotIn, mOp, maCons, maNil, mIx, kIx, mN, mC, mSet, mAsgIx, mRet, mRetN, mDrop, mF1, kf, ko, gets, owns, R.get, R.own, R.ok, R.kid, D.kids, D.at, D.pure, D.pureL, dAt, Sl.d?, ixD, ixN, fCmp, fLt, fLe, fGt, fGe, fMod, fDiv, fMul, fAdd, fSub, fInt, fAbs, fSetIx, kCh, enPut, Sl.put, D.put, D.setKid, argsOnly, outs, mMod, mDiv, mMul, mAdd, mSub, mSkip, mBrk, mCnt, mAnd, mOr, mNot, mVal, mIfE, mCall, kCall, imps, wbs, mTup, fTup, mLst, fLst, fLenG, fLen, fLenD, mPow, fPow, fIsN, fNotN, D.isNon, D.isHole, fIn, fNotIn, D.truth, mUnp, gN, gT, gsCons, gsNil, mApp, mPop, mMeth, maConsP, tyP, tyD, fL, lApp, lPop, sizeLine_eq, fEq_int, fEq_str, fNe_int, fNe_str, h, pG, pw, pl]
theorem inD_nts {ms : List Nat} {t : Nat} (h : t ∈ ms) : inD (.int t) (.tup (ms.map nt)) = some true := by
  have e : ms.map nt = (ms.map fun n : Nat => (n : Int)).map D.int := by rw [List.map_map]; rfl
  have q := inD_ints (m := true) (os := ms.map fun n : Nat => (n : Int)) (j := t)
  have e2 : inD (.int t) (.tup ((ms.map fun n : Nat => (n : Int)).map D.int)) = inD (.int t) (.lst true ((ms.map fun n : Nat => (n : Int)).map D.int)) := rfl
  rw [e, e2, q, decide_eq_true (List.mem_map.mpr ⟨t, h, rfl⟩)]
theorem ran_s16 {a0 a1 a2 a3 s4 s5 s6 s7 s8 s9 s10 : Sl} {ld : List D} {t : Nat} (h : inD (.int t) (.tup ld) = some true) (pl : D.pureL ld = true) :
    (mRet (mVal (mAnd (mTest (mF1 (fIsi "tuple") (mN 12))) (mTest (mIn (mN 11) (mN 12)))))).run [a0, a1, a2, a3, s4, s5, s6, s7, s8, s9, s10, .val (.int t), .val (.tup ld), .un, .un] = some (.rt (.bl true), argsOnly [a0, a1, a2, a3, s4, s5, s6, s7, s8, s9, s10, .val (.int t), .val (.tup ld), .un, .un]) := by
  have k4 : kitB "tuple" "tuple" = some true := by decide +kernel
  have f4 : fIsi "tuple" [.tup ld] = some (.bl true) := by simp [fIsi, D.ty, k4]
  generalize fIsi "tuple" = g4 at f4 ⊢
  simp [mSeq, mIf, mTest, mTru, mGt, mLt, mLe, mGe, mEq, mNe, mIsN, mNotN, mIn, mNotIn, mOp, maCons, maNil, mIx, kIx, mN, mC, mSet, mAsgIx, mRet, mRetN, mDrop, mF1, kf, ko, gets, owns, R.get, R.own, R.ok, R.kid, D.kids, D.at, D.pure, D.pureL, dAt, Sl.d?, ixD, ixN, fCmp, fLt, fLe, fGt, fGe, fMod, fDiv, fMul, fAdd, fSub, fInt, fAbs, fSetIx, kCh, enPut, Sl.put, D.put, D.setKid, argsOnly, outs, mMod, mDiv, mMul, mAdd, mSub, mSkip, mBrk, mCnt, mAnd, mOr, mNot, mVal, mIfE, mCall, kCall, imps, wbs, mTup, fTup, mLst, fLst, fLenG, fLen, fLenD, mPow, fPow, fIsN, fNotN, D.isNon, D.isHole, fIn, fNotIn, D.truth, mUnp, gN, gT, gsCons, gsNil, mApp, mPop, mMeth, maConsP, tyP, tyD, fL, lApp, lPop, sizeLine_eq, fEq_int, fEq_str, fNe_int, fNe_str, f4, h]
theorem ran_ok {E I O : List D} {Rw : List Row} {X : D} (hG : Gr E Rw) (pI : D.pureL I = true) (pO : D.pureL O = true) (hX : Src X) (hl : E.length ≤ 1000) :
    ∃ X', Src X' ∧ m_l_ran [X, encG I O Rw, .tup (BR Rw), .lst true E] = some (.bl true, [X', encG I O Rw, .tup (BR Rw), .lst true E]) := by
  obtain ⟨X1, ofs, a1, a2, a3⟩ := offers_ok hG.1 hl hX
  obtain ⟨X2, ps, b1, b2, b3⟩ := ran_s5 (G := encG I O Rw) (br := BR Rw) (E := E) (oo := ofD ofs) a1
  have hlab := crs_lab (ofs := ofs) hG ps 0 0 hG.2.1
  have hlen := crs_len Rw ofs ps 0 0
  have c := course_ok (od := .lst true (ofD ofs)) hG a2 (.inl rfl) (ps := ps) (by omega)
  have r1 := run_ok (od := .lst true (ofD ofs)) (pd := .lst true (ps.map D.int)) hG a2 (.inl rfl) (.inl rfl) (by omega)
  have r2 := run_ok (od := .tup (ofD ofs)) (pd := .tup (ps.map D.int)) hG a2 (.inr rfl) (.inr rfl) (by omega)
  obtain ⟨t, ht⟩ := crs_pth (ofs := ofs) hG ps [] 0 0 hG.2.1 .nil
  rw [List.nil_append] at ht
  generalize crs Rw ofs ps 0 0 = st at hlab hlen c r1 r2 ht
  have pR := row_pure hG
  have pB := BR_pure hG
  have pG := encG_pure hG pI pO
  have pC := steps_pure hG.1 hlab
  have po := ofD_pure hG.1 a2
  have pp := ints_pure ps
  have eqq : m_l_equal [.tup (st.map encE), .tup (st.map encE)] = some (.bl true, [.tup (st.map encE), .tup (st.map encE)]) := equal_sim 6 _ (sim_steps hG.1 hlab (by omega))
  obtain ⟨ms, e1, e2, e3⟩ := after_ok (I := I) (O := O) hG pI pO (word_in hlab)
  have hmem : t ∈ srt ms := srt_mem.mpr ((e2 t).mpr (pth_rch hG.1 ht hlab))
  have pw : D.pureL (wordOf st) = true := pureL_all fun d hd => (evs_pure hG.1 (word_in hlab d hd)).1
  refine ⟨X2, b1, ?_⟩
  refine call_run (e' := argsOnly [.arg X2, .arg (encG I O Rw), .arg (.tup (BR Rw)), .arg (.lst true E), .val (.lst true (ofD ofs)), .val (.lst true (ps.map D.int)), .val (.tup (st.map encE)), .val (.lst true (ofD ofs)), .val (.lst true (ps.map D.int)), .val (.tup (st.map encE)), .val (.tup (wordOf st)), .val (.int t), .val (.tup ((srt ms).map nt)), .un, .un]) rfl ?_ (by simp [outs, argsOnly])
  show b_l_ran.run [.arg X, .arg (encG I O Rw), .arg (.tup (BR Rw)), .arg (.lst true E), .un, .un, .un, .un, .un, .un, .un, .un, .un, .un, .un] = _
  have x6 : (mSet 6 (mCall m_l_course [1, 4, 5] (maCons (mIx (mN 1) (mC (.int 3))) (maCons (mN 4) (maCons (mN 5) maNil))))).run [.arg X2, .arg (encG I O Rw), .arg (.tup (BR Rw)), .arg (.lst true E), .val (.lst true (ofD ofs)), .val (.lst true (ps.map D.int)), .un, .un, .un, .un, .un, .un, .un, .un, .un] =
      some (.nx, [.arg X2, .arg (encG I O Rw), .arg (.tup (BR Rw)), .arg (.lst true E), .val (.lst true (ofD ofs)), .val (.lst true (ps.map D.int)), .val (.tup (st.map encE)), .un, .un, .un, .un, .un, .un, .un, .un]) := ran_s6 c pR pC
  have x13 : (mSet 11 (mC (.int 0))).run [.arg X2, .arg (encG I O Rw), .arg (.tup (BR Rw)), .arg (.lst true E), .val (.lst true (ofD ofs)), .val (.lst true (ps.map D.int)), .val (.tup (st.map encE)), .val (.lst true (ofD ofs)), .val (.lst true (ps.map D.int)), .val (.tup (st.map encE)), .val (.tup (wordOf st)), .un, .un, .un, .un] =
      some (.nx, [.arg X2, .arg (encG I O Rw), .arg (.tup (BR Rw)), .arg (.lst true E), .val (.lst true (ofD ofs)), .val (.lst true (ps.map D.int)), .val (.tup (st.map encE)), .val (.lst true (ofD ofs)), .val (.lst true (ps.map D.int)), .val (.tup (st.map encE)), .val (.tup (wordOf st)), .val (.int 0), .un, .un, .un]) := rfl
  unfold b_l_ran
  rw [seq_nx (ran_s4 a3 (src_pure hX) (src_pure a1)), seq_nx b3, seq_nx x6, seq_nx (ran_s7 po), seq_nx (ran_s8 pp), seq_nx (ran_s9 r1 pB pC), seq_nx (ran_s10 (ofs_ne hG.1 a2) (ints_ne ps) eqq pC), seq_nx (ran_s11 r2 eqq pB po pp pC)]
  change (mSeq (mSet 10 (mF1 fTuple (mLc (iSeq (mN 6)) (gN 14) tsW (mIx (mN 14) (mC (.int 0))) [14]))) _).run _ = _
  rw [seq_nx (ran_s12 hG.1 hlab (by omega)), seq_nx x13, seq_nx (ran_s14 (pth_last ht)), seq_nx (ran_s15 e3 pG pw (nts_pure _))]
  exact ran_s16 (inD_nts hmem) (nts_pure _)
end K35
set_option Elab.async false
set_option linter.all false
set_option maxRecDepth 100000
set_option maxHeartbeats 4000000
namespace K35
open PySem PySem.Spec PyProof.Rows L2 G
def dD (I O E : List D) : D := .tup [.tup I, .tup O, .lst true E]
theorem built_y1 {md mt : Fn} {S S' X T T' : D} {I O E : List D} (h : md [S, T, .int 4] = some (dD I O E, [S', T', .int 4])) (ht : mt [] = some (T, [])) (pS : S.pure = false) (pS' : S'.pure = false) :
    (mSet 2 (mCall md [0] (maCons (mN 0) (maCons (mCall mt [] maNil) (maCons (mC (.int 4)) maNil))))).run [.arg S, .arg X, .un, .un, .un, .un, .un, .un] = some (.nx, [.arg S', .arg X, .val (dD I O E), .un, .un, .un, .un, .un]) := by
  generalize dD I O E = G at h ⊢
  simp [mSeq, mIf, mTest, mTru, mGt, mLt, mLe, mGe, mEq, mNe, mIsN, mNotN, mIn, mNotIn, mOp, maCons, maNil, mIx, kIx, mN, mC, mSet, mAsgIx, mRet, mRetN, mDrop, mF1, kf, ko, gets, owns, R.get, R.own, R.ok, R.kid, D.kids, D.at, D.pure, D.pureL, dAt, Sl.d?, ixD, ixN, fCmp, fLt, fLe, fGt, fGe, fMod, fDiv, fMul, fAdd, fSub, fInt, fAbs, fSetIx, kCh, enPut, Sl.put, D.put, D.setKid, argsOnly, outs, mMod, mDiv, mMul, mAdd, mSub, mSkip, mBrk, mCnt, mAnd, mOr, mNot, mVal, mIfE, mCall, kCall, imps, wbs, mTup, fTup, mLst, fLst, fLenG, fLen, fLenD, mPow, fPow, fIsN, fNotN, D.isNon, D.isHole, fIn, fNotIn, D.truth, mUnp, gN, gT, gsCons, gsNil, mApp, mPop, mMeth, maConsP, tyP, tyD, fL, lApp, lPop, sizeLine_eq, fEq_int, fEq_str, fNe_int, fNe_str, h, ht, pS, pS']
theorem built_y2 {mg ms md : Fn} {S S1 S2 S3 X G : D} {I O E T : List D} {r : Int} (hd : md [S, .int 12] = some (.int r, [S1, .int 12])) (hs : ms [S1, .lst true E, .int (1 + r)] = some (.lst true T, [S2, .lst true E, .int (1 + r)]))
    (hg : mg [S2, .tup [.tup I, .tup O, .lst true E], .lst true T] = some (G, [S3, .tup [.tup I, .tup O, .lst true E], .lst true T])) (p0 : S.pure = false) (p1 : S1.pure = false) (p2 : S2.pure = false) (p3 : S3.pure = false) (pG : G.pure = true) :
    (mSet 3 (mCall mg [0, 2] (maCons (mN 0) (maCons (mN 2) (maCons (mCall ms [0, 2] (maCons (mN 0) (maCons (mIx (mN 2) (mC (.int 2))) (maCons (mAdd (mC (.int 1)) (mCall md [0] (maCons (mN 0) (maCons (mC (.int 12)) maNil)))) maNil)))) maNil))))).run [.arg S, .arg X, .val (dD I O E), .un, .un, .un, .un, .un] =
      some (.nx, [.arg S3, .arg X, .val (dD I O E), .val G, .un, .un, .un, .un]) := by
  unfold dD
  simp [mSeq, mIf, mTest, mTru, mGt, mLt, mLe, mGe, mEq, mNe, mIsN, mNotN, mIn, mNotIn, mOp, maCons, maNil, mIx, kIx, mN, mC, mSet, mAsgIx, mRet, mRetN, mDrop, mF1, kf, ko, gets, owns, R.get, R.own, R.ok, R.kid, D.kids, D.at, D.pure, D.pureL, dAt, Sl.d?, ixD, ixN, fCmp, fLt, fLe, fGt, fGe, fMod, fDiv, fMul, fAdd, fSub, fInt, fAbs, fSetIx, kCh, enPut, Sl.put, D.put, D.setKid, argsOnly, outs, mMod, mDiv, mMul, mAdd, mSub, mSkip, mBrk, mCnt, mAnd, mOr, mNot, mVal, mIfE, mCall, kCall, imps, wbs, mTup, fTup, mLst, fLst, fLenG, fLen, fLenD, mPow, fPow, fIsN, fNotN, D.isNon, D.isHole, fIn, fNotIn, D.truth, mUnp, gN, gT, gsCons, gsNil, mApp, mPop, mMeth, maConsP, tyP, tyD, fL, lApp, lPop, sizeLine_eq, fEq_int, fEq_str, fNe_int, fNe_str, hd, hs, hg, p0, p1, p2, p3, pG]
theorem built_y3 {mb : Fn} {S X DD G : D} {br : List D} (h : mb [G] = some (.tup br, [G])) (pG : G.pure = true) (pB : D.pureL br = true) : (mSet 4 (mCall mb [3] (maCons (mN 3) maNil))).run [.arg S, .arg X, .val DD, .val G, .un, .un, .un, .un] = some (.nx, [.arg S, .arg X, .val DD, .val G, .val (.tup br), .un, .un, .un]) := by
  simp [mSeq, mIf, mTest, mTru, mGt, mLt, mLe, mGe, mEq, mNe, mIsN, mNotN, mIn, mNotIn, mOp, maCons, maNil, mIx, kIx, mN, mC, mSet, mAsgIx, mRet, mRetN, mDrop, mF1, kf, ko, gets, owns, R.get, R.own, R.ok, R.kid, D.kids, D.at, D.pure, D.pureL, dAt, Sl.d?, ixD, ixN, fCmp, fLt, fLe, fGt, fGe, fMod, fDiv, fMul, fAdd, fSub, fInt, fAbs, fSetIx, kCh, enPut, Sl.put, D.put, D.setKid, argsOnly, outs, mMod, mDiv, mMul, mAdd, mSub, mSkip, mBrk, mCnt, mAnd, mOr, mNot, mVal, mIfE, mCall, kCall, imps, wbs, mTup, fTup, mLst, fLst, fLenG, fLen, fLenD, mPow, fPow, fIsN, fNotN, D.isNon, D.isHole, fIn, fNotIn, D.truth, mUnp, gN, gT, gsCons, gsNil, mApp, mPop, mMeth, maConsP, tyP, tyD, fL, lApp, lPop, sizeLine_eq, fEq_int, fEq_str, fNe_int, fNe_str, h, pG, pB]
theorem intsL_map : ∀ ks : List Nat, intsL (ks.map nt) = some (ks.map fun k : Nat => (k : Int))
  | [] => rfl
  | k :: ks => by
    show (intsL (ks.map nt)).map _ = _
    rw [intsL_map ks]
    rfl
theorem sum_row : ∀ Rw : List Row, ((Rw.map fun es => es.length).map fun k : Nat => (k : Int)).sum = ((hsum Rw : Nat) : Int) - Rw.length
  | [] => by simp [hsum]
  | es :: rs => by
    rw [List.map_cons, List.map_cons, List.sum_cons, sum_row rs, hsum, List.length_cons]
    omega
theorem built_y4 {S X DD br : D} {I O : D} {Rw : List Row} (hp : ∀ d ∈ Rw.map encR, d.pure = true) (hn : Rw.length ≤ 5000) :
    (mSet 5 (mAdd (mF1 fLenG (mIx (mN 3) (mC (.int 3)))) (mF1 fSum (mLc (iSeq (mIx (mN 3) (mC (.int 3)))) (gN 6) mYes (mF1 fLenG (mN 6)) [6])))).run [.arg S, .arg X, .val DD, .val (.tup [.str "graph", I, O, .tup (Rw.map encR)]), .val br, .un, .un, .un] =
      some (.nx, [.arg S, .arg X, .val DD, .val (.tup [.str "graph", I, O, .tup (Rw.map encR)]), .val br, .val (nt (hsum Rw)), .un, .un]) := by
  have hl : (Rw.map encR).length = Rw.length := List.length_map _
  have q : (iSeq (mIx (mN 3) (mC (.int 3)))).run [.arg S, .arg X, .val DD, .val (.tup [.str "graph", I, O, .tup (Rw.map encR)]), .val br, .un, .un, .un] = some (Rw.map encR, [.p 3 [3]], [.arg S, .arg X, .val DD, .val (.tup [.str "graph", I, O, .tup (Rw.map encR)]), .val br, .un, .un, .un]) := by
    generalize Rw.map encR = Rs
    simp [iSeq, mSeq, mIf, mTest, mTru, mGt, mLt, mLe, mGe, mEq, mNe, mIsN, mNotN, mIn, mNotIn, mOp, maCons, maNil, mIx, kIx, mN, mC, mSet, mAsgIx, mRet, mRetN, mDrop, mF1, kf, ko, gets, owns, R.get, R.own, R.ok, R.kid, D.kids, D.at, D.pure, D.pureL, dAt, Sl.d?, ixD, ixN, fCmp, fLt, fLe, fGt, fGe, fMod, fDiv, fMul, fAdd, fSub, fInt, fAbs, fSetIx, kCh, enPut, Sl.put, D.put, D.setKid, argsOnly, outs, mMod, mDiv, mMul, mAdd, mSub, mSkip, mBrk, mCnt, mAnd, mOr, mNot, mVal, mIfE, mCall, kCall, imps, wbs, mTup, fTup, mLst, fLst, fLenG, fLen, fLenD, mPow, fPow, fIsN, fNotN, D.isNon, D.isHole, fIn, fNotIn, D.truth, mUnp, gN, gT, gsCons, gsNil, mApp, mPop, mMeth, maConsP, tyP, tyD, fL, lApp, lPop, sizeLine_eq, fEq_int, fEq_str, fNe_int, fNe_str, D.items]
  have z := lc_map (g := gN 6) (te := mF1 fLenG (mN 6)) (vs := [6]) (env := [.arg S, .arg X, .val DD, .val (.tup [.str "graph", I, O, .tup (Rw.map encR)]), .val br, .un, .un, .un]) (f := fun d => match d with
    | .tup ds => .int ds.length
    | _ => .non) (Rw.map encR) [] (fun d hd => by
    have pd := hp d hd
    obtain ⟨es, he, rfl⟩ := List.mem_map.mp hd
    generalize D.tup [.str "graph", I, O, .tup (Rw.map encR)] = G
    refine ⟨[.arg S, .arg X, .val DD, .val G, .val br, .un, .val (encR es), .un], .v (.int (es.map encE).length), [.arg S, .arg X, .val DD, .val G, .val br, .un, .val (encR es), .un], by simp [gN, pd], ?_, rfl, by simp [wipeE]⟩
    unfold encR
    generalize es.map encE = ee
    simp [mSeq, mIf, mTest, mTru, mGt, mLt, mLe, mGe, mEq, mNe, mIsN, mNotN, mIn, mNotIn, mOp, maCons, maNil, mIx, kIx, mN, mC, mSet, mAsgIx, mRet, mRetN, mDrop, mF1, kf, ko, gets, owns, R.get, R.own, R.ok, R.kid, D.kids, D.at, D.pure, D.pureL, dAt, Sl.d?, ixD, ixN, fCmp, fLt, fLe, fGt, fGe, fMod, fDiv, fMul, fAdd, fSub, fInt, fAbs, fSetIx, kCh, enPut, Sl.put, D.put, D.setKid, argsOnly, outs, mMod, mDiv, mMul, mAdd, mSub, mSkip, mBrk, mCnt, mAnd, mOr, mNot, mVal, mIfE, mCall, kCall, imps, wbs, mTup, fTup, mLst, fLst, fLenG, fLen, fLenD, mPow, fPow, fIsN, fNotN, D.isNon, D.isHole, fIn, fNotIn, D.truth, mUnp, gN, gT, gsCons, gsNil, mApp, mPop, mMeth, maConsP, tyP, tyD, fL, lApp, lPop, sizeLine_eq, fEq_int, fEq_str, fNe_int, fNe_str]) (by rw [hl, List.length_nil]; omega)
  have ew : [] ++ (Rw.map encR).map (fun d => match d with
    | .tup ds => .int ds.length
    | _ => .non) = (Rw.map fun es => es.length).map nt := by
    rw [List.nil_append, List.map_map, List.map_map]
    refine List.map_congr_left fun es _ => ?_
    show D.int ((es.map encE).length : Nat) = nt es.length
    rw [List.length_map]
    rfl
  rw [ew] at z
  have zz := lc_run1 (tt := mYes) (g := gN 6) (te := mF1 fLenG (mN 6)) (v := 6) q (by rfl) z
  have fs : fSum [.lst true ((Rw.map fun es => es.length).map nt)] = some (.int (((hsum Rw : Nat) : Int) - Rw.length)) := by
    show (intsL ((Rw.map fun es => es.length).map nt)).map _ = _
    rw [intsL_map]
    show some (D.int (((Rw.map fun es => es.length).map fun k : Nat => (k : Int)).sum)) = _
    rw [sum_row]
  have ee : (Rw.length : Int) + (((hsum Rw : Nat) : Int) - Rw.length) = ((hsum Rw : Nat) : Int) := by omega
  change _ = some (R.v (.lst true ((Rw.map fun es => es.length).map nt)), [Sl.arg S, .arg X, .val DD, .val (.tup [.str "graph", I, O, .tup (Rw.map encR)]), .val br, .un, .un, .un]) at zz
  generalize mLc (iSeq (mIx (mN 3) (mC (.int 3)))) (gN 6) mYes (mF1 fLenG (mN 6)) [6] = ml at zz ⊢
  generalize (Rw.map fun es => es.length).map nt = ls at zz fs
  unfold nt
  rw [← ee]
  generalize ((hsum Rw : Nat) : Int) - Rw.length = x at fs ⊢
  rw [← hl]
  generalize Rw.map encR = Rs at zz ⊢
  generalize fSum = fm at fs ⊢
  simp [mSeq, mIf, mTest, mTru, mGt, mLt, mLe, mGe, mEq, mNe, mIsN, mNotN, mIn, mNotIn, mOp, maCons, maNil, mIx, kIx, mN, mC, mSet, mAsgIx, mRet, mRetN, mDrop, mF1, kf, ko, gets, owns, R.get, R.own, R.ok, R.kid, D.kids, D.at, D.pure, D.pureL, dAt, Sl.d?, ixD, ixN, fCmp, fLt, fLe, fGt, fGe, fMod, fDiv, fMul, fAdd, fSub, fInt, fAbs, fSetIx, kCh, enPut, Sl.put, D.put, D.setKid, argsOnly, outs, mMod, mDiv, mMul, mAdd, mSub, mSkip, mBrk, mCnt, mAnd, mOr, mNot, mVal, mIfE, mCall, kCall, imps, wbs, mTup, fTup, mLst, fLst, fLenG, fLen, fLenD, mPow, fPow, fIsN, fNotN, D.isNon, D.isHole, fIn, fNotIn, D.truth, mUnp, gN, gT, gsCons, gsNil, mApp, mPop, mMeth, maConsP, tyP, tyD, fL, lApp, lPop, sizeLine_eq, fEq_int, fEq_str, fNe_int, fNe_str, zz, fs]
theorem built_y5 {mp : Fn} {b : MS} {S X DD G : D} {br : List D} {n : Nat} (h : mp [.tup br, .int 40] = some (.bl true, [.tup br, .int 40])) (hb : br.length = n) (pB : D.pureL br = true) (hn : n ≤ 100000000) :
    (mIf (mOr (mNot (mTru (mF1 (fIsi "tuple") (mN 4)))) (mOr (mTest (mGt (mF1 fLenG (mN 4)) (mMul (mC (.int 4)) (mN 5)))) (mNot (mTru (mCall mp [4] (maCons (mN 4) (maCons (mC (.int 40)) maNil))))))) b mSkip).run [.arg S, .arg X, .val DD, .val G, .val (.tup br), .val (nt n), .un, .un] = some (.nx, [.arg S, .arg X, .val DD, .val G, .val (.tup br), .val (nt n), .un, .un]) := by
  have k4 : kitB "tuple" "tuple" = some true := by decide +kernel
  have f4 : fIsi "tuple" [.tup br] = some (.bl true) := by simp [fIsi, D.ty, k4]
  have hm : CMulW 4 (n : Int) := mulW (by omega) (by omega)
  have hc : ¬ (4 * (n : Int) < (br.length : Nat)) := by omega
  generalize fIsi "tuple" = g4 at f4 ⊢
  simp [mSeq, mIf, mTest, mTru, mGt, mLt, mLe, mGe, mEq, mNe, mIsN, mNotN, mIn, mNotIn, mOp, maCons, maNil, mIx, kIx, mN, mC, mSet, mAsgIx, mRet, mRetN, mDrop, mF1, kf, ko, gets, owns, R.get, R.own, R.ok, R.kid, D.kids, D.at, D.pure, D.pureL, dAt, Sl.d?, ixD, ixN, fCmp, fLt, fLe, fGt, fGe, fMod, fDiv, fMul, fAdd, fSub, fInt, fAbs, fSetIx, kCh, enPut, Sl.put, D.put, D.setKid, argsOnly, outs, mMod, mDiv, mMul, mAdd, mSub, mSkip, mBrk, mCnt, mAnd, mOr, mNot, mVal, mIfE, mCall, kCall, imps, wbs, mTup, fTup, mLst, fLst, fLenG, fLen, fLenD, mPow, fPow, fIsN, fNotN, D.isNon, D.isHole, fIn, fNotIn, D.truth, mUnp, gN, gT, gsCons, gsNil, mApp, mPop, mMeth, maConsP, tyP, tyD, fL, lApp, lPop, sizeLine_eq, fEq_int, fEq_str, fNe_int, fNe_str, nt, f4, h, hm, hc, pB]
theorem built_f1 {a0 a1 s2 s3 s4 s5 s7 : Sl} {ds : List D} : b_l_built_f1.run [a0, a1, s2, s3, s4, s5, .val (.tup ds), s7] = some (.nx, [a0, a1, s2, s3, s4, s5, .val (.tup ds), s7]) := by
  have k4 : kitB "tuple" "tuple" = some true := by decide +kernel
  have f4 : fIsi "tuple" [.tup ds] = some (.bl true) := by simp [fIsi, D.ty, k4]
  unfold b_l_built_f1
  generalize fIsi "tuple" = g4 at f4 ⊢
  simp [mSeq, mIf, mTest, mTru, mGt, mLt, mLe, mGe, mEq, mNe, mIsN, mNotN, mIn, mNotIn, mOp, maCons, maNil, mIx, kIx, mN, mC, mSet, mAsgIx, mRet, mRetN, mDrop, mF1, kf, ko, gets, owns, R.get, R.own, R.ok, R.kid, D.kids, D.at, D.pure, D.pureL, dAt, Sl.d?, ixD, ixN, fCmp, fLt, fLe, fGt, fGe, fMod, fDiv, fMul, fAdd, fSub, fInt, fAbs, fSetIx, kCh, enPut, Sl.put, D.put, D.setKid, argsOnly, outs, mMod, mDiv, mMul, mAdd, mSub, mSkip, mBrk, mCnt, mAnd, mOr, mNot, mVal, mIfE, mCall, kCall, imps, wbs, mTup, fTup, mLst, fLst, fLenG, fLen, fLenD, mPow, fPow, fIsN, fNotN, D.isNon, D.isHole, fIn, fNotIn, D.truth, mUnp, gN, gT, gsCons, gsNil, mApp, mPop, mMeth, maConsP, tyP, tyD, fL, lApp, lPop, sizeLine_eq, fEq_int, fEq_str, fNe_int, fNe_str, f4]
theorem built_l1 {a0 a1 s2 s3 s4 s5 s7 : Sl} : ∀ (ds : List D) (s6 : Sl), (∀ d ∈ ds, d.pure = true ∧ ∃ es, d = .tup es) → ∃ u6, forGo (gN 6) b_l_built_f1 ds [a0, a1, s2, s3, s4, s5, s6, s7] = some (.nx, [a0, a1, s2, s3, s4, s5, u6, s7])
  | [], s6, _ => ⟨s6, forGo_nil⟩
  | d :: ds, s6, h => by
    obtain ⟨h1, es, rfl⟩ := h d List.mem_cons_self
    obtain ⟨u6, hu⟩ := built_l1 (a0 := a0) (a1 := a1) (s2 := s2) (s3 := s3) (s4 := s4) (s5 := s5) (s7 := s7) ds (.val (.tup es)) fun x hx => h x (List.mem_cons_of_mem _ hx)
    exact ⟨u6, (forGo_nx (by simp [gN, h1]) built_f1).trans hu⟩
theorem built_f2 {mr : Fn} {b : MS} {S X X' G : D} {I O E br : List D} {s5 s6 s7 : Sl} (h : mr [X, G, .tup br, .lst true E] = some (.bl true, [X', G, .tup br, .lst true E])) (p0 : X.pure = false) (p1 : X'.pure = false) (pG : G.pure = true) (pB : D.pureL br = true) :
    (mIf (mNot (mTru (mCall mr [1, 2, 3, 4] (maCons (mN 1) (maCons (mN 3) (maCons (mN 4) (maCons (mIx (mN 2) (mC (.int 2))) maNil))))))) b mSkip).run [.arg S, .arg X, .val (dD I O E), .val G, .val (.tup br), s5, s6, s7] = some (.nx, [.arg S, .arg X', .val (dD I O E), .val G, .val (.tup br), s5, s6, s7]) := by
  unfold dD
  simp [mSeq, mIf, mTest, mTru, mGt, mLt, mLe, mGe, mEq, mNe, mIsN, mNotN, mIn, mNotIn, mOp, maCons, maNil, mIx, kIx, mN, mC, mSet, mAsgIx, mRet, mRetN, mDrop, mF1, kf, ko, gets, owns, R.get, R.own, R.ok, R.kid, D.kids, D.at, D.pure, D.pureL, dAt, Sl.d?, ixD, ixN, fCmp, fLt, fLe, fGt, fGe, fMod, fDiv, fMul, fAdd, fSub, fInt, fAbs, fSetIx, kCh, enPut, Sl.put, D.put, D.setKid, argsOnly, outs, mMod, mDiv, mMul, mAdd, mSub, mSkip, mBrk, mCnt, mAnd, mOr, mNot, mVal, mIfE, mCall, kCall, imps, wbs, mTup, fTup, mLst, fLst, fLenG, fLen, fLenD, mPow, fPow, fIsN, fNotN, D.isNon, D.isHole, fIn, fNotIn, D.truth, mUnp, gN, gT, gsCons, gsNil, mApp, mPop, mMeth, maConsP, tyP, tyD, fL, lApp, lPop, sizeLine_eq, fEq_int, fEq_str, fNe_int, fNe_str, h, p0, p1, pG, pB]
theorem built_l2 {E I O : List D} {Rw : List Row} {S : D} {s5 s6 : Sl} (hG : Gr E Rw) (pI : D.pureL I = true) (pO : D.pureL O = true) (hl : E.length ≤ 1000) : ∀ (ds : List D) (X : D) (s7 : Sl), (∀ d ∈ ds, d.pure = true) → Src X →
    ∃ (X' : D) (u7 : Sl), Src X' ∧ forGo (gN 7) b_l_built_f2 ds [.arg S, .arg X, .val (dD I O E), .val (encG I O Rw), .val (.tup (BR Rw)), s5, s6, s7] = some (.nx, [.arg S, .arg X', .val (dD I O E), .val (encG I O Rw), .val (.tup (BR Rw)), s5, s6, u7])
  | [], X, s7, _, hX => ⟨X, s7, hX, forGo_nil⟩
  | d :: ds, X, s7, hd, hX => by
    obtain ⟨X1, a1, a2⟩ := ran_ok hG pI pO hX hl
    obtain ⟨X2, u7, b1, b2⟩ := built_l2 (S := S) (s5 := s5) (s6 := s6) hG pI pO hl ds X1 (.val d) (fun x hx => hd x (List.mem_cons_of_mem _ hx)) a1
    have hb : b_l_built_f2.run [.arg S, .arg X, .val (dD I O E), .val (encG I O Rw), .val (.tup (BR Rw)), s5, s6, .val d] = some (.nx, [.arg S, .arg X1, .val (dD I O E), .val (encG I O Rw), .val (.tup (BR Rw)), s5, s6, .val d]) :=
      built_f2 a2 (src_pure hX) (src_pure a1) (encG_pure hG pI pO) (BR_pure hG)
    refine ⟨X2, u7, b1, (forGo_nx ?_ hb).trans b2⟩
    have pd := hd d List.mem_cons_self
    generalize encG I O Rw = G
    generalize BR Rw = br
    simp [gN, pd]
theorem sim_up : ∀ {n : Nat} {d : D}, Sim n d → Sim (n + 1) d
  | 0, d, h => h.elim
  | n + 1, .non, _ => trivial
  | n + 1, .int _, _ => trivial
  | n + 1, .str _, _ => trivial
  | n + 1, .tup ds, h => ⟨h.1, fun d hd => sim_up (h.2 d hd)⟩
  | n + 1, .bl _, h => h.elim
  | n + 1, .lst _ _, h => h.elim
  | n + 1, .dct _ _ _, h => h.elim
  | n + 1, .set _ _, h => h.elim
  | n + 1, .hole, h => h.elim
theorem BR_each {E : List D} {Rw : List Row} (hG : Gr E Rw) : ∀ d ∈ BR Rw, Sim 3 d ∧ ∃ es, d = .tup es := by
  have key : ∀ (rs : List Row) (i : Nat), (∀ es ∈ rs, ∀ p ∈ es, Lab E p.1) → ∀ d ∈ brF Rw i rs, Sim 3 d ∧ ∃ es, d = .tup es := fun rs => by
    induction rs with
    | nil => intro i _ d hd; cases hd
    | cons es rs ih =>
      intro i h d hd
      rw [brF, blk] at hd
      rcases List.mem_append.mp hd with hd | hd
      · rcases List.mem_cons.mp hd with rfl | hd
        · exact ⟨⟨(show 3 ≤ 100000 by decide), fun x hx => by
            rcases List.mem_cons.mp hx with rfl | hx
            · exact trivial
            · rcases List.mem_cons.mp hx with rfl | hx
              · exact trivial
              · rw [List.mem_singleton] at hx; rw [hx]; exact trivial⟩, _, rfl⟩
        · obtain ⟨p, hp, rfl⟩ := List.mem_map.mp hd
          obtain ⟨L, t⟩ := p
          have hL : Lab E L := h es List.mem_cons_self _ hp
          obtain ⟨x, v, e, a, _⟩ := lab_pair hG.1 hL
          have hv : vl L = v := by rw [e]; rfl
          have sv := sim_val a 1
          unfold stepR
          dsimp only
          rw [hv]
          split
          · exact ⟨⟨(show 4 ≤ 100000 by decide), fun x hx => by
              rcases List.mem_cons.mp hx with rfl | hx
              · exact trivial
              · rcases List.mem_cons.mp hx with rfl | hx
                · exact sv
                · rcases List.mem_cons.mp hx with rfl | hx
                  · exact trivial
                  · rw [List.mem_singleton] at hx; rw [hx]; exact trivial⟩, _, rfl⟩
          · exact ⟨⟨(show 4 ≤ 100000 by decide), fun x hx => by
              rcases List.mem_cons.mp hx with rfl | hx
              · exact trivial
              · rcases List.mem_cons.mp hx with rfl | hx
                · exact trivial
                · rcases List.mem_cons.mp hx with rfl | hx
                  · exact sv
                  · rw [List.mem_singleton] at hx; rw [hx]; exact trivial⟩, _, rfl⟩
      · exact ih (i + 1) (fun x hx => h x (List.mem_cons_of_mem _ hx)) d hd
  exact key Rw 0 fun es he p hp => ((hG.2.2.2 es he).2 p hp).1
theorem BR_plain {E : List D} {Rw : List Row} (hG : Gr E Rw) : m_l_plain [.tup (BR Rw), .int 40] = some (.bl true, [.tup (BR Rw), .int 40]) := by
  have e : m_l_plain = runDef 2 3 (b_l_plain (mr_l_plain 5)) := mp_succ 5
  rw [e]
  refine plain_tup (by decide) fun d hd => ?_
  obtain ⟨s, _⟩ := BR_each hG d hd
  refine ⟨s.pure, ?_⟩
  have s5 : Sim 5 d := sim_up (sim_up s)
  exact plain_sim 5 d (40 - 1) s5 (by decide)
theorem built_ok {S X : D} (hS : Src S) (hX : Src X) : ∃ S' X', m_l_built [S, X] = some (.bl true, [S', X']) := by
  obtain ⟨T, ⟨ks, vs, rfl, t1, t2, t3⟩, ht⟩ := taken_ok
  obtain ⟨S1, ks', vs', I, O, E, a1, a2, a3, a4, a5, a6, a7, a8⟩ := doors_ok (n := 4) hS ⟨ks, vs, rfl, t1, t2, t3⟩ (by decide) (by decide)
  have hl : E.length ≤ 8 := a7
  obtain ⟨r, S2, b1, b2, b3, b4⟩ := draw_ok (n := 12) a1 (by decide) (by decide)
  obtain ⟨S3, T, c1, c2, c3, c4⟩ := steps_ok (k := 1 + r) b1 a6 (by omega) (by omega) (by omega)
  have hp : ∀ d ∈ T, d.pure = true := fun d hd => by
    obtain ⟨i, l, j, rfl, _, _, hL, _, _⟩ := c2 d hd
    simp [D.pure, D.pureL, (lab_pure a6 hL).1]
  obtain ⟨S4, Rs, d1, d2, d3, d4, d5⟩ := graph_ok (E1 := E) c1 a6 c2 hp (by omega) a2 a3
  obtain ⟨Rw, rfl, hG⟩ := rows_of a6 d2 d3 d4
  have pG := encG_pure (I := I) (O := O) hG a2 a3
  have pB := BR_pure hG
  have rowsP : ∀ d ∈ Rw.map encR, d.pure = true := fun d hd => by
    obtain ⟨es, he, rfl⟩ := List.mem_map.mp hd
    show D.pureL (es.map encE) = true
    exact encR_pure hG.1 (hG.2.2.2 es he).2
  have hlen : (BR Rw).length = hsum Rw := brF_len Rw Rw 0
  have hle := BR_len hG
  obtain ⟨u6, e1⟩ := built_l1 (a0 := .arg S4) (a1 := .arg X) (s2 := .val (dD I O E)) (s3 := .val (encG I O Rw)) (s4 := .val (.tup (BR Rw))) (s5 := .val (nt (hsum Rw))) (s7 := .un) (BR Rw) .un fun d hd => ⟨(BR_each hG d hd).1.pure, (BR_each hG d hd).2⟩
  obtain ⟨X1, u7, f1, f2⟩ := built_l2 (S := S4) (s5 := .val (nt (hsum Rw))) (s6 := u6) hG a2 a3 (by omega) (dRange 0 2) X .un (dRange_pure 0 2) hX
  refine ⟨S4, X1, ?_⟩
  refine call_run (e' := argsOnly [.arg S4, .arg X1, .val (dD I O E), .val (encG I O Rw), .val (.tup (BR Rw)), .val (nt (hsum Rw)), u6, u7]) rfl ?_ (by simp [outs, argsOnly])
  show b_l_built.run [.arg S, .arg X, .un, .un, .un, .un, .un, .un] = _
  have y4 : (mSet 5 (mAdd (mF1 fLenG (mIx (mN 3) (mC (.int 3)))) (mF1 fSum (mLc (iSeq (mIx (mN 3) (mC (.int 3)))) (gN 6) mYes (mF1 fLenG (mN 6)) [6])))).run [.arg S4, .arg X, .val (dD I O E), .val (encG I O Rw), .val (.tup (BR Rw)), .un, .un, .un] =
      some (.nx, [.arg S4, .arg X, .val (dD I O E), .val (encG I O Rw), .val (.tup (BR Rw)), .val (nt (hsum Rw)), .un, .un]) := built_y4 rowsP (Nat.le_trans hG.2.2.1 (by decide))
  have q : (iSeq (mN 4)).run [.arg S4, .arg X, .val (dD I O E), .val (encG I O Rw), .val (.tup (BR Rw)), .val (nt (hsum Rw)), .un, .un] = some (BR Rw, [.p 4 []], [.arg S4, .arg X, .val (dD I O E), .val (encG I O Rw), .val (.tup (BR Rw)), .val (nt (hsum Rw)), .un, .un]) := by
    generalize BR Rw = br
    generalize encG I O Rw = G
    simp [iSeq, mSeq, mIf, mTest, mTru, mGt, mLt, mLe, mGe, mEq, mNe, mIsN, mNotN, mIn, mNotIn, mOp, maCons, maNil, mIx, kIx, mN, mC, mSet, mAsgIx, mRet, mRetN, mDrop, mF1, kf, ko, gets, owns, R.get, R.own, R.ok, R.kid, D.kids, D.at, D.pure, D.pureL, dAt, Sl.d?, ixD, ixN, fCmp, fLt, fLe, fGt, fGe, fMod, fDiv, fMul, fAdd, fSub, fInt, fAbs, fSetIx, kCh, enPut, Sl.put, D.put, D.setKid, argsOnly, outs, mMod, mDiv, mMul, mAdd, mSub, mSkip, mBrk, mCnt, mAnd, mOr, mNot, mVal, mIfE, mCall, kCall, imps, wbs, mTup, fTup, mLst, fLst, fLenG, fLen, fLenD, mPow, fPow, fIsN, fNotN, D.isNon, D.isHole, fIn, fNotIn, D.truth, mUnp, gN, gT, gsCons, gsNil, mApp, mPop, mMeth, maConsP, tyP, tyD, fL, lApp, lPop, sizeLine_eq, fEq_int, fEq_str, fNe_int, fNe_str, D.items]
  have rg := rng_call (m := mC (.int 2)) (e := [.arg S4, .arg X, .val (dD I O E), .val (encG I O Rw), .val (.tup (BR Rw)), .val (nt (hsum Rw)), u6, .un]) rfl (by decide) (by decide)
  unfold b_l_built
  rw [seq_nx (built_y1 a8 ht (src_pure hS) (src_pure a1)), seq_nx (built_y2 b4 c4 d5 (src_pure a1) (src_pure b1) (src_pure c1) (src_pure d1) pG)]
  refine (seq_nx (built_y3 (build_ok hG a2 a3 pB) pG pB)).trans ?_
  rw [seq_nx y4, seq_nx (built_y5 (BR_plain hG) hlen pB (by omega)), seq_nx ((for_run q rfl).trans e1), seq_nx ((for_run rg rfl).trans f2)]
  simp [mRet, mC, argsOnly, R.own]
theorem law_f1x {ml m1 : Fn} {ns : List Int} {S X : D} {i : Int} {b : MS} {os : List D} (h1 : m1 [.lst false (ns.map D.int), .int (2 * i)] = some (S, [.lst false (ns.map D.int), .int (2 * i)])) (h2 : m1 [.lst false (ns.map D.int), .int (2 * i + 1)] = some (X, [.lst false (ns.map D.int), .int (2 * i + 1)]))
    (hl : ml [S, X] = some (.bl true, os)) (hm : CMulW 2 i) (ho : os.length = 2) :
    (mIf (mNot (mTru (mCall ml [] (maCons (mCall m1 [0] (maCons (mN 0) (maCons (mMul (mC (.int 2)) (mN 1)) maNil))) (maCons (mCall m1 [0] (maCons (mN 0) (maCons (mAdd (mMul (mC (.int 2)) (mN 1)) (mC (.int 1))) maNil))) maNil))))) b mSkip).run [.arg (.lst false (ns.map D.int)), .val (.int i)] = some (.nx, [.arg (.lst false (ns.map D.int)), .val (.int i)]) := by
  obtain ⟨o1, o2, rfl⟩ : ∃ a b, os = [a, b] := by
    match os, ho with
    | [a, b], _ => exact ⟨a, b, rfl⟩
  have pn := ints_pure ns
  generalize ns.map D.int = N at h1 h2 pn ⊢
  simp [mSeq, mIf, mTest, mTru, mGt, mLt, mLe, mGe, mEq, mNe, mIsN, mNotN, mIn, mNotIn, mOp, maCons, maNil, mIx, kIx, mN, mC, mSet, mAsgIx, mRet, mRetN, mDrop, mF1, kf, ko, gets, owns, R.get, R.own, R.ok, R.kid, D.kids, D.at, D.pure, D.pureL, dAt, Sl.d?, ixD, ixN, fCmp, fLt, fLe, fGt, fGe, fMod, fDiv, fMul, fAdd, fSub, fInt, fAbs, fSetIx, kCh, enPut, Sl.put, D.put, D.setKid, argsOnly, outs, mMod, mDiv, mMul, mAdd, mSub, mSkip, mBrk, mCnt, mAnd, mOr, mNot, mVal, mIfE, mCall, kCall, imps, wbs, mTup, fTup, mLst, fLst, fLenG, fLen, fLenD, mPow, fPow, fIsN, fNotN, D.isNon, D.isHole, fIn, fNotIn, D.truth, mUnp, gN, gT, gsCons, gsNil, mApp, mPop, mMeth, maConsP, tyP, tyD, fL, lApp, lPop, sizeLine_eq, fEq_int, fEq_str, fNe_int, fNe_str, h1, h2, hl, hm, pn]
theorem law_l (ns : List Int) : ∀ (is : List Nat) (s : Sl), (∀ i ∈ is, i < 40) → ∃ u, forGo (gN 1) b_law_f1 (is.map fun i : Nat => D.int i) [.arg (.lst false (ns.map D.int)), s] = some (.nx, [.arg (.lst false (ns.map D.int)), u])
  | [], s, _ => ⟨s, forGo_nil⟩
  | i :: is, s, hi => by
    have li := hi i List.mem_cons_self
    obtain ⟨u, hu⟩ := law_l ns is (.val (.int i)) fun x hx => hi x (List.mem_cons_of_mem _ hx)
    obtain ⟨S, s1, s2⟩ := source_ok ns (2 * i) (by omega)
    obtain ⟨X, x1, x2⟩ := source_ok ns (2 * i + 1) (by omega)
    obtain ⟨S', X', hl⟩ := built_ok s1 x1
    have e1 : ((2 * i : Nat) : Int) = 2 * (i : Int) := by omega
    have e2 : ((2 * i + 1 : Nat) : Int) = 2 * (i : Int) + 1 := by omega
    rw [e1] at s2
    rw [e2] at x2
    have hb := law_f1x (b := mRet (mC (.bl false))) s2 x2 hl (mulW (by omega) (by omega)) rfl
    refine ⟨u, ?_⟩
    rw [List.map_cons]
    exact (forGo_nx (by simp [gN, D.pure]) hb).trans hu
theorem law_ok (ns : List Int) (hl : ns.length ≤ 63) (hb : ∀ k ∈ ns, Builtin.Int.intBits k ≤ 1048576) : ∃ ds', m_law [.lst false (ns.map D.int)] = some (.bl true, ds') := by
  obtain ⟨u, hu⟩ := law_l ns (List.range' 0 4) .un (by decide)
  rw [← dRange_0] at hu
  refine ⟨[.lst false (ns.map D.int)], ?_⟩
  refine call_run (e' := argsOnly [.arg (.lst false (ns.map D.int)), u]) rfl ?_ (by simp [outs, argsOnly])
  show b_law.run [.arg (.lst false (ns.map D.int)), .un] = _
  have rg := rng_call (m := mC (.int 4)) (e := [.arg (.lst false (ns.map D.int)), .un]) rfl (by decide) (by decide)
  unfold b_law
  rw [seq_nx ((for_run rg rfl).trans hu)]
  simp [mRet, mC, argsOnly, R.own]
end K35
set_option maxRecDepth 100000
open PySem PySem.W PyProof.Rows
set_option maxHeartbeats 0 in
theorem PySem.Challenge.cw_unseenswap_k35_whole_machine_runs_holds : PySem.Challenge.rw_unseenswap_k35_whole_machine_runs.Holds := by
  w_on; o_law; k_head; (case hw => w_witness2)
  k_fill
  refine L2.walk_ofB (l := PySem.Challenge.rw_unseenswap_k35_whole_machine_runs) (n := 63) (k := 10) (x := "script") (CX := fun _ => L2.CX0) (sp := fun w => G.spOf (PySem.Challenge.rw_unseenswap_k35_whole_machine_runs).prog w _ K35.m_law) rfl (by decide) rfl ⟨rfl, by decide, by decide⟩ (fun w h Y => PySem.W.kIn_of Y) ?F (fun w H a ns hl hb _ hS => G.law_end (K35.law_ok ns hl hb) hS) (fun _ _ _ _ _ h => h)
  case F =>
    intro w mg fa h KX G hmg
    refine' K35.all_mk KX G hmg ?a0 ?l0 ?c0 ?k0 ?a1 ?l1 ?c1 ?k1 ?a2 ?l2 ?c2 ?k2 ?a3 ?l3 ?c3 ?k3 ?a4 ?l4 ?c4 ?k4 ?a5 ?l5 ?c5 ?k5 ?a6 ?l6 ?c6 ?k6 ?a7 ?l7 ?c7 ?k7 ?a8 ?l8 ?c8 ?k8 ?a9 ?l9 ?c9 ?k9 ?a10 ?l10 ?c10 ?k10 ?a11 ?l11 ?c11 ?k11 ?a12 ?l12 ?c12 ?k12 ?a13 ?l13 ?c13 ?k13 ?a14 ?l14 ?c14 ?k14 ?a15 ?l15 ?c15 ?k15 ?a16 ?l16 ?c16 ?k16 ?a17 ?l17 ?c17 ?k17 ?a18 ?l18 ?c18 ?k18 ?a19 ?l19 ?c19 ?k19 ?a20 ?l20 ?c20 ?k20 ?a21 ?l21 ?c21 ?k21 ?z_bool ?z_enumerate ?z_int ?z_isinstance ?z_len ?z_list ?z_range ?z_sorted ?z_str ?z_sum ?z_tuple
    (case a0 => k_is); (case l0 => k_is); (case c0 => k_is); (case k0 => k_is)
    (case a1 => k_is); (case l1 => k_is); (case c1 => k_is); (case k1 => k_is)
    (case a2 => k_is); (case l2 => k_is); (case c2 => k_is); (case k2 => k_is)
    (case a3 => k_is); (case l3 => k_is); (case c3 => k_is); (case k3 => k_is)
    (case a4 => k_is); (case l4 => k_is); (case c4 => k_is); (case k4 => k_is)
    (case a5 => k_is); (case l5 => k_is); (case c5 => k_is); (case k5 => k_is)
    (case a6 => k_is); (case l6 => k_is); (case c6 => k_is); (case k6 => k_is)
    (case a7 => k_is); (case l7 => k_is); (case c7 => k_is); (case k7 => k_is)
    (case a8 => k_is); (case l8 => k_is); (case c8 => k_is); (case k8 => k_is)
    (case a9 => k_is); (case l9 => k_is); (case c9 => k_is); (case k9 => k_is)
    (case a10 => k_is); (case l10 => k_is); (case c10 => k_is); (case k10 => k_is)
    (case a11 => k_is); (case l11 => k_is); (case c11 => k_is); (case k11 => k_is)
    (case a12 => k_is); (case l12 => k_is); (case c12 => k_is); (case k12 => k_is)
    (case a13 => k_is); (case l13 => k_is); (case c13 => k_is); (case k13 => k_is)
    (case a14 => k_is); (case l14 => k_is); (case c14 => k_is); (case k14 => k_is)
    (case a15 => k_is); (case l15 => k_is); (case c15 => k_is); (case k15 => k_is)
    (case a16 => k_is); (case l16 => k_is); (case c16 => k_is); (case k16 => k_is)
    (case a17 => k_is); (case l17 => k_is); (case c17 => k_is); (case k17 => k_is)
    (case a18 => k_is); (case l18 => k_is); (case c18 => k_is); (case k18 => k_is)
    (case a19 => k_is); (case l19 => k_is); (case c19 => k_is); (case k19 => k_is)
    (case a20 => k_is); (case l20 => k_is); (case c20 => k_is); (case k20 => k_is)
    (case a21 => k_is); (case l21 => k_is); (case c21 => k_is); (case k21 => k_is)
    (case z_bool => k_is); (case z_enumerate => k_is); (case z_int => k_is); (case z_isinstance => k_is); (case z_len => k_is); (case z_list => k_is); (case z_range => k_is); (case z_sorted => k_is); (case z_str => k_is); (case z_sum => k_is); (case z_tuple => k_is)
