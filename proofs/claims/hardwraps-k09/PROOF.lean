import PyProof.Rows.All
import Wide.All
import OpenK.AllK
import Wide.FinOn
import HandS.ForMost
import HandS.ForExc
import HandS.Wide
import HandS.WideBits
import HandS.Style
import HandS.IsInst
import HandS.SortInts
import KE.KSortedM
import HandS.Defaults
import HandS.More
import HandS.Deep
import PyProof.StrLawsRepr
import KE.KStateDown
import HandS.Head0
import HandS.Head1
import HandS.Head2
import HandS.HeadEnd
import HandS.HeadHook1
import HandS.HeadHook2
import PySem.Challenge.RW_hardwraps_k09_breaks_by_index
set_option Elab.async false
set_option autoImplicit false
set_option linter.all false
set_option maxRecDepth 100000
set_option maxHeartbeats 2000000
/-! DI1: data, what represents them, slots, states. -/
namespace DI
open PySem PySem.Spec PyProof.Rows L2
/-- data without addresses -/
inductive D where
  | non | bl (b : Bool) | int (i : Int) | str (s : Str)
  | lst (xs : List D) | tup (xs : List D)
  | dic (ks : List Key) (vs : List D)
  | scr (ns : List Int)
  | sta (a : Addr)
  | ty (n : String)
/-- a slot: shared (never changed in place) | a list of one's own | a parameter's list that may be changed in place -/
inductive Md where
  | sh | ow | pr
  deriving DecidableEq
mutual
inductive Rep (K : PySem.W.Frag) (I : Hp) : V → D → Prop
  | non : Rep K I .non .non
  | bl (b : Bool) : Rep K I (.bl b) (.bl b)
  | int (i : Int) : Rep K I (.int i) (.int i)
  | str (x : Str) : Rep K I (.str x) (.str x)
  | lst {a : Addr} {xs : List V} {ds : List D} : I a = some (.lst xs) → Reps K I xs ds → Rep K I (.ref a) (.lst ds)
  | tup {a : Addr} {xs : List V} {ds : List D} : SqT K I a xs → Reps K I xs ds → Rep K I (.ref a) (.tup ds)
  | dic {a : Addr} {ks : List Key} {xs : List V} {ds : List D} : I a = some (.dK (ks.zip xs)) → ks.length = xs.length → Reps K I xs ds → Rep K I (.ref a) (.dic ks ds)
  | scr {a : Addr} {ns : List Int} : SqL K I a (ns.map V.int) → Rep K I (.ref a) (.scr ns)
  | sta (a : Addr) : Rep K I (.ref a) (.sta a)
  | ty (n : String) : Rep K I (.ty n) (.ty n)
inductive Reps (K : PySem.W.Frag) (I : Hp) : List V → List D → Prop
  | nil : Reps K I [] []
  | cons {v : V} {vs : List V} {d : D} {ds : List D} : Rep K I v d → Reps K I vs ds → Reps K I (v :: vs) (d :: ds)
end
def Ext (H H' : Hp) : Prop := ∀ a o, H a = some o → H' a = some o
theorem Ext.refl (H : Hp) : Ext H H := fun _ _ h => h
theorem Ext.trans {H H1 H2 : Hp} (a : Ext H H1) (b : Ext H1 H2) : Ext H H2 := fun x o h => b x o (a x o h)
theorem Ext.new {H : Hp} {p : Addr} {o : HO} (h : H p = none) : Ext H (upd H p o) := fun a u e => by
  rw [upd_ne (ne_of_none e h)]; exact e
theorem Ext.upd2 {I H : Hp} {p : Addr} {o : HO} (e : Ext I H) : Ext (upd I p o) (upd H p o) := fun a u h => by
  by_cases ha : a = p
  · subst ha; rw [upd_same] at h ⊢; exact h
  · rw [upd_ne ha] at h ⊢; exact e a u h
theorem Ext.mut {I H : Hp} {p : Addr} {o : HO} (e : Ext I H) (h : I p = none) : Ext I (upd H p o) := fun a u ha => by
  rw [upd_ne (ne_of_none ha h)]; exact e a u ha
theorem Ext.free {H H' : Hp} {p : Addr} (e : Ext H H') (h : H' p = none) : H p = none := by
  cases q : H p with
  | none => rfl
  | some o => rw [e p o q] at h; cases h
theorem Ext.l {K : PySem.W.Frag} {H H' : Hp} {a : Addr} {xs : List V} (e : Ext H H') (h : SqL K H a xs) : SqL K H' a xs := by
  rcases h with (h | ⟨o, h⟩) | h
  · exact .inl (.inl (e _ _ h))
  · exact .inl (.inr ⟨o, e _ _ h⟩)
  · exact .inr h
theorem Ext.t {K : PySem.W.Frag} {H H' : Hp} {a : Addr} {xs : List V} (e : Ext H H') (h : SqT K H a xs) : SqT K H' a xs := by
  rcases h with (h | ⟨o, h⟩) | h
  · exact .inl (.inl (e _ _ h))
  · exact .inl (.inr ⟨o, e _ _ h⟩)
  · exact .inr h
section
variable {K : PySem.W.Frag} {I I' H H' : Hp}
mutual
theorem Rep.mono (e : Ext I I') : ∀ {v : V} {d : D}, Rep K I v d → Rep K I' v d
  | _, _, .non => .non
  | _, _, .bl b => .bl b
  | _, _, .int i => .int i
  | _, _, .str x => .str x
  | _, _, .lst h r => .lst (e _ _ h) (Reps.mono e r)
  | _, _, .tup h r => .tup (e.t h) (Reps.mono e r)
  | _, _, .dic h l r => .dic (e _ _ h) l (Reps.mono e r)
  | _, _, .scr h => .scr (e.l h)
  | _, _, .sta a => .sta a
  | _, _, .ty a => .ty a
theorem Reps.mono (e : Ext I I') : ∀ {vs : List V} {ds : List D}, Reps K I vs ds → Reps K I' vs ds
  | _, _, .nil => .nil
  | _, _, .cons h r => .cons (Rep.mono e h) (Reps.mono e r)
end
theorem Reps.length : ∀ {vs : List V} {ds : List D}, Reps K I vs ds → vs.length = ds.length
  | _, _, .nil => rfl
  | _, _, .cons _ r => congrArg (· + 1) (Reps.length r)
theorem Reps.get : ∀ {vs : List V} {ds : List D} {i : Nat} {d : D}, Reps K I vs ds → ds[i]? = some d → ∃ v, vs[i]? = some v ∧ Rep K I v d
  | _, _, _, _, .nil, e => by simp at e
  | _, _, 0, _, .cons h _, e => by simp at e; subst e; exact ⟨_, rfl, h⟩
  | _, _, i + 1, d, .cons _ r, e => by
    obtain ⟨v, h1, h2⟩ := Reps.get (i := i) (d := d) r (by simpa using e)
    exact ⟨v, by simpa using h1, h2⟩
theorem Reps.getV : ∀ {vs : List V} {ds : List D} {i : Nat} {v : V}, Reps K I vs ds → vs[i]? = some v → ∃ d, ds[i]? = some d ∧ Rep K I v d
  | _, _, _, _, .nil, e => by simp at e
  | _, _, 0, _, .cons h _, e => by simp at e; subst e; exact ⟨_, rfl, h⟩
  | _, _, i + 1, d, .cons _ r, e => by
    obtain ⟨v, h1, h2⟩ := Reps.getV (i := i) (v := d) r (by simpa using e)
    exact ⟨v, by simpa using h1, h2⟩
theorem Reps.append : ∀ {vs ws : List V} {ds es : List D}, Reps K I vs ds → Reps K I ws es → Reps K I (vs ++ ws) (ds ++ es)
  | _, _, _, _, .nil, s => s
  | _, _, _, _, .cons h r, s => .cons h (Reps.append r s)
theorem Reps.take : ∀ {vs : List V} {ds : List D} (n : Nat), Reps K I vs ds → Reps K I (vs.take n) (ds.take n)
  | _, _, 0, _ => .nil
  | _, _, _ + 1, .nil => .nil
  | _, _, n + 1, .cons h r => .cons h (Reps.take n r)
theorem Reps.drop : ∀ {vs : List V} {ds : List D} (n : Nat), Reps K I vs ds → Reps K I (vs.drop n) (ds.drop n)
  | _, _, 0, r => r
  | _, _, _ + 1, .nil => .nil
  | _, _, n + 1, .cons _ r => Reps.drop n r
theorem Reps.set {v : V} {d : D} (h : Rep K I v d) : ∀ {vs : List V} {ds : List D} (n : Nat), Reps K I vs ds → Reps K I (vs.set n v) (ds.set n d)
  | _, _, _, .nil => .nil
  | _, _, 0, .cons _ r => .cons h r
  | _, _, n + 1, .cons q r => .cons q (Reps.set h n r)
theorem Reps.reverse {vs : List V} {ds : List D} (h : Reps K I vs ds) : Reps K I vs.reverse ds.reverse := by
  induction vs generalizing ds with
  | nil => cases h; exact .nil
  | cons v vs ih =>
    cases h with
    | cons a b => rw [List.reverse_cons, List.reverse_cons]; exact (ih b).append (.cons a .nil)
theorem Reps.rep {vs : List V} {ds : List D} (h : Reps K I vs ds) : ∀ k : Nat, Reps K I (List.replicate k vs).flatten (List.replicate k ds).flatten
  | 0 => .nil
  | k + 1 => by rw [List.replicate_succ, List.replicate_succ, List.flatten_cons, List.flatten_cons]; exact h.append (Reps.rep h k)
theorem Reps.eraseIdx : ∀ {vs : List V} {ds : List D} (n : Nat), Reps K I vs ds → Reps K I (vs.eraseIdx n) (ds.eraseIdx n)
  | _, _, _, .nil => .nil
  | _, _, 0, .cons _ r => r
  | _, _, n + 1, .cons q r => .cons q (Reps.eraseIdx n r)
theorem Reps.dropLast {vs : List V} {ds : List D} (h : Reps K I vs ds) : Reps K I vs.dropLast ds.dropLast := by
  rw [List.dropLast_eq_take, List.dropLast_eq_take, h.length]; exact h.take _
theorem Reps.ints : ∀ (ns : List Int), Reps K I (ns.map V.int) (ns.map D.int)
  | [] => .nil
  | n :: r => .cons (.int n) (Reps.ints r)
theorem Reps.ints_of : ∀ {ns : List Int} {vs : List V}, Reps K I vs (ns.map D.int) → vs = ns.map V.int
  | [], _, .nil => rfl
  | n :: r, _, .cons h t => by
    cases h
    rw [List.map_cons, Reps.ints_of t]
/-- not a list -/
def D.nl : D → Bool
  | .lst _ => false
  | _ => true
/-- what a slot, or a fresh value, in a mode represents; the addresses that are its own -/
def RepM (m : Md) (K : PySem.W.Frag) (I H : Hp) (v : V) (d : D) (fp : List Addr) : Prop :=
  match m with
  | .sh => Rep K I v d ∧ fp = []
  | _ => (d.nl = true ∧ Rep K I v d ∧ fp = []) ∨ ∃ a xs ds, v = .ref a ∧ d = .lst ds ∧ H a = some (.lst xs) ∧ Reps K I xs ds ∧ fp = [a]
theorem RepM.move {m : Md} {v : V} {d : D} {fp : List Addr} (h : RepM m K I H v d fp) (e : Ext I I') (k : ∀ p ∈ fp, ∀ o, H p = some o → H' p = some o) : RepM m K I' H' v d fp := by
  have go : ((d.nl = true ∧ Rep K I v d ∧ fp = []) ∨ ∃ a xs ds, v = .ref a ∧ d = .lst ds ∧ H a = some (.lst xs) ∧ Reps K I xs ds ∧ fp = [a]) → (d.nl = true ∧ Rep K I' v d ∧ fp = []) ∨ ∃ a xs ds, v = .ref a ∧ d = .lst ds ∧ H' a = some (.lst xs) ∧ Reps K I' xs ds ∧ fp = [a] := by
    rintro (⟨a, b, c⟩ | ⟨a, xs, ds, rfl, rfl, h1, h2, rfl⟩)
    · exact .inl ⟨a, b.mono e, c⟩
    · exact .inr ⟨a, xs, ds, rfl, rfl, k a (by simp) _ h1, h2.mono e, rfl⟩
  cases m with
  | sh => exact ⟨h.1.mono e, h.2⟩
  | ow => exact go h
  | pr => exact go h
/-- it can be read now: a list's items in I -/
def Rd1 (K : PySem.W.Frag) (I H : Hp) (v : V) (d : D) : Prop :=
  match d with
  | .lst ds => ∃ a xs, v = .ref a ∧ H a = some (.lst xs) ∧ Reps K I xs ds
  | _ => Rep K I v d
theorem Rd1.of_rep {v : V} {d : D} (e : Ext I H) (h : Rep K I v d) : Rd1 K I H v d := by
  cases h with
  | lst h r => exact ⟨_, _, rfl, e _ _ h, r⟩
  | _ => first | exact .non | exact .bl _ | exact .int _ | exact .str _ | exact .tup (by assumption) (by assumption) | exact .dic (by assumption) (by assumption) (by assumption) | exact .scr (by assumption) | exact .sta _ | exact .ty _
theorem RepM.rd {m : Md} {v : V} {d : D} {fp : List Addr} (h : RepM m K I H v d fp) (e : Ext I H) : Rd1 K I H v d := by
  have go : ((d.nl = true ∧ Rep K I v d ∧ fp = []) ∨ ∃ a xs ds, v = .ref a ∧ d = .lst ds ∧ H a = some (.lst xs) ∧ Reps K I xs ds ∧ fp = [a]) → Rd1 K I H v d := by
    rintro (⟨a, b, c⟩ | ⟨a, xs, ds, rfl, rfl, h1, h2, rfl⟩)
    · exact .of_rep e b
    · exact ⟨a, xs, rfl, h1, h2⟩
  cases m with
  | sh => exact .of_rep e h.1
  | ow => exact go h
  | pr => exact go h
theorem RepM.there {m : Md} {v : V} {d : D} {fp : List Addr} (h : RepM m K I H v d fp) : ∀ p ∈ fp, ∃ xs, H p = some (.lst xs) := by
  have go : ((d.nl = true ∧ Rep K I v d ∧ fp = []) ∨ ∃ a xs ds, v = .ref a ∧ d = .lst ds ∧ H a = some (.lst xs) ∧ Reps K I xs ds ∧ fp = [a]) → ∀ p ∈ fp, ∃ xs, H p = some (.lst xs) := by
    rintro (⟨a, b, rfl⟩ | ⟨a, xs, ds, rfl, rfl, h1, h2, rfl⟩) p hp
    · cases hp
    · simp at hp; subst hp; exact ⟨_, h1⟩
  cases m with
  | sh => intro p hp; rw [h.2] at hp; cases hp
  | ow => exact go h
  | pr => exact go h
abbrev Env := List (Option D)
/-- the slots of a def: modes, values, data, the addresses that are their own -/
inductive Slots (K : PySem.W.Frag) (I H : Hp) : List Md → L2.St → Env → List Addr → Prop
  | nil : Slots K I H [] [] [] []
  | non {m : Md} {o : Option V} {ms : List Md} {σ : L2.St} {env : Env} {fp : List Addr} : Slots K I H ms σ env fp → Slots K I H (m :: ms) (o :: σ) (none :: env) fp
  | som {m : Md} {v : V} {d : D} {ms : List Md} {σ : L2.St} {env : Env} {fp fp1 : List Addr} : RepM m K I H v d fp1 → Slots K I H ms σ env fp → Slots K I H (m :: ms) (some v :: σ) (some d :: env) (fp1 ++ fp)
theorem Slots.move (e : Ext I I') : ∀ {ms : List Md} {σ : L2.St} {env : Env} {fp : List Addr}, Slots K I H ms σ env fp → (∀ p ∈ fp, ∀ o, H p = some o → H' p = some o) → Slots K I' H' ms σ env fp
  | _, _, _, _, .nil, _ => .nil
  | _, _, _, _, .non s, k => .non (Slots.move e s k)
  | _, _, _, _, .som h s, k => .som (h.move e fun p hp => k p (List.mem_append_left _ hp)) (Slots.move e s fun p hp => k p (List.mem_append_right _ hp))
theorem Slots.there : ∀ {ms : List Md} {σ : L2.St} {env : Env} {fp : List Addr}, Slots K I H ms σ env fp → ∀ p ∈ fp, ∃ xs, H p = some (.lst xs)
  | _, _, _, _, .nil, p, hp => by cases hp
  | _, _, _, _, .non s, p, hp => Slots.there s p hp
  | _, _, _, _, .som h s, p, hp => (List.mem_append.mp hp).elim (h.there p) (Slots.there s p)
theorem Slots.len : ∀ {ms : List Md} {σ : L2.St} {env : Env} {fp : List Addr}, Slots K I H ms σ env fp → ms.length = env.length ∧ σ.length = env.length
  | _, _, _, _, .nil => ⟨rfl, rfl⟩
  | _, _, _, _, .non s => ⟨congrArg (· + 1) s.len.1, congrArg (· + 1) s.len.2⟩
  | _, _, _, _, .som _ s => ⟨congrArg (· + 1) s.len.1, congrArg (· + 1) s.len.2⟩
theorem Slots.get : ∀ {ms : List Md} {σ : L2.St} {env : Env} {fp : List Addr} {i : Nat} {d : D}, Slots K I H ms σ env fp → env[i]? = some (some d) →
    ∃ m v fp1, ms[i]? = some m ∧ σ[i]? = some (some v) ∧ RepM m K I H v d fp1 ∧ ∀ p ∈ fp1, p ∈ fp
  | _, _, _, _, _, _, .nil, e => by simp at e
  | _, _, _, _, 0, _, .non s, e => by simp at e
  | _, _, _, _, 0, _, .som h s, e => by
    simp at e; subst e
    exact ⟨_, _, _, rfl, rfl, h, fun p hp => List.mem_append_left _ hp⟩
  | _, _, _, _, i + 1, d, .non s, e => by
    obtain ⟨m, v, fp1, h1, h2, h3, h4⟩ := Slots.get (i := i) (d := d) s (by simpa using e)
    exact ⟨m, v, fp1, by simpa using h1, by simpa using h2, h3, h4⟩
  | _, _, _, _, i + 1, d, .som h s, e => by
    obtain ⟨m, v, fp1, h1, h2, h3, h4⟩ := Slots.get (i := i) (d := d) s (by simpa using e)
    exact ⟨m, v, fp1, by simpa using h1, by simpa using h2, h3, fun p hp => List.mem_append_right _ (h4 p hp)⟩
/-- a slot is filled anew -/
theorem Slots.put {m : Md} {v : V} {d : D} {fp1 : List Addr} (h : RepM m K I H v d fp1) : ∀ {ms : List Md} {σ : L2.St} {env : Env} {fp : List Addr} {i : Nat}, Slots K I H ms σ env fp → i < ms.length → (fp1 ++ fp).Nodup →
    ∃ fp', Slots K I H (ms.set i m) (σ.set i (some v)) (env.set i (some d)) fp' ∧ fp'.Nodup ∧ (∀ p ∈ fp', p ∈ fp1 ∨ p ∈ fp)
  | _, _, _, _, _, .nil, hi, _ => by simp at hi
  | _, _, _, fp, 0, .non s, _, nd => ⟨fp1 ++ fp, .som h s, nd, fun p hp => List.mem_append.mp hp⟩
  | _, _, _, _, 0, .som (fp := fp) (fp1 := f0) q s, _, nd => by
    refine ⟨fp1 ++ fp, .som h s, ?_, fun p hp => (List.mem_append.mp hp).imp_right (List.mem_append_right _)⟩
    exact nd.sublist (List.Sublist.append_left (List.sublist_append_right _ _) _)
  | _, _, _, _, i + 1, .non s, hi, nd => by
    obtain ⟨fp', a, b, c⟩ := Slots.put h (i := i) s (by simpa using hi) nd
    exact ⟨fp', .non a, b, c⟩
  | _, _, _, _, i + 1, .som (fp := fp) (fp1 := f0) q s, hi, nd => by
    have nd1 : (fp1 ++ fp).Nodup := nd.sublist (List.Sublist.append_left (List.sublist_append_right _ _) _)
    obtain ⟨fp', a, b, c⟩ := Slots.put h (i := i) s (by simpa using hi) nd1
    refine ⟨f0 ++ fp', .som q a, ?_, fun p hp => ?_⟩
    · rw [List.nodup_append] at nd ⊢
      obtain ⟨n1, n2, n3⟩ := nd
      rw [List.nodup_append] at n2
      refine ⟨n2.1, b, fun x hx y hy => ?_⟩
      rcases c y hy with z | z
      · exact fun e => n3 y z x (List.mem_append_left _ hx) e.symm
      · exact n2.2.2 x hx y z
    · rcases List.mem_append.mp hp with z | z
      · exact .inr (List.mem_append_left _ z)
      · exact (c p z).imp_right (List.mem_append_right _)
/-- a list of one's own is changed in place -/
theorem Slots.write {a : Addr} {xs : List V} {ds : List D} (hx : Reps K I xs ds) : ∀ {ms : List Md} {σ : L2.St} {env : Env} {fp : List Addr} {i : Nat}, Slots K I H ms σ env fp → fp.Nodup → σ[i]? = some (some (.ref a)) → a ∈ fp →
    (∃ es m, env[i]? = some (some (.lst es)) ∧ ms[i]? = some m ∧ m ≠ .sh) → Slots K I (upd H a (.lst xs)) ms σ (env.set i (some (.lst ds))) fp
  | _, _, _, _, _, .nil, _, e, _, _ => by simp at e
  | _, _, _, _, 0, .non s, _, _, _, ⟨es, m, e, _⟩ => by simp at e
  | _, _, _, _, 0, .som (m := m) (fp := fp) (fp1 := f0) q s, nd, e, ha, ⟨es, m', e1, e2, e3⟩ => by
    simp at e e1 e2
    subst e e1 e2
    have q' : (D.nl (.lst es) = true ∧ Rep K I (.ref a) (.lst es) ∧ f0 = []) ∨ ∃ a' xs ds, V.ref a = .ref a' ∧ D.lst es = .lst ds ∧ H a' = some (.lst xs) ∧ Reps K I xs ds ∧ f0 = [a'] := by
      cases m with
      | sh => exact absurd rfl e3
      | ow => exact q
      | pr => exact q
    rcases q' with ⟨z, _⟩ | ⟨a', xs', ds', z1, z2, h1, h2, h3⟩
    · cases z
    · cases z1
      subst h3
      have hn : a ∉ fp := fun z => by
        rw [List.nodup_append] at nd
        exact nd.2.2 a (by simp) a z rfl
      refine .som ?_ (Slots.move (.refl _) s fun p hp o hq => by rw [upd_ne (fun z => hn (by rw [← z]; exact hp))]; exact hq)
      cases m with
      | sh => exact absurd rfl e3
      | ow => exact .inr ⟨a, xs, ds, rfl, rfl, upd_same, hx, rfl⟩
      | pr => exact .inr ⟨a, xs, ds, rfl, rfl, upd_same, hx, rfl⟩
  | _, _, _, _, i + 1, .non s, nd, e, ha, ⟨es, m', e1, e2, e3⟩ => .non (Slots.write hx (i := i) s nd (by simpa using e) ha ⟨es, m', by simpa using e1, by simpa using e2, e3⟩)
  | _, _, _, _, i + 1, .som (fp := fp) (fp1 := f0) q s, nd, e, ha, ⟨es, m', e1, e2, e3⟩ => by
    rw [List.nodup_append] at nd
    have e1' := e1
    obtain ⟨m2, v2, fp2, g1, g2, g3, g4⟩ := Slots.get (i := i) s (by simpa using e1)
    have hin : a ∈ fp := by
      have g2' : some (some v2) = some (some (V.ref a)) := g2.symm.trans (by simpa using e)
      cases g2'
      have g1' : some m2 = some m' := g1.symm.trans (by simpa using e2)
      cases g1'
      have q' : (D.nl (.lst es) = true ∧ Rep K I (.ref a) (.lst es) ∧ fp2 = []) ∨ ∃ a' xs ds, V.ref a = .ref a' ∧ D.lst es = .lst ds ∧ H a' = some (.lst xs) ∧ Reps K I xs ds ∧ fp2 = [a'] := by
        cases m' with
        | sh => exact absurd rfl e3
        | ow => exact g3
        | pr => exact g3
      rcases q' with ⟨z, _⟩ | ⟨a', xs', ds', z1, z2, h1, h2, h3⟩
      · cases z
      · cases z1
        exact g4 a (by rw [h3]; simp)
    have hn : a ∉ f0 := fun z => nd.2.2 a z a hin rfl
    exact .som (q.move (.refl _) fun p hp o hq => by rw [upd_ne (fun z => hn (by rw [← z]; exact hp))]; exact hq)
      (Slots.write hx (i := i) s nd.2.1 (by simpa using e) hin ⟨es, m', by simpa using e1, by simpa using e2, e3⟩)
/-- the slots of a mode pr alone -/
def maskP : List Md → Env → Env
  | m :: ms, o :: env => (if m = .pr then o else none) :: maskP ms env
  | _, _ => []
theorem Slots.mask : ∀ {ms : List Md} {σ : L2.St} {env : Env} {fp : List Addr}, Slots K I H ms σ env fp → ∃ fp', Slots K I H ms σ (maskP ms env) fp' ∧ fp'.Sublist fp
  | _, _, _, _, .nil => ⟨[], .nil, .slnil⟩
  | _, _, _, _, .non (m := m) s => by
    obtain ⟨fp', a, b⟩ := s.mask
    refine ⟨fp', ?_, b⟩
    unfold maskP
    split <;> exact .non a
  | _, _, _, _, .som (m := m) (fp1 := f0) h s => by
    obtain ⟨fp', a, b⟩ := s.mask
    by_cases e : m = .pr
    · refine ⟨f0 ++ fp', ?_, b.append_left _⟩
      unfold maskP
      rw [if_pos e]
      exact .som h a
    · refine ⟨fp', ?_, b.trans (List.sublist_append_right _ _)⟩
      unfold maskP
      rw [if_neg e]
      exact .non a
theorem maskP_length : ∀ {ms : List Md} {env : Env}, ms.length = env.length → (maskP ms env).length = env.length
  | [], [], _ => rfl
  | m :: ms, o :: env, h => by
    unfold maskP
    rw [List.length_cons, List.length_cons, maskP_length (by simpa using h)]
/-- a list of one's own is shared from here on -/
theorem Slots.share : ∀ {ms : List Md} {σ : L2.St} {env : Env} {fp : List Addr} {i : Nat}, Slots K I H ms σ env fp → fp.Nodup → (∀ p ∈ fp, I p = none) → Ext I H → ms[i]? = some .ow →
    ∃ I' fp', Ext I I' ∧ Ext I' H ∧ Slots K I' H (ms.set i .sh) σ env fp' ∧ fp'.Sublist fp ∧ (∀ p ∈ fp', I' p = none) ∧ ∀ b, I' b ≠ none → I b ≠ none ∨ b ∈ fp
  | _, _, _, _, _, .nil, _, _, _, e => by simp at e
  | _, _, _, fp, 0, .non s, nd, off, eh, e => ⟨I, fp, .refl _, eh, .non s, .refl _, off, fun b hb => .inl hb⟩
  | _, _, _, _, 0, .som (m := m) (v := v) (d := d) (fp := fp) (fp1 := f0) q s, nd, off, eh, e => by
    simp at e
    subst e
    rcases q with ⟨a, b, rfl⟩ | ⟨a, xs, ds, rfl, rfl, h1, h2, rfl⟩
    · exact ⟨I, fp, .refl _, eh, .som (fp1 := []) (m := .sh) ⟨b, rfl⟩ s, .refl _, off, fun b hb => .inl hb⟩
    · have na : I a = none := off a (by simp)
      have hn : a ∉ fp := fun z => by
        rw [List.nodup_append] at nd
        exact nd.2.2 a (by simp) a z rfl
      refine ⟨upd I a (.lst xs), fp, .new na, fun b o hb => ?_, .som (fp1 := []) (m := .sh) ⟨.lst upd_same (h2.mono (.new na)), rfl⟩ (s.move (.new na) fun p hp o ho => ho), List.sublist_append_right _ _, fun p hp => ?_, fun b hb => ?_⟩
      · by_cases hba : b = a
        · subst hba; rw [upd_same] at hb; cases hb; exact h1
        · rw [upd_ne hba] at hb; exact eh b o hb
      · rw [upd_ne fun z => hn (by rw [← z]; exact hp)]; exact off p (List.mem_append_right _ hp)
      · by_cases hba : b = a
        · subst hba; exact .inr (by simp)
        · rw [upd_ne hba] at hb; exact .inl hb
  | _, _, _, _, i + 1, .non s, nd, off, eh, e => by
    obtain ⟨I', fp', a1, a2, a3, a4, a5, a6⟩ := s.share (i := i) nd off eh (by simpa using e)
    exact ⟨I', fp', a1, a2, .non a3, a4, a5, a6⟩
  | _, _, _, _, i + 1, .som (fp := fp) (fp1 := f0) q s, nd, off, eh, e => by
    have nd' := nd
    rw [List.nodup_append] at nd
    obtain ⟨I', fp', a1, a2, a3, a4, a5, a6⟩ := s.share (i := i) nd.2.1 (fun p hp => off p (List.mem_append_right _ hp)) eh (by simpa using e)
    refine ⟨I', f0 ++ fp', a1, a2, .som (q.move a1 fun p hp o ho => ho) a3, a4.append_left _, fun p hp => ?_, fun b hb => (a6 b hb).imp_right (List.mem_append_right _)⟩
    rcases List.mem_append.mp hp with z | z
    · cases hz : I' p with
      | none => rfl
      | some o =>
        rcases a6 p (by rw [hz]; simp) with y | y
        · exact absurd (off p (List.mem_append_left _ z)) y
        · exact absurd rfl (nd.2.2 p z p y)
    · exact a5 p z
/-- a state of the layer that holds the data env: I the shared part, fp the lists of the slots' own -/
structure St (K : PySem.W.Frag) (ms : List Md) (I : Hp) (σ : L2.St) (env : Env) (H : Hp) (fp : List Addr) : Prop where
  ext : Ext I H
  nd : fp.Nodup
  off : ∀ p ∈ fp, I p = none
  sl : Slots K I H ms σ env fp
/-- from one state to a later one -/
structure Step (I H : Hp) (fp : List Addr) (I' H' : Hp) (fp' : List Addr) : Prop where
  ext : Ext I I'
  keep : ∀ b o, H b = some o → b ∉ fp → H' b = some o
  own : ∀ p ∈ fp', p ∈ fp ∨ H p = none
  gr : ∀ b, I' b ≠ none → I b ≠ none ∨ b ∈ fp ∨ H b = none
theorem Step.refl (I H : Hp) (fp : List Addr) : Step I H fp I H fp := ⟨.refl _, fun _ _ h _ => h, fun _ h => .inl h, fun _ h => .inl h⟩
end
section
variable {K : PySem.W.Frag} {I I1 I2 H H1 H2 : Hp} {fp fp1 fp2 : List Addr} {ms : List Md} {σ : L2.St} {env : Env}
theorem Step.trans (a : Step I H fp I1 H1 fp1) (b : Step I1 H1 fp1 I2 H2 fp2) : Step I H fp I2 H2 fp2 where
  ext := a.ext.trans b.ext
  keep := fun c o h hc => b.keep c o (a.keep c o h hc) fun z => by
    rcases a.own c z with y | y
    · exact hc y
    · rw [h] at y; cases y
  own := fun p hp => by
    rcases b.own p hp with z | z
    · exact a.own p z
    · by_cases hf : p ∈ fp
      · exact .inl hf
      · cases q : H p with
        | none => exact .inr rfl
        | some o => rw [a.keep p o q hf] at z; cases z
  gr := fun c hc => by
    rcases b.gr c hc with z | z | z
    · exact a.gr c z
    · rcases a.own c z with y | y
      · exact .inr (.inl y)
      · exact .inr (.inr y)
    · by_cases hf : c ∈ fp
      · exact .inr (.inl hf)
      · cases q : H c with
        | none => exact .inr (.inr rfl)
        | some o => rw [a.keep c o q hf] at z; cases z
/-- a new shared object -/
theorem Step.newI {p : Addr} {o : HO} (hp : H p = none) (e : Ext I H) : Step I H fp (upd I p o) (upd H p o) fp where
  ext := .new (e.free hp)
  keep := fun b u h _ => Ext.new hp b u h
  own := fun _ h => .inl h
  gr := fun b hb => by
    by_cases e : b = p
    · subst e; exact .inr (.inr hp)
    · rw [upd_ne e] at hb; exact .inl hb
theorem St.newI {p : Addr} {o : HO} (s : St K ms I σ env H fp) (hp : H p = none) : St K ms (upd I p o) σ env (upd H p o) fp where
  ext := s.ext.upd2
  nd := s.nd
  off := fun q hq => by
    obtain ⟨xs, hx⟩ := s.sl.there q hq
    rw [upd_ne (ne_of_none hx hp)]
    exact s.off q hq
  sl := s.sl.move (.new (s.ext.free hp)) fun q hq o h => Ext.new hp q o h
/-- a new object that is not shared (yet) -/
theorem Step.newH {p : Addr} {o : HO} (hp : H p = none) : Step I H fp I (upd H p o) fp where
  ext := .refl _
  keep := fun b u h _ => Ext.new hp b u h
  own := fun _ h => .inl h
  gr := fun b hb => .inl hb
theorem St.newH {p : Addr} {o : HO} (s : St K ms I σ env H fp) (hp : H p = none) : St K ms I σ env (upd H p o) fp where
  ext := s.ext.trans (.new hp)
  nd := s.nd
  off := s.off
  sl := s.sl.move (.refl _) fun q hq o h => Ext.new hp q o h
theorem St.rd (s : St K ms I σ env H fp) {i : Nat} {d : D} (e : env[i]? = some (some d)) : ∃ v, σ[i]? = some (some v) ∧ Rd1 K I H v d := by
  obtain ⟨m, v, f, h1, h2, h3, h4⟩ := s.sl.get e
  exact ⟨v, h2, h3.rd s.ext⟩
theorem St.sh (s : St K ms I σ env H fp) {i : Nat} {d : D} (e : env[i]? = some (some d)) (hm : ms[i]? = some .sh) : ∃ v, σ[i]? = some (some v) ∧ Rep K I v d := by
  obtain ⟨m, v, f, h1, h2, h3, h4⟩ := s.sl.get e
  rw [hm] at h1; cases h1
  exact ⟨v, h2, h3.1⟩
end
end DI
set_option Elab.async false
set_option autoImplicit false
set_option linter.all false
set_option maxRecDepth 100000
set_option maxHeartbeats 2000000
/-! DI2: meanings of expressions; what a prover's rule asks; operands, prims. -/
namespace DI
open PySem PySem.Spec PyProof.Rows L2
/-- an own exception: its class's name, its fields -/
structure Exn where
  cls : Str
  fs : List (Str × D)
abbrev Out (α : Type) := Option (Except Exn α × Env)
abbrev CE := Env → Out D
abbrev CB := Env → Out Bool
def mbind {α β : Type} (x : Out α) (k : α → Env → Out β) : Out β :=
  match x with
  | none => none
  | some (.error e, s) => some (.error e, s)
  | some (.ok a, s) => k a s
section
variable {α β : Type} {k : α → Env → Out β}
theorem mbind_none : mbind (none : Out α) k = none := rfl
theorem mbind_err {e : Exn} {s : Env} : mbind (some (.error e, s) : Out α) k = some (.error e, s) := rfl
theorem mbind_ok {a : α} {s : Env} : mbind (some (.ok a, s) : Out α) k = k a s := rfl
theorem mbind_some {x : Out α} {r : Except Exn β} {s : Env} (h : mbind x k = some (r, s)) : (∃ e, x = some (.error e, s) ∧ r = .error e) ∨ ∃ a s1, x = some (.ok a, s1) ∧ k a s1 = some (r, s) := by
  match x, h with
  | some (.error e, s1), h =>
    have h' : some (Except.error e, s1) = some (r, s) := h
    cases h'
    exact .inl ⟨e, rfl, rfl⟩
  | some (.ok a, s1), h => exact .inr ⟨a, s1, rfl, h⟩
end
def getS : Env → Nat → Option D
  | [], _ => none
  | o :: _, 0 => o
  | _ :: r, i + 1 => getS r i
theorem getS_iff : ∀ {env : Env} {i : Nat} {d : D}, getS env i = some d ↔ env[i]? = some (some d)
  | [], _, _ => by simp [getS]
  | o :: r, 0, d => by simp [getS]
  | o :: r, i + 1, d => by simp [getS, getS_iff (env := r) (i := i) (d := d)]
inductive Opd where
  | tm (f : CE)
  | vr (i : Nat)
def evalOs : List Opd → Env → Out (List D)
  | [], env => some (.ok [], env)
  | .tm f :: os, env => mbind (f env) fun d e1 => mbind (evalOs os e1) fun ds e2 => some (.ok (d :: ds), e2)
  | .vr i :: os, env => match getS env i with
    | none => none
    | some _ => mbind (evalOs os env) fun ds e2 => match getS e2 i with
      | some d => some (.ok (d :: ds), e2)
      | none => none
def ExcIs (K : PySem.W.Frag) (mg : Str → Option Value) (I : Hp) (e : Exn) (c : Value) (dd : Option Addr) : Prop :=
  mg e.cls = some c ∧ match dd with
    | none => e.fs = []
    | some a => ∃ vs, I a = some (.xd ((e.fs.map (·.1)).zip vs)) ∧ Reps K I vs (e.fs.map (·.2))
section
variable (K : PySem.W.Frag) (mg : Str → Option Value) (ms : List Md)
/-- the exception's way -/
def Bad (I : Hp) (σ : L2.St) (H : Hp) (fp : List Addr) (W : WX) (e : Exn) (env' : Env) : Prop :=
  ∀ c dd H' I' fp', St K ms I' σ env' H' fp' → Step I H fp I' H' fp' → ExcIs K mg I' e c dd → W c dd σ H'
/-- an expression's reading by its meaning f; m: the mode of what comes -/
def tE (m : Md) (f : CE) (W : WX) : TE := fun σ H Q => ∃ I env fp, St K ms I σ env H fp ∧ ∃ r env', f env = some (r, env') ∧
  (∀ d, r = .ok d → ∀ v H' I' fp' fv, St K ms I' σ env' H' fp' → Step I H fp I' H' (fv ++ fp') → RepM m K I' H' v d fv → (fv ++ fp').Nodup → (∀ p ∈ fv, I' p = none) → Q v H') ∧
  (∀ e, r = .error e → Bad K mg ms I σ H fp W e env')
def tB1 (f : CB) (W : WX) : TT := fun σ H Q => ∃ I env fp, St K ms I σ env H fp ∧ ∃ r env', f env = some (r, env') ∧
  (∀ b, r = .ok b → ∀ H' I' fp', St K ms I' σ env' H' fp' → Step I H fp I' H' fp' → Q b H') ∧
  (∀ e, r = .error e → Bad K mg ms I σ H fp W e env')
def tO (W : WX) : Opd → TE
  | .tm f => tE K mg ms .sh f W
  | .vr i => tVar i
def tOs (W : WX) : List Opd → TA
  | [] => tNil
  | o :: os => tCons (tO K mg ms W o) (tOs W os)
end
inductive OpRs (K : PySem.W.Frag) (I H : Hp) (σ : L2.St) (env : Env) : List Opd → List V → List D → Prop
  | nil : OpRs K I H σ env [] [] []
  | tm {f : CE} {os : List Opd} {v : V} {d : D} {vs : List V} {ds : List D} : Rep K I v d → OpRs K I H σ env os vs ds → OpRs K I H σ env (.tm f :: os) (v :: vs) (d :: ds)
  | vr {i : Nat} {os : List Opd} {v : V} {d : D} {vs : List V} {ds : List D} : σ[i]? = some (some v) → getS env i = some d → Rd1 K I H v d → OpRs K I H σ env os vs ds → OpRs K I H σ env (.vr i :: os) (v :: vs) (d :: ds)
abbrev Rds (K : PySem.W.Frag) (I H : Hp) : List V → List D → Prop := Paired (Rd1 K I H)
section
variable {K : PySem.W.Frag} {mg : Str → Option Value} {ms : List Md} {I I1 H H1 : Hp} {W : WX} {σ : L2.St} {env env1 env2 : Env} {fp fp1 : List Addr}
theorem OpRs.rds (e : Ext I H) : ∀ {os : List Opd} {vs : List V} {ds : List D}, OpRs K I H σ env os vs ds → Rds K I H vs ds
  | _, _, _, .nil => .nil
  | _, _, _, .tm h r => .cons (.of_rep e h) (OpRs.rds e r)
  | _, _, _, .vr _ _ h r => .cons h (OpRs.rds e r)
def Opd.isTm : Opd → Bool
  | .tm _ => true
  | .vr _ => false
theorem OpRs.reps : ∀ {os : List Opd} {vs : List V} {ds : List D}, OpRs K I H σ env os vs ds → os.all Opd.isTm = true → Reps K I vs ds
  | _, _, _, .nil, _ => .nil
  | _, _, _, .tm h r, e => .cons h (OpRs.reps r (by simpa [Opd.isTm] using e))
  | _, _, _, .vr _ _ h r, e => by simp [Opd.isTm] at e
theorem Bad.back {e : Exn} (st : Step I H fp I1 H1 fp1) (b : Bad K mg ms I σ H fp W e env2) : Bad K mg ms I1 σ H1 fp1 W e env2 :=
  fun c dd H' I' fp' s t x => b c dd H' I' fp' s (st.trans t) x
/-- THE OPERANDS, one after the other -/
theorem os_read : ∀ {os : List Opd} {I H : Hp} {env env' : Env} {fp : List Addr} {r : Except Exn (List D)} {Q : List V → Hp → Prop}, St K ms I σ env H fp → evalOs os env = some (r, env') →
    (∀ ds, r = .ok ds → ∀ vs H' I' fp', St K ms I' σ env' H' fp' → Step I H fp I' H' fp' → OpRs K I' H' σ env' os vs ds → Q vs H') →
    (∀ e, r = .error e → Bad K mg ms I σ H fp W e env') → tOs K mg ms W os σ H Q
  | [], I, H, env, env', fp, r, Q, s, h, q, _ => by
    have h' : some (Except.ok [], env) = some (r, env') := h
    cases h'
    exact q _ rfl [] H I fp s (.refl _ _ _) .nil
  | .tm f :: os, I, H, env, env', fp, r, Q, s, h, q, b => by
    have h' : mbind (f env) (fun d e1 => mbind (evalOs os e1) fun ds e2 => some (.ok (d :: ds), e2)) = some (r, env') := h
    rcases mbind_some h' with ⟨e, h1, rfl⟩ | ⟨d, e1, h1, h2⟩
    · exact ⟨I, env, fp, s, _, _, h1, fun d z => (by cases z), fun e' z => by cases z; exact b e rfl⟩
    · refine ⟨I, env, fp, s, _, _, h1, fun d' z v H1 I1 fp1 fv s1 t1 rv nd off => ?_, fun e' z => by cases z⟩
      cases z
      obtain ⟨rv, rfl⟩ := rv
      rcases mbind_some h2 with ⟨e, h3, rfl⟩ | ⟨ds, e2, h3, h4⟩
      · exact os_read s1 h3 (fun ds z => by cases z) fun e' z => by cases z; exact (b e rfl).back t1
      · have h4' : some (Except.ok (d :: ds), e2) = some (r, env') := h4
        cases h4'
        refine os_read s1 h3 (fun ds' z vs H2 I2 fp2 s2 t2 rs => ?_) fun e' z => by cases z
        cases z
        exact q _ rfl (v :: vs) H2 I2 fp2 s2 (Step.trans t1 t2) (.tm (rv.mono t2.ext) rs)
  | .vr i :: os, I, H, env, env', fp, r, Q, s, h, q, b => by
    have h0 : (match getS env i with
      | none => none
      | some _ => mbind (evalOs os env) (fun ds e2 => match getS e2 i with
        | some d => some (.ok (d :: ds), e2)
        | none => none)) = some (r, env') := h
    cases g0 : getS env i with
    | none => simp only [g0] at h0; cases h0
    | some d0 =>
      simp only [g0] at h0
      obtain ⟨v, hs, _⟩ := s.rd (getS_iff.mp g0)
      refine ⟨v, hs, ?_⟩
      rcases mbind_some h0 with ⟨e, h1, rfl⟩ | ⟨ds, e2, h1, h2⟩
      · exact os_read s h1 (fun ds z => by cases z) fun e' z => by cases z; exact b e rfl
      · cases g : getS e2 i with
        | none => simp only [g] at h2; cases h2
        | some d =>
          simp only [g] at h2
          cases h2
          refine os_read s h1 (fun ds' z vs H2 I2 fp2 s2 t2 rs => ?_) fun e' z => by cases z
          cases z
          obtain ⟨v', e1, rd⟩ := s2.rd (getS_iff.mp g)
          rw [hs] at e1; cases e1
          exact q _ rfl (v :: vs) H2 I2 fp2 s2 t2 (.vr hs g rd rs)
end
/-! ### judgements -/
/-- e means f; what comes is in the mode m -/
def DE (X : Cx) (ms : List Md) (m : Md) (e : Expr) (f : CE) : Prop := ∀ W, Takes X W → PE X e (tE X.K X.mg ms m f W)
def DB (X : Cx) (ms : List Md) (e : Expr) (f : CB) : Prop := ∀ W, Takes X W → PT X e (tB1 X.K X.mg ms f W)
def DW (X : Cx) (ms : List Md) (e : Expr) (f : CB) : Prop := ∀ W, Takes X W → PW X e (tB1 X.K X.mg ms f W)
def DO (X : Cx) (ms : List Md) (e : Expr) : Opd → Prop
  | .tm f => DE X ms .sh e f
  | .vr i => PE X e (tVar i)
inductive DOs (X : Cx) (ms : List Md) : List Expr → List Opd → Prop
  | nil : DOs X ms [] []
  | cons {e : Expr} {es : List Expr} {o : Opd} {os : List Opd} : DO X ms e o → DOs X ms es os → starEach (e :: es) X.env = (false, eval e X.env) :: starEach es X.env → DOs X ms (e :: es) (o :: os)
section
variable {X : Cx} {ms : List Md} {m : Md} {e a b c : Expr} {es : List Expr} {f fa fb : CE} {W : WX} {o oa ob oc : Opd} {os : List Opd} {pos p : Pos}
theorem pe_imp {t t' : TE} (h : PE X e t) (i : ∀ σ H Q, t' σ H Q → t σ H Q) : PE X e t' := ⟨fun pins s σ H Q I q => h.run pins s σ H Q I (i σ H Q q)⟩
theorem pt_imp {t t' : TT} (h : PT X e t) (i : ∀ σ H Q, t' σ H Q → t σ H Q) : PT X e t' := ⟨fun pins s σ H Q I q => h.run pins s σ H Q I (i σ H Q q)⟩
theorem pw_imp {t t' : TT} (h : PW X e t) (i : ∀ σ H Q, t' σ H Q → t σ H Q) : PW X e t' := ⟨fun wh pins s σ H Q I q => h.run wh pins s σ H Q I (i σ H Q q)⟩
theorem ps_imp {st : Stmt} {t t' : TS} (h : PS X st t) (i : ∀ D σ H, t' D σ H → t D σ H) : PS X st t' := ⟨fun pins s σ H D I q => h.run pins s σ H D I (i D σ H q)⟩
theorem pss_imp {st : List Stmt} {t t' : TS} (h : PSs X st t) (i : ∀ D σ H, t' D σ H → t D σ H) : PSs X st t' := ⟨fun pins s σ H D I q => h.run pins s σ H D I (i D σ H q)⟩
theorem DO.pe (h : DO X ms e o) (tk : Takes X W) : PE X e (tO X.K X.mg ms W o) := by
  cases o with
  | tm f => exact h W tk
  | vr i => exact h
theorem DOs.pa (h : DOs X ms es os) (tk : Takes X W) : PA X es (tOs X.K X.mg ms W os) := by
  induction h with
  | nil => exact pa_nil
  | cons h1 _ h3 ih => exact pa_cons (h1.pe tk) ih h3
theorem do_tm (h : DE X ms .sh e f) : DO X ms e (.tm f) := h
theorem do_vr (i : Nat) {x : Str} {pos : Pos} (hN : X.N[i]? = some x := by rfl) (hv : Vis X.env.scope x := by first | exact Or.inl rfl | exact Or.inr (Or.inl rfl) | exact Or.inr (Or.inr rfl)) (hd : (x == ("__debug__" : Str)) = false := by decide)
    (hcd : (x == ("__classdict__" : Str)) = false := by decide) : DO X ms (.Name x pos) (.vr i) := pe_var hN hv hd hcd
theorem dos_nil : DOs X ms [] [] := .nil
theorem dos_cons (h : DO X ms e o) (r : DOs X ms es os) (hs : starEach (e :: es) X.env = (false, eval e X.env) :: starEach es X.env := by rfl) : DOs X ms (e :: es) (o :: os) := .cons h r hs
end
/-! ### one after the other -/
section
variable {K : PySem.W.Frag} {mg : Str → Option Value} {ms : List Md} {I H : Hp} {W : WX} {σ : L2.St} {env env' : Env} {fp : List Addr} {β : Type} {r : Except Exn β}
theorem tE_then {f1 : CE} {k : D → Env → Out β} {Q : VK} (s : St K ms I σ env H fp) (h : mbind (f1 env) k = some (r, env')) (b : ∀ e, r = .error e → Bad K mg ms I σ H fp W e env')
    (go : ∀ d e1 v H1 I1 fp1, k d e1 = some (r, env') → St K ms I1 σ e1 H1 fp1 → Step I H fp I1 H1 fp1 → Rep K I1 v d → Q v H1) : tE K mg ms .sh f1 W σ H Q := by
  rcases mbind_some h with ⟨e, h1, rfl⟩ | ⟨d, e1, h1, h2⟩
  · exact ⟨I, env, fp, s, _, _, h1, fun d z => (by cases z), fun e' z => by cases z; exact b e rfl⟩
  · refine ⟨I, env, fp, s, _, _, h1, fun d' z v H1 I1 fp1 fv s1 t1 rv nd off => ?_, fun e' z => by cases z⟩
    cases z
    obtain ⟨rv, rfl⟩ := rv
    exact go d e1 v H1 I1 fp1 h2 s1 t1 rv
theorem tB_then {f1 : CB} {k : Bool → Env → Out β} {Q : Bool → Hp → Prop} (s : St K ms I σ env H fp) (h : mbind (f1 env) k = some (r, env')) (b : ∀ e, r = .error e → Bad K mg ms I σ H fp W e env')
    (go : ∀ d e1 H1 I1 fp1, k d e1 = some (r, env') → St K ms I1 σ e1 H1 fp1 → Step I H fp I1 H1 fp1 → Q d H1) : tB1 K mg ms f1 W σ H Q := by
  rcases mbind_some h with ⟨e, h1, rfl⟩ | ⟨d, e1, h1, h2⟩
  · exact ⟨I, env, fp, s, _, _, h1, fun d z => (by cases z), fun e' z => by cases z; exact b e rfl⟩
  · refine ⟨I, env, fp, s, _, _, h1, fun d' z H1 I1 fp1 s1 t1 => ?_, fun e' z => by cases z⟩
    cases z
    exact go d e1 H1 I1 fp1 h2 s1 t1
theorem os_then {os : List Opd} {k : List D → Env → Out β} {Q : List V → Hp → Prop} (s : St K ms I σ env H fp) (h : mbind (evalOs os env) k = some (r, env')) (b : ∀ e, r = .error e → Bad K mg ms I σ H fp W e env')
    (go : ∀ ds e1 vs H1 I1 fp1, k ds e1 = some (r, env') → St K ms I1 σ e1 H1 fp1 → Step I H fp I1 H1 fp1 → OpRs K I1 H1 σ e1 os vs ds → Q vs H1) : tOs K mg ms W os σ H Q := by
  rcases mbind_some h with ⟨e, h1, rfl⟩ | ⟨d, e1, h1, h2⟩
  · exact os_read s h1 (fun ds z => by cases z) fun e' z => by cases z; exact b e rfl
  · exact os_read s h1 (fun ds z vs H1 I1 fp1 s1 t1 rs => by cases z; exact go d e1 vs H1 I1 fp1 h2 s1 t1 rs) fun e' z => by cases z
end
/-! ### prims -/
abbrev Prim := List D → Option D
def pOut (g : Option D) (e : Env) : Out D := match g with
  | some d => some (.ok d, e)
  | none => none
def cPrim (g : Prim) (os : List Opd) : CE := fun env => mbind (evalOs os env) fun ds e => pOut (g ds) e
theorem pOut_some {g : Option D} {e env' : Env} {r : Except Exn D} (h : pOut g e = some (r, env')) : ∃ d, g = some d ∧ r = .ok d ∧ env' = e := by
  cases g with
  | none => cases h
  | some d => cases h; exact ⟨d, rfl, rfl, rfl⟩
abbrev RL := List V → Hp → VK → Prop
/-- the rule r does what g says; fr: what comes is new, or no list -/
def PrimOk (K : PySem.W.Frag) (fr : Bool) (r : RL) (g : Prim) : Prop :=
  ∀ (I H : Hp) (vs : List V) (ds : List D) (d : D) (Q : VK), Ext I H → Rds K I H vs ds → g ds = some d →
    (∀ v, (fr = true → d.nl = true) → Rep K I v d → Q v H) →
    (∀ p xs es, d = .lst es → H p = none → Reps K I xs es → Q (.ref p) (upd H p (.lst xs))) →
    (∀ p xs es, d = .tup es → H p = none → Reps K I xs es → Q (.ref p) (upd H p (.tup xs))) →
    (∀ p ks xs es, d = .dic ks es → H p = none → ks.length = xs.length → Reps K I xs es → Q (.ref p) (upd H p (.dK (ks.zip xs)))) → r vs H Q
section
variable {K : PySem.W.Frag} {mg : Str → Option Value} {ms : List Md} {I H : Hp} {W : WX} {σ : L2.St} {env env' : Env} {fp : List Addr}
/-- what a result's continuation wants, from a state -/
theorem res_end {m : Md} {fr : Bool} {d : D} {Q : VK} (hm : m ≠ .pr) (hf : m = .sh ∨ fr = true) (s : St K ms I σ env H fp)
    (q : ∀ v H' I' fp' fv, St K ms I' σ env H' fp' → Step I H fp I' H' (fv ++ fp') → RepM m K I' H' v d fv → (fv ++ fp').Nodup → (∀ p ∈ fv, I' p = none) → Q v H') :
    (∀ v, (fr = true → d.nl = true) → Rep K I v d → Q v H) ∧
    (∀ p xs es, d = .lst es → H p = none → Reps K I xs es → Q (.ref p) (upd H p (.lst xs))) ∧
    (∀ p xs es, d = .tup es → H p = none → Reps K I xs es → Q (.ref p) (upd H p (.tup xs))) ∧
    (∀ p ks xs es, d = .dic ks es → H p = none → ks.length = xs.length → Reps K I xs es → Q (.ref p) (upd H p (.dK (ks.zip xs)))) := by
  have sh : ∀ v d', d = d' → d.nl = true ∨ m = .sh → ∀ I' H', St K ms I' σ env H' fp → Step I H fp I' H' fp → Rep K I' v d' → Q v H' := fun v d' e hn I' H' s' t' r => by
    subst e
    refine q v H' I' fp [] s' t' ?_ s'.nd (fun p hp => by cases hp)
    cases m with
    | sh => exact ⟨r, rfl⟩
    | ow => exact .inl ⟨hn.resolve_right (by decide), r, rfl⟩
    | pr => exact absurd rfl hm
  refine ⟨fun v hv r => ?_, fun p xs es e hp r => ?_, fun p xs es e hp r => ?_, fun p ks xs es e hp hl r => ?_⟩
  · refine sh v d rfl ?_ I H s (.refl _ _ _) r
    rcases hf with z | z
    · exact .inr z
    · exact .inl (hv z)
  · subst e
    have fresh : p ∉ fp := fun z => by
      obtain ⟨ys, hy⟩ := s.sl.there p z
      rw [hp] at hy; cases hy
    cases m with
    | sh => exact sh (.ref p) _ rfl (.inr rfl) _ _ (s.newI hp) (.newI hp s.ext) (.lst upd_same (r.mono (.new (s.ext.free hp))))
    | ow =>
      refine q (.ref p) _ I fp [p] (s.newH hp) ⟨.refl _, fun b o h _ => Ext.new hp b o h, fun b hb => ?_, fun b hb => .inl hb⟩ (.inr ⟨p, xs, es, rfl, rfl, upd_same, r, rfl⟩) (List.nodup_cons.mpr ⟨fresh, s.nd⟩) (fun b hb => ?_)
      · rcases List.mem_cons.mp hb with z | z
        · subst z; exact .inr hp
        · exact .inl z
      · simp at hb; subst hb; exact s.ext.free hp
    | pr => exact absurd rfl hm
  · subst e
    exact sh (.ref p) _ rfl (.inl rfl) _ _ (s.newI hp) (.newI hp s.ext) (.tup (SqT.of upd_same) (r.mono (.new (s.ext.free hp))))
  · subst e
    exact sh (.ref p) _ rfl (.inl rfl) _ _ (s.newI hp) (.newI hp s.ext) (.dic upd_same hl (r.mono (.new (s.ext.free hp))))
theorem prim_read {m : Md} {fr : Bool} {r : RL} {g : Prim} {os : List Opd} {H : Hp} {Q : VK} (hp : PrimOk K fr r g) (hm : m ≠ .pr) (hf : m = .sh ∨ fr = true) (h : tE K mg ms m (cPrim g os) W σ H Q) : tOs K mg ms W os σ H (fun vs H' => r vs H' Q) := by
  obtain ⟨I, env, fp, s, x, env', h1, q, b⟩ := h
  refine os_then s h1 b fun ds e1 vs H1 I1 fp1 h2 s1 t1 rs => ?_
  obtain ⟨d, g1, rfl, rfl⟩ := pOut_some h2
  obtain ⟨a1, a2, a3, a4⟩ := res_end hm hf s1 fun v H' I' fp' fv s' t' => q d rfl v H' I' fp' fv s' (t1.trans t')
  exact hp I1 H1 vs ds d Q s1.ext (rs.rds s1.ext) g1 a1 a2 a3 a4
end
def rOf2 (r : R2) : RL := fun vs H Q => match vs with
  | [x, y] => r x y H Q
  | _ => False
def rOf1 (r : V → Hp → VK → Prop) : RL := fun vs H Q => match vs with
  | [x] => r x H Q
  | _ => False
section
variable {X : Cx} {ms : List Md} {m : Md} {e a b c : Expr} {es : List Expr} {f fa fb : CE} {o oa ob oc : Opd} {os : List Opd} {pos p p2 : Pos} {g : Prim} {fr : Bool} {r : R2}
theorem de_bin {op : Operator} (ho : OpR X (binaryOp op) r) (hp : PrimOk X.K fr (rOf2 r) g) (ha : DO X ms a oa) (hb : DO X ms b ob) (hm : m ≠ .pr := by decide) (hf : m = .sh ∨ fr = true := by first | exact .inl rfl | exact .inr rfl) :
    DE X ms m (.BinOp a op b pos) (cPrim g [oa, ob]) := fun W tk => pe_imp (pe_op ho (ha.pe tk) (hb.pe tk)) fun σ H Q h => prim_read hp hm hf h
theorem de_un {op : UnaryOp} {r : V → Hp → VK → Prop} (ho : UnR X (unaryOp op) r) (hp : PrimOk X.K fr (rOf1 r) g) (ha : DO X ms a oa) (hm : m ≠ .pr := by decide) (hf : m = .sh ∨ fr = true := by first | exact .inl rfl | exact .inr rfl) :
    DE X ms m (.UnaryOp op a pos) (cPrim g [oa]) := fun W tk => pe_imp (pe_un ho (ha.pe tk)) fun σ H Q h => prim_read hp hm hf h
theorem de_cmp {op : CmpOp} (ho : OpR X (compareOp op) r) (hp : PrimOk X.K fr (rOf2 r) g) (ha : DO X ms a oa) (hb : DO X ms b ob) (hk : behindInMarks op b = false := by first | exact nomark _ | rfl) (hm : m ≠ .pr := by decide) (hf : m = .sh ∨ fr = true := by first | exact .inl rfl | exact .inr rfl) :
    DE X ms m (.Compare a [op] [b] pos) (cPrim g [oa, ob]) := fun W tk => pe_imp (pe_cmpR ho (ha.pe tk) (hb.pe tk) hk) fun σ H Q h => prim_read hp hm hf h
theorem de_ix (hr : IxR X r) (hp : PrimOk X.K fr (rOf2 r) g) (ha : DO X ms a oa) (hb : DO X ms b ob) (hs : PlainIx b := by exact fun _ _ => rfl) (hm : m ≠ .pr := by decide) (hf : m = .sh ∨ fr = true := by first | exact .inl rfl | exact .inr rfl) :
    DE X ms m (.Subscript a b pos) (cPrim g [oa, ob]) := fun W tk => pe_imp (pe_ix hr (ha.pe tk) (hb.pe tk) hs) fun σ H Q h => prim_read hp hm hf h
theorem de_callB {x : Str} {id : String} {r : RL} (hc : CallR X (.builtin id) r) (hp : PrimOk X.K fr r g) (hg : Gl X x) (hx : X.mg x = none) (hv : bootBuiltins x = some (.builtin id)) (ha : DOs X ms (e :: es) os) (hm : m ≠ .pr := by decide)
    (hf : m = .sh ∨ fr = true := by first | exact .inl rfl | exact .inr rfl) (hn : x ≠ "__name__" := by decide) (hdb : (x == ("__debug__" : Str)) = false := by decide)
    (he : starEach (e :: es) X.env = (false, eval e X.env) :: starEach es X.env := by rfl) (hpl : (backTo pos (starEach es X.env)).any (·.1) = false := by rfl) :
    DE X ms m (.Call (.Name x p) (e :: es) [] pos) (cPrim g os) := fun W tk => pe_imp (pe_callB hc hg hx hv (ha.pa tk) hn hdb he hpl) fun σ H Q h => prim_read hp hm hf h
theorem de_callTy {x : Str} {T : String} {r : RL} (hc : CallR X (.type T) r) (hp : PrimOk X.K fr r g) (hg : Gl X x) (hx : X.mg x = none) (hv : bootBuiltins x = some (.type T)) (ha : DOs X ms (e :: es) os) (hm : m ≠ .pr := by decide)
    (hf : m = .sh ∨ fr = true := by first | exact .inl rfl | exact .inr rfl) (hn : x ≠ "__name__" := by decide) (hdb : (x == ("__debug__" : Str)) = false := by decide)
    (he : starEach (e :: es) X.env = (false, eval e X.env) :: starEach es X.env := by rfl) (hpl : (backTo pos (starEach es X.env)).any (·.1) = false := by rfl) :
    DE X ms m (.Call (.Name x p) (e :: es) [] pos) (cPrim g os) := fun W tk => pe_imp (pe_callTy hc hg hx hv (ha.pa tk) hn hdb he hpl) fun σ H Q h => prim_read hp hm hf h
/-! ### names, constants, tests -/
def cVar (i : Nat) : CE := fun env => pOut (getS env i) env
def cK (d : D) : CE := fun env => some (.ok d, env)
theorem de_var (i : Nat) {x : Str} (hs : ms[i]? = some .sh := by rfl) (hN : X.N[i]? = some x := by rfl) (hv : Vis X.env.scope x := by first | exact Or.inl rfl | exact Or.inr (Or.inl rfl) | exact Or.inr (Or.inr rfl)) (hd : (x == ("__debug__" : Str)) = false := by decide)
    (hcd : (x == ("__classdict__" : Str)) = false := by decide) : DE X ms .sh (.Name x pos) (cVar i) := fun W tk => pe_imp (pe_var hN hv hd hcd) fun σ H Q h => by
  obtain ⟨I, env, fp, s, r, env', h1, q, b⟩ := h
  obtain ⟨d, g1, rfl, rfl⟩ := pOut_some h1
  obtain ⟨v, h2, h3⟩ := s.sh (getS_iff.mp g1) hs
  exact ⟨v, h2, q d rfl v H I fp [] s (.refl _ _ _) ⟨h3, rfl⟩ s.nd fun p hp => by cases hp⟩
/-- a constant's reading -/
theorem de_const {v : V} {d : D} (h : PE X e (tC v)) (hr : ∀ I, Rep X.K I v d) (hd : d.nl = true) (hm : m ≠ .pr := by decide) : DE X ms m e (cK d) := fun W tk => pe_imp h fun σ H Q h => by
  obtain ⟨I, env, fp, s, r, env', h1, q, b⟩ := h
  cases h1
  refine q d rfl v H I fp [] s (.refl _ _ _) ?_ s.nd fun p hp => by cases hp
  cases m with
  | sh => exact ⟨hr I, rfl⟩
  | ow => exact .inl ⟨hd, hr I, rfl⟩
  | pr => exact absurd rfl hm
theorem de_int {i : Int} {j : Nat} (hm : m ≠ .pr := by decide) : DE X ms m (.Constant (.int i) j pos) (cK (.int i)) := de_const pe_int (fun _ => .int i) rfl hm
theorem de_bl {i : Bool} {j : Nat} (hm : m ≠ .pr := by decide) : DE X ms m (.Constant (.bool i) j pos) (cK (.bl i)) := de_const pe_bl (fun _ => .bl i) rfl hm
theorem de_non {j : Nat} (hm : m ≠ .pr := by decide) : DE X ms m (.Constant .none j pos) (cK .non) := de_const pe_non (fun _ => .non) rfl hm
theorem de_str {i : Str} {j : Nat} (hm : m ≠ .pr := by decide) : DE X ms m (.Constant (.str i) j pos) (cK (.str i)) := de_const pe_str (fun _ => .str i) rfl hm
/-- a list of one's own becomes shared -/
theorem de_sh (h : DE X ms .ow e f) : DE X ms .sh e f := fun W tk => pe_imp (h W tk) fun σ H Q h => by
  obtain ⟨I, env, fp, s, r, env', h1, q, b⟩ := h
  refine ⟨I, env, fp, s, r, env', h1, fun d hr v H' I' fp' fv s' t' rv nd off => ?_, b⟩
  rcases rv with ⟨z, rp, rfl⟩ | ⟨a, xs, ds, rfl, rfl, ha, rs, rfl⟩
  · exact q d hr v H' I' fp' [] s' t' ⟨rp, rfl⟩ nd off
  · have ia : I' a = none := off a (by simp)
    have na : a ∉ fp' := (List.nodup_cons.mp nd).1
    have ex : Ext I' (upd I' a (.lst xs)) := .new ia
    refine q _ hr (.ref a) H' (upd I' a (.lst xs)) fp' [] ⟨fun c o hc => ?_, s'.nd, fun p hp => ?_, s'.sl.move ex fun p hp o ho => ho⟩ ⟨t'.ext.trans ex, t'.keep, fun p hp => t'.own p (List.mem_append_right _ hp), fun c hc => ?_⟩ ⟨.lst upd_same (rs.mono ex), rfl⟩ s'.nd (fun p hp => by cases hp)
    · by_cases hca : c = a
      · subst hca; rw [upd_same] at hc; cases hc; exact ha
      · rw [upd_ne hca] at hc; exact s'.ext c o hc
    · rw [upd_ne fun z => na (by rw [← z]; exact hp)]; exact s'.off p hp
    · by_cases hca : c = a
      · subst hca; exact .inr (t'.own c (by simp))
      · rw [upd_ne hca] at hc; exact t'.gr c hc
def cTest (f : CE) : CB := fun env => mbind (f env) fun d e => match d with
  | .bl b => some (.ok b, e)
  | _ => none
theorem test_read {K : PySem.W.Frag} {mg : Str → Option Value} {W : WX} {σ : L2.St} {H : Hp} {Q : Bool → Hp → Prop} (h : tB1 K mg ms (cTest f) W σ H Q) : tE K mg ms .sh f W σ H (fun x H1 => ∃ k, x = .bl k ∧ Q k H1) := by
  obtain ⟨I, env, fp, s, r, env', h1, q, b⟩ := h
  refine tE_then s h1 b fun d e1 v H1 I1 fp1 h2 s1 t1 rv => ?_
  cases rv with
  | bl k => cases h2; exact ⟨k, rfl, q k rfl H1 I1 fp1 s1 t1⟩
  | _ => cases h2
theorem dt_val (h : DE X ms .sh e f) (he : ∀ whole, isTrue e X.env whole = (do let v ← whole; standAt e.pos; holding [v] (truthy v)) := by intro _; rfl) : DB X ms e (cTest f) := fun W tk => pt_imp (pt_val (h W tk) he) fun σ H Q h => test_read h
theorem dt_cmp {op : CmpOp} (ho : OpR X (compareOp op) r) (hp : PrimOk X.K fr (rOf2 r) g) (ha : DO X ms a oa) (hb : DO X ms b ob) (hk : behindInMarks op b = false := by first | exact nomark _ | rfl) :
    DB X ms (.Compare a [op] [b] pos) (cTest (cPrim g [oa, ob])) := fun W tk => pt_imp (pt_cmpR ho (ha.pe tk) (hb.pe tk) hk) fun σ H Q h => by
  have h2 := test_read h
  exact prim_read hp (by decide) (.inl rfl) h2
def cNot (t : CB) : CB := fun env => mbind (t env) fun b e => some (.ok (!b), e)
def cAnd (t u : CB) : CB := fun env => mbind (t env) fun b e => if b = true then u e else some (.ok false, e)
def cOr (t u : CB) : CB := fun env => mbind (t env) fun b e => if b = true then some (.ok true, e) else u e
theorem dt_not {t : CB} (h : DB X ms e t) : DB X ms (.UnaryOp .Not e pos) (cNot t) := fun W tk => pt_imp (pt_not (h W tk)) fun σ H Q h => by
  obtain ⟨I, env, fp, s, r, env', h1, q, b⟩ := h
  refine tB_then s h1 b fun k e1 H1 I1 fp1 h2 s1 t1 => ?_
  cases h2
  exact q _ rfl H1 I1 fp1 s1 t1
theorem dw_pt {t : CB} (h : DW X ms e t) : DB X ms e t := fun W tk => (h W tk).pt
theorem dw_and1 {t : CB} (h : DB X ms e t) : DW X ms (.BoolOp .And [e] pos) t := fun W tk => pw_and1 (h W tk)
theorem dw_or1 {t : CB} (h : DB X ms e t) : DW X ms (.BoolOp .Or [e] pos) t := fun W tk => pw_or1 (h W tk)
theorem and_read {K : PySem.W.Frag} {mg : Str → Option Value} {W : WX} {t u : CB} {σ : L2.St} {H : Hp} {Q : Bool → Hp → Prop} (h : tB1 K mg ms (cAnd t u) W σ H Q) : tAnd (tB1 K mg ms t W) (tB1 K mg ms u W) σ H Q := by
  obtain ⟨I, env, fp, s, r, env', h1, q, b⟩ := h
  refine tB_then s h1 b fun k e1 H1 I1 fp1 h2 s1 t1 => ?_
  cases k with
  | true =>
    simp only [if_true] at h2 ⊢
    exact ⟨I1, e1, fp1, s1, r, env', h2, fun b hb H' I' fp' s' t' => q b hb H' I' fp' s' (t1.trans t'), fun e he => (b e he).back t1⟩
  | false =>
    simp only [Bool.false_eq_true, if_false] at h2 ⊢
    cases h2
    exact q _ rfl H1 I1 fp1 s1 t1
theorem or_read {K : PySem.W.Frag} {mg : Str → Option Value} {W : WX} {t u : CB} {σ : L2.St} {H : Hp} {Q : Bool → Hp → Prop} (h : tB1 K mg ms (cOr t u) W σ H Q) : tOr (tB1 K mg ms t W) (tB1 K mg ms u W) σ H Q := by
  obtain ⟨I, env, fp, s, r, env', h1, q, b⟩ := h
  refine tB_then s h1 b fun k e1 H1 I1 fp1 h2 s1 t1 => ?_
  cases k with
  | true =>
    simp only [if_true] at h2 ⊢
    cases h2
    exact q _ rfl H1 I1 fp1 s1 t1
  | false =>
    simp only [Bool.false_eq_true, if_false] at h2 ⊢
    exact ⟨I1, e1, fp1, s1, r, env', h2, fun b hb H' I' fp' s' t' => q b hb H' I' fp' s' (t1.trans t'), fun e he => (b e he).back t1⟩
theorem dw_and {t u : CB} (h : DB X ms a t) (hr : DW X ms (.BoolOp .And (b :: es) pos) u) : DW X ms (.BoolOp .And (a :: b :: es) pos) (cAnd t u) := fun W tk => pw_imp (pw_and (h W tk) (hr W tk)) fun σ H Q h => and_read h
theorem dw_or {t u : CB} (h : DB X ms a t) (hr : DW X ms (.BoolOp .Or (b :: es) pos) u) : DW X ms (.BoolOp .Or (a :: b :: es) pos) (cOr t u) := fun W tk => pw_imp (pw_or (h W tk) (hr W tk)) fun σ H Q h => or_read h
/-! ### and, or, not, if as values -/
def cAndV (f1 f2 : CE) : CE := fun env => mbind (f1 env) fun d e => match d with
  | .bl true => f2 e
  | .bl false => some (.ok (.bl false), e)
  | _ => none
def cOrV (f1 f2 : CE) : CE := fun env => mbind (f1 env) fun d e => match d with
  | .bl true => some (.ok (.bl true), e)
  | .bl false => f2 e
  | _ => none
def cNotV (f1 : CE) : CE := fun env => mbind (f1 env) fun d e => match d with
  | .bl b => some (.ok (.bl (!b)), e)
  | _ => none
def cIf (t : CB) (f1 f2 : CE) : CE := fun env => mbind (t env) fun b e => if b = true then f1 e else f2 e
theorem de_one {op : BoolOp} (h : DE X ms m e f) : DE X ms m (.BoolOp op [e] pos) f := fun W tk => pe_one (h W tk)
theorem tE_back {K : PySem.W.Frag} {mg : Str → Option Value} {I I1 : Hp} {fp fp1 : List Addr} {W : WX} {σ : L2.St} {H H1 : Hp} {Q : VK} {env1 env' : Env} {r : Except Exn D} (s1 : St K ms I1 σ env1 H1 fp1) (t1 : Step I H fp I1 H1 fp1) (h : f env1 = some (r, env'))
    (q : ∀ d, r = .ok d → ∀ v H' I' fp' fv, St K ms I' σ env' H' fp' → Step I H fp I' H' (fv ++ fp') → RepM m K I' H' v d fv → (fv ++ fp').Nodup → (∀ p ∈ fv, I' p = none) → Q v H') (b : ∀ e, r = .error e → Bad K mg ms I σ H fp W e env') :
    tE K mg ms m f W σ H1 Q := ⟨I1, env1, fp1, s1, r, env', h, fun d hd v H' I' fp' fv s' t' => q d hd v H' I' fp' fv s' (t1.trans t'), fun e he => (b e he).back t1⟩
theorem res_bl {K : PySem.W.Frag} {I H : Hp} {k : Bool} (hm : m ≠ .pr) : RepM m K I H (.bl k) (.bl k) [] := by
  cases m with
  | sh => exact ⟨.bl k, rfl⟩
  | ow => exact .inl ⟨rfl, .bl k, rfl⟩
  | pr => exact absurd rfl hm
theorem de_and (h : DE X ms .sh a fa) (hr : DE X ms m (.BoolOp .And (b :: es) pos) fb) (hm : m ≠ .pr := by decide) : DE X ms m (.BoolOp .And (a :: b :: es) pos) (cAndV fa fb) := fun W tk => pe_imp (pe_and (h W tk) (hr W tk)) fun σ H Q h => by
  obtain ⟨I, env, fp, s, r, env', h1, q, b⟩ := h
  refine tE_then s h1 b fun d e1 v H1 I1 fp1 h2 s1 t1 rv => ?_
  cases rv with
  | bl k =>
    refine ⟨k, rfl, ?_⟩
    cases k with
    | true => simp only [if_true]; exact tE_back s1 t1 h2 q b
    | false =>
      simp only [Bool.false_eq_true, if_false]
      cases h2
      exact q _ rfl _ H1 I1 fp1 [] s1 t1 (res_bl hm) s1.nd fun p hp => by cases hp
  | _ => cases h2
theorem de_or (h : DE X ms .sh a fa) (hr : DE X ms m (.BoolOp .Or (b :: es) pos) fb) (hm : m ≠ .pr := by decide) : DE X ms m (.BoolOp .Or (a :: b :: es) pos) (cOrV fa fb) := fun W tk => pe_imp (pe_or (h W tk) (hr W tk)) fun σ H Q h => by
  obtain ⟨I, env, fp, s, r, env', h1, q, b⟩ := h
  refine tE_then s h1 b fun d e1 v H1 I1 fp1 h2 s1 t1 rv => ?_
  cases rv with
  | bl k =>
    refine ⟨k, rfl, ?_⟩
    cases k with
    | true =>
      simp only [if_true]
      cases h2
      exact q _ rfl _ H1 I1 fp1 [] s1 t1 (res_bl hm) s1.nd fun p hp => by cases hp
    | false => simp only [Bool.false_eq_true, if_false]; exact tE_back s1 t1 h2 q b
  | _ => cases h2
theorem de_not (h : DE X ms .sh a fa) (hm : m ≠ .pr := by decide) : DE X ms m (.UnaryOp .Not a pos) (cNotV fa) := fun W tk => pe_imp (pe_not (h W tk)) fun σ H Q h => by
  obtain ⟨I, env, fp, s, r, env', h1, q, b⟩ := h
  refine tE_then s h1 b fun d e1 v H1 I1 fp1 h2 s1 t1 rv => ?_
  cases rv with
  | bl k =>
    cases h2
    exact ⟨k, rfl, q _ rfl _ H1 I1 fp1 [] s1 t1 (res_bl hm) s1.nd fun p hp => by cases hp⟩
  | _ => cases h2
theorem de_if {t : CB} (ht : DB X ms c t) (ha : DE X ms m a fa) (hb : DE X ms m b fb) : DE X ms m (.IfExp c a b pos) (cIf t fa fb) := fun W tk => pe_imp (pe_ifExp (ht W tk) (ha W tk) (hb W tk)) fun σ H Q h => by
  obtain ⟨I, env, fp, s, r, env', h1, q, b⟩ := h
  refine tB_then s h1 b fun k e1 H1 I1 fp1 h2 s1 t1 => ?_
  cases k with
  | true => simp only [if_true] at h2 ⊢; exact tE_back s1 t1 h2 q b
  | false => simp only [Bool.false_eq_true, if_false] at h2 ⊢; exact tE_back s1 t1 h2 q b
end
end DI
set_option Elab.async false
set_option autoImplicit false
set_option linter.all false
set_option maxRecDepth 100000
set_option maxHeartbeats 2000000
/-! DI3: prims (what an operator, a built-in gives). -/
namespace DI
open PySem PySem.Spec PyProof.Rows L2
/-! ### data as the library's -/
mutual
def D.py : D → Option PyData
  | .non => some .none
  | .bl b => some (.bool b)
  | .int i => some (.int i)
  | .str x => some (.str x)
  | .lst xs => (D.pys xs).map .list
  | .tup xs => (D.pys xs).map .tuple
  | .dic _ _ => none
  | .scr _ => none
  | .sta _ => none
  | .ty _ => none
def D.pys : List D → Option (List PyData)
  | [] => some []
  | d :: ds => match d.py, D.pys ds with
    | some p, some ps => some (p :: ps)
    | _, _ => none
end
section
variable {K : PySem.W.Frag} {I H : Hp}
theorem pys_cons {d : D} {ds : List D} {ps : List PyData} (h : D.pys (d :: ds) = some ps) : ∃ p r, ps = p :: r ∧ d.py = some p ∧ D.pys ds = some r := by
  unfold D.pys at h
  cases h1 : d.py with
  | none => simp [h1] at h
  | some p =>
    cases h2 : D.pys ds with
    | none => simp [h1, h2] at h
    | some r => simp [h1, h2] at h; exact ⟨p, r, h.symm, rfl, rfl⟩
mutual
theorem Rep.dp (e : Ext I H) : ∀ {v : V} {d : D} {p : PyData}, Rep K I v d → d.py = some p → Dp K H v p
  | _, _, _, .non, h => by cases h; exact .non
  | _, _, _, .bl b, h => by cases h; exact .bl b
  | _, _, _, .int b, h => by cases h; exact .int b
  | _, _, _, .str b, h => by cases h; exact .str b
  | _, _, p, .lst (ds := ds) h r, q => by
    unfold D.py at q
    cases h2 : D.pys ds with
    | none => rw [h2] at q; cases q
    | some ps => rw [h2] at q; cases q; exact .lst (SqL.of (e _ _ h)) (Reps.dp e r h2)
  | _, _, p, .tup (ds := ds) h r, q => by
    unfold D.py at q
    cases h2 : D.pys ds with
    | none => rw [h2] at q; cases q
    | some ps => rw [h2] at q; cases q; exact .tup (e.t h) (Reps.dp e r h2)
  | _, _, _, .dic _ _ _, h => by cases h
  | _, _, _, .scr _, h => by cases h
  | _, _, _, .sta _, h => by cases h
  | _, _, _, .ty _, h => by cases h
theorem Reps.dp (e : Ext I H) : ∀ {vs : List V} {ds : List D} {ps : List PyData}, Reps K I vs ds → D.pys ds = some ps → DpAll K H vs ps
  | _, _, _, .nil, h => by cases h; exact .nil
  | _, _, _, .cons h r, q => by
    obtain ⟨p, ps, rfl, h1, h2⟩ := pys_cons q
    exact .cons (Rep.dp e h h1) (Reps.dp e r h2)
end
theorem Rd1.dp (e : Ext I H) {v : V} {d : D} {p : PyData} (h : Rd1 K I H v d) (q : d.py = some p) : Dp K H v p := by
  cases d with
  | lst ds =>
    obtain ⟨a, xs, rfl, h1, h2⟩ := h
    unfold D.py at q
    cases h3 : D.pys ds with
    | none => rw [h3] at q; cases q
    | some ps => rw [h3] at q; cases q; exact .lst (SqL.of h1) (h2.dp e h3)
  | _ => exact Rep.dp e h q
/-! inversion of what is read -/
theorem rds1 {vs : List V} {d : D} (h : Rds K I H vs [d]) : ∃ v, vs = [v] ∧ Rd1 K I H v d := by
  cases h with
  | cons a b => cases b; exact ⟨_, rfl, a⟩
theorem rds2 {vs : List V} {d e : D} (h : Rds K I H vs [d, e]) : ∃ v w, vs = [v, w] ∧ Rd1 K I H v d ∧ Rd1 K I H w e := by
  cases h with
  | cons a b =>
    obtain ⟨w, rfl, c⟩ := rds1 b
    exact ⟨_, w, rfl, a, c⟩
theorem rds3 {vs : List V} {d e f : D} (h : Rds K I H vs [d, e, f]) : ∃ v w x, vs = [v, w, x] ∧ Rd1 K I H v d ∧ Rd1 K I H w e ∧ Rd1 K I H x f := by
  cases h with
  | cons a b =>
    obtain ⟨w, x, rfl, c⟩ := rds2 b
    exact ⟨_, w, x, rfl, a, c⟩
theorem rd_int {v : V} {i : Int} (h : Rd1 K I H v (.int i)) : v = .int i := by cases (show Rep K I v (.int i) from h); rfl
theorem rd_bl {v : V} {i : Bool} (h : Rd1 K I H v (.bl i)) : v = .bl i := by cases (show Rep K I v (.bl i) from h); rfl
theorem rd_str {v : V} {i : Str} (h : Rd1 K I H v (.str i)) : v = .str i := by cases (show Rep K I v (.str i) from h); rfl
theorem rd_non {v : V} (h : Rd1 K I H v .non) : v = .non := by cases (show Rep K I v .non from h); rfl
theorem rd_ty {v : V} {n : String} (h : Rd1 K I H v (.ty n)) : v = .ty n := by cases (show Rep K I v (.ty n) from h); rfl
theorem rd_tup {v : V} {ds : List D} (h : Rd1 K I H v (.tup ds)) : ∃ a xs, v = .ref a ∧ SqT K I a xs ∧ Reps K I xs ds := by
  cases (show Rep K I v (.tup ds) from h) with
  | tup a b => exact ⟨_, _, rfl, a, b⟩
theorem rd_scr {v : V} {ns : List Int} (h : Rd1 K I H v (.scr ns)) : ∃ a, v = .ref a ∧ SqL K I a (ns.map V.int) := by
  cases (show Rep K I v (.scr ns) from h) with
  | scr a => exact ⟨_, rfl, a⟩
/-! ### lists of ints -/
def intsD : List D → Option (List Int)
  | [] => some []
  | .int i :: r => (intsD r).map (i :: ·)
  | _ => none
theorem intsD_eq : ∀ {ds : List D} {ns : List Int}, intsD ds = some ns → ds = ns.map D.int
  | [], ns, h => by cases h; rfl
  | .int i :: r, ns, h => by
    unfold intsD at h
    cases q : intsD r with
    | none => rw [q] at h; cases h
    | some l => rw [q] at h; cases h; rw [List.map_cons, ← intsD_eq q]
  | .non :: r, ns, h => by cases h
  | .bl _ :: r, ns, h => by cases h
  | .str _ :: r, ns, h => by cases h
  | .lst _ :: r, ns, h => by cases h
  | .tup _ :: r, ns, h => by cases h
  | .dic _ _ :: r, ns, h => by cases h
  | .scr _ :: r, ns, h => by cases h
  | .sta _ :: r, ns, h => by cases h
  | .ty _ :: r, ns, h => by cases h
theorem intsD_map : ∀ ns : List Int, intsD (ns.map D.int) = some ns
  | [] => rfl
  | n :: r => by rw [List.map_cons, intsD, intsD_map r]; rfl
def blsD : List D → Option (List Bool)
  | [] => some []
  | .bl i :: r => (blsD r).map (i :: ·)
  | _ => none
theorem blsD_eq : ∀ {ds : List D} {ns : List Bool}, blsD ds = some ns → ds = ns.map D.bl
  | [], ns, h => by cases h; rfl
  | .bl i :: r, ns, h => by
    unfold blsD at h
    cases q : blsD r with
    | none => rw [q] at h; cases h
    | some l => rw [q] at h; cases h; rw [List.map_cons, ← blsD_eq q]
  | .non :: r, ns, h => by cases h
  | .int _ :: r, ns, h => by cases h
  | .str _ :: r, ns, h => by cases h
  | .lst _ :: r, ns, h => by cases h
  | .tup _ :: r, ns, h => by cases h
  | .dic _ _ :: r, ns, h => by cases h
  | .scr _ :: r, ns, h => by cases h
  | .sta _ :: r, ns, h => by cases h
  | .ty _ :: r, ns, h => by cases h
theorem blsD_map : ∀ ns : List Bool, blsD (ns.map D.bl) = some ns
  | [] => rfl
  | n :: r => by rw [List.map_cons, blsD, blsD_map r]; rfl
theorem reps_bls : ∀ {ns : List Bool} {vs : List V}, Reps K I vs (ns.map D.bl) → vs = ns.map V.bl
  | [], _, .nil => rfl
  | n :: r, _, .cons h t => by cases h; rw [List.map_cons, reps_bls t]
end
/-! ### operators -/
def gAdd : Prim
  | [.int a, .int b] => some (.int (a + b))
  | [.str a, .str b] => if a.length + b.length ≤ sizeLine then some (.str (a ++ b)) else none
  | [.lst a, .lst b] => if a.length + b.length ≤ sizeLine then some (.lst (a ++ b)) else none
  | _ => none
def gSub : Prim
  | [.int a, .int b] => some (.int (a - b))
  | _ => none
def okMul (a b : Int) : Prop := (a.natAbs < 2 ^ 64 ∨ b.natAbs < 2 ^ 64) ∨ a.natAbs.log2 + b.natAbs.log2 < 1000000
instance (a b : Int) : Decidable (okMul a b) := by unfold okMul; exact inferInstance
def gMul : Prim
  | [.int a, .int b] => if okMul a b then some (.int (a * b)) else none
  | [.lst a, .int k] => if (-(2 ^ 63) ≤ k ∧ k < 2 ^ 63) ∧ a.length * k.toNat ≤ sizeLine then some (.lst (List.replicate k.toNat a).flatten) else none
  | _ => none
def gFdiv : Prim
  | [.int a, .int b] => if 0 < b ∧ b.natAbs.log2 < 9000 then some (.int (a / b)) else none
  | _ => none
def gMod : Prim
  | [.int a, .int b] => if 0 < b then some (.int (a % b)) else none
  | _ => none
def gPow : Prim
  | [.int a, .int b] => if 0 ≤ b ∧ (a.natAbs.log2 + 1) * b.toNat ≤ 100000000 then some (.int (a ^ b.toNat)) else none
  | _ => none
def gNeg : Prim
  | [.int a] => some (.int (-a))
  | _ => none
section
variable {X : Cx}
theorem gAdd_ok : PrimOk X.K true (rOf2 fun x y H Q => (∃ i j, x = .int i ∧ y = .int j ∧ Q (.int (i + j)) H) ∨ (∃ i j, x = .str i ∧ y = .str j ∧ i.length + j.length ≤ sizeLine ∧ Q (.str (i ++ j)) H) ∨ rCat x y H Q) gAdd := by
  intro I H vs ds d Q e r g q1 q2 q3 q4
  unfold gAdd at g
  split at g
  · obtain ⟨v, w, rfl, h1, h2⟩ := rds2 r
    cases g; cases rd_int h1; cases rd_int h2
    exact .inl ⟨_, _, rfl, rfl, q1 _ (fun _ => rfl) (.int _)⟩
  · obtain ⟨v, w, rfl, h1, h2⟩ := rds2 r
    split at g
    · cases g; cases rd_str h1; cases rd_str h2
      exact .inr (.inl ⟨_, _, rfl, rfl, by assumption, q1 _ (fun _ => rfl) (.str _)⟩)
    · cases g
  · obtain ⟨v, w, rfl, ⟨a, xs, rfl, h1, h2⟩, ⟨b, ys, rfl, h3, h4⟩⟩ := rds2 r
    split at g
    · rename_i hz
      cases g
      exact .inr (.inr ⟨a, b, xs, ys, rfl, rfl, h1, h3, by rw [h2.length, h4.length]; exact hz, fun p hp => q2 p _ _ rfl hp (h2.append h4)⟩)
    · cases g
  · cases g
theorem op_addD : OpR X (binaryOp .Add) (fun x y H Q => (∃ i j, x = .int i ∧ y = .int j ∧ Q (.int (i + j)) H) ∨ (∃ i j, x = .str i ∧ y = .str j ∧ i.length + j.length ≤ sizeLine ∧ Q (.str (i ++ j)) H) ∨ rCat x y H Q) := op_add.or (op_add_str.or op_cat)
theorem gSub_ok : PrimOk X.K true (rOf2 (rI0 fun i j => .int (i - j))) gSub := by
  intro I H vs ds d Q e r g q1 q2 q3 q4
  unfold gSub at g
  split at g
  · obtain ⟨v, w, rfl, h1, h2⟩ := rds2 r
    cases g; cases rd_int h1; cases rd_int h2
    exact ⟨_, _, rfl, rfl, q1 _ (fun _ => rfl) (.int _)⟩
  · cases g
def rMulD : R2 := fun x y H Q => rI CMul (fun i j => .int (i * j)) x y H Q ∨ rI CMulW (fun i j => .int (i * j)) x y H Q ∨ rRep x y H Q
theorem op_mulD : OpR X (binaryOp .Mult) rMulD := op_mul.or (op_mulW.or op_rep)
theorem gMul_ok : PrimOk X.K true (rOf2 rMulD) gMul := by
  intro I H vs ds d Q e r g q1 q2 q3 q4
  unfold gMul at g
  split at g
  · obtain ⟨v, w, rfl, h1, h2⟩ := rds2 r
    split at g
    · rename_i hm
      cases g; cases rd_int h1; cases rd_int h2
      rcases hm with (hm | hm) | hm
      · exact .inl ⟨_, _, rfl, rfl, .inl (by omega), q1 _ (fun _ => rfl) (.int _)⟩
      · exact .inl ⟨_, _, rfl, rfl, .inr (by omega), q1 _ (fun _ => rfl) (.int _)⟩
      · exact .inr (.inl ⟨_, _, rfl, rfl, hm, q1 _ (fun _ => rfl) (.int _)⟩)
    · cases g
  · obtain ⟨v, w, rfl, ⟨a, xs, rfl, h1, h2⟩, h3⟩ := rds2 r
    split at g
    · rename_i hz
      cases g; cases rd_int h3
      exact .inr (.inr ⟨a, _, xs, rfl, rfl, h1, hz.1.1, hz.1.2, by rw [h2.length]; exact hz.2, fun p hp => q2 p _ _ rfl hp (h2.rep _)⟩)
    · cases g
  · cases g
theorem gFdiv_ok : PrimOk X.K true (rOf2 (rI CDivW fun i j => .int (i / j))) gFdiv := by
  intro I H vs ds d Q e r g q1 q2 q3 q4
  unfold gFdiv at g
  split at g
  · obtain ⟨v, w, rfl, h1, h2⟩ := rds2 r
    split at g
    · cases g; cases rd_int h1; cases rd_int h2
      exact ⟨_, _, rfl, rfl, by assumption, q1 _ (fun _ => rfl) (.int _)⟩
    · cases g
  · cases g
theorem gMod_ok : PrimOk X.K true (rOf2 (rI (fun _ j => 0 < j) fun i j => .int (i % j))) gMod := by
  intro I H vs ds d Q e r g q1 q2 q3 q4
  unfold gMod at g
  split at g
  · obtain ⟨v, w, rfl, h1, h2⟩ := rds2 r
    split at g
    · cases g; cases rd_int h1; cases rd_int h2
      exact ⟨_, _, rfl, rfl, by assumption, q1 _ (fun _ => rfl) (.int _)⟩
    · cases g
  · cases g
theorem intBits_le (a : Int) : Builtin.Int.intBits a ≤ a.natAbs.log2 + 1 := by
  unfold Builtin.Int.intBits
  split <;> omega
theorem op_powW : OpR X (binaryOp .Pow) (rI (fun i j => 0 ≤ j ∧ (i.natAbs.log2 + 1) * j.toNat ≤ 100000000) fun i j => .int (i ^ j.toNat)) := opI fun i j _ _ _ _ _ hc q => by
  refine pow_int hc.1 ?_ q
  have h1 : Builtin.Int.intBits i * j.toNat ≤ (i.natAbs.log2 + 1) * j.toNat := Nat.mul_le_mul_right _ (intBits_le i)
  have h2 : (Builtin.Int.intBits i : Int) * j = ((Builtin.Int.intBits i * j.toNat : Nat) : Int) := by
    rw [Int.natCast_mul, Int.toNat_of_nonneg hc.1]
  rw [h2]
  have h3 := hc.2
  have h4 : Builtin.Int.intBits i * j.toNat ≤ 134217728 := by omega
  have h5 : ((2 : Int) ^ 27) = ((134217728 : Nat) : Int) := by decide
  rw [h5]
  exact Int.ofNat_le.mpr h4
theorem gPow_ok : PrimOk X.K true (rOf2 (rI (fun i j => 0 ≤ j ∧ (i.natAbs.log2 + 1) * j.toNat ≤ 100000000) fun i j => .int (i ^ j.toNat))) gPow := by
  intro I H vs ds d Q e r g q1 q2 q3 q4
  unfold gPow at g
  split at g
  · obtain ⟨v, w, rfl, h1, h2⟩ := rds2 r
    split at g
    · cases g; cases rd_int h1; cases rd_int h2
      exact ⟨_, _, rfl, rfl, by assumption, q1 _ (fun _ => rfl) (.int _)⟩
    · cases g
  · cases g
theorem gNeg_ok : PrimOk X.K true (rOf1 (rU fun i => .int (-i))) gNeg := by
  intro I H vs ds d Q e r g q1 q2 q3 q4
  unfold gNeg at g
  split at g
  · obtain ⟨v, rfl, h1⟩ := rds1 r
    cases g; cases rd_int h1
    exact ⟨_, rfl, q1 _ (fun _ => rfl) (.int _)⟩
  · cases g
end
/-! ### comparisons -/
def eqP (a b : D) : Option Bool := match a.py, b.py with
  | some p, some q => if SeqAt.shaped p = true ∧ SeqAt.shaped q = true then some (PyData.eqv p q) else none
  | _, _ => none
def eqD : D → D → Option Bool
  | .int a, .int b => some (decide (a = b))
  | .str a, .str b => some (decide (a = b))
  | a, b => eqP a b
def gEq : Prim
  | [a, b] => (eqD a b).map .bl
  | _ => none
def gNe : Prim
  | [a, b] => (eqD a b).map fun k => .bl (!k)
  | _ => none
def gLt : Prim
  | [.int a, .int b] => some (.bl (decide (a < b)))
  | _ => none
def gLe : Prim
  | [.int a, .int b] => some (.bl (decide (a ≤ b)))
  | _ => none
def gGt : Prim
  | [.int a, .int b] => some (.bl (decide (b < a)))
  | _ => none
def gGe : Prim
  | [.int a, .int b] => some (.bl (decide (b ≤ a)))
  | _ => none
def D.isNon : D → Bool
  | .non => true
  | _ => false
def gIs : Prim
  | [a, .non] => some (.bl a.isNon)
  | [.bl a, .bl b] => some (.bl (decide (a = b)))
  | _ => none
def gIsNot : Prim
  | [a, .non] => some (.bl (!a.isNon))
  | [.bl a, .bl b] => some (.bl (!decide (a = b)))
  | _ => none
section
variable {X : Cx}
theorem eqP_some {a b : D} {k : Bool} (h : eqP a b = some k) : ∃ p q, a.py = some p ∧ b.py = some q ∧ SeqAt.shaped p = true ∧ SeqAt.shaped q = true ∧ PyData.eqv p q = k := by
  unfold eqP at h
  split at h
  · rename_i p q h1 h2
    split at h
    · rename_i hs
      cases h
      exact ⟨p, q, h1, h2, hs.1, hs.2, rfl⟩
    · cases h
  · cases h
theorem eqD_some {a b : D} {k : Bool} (h : eqD a b = some k) : (∃ i j, a = .int i ∧ b = .int j ∧ k = decide (i = j)) ∨ (∃ i j, a = .str i ∧ b = .str j ∧ k = decide (i = j)) ∨ eqP a b = some k := by
  unfold eqD at h
  split at h
  · cases h; exact .inl ⟨_, _, rfl, rfl, rfl⟩
  · cases h; exact .inr (.inl ⟨_, _, rfl, rfl, rfl⟩)
  · exact .inr (.inr h)
def rEqX (K : PySem.W.Frag) : R2 := fun x y H Q => rEq x y H Q ∨ rEqD K x y H Q
def rNeX (K : PySem.W.Frag) : R2 := fun x y H Q => rNe x y H Q ∨ rNeD K x y H Q
theorem op_eqX (hu : X.A.units + 64 < cLine) : OpR X (compareOp .Eq) (rEqX X.K) := op_eq.or (op_eqD hu)
theorem op_neX (hu : X.A.units + 64 < cLine) : OpR X (compareOp .NotEq) (rNeX X.K) := op_ne.or (op_neD hu)
theorem gEq_ok : PrimOk X.K true (rOf2 (rEqX X.K)) gEq := by
  intro I H vs ds d Q e r g q1 q2 q3 q4
  unfold gEq at g
  split at g
  · rename_i a b
    obtain ⟨v, w, rfl, h1, h2⟩ := rds2 r
    cases hk : eqD a b with
    | none => rw [hk] at g; cases g
    | some k =>
      rw [hk] at g; cases g
      rcases eqD_some hk with ⟨i, j, rfl, rfl, rfl⟩ | ⟨i, j, rfl, rfl, rfl⟩ | hk
      · cases rd_int h1; cases rd_int h2
        refine .inl ⟨rfl, q1 _ (fun _ => rfl) ?_⟩
        have : decide (V.int i = V.int j) = decide (i = j) := by simp
        rw [this]; exact .bl _
      · cases (show Rep X.K I v (.str i) from h1); cases (show Rep X.K I w (.str j) from h2)
        refine .inl ⟨rfl, q1 _ (fun _ => rfl) ?_⟩
        have : decide (V.str i = V.str j) = decide (i = j) := by simp
        rw [this]; exact .bl _
      · obtain ⟨p, q, h3, h4, h5, h6, rfl⟩ := eqP_some hk
        exact .inr ⟨p, q, h1.dp e h3, h2.dp e h4, h5, h6, q1 _ (fun _ => rfl) (.bl _)⟩
  · cases g
theorem gNe_ok : PrimOk X.K true (rOf2 (rNeX X.K)) gNe := by
  intro I H vs ds d Q e r g q1 q2 q3 q4
  unfold gNe at g
  split at g
  · rename_i a b
    obtain ⟨v, w, rfl, h1, h2⟩ := rds2 r
    cases hk : eqD a b with
    | none => rw [hk] at g; cases g
    | some k =>
      rw [hk] at g; cases g
      rcases eqD_some hk with ⟨i, j, rfl, rfl, rfl⟩ | ⟨i, j, rfl, rfl, rfl⟩ | hk
      · cases rd_int h1; cases rd_int h2
        refine .inl ⟨rfl, q1 _ (fun _ => rfl) ?_⟩
        have : decide (V.int i = V.int j) = decide (i = j) := by simp
        rw [this]; exact .bl _
      · cases (show Rep X.K I v (.str i) from h1); cases (show Rep X.K I w (.str j) from h2)
        refine .inl ⟨rfl, q1 _ (fun _ => rfl) ?_⟩
        have : decide (V.str i = V.str j) = decide (i = j) := by simp
        rw [this]; exact .bl _
      · obtain ⟨p, q, h3, h4, h5, h6, rfl⟩ := eqP_some hk
        exact .inr ⟨p, q, h1.dp e h3, h2.dp e h4, h5, h6, q1 _ (fun _ => rfl) (.bl _)⟩
  · cases g
theorem gLt_ok : PrimOk X.K true (rOf2 (rI0 fun i j => .bl (decide (i < j)))) gLt := by
  intro I H vs ds d Q e r g q1 q2 q3 q4
  unfold gLt at g
  split at g
  · obtain ⟨v, w, rfl, h1, h2⟩ := rds2 r
    cases g; cases rd_int h1; cases rd_int h2
    exact ⟨_, _, rfl, rfl, q1 _ (fun _ => rfl) (.bl _)⟩
  · cases g
theorem gLe_ok : PrimOk X.K true (rOf2 (rI0 fun i j => .bl (decide (i ≤ j)))) gLe := by
  intro I H vs ds d Q e r g q1 q2 q3 q4
  unfold gLe at g
  split at g
  · obtain ⟨v, w, rfl, h1, h2⟩ := rds2 r
    cases g; cases rd_int h1; cases rd_int h2
    exact ⟨_, _, rfl, rfl, q1 _ (fun _ => rfl) (.bl _)⟩
  · cases g
theorem gGt_ok : PrimOk X.K true (rOf2 (rI0 fun i j => .bl (decide (j < i)))) gGt := by
  intro I H vs ds d Q e r g q1 q2 q3 q4
  unfold gGt at g
  split at g
  · obtain ⟨v, w, rfl, h1, h2⟩ := rds2 r
    cases g; cases rd_int h1; cases rd_int h2
    exact ⟨_, _, rfl, rfl, q1 _ (fun _ => rfl) (.bl _)⟩
  · cases g
theorem gGe_ok : PrimOk X.K true (rOf2 (rI0 fun i j => .bl (decide (j ≤ i)))) gGe := by
  intro I H vs ds d Q e r g q1 q2 q3 q4
  unfold gGe at g
  split at g
  · obtain ⟨v, w, rfl, h1, h2⟩ := rds2 r
    cases g; cases rd_int h1; cases rd_int h2
    exact ⟨_, _, rfl, rfl, q1 _ (fun _ => rfl) (.bl _)⟩
  · cases g
theorem rd_isNon {K : PySem.W.Frag} {I H : Hp} {v : V} {d : D} (h : Rd1 K I H v d) : decide (v = .non) = d.isNon := by
  cases d with
  | lst ds => obtain ⟨a, xs, rfl, _⟩ := h; rfl
  | non => rw [rd_non h]; rfl
  | bl b => rw [rd_bl h]; rfl
  | int b => rw [rd_int h]; rfl
  | str b => rw [rd_str h]; rfl
  | ty b => rw [rd_ty h]; rfl
  | tup ds => obtain ⟨a, xs, rfl, _⟩ := rd_tup h; rfl
  | scr ds => obtain ⟨a, rfl, _⟩ := rd_scr h; rfl
  | dic ks ds => cases (show Rep K I v (.dic ks ds) from h); rfl
  | sta a => cases (show Rep K I v (.sta a) from h); rfl
def rIsD : R2 := fun x y H Q => (y = .non ∧ Q (.bl (decide (x = .non))) H) ∨ rIsB x y H Q
def rNotD : R2 := fun x y H Q => (y = .non ∧ Q (.bl (!decide (x = .non))) H) ∨ rNotB x y H Q
theorem op_isD : OpR X (compareOp .Is) rIsD := op_isN.or op_isBl
theorem op_notD : OpR X (compareOp .IsNot) rNotD := op_notN.or op_notBl
theorem gIs_ok : PrimOk X.K true (rOf2 rIsD) gIs := by
  intro I H vs ds d Q e r g q1 q2 q3 q4
  unfold gIs at g
  split at g
  · obtain ⟨v, w, rfl, h1, h2⟩ := rds2 r
    cases g; cases rd_non h2
    refine .inl ⟨rfl, ?_⟩
    rw [rd_isNon h1]
    exact q1 _ (fun _ => rfl) (.bl _)
  · obtain ⟨v, w, rfl, h1, h2⟩ := rds2 r
    cases g; cases rd_bl h1; cases rd_bl h2
    exact .inr ⟨_, _, rfl, rfl, q1 _ (fun _ => rfl) (.bl _)⟩
  · cases g
theorem gIsNot_ok : PrimOk X.K true (rOf2 rNotD) gIsNot := by
  intro I H vs ds d Q e r g q1 q2 q3 q4
  unfold gIsNot at g
  split at g
  · obtain ⟨v, w, rfl, h1, h2⟩ := rds2 r
    cases g; cases rd_non h2
    refine .inl ⟨rfl, ?_⟩
    rw [rd_isNon h1]
    exact q1 _ (fun _ => rfl) (.bl _)
  · obtain ⟨v, w, rfl, h1, h2⟩ := rds2 r
    cases g; cases rd_bl h1; cases rd_bl h2
    exact .inr ⟨_, _, rfl, rfl, q1 _ (fun _ => rfl) (.bl _)⟩
  · cases g
end
end DI
set_option Elab.async false
set_option autoImplicit false
set_option linter.all false
set_option maxRecDepth 100000
set_option maxHeartbeats 2000000
/-! DI4: prims of built-ins; items, slices, displays. -/
namespace DI
open PySem PySem.Spec PyProof.Rows L2
/-! ### len, items, slices -/
def gLen : Prim
  | [.lst ds] => some (.int ds.length)
  | [.tup ds] => some (.int ds.length)
  | [.scr ns] => some (.int ns.length)
  | [.str x] => if x.length ≤ sizeLine then some (.int x.length) else none
  | _ => none
def gIx : Prim
  | [.lst ds, .int i] => atI ds i
  | [.tup ds, .int i] => atI ds i
  | [.scr ns, .int i] => (atI ns i).map .int
  | [.str x, .int i] => if x.length ≤ sizeLine then (atI x.cps.toList i).map fun c => .str ⟨#[c]⟩ else none
  | _ => none
def cutD (xs : List D) (lo hi : Option Int) : List D := (xs.drop (HT.sIx xs.length 0 lo)).take (HT.sIx xs.length xs.length hi - HT.sIx xs.length 0 lo)
def gSl (lo hi : Option Int) : D → Option D
  | .lst ds => some (.lst (cutD ds lo hi))
  | .str x => if x.length ≤ sizeLine then some (.str (cutS x lo hi)) else none
  | _ => none
section
variable {X : Cx} {K : PySem.W.Frag} {I H : Hp}
theorem gLen_ok : PrimOk X.K true (fun xs H Q => ∃ x n, xs = [x] ∧ LenV X.K x H n ∧ Q (.int n) H) gLen := by
  intro I H vs ds d Q e r g q1 q2 q3 q4
  unfold gLen at g
  split at g
  · obtain ⟨v, rfl, ⟨a, xs, rfl, h1, h2⟩⟩ := rds1 r
    cases g
    exact ⟨_, _, rfl, .inl ⟨xs, SqL.of h1, h2.length.symm⟩, q1 _ (fun _ => rfl) (.int _)⟩
  · obtain ⟨v, rfl, h⟩ := rds1 r
    cases g
    obtain ⟨a, xs, rfl, h1, h2⟩ := rd_tup h
    exact ⟨_, _, rfl, .inr ⟨xs, e.t h1, h2.length.symm⟩, q1 _ (fun _ => rfl) (.int _)⟩
  · obtain ⟨v, rfl, h⟩ := rds1 r
    cases g
    obtain ⟨a, rfl, h1⟩ := rd_scr h
    exact ⟨_, _, rfl, .inl ⟨_, e.l h1, by rw [List.length_map]⟩, q1 _ (fun _ => rfl) (.int _)⟩
  · obtain ⟨v, rfl, h⟩ := rds1 r
    split at g
    · rename_i hz
      cases g; cases rd_str h
      exact ⟨_, _, rfl, ⟨hz, rfl⟩, q1 _ (fun _ => rfl) (.int _)⟩
    · cases g
  · cases g
theorem atI_rep {xs : List V} {ds : List D} {i : Int} {d : D} (h : Reps K I xs ds) (g : atI ds i = some d) : ∃ v, atI xs i = some v ∧ Rep K I v d := by
  unfold atI at g ⊢
  rw [h.length]
  cases q : ixN ds.length i with
  | none => rw [q] at g; cases g
  | some j =>
    rw [q] at g
    exact h.get (show ds[j]? = some d from g)
theorem atI_map {α β : Type} (f : α → β) (xs : List α) (i : Int) : atI (xs.map f) i = (atI xs i).map f := by
  unfold atI
  rw [List.length_map]
  cases ixN xs.length i with
  | none => rfl
  | some j =>
    show (xs.map f)[j]? = (xs[j]?).map f
    rw [List.getElem?_map]
theorem gIx_ok : PrimOk X.K false (rOf2 (rIx X.K)) gIx := by
  intro I H vs ds d Q e r g q1 q2 q3 q4
  unfold gIx at g
  split at g
  · obtain ⟨v, w, rfl, ⟨a, xs, rfl, h1, h2⟩, h3⟩ := rds2 r
    cases rd_int h3
    obtain ⟨v, h4, h5⟩ := atI_rep h2 g
    exact .inl ⟨a, xs, _, v, rfl, rfl, SqL.of h1, h4, q1 _ (fun z => by cases z) h5⟩
  · obtain ⟨v, w, rfl, h, h3⟩ := rds2 r
    cases rd_int h3
    obtain ⟨a, xs, rfl, h1, h2⟩ := rd_tup h
    obtain ⟨v, h4, h5⟩ := atI_rep h2 g
    exact .inr (.inl ⟨a, xs, _, v, rfl, rfl, e.t h1, h4, q1 _ (fun z => by cases z) h5⟩)
  · rename_i ns i
    obtain ⟨v, w, rfl, h, h3⟩ := rds2 r
    cases rd_int h3
    obtain ⟨a, rfl, h1⟩ := rd_scr h
    cases hq : atI ns i with
    | none => rw [hq] at g; cases g
    | some n =>
      rw [hq] at g; cases g
      exact .inl ⟨a, _, _, .int n, rfl, rfl, e.l h1, by rw [atI_map, hq]; rfl, q1 _ (fun z => by cases z) (.int n)⟩
  · rename_i x i
    obtain ⟨v, w, rfl, h, h3⟩ := rds2 r
    cases rd_int h3; cases rd_str h
    split at g
    · rename_i hz
      cases hq : atI x.cps.toList i with
      | none => rw [hq] at g; cases g
      | some n =>
        rw [hq] at g; cases g
        exact .inr (.inr ⟨x, i, n, rfl, rfl, hz, hq, q1 _ (fun z => by cases z) (.str _)⟩)
    · cases g
  · cases g
theorem cut_rep {xs : List V} {ds : List D} (lo hi : Option Int) (h : Reps K I xs ds) : Reps K I (cutV xs lo hi) (cutD ds lo hi) := by
  unfold cutV cutD
  rw [h.length]
  exact (h.drop _).take _
def rSlD (K : PySem.W.Frag) : V → Option Int → Option Int → Hp → VK → Prop := fun x lo hi H Q => rSlL K x lo hi H Q ∨ ∃ z, x = .str z ∧ z.length ≤ sizeLine ∧ Q (.str (cutS z lo hi)) H
theorem sl_D : SlR X (rSlD X.K) := sl_list.or sl_str
/-- a slice's result, its ends known -/
theorem sl_end {lo hi : Option Int} {Q : VK} {v : V} {d d' : D} (e : Ext I H) (h : Rd1 K I H v d) (g : gSl lo hi d = some d') (q1 : ∀ v, (true = true → d'.nl = true) → Rep K I v d' → Q v H)
    (q2 : ∀ p xs es, d' = .lst es → H p = none → Reps K I xs es → Q (.ref p) (upd H p (.lst xs))) : rSlD K v lo hi H Q := by
  unfold gSl at g
  split at g
  · obtain ⟨a, xs, rfl, h1, h2⟩ := h
    cases g
    exact .inl ⟨a, xs, rfl, SqL.of h1, fun p hp => q2 p _ _ rfl hp (cut_rep lo hi h2)⟩
  · split at g
    · rename_i hz
      cases g; cases rd_str h
      exact .inr ⟨_, rfl, hz, q1 _ (fun _ => rfl) (.str _)⟩
    · cases g
  · cases g
def gSl00 : Prim
  | [a] => gSl none none a
  | _ => none
def gSl10 : Prim
  | [a, .int i] => gSl (some i) none a
  | _ => none
def gSl01 : Prim
  | [a, .int i] => gSl none (some i) a
  | _ => none
def gSl11 : Prim
  | [a, .int i, .int j] => gSl (some i) (some j) a
  | _ => none
end
section
variable {X : Cx} {ms : List Md} {m : Md} {a b c : Expr} {es : List Expr} {oa ob oc : Opd} {os : List Opd} {pos p2 : Pos} {W : WX}
theorem de_sl00 (ha : DO X ms a oa) (hm : m ≠ .pr := by decide) : DE X ms m (.Subscript a (.Slice none none none p2) pos) (cPrim gSl00 [oa]) := fun W tk => pe_imp (pe_slice sl_D (ha.pe tk) po_none po_none) fun σ H Q h =>
  prim_read (fr := true) (os := [oa]) (r := fun vs H Q => match vs with
    | [x] => rSlD X.K x none none H Q
    | _ => False) (fun I H vs ds d Q e r g q1 q2 q3 q4 => by
    unfold gSl00 at g
    split at g
    · obtain ⟨v, rfl, h1⟩ := rds1 r
      exact sl_end e h1 g (fun v hv => q1 v hv) q2
    · cases g) hm (.inr rfl) h
theorem de_sl10 (ha : DO X ms a oa) (hb : DO X ms b ob) (hm : m ≠ .pr := by decide) : DE X ms m (.Subscript a (.Slice (some b) none none p2) pos) (cPrim gSl10 [oa, ob]) := fun W tk => pe_imp (pe_slice sl_D (ha.pe tk) (po_some (hb.pe tk)) po_none) fun σ H Q h =>
  prim_read (fr := true) (os := [oa, ob]) (r := fun vs H Q => match vs with
    | [x, y] => ∃ i, y = .int i ∧ rSlD X.K x (some i) none H Q
    | _ => False) (fun I H vs ds d Q e r g q1 q2 q3 q4 => by
    unfold gSl10 at g
    split at g
    · obtain ⟨v, w, rfl, h1, h2⟩ := rds2 r
      cases rd_int h2
      exact ⟨_, rfl, sl_end e h1 g (fun v hv => q1 v hv) q2⟩
    · cases g) hm (.inr rfl) h
theorem de_sl01 (ha : DO X ms a oa) (hb : DO X ms b ob) (hm : m ≠ .pr := by decide) : DE X ms m (.Subscript a (.Slice none (some b) none p2) pos) (cPrim gSl01 [oa, ob]) := fun W tk => pe_imp (pe_slice sl_D (ha.pe tk) po_none (po_some (hb.pe tk))) fun σ H Q h =>
  prim_read (fr := true) (os := [oa, ob]) (r := fun vs H Q => match vs with
    | [x, y] => ∃ i, y = .int i ∧ rSlD X.K x none (some i) H Q
    | _ => False) (fun I H vs ds d Q e r g q1 q2 q3 q4 => by
    unfold gSl01 at g
    split at g
    · obtain ⟨v, w, rfl, h1, h2⟩ := rds2 r
      cases rd_int h2
      exact ⟨_, rfl, sl_end e h1 g (fun v hv => q1 v hv) q2⟩
    · cases g) hm (.inr rfl) h
theorem tE_mono {K : PySem.W.Frag} {mg : Str → Option Value} {f : CE} {σ : L2.St} {H : Hp} {Q Q' : VK} (h : tE K mg ms m f W σ H Q) (k : ∀ v H', Q v H' → Q' v H') : tE K mg ms m f W σ H Q' := by
  obtain ⟨I, env, fp, s, r, env', h1, q, b⟩ := h
  exact ⟨I, env, fp, s, r, env', h1, fun d hd v H' I' fp' fv s' t' rv nd off => k _ _ (q d hd v H' I' fp' fv s' t' rv nd off), b⟩
theorem tO_mono {K : PySem.W.Frag} {mg : Str → Option Value} {o : Opd} {σ : L2.St} {H : Hp} {Q Q' : VK} (h : tO K mg ms W o σ H Q) (k : ∀ v H', Q v H' → Q' v H') : tO K mg ms W o σ H Q' := by
  cases o with
  | tm f => exact tE_mono h k
  | vr i =>
    obtain ⟨v, h1, h2⟩ := h
    exact ⟨v, h1, k _ _ h2⟩
/-- an operand that is to be an int -/
def cInt (f : CE) : CE := fun env => mbind (f env) fun d e => match d with
  | .int i => some (.ok (.int i), e)
  | _ => none
theorem int_read {K : PySem.W.Frag} {mg : Str → Option Value} {f : CE} {σ : L2.St} {H : Hp} {Q : VK} (h : tE K mg ms .sh (cInt f) W σ H Q) : tE K mg ms .sh f W σ H (fun v H' => ∃ i, v = .int i ∧ Q (.int i) H') := by
  obtain ⟨I, env, fp, s, r, env', h1, q, b⟩ := h
  refine tE_then s h1 b fun d e1 v H1 I1 fp1 h2 s1 t1 rv => ?_
  cases rv with
  | int i => cases h2; exact ⟨i, rfl, q _ rfl _ H1 I1 fp1 [] s1 t1 ⟨.int i, rfl⟩ s1.nd fun p hp => by cases hp⟩
  | _ => cases h2
theorem de_sl11 {fb : CE} (ha : DO X ms a oa) (hb : DE X ms .sh b fb) (hc : DO X ms c oc) (hm : m ≠ .pr := by decide) : DE X ms m (.Subscript a (.Slice (some b) (some c) none p2) pos) (cPrim gSl11 [oa, .tm (cInt fb), oc]) := fun W tk => pe_imp (pe_slice sl_D (ha.pe tk) (po_some (hb W tk)) (po_some (hc.pe tk))) fun σ H Q h => by
  have h' := prim_read (fr := true) (os := [oa, .tm (cInt fb), oc]) (r := fun vs H Q => match vs with
    | [x, .int i, z] => ∃ j, z = .int j ∧ rSlD X.K x (some i) (some j) H Q
    | _ => False) (fun I H vs ds d Q e r g q1 q2 q3 q4 => by
    unfold gSl11 at g
    split at g
    · obtain ⟨v, w, x, rfl, h1, h2, h3⟩ := rds3 r
      cases rd_int h2; cases rd_int h3
      exact ⟨_, rfl, sl_end e h1 g (fun v hv => q1 v hv) q2⟩
    · cases g) hm (.inr rfl) h
  have h2 : tO X.K X.mg ms W oa σ H (fun x H1 => tE X.K X.mg ms .sh (cInt fb) W σ H1 fun y H2 => tO X.K X.mg ms W oc σ H2 fun z H3 => (match [x, y, z] with
    | [x, .int i, z] => ∃ j, z = .int j ∧ rSlD X.K x (some i) (some j) H3 Q
    | _ => False)) := h'
  exact tO_mono h2 fun x H1 h3 => tE_mono (int_read h3) fun y H2 ⟨i, e, h4⟩ => ⟨i, e, h4⟩
/-! ### displays -/
def gLst : Prim := fun ds => if ds.length ≤ sizeLine then some (.lst ds) else none
def gTup : Prim := fun ds => if ds.length ≤ sizeLine then some (.tup ds) else none
theorem disp_read {K : PySem.W.Frag} {mg : Str → Option Value} {σ : L2.St} {H : Hp} {Q : VK} {dk : List D → D} {r : RL} (ht : os.all Opd.isTm = true) (hm : m ≠ .pr)
    (hr : ∀ (I H : Hp) (xs : List V) (ds : List D) (Q : VK), Ext I H → Reps K I xs ds → ds.length ≤ sizeLine → (∀ v, (true = true → (dk ds).nl = true) → Rep K I v (dk ds) → Q v H) →
      (∀ p xs es, dk ds = .lst es → H p = none → Reps K I xs es → Q (.ref p) (upd H p (.lst xs))) → (∀ p xs es, dk ds = .tup es → H p = none → Reps K I xs es → Q (.ref p) (upd H p (.tup xs))) → r xs H Q)
    (h : tE K mg ms m (cPrim (fun ds => if ds.length ≤ sizeLine then some (dk ds) else none) os) W σ H Q) : tOs K mg ms W os σ H (fun vs H' => r vs H' Q) := by
  obtain ⟨I, env, fp, s, x, env', h1, q, b⟩ := h
  refine os_then s h1 b fun ds e1 vs H1 I1 fp1 h2 s1 t1 rs => ?_
  obtain ⟨d, g1, rfl, rfl⟩ := pOut_some h2
  have g1 : (if ds.length ≤ sizeLine then some (dk ds) else none) = some d := g1
  split at g1
  · rename_i hz
    cases g1
    obtain ⟨a1, a2, a3, a4⟩ := res_end (fr := true) hm (.inr rfl) s1 fun v H' I' fp' fv s' t' => q _ rfl v H' I' fp' fv s' (t1.trans t')
    exact hr I1 H1 vs ds Q s1.ext (rs.reps ht) hz a1 a2 a3
  · cases g1
theorem de_lst (h : DOs X ms es os) (ht : os.all Opd.isTm = true := by rfl) (hm : m ≠ .pr := by decide) : DE X ms m (.List es pos) (cPrim gLst os) := fun W tk => pe_imp (pe_lst (h.pa tk)) fun σ H Q h' =>
  disp_read (dk := .lst) (r := fun xs H1 Q => xs.length ≤ sizeLine ∧ ∀ p, H1 p = none → Q (.ref p) (upd H1 p (.lst xs))) ht hm (fun I H xs ds Q e r hz q1 q2 q3 => ⟨by rw [r.length]; exact hz, fun p hp => q2 p xs ds rfl hp r⟩) h'
theorem de_tup {j : Nat} (h : DOs X ms es os) (ht : os.all Opd.isTm = true := by rfl) (hm : m ≠ .pr := by decide) : DE X ms m (.Tuple es j pos) (cPrim gTup os) := fun W tk => pe_imp (pe_tup (h.pa tk)) fun σ H Q h' =>
  disp_read (dk := .tup) (r := fun xs H1 Q => xs.length ≤ sizeLine ∧ ∀ p, H1 p = none → Q (.ref p) (upd H1 p (.tup xs))) ht hm (fun I H xs ds Q e r hz q1 q2 q3 => ⟨by rw [r.length]; exact hz, fun p hp => q3 p xs ds rfl hp r⟩) h'
end
/-! ### built-ins -/
def gMax2 : Prim
  | [.int a, .int b] => some (.int (if b > a then b else a))
  | _ => none
def gMin2 : Prim
  | [.int a, .int b] => some (.int (if b < a then b else a))
  | _ => none
def gAbs : Prim
  | [.int a] => some (.int (if a < 0 then -a else a))
  | _ => none
def gInt : Prim
  | [.int a] => some (.int a)
  | [.bl a] => some (.int (if a then 1 else 0))
  | _ => none
def gSum : Prim
  | [.lst ds] => (intsD ds).map fun ns => .int ns.sum
  | _ => none
def maxI : List Int → Int
  | [] => 0
  | [a] => a
  | a :: r => if maxI r > a then maxI r else a
def minI : List Int → Int
  | [] => 0
  | [a] => a
  | a :: r => if minI r < a then minI r else a
def gMaxL : Prim
  | [.lst ds] => match intsD ds with
    | some (a :: r) => some (.int (maxI (a :: r)))
    | _ => none
  | _ => none
def gMinL : Prim
  | [.lst ds] => match intsD ds with
    | some (a :: r) => some (.int (minI (a :: r)))
    | _ => none
  | _ => none
def gAll : Prim
  | [.lst ds] => (blsD ds).map fun bs => .bl (bs.all id)
  | _ => none
def gAny : Prim
  | [.lst ds] => (blsD ds).map fun bs => .bl (bs.any id)
  | _ => none
def sortI (ns : List Int) : List Int := ns.mergeSort (fun a b => decide (a ≤ b))
def gSorted : Prim
  | [.lst ds] => (intsD ds).map fun ns => .lst ((sortI ns).map .int)
  | _ => none
def gDivmod : Prim
  | [.int a, .int b] => if 0 < b ∧ b < 1073741824 then some (.tup [.int (a / b), .int (a % b)]) else none
  | _ => none
def gList : Prim
  | [.lst ds] => some (.lst ds)
  | [.tup ds] => some (.lst ds)
  | _ => none
def gTuple : Prim
  | [.lst ds] => some (.tup ds)
  | [.tup ds] => some (.tup ds)
  | _ => none
def D.tyName : D → Option String
  | .non => some "NoneType"
  | .bl _ => some "bool"
  | .int _ => some "int"
  | .str _ => some "str"
  | .lst _ => some "list"
  | .scr _ => some "list"
  | .tup _ => some "tuple"
  | .dic _ _ => some "dict"
  | _ => none
def isTyN (t n : String) : Option Bool :=
  if n = "int" then some (decide (t = "int") || decide (t = "bool"))
  else if n = "bool" then some (decide (t = "bool")) else if n = "str" then some (decide (t = "str")) else if n = "list" then some (decide (t = "list"))
  else if n = "tuple" then some (decide (t = "tuple")) else if n = "dict" then some (decide (t = "dict")) else none
def gIsi : Prim
  | [d, .ty n] => match d.tyName with
    | some t => (isTyN t n).map .bl
    | none => none
  | _ => none
section
variable {X : Cx} {K : PySem.W.Frag} {I H : Hp}
theorem maxI_spec : ∀ {ns : List Int}, ns ≠ [] → maxI ns ∈ ns ∧ ∀ y ∈ ns, y ≤ maxI ns
  | [], h => absurd rfl h
  | [a], _ => by simp [maxI]
  | a :: b :: r, _ => by
    obtain ⟨h1, h2⟩ := maxI_spec (ns := b :: r) (by simp)
    unfold maxI
    by_cases h : maxI (b :: r) > a
    · rw [if_pos h]
      refine ⟨List.mem_cons_of_mem _ h1, fun y hy => ?_⟩
      rcases List.mem_cons.mp hy with z | z
      · omega
      · exact h2 y z
    · rw [if_neg h]
      refine ⟨List.mem_cons_self, fun y hy => ?_⟩
      rcases List.mem_cons.mp hy with z | z
      · omega
      · have := h2 y z; omega
theorem minI_spec : ∀ {ns : List Int}, ns ≠ [] → minI ns ∈ ns ∧ ∀ y ∈ ns, minI ns ≤ y
  | [], h => absurd rfl h
  | [a], _ => by simp [minI]
  | a :: b :: r, _ => by
    obtain ⟨h1, h2⟩ := minI_spec (ns := b :: r) (by simp)
    unfold minI
    by_cases h : minI (b :: r) < a
    · rw [if_pos h]
      refine ⟨List.mem_cons_of_mem _ h1, fun y hy => ?_⟩
      rcases List.mem_cons.mp hy with z | z
      · omega
      · exact h2 y z
    · rw [if_neg h]
      refine ⟨List.mem_cons_self, fun y hy => ?_⟩
      rcases List.mem_cons.mp hy with z | z
      · omega
      · have := h2 y z; omega
theorem rd_ints {v : V} {ds : List D} {ns : List Int} (h : Rd1 K I H v (.lst ds)) (q : intsD ds = some ns) : ∃ a, v = .ref a ∧ SqL K H a (ns.map V.int) := by
  obtain ⟨a, xs, rfl, h1, h2⟩ := h
  rw [intsD_eq q] at h2
  cases h2.ints_of
  exact ⟨a, rfl, SqL.of h1⟩
theorem gMax2_ok : PrimOk X.K true (fun xs H Q => ∃ i j, xs = [.int i, .int j] ∧ Q (.int (if j > i then j else i)) H) gMax2 := by
  intro I H vs ds d Q e r g q1 q2 q3 q4
  unfold gMax2 at g
  split at g
  · obtain ⟨v, w, rfl, h1, h2⟩ := rds2 r
    cases g; cases rd_int h1; cases rd_int h2
    exact ⟨_, _, rfl, q1 _ (fun _ => rfl) (.int _)⟩
  · cases g
theorem gMin2_ok : PrimOk X.K true (fun xs H Q => ∃ i j, xs = [.int i, .int j] ∧ Q (.int (if j < i then j else i)) H) gMin2 := by
  intro I H vs ds d Q e r g q1 q2 q3 q4
  unfold gMin2 at g
  split at g
  · obtain ⟨v, w, rfl, h1, h2⟩ := rds2 r
    cases g; cases rd_int h1; cases rd_int h2
    exact ⟨_, _, rfl, q1 _ (fun _ => rfl) (.int _)⟩
  · cases g
theorem gAbs_ok : PrimOk X.K true (fun xs H Q => ∃ i, xs = [.int i] ∧ Q (.int (if i < 0 then -i else i)) H) gAbs := by
  intro I H vs ds d Q e r g q1 q2 q3 q4
  unfold gAbs at g
  split at g
  · obtain ⟨v, rfl, h1⟩ := rds1 r
    cases g; cases rd_int h1
    exact ⟨_, rfl, q1 _ (fun _ => rfl) (.int _)⟩
  · cases g
theorem gInt_ok : PrimOk X.K true (fun xs H Q => (∃ i, xs = [.int i] ∧ Q (.int i) H) ∨ ∃ k, xs = [.bl k] ∧ Q (.int (if k then 1 else 0)) H) gInt := by
  intro I H vs ds d Q e r g q1 q2 q3 q4
  unfold gInt at g
  split at g
  · obtain ⟨v, rfl, h1⟩ := rds1 r
    cases g; cases rd_int h1
    exact .inl ⟨_, rfl, q1 _ (fun _ => rfl) (.int _)⟩
  · obtain ⟨v, rfl, h1⟩ := rds1 r
    cases g; cases rd_bl h1
    exact .inr ⟨_, rfl, q1 _ (fun _ => rfl) (.int _)⟩
  · cases g
theorem gSum_ok : PrimOk X.K true (rSum X.K) gSum := by
  intro I H vs ds d Q e r g q1 q2 q3 q4
  unfold gSum at g
  split at g
  · rename_i ds
    obtain ⟨v, rfl, h1⟩ := rds1 r
    cases q : intsD ds with
    | none => rw [q] at g; cases g
    | some ns =>
      rw [q] at g; cases g
      obtain ⟨a, rfl, h2⟩ := rd_ints h1 q
      exact ⟨a, ns, rfl, h2, q1 _ (fun _ => rfl) (.int _)⟩
  · cases g
theorem gMaxL_ok : PrimOk X.K true (rMax X.K) gMaxL := by
  intro I H vs ds d Q e r g q1 q2 q3 q4
  unfold gMaxL at g
  split at g
  · rename_i ds
    obtain ⟨v, rfl, h1⟩ := rds1 r
    split at g
    · rename_i a t q
      cases g
      obtain ⟨p, rfl, h2⟩ := rd_ints h1 q
      refine ⟨p, a :: t, rfl, h2, by simp, fun m hm hl => ?_⟩
      obtain ⟨k1, k2⟩ := maxI_spec (ns := a :: t) (by simp)
      have e1 : m = maxI (a :: t) := by have := k2 m hm; have := hl _ k1; omega
      rw [e1]
      exact q1 _ (fun _ => rfl) (.int _)
    · cases g
  · cases g
theorem gMinL_ok : PrimOk X.K true (rMin X.K) gMinL := by
  intro I H vs ds d Q e r g q1 q2 q3 q4
  unfold gMinL at g
  split at g
  · rename_i ds
    obtain ⟨v, rfl, h1⟩ := rds1 r
    split at g
    · rename_i a t q
      cases g
      obtain ⟨p, rfl, h2⟩ := rd_ints h1 q
      refine ⟨p, a :: t, rfl, h2, by simp, fun m hm hl => ?_⟩
      obtain ⟨k1, k2⟩ := minI_spec (ns := a :: t) (by simp)
      have e1 : m = minI (a :: t) := by have := k2 m hm; have := hl _ k1; omega
      rw [e1]
      exact q1 _ (fun _ => rfl) (.int _)
    · cases g
  · cases g
theorem rd_bls {v : V} {ds : List D} {ns : List Bool} (h : Rd1 K I H v (.lst ds)) (q : blsD ds = some ns) : ∃ a, v = .ref a ∧ SqL K H a (ns.map V.bl) := by
  obtain ⟨a, xs, rfl, h1, h2⟩ := h
  rw [blsD_eq q] at h2
  cases reps_bls h2
  exact ⟨a, rfl, SqL.of h1⟩
theorem gAll_ok : PrimOk X.K true (rAll X.K) gAll := by
  intro I H vs ds d Q e r g q1 q2 q3 q4
  unfold gAll at g
  split at g
  · rename_i ds
    obtain ⟨v, rfl, h1⟩ := rds1 r
    cases q : blsD ds with
    | none => rw [q] at g; cases g
    | some ns =>
      rw [q] at g; cases g
      obtain ⟨a, rfl, h2⟩ := rd_bls h1 q
      exact ⟨a, ns, rfl, h2, q1 _ (fun _ => rfl) (.bl _)⟩
  · cases g
theorem gAny_ok : PrimOk X.K true (rAny X.K) gAny := by
  intro I H vs ds d Q e r g q1 q2 q3 q4
  unfold gAny at g
  split at g
  · rename_i ds
    obtain ⟨v, rfl, h1⟩ := rds1 r
    cases q : blsD ds with
    | none => rw [q] at g; cases g
    | some ns =>
      rw [q] at g; cases g
      obtain ⟨a, rfl, h2⟩ := rd_bls h1 q
      exact ⟨a, ns, rfl, h2, q1 _ (fun _ => rfl) (.bl _)⟩
  · cases g
theorem sortI_perm (ns : List Int) : (sortI ns).Perm ns := List.mergeSort_perm ns _
theorem sortI_pw (ns : List Int) : (sortI ns).Pairwise (· ≤ ·) := by
  have h := List.pairwise_mergeSort (le := fun a b : Int => decide (a ≤ b)) (fun a b c h1 h2 => by simp at h1 h2 ⊢; omega) (fun a b => by simp; omega) ns
  exact h.imp fun {a b} h => by simpa using h
theorem gSorted_ok : PrimOk X.K true (rSortedI X.K) gSorted := by
  intro I H vs ds d Q e r g q1 q2 q3 q4
  unfold gSorted at g
  split at g
  · rename_i ds
    obtain ⟨v, rfl, h1⟩ := rds1 r
    cases q : intsD ds with
    | none => rw [q] at g; cases g
    | some ns =>
      rw [q] at g; cases g
      obtain ⟨a, rfl, h2⟩ := rd_ints h1 q
      refine ⟨a, ns, rfl, h2, fun ns' p hp hw hn => ?_⟩
      have e1 : ns' = sortI ns := PySem.W.ksm_same (hp.trans (sortI_perm ns).symm) hw (sortI_pw ns)
      subst e1
      exact q2 p _ _ rfl hn (Reps.ints _)
  · cases g
theorem gDivmod_ok : PrimOk X.K true (fun xs H Q => ∃ i j, xs = [.int i, .int j] ∧ CDiv i j ∧ ∀ p, H p = none → Q (.ref p) (upd H p (.tup [.int (i / j), .int (i % j)]))) gDivmod := by
  intro I H vs ds d Q e r g q1 q2 q3 q4
  unfold gDivmod at g
  split at g
  · obtain ⟨v, w, rfl, h1, h2⟩ := rds2 r
    split at g
    · cases g; cases rd_int h1; cases rd_int h2
      exact ⟨_, _, rfl, by assumption, fun p hp => q3 p _ _ rfl hp (.cons (.int _) (.cons (.int _) .nil))⟩
    · cases g
  · cases g
theorem gList_ok : PrimOk X.K true (fun xs H Q => ∃ p ys, xs = [.ref p] ∧ (SqL X.K H p ys ∨ SqT X.K H p ys) ∧ ∀ l, H l = none → Q (.ref l) (upd H l (.lst ys))) gList := by
  intro I H vs ds d Q e r g q1 q2 q3 q4
  unfold gList at g
  split at g
  · obtain ⟨v, rfl, ⟨a, xs, rfl, h1, h2⟩⟩ := rds1 r
    cases g
    exact ⟨a, xs, rfl, .inl (SqL.of h1), fun l hl => q2 l _ _ rfl hl h2⟩
  · obtain ⟨v, rfl, h⟩ := rds1 r
    cases g
    obtain ⟨a, xs, rfl, h1, h2⟩ := rd_tup h
    exact ⟨a, xs, rfl, .inr (e.t h1), fun l hl => q2 l _ _ rfl hl h2⟩
  · cases g
theorem gTuple_ok : PrimOk X.K true (fun xs H Q => ∃ p ys, xs = [.ref p] ∧ ((SqL X.K H p ys ∧ ∀ l, H l = none → Q (.ref l) (upd H l (.tup ys))) ∨ (SqT X.K H p ys ∧ Q (.ref p) H))) gTuple := by
  intro I H vs ds d Q e r g q1 q2 q3 q4
  unfold gTuple at g
  split at g
  · obtain ⟨v, rfl, ⟨a, xs, rfl, h1, h2⟩⟩ := rds1 r
    cases g
    exact ⟨a, xs, rfl, .inl ⟨SqL.of h1, fun l hl => q3 l _ _ rfl hl h2⟩⟩
  · obtain ⟨v, rfl, h⟩ := rds1 r
    cases g
    obtain ⟨a, xs, rfl, h1, h2⟩ := rd_tup h
    exact ⟨a, xs, rfl, .inr ⟨e.t h1, q1 _ (fun _ => rfl) (.tup h1 h2)⟩⟩
  · cases g
theorem rd_ty_of {v : V} {d : D} {t : String} (e : Ext I H) (h : Rd1 K I H v d) (ht : d.tyName = some t) : TyX K H v (.type t) := by
  cases d with
  | non => cases ht; cases rd_non h; exact .base .non
  | bl b => cases ht; cases rd_bl h; exact .base (.bl _)
  | int b => cases ht; cases rd_int h; exact .base (.int _)
  | str b => cases ht; cases rd_str h; exact .base (.str _)
  | lst ds => cases ht; obtain ⟨a, xs, rfl, h1, h2⟩ := h; exact .base (.lst h1)
  | scr ns =>
    cases ht
    obtain ⟨a, rfl, h1⟩ := rd_scr h
    rcases e.l h1 with (h2 | ⟨o, h2⟩) | ⟨o, its, n, h2, h3, _⟩
    · exact .base (.lst h2)
    · exact .base (.frz h2)
    · exact .kList h2 h3
  | tup ds =>
    cases ht
    obtain ⟨a, xs, rfl, h1, _⟩ := rd_tup h
    rcases e.t h1 with (h2 | ⟨o, h2⟩) | ⟨o, its, n, h2, h3, _⟩
    · exact .base (.tup h2)
    · exact .fTuple h2
    · exact .kTuple h2 h3
  | dic ks ds =>
    cases ht
    cases (show Rep K I v (.dic ks ds) from h) with
    | dic h1 _ _ => exact .base (.dK (e _ _ h1))
  | ty n => cases ht
  | sta a => cases ht
theorem kit_N {t n : String} {b : Bool} (h : isTyN t n = some b) (ht : t = "NoneType" ∨ t = "bool" ∨ t = "int" ∨ t = "str" ∨ t = "list" ∨ t = "tuple" ∨ t = "dict") : PySem.W.kitOne K (.type t) (.type n) = some b := by
  unfold isTyN at h
  split at h
  · subst n; rcases ht with rfl | rfl | rfl | rfl | rfl | rfl | rfl <;> (cases h; rfl)
  split at h
  · subst n; rcases ht with rfl | rfl | rfl | rfl | rfl | rfl | rfl <;> (cases h; rfl)
  split at h
  · subst n; rcases ht with rfl | rfl | rfl | rfl | rfl | rfl | rfl <;> (cases h; rfl)
  split at h
  · subst n; rcases ht with rfl | rfl | rfl | rfl | rfl | rfl | rfl <;> (cases h; rfl)
  split at h
  · subst n; rcases ht with rfl | rfl | rfl | rfl | rfl | rfl | rfl <;> (cases h; rfl)
  split at h
  · subst n; rcases ht with rfl | rfl | rfl | rfl | rfl | rfl | rfl <;> (cases h; rfl)
  · cases h
theorem tyName_in {d : D} {t : String} (h : d.tyName = some t) : t = "NoneType" ∨ t = "bool" ∨ t = "int" ∨ t = "str" ∨ t = "list" ∨ t = "tuple" ∨ t = "dict" := by
  cases d <;> cases h <;> simp
theorem gIsi_ok : PrimOk X.K true (rIsi X.K) gIsi := by
  intro I H vs ds d Q e r g q1 q2 q3 q4
  unfold gIsi at g
  split at g
  · rename_i d n
    obtain ⟨v, w, rfl, h1, h2⟩ := rds2 r
    cases rd_ty h2
    split at g
    · rename_i t ht
      cases hb : isTyN t n with
      | none => rw [hb] at g; cases g
      | some b =>
        rw [hb] at g; cases g
        exact ⟨v, _, .type t, .type n, b, rfl, .ty n, rd_ty_of e h1 ht, kit_N hb (tyName_in ht), q1 _ (fun _ => rfl) (.bl _)⟩
    · cases g
  · cases g
end
end DI
set_option Elab.async false
set_option autoImplicit false
set_option linter.all false
set_option maxRecDepth 100000
set_option maxHeartbeats 2000000
/-! DI5: a def's promise, and its call: arguments by value, lent lists, borrowed lists. -/
namespace DI
open PySem PySem.Spec PyProof.Rows L2
/-! ### how an argument is given: its value | the list of a slot, to be changed | the list of a slot, to be read -/
inductive AK where
  | sh | ln (i : Nat) | bo (i : Nat)
def AK.md : AK → Md
  | .ln _ => .pr
  | _ => .sh
def ixs : List AK → List Nat
  | [] => []
  | .sh :: ks => ixs ks
  | .ln i :: ks => i :: ixs ks
  | .bo i :: ks => i :: ixs ks
theorem set_id {α : Type} : ∀ {l : List α} {i : Nat} {a : α}, l[i]? = some a → l.set i a = l
  | [], _, _, _ => rfl
  | x :: r, 0, a, h => by simp at h; subst h; rfl
  | x :: r, i + 1, a, h => by rw [List.set_cons_succ, set_id (by simpa using h)]
section
variable {K : PySem.W.Frag} {I H : Hp} {ms : List Md} {σ : L2.St}
/-- a slot is taken out -/
theorem Slots.out : ∀ {ms : List Md} {σ : L2.St} {env : Env} {fp : List Addr} {i : Nat} {d : D}, Slots K I H ms σ env fp → env[i]? = some (some d) →
    ∃ m v f rest, ms[i]? = some m ∧ σ[i]? = some (some v) ∧ RepM m K I H v d f ∧ Slots K I H ms σ (env.set i none) rest ∧ (f ++ rest).Perm fp
  | _, _, _, _, _, _, .nil, e => by simp at e
  | _, _, _, _, 0, _, .non s, e => by simp at e
  | _, _, _, _, 0, _, .som h s, e => by
    simp at e; subst e
    exact ⟨_, _, _, _, rfl, rfl, h, .non s, .refl _⟩
  | _, _, _, _, i + 1, d, .non s, e => by
    obtain ⟨m, v, f, rest, h1, h2, h3, h4, h5⟩ := s.out (i := i) (d := d) (by simpa using e)
    exact ⟨m, v, f, rest, by simpa using h1, by simpa using h2, h3, .non h4, h5⟩
  | _, _, _, _, i + 1, d, .som (fp1 := f0) h s, e => by
    obtain ⟨m, v, f, rest, h1, h2, h3, h4, h5⟩ := s.out (i := i) (d := d) (by simpa using e)
    refine ⟨m, v, f, f0 ++ rest, by simpa using h1, by simpa using h2, h3, .som h h4, ?_⟩
    have p1 : (f ++ (f0 ++ rest)).Perm (f0 ++ (f ++ rest)) := by
      rw [← List.append_assoc, ← List.append_assoc]
      exact (List.perm_append_comm).append_right _
    exact p1.trans (h5.append_left _)
/-- the arguments taken out of the slots: fc the lent lists, bs the borrowed ones -/
inductive Prep (K : PySem.W.Frag) (I H : Hp) (ms : List Md) (σ : L2.St) : List AK → List V → List D → Env → List Addr → Env → List Addr → List Addr → List Addr → Prop
  | nil {env : Env} {fp : List Addr} : Prep K I H ms σ [] [] [] env fp env fp [] []
  | sh {ks : List AK} {v : V} {vs : List V} {d : D} {ds : List D} {env env' : Env} {fp fp' fc bs : List Addr} : Rep K I v d → Prep K I H ms σ ks vs ds env fp env' fp' fc bs → Prep K I H ms σ (.sh :: ks) (v :: vs) (d :: ds) env fp env' fp' fc bs
  | ln {i : Nat} {m : Md} {ks : List AK} {v : V} {vs : List V} {d : D} {ds : List D} {env env' : Env} {fp f rest fp' fc bs : List Addr} : env[i]? = some (some d) → ms[i]? = some m → m ≠ .sh → σ[i]? = some (some v) → RepM m K I H v d f → (f ++ rest).Perm fp →
      Prep K I H ms σ ks vs ds (env.set i none) rest env' fp' fc bs → Prep K I H ms σ (.ln i :: ks) (v :: vs) (d :: ds) env fp env' fp' (f ++ fc) bs
  | bo {i : Nat} {m : Md} {ks : List AK} {v : V} {vs : List V} {d : D} {ds : List D} {env env' : Env} {fp f rest fp' fc bs : List Addr} : env[i]? = some (some d) → ms[i]? = some m → m ≠ .sh → σ[i]? = some (some v) → RepM m K I H v d f → (f ++ rest).Perm fp →
      Prep K I H ms σ ks vs ds (env.set i none) rest env' fp' fc bs → Prep K I H ms σ (.bo i :: ks) (v :: vs) (d :: ds) env fp env' fp' fc (f ++ bs)
/-- what the arguments are, told beforehand -/
inductive ArgsAt (K : PySem.W.Frag) (I : Hp) (ms : List Md) (σ : L2.St) (env : Env) : List AK → List V → List D → Prop
  | nil : ArgsAt K I ms σ env [] [] []
  | sh {ks : List AK} {v : V} {vs : List V} {d : D} {ds : List D} : Rep K I v d → ArgsAt K I ms σ env ks vs ds → ArgsAt K I ms σ env (.sh :: ks) (v :: vs) (d :: ds)
  | ln {i : Nat} {m : Md} {ks : List AK} {v : V} {vs : List V} {d : D} {ds : List D} : env[i]? = some (some d) → ms[i]? = some m → m ≠ .sh → σ[i]? = some (some v) → ArgsAt K I ms σ env ks vs ds → ArgsAt K I ms σ env (.ln i :: ks) (v :: vs) (d :: ds)
  | bo {i : Nat} {m : Md} {ks : List AK} {v : V} {vs : List V} {d : D} {ds : List D} : env[i]? = some (some d) → ms[i]? = some m → m ≠ .sh → σ[i]? = some (some v) → ArgsAt K I ms σ env ks vs ds → ArgsAt K I ms σ env (.bo i :: ks) (v :: vs) (d :: ds)
theorem nm_cons {i j : Nat} {l : List Nat} (h : i ∉ j :: l) : i ≠ j ∧ i ∉ l := by simpa using h
theorem ArgsAt.unset {i : Nat} {env : Env} : ∀ {ks : List AK} {vs : List V} {ds : List D}, ArgsAt K I ms σ env ks vs ds → i ∉ ixs ks → ArgsAt K I ms σ (env.set i none) ks vs ds
  | _, _, _, .nil, _ => .nil
  | _, _, _, .sh h r, n => .sh h (r.unset n)
  | _, _, _, .ln (i := j) h2 h3 h4 h5 r, n => .ln (by rw [List.getElem?_set_ne (nm_cons n).1]; exact h2) h3 h4 h5 (r.unset (nm_cons n).2)
  | _, _, _, .bo (i := j) h2 h3 h4 h5 r, n => .bo (by rw [List.getElem?_set_ne (nm_cons n).1]; exact h2) h3 h4 h5 (r.unset (nm_cons n).2)
theorem prep_of : ∀ {ks : List AK} {vs : List V} {ds : List D} {env : Env} {fp : List Addr}, ArgsAt K I ms σ env ks vs ds → (ixs ks).Nodup → Slots K I H ms σ env fp →
    ∃ env' fp' fc bs, Prep K I H ms σ ks vs ds env fp env' fp' fc bs ∧ Slots K I H ms σ env' fp' ∧ (fc ++ (bs ++ fp')).Perm fp
  | _, _, _, env, fp, .nil, _, s => ⟨env, fp, [], [], .nil, s, .refl _⟩
  | _, _, _, env, fp, .sh h r, nd, s => by
    obtain ⟨env', fp', fc, bs, a, b, c⟩ := prep_of r nd s
    exact ⟨env', fp', fc, bs, .sh h a, b, c⟩
  | _, _, _, env, fp, .ln (i := i) h2 h3 h4 h5 r, nd, s => by
    obtain ⟨n1, n2⟩ := List.nodup_cons.mp nd
    obtain ⟨m, v, f, rest, g1, g2, g3, g4, g5⟩ := s.out h2
    rw [h3] at g1; cases g1
    rw [h5] at g2; cases g2
    obtain ⟨env', fp', fc, bs, a1, b, c⟩ := prep_of (r.unset n1) n2 g4
    refine ⟨env', fp', f ++ fc, bs, .ln h2 h3 h4 h5 g3 g5 a1, b, ?_⟩
    rw [List.append_assoc]
    exact (c.append_left _).trans g5
  | _, _, _, env, fp, .bo (i := i) h2 h3 h4 h5 r, nd, s => by
    obtain ⟨n1, n2⟩ := List.nodup_cons.mp nd
    obtain ⟨m, v, f, rest, g1, g2, g3, g4, g5⟩ := s.out h2
    rw [h3] at g1; cases g1
    rw [h5] at g2; cases g2
    obtain ⟨env', fp', fc, bs, a1, b, c⟩ := prep_of (r.unset n1) n2 g4
    refine ⟨env', fp', fc, f ++ bs, .bo h2 h3 h4 h5 g3 g5 a1, b, ?_⟩
    have p1 : (fc ++ (f ++ bs ++ fp')).Perm (f ++ (fc ++ (bs ++ fp'))) := by
      rw [List.append_assoc, ← List.append_assoc, ← List.append_assoc f]
      exact (List.perm_append_comm).append_right _
    exact (p1.trans (c.append_left _)).trans g5
theorem RepM.pr_of {m : Md} {v : V} {d : D} {f : List Addr} (h : RepM m K I H v d f) (hm : m ≠ .sh) : RepM .pr K I H v d f := by
  cases m with
  | sh => exact absurd rfl hm
  | ow => exact h
  | pr => exact h
theorem RepM.of_pr {m : Md} {v : V} {d : D} {f : List Addr} (h : RepM .pr K I H v d f) (hm : m ≠ .sh) : RepM m K I H v d f := by
  cases m with
  | sh => exact absurd rfl hm
  | ow => exact h
  | pr => exact h
/-- the callee's slots -/
theorem Prep.callee {Ic : Hp} (e : Ext I Ic) : ∀ {ks : List AK} {vs : List V} {ds : List D} {env env' : Env} {fp fp' fc bs : List Addr}, Prep K I H ms σ ks vs ds env fp env' fp' fc bs → (∀ a ∈ bs, ∀ o, H a = some o → Ic a = some o) →
    Slots K Ic H (ks.map AK.md) (vs.map some) (ds.map some) fc
  | _, _, _, _, _, _, _, _, _, .nil, _ => .nil
  | _, _, _, _, _, _, _, _, _, .sh h r, hb => .som (fp1 := []) (m := .sh) ⟨h.mono e, rfl⟩ (r.callee e hb)
  | _, _, _, _, _, _, _, _, _, .ln h1 h2 h3 h4 h5 h6 r, hb => .som (m := .pr) ((h5.pr_of h3).move e fun p hp o ho => ho) (r.callee e hb)
  | _, _, _, _, _, _, _, _, _, .bo h1 h2 h3 h4 h5 h6 r, hb => by
    refine .som (fp1 := []) (m := .sh) ⟨?_, rfl⟩ (r.callee e fun a ha o ho => hb a (List.mem_append_right _ ha) o ho)
    rcases h5.pr_of h3 with ⟨a, b, c⟩ | ⟨a, xs, ds, rfl, rfl, h7, h8, rfl⟩
    · exact b.mono e
    · exact .lst (hb a (by simp) _ h7) (h8.mono e)
/-- what the slots hold behind the call -/
def backE : List AK → Env → Env → Env
  | .ln i :: ks, o :: fin, env => (backE ks fin env).set i o
  | .bo i :: ks, _ :: fin, env => (backE ks fin env).set i (getS env i)
  | .sh :: ks, _ :: fin, env => backE ks fin env
  | _, _, env => env
theorem getS_none : ∀ {env : Env} {i j : Nat}, i ≠ j → getS (env.set i none) j = getS env j
  | [], _, _, _ => rfl
  | o :: r, 0, 0, h => absurd rfl h
  | o :: r, 0, j + 1, h => rfl
  | o :: r, i + 1, 0, h => rfl
  | o :: r, i + 1, j + 1, h => getS_none (env := r) (i := i) (j := j) (by omega)
theorem backE_set {i : Nat} {y : Option D} : ∀ {ks : List AK} {fin env : Env}, i ∉ ixs ks → (backE ks fin (env.set i none)).set i y = (backE ks fin env).set i y
  | [], _, env, _ => by simp [backE]
  | .sh :: ks, [], env, _ => by simp [backE]
  | .ln _ :: ks, [], env, _ => by simp [backE]
  | .bo _ :: ks, [], env, _ => by simp [backE]
  | .sh :: ks, o :: fin, env, h => backE_set (ks := ks) (fin := fin) h
  | .ln j :: ks, o :: fin, env, h => by
    have hn := nm_cons h
    show ((backE ks fin (env.set i none)).set j o).set i y = ((backE ks fin env).set j o).set i y
    rw [List.set_comm _ _ (Ne.symm hn.1), backE_set hn.2, List.set_comm _ _ hn.1]
  | .bo j :: ks, o :: fin, env, h => by
    have hn := nm_cons h
    show ((backE ks fin (env.set i none)).set j (getS (env.set i none) j)).set i y = ((backE ks fin env).set j (getS env j)).set i y
    rw [getS_none hn.1, List.set_comm _ _ (Ne.symm hn.1), backE_set hn.2, List.set_comm _ _ hn.1]
theorem Slots.unset : ∀ {ms : List Md} {σ : L2.St} {env : Env} {fp : List Addr} (i : Nat), Slots K I H ms σ env fp → ∃ fp', Slots K I H ms σ (env.set i none) fp' ∧ fp'.Sublist fp
  | _, _, _, _, _, .nil => ⟨[], .nil, .slnil⟩
  | _, _, _, fp, 0, .non s => ⟨fp, .non s, .refl _⟩
  | _, _, _, _, 0, .som (fp := fp) h s => ⟨fp, .non s, List.sublist_append_right _ _⟩
  | _, _, _, _, i + 1, .non s => by
    obtain ⟨fp', a, b⟩ := s.unset i
    exact ⟨fp', .non a, b⟩
  | _, _, _, _, i + 1, .som h s => by
    obtain ⟨fp', a, b⟩ := s.unset i
    exact ⟨_, .som h a, b.append_left _⟩
/-- a slot is filled again -/
theorem Slots.fill {i : Nat} {m : Md} {v : V} {d : D} {f fp : List Addr} {env : Env} (s : Slots K I H ms σ env fp) (h2 : ms[i]? = some m) (h4 : σ[i]? = some (some v)) (q : RepM m K I H v d f) (nd : (f ++ fp).Nodup) :
    ∃ fp', Slots K I H ms σ (env.set i (some d)) fp' ∧ fp'.Nodup ∧ ∀ p ∈ fp', p ∈ f ∨ p ∈ fp := by
  have hlt : i < ms.length := (List.getElem?_eq_some_iff.mp h2).1
  obtain ⟨fp', a, b, c⟩ := Slots.put q s hlt nd
  rw [set_id h2, set_id h4] at a
  exact ⟨fp', a, b, c⟩
/-- .. and that the callee left it so -/
theorem Prep.back {I' H' : Hp} : ∀ {ks : List AK} {vs : List V} {ds : List D} {env env' fin : Env} {fp fp' fc bs fc' : List Addr}, Prep K I H ms σ ks vs ds env fp env' fp' fc bs → (ixs ks).Nodup →
    Slots K I' H' (ks.map AK.md) (vs.map some) fin fc' → Slots K I' H' ms σ env' fp' → (fc' ++ (bs ++ fp')).Nodup → Ext I I' → (∀ a ∈ bs, ∀ o, H a = some o → H' a = some o) →
    ∃ fpn, Slots K I' H' ms σ (backE ks fin env) fpn ∧ fpn.Nodup ∧ ∀ p ∈ fpn, p ∈ fc' ∨ p ∈ bs ∨ p ∈ fp'
  | _, _, _, env, _, _, fp, _, _, _, _, .nil, _, .nil, s, nd, e, hb => ⟨fp, s, by simpa using nd, fun p hp => .inr (.inr hp)⟩
  | _, _, _, _, _, _, _, _, _, _, _, .sh h r, n, .non c, s, nd, e, hb => r.back n c s nd e hb
  | _, _, _, _, _, _, _, _, _, _, _, .sh h r, n, .som (fp1 := f0) q c, s, nd, e, hb => by
    obtain ⟨_, rfl⟩ := (show Rep K I' _ _ ∧ f0 = [] from q)
    exact r.back n c s (by simpa using nd) e hb
  | _, _, _, env, _, _, _, _, _, _, _, .ln (i := i) h1 h2 h3 h4 h5 h6 r, n, .non (fp := fcr) c, s, nd, e, hb => by
    obtain ⟨n1, n2⟩ := List.nodup_cons.mp n
    obtain ⟨fpn, a, b, d⟩ := r.back n2 c s nd e hb
    obtain ⟨fp2, a2, b2⟩ := a.unset i
    rw [backE_set n1] at a2
    exact ⟨fp2, a2, b.sublist b2, fun p hp => d p (b2.subset hp)⟩
  | _, _, _, env, _, _, _, _, _, _, _, .ln (i := i) h1 h2 h3 h4 h5 h6 r, n, .som (fp1 := f0) (fp := fcr) q c, s, nd, e, hb => by
    obtain ⟨n1, n2⟩ := List.nodup_cons.mp n
    rw [List.append_assoc] at nd
    obtain ⟨m1, m2, m3⟩ := List.nodup_append.mp nd
    obtain ⟨fpn, a, b, d⟩ := r.back n2 c s m2 e hb
    have nd3 : (f0 ++ fpn).Nodup := List.nodup_append.mpr ⟨m1, b, fun x hx y hy => m3 x hx y (by
      rcases d y hy with z | z | z
      · exact List.mem_append_left _ z
      · exact List.mem_append_right _ (List.mem_append_left _ z)
      · exact List.mem_append_right _ (List.mem_append_right _ z))⟩
    obtain ⟨fp2, a2, b2, d2⟩ := a.fill h2 h4 (q.of_pr h3) nd3
    rw [backE_set n1] at a2
    refine ⟨fp2, a2, b2, fun p hp => ?_⟩
    rcases d2 p hp with z | z
    · exact .inl (List.mem_append_left _ z)
    · exact (d p z).imp_left (List.mem_append_right _)
  | _, _, _, env, _, _, _, _, _, _, _, .bo (i := i) (f := f0) (bs := bsr) (fp' := fpr) (vs := vsr) (ks := ksr) h1 h2 h3 h4 h5 h6 r, n, c0, s, nd, e, hb => by
    obtain ⟨n1, n2⟩ := List.nodup_cons.mp n
    have hg := getS_iff.mpr h1
    have go : ∀ {fin0 : Env} {fcr : List Addr}, Slots K I' H' (ksr.map AK.md) (vsr.map some) fin0 fcr → (fcr ++ (f0 ++ bsr ++ fpr)).Nodup → ∃ fpn : List Addr, Slots K I' H' ms σ ((backE ksr fin0 env).set i (getS env i)) fpn ∧ fpn.Nodup ∧ ∀ p ∈ fpn, p ∈ fcr ∨ p ∈ f0 ++ bsr ∨ p ∈ fpr := by
      intro fin0 fcr c nd
      have nd' : (f0 ++ (fcr ++ (bsr ++ fpr))).Nodup := by
        refine List.Perm.nodup_iff ?_ |>.mp nd
        rw [List.append_assoc, ← List.append_assoc, ← List.append_assoc f0]
        exact (List.perm_append_comm).append_right _
      obtain ⟨m1, m2, m3⟩ := List.nodup_append.mp nd'
      obtain ⟨fpn, a, b, d⟩ := r.back n2 c s m2 e fun p hp o ho => hb p (List.mem_append_right _ hp) o ho
      have nd3 : (f0 ++ fpn).Nodup := List.nodup_append.mpr ⟨m1, b, fun x hx y hy => m3 x hx y (by
        rcases d y hy with z | z | z
        · exact List.mem_append_left _ z
        · exact List.mem_append_right _ (List.mem_append_left _ z)
        · exact List.mem_append_right _ (List.mem_append_right _ z))⟩
      obtain ⟨fp2, a2, b2, d2⟩ := a.fill h2 h4 (h5.move e fun p hp o ho => hb p (List.mem_append_left _ hp) o ho) nd3
      rw [backE_set n1] at a2
      refine ⟨fp2, by rw [hg]; exact a2, b2, fun p hp => ?_⟩
      rcases d2 p hp with z | z
      · exact .inr (.inl (List.mem_append_left _ z))
      · rcases d p z with y | y | y
        · exact .inl y
        · exact .inr (.inl (List.mem_append_right _ y))
        · exact .inr (.inr y)
    cases c0 with
    | non c => exact go c nd
    | som q c =>
      obtain ⟨_, rfl⟩ := (show Rep K I' _ _ ∧ _ = [] from q)
      exact go c nd
end
end DI
set_option Elab.async false
set_option autoImplicit false
set_option linter.all false
set_option maxRecDepth 100000
set_option maxHeartbeats 2000000
/-! DI6: a def's promise; a call's reading. -/
namespace DI
open PySem PySem.Spec PyProof.Rows L2
def D.atom : D → Bool
  | .lst _ => false
  | .tup _ => false
  | .dic _ _ => false
  | .scr _ => false
  | _ => true
/-- what comes does not lean on a borrowed list -/
def flatB (ro : Md) : D → Bool
  | .lst ds => decide (ro = .ow) && ds.all D.atom
  | .tup ds => ds.all D.atom
  | .dic _ _ => false
  | .scr _ => false
  | _ => true
def noBo : List AK → Bool
  | [] => true
  | .bo _ :: _ => false
  | _ :: ks => noBo ks
def finOk : List AK → Env → Bool
  | .ln _ :: ks, o :: fin => (match o with
    | none => true
    | some d => flatB .ow d) && finOk ks fin
  | _ :: ks, o :: fin => (match o with
    | none => true
    | some _ => false) && finOk ks fin
  | _, _ => true
def flatR (ro : Md) : Except Exn D → Bool
  | .ok d => flatB ro d
  | .error e => e.fs.all fun q => q.2.atom
def okBo (ks : List AK) (ro : Md) (r : Except Exn D) (fin : Env) : Bool := noBo ks || (flatR ro r && finOk ks fin)
section
variable {K : PySem.W.Frag} {mg : Str → Option Value} {I I' H H' : Hp} {ms : List Md} {σ : L2.St}
theorem Rep.atom {v : V} {d : D} (h : Rep K I v d) (a : d.atom = true) : Rep K I' v d := by
  cases h with
  | non => exact .non
  | bl b => exact .bl b
  | int b => exact .int b
  | str b => exact .str b
  | sta b => exact .sta b
  | ty b => exact .ty b
  | _ => cases a
theorem Reps.atoms : ∀ {vs : List V} {ds : List D}, Reps K I vs ds → ds.all D.atom = true → Reps K I' vs ds
  | _, _, .nil, _ => .nil
  | _, _, .cons h r, a => by
    rw [List.all_cons, Bool.and_eq_true] at a
    exact .cons (h.atom a.1) (r.atoms a.2)
theorem RepM.flat {ro : Md} {v : V} {d : D} {f : List Addr} (h : RepM ro K I H v d f) (a : flatB ro d = true) (t : ∀ p xs, SqT K I p xs → SqT K I' p xs) : RepM ro K I' H v d f := by
  have nl : d.nl = true → Rep K I v d → Rep K I' v d := fun hn r => by
    cases r with
    | lst h1 r => cases hn
    | tup h1 r =>
      have a' : List.all _ D.atom = true := a
      exact .tup (t _ _ h1) (r.atoms a')
    | dic h l r => cases a
    | scr h => cases a
    | non => exact .non
    | bl b => exact .bl b
    | int b => exact .int b
    | str b => exact .str b
    | sta b => exact .sta b
    | ty b => exact .ty b
  have go : ((d.nl = true ∧ Rep K I v d ∧ f = []) ∨ ∃ a xs ds, v = .ref a ∧ d = .lst ds ∧ H a = some (.lst xs) ∧ Reps K I xs ds ∧ f = [a]) → (d.nl = true ∧ Rep K I' v d ∧ f = []) ∨ ∃ a xs ds, v = .ref a ∧ d = .lst ds ∧ H a = some (.lst xs) ∧ Reps K I' xs ds ∧ f = [a] := by
    rintro (⟨a1, b, c⟩ | ⟨p, xs, ds, rfl, rfl, h1, h2, rfl⟩)
    · exact .inl ⟨a1, nl a1 b, c⟩
    · have a2 : (decide (ro = .ow) && ds.all D.atom) = true := a
      rw [Bool.and_eq_true] at a2
      exact .inr ⟨p, xs, ds, rfl, rfl, h1, h2.atoms a2.2, rfl⟩
  cases ro with
  | sh =>
    refine ⟨?_, h.2⟩
    cases hd : d.nl with
    | true => exact nl hd h.1
    | false =>
      cases d with
      | lst ds =>
        have a2 : (decide (Md.sh = .ow) && ds.all D.atom) = true := a
        cases a2
      | _ => cases hd
  | ow => exact go h
  | pr => exact go h
theorem Slots.flat (t : ∀ p xs, SqT K I p xs → SqT K I' p xs) : ∀ {ks : List AK} {vs : List V} {fin : Env} {fp : List Addr}, Slots K I H (ks.map AK.md) (vs.map some) fin fp → finOk ks fin = true → Slots K I' H (ks.map AK.md) (vs.map some) fin fp
  | [], [], _, _, .nil, _ => .nil
  | .sh :: ks, v :: vs, _, _, .non s, a => .non (s.flat t (by simpa [finOk] using a))
  | .bo _ :: ks, v :: vs, _, _, .non s, a => .non (s.flat t (by simpa [finOk] using a))
  | .ln _ :: ks, v :: vs, _, _, .non s, a => .non (s.flat t (by simpa [finOk] using a))
  | .sh :: ks, v :: vs, _, _, .som h s, a => by simp [finOk] at a
  | .bo _ :: ks, v :: vs, _, _, .som h s, a => by simp [finOk] at a
  | .ln _ :: ks, v :: vs, _, _, .som h s, a => by
    have a2 : (flatB .ow _ && finOk ks _) = true := a
    rw [Bool.and_eq_true] at a2
    refine .som (m := .pr) ?_ (s.flat t a2.2)
    exact (RepM.flat (ro := .ow) (h.of_pr (by decide)) a2.1 t).pr_of (by decide)
theorem Prep.bs_nil {env env' : Env} : ∀ {ks : List AK} {vs : List V} {ds : List D} {env env' : Env} {fp fp' fc bs : List Addr}, Prep K I H ms σ ks vs ds env fp env' fp' fc bs → noBo ks = true → bs = []
  | _, _, _, _, _, _, _, _, _, .nil, _ => rfl
  | _, _, _, _, _, _, _, _, _, .sh h r, a => r.bs_nil (env := env) (env' := env') a
  | _, _, _, _, _, _, _, _, _, .ln h1 h2 h3 h4 h5 h6 r, a => r.bs_nil (env := env) (env' := env') a
  | _, _, _, _, _, _, _, _, _, .bo h1 h2 h3 h4 h5 h6 r, a => by cases a
/-! ### the promise -/
abbrev FnD := List D → Option (Except Exn D × Env)
def spF (K : PySem.W.Frag) (mg : Str → Option Value) (pm : List Md) (ro : Md) (F : FnD) : Sp := fun vs H Q E => ∃ I ds fp, St K pm I (vs.map some) (ds.map some) H fp ∧ ∃ r fin, F ds = some (r, fin) ∧
  (∀ d, r = .ok d → ∀ v H' I' fp' fv, St K pm I' (vs.map some) fin H' fp' → Step I H fp I' H' (fv ++ fp') → RepM ro K I' H' v d fv → (fv ++ fp').Nodup → (∀ p ∈ fv, I' p = none) → Q v H') ∧
  (∀ e, r = .error e → ∀ c dd H' I' fp', St K pm I' (vs.map some) fin H' fp' → Step I H fp I' H' fp' → ExcIs K mg I' e c dd → E c dd H')
theorem call_ok {W : WX} {ro : Md} {F : FnD} {ks : List AK} {pvs : List V} {pds : List D} {env fin : Env} {fp : List Addr} {r : Except Exn D} {Q : VK} (s : St K ms I σ env H fp) (ha : ArgsAt K I ms σ env ks pvs pds) (hn : (ixs ks).Nodup)
    (hF : F pds = some (r, fin)) (ho : okBo ks ro r fin = true)
    (q : ∀ d, r = .ok d → ∀ v H' I' fp' fv, St K ms I' σ (backE ks fin env) H' fp' → Step I H fp I' H' (fv ++ fp') → RepM ro K I' H' v d fv → (fv ++ fp').Nodup → (∀ p ∈ fv, I' p = none) → Q v H')
    (b : ∀ e, r = .error e → Bad K mg ms I σ H fp W e (backE ks fin env)) : spF K mg (ks.map AK.md) ro F pvs H Q (fun c dd H' => W c dd σ H') := by
  obtain ⟨env', fpr, fc, bs, P, sr, perm⟩ := prep_of ha hn s.sl
  have nd1 : (fc ++ (bs ++ fpr)).Nodup := perm.nodup_iff.mpr s.nd
  obtain ⟨n1, n2, n3⟩ := List.nodup_append.mp nd1
  obtain ⟨n4, n5, n6⟩ := List.nodup_append.mp n2
  have mfc : ∀ p ∈ fc, p ∈ fp := fun p hp => perm.mem_iff.mp (List.mem_append_left _ hp)
  have mbs : ∀ p ∈ bs, p ∈ fp := fun p hp => perm.mem_iff.mp (List.mem_append_right _ (List.mem_append_left _ hp))
  have mfr : ∀ p ∈ fpr, p ∈ fp := fun p hp => perm.mem_iff.mp (List.mem_append_right _ (List.mem_append_right _ hp))
  have tr : ∀ p ∈ fp, ∃ xs, H p = some (.lst xs) := s.sl.there
  generalize hIc : (fun a => if a ∈ bs then H a else I a : Hp) = Ic
  have icb : ∀ a, a ∈ bs → Ic a = H a := fun a h => by rw [← hIc]; exact if_pos h
  have icn : ∀ a, a ∉ bs → Ic a = I a := fun a h => by rw [← hIc]; exact if_neg h
  have eI : Ext I Ic := fun a o h => by
    by_cases hb : a ∈ bs
    · rw [s.off a (mbs a hb)] at h; cases h
    · rw [icn a hb]; exact h
  have eH : Ext Ic H := fun a o h => by
    by_cases hb : a ∈ bs
    · rw [icb a hb] at h; exact h
    · rw [icn a hb] at h; exact s.ext a o h
  have sc : St K (ks.map AK.md) Ic (pvs.map some) (pds.map some) H fc := ⟨eH, n1, fun p hp => by
    rw [icn p fun z => n3 p hp p (List.mem_append_left _ z) rfl]; exact s.off p (mfc p hp), P.callee eI fun a h o ho => by rw [icb a h]; exact ho⟩
  -- behind the call
  have back : ∀ (H' Ic' : Hp) (fc' fv : List Addr), St K (ks.map AK.md) Ic' (pvs.map some) fin H' fc' → Step Ic H fc Ic' H' (fv ++ fc') → (fv ++ fc').Nodup → (∀ p ∈ fv, Ic' p = none) → (noBo ks = true ∨ finOk ks fin = true) →
      ∃ I' fpn, St K ms I' σ (backE ks fin env) H' fpn ∧ Step I H fp I' H' (fv ++ fpn) ∧ (fv ++ fpn).Nodup ∧ (∀ p ∈ fv, I' p = none) ∧ (∀ p xs, SqT K Ic' p xs → SqT K I' p xs) ∧ (noBo ks = true → I' = Ic') ∧ (∀ a, a ∉ bs → I' a = Ic' a) ∧ (∀ a ∈ bs, ∃ xs, Ic' a = some (.lst xs)) := by
    intro H' Ic' fc' fv s' t nd' off' hfl
    have kb : ∀ a ∈ bs, ∀ o, H a = some o → H' a = some o := fun a h o ho => t.keep a o ho fun z => n3 a z a (List.mem_append_left _ h) rfl
    have icb' : ∀ a ∈ bs, ∃ xs, Ic' a = some (.lst xs) := fun a h => by
      obtain ⟨xs, hx⟩ := tr a (mbs a h)
      exact ⟨xs, t.ext a _ (by rw [icb a h]; exact hx)⟩
    generalize hI' : (fun a => if a ∈ bs then none else Ic' a : Hp) = I'
    have ib : ∀ a, a ∈ bs → I' a = none := fun a h => by rw [← hI']; exact if_pos h
    have inn : ∀ a, a ∉ bs → I' a = Ic' a := fun a h => by rw [← hI']; exact if_neg h
    have e1 : Ext I I' := fun a o h => by
      have hb : a ∉ bs := fun z => by rw [s.off a (mbs a z)] at h; cases h
      rw [inn a hb]
      exact t.ext a o (eI a o h)
    have e2 : Ext I' Ic' := fun a o h => by
      by_cases hb : a ∈ bs
      · rw [ib a hb] at h; cases h
      · rw [inn a hb] at h; exact h
    have tt : ∀ p xs, SqT K Ic' p xs → SqT K I' p xs := fun p xs h => by
      have nb : ∀ o, Ic' p = some o → (∀ ys, o ≠ .lst ys) → p ∉ bs := fun o h1 h2 z => by
        obtain ⟨ys, hy⟩ := icb' p z
        rw [h1] at hy; cases hy; exact h2 ys rfl
      rcases h with (h | ⟨o, h⟩) | h
      · exact .inl (.inl (by rw [inn p (nb _ h fun ys z => by cases z)]; exact h))
      · exact .inl (.inr ⟨o, by rw [inn p (nb _ h fun ys z => by cases z)]; exact h⟩)
      · exact .inr h
    have same : noBo ks = true → I' = Ic' := fun h => by
      have e := P.bs_nil (env := env) (env' := env') h
      funext a
      exact inn a (by rw [e]; simp)
    have sfin : Slots K I' H' (ks.map AK.md) (pvs.map some) fin fc' := by
      rcases hfl with h | h
      · rw [same h]; exact s'.sl
      · exact s'.sl.flat tt h
    have ownc : ∀ p ∈ fv ++ fc', p ∈ fc ∨ H p = none := t.own
    have apart : ∀ p ∈ fv ++ fc', p ∉ bs ∧ p ∉ fpr := fun p hp => by
      rcases ownc p hp with z | z
      · exact ⟨fun y => n3 p z p (List.mem_append_left _ y) rfl, fun y => n3 p z p (List.mem_append_right _ y) rfl⟩
      · refine ⟨fun y => ?_, fun y => ?_⟩
        · obtain ⟨xs, hx⟩ := tr p (mbs p y); rw [z] at hx; cases hx
        · obtain ⟨xs, hx⟩ := tr p (mfr p y); rw [z] at hx; cases hx
    obtain ⟨d1, d2, d3⟩ := List.nodup_append.mp nd'
    have ndb : (fc' ++ (bs ++ fpr)).Nodup := List.nodup_append.mpr ⟨d2, n2, fun x hx y hy e => by
      have := apart x (List.mem_append_right _ hx)
      rcases List.mem_append.mp hy with z | z
      · exact this.1 (e ▸ z)
      · exact this.2 (e ▸ z)⟩
    obtain ⟨fpn, w1, w2, w3⟩ := P.back hn sfin (sr.move e1 fun p hp o ho => t.keep p o ho fun z => n3 p z p (List.mem_append_right _ hp) rfl) ndb e1 kb
    have nfr : ∀ p ∈ fpr, Ic' p = none := fun p hp => by
      cases z : Ic' p with
      | none => rfl
      | some o =>
        exfalso
        rcases t.gr p (by rw [z]; simp) with y | y | y
        · rw [icn p fun w => n6 p w p hp rfl, s.off p (mfr p hp)] at y; exact y rfl
        · exact n3 p y p (List.mem_append_right _ hp) rfl
        · obtain ⟨xs, hx⟩ := tr p (mfr p hp); rw [y] at hx; cases hx
    have offn : ∀ p, p ∈ fc' ∨ p ∈ bs ∨ p ∈ fpr → I' p = none := fun p hp => by
      by_cases hb : p ∈ bs
      · exact ib p hb
      · rw [inn p hb]
        rcases hp with z | z | z
        · exact s'.off p z
        · exact absurd z hb
        · exact nfr p z
    refine ⟨I', fpn, ⟨e2.trans s'.ext, w2, fun p hp => offn p (w3 p hp), w1⟩, ⟨e1, fun c o h hc => t.keep c o h fun z => hc (mfc c z), fun p hp => ?_, fun c hc => ?_⟩, ?_, fun p hp => ?_, tt, same, inn, icb'⟩
    · rcases List.mem_append.mp hp with z | z
      · exact (ownc p (List.mem_append_left _ z)).imp_left (mfc p)
      · rcases w3 p z with y | y | y
        · exact (ownc p (List.mem_append_right _ y)).imp_left (mfc p)
        · exact .inl (mbs p y)
        · exact .inl (mfr p y)
    · by_cases hb : c ∈ bs
      · exact .inr (.inl (mbs c hb))
      · rw [inn c hb] at hc
        rcases t.gr c hc with z | z | z
        · rw [icn c hb] at z; exact .inl z
        · exact .inr (.inl (mfc c z))
        · exact .inr (.inr z)
    · refine List.nodup_append.mpr ⟨d1, w2, fun x hx y hy e => ?_⟩
      subst e
      rcases w3 x hy with z | z | z
      · exact d3 x hx x z rfl
      · exact (apart x (List.mem_append_left _ hx)).1 z
      · exact (apart x (List.mem_append_left _ hx)).2 z
    · rw [inn p (apart p (List.mem_append_left _ hp)).1]; exact off' p hp
  have ho2 : noBo ks = true ∨ (flatR ro r = true ∧ finOk ks fin = true) := by
    unfold okBo at ho
    rw [Bool.or_eq_true, Bool.and_eq_true] at ho
    exact ho
  have hfl : noBo ks = true ∨ finOk ks fin = true := ho2.imp_right And.right
  refine ⟨Ic, pds, fc, sc, r, fin, hF, fun d hr v H' Ic' fc' fv s' t rv nd' off' => ?_, fun e hr c dd H' Ic' fc' s' t x => ?_⟩
  · obtain ⟨I', fpn, w1, w2, w3, w4, w5, w6, w7, w8⟩ := back H' Ic' fc' fv s' t nd' off' hfl
    refine q d hr v H' I' fpn fv w1 w2 ?_ w3 w4
    rcases ho2 with z | ⟨z, _⟩
    · rw [w6 z]; exact rv
    · subst hr
      exact rv.flat z w5
  · obtain ⟨I', fpn, w1, w2, w3, w4, w5, w6, w7, w8⟩ := back H' Ic' fc' [] s' t s'.nd (fun p hp => by cases hp) hfl
    refine b e hr c dd H' I' fpn w1 w2 ?_
    rcases ho2 with z | ⟨z, _⟩
    · rw [w6 z]; exact x
    · subst hr
      obtain ⟨x1, x2⟩ := x
      refine ⟨x1, ?_⟩
      cases dd with
      | none => exact x2
      | some a =>
        obtain ⟨vs, h1, h2⟩ := x2
        have na : a ∉ bs := fun y => by
          obtain ⟨ys, hy⟩ := w8 a y
          rw [h1] at hy; cases hy
        exact ⟨vs, by rw [w7 a na]; exact h1, h2.atoms (by rw [List.all_map]; exact z)⟩
end
end DI
set_option Elab.async false
set_option autoImplicit false
set_option linter.all false
set_option maxRecDepth 100000
set_option maxHeartbeats 2000000
/-! DI7: the def's own rule, calls by name. -/
namespace DI
open PySem PySem.Spec PyProof.Rows L2
/-- what is known of where a def runs: nothing is being shown; the table of modules lies low -/
structure Amb (A : Around) (base : Heap) : Prop where
  guards : A.guards = some []
  low : sysModules < base.objs.size
structure FnG (P : Program) (w : World) (K : PySem.W.Frag) (mg : Str → Option Value) (base : Heap) (k : Nat) (f : Addr) (fd : FuncData) (ps : List Str) (sp : Sp) : Prop where
  len : ∀ vs H Q E, sp vs H Q E → vs.length = ps.length
  run : ∀ (A : Around) (outer : List PySem.Env) (s : Shared) (H : Hp) (args : Args) (us : List Value) (vs : List V) (Q : VK) (E : XK), Room k A → Amb A base → Env0 P w K mg base A outer s H →
    BindsTo s fd args (ps.zip us) → Vals vs us → sp vs H Q E → codeAny (model P w) A (.call (.ref f) args) (CR (L2.CX P w) outer P w H s Q E) s
def sel {α : Type} (perm : List Nat) (l : List α) : List α := perm.filterMap fun i => l[i]?
theorem Vals.sel {vs : List V} {us : List Value} (r : Vals vs us) : ∀ perm : List Nat, Vals (sel perm vs) (sel perm us)
  | [] => .nil
  | i :: p => by
    unfold DI.sel
    rw [List.filterMap_cons, List.filterMap_cons]
    cases h : vs[i]? with
    | none => rw [r.none_of h]; exact Vals.sel r p
    | some v =>
      obtain ⟨u, h1, h2⟩ := r.get h
      rw [h1]
      exact .cons h2 (Vals.sel r p)
/-- how a call of this shape binds: n values by place, the keywords ks, the defaults dvs -/
structure CallB (K : PySem.W.Frag) (fd : FuncData) (ps : List Str) (n : Nat) (ks : List Str) (perm : List Nat) (dvs : List V) : Prop where
  ex : ∃ dus, Vals dvs dus ∧ ∀ (s : Shared) (us ws : List Value), K.In s.heap → us.length = n → ws.length = ks.length → BindsTo s fd ⟨us, ks.zip ws⟩ (ps.zip (sel perm (us ++ ws ++ dus)))
section
variable {X : Cx} {k n : Nat} {f : Addr} {fd : FuncData} {ps ks : List Str} {sp : Sp} {perm : List Nat} {dvs : List V} {x : Str} {p pos : Pos} {e : Expr} {es : List Expr} {kws : List Keyword} {t tk : TA} {W : WX}
theorem run_g {pins : List (Addr × Obj)} {σ : L2.St} {H : Hp} {s : Shared} {Q : VK} {us ws : List Value} {vs zs : List V} (F : FnG X.prog X.w X.K X.mg X.base k f fd ps sp) (hr : Room k X.A) (am : Amb X.A X.base) (hb : CallB X.K fd ps n ks perm dvs)
    (tk : Takes X W) (I : Inv X pins σ H s) (r : Vals vs us) (rz : Vals zs ws) (hn : us.length = n) (hk : ws.length = ks.length) (h : sp (sel perm (vs ++ zs ++ dvs)) H Q (fun c d H' => W c d σ H')) :
    wpAny (model X.prog X.w) X.A (call (.ref f) us (ks.zip ws)) (EP X pins σ Q) X.xe s := by
  obtain ⟨dus, rd, hb⟩ := hb.ex
  have r2 : Vals (sel perm (vs ++ zs ++ dvs)) (sel perm (us ++ ws ++ dus)) := Vals.sel ((r.append rz).append rd) perm
  refine wpAny_call (codeAny_mono (F.run X.A X.stack s H ⟨us, ks.zip ws⟩ _ _ Q _ hr am I.env0 (hb s us ws I.kIn hn hk) r2 h) fun q s' hq => ?_)
  cases q with
  | error ev => exact tk ev s' (XE.of_call I (fun _ _ _ h => h) hq)
  | ok fl =>
    cases fl with
    | ret u => exact I.after hq
    | next => exact False.elim hq
    | brk => exact False.elim hq
    | cont => exact False.elim hq
def tG (sp : Sp) (n m : Nat) (perm : List Nat) (dvs : List V) (W : WX) (t tk : TA) : TE := fun σ H Q => t σ H fun vs H1 => tk σ H1 fun zs H2 => vs.length = n ∧ zs.length = m ∧ sp (sel perm (vs ++ zs ++ dvs)) H2 Q (fun c d H' => W c d σ H')
theorem pe_g (F : FnG X.prog X.w X.K X.mg X.base k f fd ps sp) (hr : Room k X.A) (am : Amb X.A X.base) (hb : CallB X.K fd ps n [] perm dvs) (ht : Takes X W) (hg : Gl X x) (hm : X.mg x = some (.ref f)) (hk : PySem.W.keepIn X.K (.ref f) = true)
    (ha : PA X (e :: es) t) (hdb : (x == ("__debug__" : Str)) = false) (he : starEach (e :: es) X.env = (false, eval e X.env) :: starEach es X.env) (hpl : (backTo pos (starEach es X.env)).any (·.1) = false) :
    PE X (.Call (.Name x p) (e :: es) [] pos) (tG sp n 0 perm dvs W t tNil) := by
  refine ⟨fun pins s σ H Q I h => ?_⟩
  refine wpAny_Call_Name_kw (ld_glob I hg hm ?_ hdb)
  refine PySem.W.callWith_K (h₀ := X.base) I.ok.mod.kin hk (thn (ha.run pos pins s σ H _ I h) fun us s1 ⟨vs, H1, I1, r, n1, n2, q⟩ => ⟨I1.kIn, ?_⟩) he hpl
  exact run_g (ws := []) (zs := []) F hr am hb ht I1 r .nil (by show us.length = n; rw [← r.length]; exact n1) rfl q
theorem pe_g0 (F : FnG X.prog X.w X.K X.mg X.base k f fd ps sp) (hr : Room k X.A) (am : Amb X.A X.base) (hb : CallB X.K fd ps n [] perm dvs) (ht : Takes X W) (hg : Gl X x) (hm : X.mg x = some (.ref f)) (hk : PySem.W.keepIn X.K (.ref f) = true)
    (hdb : (x == ("__debug__" : Str)) = false) : PE X (.Call (.Name x p) [] [] pos) (tG sp n 0 perm dvs W tNil tNil) := by
  refine ⟨fun pins s σ H Q I h => ?_⟩
  refine wpAny_Call_Name_kw (ld_glob I hg hm ?_ hdb)
  obtain ⟨n1, n2, q⟩ := h
  exact PySem.W.callWith_K0 I.kIn hk (run_g (us := []) (vs := []) (ws := []) (zs := []) F hr am hb ht I .nil .nil n1 rfl q)
theorem pe_gK (F : FnG X.prog X.w X.K X.mg X.base k f fd ps sp) (hr : Room k X.A) (am : Amb X.A X.base) (hb : CallB X.K fd ps n ks perm dvs) (ht : Takes X W) (hg : Gl X x) (hm : X.mg x = some (.ref f)) (hk : PySem.W.keepIn X.K (.ref f) = true)
    (ha : PA X (e :: es) t) (hkw : PK X kws tk) (hall : (backToKw pos (keywordEach kws X.env)).all (·.1.isSome) = true) (hks : (backToKw pos (keywordEach kws X.env)).filterMap (·.1) = ks)
    (hdb : (x == ("__debug__" : Str)) = false) (he : starEach (e :: es) X.env = (false, eval e X.env) :: starEach es X.env)
    (hpl : ((backTo pos (starEach (e :: es) X.env)).any (·.1) || (backToKw pos (keywordEach kws X.env)).any (·.1.isNone)) = false) :
    PE X (.Call (.Name x p) (e :: es) kws pos) (tG sp n ks.length perm dvs W t tk) := by
  refine ⟨fun pins s σ H Q I h => ?_⟩
  refine wpAny_Call_Name_kw (ld_glob I hg hm ?_ hdb)
  refine PySem.W.callWith_KW (h₀ := X.base) I.ok.mod.kin hk hall (thn (ha.run pos pins s σ H _ I h) fun us s1 ⟨vs, H1, I1, r, q⟩ => ?_) hpl he
  refine thn (hkw.run pos pins s1 σ H1 _ I1 q) fun ws s2 ⟨zs, H2, I2, rz, n1, n2, q2⟩ => ⟨I2.kIn, ?_⟩
  rw [hks]
  exact run_g F hr am hb ht I2 r rz (by show us.length = n; rw [← r.length]; exact n1) (by rw [← rz.length]; exact n2) q2
theorem pe_gK0 (F : FnG X.prog X.w X.K X.mg X.base k f fd ps sp) (hr : Room k X.A) (am : Amb X.A X.base) (hb : CallB X.K fd ps n ks perm dvs) (ht : Takes X W) (hg : Gl X x) (hm : X.mg x = some (.ref f)) (hk : PySem.W.keepIn X.K (.ref f) = true)
    (hkw : PK X kws tk) (hall : (backToKw pos (keywordEach kws X.env)).all (·.1.isSome) = true) (hks : (backToKw pos (keywordEach kws X.env)).filterMap (·.1) = ks)
    (hdb : (x == ("__debug__" : Str)) = false) (hpl : ((backTo pos (starEach [] X.env)).any (·.1) || (backToKw pos (keywordEach kws X.env)).any (·.1.isNone)) = false) :
    PE X (.Call (.Name x p) [] kws pos) (tG sp n ks.length perm dvs W tNil tk) := by
  refine ⟨fun pins s σ H Q I h => ?_⟩
  refine wpAny_Call_Name_kw (ld_glob I hg hm ?_ hdb)
  refine PySem.W.callWith_KW0 (h₀ := X.base) I.ok.mod.kin hk hall (thn (hkw.run pos pins s σ H _ I h) fun ws s2 ⟨zs, H2, I2, rz, n1, n2, q2⟩ => ⟨I2.kIn, ?_⟩) hpl
  rw [hks]
  exact run_g (us := []) (vs := []) F hr am hb ht I2 .nil rz n1 (by rw [← rz.length]; exact n2) q2
end
/-! ### the operands of keywords -/
inductive DKs (X : Cx) (ms : List Md) : List Keyword → List Opd → Prop
  | nil : DKs X ms [] []
  | cons {nm : Option Str} {e : Expr} {kp : Pos} {kws : List Keyword} {o : Opd} {os : List Opd} : DO X ms e o → DKs X ms kws os → DKs X ms (⟨nm, e, kp⟩ :: kws) (o :: os)
theorem DKs.pk {X : Cx} {ms : List Md} {kws : List Keyword} {os : List Opd} {W : WX} (h : DKs X ms kws os) (tk : Takes X W) : PK X kws (tOs X.K X.mg ms W os) := by
  induction h with
  | nil => exact pk_nil
  | cons h1 _ ih => exact pk_cons (h1.pe tk) ih
/-! ### a call's meaning -/
def callOut (x : Option (Except Exn D × Env)) (kinds : List AK) (ro : Md) (e : Env) : Out D := match x with
  | none => none
  | some (r, fin) => if okBo kinds ro r fin = true then some (r, backE kinds fin e) else none
def cCall (F : FnD) (kinds : List AK) (ro : Md) (perm : List Nat) (dds : List D) (os : List Opd) : CE := fun env => mbind (evalOs os env) fun ds e => callOut (F (sel perm (ds ++ dds))) kinds ro e
def isOwn (ms : List Md) (i : Nat) : Bool := match ms[i]? with
  | some .sh => false
  | none => false
  | _ => true
def argOk (ms : List Md) (os : List Opd) (k : AK) (p : Nat) : Bool := match os[p]?, k with
  | some (.tm _), .sh => true
  | some (.vr i), .ln j => decide (i = j) && isOwn ms i
  | some (.vr i), .bo j => decide (i = j) && isOwn ms i
  | none, .sh => true
  | _, _ => false
theorem isOwn_some {ms : List Md} {i : Nat} (h : isOwn ms i = true) : ∃ m, ms[i]? = some m ∧ m ≠ .sh := by
  unfold isOwn at h
  cases hm : ms[i]? with
  | none => rw [hm] at h; cases h
  | some m =>
    refine ⟨m, rfl, fun z => ?_⟩
    subst z
    rw [hm] at h; cases h
def argsOk (ms : List Md) (os : List Opd) : List AK → List Nat → Bool
  | [], [] => true
  | k :: ks, p :: ps => argOk ms os k p && argsOk ms os ks ps
  | _, _ => false
section
variable {K : PySem.W.Frag} {mg : Str → Option Value} {ms : List Md} {I H : Hp} {σ : L2.St} {env : Env} {W : WX}
theorem OpRs.length : ∀ {os : List Opd} {vs : List V} {ds : List D}, OpRs K I H σ env os vs ds → vs.length = os.length ∧ ds.length = os.length
  | _, _, _, .nil => ⟨rfl, rfl⟩
  | _, _, _, .tm _ r => ⟨congrArg (· + 1) r.length.1, congrArg (· + 1) r.length.2⟩
  | _, _, _, .vr _ _ _ r => ⟨congrArg (· + 1) r.length.1, congrArg (· + 1) r.length.2⟩
theorem OpRs.at_tm : ∀ {os : List Opd} {vs : List V} {ds : List D} {p : Nat} {f : CE}, OpRs K I H σ env os vs ds → os[p]? = some (.tm f) → ∃ v d, vs[p]? = some v ∧ ds[p]? = some d ∧ Rep K I v d
  | _, _, _, _, _, .nil, h => by simp at h
  | _, _, _, 0, _, .tm h r, e => ⟨_, _, rfl, rfl, h⟩
  | _, _, _, 0, _, .vr _ _ _ r, e => by simp at e
  | _, _, _, p + 1, _, .tm _ r, e => by obtain ⟨v, d, a, b, c⟩ := r.at_tm (p := p) (by simpa using e); exact ⟨v, d, by simpa using a, by simpa using b, c⟩
  | _, _, _, p + 1, _, .vr _ _ _ r, e => by obtain ⟨v, d, a, b, c⟩ := r.at_tm (p := p) (by simpa using e); exact ⟨v, d, by simpa using a, by simpa using b, c⟩
theorem OpRs.at_vr : ∀ {os : List Opd} {vs : List V} {ds : List D} {p i : Nat}, OpRs K I H σ env os vs ds → os[p]? = some (.vr i) → ∃ v d, vs[p]? = some v ∧ ds[p]? = some d ∧ σ[i]? = some (some v) ∧ getS env i = some d
  | _, _, _, _, _, .nil, h => by simp at h
  | _, _, _, 0, _, .tm h r, e => by simp at e
  | _, _, _, 0, _, .vr h1 h2 _ r, e => by simp at e; subst e; exact ⟨_, _, rfl, rfl, h1, h2⟩
  | _, _, _, p + 1, _, .tm _ r, e => by obtain ⟨v, d, a, b, c⟩ := r.at_vr (p := p) (by simpa using e); exact ⟨v, d, by simpa using a, by simpa using b, c⟩
  | _, _, _, p + 1, _, .vr _ _ _ r, e => by obtain ⟨v, d, a, b, c⟩ := r.at_vr (p := p) (by simpa using e); exact ⟨v, d, by simpa using a, by simpa using b, c⟩
theorem args_at {os : List Opd} {vs : List V} {ds : List D} {dvs : List V} {dds : List D} (h : OpRs K I H σ env os vs ds) (hd : Reps K I dvs dds) : ∀ {ks : List AK} {perm : List Nat}, argsOk ms os ks perm = true → (∀ p ∈ perm, p < os.length + dds.length) →
    ArgsAt K I ms σ env ks (sel perm (vs ++ dvs)) (sel perm (ds ++ dds))
  | [], [], _, _ => .nil
  | [], _ :: _, h, _ => by cases h
  | _ :: _, [], h, _ => by cases h
  | k :: ks, p :: perm, ha, hp => by
    have ha2 : (argOk ms os k p && argsOk ms os ks perm) = true := ha
    rw [Bool.and_eq_true] at ha2
    obtain ⟨a1, a2⟩ := ha2
    have ih := args_at h hd a2 fun q hq => hp q (List.mem_cons_of_mem _ hq)
    obtain ⟨l1, l2⟩ := h.length
    have cons : ∀ {v d}, (vs ++ dvs)[p]? = some v → (ds ++ dds)[p]? = some d → sel (p :: perm) (vs ++ dvs) = v :: sel perm (vs ++ dvs) ∧ sel (p :: perm) (ds ++ dds) = d :: sel perm (ds ++ dds) := fun {v d} e1 e2 => by
      unfold sel
      rw [List.filterMap_cons, List.filterMap_cons, e1, e2]
      exact ⟨rfl, rfl⟩
    have old : ∀ {v d}, vs[p]? = some v → ds[p]? = some d → (vs ++ dvs)[p]? = some v ∧ (ds ++ dds)[p]? = some d := fun {v d} e1 e2 =>
      ⟨by rw [List.getElem?_append_left (List.getElem?_eq_some_iff.mp e1).1]; exact e1, by rw [List.getElem?_append_left (List.getElem?_eq_some_iff.mp e2).1]; exact e2⟩
    unfold argOk at a1
    cases ho : os[p]? with
    | none =>
      rw [ho] at a1
      cases k with
      | sh =>
        have hle : os.length ≤ p := List.getElem?_eq_none_iff.mp ho
        have hlt := hp p List.mem_cons_self
        have h3 : p - os.length < dds.length := by omega
        obtain ⟨v, h4, h5⟩ := hd.get (List.getElem?_eq_getElem h3)
        obtain ⟨c1, c2⟩ := cons (v := v) (d := dds[p - os.length]) (by rw [List.getElem?_append_right (by omega), l1]; exact h4) (by rw [List.getElem?_append_right (by omega), l2]; exact List.getElem?_eq_getElem h3)
        rw [c1, c2]
        exact .sh h5 ih
      | ln j => cases a1
      | bo j => cases a1
    | some o =>
      rw [ho] at a1
      cases o with
      | tm f =>
        obtain ⟨v, d, e1, e2, e3⟩ := h.at_tm ho
        obtain ⟨o1, o2⟩ := old e1 e2
        obtain ⟨c1, c2⟩ := cons o1 o2
        cases k with
        | sh => rw [c1, c2]; exact .sh e3 ih
        | ln j => cases a1
        | bo j => cases a1
      | vr i =>
        obtain ⟨v, d, e1, e2, e3, e4⟩ := h.at_vr ho
        obtain ⟨o1, o2⟩ := old e1 e2
        obtain ⟨c1, c2⟩ := cons o1 o2
        have mm : ∀ j, (decide (i = j) && isOwn ms i) = true → i = j ∧ ∃ m, ms[i]? = some m ∧ m ≠ .sh := fun j hj => by
          rw [Bool.and_eq_true] at hj
          exact ⟨of_decide_eq_true hj.1, isOwn_some hj.2⟩
        cases k with
        | sh => cases a1
        | ln j =>
          obtain ⟨rfl, m, h6, h7⟩ := mm j a1
          rw [c1, c2]
          exact .ln (getS_iff.mp e4) h6 h7 e3 ih
        | bo j =>
          obtain ⟨rfl, m, h6, h7⟩ := mm j a1
          rw [c1, c2]
          exact .bo (getS_iff.mp e4) h6 h7 e3 ih
theorem callOut_some {x : Option (Except Exn D × Env)} {kinds : List AK} {ro : Md} {e env' : Env} {r : Except Exn D} (h : callOut x kinds ro e = some (r, env')) : ∃ fin, x = some (r, fin) ∧ okBo kinds ro r fin = true ∧ env' = backE kinds fin e := by
  unfold callOut at h
  split at h
  · cases h
  · rename_i r' fin
    split at h
    · rename_i ho
      cases h
      exact ⟨fin, rfl, ho, rfl⟩
    · cases h
/-- a call's reading: the operands, then the promise -/
theorem call_read {F : FnD} {kinds : List AK} {ro m : Md} {perm : List Nat} {dvs : List V} {dds : List D} {os : List Opd} {H : Hp} {Q : VK} (hm : m = ro) (ha : argsOk ms os kinds perm = true) (hn : (ixs kinds).Nodup) (hp : ∀ p ∈ perm, p < os.length + dds.length) (hd : ∀ I, Reps K I dvs dds)
    (h : tE K mg ms m (cCall F kinds ro perm dds os) W σ H Q) : tOs K mg ms W os σ H (fun vs H1 => vs.length = os.length ∧ spF K mg (kinds.map AK.md) ro F (sel perm (vs ++ dvs)) H1 Q (fun c d H' => W c d σ H')) := by
  subst hm
  obtain ⟨I, env, fp, s, x, env', h1, q, b⟩ := h
  refine os_then s h1 b fun ds e1 vs H1 I1 fp1 h2 s1 t1 rs => ?_
  obtain ⟨fin, f1, f2, rfl⟩ := callOut_some h2
  refine ⟨rs.length.1, call_ok s1 (args_at rs (hd I1) ha hp) hn f1 f2 (fun d hx v H' I' fp' fv s' t' => q d hx v H' I' fp' fv s' (t1.trans t')) fun e hx => (b e hx).back t1⟩
end
/-- the operands in two parts -/
theorem tOs_append {K : PySem.W.Frag} {mg : Str → Option Value} {ms : List Md} {W : WX} {σ : L2.St} : ∀ {os ps : List Opd} {H : Hp} {Q : List V → Hp → Prop}, tOs K mg ms W (os ++ ps) σ H Q → tOs K mg ms W os σ H (fun vs H1 => tOs K mg ms W ps σ H1 fun zs H2 => Q (vs ++ zs) H2)
  | [], ps, H, Q, h => h
  | o :: os, ps, H, Q, h => tO_mono (ms := ms) (W := W) (o := o) (show tO K mg ms W o σ H (fun x H1 => tOs K mg ms W (os ++ ps) σ H1 fun xs H2 => Q (x :: xs) H2) from h) fun v H1 h1 => tOs_append h1
theorem tOs_len {K : PySem.W.Frag} {mg : Str → Option Value} {ms : List Md} {W : WX} {σ : L2.St} : ∀ {os : List Opd} {H : Hp} {Q : List V → Hp → Prop}, tOs K mg ms W os σ H Q → tOs K mg ms W os σ H (fun vs H1 => vs.length = os.length ∧ Q vs H1)
  | [], H, Q, h => ⟨rfl, h⟩
  | o :: os, H, Q, h => tO_mono (ms := ms) (W := W) (o := o) (show tO K mg ms W o σ H (fun x H1 => tOs K mg ms W os σ H1 fun xs H2 => Q (x :: xs) H2) from h) fun v H1 h1 => by
    have h2 := tOs_len h1
    exact tOs_mono h2 fun vs H2 ⟨a, b⟩ => ⟨congrArg (· + 1) a, b⟩
where tOs_mono {K : PySem.W.Frag} {mg : Str → Option Value} {ms : List Md} {W : WX} {σ : L2.St} : ∀ {os : List Opd} {H : Hp} {Q Q' : List V → Hp → Prop}, tOs K mg ms W os σ H Q → (∀ vs H1, Q vs H1 → Q' vs H1) → tOs K mg ms W os σ H Q'
  | [], H, Q, Q', h, k => k _ _ h
  | o :: os, H, Q, Q', h, k => tO_mono (ms := ms) (W := W) (o := o) (show tO K mg ms W o σ H (fun x H1 => tOs K mg ms W os σ H1 fun xs H2 => Q (x :: xs) H2) from h) fun v H1 h1 => tOs_mono h1 fun vs H2 q => k _ _ q
section
variable {X : Cx} {ms : List Md} {k : Nat} {f : Addr} {fd : FuncData} {ps ks : List Str} {x : Str} {p pos : Pos} {e : Expr} {es : List Expr} {kws : List Keyword} {F : FnD} {kinds : List AK} {ro : Md} {perm : List Nat} {dvs : List V} {dds : List D} {os oks : List Opd}
theorem de_call (G : FnG X.prog X.w X.K X.mg X.base k f fd ps (spF X.K X.mg (kinds.map AK.md) ro F)) (hr : Room k X.A) (am : Amb X.A X.base) (hb : CallB X.K fd ps os.length [] perm dvs) (hd : ∀ I, Reps X.K I dvs dds) (hg : Gl X x) (hm : X.mg x = some (.ref f)) (hk : PySem.W.keepIn X.K (.ref f) = true)
    (ha : DOs X ms (e :: es) os) (h1 : argsOk ms os kinds perm = true := by rfl) (h2 : (ixs kinds).Nodup := by decide) (h3 : ∀ p ∈ perm, p < os.length + dds.length := by decide) (hdb : (x == ("__debug__" : Str)) = false := by decide)
    (he : starEach (e :: es) X.env = (false, eval e X.env) :: starEach es X.env := by rfl) (hpl : (backTo pos (starEach es X.env)).any (·.1) = false := by rfl) :
    DE X ms ro (.Call (.Name x p) (e :: es) [] pos) (cCall F kinds ro perm dds os) := fun W tk => pe_imp (pe_g G hr am hb tk hg hm hk (ha.pa tk) hdb he hpl) fun σ H Q h => by
  refine tOs_len.tOs_mono (call_read rfl h1 h2 h3 hd h) fun vs H1 ⟨a, b⟩ => ⟨a, rfl, ?_⟩
  rw [List.append_nil]; exact b
theorem de_call0 (G : FnG X.prog X.w X.K X.mg X.base k f fd ps (spF X.K X.mg (kinds.map AK.md) ro F)) (hr : Room k X.A) (am : Amb X.A X.base) (hb : CallB X.K fd ps 0 [] perm dvs) (hd : ∀ I, Reps X.K I dvs dds) (hg : Gl X x) (hm : X.mg x = some (.ref f)) (hk : PySem.W.keepIn X.K (.ref f) = true)
    (h1 : argsOk ms [] kinds perm = true := by rfl) (h2 : (ixs kinds).Nodup := by decide) (h3 : ∀ p ∈ perm, p < 0 + dds.length := by decide) (hdb : (x == ("__debug__" : Str)) = false := by decide) :
    DE X ms ro (.Call (.Name x p) [] [] pos) (cCall F kinds ro perm dds []) := fun W tk => pe_imp (pe_g0 G hr am hb tk hg hm hk hdb) fun σ H Q h => by
  obtain ⟨a, b⟩ := (call_read (os := []) rfl h1 h2 h3 hd h : _ ∧ _)
  exact ⟨rfl, rfl, b⟩
theorem de_callK (G : FnG X.prog X.w X.K X.mg X.base k f fd ps (spF X.K X.mg (kinds.map AK.md) ro F)) (hr : Room k X.A) (am : Amb X.A X.base) (hb : CallB X.K fd ps os.length ks perm dvs) (hd : ∀ I, Reps X.K I dvs dds) (hg : Gl X x) (hm : X.mg x = some (.ref f)) (hk : PySem.W.keepIn X.K (.ref f) = true)
    (ha : DOs X ms (e :: es) os) (hkw : DKs X ms kws oks) (hl : oks.length = ks.length := by rfl) (hall : (backToKw pos (keywordEach kws X.env)).all (·.1.isSome) = true := by rfl) (hks : (backToKw pos (keywordEach kws X.env)).filterMap (·.1) = ks := by rfl)
    (h1 : argsOk ms (os ++ oks) kinds perm = true := by rfl) (h2 : (ixs kinds).Nodup := by decide) (h3 : ∀ p ∈ perm, p < (os ++ oks).length + dds.length := by decide) (hdb : (x == ("__debug__" : Str)) = false := by decide)
    (he : starEach (e :: es) X.env = (false, eval e X.env) :: starEach es X.env := by rfl) (hpl : ((backTo pos (starEach (e :: es) X.env)).any (·.1) || (backToKw pos (keywordEach kws X.env)).any (·.1.isNone)) = false := by rfl) :
    DE X ms ro (.Call (.Name x p) (e :: es) kws pos) (cCall F kinds ro perm dds (os ++ oks)) := fun W tk => pe_imp (pe_gK G hr am hb tk hg hm hk (ha.pa tk) (hkw.pk tk) hall hks hdb he hpl) fun σ H Q h => by
  refine tOs_len.tOs_mono (tOs_len (tOs_append (call_read rfl h1 h2 h3 hd h))) fun vs H1 ⟨a, b⟩ => ?_
  refine tOs_len.tOs_mono (tOs_len b) fun zs H2 ⟨c, _, d⟩ => ⟨a, by rw [c]; exact hl, d⟩
theorem de_callK0 (G : FnG X.prog X.w X.K X.mg X.base k f fd ps (spF X.K X.mg (kinds.map AK.md) ro F)) (hr : Room k X.A) (am : Amb X.A X.base) (hb : CallB X.K fd ps 0 ks perm dvs) (hd : ∀ I, Reps X.K I dvs dds) (hg : Gl X x) (hm : X.mg x = some (.ref f)) (hk : PySem.W.keepIn X.K (.ref f) = true)
    (hkw : DKs X ms kws oks) (hl : oks.length = ks.length := by rfl) (hall : (backToKw pos (keywordEach kws X.env)).all (·.1.isSome) = true := by rfl) (hks : (backToKw pos (keywordEach kws X.env)).filterMap (·.1) = ks := by rfl)
    (h1 : argsOk ms oks kinds perm = true := by rfl) (h2 : (ixs kinds).Nodup := by decide) (h3 : ∀ p ∈ perm, p < oks.length + dds.length := by decide) (hdb : (x == ("__debug__" : Str)) = false := by decide)
    (hpl : ((backTo pos (starEach [] X.env)).any (·.1) || (backToKw pos (keywordEach kws X.env)).any (·.1.isNone)) = false := by rfl) :
    DE X ms ro (.Call (.Name x p) [] kws pos) (cCall F kinds ro perm dds oks) := fun W tk => pe_imp (pe_gK0 G hr am hb tk hg hm hk (hkw.pk tk) hall hks hdb hpl) fun σ H Q h => by
  refine tOs_len.tOs_mono (call_read rfl h1 h2 h3 hd h) fun vs H1 ⟨a, b⟩ => ⟨rfl, by rw [a]; exact hl, ?_⟩
  exact b
end
end DI
set_option Elab.async false
set_option autoImplicit false
set_option linter.all false
set_option maxRecDepth 100000
set_option maxHeartbeats 2000000
/-! DI8: meanings of statements. -/
namespace DI
open PySem PySem.Spec PyProof.Rows L2
inductive Fl where
  | nx | bk | ct | rt (d : D)
abbrev CS := Env → Out Fl
def norm (ms : List Md) : List Md := ms.map fun m => if m = .pr then .pr else .sh
/-- what is kept of the slots where an exception leaves: the parameters' lists, the slots that xm names -/
def maskB : List Bool → List Md → Env → Env
  | b :: bs, m :: ms, o :: env => (if m = .pr ∨ b = true then o else none) :: maskB bs ms env
  | [], m :: ms, o :: env => (if m = .pr then o else none) :: maskB [] ms env
  | _, _, _ => []
/-- xm names no list of one's own -/
def compat : List Bool → List Md → Bool
  | b :: bs, m :: ms => (!b || !decide (m = .ow)) && compat bs ms
  | _, _ => true
def Keep (ms : List Md) (σ σ' : L2.St) : Prop := ∀ i : Nat, ms[i]? = some .pr → σ'[i]? = σ[i]?
section
variable {K : PySem.W.Frag} {mg : Str → Option Value} {I I1 H H1 : Hp} {fp fp1 : List Addr} {ms ms' B : List Md} {σ σ1 : L2.St} {env : Env} {xm : List Bool}
theorem Keep.refl (ms : List Md) (σ : L2.St) : Keep ms σ σ := fun _ _ => rfl
theorem norm_pr {ms : List Md} {i : Nat} : (norm ms)[i]? = some .pr ↔ ms[i]? = some .pr := by
  unfold norm
  rw [List.getElem?_map]
  cases ms[i]? with
  | none => simp
  | some m => cases m <;> simp
theorem Keep.trans {σ2 : L2.St} (h : norm ms' = norm ms) (a : Keep ms σ σ1) (b : Keep ms' σ1 σ2) : Keep ms σ σ2 := fun i hi =>
  (b i (norm_pr.mp (by rw [h]; exact norm_pr.mpr hi))).trans (a i hi)
theorem maskB_norm : ∀ {xm : List Bool} {ms ms' : List Md} {env : Env}, norm ms' = norm ms → maskB xm ms' env = maskB xm ms env
  | _, [], [], _, _ => rfl
  | _, [], _ :: _, _, h => by cases h
  | _, _ :: _, [], _, h => by cases h
  | [], m :: ms, m' :: ms', [], h => rfl
  | b :: bs, m :: ms, m' :: ms', [], h => rfl
  | [], m :: ms, m' :: ms', o :: env, h => by
    have h2 : (if m' = .pr then Md.pr else .sh) = (if m = .pr then Md.pr else .sh) ∧ norm ms' = norm ms := List.cons.inj h
    unfold maskB
    rw [maskB_norm h2.2]
    have e : m' = .pr ↔ m = .pr := by cases m <;> cases m' <;> simp at h2 <;> simp
    simp only [e]
  | b :: bs, m :: ms, m' :: ms', o :: env, h => by
    have h2 : (if m' = .pr then Md.pr else .sh) = (if m = .pr then Md.pr else .sh) ∧ norm ms' = norm ms := List.cons.inj h
    unfold maskB
    rw [maskB_norm h2.2]
    have e : m' = .pr ↔ m = .pr := by cases m <;> cases m' <;> simp at h2 <;> simp
    simp only [e]
theorem Slots.maskB : ∀ {xm : List Bool} {ms : List Md} {σ : L2.St} {env : Env} {fp : List Addr}, Slots K I H ms σ env fp → compat xm ms = true → ∃ fp', Slots K I H (norm ms) σ (maskB xm ms env) fp' ∧ fp'.Sublist fp
  | [], _, _, _, _, .nil, _ => ⟨[], .nil, .slnil⟩
  | b :: bs, _, _, _, _, .nil, _ => ⟨[], .nil, .slnil⟩
  | [], _, _, _, _, .non (m := m) s, h => by
    obtain ⟨fp', a, b⟩ := s.maskB (xm := []) (by unfold compat; rfl)
    refine ⟨fp', ?_, b⟩
    unfold DI.maskB
    split <;> exact .non a
  | b0 :: bs, _, _, _, _, .non (m := m) s, h => by
    have h2 : ((!b0 || !decide (m = .ow)) && compat bs _) = true := h
    rw [Bool.and_eq_true] at h2
    obtain ⟨fp', a, b⟩ := s.maskB h2.2
    refine ⟨fp', ?_, b⟩
    unfold DI.maskB
    split <;> exact .non a
  | [], _, _, _, _, .som (m := m) (fp1 := f0) q s, h => by
    obtain ⟨fp', a, b⟩ := s.maskB (xm := []) (by unfold compat; rfl)
    unfold DI.maskB
    by_cases e : m = .pr
    · subst e
      rw [if_pos rfl]
      exact ⟨f0 ++ fp', .som (m := .pr) q a, b.append_left _⟩
    · rw [if_neg e]
      exact ⟨fp', .non a, b.trans (List.sublist_append_right _ _)⟩
  | b0 :: bs, _, _, _, _, .som (m := m) (fp1 := f0) q s, h => by
    have h2 : ((!b0 || !decide (m = .ow)) && compat bs _) = true := h
    rw [Bool.and_eq_true] at h2
    obtain ⟨fp', a, b⟩ := s.maskB h2.2
    unfold DI.maskB
    by_cases e : m = .pr
    · subst e
      rw [if_pos (.inl rfl)]
      exact ⟨f0 ++ fp', .som (m := .pr) q a, b.append_left _⟩
    · by_cases eb : b0 = true
      · rw [if_pos (.inr eb)]
        subst eb
        have em : m = .sh := by cases m with
          | sh => rfl
          | pr => exact absurd rfl e
          | ow => simp at h2
        subst em
        exact ⟨f0 ++ fp', .som (m := .sh) q a, b.append_left _⟩
      · rw [if_neg fun z => z.elim e eb]
        exact ⟨fp', .non a, b.trans (List.sublist_append_right _ _)⟩
theorem St.maskB (s : St K ms I σ env H fp) (h : compat xm ms = true) : ∃ fp', St K (norm ms) I σ (maskB xm ms env) H fp' ∧ ∀ p ∈ fp', p ∈ fp := by
  obtain ⟨fp', a, b⟩ := s.sl.maskB h
  exact ⟨fp', ⟨s.ext, s.nd.sublist b, fun p hp => s.off p (b.subset hp), a⟩, fun p hp => b.subset hp⟩
theorem Step.less {fp2 : List Addr} (t : Step I H fp I1 H1 fp1) (h : ∀ p ∈ fp2, p ∈ fp1) : Step I H fp I1 H1 fp2 := ⟨t.ext, t.keep, fun p hp => t.own p (h p hp), t.gr⟩
variable (K mg) in
/-- an exception's way out of statements -/
def BadS (xm : List Bool) (ms : List Md) (I : Hp) (σ : L2.St) (H : Hp) (fp : List Addr) (W : WX) (e : Exn) (env' : Env) : Prop :=
  ∀ c dd σ' H' I' fp', St K (norm ms) I' σ' (DI.maskB xm ms env') H' fp' → Step I H fp I' H' fp' → ExcIs K mg I' e c dd → Keep ms σ σ' → W c dd σ' H'
theorem BadS.bad {W : WX} {e : Exn} {env' : Env} (b : BadS K mg xm ms I σ H fp W e env') (h : compat xm ms = true) : Bad K mg ms I σ H fp W e env' := fun c dd H' I' fp' s t x => by
  obtain ⟨fp2, s2, h2⟩ := s.maskB h
  exact b c dd σ H' I' fp2 s2 (t.less h2) x (Keep.refl _ _)
theorem BadS.back {W : WX} {e : Exn} {env' : Env} (b : BadS K mg xm ms I σ H fp W e env') (hn : norm ms' = norm ms) (t : Step I H fp I1 H1 fp1) (k : Keep ms σ σ1) : BadS K mg xm ms' I1 σ1 H1 fp1 W e env' :=
  fun c dd σ' H' I' fp' s t' x k' => b c dd σ' H' I' fp' (by rw [← hn, ← maskB_norm hn]; exact s) (t.trans t') x (Keep.trans hn k k')
variable (K mg) in
def tS (xm : List Bool) (ms ms' B : List Md) (ro : Md) (f : CS) (W : WX) : TS := fun D σ H => ∃ I env fp, St K ms I σ env H fp ∧ ∃ r env', f env = some (r, env') ∧
  (r = .ok .nx → ∀ σ' H' I' fp', St K ms' I' σ' env' H' fp' → Step I H fp I' H' fp' → Keep ms σ σ' → D.nx σ' H') ∧
  (r = .ok .bk → ∀ σ' H' I' fp', St K B I' σ' env' H' fp' → Step I H fp I' H' fp' → Keep ms σ σ' → D.bk σ' H') ∧
  (r = .ok .ct → ∀ σ' H' I' fp', St K B I' σ' env' H' fp' → Step I H fp I' H' fp' → Keep ms σ σ' → D.ct σ' H') ∧
  (∀ d, r = .ok (.rt d) → ∀ v σ' H' I' fp' fv, St K (norm ms) I' σ' (DI.maskB [] ms env') H' fp' → Step I H fp I' H' (fv ++ fp') → RepM ro K I' H' v d fv → (fv ++ fp').Nodup → (∀ p ∈ fv, I' p = none) → Keep ms σ σ' → D.rt v H') ∧
  (∀ e, r = .error e → BadS K mg xm ms I σ H fp W e env')
end
structure DS (X : Cx) (xm : List Bool) (ms ms' B : List Md) (ro : Md) (st : Stmt) (f : CS) : Prop where
  nm : norm ms' = norm ms
  run : ∀ W, Takes X W → PS X st (tS X.K X.mg xm ms ms' B ro f W)
structure DSs (X : Cx) (xm : List Bool) (ms ms' B : List Md) (ro : Md) (st : List Stmt) (f : CS) : Prop where
  nm : norm ms' = norm ms
  run : ∀ W, Takes X W → PSs X st (tS X.K X.mg xm ms ms' B ro f W)
/-! ### blocks -/
def cSkip : CS := fun env => some (.ok .nx, env)
def cSeq (f1 f2 : CS) : CS := fun env => match f1 env with
  | some (.ok .nx, e) => f2 e
  | x => x
def cStuck : CS := fun _ => none
section
variable {X : Cx} {xm : List Bool} {ms ms' ms2 B : List Md} {ro m : Md} {st : Stmt} {sts : List Stmt} {f f1 f2 : CS} {fe fa : CE} {e a b : Expr} {es : List Expr} {pos p p2 : Pos} {os : List Opd} {W : WX}
theorem dss_nil : DSs X xm ms ms B ro [] cSkip := ⟨rfl, fun W tk => pss_imp pss_nil fun D σ H h => by
  obtain ⟨I, env, fp, s, r, env', h1, q, _⟩ := h
  cases h1
  exact q rfl σ H I fp s (.refl _ _ _) (Keep.refl _ _)⟩
theorem ds_pass : DS X xm ms ms B ro (.Pass pos) cSkip := ⟨rfl, fun W tk => ps_imp ps_pass fun D σ H h => by
  obtain ⟨I, env, fp, s, r, env', h1, q, _⟩ := h
  cases h1
  exact q rfl σ H I fp s (.refl _ _ _) (Keep.refl _ _)⟩
theorem ds_doc {x : Str} {j : Nat} {pos' : Pos} : DS X xm ms ms B ro (.Expr (.Constant (.str x) j pos) pos') cSkip := ⟨rfl, fun W tk => ps_imp ps_doc fun D σ H h => by
  obtain ⟨I, env, fp, s, r, env', h1, q, _⟩ := h
  cases h1
  exact q rfl σ H I fp s (.refl _ _ _) (Keep.refl _ _)⟩
def cBrk : CS := fun env => some (.ok .bk, env)
def cCnt : CS := fun env => some (.ok .ct, env)
theorem ds_break (h : B = ms := by rfl) : DS X xm ms ms B ro (.Break pos) cBrk := ⟨rfl, fun W tk => ps_imp ps_break fun D σ H h' => by
  subst h
  obtain ⟨I, env, fp, s, r, env', h1, _, q, _⟩ := h'
  cases h1
  exact q rfl σ H I fp s (.refl _ _ _) (Keep.refl _ _)⟩
theorem ds_cont (h : B = ms := by rfl) : DS X xm ms ms B ro (.Continue pos) cCnt := ⟨rfl, fun W tk => ps_imp ps_continue fun D σ H h' => by
  subst h
  obtain ⟨I, env, fp, s, r, env', h1, _, _, q, _⟩ := h'
  cases h1
  exact q rfl σ H I fp s (.refl _ _ _) (Keep.refl _ _)⟩
/-- a statement that is never reached -/
theorem ds_stuck (hn : norm ms' = norm ms := by rfl) : DS X xm ms ms' B ro st cStuck := ⟨hn, fun W tk => ps_imp ps_never fun D σ H h => by
  obtain ⟨I, env, fp, s, r, env', h1, _⟩ := h
  cases h1⟩
theorem seq_read {K : PySem.W.Frag} {mg : Str → Option Value} {D : Ends} {σ : L2.St} {H : Hp} (nm : norm ms2 = norm ms) (h : tS K mg xm ms ms' B ro (cSeq f1 f2) W D σ H) : tSeq (tS K mg xm ms ms2 B ro f1 W) (tS K mg xm ms2 ms' B ro f2 W) D σ H := by
  obtain ⟨I, env, fp, s, r, env', h1, q1, q2, q3, q4, q5⟩ := h
  unfold cSeq at h1
  cases hf : f1 env with
  | none => rw [hf] at h1; cases h1
  | some x =>
    obtain ⟨r1, e1⟩ := x
    rw [hf] at h1
    by_cases hx : r1 = .ok .nx
    · subst hx
      have h1' : f2 e1 = some (r, env') := h1
      refine ⟨I, env, fp, s, _, _, hf, fun _ σ1 H1 I1 fp1 s1 t1 k1 => ?_, fun z => (by cases z), fun z => (by cases z), fun d z => (by cases z), fun e z => (by cases z)⟩
      refine ⟨I1, e1, fp1, s1, r, env', h1', fun z σ' H' I' fp' s' t' k' => q1 z σ' H' I' fp' s' (t1.trans t') (Keep.trans nm k1 k'), fun z σ' H' I' fp' s' t' k' => q2 z σ' H' I' fp' s' (t1.trans t') (Keep.trans nm k1 k'),
        fun z σ' H' I' fp' s' t' k' => q3 z σ' H' I' fp' s' (t1.trans t') (Keep.trans nm k1 k'), fun d z v σ' H' I' fp' fv s' t' rv nd off k' => ?_, fun e z => (q5 e z).back nm t1 k1⟩
      refine q4 d z v σ' H' I' fp' fv ?_ (t1.trans t') rv nd off (Keep.trans nm k1 k')
      rw [← nm, ← maskB_norm nm]; exact s'
    · have h1' : some (r1, e1) = some (r, env') := by
        cases r1 with
        | error e => exact h1
        | ok fl => cases fl with
          | nx => exact absurd rfl hx
          | bk => exact h1
          | ct => exact h1
          | rt d => exact h1
      cases h1'
      exact ⟨I, env, fp, s, _, _, hf, fun z => absurd z hx, q2, q3, q4, q5⟩
theorem dss_cons (h1 : DS X xm ms ms2 B ro st f1) (h2 : DSs X xm ms2 ms' B ro sts f2) : DSs X xm ms ms' B ro (st :: sts) (cSeq f1 f2) :=
  ⟨h2.nm.trans h1.nm, fun W tk => pss_imp (pss_cons (h1.run W tk) (h2.run W tk)) fun D σ H h => seq_read h1.nm h⟩
theorem dss_one (h1 : DS X xm ms ms' B ro st f1) : DSs X xm ms ms' B ro [st] f1 := ⟨h1.nm, fun W tk => pss_one (h1.run W tk)⟩
/-- a list of one's own is shared from here on (a remark of the proof's) -/
theorem dss_share (i : Nat) (hi : ms[i]? = some .ow := by rfl) (h : DSs X xm (ms.set i .sh) ms' B ro sts f) : DSs X xm ms ms' B ro sts f := by
  have nm1 : norm (ms.set i .sh) = norm ms := by
    unfold norm
    rw [List.map_set]
    exact set_id (by rw [List.getElem?_map, hi]; rfl)
  refine ⟨h.nm.trans nm1, fun W tk => pss_imp (h.run W tk) fun D σ H h' => ?_⟩
  obtain ⟨I, env, fp, s, r, env', h1, q1, q2, q3, q4, q5⟩ := h'
  obtain ⟨I1, fp1, a1, a2, a3, a4, a5, a6⟩ := s.sl.share s.nd s.off s.ext hi
  have t1 : Step I H fp I1 H fp1 := ⟨a1, fun _ _ h _ => h, fun p hp => .inl (a4.subset hp), fun b hb => (a6 b hb).imp_right .inl⟩
  have k1 : Keep ms σ σ := Keep.refl _ _
  refine ⟨I1, env, fp1, ⟨a2, s.nd.sublist a4, a5, a3⟩, r, env', h1, fun z σ' H' I' fp' s' t' k' => q1 z σ' H' I' fp' s' (t1.trans t') (Keep.trans nm1 k1 k'), fun z σ' H' I' fp' s' t' k' => q2 z σ' H' I' fp' s' (t1.trans t') (Keep.trans nm1 k1 k'),
    fun z σ' H' I' fp' s' t' k' => q3 z σ' H' I' fp' s' (t1.trans t') (Keep.trans nm1 k1 k'), fun d z v σ' H' I' fp' fv s' t' rv nd off k' => ?_, fun e z => (q5 e z).back nm1 t1 k1⟩
  refine q4 d z v σ' H' I' fp' fv ?_ (t1.trans t') rv nd off (Keep.trans nm1 k1 k')
  rw [← nm1, ← maskB_norm nm1]; exact s'
/-! ### names -/
def cAsg (i : Nat) (f : CE) : CS := fun env => mbind (f env) fun d e => some (.ok .nx, e.set i (some d))
theorem norm_set {i : Nat} {m0 : Md} (h : ms[i]? = some m0) (h0 : m0 ≠ .pr) (h1 : m ≠ .pr) : norm (ms.set i m) = norm ms := by
  unfold norm
  rw [List.map_set]
  refine set_id ?_
  rw [List.getElem?_map, h]
  show some (if m0 = Md.pr then Md.pr else Md.sh) = some (if m = Md.pr then Md.pr else Md.sh)
  rw [if_neg h0, if_neg h1]
theorem keep_set {σ : L2.St} {i : Nat} {m0 : Md} {v : Option V} (h : ms[i]? = some m0) (h0 : m0 ≠ .pr) : Keep ms σ (σ.set i v) := fun j hj => by
  by_cases e : i = j
  · subst e
    rw [h] at hj
    cases hj; exact absurd rfl h0
  · rw [List.getElem?_set_ne e]
theorem put_st {K : PySem.W.Frag} {I H I1 H1 : Hp} {σ : L2.St} {env : Env} {fp fp1 fv : List Addr} {i : Nat} {v : V} {d : D} (s : St K ms I1 σ env H1 fp1) (t : Step I H fp I1 H1 (fv ++ fp1)) (rv : RepM m K I1 H1 v d fv) (nd : (fv ++ fp1).Nodup) (off : ∀ p ∈ fv, I1 p = none) (hi : i < ms.length) :
    ∃ fp2, St K (ms.set i m) I1 (σ.set i (some v)) (env.set i (some d)) H1 fp2 ∧ Step I H fp I1 H1 fp2 := by
  obtain ⟨fp2, a, b, c⟩ := Slots.put rv s.sl hi nd
  refine ⟨fp2, ⟨s.ext, b, fun p hp => (c p hp).elim (off p) (s.off p), a⟩, t.less fun p hp => (c p hp).elim (List.mem_append_left _) (List.mem_append_right _)⟩
def notPr (ms : List Md) (i : Nat) : Bool := match ms[i]? with
  | some .pr => false
  | none => false
  | _ => true
theorem notPr_some {i : Nat} (h : notPr ms i = true) : ∃ m0, ms[i]? = some m0 ∧ m0 ≠ .pr ∧ i < ms.length := by
  unfold notPr at h
  cases hm : ms[i]? with
  | none => rw [hm] at h; cases h
  | some m0 =>
    refine ⟨m0, rfl, fun z => ?_, (List.getElem?_eq_some_iff.mp hm).1⟩
    subst z
    rw [hm] at h; cases h
theorem asg_read {K : PySem.W.Frag} {mg : Str → Option Value} {D : Ends} {σ : L2.St} {H : Hp} {i : Nat} (h0 : notPr ms i = true) (hc : compat xm ms = true) (h : tS K mg xm ms (ms.set i m) B ro (cAsg i fe) W D σ H) : tAsg (tE K mg ms m fe W) (gName i) D σ H := by
  obtain ⟨m0, g1, g2, g3⟩ := notPr_some h0
  obtain ⟨I, env, fp, s, r, env', h1, q1, q2, q3, q4, q5⟩ := h
  rcases mbind_some h1 with ⟨e, h2, rfl⟩ | ⟨d, e1, h2, h3⟩
  · exact ⟨I, env, fp, s, _, _, h2, fun d z => (by cases z), fun e' z => by cases z; exact (q5 e rfl).bad hc⟩
  · cases h3
    refine ⟨I, env, fp, s, _, _, h2, fun d' z v H1 I1 fp1 fv s1 t1 rv nd off => ?_, fun e' z => by cases z⟩
    cases z
    obtain ⟨fp2, s2, t2⟩ := put_st s1 t1 rv nd off g3
    exact q1 rfl _ H1 I1 fp2 s2 t2 (keep_set g1 g2)
theorem ds_asg (i : Nat) {x : Str} (he : DE X ms m e fe) (hN : X.N.Nodup) (h0 : notPr ms i = true := by rfl) (h1 : m ≠ .pr := by decide) (hi : X.N[i]? = some x := by rfl) (hx : Loc X.env.scope x := by first | exact .inl rfl | exact .inr rfl) (hc : compat xm ms = true := by rfl)
    (hs : swapsWith e (some (.Name x p)) pos.line X.env = pure false := by rfl) (hf : X.fn x = true ∨ X.env.scope.names.lookup x = some .local := by first | exact .inl rfl | exact .inr rfl) : DS X xm ms (ms.set i m) B ro (.Assign [.Name x p] e pos) (cAsg i fe) :=
  ⟨let ⟨_, g1, g2, _⟩ := notPr_some h0; norm_set g1 g2 h1, fun W tk => ps_imp (ps_set (i := i) hN hi hx (he W tk) hs hf) fun D σ H h => asg_read h0 hc h⟩
/-- a, b = e1, e2 -/
def cPar (i j : Nat) (f1 f2 : CE) : CS := fun env => mbind (f1 env) fun d e => mbind (f2 e) fun d2 e2 => some (.ok .nx, (e2.set i (some d)).set j (some d2))
theorem ds_par (i j : Nat) {x y : Str} {m1 m2 : Md} {px py pt : Pos} {kt k2 : Nat} {pt2 : Pos} (ha : DE X ms m1 a fe) (hb : DE X ms m2 b fa) (hN : X.N.Nodup) (hc : X.calm = true) (h0 : notPr ms i = true := by rfl) (h0' : notPr ms j = true := by rfl) (h1 : m1 ≠ .pr := by decide) (h1' : m2 ≠ .pr := by decide)
    (hi : X.N[i]? = some x := by rfl) (hj : X.N[j]? = some y := by rfl) (hij : i ≠ j := by decide) (hx : X.env.scope.names.lookup x = some .local := by rfl) (hy : X.env.scope.names.lookup y = some .local := by rfl) (hcm : compat xm ms = true := by rfl)
    (hw : swappedStores [.Tuple [.Name x px, .Name y py] kt pt] (.Tuple [a, b] k2 pt2) X.env = pure (some [x, y]) := by rfl) (hs : swapsWithSole [.Tuple [.Name x px, .Name y py] kt pt] (.Tuple [a, b] k2 pt2) pos.line X.env = pure false := by rfl)
    (e1 : starEach [a, b] X.env = (false, eval a X.env) :: starEach [b] X.env := by rfl) (e2 : starEach [b] X.env = (false, eval b X.env) :: starEach [] X.env := by rfl) :
    DS X xm ms ((ms.set i m1).set j m2) B ro (.Assign [.Tuple [.Name x px, .Name y py] kt pt] (.Tuple [a, b] k2 pt2) pos) (cPar i j fe fa) := by
  obtain ⟨m0, g1, g2, g3⟩ := notPr_some h0
  obtain ⟨m0', g1', g2', g3'⟩ := notPr_some h0'
  have gj : (ms.set i m1)[j]? = some m0' := by rw [List.getElem?_set_ne hij]; exact g1'
  refine ⟨(norm_set gj g2' h1').trans (norm_set g1 g2 h1), fun W tk => ps_imp (ps_par hc hN hi hj hij hx hy (pa_cons (ha W tk) (pa_cons (hb W tk) pa_nil e2) e1) hw hs) fun D σ H h => ?_⟩
  obtain ⟨I, env, fp, s, r, env', h1, q1, q2, q3, q4, q5⟩ := h
  show tE X.K X.mg ms m1 fe W σ H fun x H1 => tE X.K X.mg ms m2 fa W σ H1 fun y H2 => ∃ v w, [x, y] = [v, w] ∧ D.nx ((σ.set i (some v)).set j (some w)) H2
  rcases mbind_some h1 with ⟨e, h2, rfl⟩ | ⟨d, n1, h2, h3⟩
  · exact ⟨I, env, fp, s, _, _, h2, fun d z => (by cases z), fun e' z => by cases z; exact (q5 e rfl).bad hcm⟩
  · refine ⟨I, env, fp, s, _, _, h2, fun d' z v H1 I1 fp1 fv s1 t1 rv nd off => ?_, fun e' z => by cases z⟩
    cases z
    have t1' : Step I H fp I1 H1 fp1 := t1.less fun p hp => List.mem_append_right _ hp
    rcases mbind_some h3 with ⟨e, h4, rfl⟩ | ⟨d2, n2, h4, h5⟩
    · exact ⟨I1, n1, fp1, s1, _, _, h4, fun d z => (by cases z), fun e' z => by cases z; exact ((q5 e rfl).bad hcm).back t1'⟩
    · cases h5
      refine ⟨I1, n1, fp1, s1, _, _, h4, fun d' z v2 H2 I2 fp2 fv2 s2 t2 rv2 nd2 off2 => ⟨v, v2, rfl, ?_⟩, fun e' z => by cases z⟩
      cases z
      obtain ⟨a1, a2, a3⟩ := List.nodup_append.mp nd
      obtain ⟨b1, b2, b3⟩ := List.nodup_append.mp nd2
      have there : ∀ p ∈ fv, ∃ xs, H1 p = some (.lst xs) := rv.there
      have rvm : RepM m1 X.K I2 H2 v d fv := rv.move t2.ext fun p hp o ho => t2.keep p o ho fun z => a3 p hp p z rfl
      have apart : ∀ p ∈ fv, p ∉ fv2 ++ fp2 := fun p hp z => by
        rcases t2.own p z with y | y
        · exact a3 p hp p y rfl
        · obtain ⟨xs, hx⟩ := there p hp; rw [y] at hx; cases hx
      have off3 : ∀ p ∈ fv, I2 p = none := fun p hp => by
        cases z : I2 p with
        | none => rfl
        | some o =>
          rcases t2.gr p (by rw [z]; simp) with y | y | y
          · exact absurd (off p hp) y
          · exact absurd rfl (a3 p hp p y)
          · obtain ⟨xs, hx⟩ := there p hp; rw [y] at hx; cases hx
      obtain ⟨fp3, w1, w2, w3⟩ := Slots.put rvm s2.sl g3 (List.nodup_append.mpr ⟨a1, b2, fun x hx y hy e => apart x hx (e ▸ List.mem_append_right _ hy)⟩)
      obtain ⟨fp4, u1, u2, u3⟩ := Slots.put rv2 w1 (show j < (ms.set i m1).length by rw [List.length_set]; exact g3') (List.nodup_append.mpr ⟨b1, w2, fun x hx y hy e => by
        subst e
        rcases w3 x hy with z | z
        · exact apart x z (List.mem_append_left _ hx)
        · exact b3 x hx x z rfl⟩)
      have src : ∀ p ∈ fp4, p ∈ fv2 ++ fp2 ∨ p ∈ fv := fun p hp => by
        rcases u3 p hp with z | z
        · exact .inl (List.mem_append_left _ z)
        · rcases w3 p z with y | y
          · exact .inr y
          · exact .inl (List.mem_append_right _ y)
      have t2' : Step I1 H1 (fv ++ fp1) I2 H2 fp4 := ⟨t2.ext, fun b o h hb => t2.keep b o h fun z => hb (List.mem_append_right _ z), fun p hp => by
        rcases src p hp with z | z
        · exact (t2.own p z).imp_left (List.mem_append_right _)
        · exact .inl (List.mem_append_left _ z), fun b hb => (t2.gr b hb).imp_right fun z => z.imp_left (List.mem_append_right _)⟩
      refine q1 rfl _ H2 I2 fp4 ⟨s2.ext, u2, fun p hp => ?_, u1⟩ (t1.trans t2') fun l hl => ?_
      · rcases u3 p hp with z | z
        · exact off2 p z
        · exact (w3 p z).elim (off3 p) (s2.off p)
      · have k1 := keep_set (v := some v) (σ := σ) g1 g2 l hl
        have hl2 : (ms.set i m1)[l]? = some .pr := by
          by_cases e : i = l
          · subst e; rw [g1] at hl; cases hl; exact absurd rfl g2
          · rw [List.getElem?_set_ne e]; exact hl
        exact (keep_set (v := some v2) (σ := σ.set i (some v)) gj g2' l hl2).trans k1
/-! ### targets that are tuples -/
def putEs : List Nat → List D → Env → Option Env
  | [], [], env => some env
  | i :: is, d :: ds, env => putEs is ds (env.set i (some d))
  | _, _, _ => none
/-- a target: a name's slot, several names' -/
inductive Tg where
  | nm (i : Nat)
  | tp (is : List Nat)
def asgT : Tg → D → Env → Option Env
  | .nm i, d, env => some (env.set i (some d))
  | .tp is, .tup ds, env => putEs is ds env
  | _, _, _ => none
def gNs : List Nat → TGs
  | [] => gNil
  | i :: is => gCons (gName i) (gNs is)
def tgR (K : PySem.W.Frag) : Tg → TG
  | .nm i => gName i
  | .tp is => L2.gTup K is.length (gNs is)
def shAll (ms : List Md) (is : List Nat) : Bool := is.all fun i => decide (ms[i]? = some .sh)
def tgOk (ms : List Md) : Tg → Bool
  | .nm i => shAll ms [i]
  | .tp is => shAll ms is
def Tg.slots : Tg → List Nat
  | .nm i => [i]
  | .tp is => is
theorem put_sh {K : PySem.W.Frag} {I H : Hp} {σ : L2.St} {env : Env} {fp : List Addr} {i : Nat} {v : V} {d : D} (s : St K ms I σ env H fp) (hi : ms[i]? = some .sh) (r : Rep K I v d) :
    ∃ fp', St K ms I (σ.set i (some v)) (env.set i (some d)) H fp' ∧ ∀ p ∈ fp', p ∈ fp := by
  obtain ⟨fp', a, b, c⟩ := Slots.put (m := .sh) (fp1 := []) ⟨r, rfl⟩ s.sl (List.getElem?_eq_some_iff.mp hi).1 s.nd
  rw [set_id hi] at a
  have c' : ∀ p ∈ fp', p ∈ fp := fun p hp => (c p hp).elim (fun z => by cases z) id
  exact ⟨fp', ⟨s.ext, b, fun p hp => s.off p (c' p hp), a⟩, c'⟩
theorem gNs_read {K : PySem.W.Frag} {I H : Hp} {Q : L2.St → Hp → Prop} {env1 : Env} : ∀ {is : List Nat} {xs : List V} {ds : List D} {σ : L2.St} {env : Env} {fp : List Addr}, St K ms I σ env H fp → Reps K I xs ds → putEs is ds env = some env1 → shAll ms is = true →
    (∀ σ' fp', St K ms I σ' env1 H fp' → (∀ p ∈ fp', p ∈ fp) → (∀ j, j ∉ is → σ'[j]? = σ[j]?) → Q σ' H) → gNs is xs σ H Q
  | [], _, _, σ, env, fp, s, .nil, h, _, q => by
    cases h
    exact ⟨rfl, q σ fp s (fun _ h => h) fun _ _ => rfl⟩
  | i :: is, _, _, σ, env, fp, s, .cons r rs, h, hs, q => by
    have hs2 : (decide (ms[i]? = some .sh) && shAll ms is) = true := hs
    rw [Bool.and_eq_true] at hs2
    obtain ⟨fp1, s1, c1⟩ := put_sh s (of_decide_eq_true hs2.1) r
    refine ⟨_, _, rfl, gNs_read s1 rs h hs2.2 fun σ' fp' s' c' k' => q σ' fp' s' (fun p hp => c1 p (c' p hp)) fun j hj => ?_⟩
    have hj2 : j ≠ i ∧ j ∉ is := by simpa using hj
    rw [k' j hj2.2, List.getElem?_set_ne (Ne.symm hj2.1)]
theorem tg_read {K : PySem.W.Frag} {I H : Hp} {Q : L2.St → Hp → Prop} {env env1 : Env} {σ : L2.St} {fp : List Addr} {tg : Tg} {x : V} {d : D} (s : St K ms I σ env H fp) (r : Rep K I x d) (h : asgT tg d env = some env1) (hs : tgOk ms tg = true)
    (q : ∀ σ' fp', St K ms I σ' env1 H fp' → (∀ p ∈ fp', p ∈ fp) → (∀ j, j ∉ tg.slots → σ'[j]? = σ[j]?) → Q σ' H) : tgR K tg x σ H Q := by
  cases tg with
  | nm i =>
    cases h
    have hs2 : (decide (ms[i]? = some .sh) && true) = true := hs
    rw [Bool.and_eq_true] at hs2
    obtain ⟨fp1, s1, c1⟩ := put_sh s (of_decide_eq_true hs2.1) r
    exact q _ fp1 s1 c1 fun j hj => by
      have hj2 : j ≠ i := by simpa [Tg.slots] using hj
      rw [List.getElem?_set_ne (Ne.symm hj2)]
  | tp is =>
    cases r with
    | tup hx rs =>
      have h' : putEs is _ env = some env1 := h
      have len : ∀ {is : List Nat} {ds : List D} {env : Env}, putEs is ds env = some env1 → ds.length = is.length := by
        intro is
        induction is with
        | nil => intro ds env h; cases ds with
          | nil => rfl
          | cons d ds => cases h
        | cons i is ih => intro ds env h; cases ds with
          | nil => cases h
          | cons d ds => exact congrArg (· + 1) (ih (show putEs is ds (env.set i (some d)) = some env1 from h))
      exact ⟨_, _, rfl, s.ext.t hx, by rw [rs.length]; exact len h', gNs_read s rs h' hs q⟩
    | _ => cases h
/-- no parameter's list is named -/
theorem sh_keep {σ σ' : L2.St} {tg : Tg} (hs : tgOk ms tg = true) (k : ∀ j, j ∉ tg.slots → σ'[j]? = σ[j]?) : Keep ms σ σ' := fun j hj => by
  refine k j fun z => ?_
  have : shAll ms tg.slots = true := by cases tg <;> exact hs
  unfold shAll at this
  rw [List.all_eq_true] at this
  have := of_decide_eq_true (this j z)
  rw [hj] at this; cases this
def cUnp (tg : Tg) (f : CE) : CS := fun env => mbind (f env) fun d e => match asgT tg d e with
  | some e1 => some (.ok .nx, e1)
  | none => none
/-- target = e, by the target's rule -/
theorem ds_unp {tg : Tg} {te : Expr} (he : DE X ms .sh e fe) (hg : PG X te (tgR X.K tg)) (h0 : tgOk ms tg = true := by rfl) (hc : compat xm ms = true := by rfl) (hs : swapsWithSole [te] e pos.line X.env = pure false := by rfl) (hw : swappedStores [te] e X.env = pure none := by rfl)
    (h1 : (assignEach [te] X.env).map (·.2) = [assign te X.env] := by rfl) : DS X xm ms ms B ro (.Assign [te] e pos) (cUnp tg fe) := ⟨rfl, fun W tk => ps_imp (ps_asg (he W tk) hg hs hw h1) fun D σ H h => by
  obtain ⟨I, env, fp, s, r, env', h1, q1, q2, q3, q4, q5⟩ := h
  refine tE_then s h1 (fun e z => (q5 e z).bad hc) fun d e1 v H1 I1 fp1 h2 s1 t1 rv => ?_
  cases ha : asgT tg d e1 with
  | none => simp only [ha] at h2; cases h2
  | some e2 =>
    simp only [ha] at h2
    cases h2
    exact tg_read s1 rv ha h0 fun σ' fp' s' c k => q1 rfl σ' H1 I1 fp' s' (t1.less c) (sh_keep h0 k)⟩
theorem pg_nm (i : Nat) {x : Str} (hN : X.N.Nodup) (hi : X.N[i]? = some x := by rfl) (hx : Loc X.env.scope x := by first | exact .inl rfl | exact .inr rfl) (hf : X.fn x = true ∨ X.env.scope.names.lookup x = some .local := by first | exact .inl rfl | exact .inr rfl) : PG X (.Name x pos) (tgR X.K (.nm i)) :=
  pg_name (i := i) hN hi hx hf
/-! ### expressions, returns, ifs -/
def cDrop (f : CE) : CS := fun env => mbind (f env) fun _ e => some (.ok .nx, e)
theorem ds_expr (he : DE X ms .sh e fe) (hc : compat xm ms = true := by rfl) (hs : swapsWith e none pos.line X.env = pure false := by rfl) : DS X xm ms ms B ro (.Expr e pos) (cDrop fe) := ⟨rfl, fun W tk => ps_imp (ps_expr (he W tk) hs) fun D σ H h => by
  obtain ⟨I, env, fp, s, r, env', h1, q1, q2, q3, q4, q5⟩ := h
  refine tE_then s h1 (fun e z => (q5 e z).bad hc) fun d e1 v H1 I1 fp1 h2 s1 t1 rv => ?_
  cases h2
  exact q1 rfl σ H1 I1 fp1 s1 t1 (Keep.refl _ _)⟩
def cRet (f : CE) : CS := fun env => mbind (f env) fun d e => some (.ok (.rt d), e)
theorem ds_ret (he : DE X ms ro e fe) (hc : compat xm ms = true := by rfl) : DS X xm ms ms B ro (.Return (some e) pos) (cRet fe) := ⟨rfl, fun W tk => ps_imp (ps_ret (he W tk)) fun D σ H h => by
  obtain ⟨I, env, fp, s, r, env', h1, q1, q2, q3, q4, q5⟩ := h
  rcases mbind_some h1 with ⟨e, h2, rfl⟩ | ⟨d, e1, h2, h3⟩
  · exact ⟨I, env, fp, s, _, _, h2, fun d z => (by cases z), fun e' z => by cases z; exact (q5 e rfl).bad hc⟩
  · cases h3
    refine ⟨I, env, fp, s, _, _, h2, fun d' z v H1 I1 fp1 fv s1 t1 rv nd off => ?_, fun e' z => by cases z⟩
    cases z
    obtain ⟨fp2, s2, c2⟩ := s1.maskB (xm := []) (by unfold compat; rfl)
    obtain ⟨a1, a2, a3⟩ := List.nodup_append.mp nd
    exact q4 _ rfl v σ H1 I1 fp2 fv s2 (t1.less fun p hp => (List.mem_append.mp hp).elim (List.mem_append_left _) fun z => List.mem_append_right _ (c2 p z)) rv
      (List.nodup_append.mpr ⟨a1, s2.nd, fun x hx y hy => a3 x hx y (c2 y hy)⟩) off (Keep.refl _ _)⟩
def cRetN : CS := fun env => some (.ok (.rt .non), env)
theorem ds_retN (hro : ro ≠ .pr := by decide) : DS X xm ms ms B ro (.Return none pos) cRetN := ⟨rfl, fun W tk => ps_imp ps_retN fun D σ H h => by
  obtain ⟨I, env, fp, s, r, env', h1, q1, q2, q3, q4, q5⟩ := h
  cases h1
  obtain ⟨fp2, s2, c2⟩ := s.maskB (xm := []) (by unfold compat; rfl)
  refine q4 _ rfl .non σ H I fp2 [] s2 ((Step.refl I H fp).less c2) ?_ s2.nd (fun p hp => by cases hp) (Keep.refl _ _)
  cases ro with
  | sh => exact ⟨.non, rfl⟩
  | ow => exact .inl ⟨rfl, .non, rfl⟩
  | pr => exact absurd rfl hro⟩
/-- return x, x a list of one's own -/
theorem ds_retO (i : Nat) {x : Str} (hro : ro = .ow) (hm : ms[i]? = some .ow := by rfl) (hN : X.N[i]? = some x := by rfl) (hv : Vis X.env.scope x := by first | exact Or.inl rfl | exact Or.inr (Or.inl rfl) | exact Or.inr (Or.inr rfl)) (hd : (x == ("__debug__" : Str)) = false := by decide)
    (hcd : (x == ("__classdict__" : Str)) = false := by decide) : DS X xm ms ms B ro (.Return (some (.Name x p)) pos) (cRet (cVar i)) := ⟨rfl, fun W tk => ps_imp (ps_ret (pe_var hN hv hd hcd)) fun D σ H h => by
  subst hro
  obtain ⟨I, env, fp, s, r, env', h1, q1, q2, q3, q4, q5⟩ := h
  rcases mbind_some h1 with ⟨e, h2, rfl⟩ | ⟨d, e1, h2, h3⟩
  · obtain ⟨d, _, z, _⟩ := pOut_some h2; cases z
  · obtain ⟨d', g1, z, rfl⟩ := pOut_some h2
    cases z; cases h3
    obtain ⟨m, v, f, rest, k1, k2, k3, k4, k5⟩ := s.sl.out (getS_iff.mp g1)
    rw [hm] at k1; cases k1
    have nd : (f ++ rest).Nodup := k5.nodup_iff.mpr s.nd
    obtain ⟨a1, a2, a3⟩ := List.nodup_append.mp nd
    have s0 : St X.K ms I σ (env'.set i none) H rest := ⟨s.ext, a2, fun p hp => s.off p (k5.mem_iff.mp (List.mem_append_right _ hp)), k4⟩
    obtain ⟨fp2, s2, c2⟩ := s0.maskB (xm := []) (by unfold compat; rfl)
    have em : ∀ {ms : List Md} {env : Env} {i : Nat}, ms[i]? = some .ow → DI.maskB [] ms (env.set i none) = DI.maskB [] ms env := by
      intro ms
      induction ms with
      | nil => intro env i h; simp at h
      | cons m ms ih =>
        intro env i h
        cases env with
        | nil => rfl
        | cons o env =>
          cases i with
          | zero =>
            simp at h; subst h
            rfl
          | succ i =>
            show _ :: DI.maskB [] ms (env.set i none) = _ :: DI.maskB [] ms env
            rw [ih (by simpa using h)]
    rw [em hm] at s2
    refine ⟨v, k2, q4 _ rfl v σ H I fp2 f s2 ⟨.refl _, fun _ _ h _ => h, fun p hp => .inl ?_, fun _ h => .inl h⟩ k3 (List.nodup_append.mpr ⟨a1, s2.nd, fun x hx y hy => a3 x hx y (c2 y hy)⟩) (fun p hp => s.off p (k5.mem_iff.mp (List.mem_append_left _ hp))) (Keep.refl _ _)⟩
    rcases List.mem_append.mp hp with z | z
    · exact k5.mem_iff.mp (List.mem_append_left _ z)
    · exact k5.mem_iff.mp (List.mem_append_right _ (c2 p z))⟩
def cIfS (t : CB) (f1 f2 : CS) : CS := fun env => mbind (t env) fun b e => if b = true then f1 e else f2 e
theorem tS_back {K : PySem.W.Frag} {mg : Str → Option Value} {I H I1 H1 : Hp} {σ : L2.St} {env1 env' : Env} {fp fp1 : List Addr} {D : Ends} {r : Except Exn Fl} (s1 : St K ms I1 σ env1 H1 fp1) (t1 : Step I H fp I1 H1 fp1) (h : f env1 = some (r, env'))
    (q1 : r = .ok .nx → ∀ σ' H' I' fp', St K ms' I' σ' env' H' fp' → Step I H fp I' H' fp' → Keep ms σ σ' → D.nx σ' H')
    (q2 : r = .ok .bk → ∀ σ' H' I' fp', St K B I' σ' env' H' fp' → Step I H fp I' H' fp' → Keep ms σ σ' → D.bk σ' H')
    (q3 : r = .ok .ct → ∀ σ' H' I' fp', St K B I' σ' env' H' fp' → Step I H fp I' H' fp' → Keep ms σ σ' → D.ct σ' H')
    (q4 : ∀ d, r = .ok (.rt d) → ∀ v σ' H' I' fp' fv, St K (norm ms) I' σ' (DI.maskB [] ms env') H' fp' → Step I H fp I' H' (fv ++ fp') → RepM ro K I' H' v d fv → (fv ++ fp').Nodup → (∀ p ∈ fv, I' p = none) → Keep ms σ σ' → D.rt v H')
    (q5 : ∀ e, r = .error e → BadS K mg xm ms I σ H fp W e env') : tS K mg xm ms ms' B ro f W D σ H1 :=
  ⟨I1, env1, fp1, s1, r, env', h, fun z σ' H' I' fp' s' t' k' => q1 z σ' H' I' fp' s' (t1.trans t') k', fun z σ' H' I' fp' s' t' k' => q2 z σ' H' I' fp' s' (t1.trans t') k', fun z σ' H' I' fp' s' t' k' => q3 z σ' H' I' fp' s' (t1.trans t') k',
    fun d z v σ' H' I' fp' fv s' t' rv nd off k' => q4 d z v σ' H' I' fp' fv s' (t1.trans t') rv nd off k', fun e z => (q5 e z).back rfl t1 (Keep.refl _ _)⟩
theorem ds_if {c : Expr} {t : CB} {sa sb : List Stmt} (ht : DB X ms c t) (ha : DSs X xm ms ms' B ro sa f1) (hb : DSs X xm ms ms' B ro sb f2) (hc : compat xm ms = true := by rfl) : DS X xm ms ms' B ro (.If c sa sb pos) (cIfS t f1 f2) :=
  ⟨ha.nm, fun W tk => ps_imp (ps_if (ht W tk) (ha.run W tk) (hb.run W tk)) fun D σ H h => by
  obtain ⟨I, env, fp, s, r, env', h1, q1, q2, q3, q4, q5⟩ := h
  refine tB_then s h1 (fun e z => (q5 e z).bad hc) fun k e1 H1 I1 fp1 h2 s1 t1 => ?_
  cases k with
  | true => simp only [if_true] at h2 ⊢; exact tS_back s1 t1 h2 q1 q2 q3 q4 q5
  | false => simp only [Bool.false_eq_true, if_false] at h2 ⊢; exact tS_back s1 t1 h2 q1 q2 q3 q4 q5⟩
/-! ### x op= e -/
def cAug (i : Nat) (g : Prim) (f : CE) : CS := fun env => match getS env i with
  | none => none
  | some d0 => mbind (f env) fun d e => match g [d0, d] with
    | some d1 => some (.ok .nx, e.set i (some d1))
    | none => none
theorem ds_aug (i : Nat) {x : Str} {op : Operator} {r : R2} {g : Prim} (ho : OpR X (inplaceOp op) r) (hp : PrimOk X.K true (rOf2 r) g) (he : DE X ms .sh e fe) (hN : X.N.Nodup) (h0 : ms[i]? = some .sh := by rfl) (hi : X.N[i]? = some x := by rfl) (hx : Loc X.env.scope x := by first | exact .inl rfl | exact .inr rfl)
    (hc : compat xm ms = true := by rfl) (hf : X.fn x = true ∨ X.env.scope.names.lookup x = some .local := by first | exact .inl rfl | exact .inr rfl) : DS X xm ms ms B ro (.AugAssign (.Name x p) op e pos) (cAug i g fe) :=
  ⟨rfl, fun W tk => ps_imp (ps_aug (i := i) hN hi hx (he W tk) (ti := r) ho hf) fun D σ H h => by
  obtain ⟨I, env, fp, s, rr, env', h1, q1, q2, q3, q4, q5⟩ := h
  unfold cAug at h1
  cases g0 : getS env i with
  | none => rw [g0] at h1; cases h1
  | some d0 =>
    rw [g0] at h1
    obtain ⟨v0, k1, k2⟩ := s.sh (getS_iff.mp g0) h0
    refine ⟨v0, k1, tE_then s h1 (fun e z => (q5 e z).bad hc) fun d e1 v H1 I1 fp1 h2 s1 t1 rv => ?_⟩
    cases g2 : g [d0, d] with
    | none => simp only [g2] at h2; cases h2
    | some d1 =>
      simp only [g2] at h2
      cases h2
      have hpv := hp I1 H1 [v0, v] [d0, d] d1 (fun z H2 => D.nx (σ.set i (some z)) H2) s1.ext (.cons (.of_rep s1.ext (k2.mono t1.ext)) (.cons (.of_rep s1.ext rv) .nil)) g2
      obtain ⟨a1, a2, a3, a4⟩ := res_end (m := .sh) (fr := true) (Q := fun z H2 => D.nx (σ.set i (some z)) H2) (by decide) (.inl rfl) s1 fun v H' I' fp' fv s' t' rv' nd off => by
        obtain ⟨rr, rfl⟩ := rv'
        obtain ⟨fp3, s3, c3⟩ := put_sh s' h0 rr
        exact q1 rfl _ H' I' fp3 s3 ((t1.trans t').less c3) (keep_set h0 (by decide))
      exact hpv a1 a2 a3 a4⟩
end
end DI
set_option Elab.async false
set_option autoImplicit false
set_option linter.all false
set_option maxRecDepth 100000
set_option maxHeartbeats 2000000
/-! DI9: what is walked; for, while; comprehensions; lists changed in place. -/
namespace DI
open PySem PySem.Spec PyProof.Rows L2
/-! ### what is walked -/
abbrev CI := Env → Out (List D)
/-- the iterator J hands out the items, wherever I₀ stands -/
def IterOk (K : PySem.W.Frag) (J : It) (items : List D) (I0 : Hp) : Prop := ∀ (i : Nat) (I H : Hp) (ms : List Md) (σ : L2.St) (env : Env) (fp : List Addr), Ext I0 I → St K ms I σ env H fp →
  (i < items.length → J.go i H ∧ ∀ x H', J.yld i H x H' → ∃ I' d, items[i]? = some d ∧ Rep K I' x d ∧ St K ms I' σ env H' fp ∧ Step I H fp I' H' fp ∧ ∀ b, H b = none ∨ H' b = H b) ∧ (items.length ≤ i → J.stop i H)
def tI (K : PySem.W.Frag) (mg : Str → Option Value) (ms : List Md) (f : CI) (W : WX) : TI := fun σ H R => ∃ I env fp, St K ms I σ env H fp ∧ ∃ r env', f env = some (r, env') ∧
  (∀ items, r = .ok items → ∀ J H' I' fp', St K ms I' σ env' H' fp' → Step I H fp I' H' fp' → IterOk K J items I' → R J H') ∧
  (∀ e, r = .error e → Bad K mg ms I σ H fp W e env')
def DIt (X : Cx) (ms : List Md) (tg iter : Expr) (f : CI) : Prop := ∀ W, Takes X W → PI X tg iter (tI X.K X.mg ms f W)
section
variable {K : PySem.W.Frag} {mg : Str → Option Value} {ms : List Md} {W : WX}
theorem pi_imp {X : Cx} {tg iter : Expr} {t t' : TI} (h : PI X tg iter t) (i : ∀ σ H R, t' σ H R → t σ H R) : PI X tg iter t' := ⟨fun pins s σ H R I q => h.run pins s σ H R I (i σ H R q)⟩
theorem same_yld {I H : Hp} {x : V} {d : D} {items : List D} {i : Nat} {ms : List Md} {σ : L2.St} {env : Env} {fp : List Addr} (s : St K ms I σ env H fp) (h : items[i]? = some d) (r : Rep K I x d) :
    ∃ I' d, items[i]? = some d ∧ Rep K I' x d ∧ St K ms I' σ env H fp ∧ Step I H fp I' H fp ∧ ∀ b, H b = none ∨ H b = H b := ⟨I, d, h, r, s, .refl _ _ _, fun _ => .inr rfl⟩
theorem it_lst {I0 : Hp} {a : Addr} {xs : List V} {ds : List D} (h : SqL K I0 a xs) (r : Reps K I0 xs ds) : IterOk K (Itl K a) ds I0 := fun i I H ms σ env fp e s => by
  have hl : SqL K H a xs := s.ext.l (e.l h)
  refine ⟨fun hi => ?_, fun hi => ⟨xs, hl, by rw [r.length]; exact hi⟩⟩
  obtain ⟨x, h1, h2⟩ := r.get (List.getElem?_eq_getElem hi)
  refine ⟨⟨xs, x, hl, h1⟩, fun y H' ⟨e1, q⟩ => ?_⟩
  subst e1
  have e2 := q xs hl
  rw [h1] at e2; cases e2
  exact same_yld s (List.getElem?_eq_getElem hi) (h2.mono e)
theorem it_tup {I0 : Hp} {a : Addr} {xs : List V} {ds : List D} (h : SqT K I0 a xs) (r : Reps K I0 xs ds) : IterOk K (Itt K a) ds I0 := fun i I H ms σ env fp e s => by
  have hl : SqT K H a xs := s.ext.t (e.t h)
  refine ⟨fun hi => ?_, fun hi => ⟨xs, hl, by rw [r.length]; exact hi⟩⟩
  obtain ⟨x, h1, h2⟩ := r.get (List.getElem?_eq_getElem hi)
  refine ⟨⟨xs, x, hl, h1⟩, fun y H' ⟨e1, q⟩ => ?_⟩
  subst e1
  have e2 := q xs hl
  rw [h1] at e2; cases e2
  exact same_yld s (List.getElem?_eq_getElem hi) (h2.mono e)
def rangeD (lo : Int) (n : Nat) : List D := (List.range n).map fun i => .int (lo + (i : Nat))
theorem it_range {I0 : Hp} {lo : Int} {n : Nat} : IterOk K (Itr lo n) (rangeD lo n) I0 := fun i I H ms σ env fp e s => by
  have hl : (rangeD lo n).length = n := by unfold rangeD; rw [List.length_map, List.length_range]
  refine ⟨fun hi => ?_, fun hi => by rw [hl] at hi; exact hi⟩
  rw [hl] at hi
  refine ⟨hi, fun y H' ⟨e1, e2⟩ => ?_⟩
  subst e1 e2
  refine same_yld s (d := .int (lo + (i : Nat))) ?_ (.int _)
  unfold rangeD
  rw [List.getElem?_map, List.getElem?_range hi]; rfl
theorem new_yld {I H : Hp} {T : Addr} {xs : List V} {es : List D} {items : List D} {i : Nat} {ms : List Md} {σ : L2.St} {env : Env} {fp : List Addr} (s : St K ms I σ env H fp) (hT : H T = none) (h : items[i]? = some (.tup es)) (r : Reps K I xs es) :
    ∃ I' d, items[i]? = some d ∧ Rep K I' (.ref T) d ∧ St K ms I' σ env (upd H T (.tup xs)) fp ∧ Step I H fp I' (upd H T (.tup xs)) fp ∧ ∀ b, H b = none ∨ upd H T (.tup xs) b = H b :=
  ⟨upd I T (.tup xs), _, h, .tup (SqT.of upd_same) (r.mono (.new (s.ext.free hT))), s.newI hT, .newI hT s.ext, fun b => by
    by_cases e : b = T
    · subst e; exact .inl hT
    · exact .inr (upd_ne e)⟩
def enumD (ds : List D) : List D := (List.range ds.length).map fun i => .tup [.int (i : Nat), (ds[i]?).getD .non]
theorem it_enum {I0 : Hp} {a : Addr} {xs : List V} {ds : List D} (h : SqL K I0 a xs) (r : Reps K I0 xs ds) : IterOk K (Ite K a) (enumD ds) I0 := fun i I H ms σ env fp e s => by
  have hl : SqL K H a xs := s.ext.l (e.l h)
  have hn : (enumD ds).length = ds.length := by unfold enumD; rw [List.length_map, List.length_range]
  refine ⟨fun hi => ?_, fun hi => ⟨xs, hl, by rw [r.length]; rw [hn] at hi; exact hi⟩⟩
  rw [hn] at hi
  obtain ⟨x, h1, h2⟩ := r.get (List.getElem?_eq_getElem hi)
  refine ⟨⟨xs, x, hl, h1⟩, fun y H' ⟨T, z, e1, e2, e3, q⟩ => ?_⟩
  subst e1 e3
  have e2' := q xs hl
  rw [h1] at e2'; cases e2'
  refine new_yld s e2 (es := [.int (i : Nat), ds[i]]) ?_ (.cons (.int _) (.cons (h2.mono e) .nil))
  unfold enumD
  rw [List.getElem?_map, List.getElem?_range hi]
  show some (D.tup [.int (i : Nat), (ds[i]?).getD .non]) = _
  rw [List.getElem?_eq_getElem hi]; rfl
def zipD (as bs : List D) : List D := List.zipWith (fun x y => .tup [x, y]) as bs
theorem it_zip {I0 : Hp} {a b : Addr} {xs ys : List V} {ds es : List D} (h : SqL K I0 a xs) (r : Reps K I0 xs ds) (h' : SqL K I0 b ys) (r' : Reps K I0 ys es) : IterOk K (Itz K a b) (zipD ds es) I0 := fun i I H ms σ env fp e s => by
  have hl : SqL K H a xs := s.ext.l (e.l h)
  have hl' : SqL K H b ys := s.ext.l (e.l h')
  have hn : (zipD ds es).length = min ds.length es.length := by unfold zipD; rw [List.length_zipWith]
  refine ⟨fun hi => ?_, fun hi => ⟨xs, ys, hl, hl', by rw [r.length, r'.length]; rw [hn] at hi; omega⟩⟩
  rw [hn] at hi
  have h1 : i < ds.length := by omega
  have h2 : i < es.length := by omega
  obtain ⟨x, k1, k2⟩ := r.get (List.getElem?_eq_getElem h1)
  obtain ⟨y, k3, k4⟩ := r'.get (List.getElem?_eq_getElem h2)
  refine ⟨⟨xs, ys, x, y, hl, hl', k1, k3⟩, fun w H' ⟨T, x2, y2, e1, e2, e3, q1, q2⟩ => ?_⟩
  subst e1 e3
  have e4 := q1 xs hl
  have e5 := q2 ys hl'
  rw [k1] at e4; cases e4
  rw [k3] at e5; cases e5
  refine new_yld s e2 (es := [ds[i], es[i]]) ?_ (.cons (k2.mono e) (.cons (k4.mono e) .nil))
  unfold zipD
  rw [List.getElem?_zipWith, List.getElem?_eq_getElem h1, List.getElem?_eq_getElem h2]
def charsD (x : Str) : List D := x.cps.toList.map fun c => .str ⟨#[c]⟩
theorem it_str {I0 : Hp} {x : Str} : IterOk K (Its x) (charsD x) I0 := fun i I H ms σ env fp e s => by
  have hl : (charsD x).length = x.cps.size := by unfold charsD; rw [List.length_map, Array.length_toList]
  refine ⟨fun hi => ?_, fun hi => by rw [hl] at hi; exact hi⟩
  rw [hl] at hi
  refine ⟨hi, fun y H' ⟨e1, c, e2, e3⟩ => ?_⟩
  subst e1 e3
  refine same_yld s (d := .str ⟨#[c]⟩) ?_ (.str _)
  unfold charsD
  rw [List.getElem?_map, Array.getElem?_toList, e2]; rfl
def rangeCD (lo c : Int) (n : Nat) : List D := (List.range n).map fun i => .int (lo + (i : Nat) * c)
theorem it_rangeC {I0 : Hp} {lo c : Int} {n : Nat} : IterOk K (Itc lo c n) (rangeCD lo c n) I0 := fun i I H ms σ env fp e s => by
  have hl : (rangeCD lo c n).length = n := by unfold rangeCD; rw [List.length_map, List.length_range]
  refine ⟨fun hi => ?_, fun hi => by rw [hl] at hi; exact hi⟩
  rw [hl] at hi
  refine ⟨hi, fun y H' ⟨e1, e2⟩ => ?_⟩
  subst e1 e2
  refine same_yld s (d := .int (lo + (i : Nat) * c)) ?_ (.int _)
  unfold rangeCD
  rw [List.getElem?_map, List.getElem?_range hi]; rfl
/-! ### the items of an operand -/
def iOut (g : Option (List D)) (e : Env) : Out (List D) := match g with
  | some d => some (.ok d, e)
  | none => none
theorem iOut_some {g : Option (List D)} {e env' : Env} {r : Except Exn (List D)} (h : iOut g e = some (r, env')) : ∃ d, g = some d ∧ r = .ok d ∧ env' = e := by
  cases g with
  | none => cases h
  | some d => cases h; exact ⟨d, rfl, rfl, rfl⟩
/-- items of the operands' data (all of them by value) -/
def cIt (g : List D → Option (List D)) (os : List Opd) : CI := fun env => mbind (evalOs os env) fun ds e => iOut (g ds) e
theorem it_read {g : List D → Option (List D)} {os : List Opd} {σ : L2.St} {H : Hp} {R : It → Hp → Prop} {r : List V → Hp → (It → Hp → Prop) → Prop} (ht : os.all Opd.isTm = true)
    (hr : ∀ I H vs ds items, Ext I H → Reps K I vs ds → g ds = some items → ∀ R : It → Hp → Prop, (∀ J, IterOk K J items I → R J H) → r vs H R) (h : tI K mg ms (cIt g os) W σ H R) : tOs K mg ms W os σ H (fun vs H1 => r vs H1 R) := by
  obtain ⟨I, env, fp, s, x, env', h1, q, b⟩ := h
  refine os_then s h1 b fun ds e1 vs H1 I1 fp1 h2 s1 t1 rs => ?_
  obtain ⟨items, g1, rfl, rfl⟩ := iOut_some h2
  exact hr I1 H1 vs ds items s1.ext (rs.reps ht) g1 R fun J hJ => q items rfl J H1 I1 fp1 s1 t1 hJ
def giL : List D → Option (List D)
  | [.lst ds] => some ds
  | [.scr ns] => some (ns.map .int)
  | _ => none
def giT : List D → Option (List D)
  | [.tup ds] => some ds
  | _ => none
def giR1 : List D → Option (List D)
  | [.int j] => if -(2 ^ 62) ≤ j ∧ j < 2 ^ 62 then some (rangeD 0 j.toNat) else none
  | _ => none
def giR2 : List D → Option (List D)
  | [.int i, .int j] => if (-(2 ^ 62) ≤ i ∧ i < 2 ^ 62) ∧ -(2 ^ 62) ≤ j ∧ j < 2 ^ 62 then some (rangeD i (j - i).toNat) else none
  | _ => none
def giRm : List D → Option (List D)
  | [.int i, .int j, .int c] => if (-(2 ^ 62) ≤ i ∧ i < 2 ^ 62) ∧ (-(2 ^ 62) ≤ j ∧ j < 2 ^ 62) ∧ c = -1 then some (rangeCD i (-1) (i - j).toNat) else none
  | _ => none
def giE : List D → Option (List D)
  | [.lst ds] => some (enumD ds)
  | _ => none
def giZ : List D → Option (List D)
  | [.lst ds, .lst es] => some (zipD ds es)
  | _ => none
def giS : List D → Option (List D)
  | [.str x] => some (charsD x)
  | _ => none
end
section
variable {X : Cx} {ms : List Md} {tg a b c : Expr} {fa fb fc : CE} {p pos tpos : Pos} {elts : List Expr} {kk : Nat}
theorem reps1 {K : PySem.W.Frag} {I : Hp} {vs : List V} {d : D} (h : Reps K I vs [d]) : ∃ v, vs = [v] ∧ Rep K I v d := by
  cases h with
  | cons a b => cases b; exact ⟨_, rfl, a⟩
theorem reps2 {K : PySem.W.Frag} {I : Hp} {vs : List V} {d e : D} (h : Reps K I vs [d, e]) : ∃ v w, vs = [v, w] ∧ Rep K I v d ∧ Rep K I w e := by
  cases h with
  | cons a b => obtain ⟨w, rfl, c⟩ := reps1 b; exact ⟨_, w, rfl, a, c⟩
theorem reps3 {K : PySem.W.Frag} {I : Hp} {vs : List V} {d e f : D} (h : Reps K I vs [d, e, f]) : ∃ v w x, vs = [v, w, x] ∧ Rep K I v d ∧ Rep K I w e ∧ Rep K I x f := by
  cases h with
  | cons a b => obtain ⟨w, x, rfl, c⟩ := reps2 b; exact ⟨_, w, x, rfl, a, c⟩
theorem di_lst (ha : DE X ms .sh a fa) : DIt X ms tg a (cIt giL [.tm fa]) := fun W tk => pi_imp (pi_list (ha W tk)) fun σ H R h => by
  have h2 := it_read (K := X.K) (r := fun vs H1 R => ∃ x, vs = [x] ∧ ∃ a, x = .ref a ∧ (∃ xs, SqL X.K H1 a xs) ∧ R (Itl X.K a) H1) rfl (fun I H vs ds items e r g R q => by
    unfold giL at g
    split at g
    · obtain ⟨v, rfl, h⟩ := reps1 r
      cases g
      cases h with
      | lst h1 h2 => exact ⟨_, rfl, _, rfl, ⟨_, SqL.of (e _ _ h1)⟩, q _ (it_lst (SqL.of h1) h2)⟩
    · obtain ⟨v, rfl, h⟩ := reps1 r
      cases g
      cases h with
      | scr h1 => exact ⟨_, rfl, _, rfl, ⟨_, e.l h1⟩, q _ (it_lst h1 (Reps.ints _))⟩
    · cases g) h
  refine tE_mono (show tE X.K X.mg ms .sh fa W σ H (fun x H1 => ∃ x', [x] = [x'] ∧ ∃ a, x' = .ref a ∧ (∃ xs, SqL X.K H1 a xs) ∧ R (Itl X.K a) H1) from h2) fun v H1 ⟨x, e, q⟩ => ?_
  cases e; exact q
theorem di_tup (ha : DE X ms .sh a fa) : DIt X ms tg a (cIt giT [.tm fa]) := fun W tk => pi_imp (pi_tup (ha W tk)) fun σ H R h => by
  have h2 := it_read (K := X.K) (r := fun vs H1 R => ∃ x, vs = [x] ∧ ∃ a, x = .ref a ∧ (∃ xs, SqT X.K H1 a xs) ∧ R (Itt X.K a) H1) rfl (fun I H vs ds items e r g R q => by
    unfold giT at g
    split at g
    · obtain ⟨v, rfl, h⟩ := reps1 r
      cases g
      cases h with
      | tup h1 h2 => exact ⟨_, rfl, _, rfl, ⟨_, e.t h1⟩, q _ (it_tup h1 h2)⟩
    · cases g) h
  refine tE_mono (show tE X.K X.mg ms .sh fa W σ H (fun x H1 => ∃ x', [x] = [x'] ∧ ∃ a, x' = .ref a ∧ (∃ xs, SqT X.K H1 a xs) ∧ R (Itt X.K a) H1) from h2) fun v H1 ⟨x, e, q⟩ => ?_
  cases e; exact q
theorem di_str (ha : DE X ms .sh a fa) : DIt X ms tg a (cIt giS [.tm fa]) := fun W tk => pi_imp (pi_str (ha W tk)) fun σ H R h => by
  have h2 := it_read (K := X.K) (r := fun vs H1 R => ∃ x, vs = [x] ∧ ∃ z, x = .str z ∧ R (Its z) H1) rfl (fun I H vs ds items e r g R q => by
    unfold giS at g
    split at g
    · obtain ⟨v, rfl, h⟩ := reps1 r
      cases g
      cases h with
      | str z => exact ⟨_, rfl, _, rfl, q _ it_str⟩
    · cases g) h
  refine tE_mono (show tE X.K X.mg ms .sh fa W σ H (fun x H1 => ∃ x', [x] = [x'] ∧ ∃ z, x' = .str z ∧ R (Its z) H1) from h2) fun v H1 ⟨x, e, q⟩ => ?_
  cases e; exact q
theorem di_r1 (hg : Gl X "range") (hm : X.mg "range" = none) (ha : DOs X ms [a] [.tm fa]) (hs : starEach [a] X.env = [(false, eval a X.env)] := by rfl) : DIt X ms tg (.Call (.Name "range" p) [a] [] pos) (cIt giR1 [.tm fa]) := fun W tk =>
  pi_imp (pi_range1 hg hm (ha.pa tk) hs) fun σ H R h => it_read (r := fun vs H1 R => ∃ j : Int, vs = [.int j] ∧ -(2 ^ 62) ≤ j ∧ j < 2 ^ 62 ∧ R (Itr 0 j.toNat) H1) rfl (fun I H vs ds items e r g R q => by
    unfold giR1 at g
    split at g
    · obtain ⟨v, rfl, h⟩ := reps1 r
      split at g
      · rename_i hz
        cases g
        cases h
        exact ⟨_, rfl, hz.1, hz.2, q _ it_range⟩
      · cases g
    · cases g) h
theorem di_r2 (hg : Gl X "range") (hm : X.mg "range" = none) (ha : DOs X ms [a, b] [.tm fa, .tm fb]) (hs : starEach [a, b] X.env = [(false, eval a X.env), (false, eval b X.env)] := by rfl) (hs2 : starEach [b] X.env = [(false, eval b X.env)] := by rfl) :
    DIt X ms tg (.Call (.Name "range" p) [a, b] [] pos) (cIt giR2 [.tm fa, .tm fb]) := fun W tk =>
  pi_imp (pi_range2 hg hm (ha.pa tk) hs hs2) fun σ H R h => it_read (r := fun vs H1 R => ∃ i j : Int, vs = [.int i, .int j] ∧ (-(2 ^ 62) ≤ i ∧ i < 2 ^ 62 ∧ -(2 ^ 62) ≤ j ∧ j < 2 ^ 62) ∧ R (Itr i (j - i).toNat) H1) rfl (fun I H vs ds items e r g R q => by
    unfold giR2 at g
    split at g
    · obtain ⟨v, w, rfl, h, h'⟩ := reps2 r
      split at g
      · rename_i hz
        cases g
        cases h; cases h'
        exact ⟨_, _, rfl, ⟨hz.1.1, hz.1.2, hz.2.1, hz.2.2⟩, q _ it_range⟩
      · cases g
    · cases g) h
theorem di_rm (hg : Gl X "range") (hm : X.mg "range" = none) (ha : DOs X ms [a, b, c] [.tm fa, .tm fb, .tm fc]) (hs : starEach [a, b, c] X.env = (false, eval a X.env) :: starEach [b, c] X.env := by rfl) (hpl : (backTo pos (starEach [b, c] X.env)).any (·.1) = false := by rfl) :
    DIt X ms tg (.Call (.Name "range" p) [a, b, c] [] pos) (cIt giRm [.tm fa, .tm fb, .tm fc]) := fun W tk =>
  pi_imp (pi_range3 hg hm (ha.pa tk) hs hpl) fun σ H R h => it_read (r := fun vs H1 R => ∃ (i j c : Int) (n : Nat), vs = [.int i, .int j, .int c] ∧ RgC i j c n ∧ R (Itc i c n) H1) rfl (fun I H vs ds items e r g R q => by
    unfold giRm at g
    split at g
    · obtain ⟨v, w, x, rfl, h, h', h''⟩ := reps3 r
      split at g
      · rename_i hz
        obtain ⟨z1, z2, rfl⟩ := hz
        cases g
        cases h; cases h'; cases h''
        exact ⟨_, _, _, _, rfl, RgC.neg z1.1 z1.2 z2.1 z2.2, q _ it_rangeC⟩
      · cases g
    · cases g) h
theorem di_enum (hg : Gl X "enumerate") (hm : X.mg "enumerate" = none) (ha : DOs X ms [a] [.tm fa]) (hs : starEach [a] X.env = [(false, eval a X.env)] := by rfl) : DIt X ms (.Tuple elts kk tpos) (.Call (.Name "enumerate" p) [a] [] pos) (cIt giE [.tm fa]) := fun W tk =>
  pi_imp (pi_enum hg hm (ha.pa tk) hs) fun σ H R h => it_read (r := fun vs H1 R => ∃ a xs, vs = [.ref a] ∧ SqL X.K H1 a xs ∧ R (Ite X.K a) H1) rfl (fun I H vs ds items e r g R q => by
    unfold giE at g
    split at g
    · obtain ⟨v, rfl, h⟩ := reps1 r
      cases g
      cases h with
      | lst h1 h2 => exact ⟨_, _, rfl, SqL.of (e _ _ h1), q _ (it_enum (SqL.of h1) h2)⟩
    · cases g) h
theorem di_zip (hg : Gl X "zip") (hm : X.mg "zip" = none) (ha : DOs X ms [a, b] [.tm fa, .tm fb]) (hs : starEach [a, b] X.env = (false, eval a X.env) :: starEach [b] X.env := by rfl) (hpl : (backTo pos (starEach [b] X.env)).any (·.1) = false := by rfl) :
    DIt X ms (.Tuple elts kk tpos) (.Call (.Name "zip" p) [a, b] [] pos) (cIt giZ [.tm fa, .tm fb]) := fun W tk =>
  pi_imp (pi_zip hg hm (ha.pa tk) hs hpl) fun σ H R h => it_read (r := fun vs H1 R => ∃ a b xs ys, vs = [.ref a, .ref b] ∧ SqL X.K H1 a xs ∧ SqL X.K H1 b ys ∧ R (Itz X.K a b) H1) rfl (fun I H vs ds items e r g R q => by
    unfold giZ at g
    split at g
    · obtain ⟨v, w, rfl, h, h'⟩ := reps2 r
      cases g
      cases h with
      | lst h1 h2 =>
        cases h' with
        | lst h3 h4 => exact ⟨_, _, _, _, rfl, SqL.of (e _ _ h1), SqL.of (e _ _ h3), q _ (it_zip (SqL.of h1) h2 (SqL.of h3) h4)⟩
    · cases g) h
end
/-! ### for, while -/
def forD (tg : Tg) (body : CS) : List D → CS
  | [], e => some (.ok .nx, e)
  | d :: ds, e => match asgT tg d e with
    | none => none
    | some e1 => match body e1 with
      | none => none
      | some (.error x, e2) => some (.error x, e2)
      | some (.ok .nx, e2) => forD tg body ds e2
      | some (.ok .ct, e2) => forD tg body ds e2
      | some (.ok .bk, e2) => some (.ok .nx, e2)
      | some (.ok (.rt d), e2) => some (.ok (.rt d), e2)
def cFor (it : CI) (tg : Tg) (body : CS) : CS := fun env => mbind (it env) fun items e => forD tg body items e
def whileD (t : CB) (body : CS) : Nat → CS
  | 0, _ => none
  | n + 1, e => mbind (t e) fun b e1 => if b = true then (match body e1 with
      | none => none
      | some (.error x, e2) => some (.error x, e2)
      | some (.ok .nx, e2) => whileD t body n e2
      | some (.ok .ct, e2) => whileD t body n e2
      | some (.ok .bk, e2) => some (.ok .nx, e2)
      | some (.ok (.rt d), e2) => some (.ok (.rt d), e2)) else some (.ok .nx, e1)
section
variable {X : Cx} {xm : List Bool} {ms B : List Md} {ro : Md} {sts : List Stmt} {f : CS} {te iter c : Expr} {pos : Pos} {tg : Tg} {fi : CI} {t : CB}
theorem ds_for (hi : DIt X ms te iter fi) (hg : PG X te (tgR X.K tg)) (hb : DSs X xm ms ms ms ro sts f) (hp : PassesOwn (model X.prog X.w) X.A X.env X.xe) (hcalm : X.calm = true) (h0 : tgOk ms tg = true := by rfl) (hc : compat xm ms = true := by rfl)
    (hs : ∀ x, foldedSetIterable iter X.env x = pure x := by intro _; rfl) : DS X xm ms ms B ro (.For te iter sts [] pos) (cFor fi tg f) := ⟨rfl, fun W tk => ps_imp (ps_for hp hcalm (hi W tk) hg (hb.run W tk) hs) fun D σ H h => by
  obtain ⟨I, env, fp, s, r, env', h1, q1, q2, q3, q4, q5⟩ := h
  rcases mbind_some h1 with ⟨e, h2, rfl⟩ | ⟨items, e1, h2, h3⟩
  · exact ⟨I, env, fp, s, _, _, h2, fun d z => (by cases z), fun e' z => by cases z; exact (q5 e rfl).bad hc⟩
  · refine ⟨I, env, fp, s, _, _, h2, fun items' z J H1 I1 fp1 s1 t1 hJ => ?_, fun e' z => by cases z⟩
    cases z
    refine ⟨fun i m σ' H' => m = items.length - i ∧ i ≤ items.length ∧ ∃ I' en fp', Ext I1 I' ∧ St X.K ms I' σ' en H' fp' ∧ Step I H fp I' H' fp' ∧ Keep ms σ σ' ∧ forD tg f (items.drop i) en = some (r, env'),
      ⟨items.length, rfl, Nat.zero_le _, I1, e1, fp1, .refl _, s1, t1, Keep.refl _ _, h3⟩, ?_⟩
    rintro i m σ' H' ⟨rfl, hle, I', en, fp', x1, s', t', k', hf⟩
    obtain ⟨go, stop⟩ := hJ i I' H' ms σ' en fp' x1 s'
    by_cases hlt : i < items.length
    · obtain ⟨g1, g2⟩ := go hlt
      have hd : items.drop i = items[i] :: items.drop (i + 1) := List.drop_eq_getElem_cons hlt
      rw [hd] at hf
      refine .inr ⟨g1, fun σ2 H2 => ∃ I2 en2 fp2, Ext I1 I2 ∧ St X.K ms I2 σ2 en2 H2 fp2 ∧ Step I H fp I2 H2 fp2 ∧ Keep ms σ σ2 ∧ forD tg f (items.drop (i + 1)) en2 = some (r, env'), fun σ2 H2 ⟨I2, en2, fp2, a1, a2, a3, a4, a5⟩ =>
        ⟨items.length - (i + 1), by omega, rfl, hlt, I2, en2, fp2, a1, a2, a3, a4, a5⟩, fun x H2 hy => ?_⟩
      obtain ⟨I2, d, e2, rx, s2, t2, _⟩ := g2 x H2 hy
      rw [List.getElem?_eq_getElem hlt] at e2
      cases e2
      have hf' : (match asgT tg items[i] en with
        | none => none
        | some e1 => match f e1 with
          | none => none
          | some (.error x, e2) => some (.error x, e2)
          | some (.ok .nx, e2) => forD tg f (items.drop (i + 1)) e2
          | some (.ok .ct, e2) => forD tg f (items.drop (i + 1)) e2
          | some (.ok .bk, e2) => some (.ok .nx, e2)
          | some (.ok (.rt d), e2) => some (.ok (.rt d), e2)) = some (r, env') := hf
      cases ha : asgT tg items[i] en with
      | none => simp only [ha] at hf'; cases hf'
      | some en1 =>
        simp only [ha] at hf'
        refine tg_read s2 rx ha h0 fun σ3 fp3 s3 c3 k3 => ?_
        have t3 : Step I H fp I2 H2 fp3 := (t'.trans t2).less c3
        have kk : Keep ms σ σ3 := Keep.trans rfl k' (sh_keep h0 k3)
        cases hb1 : f en1 with
        | none => simp only [hb1] at hf'; cases hf'
        | some y =>
          obtain ⟨ry, en2⟩ := y
          simp only [hb1] at hf'
          have xe : Ext I1 I2 := x1.trans t2.ext
          refine ⟨I2, en1, fp3, s3, ry, en2, hb1, fun z σ4 H4 I4 fp4 s4 t4 k4 => ?_, fun z σ4 H4 I4 fp4 s4 t4 k4 => ?_, fun z σ4 H4 I4 fp4 s4 t4 k4 => ?_, fun d z v σ4 H4 I4 fp4 fv s4 t4 rv nd off k4 => ?_, fun e z => ?_⟩
          · subst z; exact ⟨I4, en2, fp4, xe.trans t4.ext, s4, t3.trans t4, Keep.trans rfl kk k4, hf'⟩
          · subst z
            cases hf'
            exact q1 rfl σ4 H4 I4 fp4 s4 (t3.trans t4) (Keep.trans rfl kk k4)
          · subst z; exact ⟨I4, en2, fp4, xe.trans t4.ext, s4, t3.trans t4, Keep.trans rfl kk k4, hf'⟩
          · subst z
            cases hf'
            exact q4 d rfl v σ4 H4 I4 fp4 fv s4 (t3.trans t4) rv nd off (Keep.trans rfl kk k4)
          · subst z
            cases hf'
            exact (q5 e rfl).back rfl t3 kk
    · have e0 : items.drop i = [] := List.drop_eq_nil_of_le (by omega)
      rw [e0] at hf
      cases hf
      exact .inl ⟨stop (by omega), q1 rfl σ' H' I' fp' s' t' k'⟩⟩
theorem ds_while (n : Nat) (ht : DB X ms c t) (hb : DSs X xm ms ms ms ro sts f) (hp : PassesOwn (model X.prog X.w) X.A X.env X.xe) (hc : compat xm ms = true := by rfl) : DS X xm ms ms B ro (.While c sts [] pos) (whileD t f n) := ⟨rfl, fun W tk => ps_imp (ps_while hp (ht W tk) (hb.run W tk)) fun D σ H h => by
  obtain ⟨I, env, fp, s, r, env', h1, q1, q2, q3, q4, q5⟩ := h
  refine ⟨fun m σ' H' => ∃ I' en fp', St X.K ms I' σ' en H' fp' ∧ Step I H fp I' H' fp' ∧ Keep ms σ σ' ∧ whileD t f m en = some (r, env'), ⟨n, I, env, fp, s, .refl _ _ _, Keep.refl _ _, h1⟩, ?_⟩
  rintro m σ' H' ⟨I', en, fp', s', t', k', hf⟩
  cases m with
  | zero => cases hf
  | succ m =>
    have hf' : mbind (t en) (fun b e1 => if b = true then (match f e1 with
      | none => none
      | some (.error x, e2) => some (.error x, e2)
      | some (.ok .nx, e2) => whileD t f m e2
      | some (.ok .ct, e2) => whileD t f m e2
      | some (.ok .bk, e2) => some (.ok .nx, e2)
      | some (.ok (.rt d), e2) => some (.ok (.rt d), e2)) else some (.ok .nx, e1)) = some (r, env') := hf
    refine tB_then s' hf' (fun e z => ((q5 e z).bad hc |>.back t') |> fun x => by
      intro c dd H2 I2 fp2 s2 t2 x2
      obtain ⟨fp3, s3, c3⟩ := s2.maskB hc
      exact q5 e z c dd σ' H2 I2 fp3 s3 ((t'.trans t2).less c3) x2 k') fun b e1 H1 I1 fp1 h2 s1 t1 => ?_
    have t3 : Step I H fp I1 H1 fp1 := t'.trans t1
    cases b with
    | false =>
      simp only [Bool.false_eq_true, if_false] at h2 ⊢
      cases h2
      exact q1 rfl σ' H1 I1 fp1 s1 t3 k'
    | true =>
      simp only [if_true] at h2 ⊢
      cases hb1 : f e1 with
      | none => simp only [hb1] at h2; cases h2
      | some y =>
        obtain ⟨ry, en2⟩ := y
        simp only [hb1] at h2
        refine ⟨fun σ2 H2 => ∃ I2 en2 fp2, St X.K ms I2 σ2 en2 H2 fp2 ∧ Step I H fp I2 H2 fp2 ∧ Keep ms σ σ2 ∧ whileD t f m en2 = some (r, env'), fun σ2 H2 w => ⟨m, by omega, w⟩, ?_⟩
        refine ⟨I1, e1, fp1, s1, ry, en2, hb1, fun z σ4 H4 I4 fp4 s4 t4 k4 => ?_, fun z σ4 H4 I4 fp4 s4 t4 k4 => ?_, fun z σ4 H4 I4 fp4 s4 t4 k4 => ?_, fun d z v σ4 H4 I4 fp4 fv s4 t4 rv nd off k4 => ?_, fun e z => ?_⟩
        · subst z; exact ⟨I4, en2, fp4, s4, t3.trans t4, Keep.trans rfl k' k4, h2⟩
        · subst z
          cases h2
          exact q1 rfl σ4 H4 I4 fp4 s4 (t3.trans t4) (Keep.trans rfl k' k4)
        · subst z; exact ⟨I4, en2, fp4, s4, t3.trans t4, Keep.trans rfl k' k4, h2⟩
        · subst z
          cases h2
          exact q4 d rfl v σ4 H4 I4 fp4 fv s4 (t3.trans t4) rv nd off (Keep.trans rfl k' k4)
        · subst z
          cases h2
          exact (q5 e rfl).back rfl t3 k'⟩
end
end DI
set_option Elab.async false
set_option autoImplicit false
set_option linter.all false
set_option maxRecDepth 100000
set_option maxHeartbeats 2000000
/-! DI10: comprehensions; lists changed in place; a def by its body. -/
namespace DI
open PySem PySem.Spec PyProof.Rows L2
/-! ### comprehensions -/
def wipeE (env : Env) : List Nat → Env
  | [] => env
  | v :: vs => (wipeE env vs).set v none
def restoreE (e0 env : Env) : List Nat → Env
  | [] => env
  | v :: vs => (restoreE e0 env vs).set v (getS e0 v)
def lcD (tg : Tg) (c : CB) (f : CE) (vs : List Nat) : List D → Env → Out (List D)
  | [], e => some (.ok [], e)
  | d :: ds, e => match asgT tg d (wipeE e vs) with
    | none => none
    | some e1 => mbind (c e1) fun b e2 => if b = true then mbind (f e2) fun y e3 => mbind (lcD tg c f vs ds e3) fun ys e4 => some (.ok (y :: ys), e4) else lcD tg c f vs ds e2
def lcOut (e1 : Env) (vs : List Nat) : Out (List D) → Out D
  | some (.ok ys, e2) => if ys.length ≤ sizeLine then some (.ok (.lst ys), restoreE e1 (wipeE e2 vs) vs) else none
  | _ => none
def cLc (it : CI) (tg : Tg) (c : CB) (f : CE) (vs : List Nat) : CE := fun env => mbind (it env) fun items e => lcOut e vs (lcD tg c f vs items e)
section
variable {K : PySem.W.Frag} {I H : Hp} {ms : List Md} {σ : L2.St} {fp : List Addr}
theorem Slots.congr : ∀ {ms : List Md} {σ σ2 : L2.St} {env : Env} {fp : List Addr}, Slots K I H ms σ env fp → σ2.length = σ.length → (∀ (i : Nat) d, env[i]? = some (some d) → σ2[i]? = σ[i]?) → Slots K I H ms σ2 env fp
  | _, _, [], _, _, .nil, _, _ => .nil
  | _, _, _ :: _, _, _, .nil, h, _ => by cases h
  | _, _, [], _, _, .non s, h, _ => by cases h
  | _, _, o2 :: σ2, _, _, .non s, h, k => .non (s.congr (by simpa using h) fun i d hd => by have := k (i + 1) d (by simpa using hd); simpa using this)
  | _, _, [], _, _, .som q s, h, _ => by cases h
  | _, _, o2 :: σ2, _, _, .som q s, h, k => by
    have h0 := k 0 _ rfl
    simp at h0
    subst h0
    exact .som q (s.congr (by simpa using h) fun i d hd => by have := k (i + 1) d (by simpa using hd); simpa using this)
theorem wipeE_length (e : Env) : ∀ vs : List Nat, (wipeE e vs).length = e.length
  | [] => rfl
  | v :: vs => by unfold wipeE; rw [List.length_set, wipeE_length e vs]
theorem wipeE_some {e : Env} {i : Nat} {d : D} : ∀ {vs : List Nat}, (wipeE e vs)[i]? = some (some d) → e[i]? = some (some d) ∧ i ∉ vs
  | [], h => ⟨h, by simp⟩
  | v :: vs, h => by
    unfold wipeE at h
    by_cases hi : v = i
    · subst hi
      by_cases hv : v < (wipeE e vs).length
      · rw [List.getElem?_set_self hv] at h; cases h
      · rw [List.getElem?_eq_none (by simpa using hv)] at h; cases h
    · rw [List.getElem?_set_ne hi] at h
      obtain ⟨h1, h2⟩ := wipeE_some h
      exact ⟨h1, by simp only [List.mem_cons, not_or]; exact ⟨fun e => hi e.symm, h2⟩⟩
theorem wipe_off {i : Nat} : ∀ {vs : List Nat}, i ∉ vs → (wipe σ vs)[i]? = σ[i]?
  | [], _ => rfl
  | v :: vs, h => by
    have h2 : i ≠ v ∧ i ∉ vs := by simpa using h
    unfold wipe
    rw [List.getElem?_set_ne (Ne.symm h2.1), wipe_off h2.2]
theorem wipe_on {i : Nat} : ∀ {vs : List Nat}, i ∈ vs → i < σ.length → (wipe σ vs)[i]? = some none
  | [], h, _ => by cases h
  | v :: vs, h, hl => by
    unfold wipe
    by_cases e : v = i
    · subst e
      rw [List.getElem?_set_self (by rw [wipe_length]; exact hl)]
    · rw [List.getElem?_set_ne e]
      exact wipe_on (by simpa [Ne.symm e] using h) hl
theorem wipe_eq {σ3 : L2.St} {vs : List Nat} (hl : σ3.length = σ.length) (h : ∀ j, j ∉ vs → σ3[j]? = σ[j]?) : wipe σ3 vs = wipe σ vs := by
  apply List.ext_getElem?
  intro i
  by_cases hi : i ∈ vs
  · by_cases hlt : i < σ.length
    · rw [wipe_on hi hlt, wipe_on hi (by omega)]
    · rw [List.getElem?_eq_none (by rw [wipe_length]; omega), List.getElem?_eq_none (by rw [wipe_length]; omega)]
  · rw [wipe_off hi, wipe_off hi, h i hi]
theorem St.unsets {env : Env} : ∀ {vs : List Nat}, St K ms I σ env H fp → ∃ fp', St K ms I σ (wipeE env vs) H fp' ∧ ∀ p ∈ fp', p ∈ fp
  | [], s => ⟨fp, s, fun _ h => h⟩
  | v :: vs, s => by
    obtain ⟨fp1, s1, c1⟩ := St.unsets (vs := vs) s
    obtain ⟨fp2, a, b⟩ := s1.sl.unset v
    exact ⟨fp2, ⟨s1.ext, s1.nd.sublist b, fun p hp => s1.off p (b.subset hp), a⟩, fun p hp => c1 p (b.subset hp)⟩
theorem St.wipe {env : Env} {vs : List Nat} (s : St K ms I σ env H fp) : ∃ fp', St K ms I (wipe σ vs) (wipeE env vs) H fp' ∧ ∀ p ∈ fp', p ∈ fp := by
  obtain ⟨fp', s', c⟩ := St.unsets (vs := vs) s
  exact ⟨fp', ⟨s'.ext, s'.nd, s'.off, s'.sl.congr (wipe_length _ _) fun i d hd => wipe_off (wipeE_some hd).2⟩, c⟩
theorem St.restore {env e0 : Env} : ∀ {vs : List Nat}, St K ms I σ env H fp → shAll ms vs = true → (∀ v ∈ vs, ∀ d, getS e0 v = some d → ∃ x, σ[v]? = some (some x) ∧ Rep K I x d) → ∃ fp', St K ms I σ (restoreE e0 env vs) H fp' ∧ ∀ p ∈ fp', p ∈ fp
  | [], s, _, _ => ⟨fp, s, fun _ h => h⟩
  | v :: vs, s, h, r => by
    have h2 : (decide (ms[v]? = some .sh) && shAll ms vs) = true := h
    rw [Bool.and_eq_true] at h2
    obtain ⟨fp1, s1, c1⟩ := St.restore (vs := vs) s h2.2 fun w hw d hd => r w (List.mem_cons_of_mem _ hw) d hd
    cases g : getS e0 v with
    | none =>
      obtain ⟨fp2, a, b⟩ := s1.sl.unset v
      refine ⟨fp2, ?_, fun p hp => c1 p (b.subset hp)⟩
      unfold restoreE
      rw [g]
      exact ⟨s1.ext, s1.nd.sublist b, fun p hp => s1.off p (b.subset hp), a⟩
    | some d =>
      obtain ⟨x, e1, e2⟩ := r v List.mem_cons_self d g
      obtain ⟨fp2, a, b, c⟩ := s1.sl.fill (f := []) (of_decide_eq_true h2.1) e1 ⟨e2, rfl⟩ s1.nd
      have c' : ∀ p ∈ fp2, p ∈ fp1 := fun p hp => (c p hp).elim (fun z => by cases z) id
      refine ⟨fp2, ?_, fun p hp => c1 p (c' p hp)⟩
      unfold restoreE
      rw [g]
      exact ⟨s1.ext, b, fun p hp => s1.off p (c' p hp), a⟩
/-- a list that is no slot's changes -/
theorem St.setD {env : Env} {p : Addr} {o : HO} (s : St K ms I σ env H fp) (hI : I p = none) (hf : p ∉ fp) : St K ms I σ env (upd H p o) fp :=
  ⟨s.ext.mut hI, s.nd, s.off, s.sl.move (.refl _) fun q hq u hu => by rw [upd_ne fun z => hf (by rw [← z]; exact hq)]; exact hu⟩
end
def DTs (X : Cx) (ms : List Md) (ifs : List Expr) (c : CB) : Prop := ∀ W, Takes X W → PTs X ifs (tB1 X.K X.mg ms c W)
def cYes : CB := fun e => some (.ok true, e)
section
variable {X : Cx} {ms : List Md} {m : Md} {e tg iter elt : Expr} {ifs : List Expr} {c : CB} {f : CE} {fi : CI} {tgs : Tg} {pos p : Pos} {scope : Scope} {own : List (Str × Nat)}
theorem dts_nil : DTs X ms [] cYes := fun W tk => ⟨fun pins s σ H Q I h => by
  obtain ⟨J, env, fp, st, r, env', h1, q, b⟩ := h
  cases h1
  exact pts_nil.run pins s σ H Q I (q true rfl H J fp st (.refl _ _ _))⟩
theorem dts_one (h : DB X ms e c) : DTs X ms [e] c := fun W tk => pts_one (h W tk)
theorem lc_read {K : PySem.W.Frag} {mg : Str → Option Value} {vs : List Nat} {W : WX} {σ : L2.St} {H : Hp} {Q : VK} (hm : m ≠ .pr) (h0 : tgOk ms tgs = true) (hv : tgs.slots.all (fun j => decide (j ∈ vs)) = true) (hsh : shAll ms vs = true)
    (h : tE K mg ms m (cLc fi tgs c f vs) W σ H Q) : tLc (tI K mg ms fi W) (tgR K tgs) (tB1 K mg ms c (fun _ _ _ _ => False)) (tE K mg ms .sh f (fun _ _ _ _ => False)) vs σ H Q := by
  obtain ⟨I, env, fp, s, r, env', h1, q, b⟩ := h
  rcases mbind_some h1 with ⟨e, h2, rfl⟩ | ⟨items, e1, h2, h3⟩
  · exact ⟨I, env, fp, s, _, _, h2, fun d z => (by cases z), fun e' z => by cases z; exact b e rfl⟩
  · refine ⟨I, env, fp, s, _, _, h2, fun items' z J H1 I1 fp1 s1 t1 hJ => ?_, fun e' z => by cases z⟩
    cases z
    intro Dl hD
    -- the loop's whole run
    unfold lcOut at h3
    split at h3
    case h_2 => cases h3
    rename_i ys e2 hrun
    split at h3
    case isFalse => cases h3
    rename_i hsz
    cases h3
    have hvs : ∀ j, j ∈ tgs.slots → j ∈ vs := fun j hj => by
      rw [List.all_eq_true] at hv
      exact of_decide_eq_true (hv j hj)
    have dI1 : I1 Dl = none := s1.ext.free hD
    have dfp1 : Dl ∉ fp1 := fun z => by
      obtain ⟨xs, hx⟩ := s1.sl.there Dl z
      rw [hD] at hx; cases hx
    obtain ⟨fp2, s2, c2⟩ := (s1.newH (o := .lst []) hD).wipe (vs := vs)
    refine ⟨fun i mm H' => mm = items.length - i ∧ i ≤ items.length ∧ ∃ I' en fp' acc accV, Ext I1 I' ∧ St K ms I' (wipe σ vs) (wipeE en vs) H' fp' ∧ Step I1 (upd H1 Dl (.lst [])) (Dl :: fp1) I' H' (Dl :: fp') ∧ H' Dl = some (.lst accV) ∧ Reps K I' accV acc ∧ I' Dl = none ∧ Dl ∉ fp' ∧
      ∃ zs, lcD tgs c f vs (items.drop i) en = some (.ok zs, e2) ∧ acc ++ zs = ys,
      ⟨items.length, rfl, Nat.zero_le _, I1, e1, fp2, [], [], .refl _, s2, (Step.refl _ _ _).less (fun p hp => ?_), upd_same, .nil, dI1, fun z => dfp1 (c2 _ z), ys, hrun, rfl⟩, ?_⟩
    · rcases List.mem_cons.mp hp with z | z
      · rw [z]; exact List.mem_cons_self
      · exact List.mem_cons_of_mem _ (c2 p z)
    rintro i mm H' ⟨rfl, hle, I', en, fp', acc, accV, x1, s', t', hDl, racc, dI, dfp, zs, hf, hys⟩
    obtain ⟨go, stop⟩ := hJ i I' H' ms _ _ fp' x1 s'
    by_cases hlt : i < items.length
    · obtain ⟨g1, g2⟩ := go hlt
      have hd : items.drop i = items[i] :: items.drop (i + 1) := List.drop_eq_getElem_cons hlt
      rw [hd] at hf
      refine .inr ⟨g1, fun H2 => ∃ I' en fp' acc accV, Ext I1 I' ∧ St K ms I' (wipe σ vs) (wipeE en vs) H2 fp' ∧ Step I1 (upd H1 Dl (.lst [])) (Dl :: fp1) I' H2 (Dl :: fp') ∧ H2 Dl = some (.lst accV) ∧ Reps K I' accV acc ∧ I' Dl = none ∧ Dl ∉ fp' ∧
        ∃ zs, lcD tgs c f vs (items.drop (i + 1)) en = some (.ok zs, e2) ∧ acc ++ zs = ys, fun H2 w => ⟨items.length - (i + 1), by omega, rfl, hlt, w⟩, fun x H2 hy => ?_⟩
      obtain ⟨I2, d, e3, rx, s2, t2, hH2⟩ := g2 x H2 hy
      rw [List.getElem?_eq_getElem hlt] at e3
      cases e3
      have hf' : (match asgT tgs items[i] (wipeE en vs) with
        | none => none
        | some e1 => mbind (c e1) fun b e2 => if b = true then mbind (f e2) fun y e3 => mbind (lcD tgs c f vs (items.drop (i + 1)) e3) fun ys e4 => some (.ok (y :: ys), e4) else lcD tgs c f vs (items.drop (i + 1)) e2) = some (.ok zs, e2) := hf
      cases ha : asgT tgs items[i] (wipeE en vs) with
      | none => simp only [ha] at hf'; cases hf'
      | some en1 =>
        simp only [ha] at hf'
        -- what is known of the list that grows
        have dl2 : H2 Dl = some (.lst accV) := t2.keep Dl _ hDl dfp
        have nI2 : I2 Dl = none := by
          cases z : I2 Dl with
          | none => rfl
          | some o => rcases t2.gr Dl (by rw [z]; simp) with y | y | y
                      · exact absurd dI y
                      · exact absurd y dfp
                      · rw [hDl] at y; cases y
        refine tg_read s2 rx ha h0 fun σ3 fp3 s3 c3 k3 => ?_
        have hl3 : σ3.length = (wipe σ vs).length := by rw [s3.sl.len.2, ← s3.sl.len.1, s'.sl.len.1, ← s'.sl.len.2]
        have off3 : ∀ j, j ∉ vs → σ3[j]? = (wipe σ vs)[j]? := fun j hj => k3 j fun z => hj (hvs j z)
        have ew : wipe σ3 vs = wipe σ vs := by
          have := wipe_eq (σ := σ) (σ3 := σ3) (vs := vs) (by rw [hl3, wipe_length]) fun j hj => by rw [off3 j hj, wipe_off hj]
          exact this
        refine ⟨ew, ?_⟩
        have nfp3 : Dl ∉ fp3 := fun z => dfp (c3 _ z)
        -- the state's way from its start to some later state
        have later : ∀ {I4 H4 : Hp} {fp4 : List Addr}, Step I2 H2 fp3 I4 H4 fp4 → H4 Dl = some (.lst accV) ∧ I4 Dl = none ∧ Dl ∉ fp4 := fun {I4 H4 fp4} t4 => by
          refine ⟨t4.keep Dl _ dl2 nfp3, ?_, fun z => ?_⟩
          · cases z : I4 Dl with
            | none => rfl
            | some o => rcases t4.gr Dl (by rw [z]; simp) with y | y | y
                        · exact absurd nI2 y
                        · exact absurd y nfp3
                        · rw [dl2] at y; cases y
          · rcases t4.own Dl z with y | y
            · exact nfp3 y
            · rw [dl2] at y; cases y
        have tt : ∀ {I4 H4 : Hp} {fp4 : List Addr}, Step I2 H2 fp3 I4 H4 fp4 → Step I1 (upd H1 Dl (.lst [])) (Dl :: fp1) I4 H4 (Dl :: fp4) := fun {I4 H4 fp4} t4 => by
          have t24 : Step I' H' fp' I4 H4 fp4 := (t2.less c3).trans t4
          have t24' : Step I' H' (Dl :: fp') I4 H4 (Dl :: fp4) := ⟨t24.ext, fun b o hb hn => t24.keep b o hb fun z => hn (List.mem_cons_of_mem _ z), fun p hp => by
            rcases List.mem_cons.mp hp with z | z
            · exact .inl (by rw [z]; exact List.mem_cons_self)
            · exact (t24.own p z).imp_left (List.mem_cons_of_mem _), fun b hb => (t24.gr b hb).imp_right fun z => z.imp_left (List.mem_cons_of_mem _)⟩
          exact t'.trans t24'
        rcases mbind_some hf' with ⟨er, h4, z⟩ | ⟨bb, en2, h4, h5⟩
        · cases z
        refine ⟨I2, en1, fp3, s3, _, _, h4, fun b' z H3 I3 fp3' s3' t3 => ?_, fun e' z => by cases z⟩
        cases z
        cases bb with
        | false =>
          simp only [Bool.false_eq_true, if_false] at h5 ⊢
          obtain ⟨w1, w2, w3⟩ := later t3
          obtain ⟨fp5, s5, c5⟩ := s3'.wipe (vs := vs)
          rw [ew] at s5
          exact ⟨I3, en2, fp5, acc, accV, x1.trans (t2.ext.trans t3.ext), s5, (tt t3).less (fun p hp => by
            rcases List.mem_cons.mp hp with z | z
            · rw [z]; exact List.mem_cons_self
            · exact List.mem_cons_of_mem _ (c5 p z)), w1, racc.mono (t2.ext.trans t3.ext), w2, fun z => w3 (c5 _ z), zs, h5, hys⟩
        | true =>
          simp only [if_true] at h5 ⊢
          rcases mbind_some h5 with ⟨er, h6, z⟩ | ⟨y, en3, h6, h7⟩
          · cases z
          refine ⟨I3, en2, fp3', s3', _, _, h6, fun d' z v H4 I4 fp4 fv s4 t4 rv nd off => ?_, fun e' z => by cases z⟩
          cases z
          obtain ⟨rv, rfl⟩ := rv
          have t34 : Step I2 H2 fp3 I4 H4 fp4 := t3.trans t4
          obtain ⟨w1, w2, w3⟩ := later t34
          rcases mbind_some h7 with ⟨er, h8, z⟩ | ⟨zs', en4, h8, h9⟩
          · cases z
          cases h9
          have hlen : accV.length < sizeLine := by
            rw [racc.length]
            have := congrArg List.length hys
            rw [List.length_append, List.length_cons] at this
            omega
          refine ⟨accV, w1, hlen, ?_⟩
          obtain ⟨fp5, s5, c5⟩ := (s4.setD (o := .lst (accV ++ [v])) w2 w3).wipe (vs := vs)
          rw [ew] at s5
          have tD : Step I4 H4 (Dl :: fp4) I4 (upd H4 Dl (.lst (accV ++ [v]))) (Dl :: fp5) := ⟨.refl _, fun b o hb hn => by
            rw [upd_ne fun z => hn (by rw [z]; exact List.mem_cons_self)]; exact hb, fun p hp => .inl (by
            rcases List.mem_cons.mp hp with z | z
            · rw [z]; exact List.mem_cons_self
            · exact List.mem_cons_of_mem _ (c5 p z)), fun b hb => .inl hb⟩
          refine ⟨I4, en3, fp5, acc ++ [y], accV ++ [v], x1.trans (t2.ext.trans t34.ext), s5, (tt t34).trans tD, upd_same, (racc.mono (t2.ext.trans t34.ext)).append (.cons rv .nil), w2, fun z => w3 (c5 _ z), zs', h8, ?_⟩
          rw [List.append_assoc]; exact hys
    · have e0 : items.drop i = [] := List.drop_eq_nil_of_le (by omega)
      rw [e0] at hf
      cases hf
      rw [List.append_nil] at hys
      subst hys
      refine .inl ⟨stop (by omega), ?_⟩
      -- the outer slots again
      have s6 : St K ms I' σ (wipeE e2 vs) H' fp' := ⟨s'.ext, s'.nd, s'.off, s'.sl.congr (wipe_length _ _).symm fun i d hd => (wipe_off (wipeE_some hd).2).symm⟩
      obtain ⟨fp7, s7, c7⟩ := s6.restore (e0 := e1) hsh fun v hv d hd => by
        have hm2 : ms[v]? = some .sh := by
          unfold shAll at hsh
          rw [List.all_eq_true] at hsh
          exact of_decide_eq_true (hsh v hv)
        obtain ⟨x, a1, a2⟩ := s1.sh (getS_iff.mp hd) hm2
        exact ⟨x, a1, a2.mono x1⟩
      have own7 : ∀ p ∈ Dl :: fp7, p ∈ fp ∨ H p = none := fun p hp => by
        have hp2 : p ∈ Dl :: fp' := by
          rcases List.mem_cons.mp hp with z | z
          · rw [z]; exact List.mem_cons_self
          · exact List.mem_cons_of_mem _ (c7 p z)
        rcases t'.own p hp2 with z | z
        · rcases List.mem_cons.mp z with y | y
          · subst y
            by_cases hf : p ∈ fp
            · exact .inl hf
            · right
              cases w : H p with
              | none => rfl
              | some o => have := t1.keep p o w hf; rw [hD] at this; cases this
          · exact t1.own p (by simpa using y)
        · have : p ≠ Dl := fun y => by rw [y, upd_same] at z; cases z
          rw [upd_ne this] at z
          by_cases hf : p ∈ fp
          · exact .inl hf
          · right
            cases w : H p with
            | none => rfl
            | some o => have := t1.keep p o w hf; rw [z] at this; cases this
      have kp7 : ∀ b o, H b = some o → b ∉ fp → H' b = some o := fun b o hb hn => by
        have h1 := t1.keep b o hb hn
        have nb : b ≠ Dl := fun y => by rw [y, hD] at h1; cases h1
        refine t'.keep b o (by rw [upd_ne nb]; exact h1) fun z => ?_
        rcases List.mem_cons.mp z with y | y
        · exact nb y
        · rcases t1.own b (by simpa using y) with w | w
          · exact hn w
          · rw [hb] at w; cases w
      have gr7 : ∀ b, I' b ≠ none → I b ≠ none ∨ b ∈ fp ∨ H b = none := fun b hb => by
        rcases t'.gr b hb with z | z | z
        · exact t1.gr b z
        · rcases List.mem_cons.mp z with y | y
          · subst y; rw [dI] at hb; exact absurd rfl hb
          · rcases t1.own b (by simpa using y) with w | w
            · exact .inr (.inl w)
            · exact .inr (.inr w)
        · have nb : b ≠ Dl := fun y => by rw [y, upd_same] at z; cases z
          rw [upd_ne nb] at z
          by_cases hf : b ∈ fp
          · exact .inr (.inl hf)
          · right; right
            cases w : H b with
            | none => rfl
            | some o => have := t1.keep b o w hf; rw [z] at this; cases this
      have hstep : ∀ {fpx : List Addr}, (∀ p ∈ fpx, p ∈ Dl :: fp7) → Step I H fp I' H' fpx := fun {fpx} hx => ⟨t1.ext.trans t'.ext, kp7, fun p hp => own7 p (hx p hp), gr7⟩
      have nf7 : Dl ∉ fp7 := fun z => dfp (c7 _ z)
      cases m with
      | pr => exact absurd rfl hm
      | ow =>
        refine q _ rfl (.ref Dl) H' I' fp7 [Dl] s7 (hstep fun p hp => by simpa using hp) (.inr ⟨Dl, accV, acc, rfl, rfl, hDl, racc, rfl⟩) (List.nodup_cons.mpr ⟨nf7, s7.nd⟩) fun p hp => ?_
        simp at hp; subst hp; exact dI
      | sh =>
        have ex : Ext I' (upd I' Dl (.lst accV)) := .new dI
        have t8 := hstep (fpx := fp7) fun p hp => List.mem_cons_of_mem _ hp
        refine q _ rfl (.ref Dl) H' (upd I' Dl (.lst accV)) fp7 [] ⟨fun a o ha => ?_, s7.nd, fun p hp => ?_, s7.sl.move ex fun p hp o ho => ho⟩ ⟨t8.ext.trans ex, t8.keep, t8.own, fun b hb => ?_⟩ ⟨.lst upd_same (racc.mono ex), rfl⟩ s7.nd fun p hp => by cases hp
        · by_cases e : a = Dl
          · subst e; rw [upd_same] at ha; cases ha; exact hDl
          · rw [upd_ne e] at ha; exact s7.ext a o ha
        · rw [upd_ne fun z => nf7 (by rw [← z]; exact hp)]; exact s7.off p hp
        · by_cases e : b = Dl
          · subst e; exact .inr (own7 b List.mem_cons_self)
          · rw [upd_ne e] at hb; exact t8.gr b hb
theorem de_lc (hi : DIt X ms tg iter fi) (ok : BlkOk X.N X.env.scope scope own) (hg : ∀ (s : Shared) (H : Hp) (C : Addr) (cl : List (Str × Addr)) (fp : List Addr), PG (X.blk s H scope (compEnvC scope cl C X.env) fp) tg (tgR X.K tgs))
    (ht : ∀ (s : Shared) (H : Hp) (C : Addr) (cl : List (Str × Addr)) (fp : List Addr), DTs (X.blk s H scope (compEnvC scope cl C X.env) fp) ms ifs c) (he : ∀ (s : Shared) (H : Hp) (C : Addr) (cl : List (Str × Addr)) (fp : List Addr), DE (X.blk s H scope (compEnvC scope cl C X.env) fp) ms .sh elt f)
    (hc : X.calm = true) (hN : X.N.Nodup) (hm : m ≠ .pr := by decide) (h0 : tgOk ms tgs = true := by rfl) (hv : tgs.slots.all (fun j => decide (j ∈ own.map (·.2))) = true := by rfl) (hsh : shAll ms (own.map (·.2)) = true := by rfl) (hs : ∀ x, foldedSetIterable iter X.env x = pure x := by intro _; rfl) :
    DE X ms m (.ListComp elt [⟨tg, iter, ifs, 0⟩] scope pos) (cLc fi tgs c f (own.map (·.2))) := fun W tk =>
  pe_imp (pe_lc hc hN (hi W tk) ok hg (fun s H C cl fp => ht s H C cl fp _ takes0) (fun s H C cl fp => he s H C cl fp _ takes0) hs) fun σ H Q h => lc_read hm h0 hv hsh h
/-- name = [..] -/
theorem ds_lc {xm : List Bool} {B : List Md} {ro : Md} (i : Nat) {y : Str} {py spos : Pos} (hi : DIt X ms tg iter fi) (ok : BlkOk X.N X.env.scope scope own) (hg : ∀ (s : Shared) (H : Hp) (C : Addr) (cl : List (Str × Addr)) (fp : List Addr), PG (X.blk s H scope (compEnvC scope cl C X.env) fp) tg (tgR X.K tgs))
    (ht : ∀ (s : Shared) (H : Hp) (C : Addr) (cl : List (Str × Addr)) (fp : List Addr), DTs (X.blk s H scope (compEnvC scope cl C X.env) fp) ms ifs c) (he : ∀ (s : Shared) (H : Hp) (C : Addr) (cl : List (Str × Addr)) (fp : List Addr), DE (X.blk s H scope (compEnvC scope cl C X.env) fp) ms .sh elt f)
    (hcalm : X.calm = true) (hN : X.N.Nodup) (hsw : swapsWith (.ListComp elt [⟨tg, iter, ifs, 0⟩] scope pos) (some (.Name y py)) spos.line X.env = pure true) (hy : X.N[i]? = some y := by rfl) (hyl : X.env.scope.names.lookup y = some .local := by rfl) (hn : notPr ms i = true := by rfl)
    (hm : m ≠ .pr := by decide) (h0 : tgOk ms tgs = true := by rfl) (hv : tgs.slots.all (fun j => decide (j ∈ own.map (·.2))) = true := by rfl) (hsh : shAll ms (own.map (·.2)) = true := by rfl) (hc : compat xm ms = true := by rfl) (hs : ∀ x, foldedSetIterable iter X.env x = pure x := by intro _; rfl) :
    DS X xm ms (ms.set i m) B ro (.Assign [.Name y py] (.ListComp elt [⟨tg, iter, ifs, 0⟩] scope pos) spos) (cAsg i (cLc fi tgs c f (own.map (·.2)))) :=
  ⟨let ⟨_, g1, g2, _⟩ := notPr_some hn; norm_set g1 g2 hm, fun W tk => ps_imp (ps_setLc (i := i) hcalm hN hy hyl hsw (hi W tk) ok hg (fun s H C cl fp => ht s H C cl fp _ takes0) (fun s H C cl fp => he s H C cl fp _ takes0) hs) fun D σ H h =>
    lc_read hm h0 hv hsh (asg_read hn hc h)⟩
end
end DI
set_option Elab.async false
set_option autoImplicit false
set_option linter.all false
set_option maxRecDepth 100000
set_option maxHeartbeats 2000000
/-! DI11: lists changed in place; a def by its body. -/
namespace DI
open PySem PySem.Spec PyProof.Rows L2
section
variable {K : PySem.W.Frag} {I H : Hp} {ms : List Md} {σ : L2.St} {fp : List Addr} {env : Env}
/-- the list of a slot -/
theorem St.own (s : St K ms I σ env H fp) {i : Nat} {ds : List D} (e : getS env i = some (.lst ds)) (ho : isOwn ms i = true) : ∃ a xs, σ[i]? = some (some (.ref a)) ∧ H a = some (.lst xs) ∧ Reps K I xs ds ∧ a ∈ fp := by
  obtain ⟨m, v, f, h1, h2, h3, h4⟩ := s.sl.get (getS_iff.mp e)
  obtain ⟨m', h5, h6⟩ := isOwn_some ho
  rw [h1] at h5; cases h5
  rcases h3.pr_of h6 with ⟨z, _⟩ | ⟨a, xs, es, rfl, e1, h7, h8, rfl⟩
  · cases z
  · cases e1
    exact ⟨a, xs, h2, h7, h8, h4 a (by simp)⟩
theorem St.write (s : St K ms I σ env H fp) {i : Nat} {ds ds' : List D} {a : Addr} {xs : List V} (e : getS env i = some (.lst ds)) (ho : isOwn ms i = true) (h1 : σ[i]? = some (some (.ref a))) (h2 : a ∈ fp) (hx : Reps K I xs ds') :
    St K ms I σ (env.set i (some (.lst ds'))) (upd H a (.lst xs)) fp ∧ Step I H fp I (upd H a (.lst xs)) fp := by
  obtain ⟨m, h5, h6⟩ := isOwn_some ho
  refine ⟨⟨s.ext.mut (s.off a h2), s.nd, s.off, Slots.write hx s.sl s.nd h1 h2 ⟨ds, m, getS_iff.mp e, h5, h6⟩⟩, ⟨.refl _, fun b o hb hn => by rw [upd_ne fun z => hn (by rw [z]; exact h2)]; exact hb, fun p hp => .inl hp, fun b hb => .inl hb⟩⟩
end
/-! ### x[k] = e -/
def cSetI (i : Nat) (fe fx : CE) : CS := fun env => match getS env i with
  | none => none
  | some _ => mbind (fe env) fun d e1 => mbind (fx e1) fun k e2 => match k, getS e2 i with
    | .int j, some (.lst xs) => match ixN xs.length j with
      | some n => some (.ok .nx, e2.set i (some (.lst (xs.set n d))))
      | none => none
    | _, _ => none
/-! ### methods -/
def cMut (i : Nat) (g : List D → List D → Option (D × List D)) (os : List Opd) : CE := fun env => match getS env i with
  | some (.lst _) => mbind (evalOs os env) fun ds e => match getS e i with
    | some (.lst xs) => match g xs ds with
      | some (d, xs') => some (.ok d, e.set i (some (.lst xs')))
      | none => none
    | _ => none
  | _ => none
/-- the method r does what g says; f: what comes is no list -/
def MutOk (K : PySem.W.Frag) (r : V → List V → Hp → VK → Prop) (g : List D → List D → Option (D × List D)) : Prop :=
  ∀ (I H : Hp) (a : Addr) (xs vs : List V) (es ds : List D) (d : D) (es' : List D) (Q : VK), Ext I H → H a = some (.lst xs) → I a = none → Reps K I xs es → Reps K I vs ds → g es ds = some (d, es') →
    (∀ v xs', Rep K I v d → Reps K I xs' es' → Q v (upd H a (.lst xs'))) → r (.ref a) vs H Q
section
variable {X : Cx} {xm : List Bool} {ms B : List Md} {ro : Md} {e a : Expr} {es : List Expr} {fe fx : CE} {os : List Opd} {pos p apos cpos : Pos} {W : WX}
theorem mut_read {K : PySem.W.Frag} {mg : Str → Option Value} {σ : L2.St} {H : Hp} {Q : VK} {i : Nat} {r : V → List V → Hp → VK → Prop} {g : List D → List D → Option (D × List D)} (hr : MutOk K r g) (ho : isOwn ms i = true) (ht : os.all Opd.isTm = true)
    (h : tE K mg ms .sh (cMut i g os) W σ H Q) : tVar i σ H fun x H1 => tyV K "list" x H1 ∧ tOs K mg ms W os σ H1 fun vs H2 => r x vs H2 Q := by
  obtain ⟨I, env, fp, s, rr, env', h1, q, b⟩ := h
  unfold cMut at h1
  split at h1
  case h_2 => cases h1
  rename_i ds0 hg0
  obtain ⟨a0, xs0, k1, k2, k3, k4⟩ := s.own hg0 ho
  refine ⟨.ref a0, k1, .inl ⟨rfl, _, SqL.of k2⟩, os_then s h1 b fun ds e1 vs H1 I1 fp1 h2 s1 t1 rs => ?_⟩
  split at h2
  case h_2 => cases h2
  rename_i xs hg1
  split at h2
  case h_2 => cases h2
  rename_i d xs' hgx
  cases h2
  obtain ⟨a, xv, m1, m2, m3, m4⟩ := s1.own hg1 ho
  rw [k1] at m1; cases m1
  refine hr I1 H1 a0 xv vs xs ds d xs' Q s1.ext m2 (s1.off a0 m4) m3 (rs.reps ht) hgx fun v xv' rv rx => ?_
  obtain ⟨s2, t2⟩ := s1.write hg1 ho k1 m4 rx
  exact q d rfl v _ I1 fp1 [] s2 (t1.trans t2) ⟨rv, rfl⟩ s2.nd fun p hp => by cases hp
theorem de_mut (i : Nat) {x name : Str} {id : String} {r : V → List V → Hp → VK → Prop} {g : List D → List D → Option (D × List D)} (slot : Slot "list" name id) (hty : typeOf (.builtin id) = pure (.type "method_descriptor")) (hm : MtR X id r) (hr : MutOk X.K r g) (ha : DOs X ms (e :: es) os)
    (ho : isOwn ms i = true := by rfl) (ht : os.all Opd.isTm = true := by rfl) (hN : X.N[i]? = some x := by rfl) (hv : Vis X.env.scope x := by first | exact Or.inl rfl | exact Or.inr (Or.inl rfl) | exact Or.inr (Or.inr rfl)) (hd : (x == ("__debug__" : Str)) = false := by decide) (hcd : (x == ("__classdict__" : Str)) = false := by decide)
    (hbase : attributeBase (.Name x p) name X.env (eval (.Name x p) X.env) = eval (.Name x p) X.env := by rfl)
    (hfew : ((backTo cpos (starEach (e :: es) X.env)).all (fun x => !x.1) && (backToKw cpos (keywordEach [] X.env)).all (fun x => x.1.isSome)
      && decide ((e :: es).length + ([] : List Keyword).length + (if ([] : List Keyword).isEmpty then 0 else 1) < 30)) = true := by rfl)
    (hline : (apos.endLine == cpos.line) = true := by rfl) (hs : starEach (e :: es) X.env = (false, eval e X.env) :: starEach es X.env := by rfl) (hplain : (backTo cpos (starEach es X.env)).any (·.1) = false := by rfl) :
    DE X ms .sh (.Call (.Attribute (.Name x p) name apos) (e :: es) [] cpos) (cMut i g os) := fun W tk =>
  pe_imp (pe_bm PySem.F.plainAttrs_list slot hty hm (pe_var hN hv hd hcd) (ha.pa tk) hbase hfew hline hs hplain) fun σ H Q h => mut_read hr ho ht h
theorem de_mut0 (i : Nat) {x name : Str} {id : String} {r : V → List V → Hp → VK → Prop} {g : List D → List D → Option (D × List D)} (slot : Slot "list" name id) (hty : typeOf (.builtin id) = pure (.type "method_descriptor")) (hm : MtR X id r) (hr : MutOk X.K r g)
    (ho : isOwn ms i = true := by rfl) (hN : X.N[i]? = some x := by rfl) (hv : Vis X.env.scope x := by first | exact Or.inl rfl | exact Or.inr (Or.inl rfl) | exact Or.inr (Or.inr rfl)) (hd : (x == ("__debug__" : Str)) = false := by decide) (hcd : (x == ("__classdict__" : Str)) = false := by decide)
    (hbase : attributeBase (.Name x p) name X.env (eval (.Name x p) X.env) = eval (.Name x p) X.env := by rfl) (hline : (apos.endLine == cpos.line) = true := by rfl) :
    DE X ms .sh (.Call (.Attribute (.Name x p) name apos) [] [] cpos) (cMut i g []) := fun W tk =>
  pe_imp (pe_bm0 PySem.F.plainAttrs_list slot hty hm (pe_var hN hv hd hcd) hbase hline) fun σ H Q h => mut_read (os := []) hr ho rfl h
/-- the methods' meanings -/
def mApp : List D → List D → Option (D × List D)
  | xs, [d] => if xs.length < sizeLine then some (.non, xs ++ [d]) else none
  | _, _ => none
def mExt : List D → List D → Option (D × List D)
  | xs, [.lst ys] => if xs.length + ys.length ≤ sizeLine then some (.non, xs ++ ys) else none
  | _, _ => none
def mPop : List D → List D → Option (D × List D)
  | xs, [] => match xs[xs.length - 1]? with
    | some d => some (d, xs.dropLast)
    | none => none
  | _, _ => none
def mPopAt : List D → List D → Option (D × List D)
  | xs, [.int i] => if -(2 ^ 63) ≤ i ∧ i < 2 ^ 63 then (match seqIndex? i xs.length with
      | some k => match xs[k]? with
        | some d => some (d, xs.eraseIdx k)
        | none => none
      | none => none) else none
  | _, _ => none
def mIns : List D → List D → Option (D × List D)
  | xs, [.int i, d] => if xs.length < sizeLine ∧ 0 ≤ i ∧ i < 2 ^ 63 then some (.non, xs.take i.toNat ++ [d] ++ xs.drop i.toNat) else none
  | _, _ => none
def mRev : List D → List D → Option (D × List D)
  | xs, [] => some (.non, xs.reverse)
  | _, _ => none
theorem mApp_ok {K : PySem.W.Frag} : MutOk K rAppend mApp := by
  intro I H a xs vs es ds d es' Q e h1 h2 h3 h4 g q
  unfold mApp at g
  split at g
  · obtain ⟨v, rfl, h5⟩ := reps1 h4
    split at g
    · rename_i hz
      cases g
      exact ⟨a, xs, v, rfl, rfl, h1, by rw [h3.length]; exact hz, q _ _ .non (h3.append (.cons h5 .nil))⟩
    · cases g
  · cases g
theorem mExt_ok {K : PySem.W.Frag} : MutOk K rExtend mExt := by
  intro I H a xs vs es ds d es' Q e h1 h2 h3 h4 g q
  unfold mExt at g
  split at g
  · obtain ⟨v, rfl, h5⟩ := reps1 h4
    cases h5 with
    | lst h6 h7 =>
      split at g
      · rename_i hz
        cases g
        exact ⟨a, _, xs, _, rfl, rfl, h1, e _ _ h6, by rw [h3.length, h7.length]; exact hz, q _ _ .non (h3.append h7)⟩
      · cases g
  · cases g
theorem mPop_ok {K : PySem.W.Frag} : MutOk K rPop mPop := by
  intro I H a xs vs es ds d es' Q e h1 h2 h3 h4 g q
  unfold mPop at g
  split at g
  · cases h4
    split at g
    · rename_i hd
      cases g
      rw [← h3.length] at hd
      obtain ⟨v, h5, h6⟩ := h3.get hd
      exact ⟨a, xs, v, rfl, rfl, h1, h5, q _ _ h6 h3.dropLast⟩
    · cases g
  · cases g
theorem mPopAt_ok {K : PySem.W.Frag} : MutOk K rPopAt mPopAt := by
  intro I H a xs vs es ds d es' Q e h1 h2 h3 h4 g q
  unfold mPopAt at g
  split at g
  · obtain ⟨v, rfl, h5⟩ := reps1 h4
    cases h5
    split at g
    · rename_i hz
      split at g
      · rename_i k hk
        split at g
        · rename_i d hd
          cases g
          obtain ⟨v, h6, h7⟩ := h3.get hd
          exact ⟨a, xs, _, k, v, rfl, rfl, h1, hz.1, hz.2, by rw [h3.length]; exact hk, h6, q _ _ h7 (h3.eraseIdx k)⟩
        · cases g
      · cases g
    · cases g
  · cases g
theorem mIns_ok {K : PySem.W.Frag} : MutOk K (fun x vs H Q => ∃ (l : Addr) (xs : List V) (i : Int) (y : V), x = .ref l ∧ vs = [.int i, y] ∧ H l = some (.lst xs) ∧ xs.length < sizeLine ∧ 0 ≤ i ∧ i < 2 ^ 63 ∧ Q .non (upd H l (.lst (xs.take i.toNat ++ [y] ++ xs.drop i.toNat)))) mIns := by
  intro I H a xs vs es ds d es' Q e h1 h2 h3 h4 g q
  unfold mIns at g
  split at g
  · obtain ⟨v, w, rfl, h5, h6⟩ := reps2 h4
    cases h5
    split at g
    · rename_i hz
      cases g
      exact ⟨a, xs, _, w, rfl, rfl, h1, by rw [h3.length]; exact hz.1, hz.2.1, hz.2.2, q _ _ .non (((h3.take _).append (.cons h6 .nil)).append (h3.drop _))⟩
    · cases g
  · cases g
theorem mRev_ok {K : PySem.W.Frag} : MutOk K rReverse mRev := by
  intro I H a xs vs es ds d es' Q e h1 h2 h3 h4 g q
  unfold mRev at g
  split at g
  · cases h4
    cases g
    exact ⟨a, xs, rfl, rfl, h1, q _ _ .non h3.reverse⟩
  · cases g
theorem seti_read {D : Ends} {K : PySem.W.Frag} {mg : Str → Option Value} {σ : L2.St} {H : Hp} {i : Nat} (ho : isOwn ms i = true) (hc : compat xm ms = true) (h : tS K mg xm ms ms B ro (cSetI i fe fx) W D σ H) :
    tAsg (tE K mg ms .sh fe W) (L2.gSub (tVar i) (tE K mg ms .sh fx W) rSetL) D σ H := by
  obtain ⟨I, env, fp, s, r, env', h1, q1, q2, q3, q4, q5⟩ := h
  unfold cSetI at h1
  split at h1
  case h_1 => cases h1
  rename_i d0 hg0
  obtain ⟨v0, k1, _⟩ := s.rd (getS_iff.mp hg0)
  refine tE_then s h1 (fun e z => (q5 e z).bad hc) fun d e1 v H1 I1 fp1 h2 s1 t1 rv => ?_
  refine ⟨v0, k1, tE_then s1 h2 (fun e z => ((q5 e z).bad hc).back t1) fun kd e2 w H2 I2 fp2 h3 s2 t2 rw' => ?_⟩
  split at h3
  case h_2 => cases h3
  rename_i j xs hg1
  split at h3
  case h_2 => cases h3
  rename_i n hn
  cases h3
  cases rw'
  obtain ⟨a, xv, m1, m2, m3, m4⟩ := s2.own hg1 ho
  rw [k1] at m1; cases m1
  obtain ⟨s3, t3⟩ := s2.write hg1 ho k1 m4 (Reps.set (rv.mono t2.ext) n m3)
  exact ⟨a, xv, j, n, rfl, rfl, m2, by rw [m3.length]; exact hn, q1 rfl σ _ I2 fp2 s3 ((t1.trans t2).trans t3) (Keep.refl _ _)⟩
end
section
variable {X : Cx} {xm : List Bool} {ms B : List Md} {ro : Md} {e : Expr} {fe fx : CE} {pos p : Pos}
theorem ds_set (i : Nat) {x : Str} {ei : Expr} {pp : Pos} (he : DE X ms .sh e fe) (hx : DE X ms .sh ei fx) (ho : isOwn ms i = true := by rfl) (hN : X.N[i]? = some x := by rfl) (hv : Vis X.env.scope x := by first | exact Or.inl rfl | exact Or.inr (Or.inl rfl) | exact Or.inr (Or.inr rfl)) (hd : (x == ("__debug__" : Str)) = false := by decide) (hcd : (x == ("__classdict__" : Str)) = false := by decide)
    (hc : compat xm ms = true := by rfl) (ha : ∀ v, assign (.Subscript (.Name x p) ei pp) X.env v = (do
      let ov ← holding [v] (eval (.Name x p) X.env)
      let iv ← holding [v, ov] (eval ei X.env)
      standAt pp
      holding [v, ov, iv] (setItem ov iv v)
      release [v, ov, iv] []) := by intro _; rfl) (hs : swapsWithSole [.Subscript (.Name x p) ei pp] e pos.line X.env = pure false := by rfl) (hw : swappedStores [.Subscript (.Name x p) ei pp] e X.env = pure none := by rfl) (h1 : (assignEach [.Subscript (.Name x p) ei pp] X.env).map (·.2) = [assign (.Subscript (.Name x p) ei pp) X.env] := by rfl) :
    DS X xm ms ms B ro (.Assign [.Subscript (.Name x p) ei pp] e pos) (cSetI i fe fx) := ⟨rfl, fun W tk => ps_imp (ps_asg (he W tk) (pg_sub (pe_var hN hv hd hcd) (hx W tk) set_list ha) hs hw h1) fun D σ H h => seti_read ho hc h⟩
end
/-! ### a def by its body -/
def finE (pm : List Md) (env : Env) : Env := maskB [] pm env
def runF (n : Nat) (pm : List Md) (f : CS) : FnD := fun ds => match f (ds.map some ++ List.replicate (n - ds.length) none) with
  | some (.ok (.rt d), e) => some (.ok d, finE pm e)
  | some (.ok .nx, e) => some (.ok .non, finE pm e)
  | some (.error x, e) => some (.error x, finE pm e)
  | _ => none
section
variable {K : PySem.W.Frag} {I H : Hp}
theorem masked_nil : ∀ {k : Nat} {σ : L2.St} {env : Env} {fp : List Addr}, Slots K I H (norm (List.replicate k .sh)) σ (maskB [] (List.replicate k .sh) env) fp → fp = []
  | 0, _, _, _, h => by cases h; rfl
  | k + 1, _, [], _, h => by cases h
  | k + 1, o :: σ, e :: env, _, h => by
    have h' : Slots K I H (.sh :: norm (List.replicate k .sh)) (o :: σ) (none :: maskB [] (List.replicate k .sh) env) _ := h
    cases h' with
    | non s => exact masked_nil s
  | k + 1, [], e :: env, _, h => by
    have h' : Slots K I H (.sh :: norm (List.replicate k .sh)) [] (none :: maskB [] (List.replicate k .sh) env) _ := h
    cases h'
theorem fin_slots {k : Nat} : ∀ {pm : List Md} {σ' : L2.St} {env : Env} {vs : List V} {fp : List Addr}, norm pm = pm → Slots K I H (norm (pm ++ List.replicate k .sh)) σ' (maskB [] (pm ++ List.replicate k .sh) env) fp → vs.length = pm.length →
    (∀ i : Nat, pm[i]? = some .pr → σ'[i]? = (vs.map some)[i]?) → Slots K I H pm (vs.map some) (finE pm env) fp
  | [], σ', env, vs, fp, _, h, hl, _ => by
    have hv : vs = [] := List.eq_nil_of_length_eq_zero hl
    subst hv
    have : fp = [] := masked_nil h
    subst this
    exact .nil
  | m :: pm, σ', [], vs, fp, _, h, hl, _ => by cases h
  | m :: pm, [], e :: env, vs, fp, _, h, hl, _ => by
    have hh : ∀ x, ¬ Slots K I H (norm (m :: pm ++ List.replicate k .sh)) [] (x :: maskB [] (pm ++ List.replicate k .sh) env) fp := fun x z => by cases z
    exact absurd h (hh _)
  | m :: pm, o :: σ', e :: env, [], fp, _, h, hl, _ => by cases hl
  | m :: pm, o :: σ', e :: env, v :: vs, fp, hn, h, hl, hk => by
    have hn2 : (if m = .pr then Md.pr else .sh) = m ∧ norm pm = pm := List.cons.inj hn
    have h' : Slots K I H ((if m = .pr then Md.pr else .sh) :: norm (pm ++ List.replicate k .sh)) (o :: σ') ((if m = .pr then e else none) :: maskB [] (pm ++ List.replicate k .sh) env) fp := h
    rw [hn2.1] at h'
    have hk2 : ∀ i : Nat, pm[i]? = some .pr → σ'[i]? = (vs.map some)[i]? := fun i hi => by have := hk (i + 1) (by simpa using hi); simpa using this
    show Slots K I H (m :: pm) (some v :: vs.map some) ((if m = .pr then e else none) :: maskB [] pm env) fp
    by_cases hm : m = .pr
    · subst hm
      rw [if_pos rfl] at h' ⊢
      have h0 := hk 0 rfl
      simp at h0
      subst h0
      cases h' with
      | non s => exact .non (fin_slots hn2.2 s (by simpa using hl) hk2)
      | som q s => exact .som q (fin_slots hn2.2 s (by simpa using hl) hk2)
    · rw [if_neg hm] at h' ⊢
      cases h' with
      | non s => exact .non (fin_slots hn2.2 s (by simpa using hl) hk2)
theorem Slots.more {k : Nat} {ls : List Md} (hl : ls.length = k) : ∀ {ms : List Md} {σ : L2.St} {env : Env} {fp : List Addr}, Slots K I H ms σ env fp → Slots K I H (ms ++ ls) (σ ++ List.replicate k none) (env ++ List.replicate k none) fp
  | _, _, _, _, .nil => by
    subst hl
    induction ls with
    | nil => exact .nil
    | cons m ls ih => exact .non ih
  | _, _, _, _, .non s => .non (s.more hl)
  | _, _, _, _, .som q s => .som q (s.more hl)
theorem norm_append (a b : List Md) : norm (a ++ b) = norm a ++ norm b := by
  unfold norm
  rw [List.map_append]
end
section
variable {P : Program} {w : World} {K : PySem.W.Frag} {mg : Str → Option Value} {base : Heap} {x qual : Str} {params : Arguments} {body : List Stmt} {scope : Scope} {dvs : List V} {kws : List (Str × V)} {f : Addr} {fd : FuncData}
/-- the rule of a body, from a derivation -/
theorem fn_g {N ps : List Str} {k : Nat} {pm ls ms' B : List Md} {ro : Md} {fs : CS} (F : FunD K x qual params body scope dvs kws f fd) (S : FnScope N ps scope) (hpm : pm.length = ps.length) (hn : norm pm = pm) (hro : ro ≠ .pr) (hls : norm ls = List.replicate (N.length - ps.length) .sh)
    (hb : ∀ (cdv : Value) (A : Around) (outer : List PySem.Env) (s : Shared) (H : Hp) (E : XK), Room k (A.deeper (envOfC qual scope s.heap.objs.size f cdv)) → Amb (A.deeper (envOfC qual scope s.heap.objs.size f cdv)) base →
      DSs (cxOf (L2.CX P w) P w K mg base N qual scope f cdv A outer s H E) [] (pm ++ ls) ms' B ro body fs) :
    FnG P w K mg base (k + 1) f fd ps (spF K mg pm ro (runF N.length pm fs)) := by
  have len : ∀ vs H Q E, spF K mg pm ro (runF N.length pm fs) vs H Q E → vs.length = ps.length := fun vs H Q E ⟨I, ds, fp, s, _⟩ => by
    have := s.sl.len
    rw [List.length_map, List.length_map] at this
    omega
  obtain ⟨oc, od, dV, kV, doc, pmv, an, cdv, ct, osl, rfl, lk, hcd, _, _⟩ := F.ex
  refine ⟨len, fun A outer s H args us vs Q E hr am e0 hbind rv hsp => ?_⟩
  have hl := len _ _ _ _ hsp
  have KX : K.In s.heap := e0.mod.kin.keeps fun b o e => (e0.bs b o e).1
  have lim : s.heap.NoLimit := e0.mod.nolimit.keeps fun b o e => (e0.bs b o e).1
  have hkind : ∀ y ∈ ps.zip us, scope.names.lookup y.1 = some .local ∨ (scope.names.lookup y.1 = some .cell ∧ ((cellsFrom (s.heap.objs.size + 1) scope.names []).lookup y.1).isSome = true) := fun ⟨n, v⟩ hy => by
    rcases S.par n (List.of_mem_zip hy).1 with q | q
    · exact .inl q
    · exact .inr ⟨q, PySem.W.cellsFrom_some _ _ _ (.inl q)⟩
  refine codeAny_call_function hr.depth (KX _ _ lk) rfl S.co S.gen rfl (PySem.W.codeRec_of KX hcd) (hbind _ _ _ _ ?_)
  refine wpAny_newFunctionEnv_cells S.kind hkind fun env he s1 hx => ?_
  subst he
  refine ⟨lim.keeps hx.toInCall.keep, codeAny_func ?_⟩
  have D := hb cdv A outer s H E (hr.deeper _) ⟨am.guards, am.low⟩
  have lsl : ls.length = N.length - ps.length := by
    have := congrArg List.length hls
    unfold norm at this
    rw [List.length_map, List.length_replicate] at this
    exact this
  have nls : norm (pm ++ ls) = norm (pm ++ List.replicate (N.length - ps.length) .sh) := by
    rw [norm_append, norm_append, hls]
    congr 1
    unfold norm
    rw [List.map_replicate]
    rfl
  have J : Inv (cxOf (L2.CX P w) P w K mg base N qual scope f cdv A outer s H E) [] (L2.start N vs) H s1 := inv_start S hr.hd e0 hl rv hx
  -- the body's reading, from the promise
  have hq : tS K mg [] (pm ++ ls) ms' B ro fs (fun c d _ H => E c d H) { nx := fun _ H' => Q .non H', rt := Q } (L2.start N vs) H := by
    obtain ⟨I, ds, fp, st, r, fin, hF, q, b⟩ := hsp
    have hds : ds.length = ps.length := by
      have := st.sl.len
      rw [List.length_map, List.length_map] at this
      omega
    have s0 : St K (pm ++ ls) I (L2.start N vs) (ds.map some ++ List.replicate (N.length - ds.length) none) H fp := by
      refine ⟨st.ext, st.nd, st.off, ?_⟩
      have := st.sl.more (k := N.length - ps.length) (ls := ls) lsl
      unfold L2.start
      rw [hl, hds]
      exact this
    have kv : ∀ {σ' : L2.St}, Keep (pm ++ ls) (L2.start N vs) σ' → ∀ i : Nat, pm[i]? = some .pr → σ'[i]? = (vs.map some)[i]? := fun {σ'} kk i hi => by
      have hlt : i < pm.length := (List.getElem?_eq_some_iff.mp hi).1
      rw [kk i (by rw [List.getElem?_append_left hlt]; exact hi)]
      unfold L2.start
      rw [List.getElem?_append_left (by rw [List.length_map]; omega)]
    have vl : vs.length = pm.length := by omega
    unfold runF at hF
    cases hf : fs (ds.map some ++ List.replicate (N.length - ds.length) none) with
    | none => rw [hf] at hF; cases hF
    | some y =>
      obtain ⟨ry, ey⟩ := y
      rw [hf] at hF
      refine ⟨I, _, fp, s0, ry, ey, hf, fun z σ' H' I' fp' s' t' k' => ?_, fun z => ?_, fun z => ?_, fun d z v σ' H' I' fp' fv s' t' rvv nd off k' => ?_, fun e z c dd σ' H' I' fp' s' t' xx k' => ?_⟩
      · subst z
        cases hF
        have nmm := D.nm.trans nls
        obtain ⟨fp2, s2, c2⟩ := s'.maskB (xm := []) (by unfold compat; rfl)
        rw [nmm, maskB_norm nmm] at s2
        refine q _ rfl .non H' I' fp2 [] ⟨s2.ext, s2.nd, s2.off, fin_slots hn s2.sl vl (kv k')⟩ (t'.less c2) ?_ s2.nd fun p hp => by cases hp
        cases ro with
        | sh => exact ⟨.non, rfl⟩
        | ow => exact .inl ⟨rfl, .non, rfl⟩
        | pr => exact absurd rfl hro
      · subst z; cases hF
      · subst z; cases hF
      · subst z
        cases hF
        exact q d rfl v H' I' fp' fv ⟨s'.ext, s'.nd, s'.off, fin_slots hn (by have z := s'.sl; rw [nls, maskB_norm nls] at z; exact z) vl (kv k')⟩ t' rvv nd off
      · subst z
        cases hF
        exact b e rfl c dd H' I' fp' ⟨s'.ext, s'.nd, s'.off, fin_slots hn (by have z := s'.sl; rw [nls, maskB_norm nls] at z; exact z) vl (kv k')⟩ t' xx
  refine wpAny_mono ((D.run (fun c d _ H => E c d H) (takes_of rfl rfl rfl rfl)).run [] s1 (L2.start N vs) H _ J hq) (fun fl s' hs => ?_) fun e s' hs => hs
  have fin : ∀ {σ' : L2.St} {H' : Hp} {v : V} {u : Value}, Inv (cxOf (L2.CX P w) P w K mg base N qual scope f cdv A outer s H E) [] σ' H' s' → RelV v u → Q v H' → L2.CE outer P w H s Q u s' :=
    fun {σ' H' v u} J rv q => ⟨v, H', J.os, J.bare, J.base, J.hok, rv, q⟩
  cases fl with
  | ret u =>
    obtain ⟨v, σ', H', J, rv, q⟩ := hs
    exact fin J rv q
  | next =>
    obtain ⟨σ', H', J, q⟩ := hs
    exact fin (v := V.non) (u := Value.none) J rfl q
  | brk =>
    obtain ⟨_, _, _, q⟩ := hs
    exact False.elim q
  | cont =>
    obtain ⟨_, _, _, q⟩ := hs
    exact False.elim q
/-- a weaker meaning -/
theorem FnG.imp {k : Nat} {ps : List Str} {sp sp' : Sp} (F : FnG P w K mg base k f fd ps sp) (h : ∀ vs H Q E, sp' vs H Q E → sp vs H Q E) : FnG P w K mg base k f fd ps sp' :=
  ⟨fun vs H Q E q => F.len vs H Q E (h _ _ _ _ q), fun A outer s H args us vs Q E hr am he hb hv hs => F.run A outer s H args us vs Q E hr am he hb hv (h _ _ _ _ hs)⟩
end
end DI
set_option Elab.async false
set_option autoImplicit false
set_option linter.all false
set_option maxRecDepth 100000
set_option maxHeartbeats 2000000
/-! DI12: a law's end. -/
namespace DI
open PySem PySem.Spec PyProof.Rows L2
theorem law_end {P : Program} {w : World} {K : PySem.W.Frag} {mg mb : Str → Option Value} {k : Nat} {fa a : Addr} {fd : FuncData} {x : Str} {F : FnD} {s₁ : Shared} {vs : List Value} {ns : List Int}
    (KX : K.In s₁.heap) (hns : s₁.heap.Ns mainGlobals mg) (hb : s₁.heap.Ns builtinsNs mb) (hbb : ∀ x : Str, x ≠ "__name__" → mb x = bootBuiltins x) (hlim : s₁.heap.NoLimit) (hg : s₁.gens = #[]) (hlow : sysModules < s₁.heap.objs.size)
    (ha : s₁.heap.get? a = some { cls := .type "list", data := .seq vs.toArray }) (hi : IntsAre vs ns) (hl : ns.length ≤ sizeLine) (hr : Room k callerA)
    (hF : ∀ base : Heap, K.In base → base.Ns mainGlobals mg → FnG P w K mg base k fa fd [x] (spF K mg [.sh] .sh F)) (hbind : ∀ (s : Shared) (u : Value), BindsTo s fd ⟨[u], []⟩ [(x, u)])
    (hm : ∃ fin, F [.scr ns] = some (.ok (.bl true), fin)) :
    codeAny (model P w) callerA (.call (.ref fa) ⟨[.ref a], []⟩) (fun r s' => r = .ok (.ret (.bool true)) ∧ OldK s₁.heap s'.heap ∧ s'.os = s₁.os ∧ AllBare s'.gens) s₁ := by
  have rv := vals_ints hi
  have lenV := hi.length
  have core : ∀ H : Hp, Only H → SqL K H a (ns.map V.int) → HOk P w H s₁.heap → (∀ b, H b ≠ none → b = a) → (H a ≠ none → K.lookup a = none) →
      codeAny (model P w) callerA (.call (.ref fa) ⟨[.ref a], []⟩) (fun r s' => r = .ok (.ret (.bool true)) ∧ OldK s₁.heap s'.heap ∧ s'.os = s₁.os ∧ AllBare s'.gens) s₁ := by
    intro H hO hS hok hA hK
    have base_of : ∀ {b : Addr} {o : Obj}, s₁.heap.get? b = some o → H b = none → (hidT s₁.heap H).get? b = some o := fun e n => hidT_get e n
    have noA : ∀ {b : Addr} {o : Obj} {es : Array DictEntry} {ep : Nat}, s₁.heap.get? b = some o → o.data = .dict es ep → H b = none := fun {b o es ep} e d => by
      cases q : H b with
      | none => rfl
      | some u =>
        have e' : b = a := hA b (by rw [q]; simp)
        subst e'
        rw [ha] at e; cases e
        have d' : Data.seq vs.toArray _ = Data.dict es ep := d
        cases d'
    have nsK : ∀ {b : Addr} {m : Str → Option Value}, s₁.heap.Ns b m → (hidT s₁.heap H).Ns b m := fun {b m} ⟨o, es, ep, e, d, r⟩ => ⟨o, es, ep, base_of e (noA e d), d, r⟩
    have hKb : K.In (hidT s₁.heap H) := fun b o e => base_of (KX b o e) (by
      cases q : H b with
      | none => rfl
      | some u =>
        have e' : b = a := hA b (by rw [q]; simp)
        subst e'
        rw [hK (by rw [q]; simp)] at e; cases e)
    have hM : Mod K mg (hidT s₁.heap H) := ⟨hKb, nsK hns, ⟨mb, nsK hb, hbb⟩, let ⟨mc, h1, h2⟩ := hlim; ⟨mc, nsK h1, h2⟩⟩
    have e0 : Env0 P w K mg (hidT s₁.heap H) callerA [] s₁ H := ⟨rfl, hM, fun b o e => of_hidT e, Nat.le_of_eq (hidT_size _ _), trivial, fun b hb => absurd (show b ∈ ([] : List Addr) from hb) (by simp), hok, .of_eq hg⟩
    have am : Amb callerA (hidT s₁.heap H) := ⟨rfl, by rw [hidT_size]; exact hlow⟩
    obtain ⟨fin, hm⟩ := hm
    have hsp : spF K mg [.sh] .sh F [.ref a] H (fun v _ => v = .bl true) fun _ _ _ => False := by
      refine ⟨H, [.scr ns], [], ⟨.refl _, List.nodup_nil, (fun p hp => by cases hp), Slots.som (m := .sh) (fp1 := []) (fp := []) (show RepM .sh K H H _ _ [] from ⟨.scr hS, rfl⟩) .nil⟩, _, fin, hm, fun d e v H' I' fp' fv _ _ rp _ _ => ?_, fun e z => by cases z⟩
      cases e
      cases rp.1
      rfl
    refine codeAny_mono ((hF _ hKb (nsK hns)).run callerA [] s₁ H ⟨[.ref a], []⟩ [.ref a] [.ref a] _ _ hr am e0 (hbind s₁ (.ref a)) (.cons rfl .nil) hsp) fun r s' h => ?_
    cases r with
    | error e =>
      obtain ⟨_, _, _, _, _, _, _, _, _, _, _, _, z⟩ := (show L2.CX P w [] H s₁ (fun _ _ _ => False) e s' from h)
      exact z.elim
    | ok fl =>
      cases fl with
      | next => exact False.elim h
      | brk => exact False.elim h
      | cont => exact False.elim h
      | ret u =>
        obtain ⟨v, H', os, bare, un, hok', r', q⟩ := h
        have q' : v = .bl true := q
        subst q'
        obtain rfl : u = Value.bool true := r'
        refine ⟨rfl, OldK.of_keep fun b o e => ?_, os, bare⟩
        cases q : H b with
        | none => exact un.keep b o e q (by intro z; exact absurd (show b ∈ ([] : List Addr) from z) (by simp)) (by simp)
        | some u =>
          rcases hO b with z | ⟨ob, xs, z⟩
          · rw [q] at z; cases z
          · have z2 := un.frzs b ob _ z
            obtain ⟨e1, _⟩ := hok b _ z
            obtain ⟨e2, _⟩ := hok' b _ z2
            rw [e] at e1; cases e1
            exact e2
  cases hk : K.lookup a with
  | some o =>
    have e := KX a o hk
    rw [ha] at e
    cases e
    refine core (fun _ => none) (fun _ => .inl rfl) (.inr ⟨_, vs.toArray, _, hk, rfl, rfl, rfl, by rw [List.size_toArray, lenV]; exact hl, by simpa using rv⟩) (fun b u z => by have z' : (none : Option HO) = some u := z; cases z') (fun b z => absurd rfl z) fun z => absurd rfl z
  | none =>
    refine core (fun b => if b = a then some (.frz { cls := .type "list", data := .seq vs.toArray } (.lst (ns.map V.int))) else none) (fun b => ?_) (.inl (.inr ⟨{ cls := .type "list", data := .seq vs.toArray }, if_pos rfl⟩)) (fun b u z => ?_) (fun b z => ?_) fun _ => hk
    · by_cases hb : b = a
      · exact .inr ⟨_, _, if_pos hb⟩
      · exact .inl (if_neg hb)
    · by_cases hb : b = a
      · have z' := (if_pos hb).symm.trans z
        cases z'
        subst hb
        exact ⟨ha, by rw [List.length_map]; exact hl, vs, _, rv, ha⟩
      · have z' := (if_neg hb).symm.trans z
        cases z'
    · by_cases hb : b = a
      · exact hb
      · exact absurd (if_neg hb) z
/-- what a law's head leaves, from its meaning F -/
theorem walk_end {l : PySem.W.OpenLaw} {n k : Nat} {q : Program} {loose : List Str} {XP : (Str → Option Value) → Heap → Prop} {YP : World → Heap → Prop} {d : DefRec} {x : Str} (F : FnD)
    (hn : l.most = some n) (hn2 : n ≤ sizeLine) (hdf : d.params.defaults = []) (hr : Room k callerA) (hm : ∀ ns : List Int, ns.length ≤ n → ∃ fin, F [.scr ns] = some (.ok (.bl true), fin))
    (hF : ∀ (w : World) (mg : Str → Option Value) (fa : Addr) (h : Heap), YP w h → h.Ns mainGlobals mg → mg d.name = some (.ref fa) →
      ∃ (K : PySem.W.Frag) (fd : FuncData), K.In h ∧ (∀ (s : Shared) (u : Value), BindsTo s fd ⟨[u], []⟩ [(x, u)]) ∧
        ∀ base : Heap, K.In base → base.Ns mainGlobals mg → FnG l.prog w K mg base k fa fd [x] (spF K mg [.sh] .sh F)) :
    PySem.W.WalkO q loose XP YP l.row.toRowW d [] (fun f vs => PySem.call f vs) := by
  refine Att.attach_call hn hdf fun w s₀ s₁ mg mb fa o pm cd doc a vs ns G Y ho hd hcd hmg hobj hints hlen hg => ?_
  obtain ⟨K, fd, KX, hb, hF⟩ := hF w mg fa _ Y G.T.g hmg
  exact law_end KX G.T.g G.T.b G.T.builtins G.T.nolimit hg G.low hobj hints (Nat.le_trans hlen hn2) hr hF hb (hm ns hlen)
end DI
set_option Elab.async false
set_option autoImplicit false
set_option linter.all false
set_option maxRecDepth 100000
set_option maxHeartbeats 2000000
/-! DI13: repr, in, chained comparisons, names of the module. -/
namespace DI
open PySem PySem.Spec PyProof.Rows L2
/-! ### repr -/
def rRepr (K : PySem.W.Frag) : RL := fun xs H Q => ∃ x p, xs = [x] ∧ Dp K H x p ∧ p.showable = true ∧ p.hasDict = false ∧ p.depth ≤ 60 ∧ p.shown.length ≤ sizeLine ∧ Q (.str p.shown) H
section
variable {X : Cx}
theorem call_repr (hg : X.A.guards = some []) (hu : X.A.units + 64 < cLine) : CallR X (.builtin "repr") (rRepr X.K) := by
  intro pins s σ H xs us Q I r h
  obtain ⟨x, p, rfl, hd, hs, hh, hp, hz, q⟩ := h
  obtain ⟨u, rfl, ru⟩ := vals1 r
  obtain ⟨as, rd⟩ := Dp.reads I p x u hd ru
  cases hd with
  | non => cases rd; exact PySem.P.repr_of_none ⟨.str _, H, I.tok _, ⟨_, rfl⟩, q⟩
  | bl b =>
    cases rd
    exact PySem.P.repr_of_bool ⟨.str (PyData.bool b).shown, H, I.tok _, (by cases b <;> exact ⟨_, rfl⟩), q⟩
  | int i =>
    cases rd
    unfold PyData.showable at hs
    exact PySem.P.repr_of_int (of_decide_eq_true hs) ⟨.str _, H, I.tok _, ⟨_, rfl⟩, q⟩
  | str y =>
    cases rd
    exact PySem.P.repr_of_str (hsz := hz) ⟨.str _, H, I.tok _, ⟨_, rfl⟩, q⟩
  | lst h1 h2 =>
    cases rd with
    | list e1 e2 e3 e4 =>
      exact repr_of_reads' (.list e1 e2 e3 e4) hs (PyData.noDict_hsm hh) hg (by omega) (fun _ _ e => e) (fun h' u tk hk => ⟨.str _, H, I.kept hk, ⟨_, rfl⟩, q⟩) hz
  | tup h1 h2 =>
    cases rd with
    | tuple e1 e2 e3 e4 =>
      exact repr_of_reads' (.tuple e1 e2 e3 e4) hs (PyData.noDict_hsm hh) hg (by omega) (fun _ _ e => e) (fun h' u tk hk => ⟨.str _, H, I.kept hk, ⟨_, rfl⟩, q⟩) hz
end
def reprOf (d : D) : Option Str := match d.py with
  | some p => if p.showable = true ∧ p.hasDict = false ∧ p.depth ≤ 60 ∧ p.shown.length ≤ sizeLine then some p.shown else none
  | none => none
def gRepr : Prim
  | [d] => (reprOf d).map .str
  | _ => none
theorem gRepr_ok {K : PySem.W.Frag} : PrimOk K true (rRepr K) gRepr := by
  intro I H vs ds d Q e r g q1 q2 q3 q4
  unfold gRepr at g
  split at g
  · rename_i a
    obtain ⟨v, rfl, h1⟩ := rds1 r
    unfold reprOf at g
    split at g
    · rename_i p hp
      split at g
      · rename_i hc
        cases g
        exact ⟨v, p, rfl, h1.dp e hp, hc.1, hc.2.1, hc.2.2.1, hc.2.2.2, q1 _ (fun _ => rfl) (.str _)⟩
      · cases g
    · cases g
  · cases g
/-! ### in -/
def inD (a : D) (xs : List D) : Option Bool := match a.py, D.pys xs with
  | some p, some ps => if SeqAt.shaped p = true ∧ SeqAt.shaped (.list ps) = true then some (ps.any fun z => PyData.eqv z p) else none
  | _, _ => none
def gIn : Prim
  | [a, .lst xs] => (inD a xs).map .bl
  | _ => none
def gNotIn : Prim
  | [a, .lst xs] => (inD a xs).map fun b => .bl (!b)
  | _ => none
theorem inD_some {a : D} {xs : List D} {b : Bool} (h : inD a xs = some b) : ∃ p ps, a.py = some p ∧ D.pys xs = some ps ∧ SeqAt.shaped p = true ∧ SeqAt.shaped (.list ps) = true ∧ b = ps.any fun z => PyData.eqv z p := by
  unfold inD at h
  split at h
  · rename_i p ps h1 h2
    split at h
    · rename_i hc
      cases h
      exact ⟨p, ps, h1, h2, hc.1, hc.2, rfl⟩
    · cases h
  · cases h
theorem pys_lst {xs : List D} {ps : List PyData} (h : D.pys xs = some ps) : (D.lst xs).py = some (.list ps) := by
  unfold D.py; rw [h]; rfl
theorem gIn_ok {K : PySem.W.Frag} : PrimOk K true (rOf2 (rInD K)) gIn := by
  intro I H vs ds d Q e r g q1 q2 q3 q4
  unfold gIn at g
  split at g
  · rename_i a xs
    obtain ⟨v, w, rfl, h1, h2⟩ := rds2 r
    cases hk : inD a xs with
    | none => rw [hk] at g; cases g
    | some k =>
      rw [hk] at g; cases g
      obtain ⟨p, ps, h3, h4, h5, h6, rfl⟩ := inD_some hk
      exact ⟨p, ps, h1.dp e h3, h2.dp e (pys_lst h4), h5, h6, q1 _ (fun _ => rfl) (.bl _)⟩
  · cases g
theorem gNotIn_ok {K : PySem.W.Frag} : PrimOk K true (rOf2 (rNotInD K)) gNotIn := by
  intro I H vs ds d Q e r g q1 q2 q3 q4
  unfold gNotIn at g
  split at g
  · rename_i a xs
    obtain ⟨v, w, rfl, h1, h2⟩ := rds2 r
    cases hk : inD a xs with
    | none => rw [hk] at g; cases g
    | some k =>
      rw [hk] at g; cases g
      obtain ⟨p, ps, h3, h4, h5, h6, rfl⟩ := inD_some hk
      exact ⟨p, ps, h1.dp e h3, h2.dp e (pys_lst h4), h5, h6, q1 _ (fun _ => rfl) (.bl _)⟩
  · cases g
/-! ### a <= b <= c -/
def cChain (g g' : Prim) (fa fb fc : CE) : CE := fun env => mbind (fa env) fun x e => mbind (fb e) fun y e => match g [x, y] with
  | some (.bl true) => mbind (fc e) fun z e => pOut (g' [y, z]) e
  | some (.bl false) => some (.ok (.bl false), e)
  | _ => none
section
variable {X : Cx} {ms : List Md} {m : Md} {a b c : Expr} {fa fb fc : CE} {pos p : Pos} {g g' : Prim} {fr fr' : Bool} {r r' : R2} {op op' : CmpOp}
theorem chain_read {W : WX} {σ : L2.St} {H : Hp} {Q : VK} {mg : Str → Option Value} {K : PySem.W.Frag} (hp : PrimOk K true (rOf2 r) g) (hp' : PrimOk K true (rOf2 r') g') (hm : m ≠ .pr) (h : tE K mg ms m (cChain g g' fa fb fc) W σ H Q) :
    tChain r r' (tE K mg ms .sh fa W) (tE K mg ms .sh fb W) (tE K mg ms .sh fc W) σ H Q := by
  obtain ⟨I, env, fp, s, x, env', h1, q, b⟩ := h
  refine tE_then s h1 b fun d1 e1 v1 H1 I1 fp1 h2 s1 t1 r1 => ?_
  refine tE_then s1 h2 (fun e z => (b e z).back t1) fun d2 e2 v2 H2 I2 fp2 h3 s2 t2 r2 => ?_
  have r1' := r1.mono t2.ext
  have t12 := t1.trans t2
  cases hg : g [d1, d2] with
  | none => simp only [hg] at h3; cases h3
  | some z =>
    cases z with
    | bl k =>
      refine hp I2 H2 [v1, v2] [d1, d2] (.bl k) _ s2.ext (.cons (.of_rep s2.ext r1') (.cons (.of_rep s2.ext r2) .nil)) hg (fun v _ rv => ?_) (fun _ _ _ z => by cases z) (fun _ _ _ z => by cases z) (fun _ _ _ _ z => by cases z)
      cases rv
      refine ⟨k, rfl, ?_⟩
      cases k with
      | false =>
        simp only [hg] at h3
        cases h3
        simp only [Bool.false_eq_true, if_false]
        exact q _ rfl _ H2 I2 fp2 [] s2 t12 (res_bl hm) s2.nd fun p hp => by cases hp
      | true =>
        simp only [hg] at h3
        simp only [if_true]
        refine tE_then s2 h3 (fun e z => (b e z).back t12) fun d3 e3 v3 H3 I3 fp3 h4 s3 t3 r3 => ?_
        obtain ⟨d, g1, rfl, rfl⟩ := pOut_some h4
        obtain ⟨a1, a2, a3, a4⟩ := res_end hm (fr := true) (.inr rfl) s3 fun v H' I' fp' fv s' t' => q d rfl v H' I' fp' fv s' ((t12.trans t3).trans t')
        exact hp' I3 H3 [v2, v3] [d2, d3] d Q s3.ext (.cons (.of_rep s3.ext (r2.mono t3.ext)) (.cons (.of_rep s3.ext r3) .nil)) g1 a1 a2 a3 a4
    | _ => simp only [hg] at h3; cases h3
theorem de_chain (ho : OpR X (compareOp op) r) (ho' : OpR X (compareOp op') r') (hp : PrimOk X.K true (rOf2 r) g) (hp' : PrimOk X.K true (rOf2 r') g') (ha : DE X ms .sh a fa) (hb : DE X ms .sh b fb) (hc : DE X ms .sh c fc) (hm : m ≠ .pr := by decide)
    (hk : lastMarks [op, op'] [b, c] = false := by with_unfolding_all rfl) : DE X ms m (.Compare a [op, op'] [b, c] pos) (cChain g g' fa fb fc) := fun W tk => pe_imp (pe_chain ho ho' (ha W tk) (hb W tk) (hc W tk) hk) fun σ H Q h => chain_read hp hp' hm h
theorem dt_chain (ho : OpR X (compareOp op) r) (ho' : OpR X (compareOp op') r') (hp : PrimOk X.K true (rOf2 r) g) (hp' : PrimOk X.K true (rOf2 r') g') (ha : DE X ms .sh a fa) (hb : DE X ms .sh b fb) (hc : DE X ms .sh c fc)
    (hk : lastMarks [op, op'] [b, c] = false := by with_unfolding_all rfl) : DB X ms (.Compare a [op, op'] [b, c] pos) (cTest (cChain g g' fa fb fc)) := fun W tk => pt_imp (pt_chain ho ho' (ha W tk) (hb W tk) (hc W tk) hk) fun σ H Q h => by
  have h2 := test_read h
  exact chain_read hp hp' (m := .sh) (by decide) h2
/-! ### names of the module -/
theorem de_gInt {x : Str} {i : Int} (hg : Gl X x) (h : ∃ t, X.mg x = some (.int i t)) (hm : m ≠ .pr := by decide) (hd : (x == ("__debug__" : Str)) = false := by decide) : DE X ms m (.Name x pos) (cK (.int i)) := by
  obtain ⟨t, h⟩ := h
  exact de_const (pe_glob (v := .int i) hg h ⟨t, rfl⟩ hd) (fun _ => .int i) rfl hm
theorem de_gStr {x : Str} {i : Str} (hg : Gl X x) (h : ∃ t, X.mg x = some (.str i t)) (hm : m ≠ .pr := by decide) (hd : (x == ("__debug__" : Str)) = false := by decide) : DE X ms m (.Name x pos) (cK (.str i)) := by
  obtain ⟨t, h⟩ := h
  exact de_const (pe_glob (v := .str i) hg h ⟨t, rfl⟩ hd) (fun _ => .str i) rfl hm
theorem de_ty {x : Str} {n : String} (hg : Gl X x) (h : X.mg x = none) (hv : bootBuiltins x = some (.type n)) (hm : m ≠ .pr := by decide) (hn : x ≠ "__name__" := by decide) (hd : (x == ("__debug__" : Str)) = false := by decide) : DE X ms m (.Name x pos) (cK (.ty n)) :=
  de_const (pe_bltn (v := .ty n) hg h hv rfl hn hd) (fun _ => .ty n) rfl hm
end
end DI
set_option Elab.async false
set_option autoImplicit false
set_option linter.all false
set_option maxRecDepth 100000
set_option maxHeartbeats 2000000
/-! DI14: how calls bind; the body's slots from any modes; slots forgotten. -/
namespace DI
open PySem PySem.Spec PyProof.Rows L2
section
variable {K : PySem.W.Frag} {x qual : Str} {params : Arguments} {body : List Stmt} {scope : Scope} {dvs : List V} {kws : List (Str × V)} {f : Addr} {fd : FuncData} {ps : List Str}
theorem cb_0 (F : FunD K x qual params body scope [] kws f fd) (n : Nat) (ks : List Str) (perm : List Nat)
    (h : ∀ (kV doc pm : Value) (an : Option Addr) (cdv ct : Value) (us ws : List Value), us.length = n → ws.length = ks.length → bindArgs (PySem.W.fnOf x qual params body scope .none kV doc pm an cdv ct) ⟨us, ks.zip ws⟩ = pure (ps.zip (sel perm (us ++ ws ++ [])))) : CallB K fd ps n ks perm [] := by
  obtain ⟨oc, od, dV, kV, doc, pm, an, cdv, ct, osl, rfl, lk, hcd, hD, hK⟩ := F.ex
  rcases hD with ⟨_, rfl⟩ | ⟨e, _⟩
  · exact ⟨[], .nil, fun s us ws X l1 l2 => .of_eq (h kV doc pm an cdv ct us ws l1 l2)⟩
  · exact absurd rfl e
theorem cb_d (F : FunD K x qual params body scope dvs kws f fd) (n : Nat) (ks : List Str) (perm : List Nat) (hd : dvs ≠ [])
    (h : ∀ (T : Addr) (kV doc pm : Value) (an : Option Addr) (cdv ct : Value) (us ws its : List Value), us.length = n → ws.length = ks.length → its.length = dvs.length →
      ∃ k, bindArgs (PySem.W.fnOf x qual params body scope (.ref T) kV doc pm an cdv ct) ⟨us, ks.zip ws⟩ = seqItems? (.ref T) >>= k ∧ k (some its.toArray) = pure (ps.zip (sel perm (us ++ ws ++ its)))) : CallB K fd ps n ks perm dvs := by
  obtain ⟨oc, od, dV, kV, doc, pm, an, cdv, ct, osl, rfl, lk, hcd, hD, hK⟩ := F.ex
  rcases hD with ⟨e, _⟩ | ⟨_, T, o, its, m, rfl, lT, oT, rT⟩
  · exact absurd e hd
  · refine ⟨its, rT, fun s us ws X l1 l2 => ?_⟩
    obtain ⟨k, e1, e2⟩ := h T kV doc pm an cdv ct us ws its l1 l2 rT.length.symm
    refine BindsTo.of_looks fun M => ?_
    rw [e1]
    exact looks_items X lT oT (PySem.W.Looks.of_pure e2)
end
/-! ### slots forgotten -/
theorem Slots.forget {K : PySem.W.Frag} {I H : Hp} : ∀ {ms : List Md} {σ : L2.St} {env : Env} {fp : List Addr} (i : Nat) (m : Md), Slots K I H ms σ env fp → ∃ fp', Slots K I H (ms.set i m) σ (env.set i none) fp' ∧ fp'.Sublist fp
  | _, _, _, _, _, _, .nil => ⟨[], .nil, .slnil⟩
  | _, _, _, fp, 0, _, .non s => ⟨fp, .non s, .refl _⟩
  | _, _, _, _, 0, _, .som (fp := fp) h s => ⟨fp, .non s, List.sublist_append_right _ _⟩
  | _, _, _, _, i + 1, m, .non s => by
    obtain ⟨fp', a, b⟩ := s.forget i m
    exact ⟨fp', .non a, b⟩
  | _, _, _, _, i + 1, m, .som (fp1 := f1) h s => by
    obtain ⟨fp', a, b⟩ := s.forget i m
    exact ⟨f1 ++ fp', .som h a, b.append_left _⟩
def cForget (i : Nat) (f : CS) : CS := fun env => f (env.set i none)
section
variable {X : Cx} {xm : List Bool} {ms ms' B : List Md} {ro : Md} {sts : List Stmt} {st : Stmt} {f : CS}
/-- a slot that is not looked at any more gets another mode -/
theorem dss_forget (i : Nat) (m : Md) (hp : notPr ms i = true) (hm : m ≠ .pr) (hx : xm = []) (h : DSs X xm (ms.set i m) ms' B ro sts f) : DSs X xm ms ms' B ro sts (cForget i f) := by
  obtain ⟨m0, g1, g2, g3⟩ := notPr_some hp
  have nm1 : norm (ms.set i m) = norm ms := norm_set g1 g2 hm
  subst hx
  refine ⟨h.nm.trans nm1, fun W tk => pss_imp (h.run W tk) fun D σ H h' => ?_⟩
  obtain ⟨I, env, fp, s, r, env', h1, q1, q2, q3, q4, q5⟩ := h'
  obtain ⟨fp1, a2, b⟩ := s.sl.forget i m
  have c : ∀ p ∈ fp1, p ∈ fp := fun p hp => b.subset hp
  have t1 : Step I H fp I H fp1 := (Step.refl _ _ _).less c
  refine ⟨I, env.set i none, fp1, ⟨s.ext, s.nd.sublist b, fun p hp => s.off p (c p hp), a2⟩, r, env', h1, fun z σ' H' I' fp' s' t' k' => q1 z σ' H' I' fp' s' (t1.trans t') (Keep.trans nm1 (Keep.refl _ _) k'), fun z σ' H' I' fp' s' t' k' => q2 z σ' H' I' fp' s' (t1.trans t') (Keep.trans nm1 (Keep.refl _ _) k'),
    fun z σ' H' I' fp' s' t' k' => q3 z σ' H' I' fp' s' (t1.trans t') (Keep.trans nm1 (Keep.refl _ _) k'), fun d z v σ' H' I' fp' fv s' t' rv nd off k' => q4 d z v σ' H' I' fp' fv (by rw [← nm1, ← maskB_norm nm1]; exact s') (t1.trans t') rv nd off (Keep.trans nm1 (Keep.refl _ _) k'), fun e z => (q5 e z).back nm1 t1 (Keep.refl _ _)⟩
end
/-! ### x op= e, of ints -/
def gAddI : Prim
  | [.int a, .int b] => some (.int (a + b))
  | _ => none
def gSubI : Prim
  | [.int a, .int b] => some (.int (a - b))
  | _ => none
def gMulI : Prim
  | [.int a, .int b] => if (-(2 ^ 64) < a ∧ a < 2 ^ 64) ∨ (-(2 ^ 64) < b ∧ b < 2 ^ 64) then some (.int (a * b)) else none
  | _ => none
def gFdivI : Prim
  | [.int a, .int b] => if 0 < b ∧ b < 1073741824 then some (.int (a / b)) else none
  | _ => none
def gModI : Prim
  | [.int a, .int b] => if 0 < b then some (.int (a % b)) else none
  | _ => none
theorem rds_int2 {K : PySem.W.Frag} {I H : Hp} {vs : List V} {a b : Int} (r : Rds K I H vs [.int a, .int b]) : vs = [.int a, .int b] := by
  obtain ⟨v, w, rfl, h1, h2⟩ := rds2 r
  cases (show Rep K I v (.int a) from h1)
  cases (show Rep K I w (.int b) from h2)
  rfl
theorem gAddI_ok {K : PySem.W.Frag} : PrimOk K true (rOf2 (rI0 fun i j => .int (i + j))) gAddI := by
  intro I H vs ds d Q e r g q1 q2 q3 q4
  unfold gAddI at g
  split at g
  · cases g; obtain rfl := rds_int2 r; exact ⟨_, _, rfl, rfl, q1 _ (fun _ => rfl) (.int _)⟩
  · cases g
theorem gSubI_ok {K : PySem.W.Frag} : PrimOk K true (rOf2 (rI0 fun i j => .int (i - j))) gSubI := by
  intro I H vs ds d Q e r g q1 q2 q3 q4
  unfold gSubI at g
  split at g
  · cases g; obtain rfl := rds_int2 r; exact ⟨_, _, rfl, rfl, q1 _ (fun _ => rfl) (.int _)⟩
  · cases g
theorem gMulI_ok {K : PySem.W.Frag} : PrimOk K true (rOf2 (rI CMul fun i j => .int (i * j))) gMulI := by
  intro I H vs ds d Q e r g q1 q2 q3 q4
  unfold gMulI at g
  split at g
  · split at g
    · rename_i h; cases g; obtain rfl := rds_int2 r; exact ⟨_, _, rfl, rfl, h, q1 _ (fun _ => rfl) (.int _)⟩
    · cases g
  · cases g
theorem gFdivI_ok {K : PySem.W.Frag} : PrimOk K true (rOf2 (rI CDiv fun i j => .int (i / j))) gFdivI := by
  intro I H vs ds d Q e r g q1 q2 q3 q4
  unfold gFdivI at g
  split at g
  · split at g
    · rename_i h; cases g; obtain rfl := rds_int2 r; exact ⟨_, _, rfl, rfl, h, q1 _ (fun _ => rfl) (.int _)⟩
    · cases g
  · cases g
theorem gModI_ok {K : PySem.W.Frag} : PrimOk K true (rOf2 (rI (fun _ j => 0 < j) fun i j => .int (i % j))) gModI := by
  intro I H vs ds d Q e r g q1 q2 q3 q4
  unfold gModI at g
  split at g
  · split at g
    · rename_i h; cases g; obtain rfl := rds_int2 r; exact ⟨_, _, rfl, rfl, h, q1 _ (fun _ => rfl) (.int _)⟩
    · cases g
  · cases g
/-! ### what the head says -/
abbrev defF (st : Stmt) (dvs : List V) (K : PySem.W.Frag) (x : Str) (f : Addr) (fd : FuncData) : Prop := FunD K x x (defArgs st) (defBody st) (defScope st) dvs [] f fd
theorem u65 {k : Nat} {A : Around} (r : Room k A) : A.units + 65 < cLine := by
  have := r.un
  omega
end DI
set_option Elab.async false
set_option autoImplicit false
set_option linter.all false
set_option maxRecDepth 100000
set_option maxHeartbeats 2000000
/-! DP1: what a meaning leaves, in plain Lean: rules for simp. -/
namespace DI
open PySem PySem.Spec PyProof.Rows L2
def wP {α : Type} (x : Option α) (Q : α → Prop) : Prop := ∃ d, x = some d ∧ Q d
def wM {α : Type} (x : Out α) (Q : α → Env → Prop) : Prop := ∃ a e, x = some (.ok a, e) ∧ Q a e
def wE (f : CE) (e : Env) (Q : D → Env → Prop) : Prop := wM (f e) Q
def wB (f : CB) (e : Env) (Q : Bool → Env → Prop) : Prop := wM (f e) Q
def wO (os : List Opd) (e : Env) (Q : List D → Env → Prop) : Prop := wM (evalOs os e) Q
def wI (f : CI) (e : Env) (Q : List D → Env → Prop) : Prop := wM (f e) Q
def wS (f : CS) (e : Env) (P : Fl → Env → Prop) : Prop := wM (f e) P
def wF (F : FnD) (ds : List D) (Q : D → Env → Prop) : Prop := wM (F ds) Q
def wL (tg : Tg) (c : CB) (f : CE) (vs : List Nat) (items : List D) (e : Env) (Q : List D → Env → Prop) : Prop := wM (lcD tg c f vs items e) Q
def wIf (b : Bool) (A B : Prop) : Prop := if b = true then A else B
def seqP (q : Env → Prop) (P : Fl → Env → Prop) : Fl → Env → Prop
  | .nx, e => q e
  | r, e => P r e
def isBl (d : D) (Q : Bool → Prop) : Prop := ∃ b, d = .bl b ∧ Q b
def isIn (d : D) (Q : Int → Prop) : Prop := ∃ b, d = .int b ∧ Q b
def isLs (d : D) (Q : List D → Prop) : Prop := ∃ b, d = .lst b ∧ Q b
/-! simp goes no further than what stands ahead -/
theorem wP_congr {α : Type} {x y : Option α} {Q : α → Prop} (h : x = y) : wP x Q = wP y Q := by rw [h]
theorem wE_congr {f : CE} {e e' : Env} {Q : D → Env → Prop} (h : e = e') : wE f e Q = wE f e' Q := by rw [h]
theorem wB_congr {f : CB} {e e' : Env} {Q : Bool → Env → Prop} (h : e = e') : wB f e Q = wB f e' Q := by rw [h]
theorem wO_congr {f : List Opd} {e e' : Env} {Q : List D → Env → Prop} (h : e = e') : wO f e Q = wO f e' Q := by rw [h]
theorem wI_congr {f : CI} {e e' : Env} {Q : List D → Env → Prop} (h : e = e') : wI f e Q = wI f e' Q := by rw [h]
theorem wS_congr {f : CS} {e e' : Env} {P : Fl → Env → Prop} (h : e = e') : wS f e P = wS f e' P := by rw [h]
theorem wF_congr {F : FnD} {e e' : List D} {Q : D → Env → Prop} (h : e = e') : wF F e Q = wF F e' Q := by rw [h]
theorem wL_congr {tg : Tg} {c : CB} {f : CE} {vs : List Nat} {i i' : List D} {e e' : Env} {Q : List D → Env → Prop} (h : e = e') (g : i = i') : wL tg c f vs i e Q = wL tg c f vs i' e' Q := by rw [h, g]
theorem wIf_congr {b b' : Bool} {A B : Prop} (h : b = b') : wIf b A B = wIf b' A B := by rw [h]
theorem isBl_congr {b b' : D} {Q : Bool → Prop} (h : b = b') : isBl b Q = isBl b' Q := by rw [h]
theorem isIn_congr {b b' : D} {Q : Int → Prop} (h : b = b') : isIn b Q = isIn b' Q := by rw [h]
theorem isLs_congr {b b' : D} {Q : List D → Prop} (h : b = b') : isLs b Q = isLs b' Q := by rw [h]
theorem seqP_congr {q : Env → Prop} {P : Fl → Env → Prop} {r r' : Fl} {e e' : Env} (h : e = e') (g : r = r') : seqP q P r e = seqP q P r' e' := by rw [h, g]
@[simp] theorem seqP_nx {q : Env → Prop} {P : Fl → Env → Prop} {e : Env} : seqP q P .nx e = q e := rfl
@[simp] theorem seqP_bk {q : Env → Prop} {P : Fl → Env → Prop} {e : Env} : seqP q P .bk e = P .bk e := rfl
@[simp] theorem seqP_ct {q : Env → Prop} {P : Fl → Env → Prop} {e : Env} : seqP q P .ct e = P .ct e := rfl
@[simp] theorem seqP_rt {q : Env → Prop} {P : Fl → Env → Prop} {e : Env} {d : D} : seqP q P (.rt d) e = P (.rt d) e := rfl
@[simp] theorem wP_some {α : Type} {d : α} {Q : α → Prop} : wP (some d) Q = Q d := by simp [wP]
@[simp] theorem isBl_bl {b : Bool} {Q : Bool → Prop} : isBl (.bl b) Q = Q b := by simp [isBl]
@[simp] theorem isIn_int {b : Int} {Q : Int → Prop} : isIn (.int b) Q = Q b := by simp [isIn]
@[simp] theorem isLs_lst {b : List D} {Q : List D → Prop} : isLs (.lst b) Q = Q b := by simp [isLs]
@[simp] theorem wIf_true {A B : Prop} : wIf true A B = A := by simp [wIf]
@[simp] theorem wIf_false {A B : Prop} : wIf false A B = B := by simp [wIf]
theorem wIf_i {b : Bool} {A B : Prop} (h1 : b = true → A) (h2 : b = false → B) : wIf b A B := by
  cases b
  · exact h2 rfl
  · exact h1 rfl
section
variable {α β : Type} {x : Out α} {k : α → Env → Out β} {Q : β → Env → Prop} {a : α} {e : Env}
theorem wM_bind : wM (mbind x k) Q = wM x fun a e => wM (k a e) Q := by
  unfold wM
  apply propext
  constructor
  · rintro ⟨d, e', h, q⟩
    rcases mbind_some h with ⟨e, _, z⟩ | ⟨a, e1, h1, h2⟩
    · cases z
    · exact ⟨a, e1, h1, d, e', h2, q⟩
  · rintro ⟨a, e1, h1, d, e', h2, q⟩
    exact ⟨d, e', by rw [h1]; exact h2, q⟩
theorem wM_ok {Q : α → Env → Prop} : wM (some (.ok a, e)) Q = Q a e := by
  unfold wM
  apply propext
  constructor
  · rintro ⟨_, _, h, q⟩; cases h; exact q
  · intro q; exact ⟨_, _, rfl, q⟩
theorem wM_none {Q : α → Env → Prop} : wM none Q = False := by
  unfold wM
  apply propext
  constructor
  · rintro ⟨_, _, h, q⟩; cases h
  · intro q; exact q.elim
theorem wM_err {Q : α → Env → Prop} {z : Exn} : wM (some (.error z, e)) Q = False := by
  unfold wM
  apply propext
  constructor
  · rintro ⟨_, _, h, q⟩; cases h
  · intro q; exact q.elim
theorem wM_pOut {g : Option D} {Q : D → Env → Prop} : wM (pOut g e) Q = wP g fun d => Q d e := by
  cases g with
  | none => unfold pOut wP; rw [wM_none]; simp
  | some d => unfold pOut; rw [wM_ok]; simp [wP]
theorem wP_none {γ : Type} {Q : γ → Prop} : wP (none : Option γ) Q = False := by simp [wP]
theorem isBl_no {d : D} {Q : Bool → Prop} (h : ∀ b, d ≠ .bl b) : isBl d Q = False := by
  unfold isBl; apply propext; constructor
  · rintro ⟨b, z, _⟩; exact h b z
  · exact False.elim
theorem isIn_no {d : D} {Q : Int → Prop} (h : ∀ b, d ≠ .int b) : isIn d Q = False := by
  unfold isIn; apply propext; constructor
  · rintro ⟨b, z, _⟩; exact h b z
  · exact False.elim
theorem isLs_no {d : D} {Q : List D → Prop} (h : ∀ b, d ≠ .lst b) : isLs d Q = False := by
  unfold isLs; apply propext; constructor
  · rintro ⟨b, z, _⟩; exact h b z
  · exact False.elim
end
section
variable {e : Env} {Q : D → Env → Prop} {QB : Bool → Env → Prop} {QL : List D → Env → Prop} {P : Fl → Env → Prop} {f f1 f2 fa fb fc fe fx : CE} {t u : CB} {g g' : Prim} {os : List Opd} {i : Nat} {d : D} {s s1 s2 : CS}
theorem wE_var : wE (cVar i) e Q = wP (getS e i) fun d => Q d e := wM_pOut
theorem wE_K : wE (cK d) e Q = Q d e := wM_ok
theorem wO_nil : wO [] e QL = QL [] e := wM_ok
theorem wO_tm : wO (.tm f :: os) e QL = wE f e fun d e1 => wO os e1 fun ds e2 => QL (d :: ds) e2 := by
  show wM (mbind (f e) _) _ = _
  rw [wM_bind]
  unfold wE wO
  congr 1; funext d e1
  rw [wM_bind]
  congr 1; funext ds e2
  exact wM_ok
theorem wO_vr : wO (.vr i :: os) e QL = wP (getS e i) fun _ => wO os e fun ds e2 => wP (getS e2 i) fun d => QL (d :: ds) e2 := by
  show wM (match getS e i with
    | none => none
    | some _ => mbind (evalOs os e) fun ds e2 => match getS e2 i with
      | some d => some (.ok (d :: ds), e2)
      | none => none) _ = _
  cases h : getS e i with
  | none => rw [wP_none]; exact wM_none
  | some d0 =>
    rw [wP_some]
    simp only
    rw [wM_bind]
    unfold wO
    congr 1; funext ds e2
    cases h2 : getS e2 i with
    | none => rw [wP_none]; exact wM_none
    | some d => rw [wP_some]; exact wM_ok
theorem wE_prim : wE (cPrim g os) e Q = wO os e fun ds e1 => wP (g ds) fun d => Q d e1 := by
  unfold wE cPrim wO
  rw [wM_bind]
  congr 1; funext ds e1
  exact wM_pOut
theorem wB_test : wB (cTest f) e QB = wE f e fun d e1 => isBl d fun b => QB b e1 := by
  unfold wB cTest wE
  rw [wM_bind]
  congr 1; funext d e1
  cases d with
  | bl b => rw [isBl_bl]; exact wM_ok
  | _ => rw [isBl_no (by intro b h; cases h)]; exact wM_none
theorem wB_not : wB (cNot t) e QB = wB t e fun b e1 => QB (!b) e1 := by
  unfold wB cNot
  rw [wM_bind]
  congr 1; funext b e1
  exact wM_ok
theorem wB_and : wB (cAnd t u) e QB = wB t e fun b e1 => wIf b (wB u e1 QB) (QB false e1) := by
  unfold wB cAnd
  rw [wM_bind]
  congr 1; funext b e1
  cases b
  · exact wM_ok
  · rfl
theorem wB_or : wB (cOr t u) e QB = wB t e fun b e1 => wIf b (QB true e1) (wB u e1 QB) := by
  unfold wB cOr
  rw [wM_bind]
  congr 1; funext b e1
  cases b
  · rfl
  · exact wM_ok
theorem wE_andV : wE (cAndV f1 f2) e Q = wE f1 e fun d e1 => isBl d fun b => wIf b (wE f2 e1 Q) (Q (.bl false) e1) := by
  unfold wE cAndV
  rw [wM_bind]
  congr 1; funext d e1
  cases d with
  | bl b =>
    rw [isBl_bl]
    cases b
    · exact wM_ok
    · rfl
  | _ => rw [isBl_no (by intro b h; cases h)]; exact wM_none
theorem wE_orV : wE (cOrV f1 f2) e Q = wE f1 e fun d e1 => isBl d fun b => wIf b (Q (.bl true) e1) (wE f2 e1 Q) := by
  unfold wE cOrV
  rw [wM_bind]
  congr 1; funext d e1
  cases d with
  | bl b =>
    rw [isBl_bl]
    cases b
    · rfl
    · exact wM_ok
  | _ => rw [isBl_no (by intro b h; cases h)]; exact wM_none
theorem wE_notV : wE (cNotV f) e Q = wE f e fun d e1 => isBl d fun b => Q (.bl (!b)) e1 := by
  unfold wE cNotV
  rw [wM_bind]
  congr 1; funext d e1
  cases d with
  | bl b => rw [isBl_bl]; exact wM_ok
  | _ => rw [isBl_no (by intro b h; cases h)]; exact wM_none
theorem wE_if : wE (cIf t f1 f2) e Q = wB t e fun b e1 => wIf b (wE f1 e1 Q) (wE f2 e1 Q) := by
  unfold wE cIf wB
  rw [wM_bind]
  congr 1; funext b e1
  cases b <;> rfl
theorem wE_int : wE (cInt f) e Q = wE f e fun d e1 => isIn d fun b => Q (.int b) e1 := by
  unfold wE cInt
  rw [wM_bind]
  congr 1; funext d e1
  cases d with
  | int b => rw [isIn_int]; exact wM_ok
  | _ => rw [isIn_no (by intro b h; cases h)]; exact wM_none
theorem wE_chain : wE (cChain g g' fa fb fc) e Q = wE fa e fun x e1 => wE fb e1 fun y e2 => wP (g [x, y]) fun z => isBl z fun b => wIf b (wE fc e2 fun z e3 => wP (g' [y, z]) fun d => Q d e3) (Q (.bl false) e2) := by
  unfold wE cChain
  rw [wM_bind]
  congr 1; funext x e1
  rw [wM_bind]
  congr 1; funext y e2
  cases hg : g [x, y] with
  | none => rw [wP_none]; simp only [hg]; exact wM_none
  | some z =>
    rw [wP_some]
    cases z with
    | bl b =>
      rw [isBl_bl]
      cases b
      · simp only [hg]; exact wM_ok
      · simp only [hg]
        rw [wM_bind, wIf_true]
        congr 1; funext z e3
        exact wM_pOut
    | _ => rw [isBl_no (by intro b h; cases h)]; simp only [hg]; exact wM_none
theorem wM_callOut {x : Option (Except Exn D × Env)} {kinds : List AK} {ro : Md} : wM (callOut x kinds ro e) Q = wM x fun d fin => okBo kinds ro (.ok d) fin = true ∧ Q d (backE kinds fin e) := by
  cases x with
  | none => rw [wM_none]; exact wM_none
  | some y =>
    obtain ⟨r, fin⟩ := y
    cases r with
    | error z =>
      rw [wM_err]
      unfold callOut
      simp only
      split
      · exact wM_err
      · exact wM_none
    | ok d =>
      rw [wM_ok]
      unfold callOut
      simp only
      split
      · rename_i h; rw [wM_ok]; simp [h]
      · rename_i h; rw [wM_none]; simp [h]
theorem wE_call {F : FnD} {kinds : List AK} {ro : Md} {perm : List Nat} {dds : List D} : wE (cCall F kinds ro perm dds os) e Q = wO os e fun ds e1 => wF F (sel perm (ds ++ dds)) fun d fin => okBo kinds ro (.ok d) fin = true ∧ Q d (backE kinds fin e1) := by
  unfold wE cCall wO wF
  rw [wM_bind]
  congr 1; funext ds e1
  exact wM_callOut
theorem wM_lcOut {x : Out (List D)} {vs : List Nat} {e1 : Env} : wM (lcOut e1 vs x) Q = wM x fun ys e2 => ys.length ≤ sizeLine ∧ Q (.lst ys) (restoreE e1 (wipeE e2 vs) vs) := by
  cases x with
  | none => rw [wM_none]; exact wM_none
  | some y =>
    obtain ⟨r, fin⟩ := y
    cases r with
    | error z => rw [wM_err]; exact wM_none
    | ok d =>
      rw [wM_ok]
      unfold lcOut
      simp only
      split
      · rename_i h; rw [wM_ok]; simp [h]
      · rename_i h; rw [wM_none]; simp [h]
theorem wE_lc {it : CI} {tg : Tg} {c : CB} {vs : List Nat} : wE (cLc it tg c f vs) e Q = wI it e fun items e1 => wL tg c f vs items e1 fun ys e2 => ys.length ≤ sizeLine ∧ Q (.lst ys) (restoreE e1 (wipeE e2 vs) vs) := by
  unfold wE cLc wI wL
  rw [wM_bind]
  congr 1; funext ds e1
  exact wM_lcOut
theorem wM_iOut {g : Option (List D)} : wM (iOut g e) QL = wP g fun d => QL d e := by
  cases g with
  | none => rw [wP_none]; exact wM_none
  | some d => rw [wP_some]; exact wM_ok
theorem wI_it {gi : List D → Option (List D)} : wI (cIt gi os) e QL = wO os e fun ds e1 => wP (gi ds) fun items => QL items e1 := by
  unfold wI cIt wO
  rw [wM_bind]
  congr 1; funext ds e1
  exact wM_iOut
/-! statements -/
theorem wS_seq : wS (cSeq s1 s2) e P = wS s1 e (seqP (fun e1 => wS s2 e1 P) P) := by
  unfold wS cSeq
  cases h1 : s1 e with
  | none => exact wM_none.trans wM_none.symm
  | some y =>
    obtain ⟨ry, ey⟩ := y
    cases ry with
    | error x => exact wM_err.trans wM_err.symm
    | ok fl =>
      rw [wM_ok]
      cases fl with
      | nx => rfl
      | _ => exact wM_ok
theorem wS_skip : wS cSkip e P = P .nx e := wM_ok
theorem wS_brk : wS cBrk e P = P .bk e := wM_ok
theorem wS_cnt : wS cCnt e P = P .ct e := wM_ok
theorem wS_stuck : wS cStuck e P = False := wM_none
theorem wS_forget : wS (cForget i s) e P = wS s (e.set i none) P := rfl
theorem wS_asg : wS (cAsg i f) e P = wE f e fun d e1 => P .nx (e1.set i (some d)) := by
  unfold wS cAsg wE
  rw [wM_bind]
  congr 1; funext d e1
  exact wM_ok
theorem wS_drop : wS (cDrop f) e P = wE f e fun _ e1 => P .nx e1 := by
  unfold wS cDrop wE
  rw [wM_bind]
  congr 1; funext d e1
  exact wM_ok
theorem wS_ret : wS (cRet f) e P = wE f e fun d e1 => P (.rt d) e1 := by
  unfold wS cRet wE
  rw [wM_bind]
  congr 1; funext d e1
  exact wM_ok
theorem wS_retN : wS cRetN e P = P (.rt .non) e := wM_ok
theorem wS_par {j : Nat} : wS (cPar i j f1 f2) e P = wE f1 e fun d e1 => wE f2 e1 fun d2 e2 => P .nx ((e2.set i (some d)).set j (some d2)) := by
  unfold wS cPar wE
  rw [wM_bind]
  congr 1; funext d e1
  rw [wM_bind]
  congr 1; funext d2 e2
  exact wM_ok
theorem wS_unp {tg : Tg} : wS (cUnp tg f) e P = wE f e fun d e1 => wP (asgT tg d e1) fun e2 => P .nx e2 := by
  unfold wS cUnp wE
  rw [wM_bind]
  congr 1; funext d e1
  cases h : asgT tg d e1 with
  | none => rw [wP_none]; exact wM_none
  | some e2 => rw [wP_some]; exact wM_ok
theorem wS_if : wS (cIfS t s1 s2) e P = wB t e fun b e1 => wIf b (wS s1 e1 P) (wS s2 e1 P) := by
  unfold wS cIfS wB
  rw [wM_bind]
  congr 1; funext b e1
  cases b <;> rfl
theorem wS_aug : wS (cAug i g f) e P = wP (getS e i) fun d0 => wE f e fun d e1 => wP (g [d0, d]) fun d1 => P .nx (e1.set i (some d1)) := by
  unfold wS cAug wE
  cases h : getS e i with
  | none => rw [wP_none]; exact wM_none
  | some d0 =>
    rw [wP_some]
    simp only
    rw [wM_bind]
    congr 1; funext d e1
    cases h2 : g [d0, d] with
    | none => rw [wP_none]; exact wM_none
    | some d1 => rw [wP_some]; exact wM_ok
theorem wS_set : wS (cSetI i fe fx) e P = wP (getS e i) fun _ => wE fe e fun d e1 => wE fx e1 fun k e2 => isIn k fun j => wP (getS e2 i) fun l => isLs l fun xs => wP (ixN xs.length j) fun n => P .nx (e2.set i (some (.lst (xs.set n d)))) := by
  unfold wS cSetI wE
  cases h : getS e i with
  | none => rw [wP_none]; exact wM_none
  | some d0 =>
    rw [wP_some]
    simp only
    rw [wM_bind]
    congr 1; funext d e1
    rw [wM_bind]
    congr 1; funext k e2
    cases k with
    | int j =>
      rw [isIn_int]
      cases h2 : getS e2 i with
      | none => rw [wP_none]; exact wM_none
      | some l =>
        rw [wP_some]
        cases l with
        | lst xs =>
          rw [isLs_lst]
          simp only
          cases h3 : ixN xs.length j with
          | none => rw [wP_none]; exact wM_none
          | some n => rw [wP_some]; exact wM_ok
        | _ => rw [isLs_no (by intro b h; cases h)]; exact wM_none
    | _ => rw [isIn_no (by intro b h; cases h)]; exact wM_none
theorem wE_mut {gm : List D → List D → Option (D × List D)} : wE (cMut i gm os) e Q = wP (getS e i) fun l => isLs l fun _ => wO os e fun ds e1 => wP (getS e1 i) fun l => isLs l fun xs => wP (gm xs ds) fun y => Q y.1 (e1.set i (some (.lst y.2))) := by
  unfold wE cMut wO
  cases h : getS e i with
  | none => rw [wP_none]; exact wM_none
  | some d0 =>
    rw [wP_some]
    cases d0 with
    | lst xs0 =>
      rw [isLs_lst]
      simp only
      rw [wM_bind]
      congr 1; funext ds e1
      cases h2 : getS e1 i with
      | none => rw [wP_none]; exact wM_none
      | some l =>
        rw [wP_some]
        cases l with
        | lst xs =>
          rw [isLs_lst]
          simp only
          cases h3 : gm xs ds with
          | none => rw [wP_none]; exact wM_none
          | some y => rw [wP_some]; exact wM_ok
        | _ => rw [isLs_no (by intro b h; cases h)]; exact wM_none
    | _ => rw [isLs_no (by intro b h; cases h)]; exact wM_none
theorem wS_for {it : CI} {tg : Tg} : wS (cFor it tg s) e P = wI it e fun items e1 => wS (forD tg s items) e1 P := wM_bind
def runP (pm : List Md) (Q : D → Env → Prop) : Fl → Env → Prop
  | .rt d, e => Q d (finE pm e)
  | .nx, e => Q .non (finE pm e)
  | _, _ => False
theorem runP_congr {pm : List Md} {r r' : Fl} {e e' : Env} (h : e = e') (g : r = r') : runP pm Q r e = runP pm Q r' e' := by rw [h, g]
@[simp] theorem runP_rt {pm : List Md} : runP pm Q (.rt d) e = Q d (finE pm e) := rfl
@[simp] theorem runP_nx {pm : List Md} : runP pm Q .nx e = Q .non (finE pm e) := rfl
@[simp] theorem wF_run {n : Nat} {pm : List Md} {ds : List D} : wF (runF n pm s) ds Q = wS s (ds.map some ++ List.replicate (n - ds.length) none) (runP pm Q) := by
  unfold wF runF wS
  cases h1 : s (ds.map some ++ List.replicate (n - ds.length) none) with
  | none => exact wM_none.trans wM_none.symm
  | some y =>
    obtain ⟨ry, ey⟩ := y
    cases ry with
    | error x => exact wM_err.trans wM_err.symm
    | ok fl =>
      rw [wM_ok]
      cases fl with
      | nx => exact wM_ok
      | rt d => exact wM_ok
      | _ => exact wM_none
/-! for simp: only where the slots are known -/
@[simp] theorem wE_var_ {o : Option D} : wE (cVar i) (o :: e) Q = wP (getS (o :: e) i) fun d => Q d (o :: e) := wE_var
@[simp] theorem wE_K_ {o : Option D} : wE (cK d) (o :: e) Q = Q d (o :: e) := wE_K
@[simp] theorem wO_nil_ {o : Option D} : wO [] (o :: e) QL = QL [] (o :: e) := wO_nil
@[simp] theorem wO_tm_ {o : Option D} : wO (.tm f :: os) (o :: e) QL = wE f (o :: e) fun d e1 => wO os e1 fun ds e2 => QL (d :: ds) e2 := wO_tm
@[simp] theorem wO_vr_ {o : Option D} : wO (.vr i :: os) (o :: e) QL = wP (getS (o :: e) i) fun _ => wO os (o :: e) fun ds e2 => wP (getS e2 i) fun d => QL (d :: ds) e2 := wO_vr
@[simp] theorem wE_prim_ {o : Option D} : wE (cPrim g os) (o :: e) Q = wO os (o :: e) fun ds e1 => wP (g ds) fun d => Q d e1 := wE_prim
@[simp] theorem wB_test_ {o : Option D} : wB (cTest f) (o :: e) QB = wE f (o :: e) fun d e1 => isBl d fun b => QB b e1 := wB_test
@[simp] theorem wB_not_ {o : Option D} : wB (cNot t) (o :: e) QB = wB t (o :: e) fun b e1 => QB (!b) e1 := wB_not
@[simp] theorem wB_and_ {o : Option D} : wB (cAnd t u) (o :: e) QB = wB t (o :: e) fun b e1 => wIf b (wB u e1 QB) (QB false e1) := wB_and
@[simp] theorem wB_or_ {o : Option D} : wB (cOr t u) (o :: e) QB = wB t (o :: e) fun b e1 => wIf b (QB true e1) (wB u e1 QB) := wB_or
@[simp] theorem wE_andV_ {o : Option D} : wE (cAndV f1 f2) (o :: e) Q = wE f1 (o :: e) fun d e1 => isBl d fun b => wIf b (wE f2 e1 Q) (Q (.bl false) e1) := wE_andV
@[simp] theorem wE_orV_ {o : Option D} : wE (cOrV f1 f2) (o :: e) Q = wE f1 (o :: e) fun d e1 => isBl d fun b => wIf b (Q (.bl true) e1) (wE f2 e1 Q) := wE_orV
@[simp] theorem wE_notV_ {o : Option D} : wE (cNotV f) (o :: e) Q = wE f (o :: e) fun d e1 => isBl d fun b => Q (.bl (!b)) e1 := wE_notV
@[simp] theorem wE_if_ {o : Option D} : wE (cIf t f1 f2) (o :: e) Q = wB t (o :: e) fun b e1 => wIf b (wE f1 e1 Q) (wE f2 e1 Q) := wE_if
@[simp] theorem wE_int_ {o : Option D} : wE (cInt f) (o :: e) Q = wE f (o :: e) fun d e1 => isIn d fun b => Q (.int b) e1 := wE_int
@[simp] theorem wE_chain_ {o : Option D} : wE (cChain g g' fa fb fc) (o :: e) Q = wE fa (o :: e) fun x e1 => wE fb e1 fun y e2 => wP (g [x, y]) fun z => isBl z fun b => wIf b (wE fc e2 fun z e3 => wP (g' [y, z]) fun d => Q d e3) (Q (.bl false) e2) := wE_chain
@[simp] theorem wE_call_ {F : FnD} {kinds : List AK} {ro : Md} {perm : List Nat} {dds : List D} {o : Option D} : wE (cCall F kinds ro perm dds os) (o :: e) Q = wO os (o :: e) fun ds e1 => wF F (sel perm (ds ++ dds)) fun d fin => okBo kinds ro (.ok d) fin = true ∧ Q d (backE kinds fin e1) := wE_call
@[simp] theorem wE_lc_ {it : CI} {tg : Tg} {c : CB} {vs : List Nat} {o : Option D} : wE (cLc it tg c f vs) (o :: e) Q = wI it (o :: e) fun items e1 => wL tg c f vs items e1 fun ys e2 => ys.length ≤ sizeLine ∧ Q (.lst ys) (restoreE e1 (wipeE e2 vs) vs) := wE_lc
@[simp] theorem wI_it_ {gi : List D → Option (List D)} {o : Option D} : wI (cIt gi os) (o :: e) QL = wO os (o :: e) fun ds e1 => wP (gi ds) fun items => QL items e1 := wI_it
@[simp] theorem wS_seq_ {o : Option D} : wS (cSeq s1 s2) (o :: e) P = wS s1 (o :: e) (seqP (fun e1 => wS s2 e1 P) P) := wS_seq
@[simp] theorem wS_skip_ {o : Option D} : wS cSkip (o :: e) P = P .nx (o :: e) := wS_skip
@[simp] theorem wS_brk_ {o : Option D} : wS cBrk (o :: e) P = P .bk (o :: e) := wS_brk
@[simp] theorem wS_cnt_ {o : Option D} : wS cCnt (o :: e) P = P .ct (o :: e) := wS_cnt
@[simp] theorem wS_stuck_ {o : Option D} : wS cStuck (o :: e) P = False := wS_stuck
@[simp] theorem wS_forget_ {o : Option D} : wS (cForget i s) (o :: e) P = wS s ((o :: e).set i none) P := wS_forget
@[simp] theorem wS_asg_ {o : Option D} : wS (cAsg i f) (o :: e) P = wE f (o :: e) fun d e1 => P .nx (e1.set i (some d)) := wS_asg
@[simp] theorem wS_drop_ {o : Option D} : wS (cDrop f) (o :: e) P = wE f (o :: e) fun _ e1 => P .nx e1 := wS_drop
@[simp] theorem wS_ret_ {o : Option D} : wS (cRet f) (o :: e) P = wE f (o :: e) fun d e1 => P (.rt d) e1 := wS_ret
@[simp] theorem wS_retN_ {o : Option D} : wS cRetN (o :: e) P = P (.rt .non) (o :: e) := wS_retN
@[simp] theorem wS_par_ {j : Nat} {o : Option D} : wS (cPar i j f1 f2) (o :: e) P = wE f1 (o :: e) fun d e1 => wE f2 e1 fun d2 e2 => P .nx ((e2.set i (some d)).set j (some d2)) := wS_par
@[simp] theorem wS_unp_ {tg : Tg} {o : Option D} : wS (cUnp tg f) (o :: e) P = wE f (o :: e) fun d e1 => wP (asgT tg d e1) fun e2 => P .nx e2 := wS_unp
@[simp] theorem wS_if_ {o : Option D} : wS (cIfS t s1 s2) (o :: e) P = wB t (o :: e) fun b e1 => wIf b (wS s1 e1 P) (wS s2 e1 P) := wS_if
@[simp] theorem wS_aug_ {o : Option D} : wS (cAug i g f) (o :: e) P = wP (getS (o :: e) i) fun d0 => wE f (o :: e) fun d e1 => wP (g [d0, d]) fun d1 => P .nx (e1.set i (some d1)) := wS_aug
@[simp] theorem wS_set_ {o : Option D} : wS (cSetI i fe fx) (o :: e) P = wP (getS (o :: e) i) fun _ => wE fe (o :: e) fun d e1 => wE fx e1 fun k e2 => isIn k fun j => wP (getS e2 i) fun l => isLs l fun xs => wP (ixN xs.length j) fun n => P .nx (e2.set i (some (.lst (xs.set n d)))) := wS_set
@[simp] theorem wE_mut_ {gm : List D → List D → Option (D × List D)} {o : Option D} : wE (cMut i gm os) (o :: e) Q = wP (getS (o :: e) i) fun l => isLs l fun _ => wO os (o :: e) fun ds e1 => wP (getS e1 i) fun l => isLs l fun xs => wP (gm xs ds) fun y => Q y.1 (e1.set i (some (.lst y.2))) := wE_mut
@[simp] theorem wS_for_ {it : CI} {tg : Tg} {o : Option D} : wS (cFor it tg s) (o :: e) P = wI it (o :: e) fun items e1 => wS (forD tg s items) e1 P := wS_for
end
end DI
set_option Elab.async false
set_option autoImplicit false
set_option linter.all false
set_option maxRecDepth 100000
set_option maxHeartbeats 2000000
/-! DP2: what prims give; slots; loops. -/
namespace DI
open PySem PySem.Spec PyProof.Rows L2
section
variable {e : Env} {Q : D → Prop} {o : Option D} {i : Nat} {a b : Int} {x y : Bool} {ds : List D}
@[simp] theorem getS_zero : getS (o :: e) 0 = o := rfl
@[simp] theorem getS_succ : getS (o :: e) (i + 1) = getS e i := rfl
@[simp] theorem wP_gAdd : wP (gAdd [.int a, .int b]) Q = Q (.int (a + b)) := wP_some
@[simp] theorem wP_gAddL {c d : List D} : wP (gAdd [.lst c, .lst d]) Q = (c.length + d.length ≤ sizeLine ∧ Q (.lst (c ++ d))) := by
  show wP (if c.length + d.length ≤ sizeLine then some (D.lst (c ++ d)) else none) Q = _
  split
  · rename_i h; rw [wP_some]; simp [h]
  · rename_i h; rw [wP_none]; simp [h]
@[simp] theorem wP_gSub : wP (gSub [.int a, .int b]) Q = Q (.int (a - b)) := wP_some
@[simp] theorem wP_gNeg : wP (gNeg [.int a]) Q = Q (.int (-a)) := wP_some
theorem wP_ite {α : Type} {c : Prop} [Decidable c] {d : α} {Q : α → Prop} : wP (if c then some d else none) Q = (c ∧ Q d) := by
  split
  · rename_i h; rw [wP_some]; simp [h]
  · rename_i h; rw [wP_none]; simp [h]
@[simp] theorem wP_gMul : wP (gMul [.int a, .int b]) Q = (okMul a b ∧ Q (.int (a * b))) := wP_ite
@[simp] theorem wP_gFdiv : wP (gFdiv [.int a, .int b]) Q = ((0 < b ∧ b.natAbs.log2 < 9000) ∧ Q (.int (a / b))) := wP_ite
@[simp] theorem wP_gMod : wP (gMod [.int a, .int b]) Q = (0 < b ∧ Q (.int (a % b))) := wP_ite
@[simp] theorem wP_gPow : wP (gPow [.int a, .int b]) Q = ((0 ≤ b ∧ (a.natAbs.log2 + 1) * b.toNat ≤ 100000000) ∧ Q (.int (a ^ b.toNat))) := wP_ite
@[simp] theorem wP_gAddI : wP (gAddI [.int a, .int b]) Q = Q (.int (a + b)) := wP_some
@[simp] theorem wP_gSubI : wP (gSubI [.int a, .int b]) Q = Q (.int (a - b)) := wP_some
@[simp] theorem wP_gModI : wP (gModI [.int a, .int b]) Q = (0 < b ∧ Q (.int (a % b))) := wP_ite
@[simp] theorem wP_gFdivI : wP (gFdivI [.int a, .int b]) Q = ((0 < b ∧ b < 1073741824) ∧ Q (.int (a / b))) := wP_ite
@[simp] theorem wP_gMulI : wP (gMulI [.int a, .int b]) Q = (((-(2 ^ 64) < a ∧ a < 2 ^ 64) ∨ (-(2 ^ 64) < b ∧ b < 2 ^ 64)) ∧ Q (.int (a * b))) := wP_ite
@[simp] theorem wP_gLt : wP (gLt [.int a, .int b]) Q = Q (.bl (decide (a < b))) := wP_some
@[simp] theorem wP_gLe : wP (gLe [.int a, .int b]) Q = Q (.bl (decide (a ≤ b))) := wP_some
@[simp] theorem wP_gGt : wP (gGt [.int a, .int b]) Q = Q (.bl (decide (b < a))) := wP_some
@[simp] theorem wP_gGe : wP (gGe [.int a, .int b]) Q = Q (.bl (decide (b ≤ a))) := wP_some
@[simp] theorem wP_gMax2 : wP (gMax2 [.int a, .int b]) Q = Q (.int (max a b)) := by
  have : (if b > a then b else a) = max a b := by rw [Int.max_def]; split <;> split <;> omega
  show wP (some (D.int (if b > a then b else a))) Q = _
  rw [this, wP_some]
@[simp] theorem wP_gMin2 : wP (gMin2 [.int a, .int b]) Q = Q (.int (min a b)) := by
  have : (if b < a then b else a) = min a b := by rw [Int.min_def]; split <;> split <;> omega
  show wP (some (D.int (if b < a then b else a))) Q = _
  rw [this, wP_some]
@[simp] theorem wP_gAbs : wP (gAbs [.int a]) Q = Q (.int a.natAbs) := by
  have : (if a < 0 then -a else a) = (a.natAbs : Int) := by split <;> omega
  show wP (some (D.int (if a < 0 then -a else a))) Q = _
  rw [this, wP_some]
@[simp] theorem wP_gLen : wP (gLen [.lst ds]) Q = Q (.int ds.length) := wP_some
@[simp] theorem wP_gLenS {ns : List Int} : wP (gLen [.scr ns]) Q = Q (.int ns.length) := wP_some
@[simp] theorem wP_gLst : wP (gLst ds) Q = (ds.length ≤ sizeLine ∧ Q (.lst ds)) := wP_ite
@[simp] theorem wP_gTup : wP (gTup ds) Q = (ds.length ≤ sizeLine ∧ Q (.tup ds)) := wP_ite
@[simp] theorem wP_gIx : wP (gIx [.lst ds, .int a]) Q = wP (atI ds a) Q := rfl
@[simp] theorem wP_gIxT : wP (gIx [.tup ds, .int a]) Q = wP (atI ds a) Q := rfl
@[simp] theorem wP_gIxS {ns : List Int} : wP (gIx [.scr ns, .int a]) Q = wP (atI ns a) fun n => Q (.int n) := by
  show wP ((atI ns a).map D.int) Q = _
  cases atI ns a with
  | none => rw [wP_none]; exact wP_none
  | some n => rw [wP_some]; exact wP_some
@[simp] theorem wP_gIsN : wP (gIs [.non, .non]) Q = Q (.bl true) := wP_some
@[simp] theorem wP_gIsB : wP (gIs [.bl x, .bl y]) Q = Q (.bl (decide (x = y))) := wP_some
@[simp] theorem wP_gIsNotB : wP (gIsNot [.bl x, .bl y]) Q = Q (.bl (!decide (x = y))) := wP_some
@[simp] theorem wP_gIsiI : wP (gIsi [.int a, .ty "int"]) Q = Q (.bl true) := wP_some
@[simp] theorem wP_gIsiB : wP (gIsi [.int a, .ty "bool"]) Q = Q (.bl false) := wP_some
@[simp] theorem wP_gIsiL : wP (gIsi [.lst ds, .ty "list"]) Q = Q (.bl true) := wP_some
end
@[simp] theorem sizeLine_num : sizeLine = 16777216 := sizeLine_eq
/-! cuts -/
theorem wE_cut {f : CE} {e : DI.Env} {Q : D → DI.Env → Prop} (R : D → DI.Env → Prop) (h : wE f e R) (k : ∀ d e', R d e' → Q d e') : wE f e Q := by
  obtain ⟨d, e', a, b⟩ := h
  exact ⟨d, e', a, k d e' b⟩
theorem wB_cut {f : CB} {e : DI.Env} {Q : Bool → DI.Env → Prop} (R : Bool → DI.Env → Prop) (h : wB f e R) (k : ∀ d e', R d e' → Q d e') : wB f e Q := by
  obtain ⟨d, e', a, b⟩ := h
  exact ⟨d, e', a, k d e' b⟩
theorem wS_cut {f : CS} {e : DI.Env} {Q : Fl → DI.Env → Prop} (R : Fl → DI.Env → Prop) (h : wS f e R) (k : ∀ d e', R d e' → Q d e') : wS f e Q := by
  obtain ⟨d, e', a, b⟩ := h
  exact ⟨d, e', a, k d e' b⟩
theorem wF_cut {f : FnD} {ds : List D} {Q : D → DI.Env → Prop} (R : D → DI.Env → Prop) (h : wF f ds R) (k : ∀ d e', R d e' → Q d e') : wF f ds Q := by
  obtain ⟨d, e', a, b⟩ := h
  exact ⟨d, e', a, k d e' b⟩
/-! list indices -/
section
variable {α : Type} {xs : List α} {a : Int} {Q : α → Prop}
theorem ixN_nat {n k : Nat} (h : k < n) : ixN n (k : Int) = some k := by
  unfold ixN
  rw [if_pos (by omega), if_pos (by omega)]
  simp
@[simp] theorem ixN_0 {n : Nat} : ixN (n + 1) 0 = some 0 := by have := ixN_nat (n := n + 1) (k := 0) (by omega); simpa using this
@[simp] theorem ixN_1 {n : Nat} : ixN (n + 2) 1 = some 1 := by have := ixN_nat (n := n + 2) (k := 1) (by omega); simpa using this
@[simp] theorem ixN_2 {n : Nat} : ixN (n + 3) 2 = some 2 := by have := ixN_nat (n := n + 3) (k := 2) (by omega); simpa using this
theorem atI_nat {k : Nat} : atI xs (k : Int) = xs[k]? := by
  unfold atI
  by_cases h : k < xs.length
  · rw [ixN_nat h]; rfl
  · have : ixN xs.length (k : Int) = none := by
      unfold ixN
      rw [if_pos (by omega), if_neg (by omega)]
    rw [this, List.getElem?_eq_none (by omega)]
    rfl
theorem wP_atI {k : Nat} : wP (atI xs (k : Int)) Q = wP xs[k]? Q := by rw [atI_nat]
theorem wP_at {k : Int} (h0 : 0 ≤ k) : wP (atI xs k) Q = wP xs[k.toNat]? Q := by
  obtain ⟨n, rfl⟩ := Int.eq_ofNat_of_zero_le h0
  rw [wP_atI]
  rfl
@[simp] theorem atI_0 {x : α} : atI (x :: xs) 0 = some x := by have := atI_nat (xs := x :: xs) (k := 0); simpa using this
@[simp] theorem atI_1 {x y : α} : atI (x :: y :: xs) 1 = some y := by have := atI_nat (xs := x :: y :: xs) (k := 1); simpa using this
@[simp] theorem atI_2 {x y z : α} : atI (x :: y :: z :: xs) 2 = some z := by have := atI_nat (xs := x :: y :: z :: xs) (k := 2); simpa using this
@[simp] theorem atI_3 {x y z w : α} : atI (x :: y :: z :: w :: xs) 3 = some w := by have := atI_nat (xs := x :: y :: z :: w :: xs) (k := 3); simpa using this
theorem wP_get {k : Nat} (h : ∀ x, xs[k]? = some x → Q x) (hl : k < xs.length) : wP xs[k]? Q := by
  rw [List.getElem?_eq_getElem hl, wP_some]
  exact h _ (List.getElem?_eq_getElem hl)
end
/-! slots of a call -/
section
variable {o : Option D} {fin env : Env} {ks : List AK} {i : Nat} {pm : List Md} {r : Except Exn D} {ro : Md} {p : Nat} {ps : List Nat} {α : Type} {l : List α}
@[simp] theorem backE_nil : backE [] fin env = env := by unfold backE; rfl
@[simp] theorem backE_ln : backE (.ln i :: ks) (o :: fin) env = (backE ks fin env).set i o := by rw [backE]
@[simp] theorem backE_bo : backE (.bo i :: ks) (o :: fin) env = (backE ks fin env).set i (getS env i) := by rw [backE]
@[simp] theorem backE_sh : backE (.sh :: ks) (o :: fin) env = backE ks fin env := by rw [backE]
@[simp] theorem finE_nil : finE [] env = [] := by cases env <;> rfl
@[simp] theorem finE_sh : finE (.sh :: pm) (o :: env) = none :: finE pm env := rfl
@[simp] theorem finE_pr : finE (.pr :: pm) (o :: env) = o :: finE pm env := rfl
@[simp] theorem okBo_nil {ro : Md} {r : Except Exn D} : okBo [] ro r fin = true := rfl
theorem okBo_no {ks : List AK} (h : noBo ks = true) : okBo ks ro r fin = true := by unfold okBo; rw [h]; rfl
@[simp] theorem okBo_1 : okBo [.sh] ro r fin = true := rfl
@[simp] theorem okBo_2 : okBo [.sh, .sh] ro r fin = true := rfl
@[simp] theorem okBo_3 : okBo [.sh, .sh, .sh] ro r fin = true := rfl
@[simp] theorem okBo_4 : okBo [.sh, .sh, .sh, .sh] ro r fin = true := rfl
@[simp] theorem okBo_l1 : okBo [.ln i] ro r fin = true := rfl
@[simp] theorem okBo_l2 : okBo [.ln i, .sh] ro r fin = true := rfl
@[simp] theorem okBo_l3 : okBo [.ln i, .sh, .sh] ro r fin = true := rfl
@[simp] theorem okBo_l4 : okBo [.ln i, .sh, .sh, .sh] ro r fin = true := rfl
@[simp] theorem sel_nil : sel [] l = [] := rfl
@[simp] theorem sel_1 {a : α} : sel [0] (a :: l) = [a] := rfl
@[simp] theorem sel_2 {a b : α} : sel [0, 1] (a :: b :: l) = [a, b] := rfl
@[simp] theorem sel_3 {a b c : α} : sel [0, 1, 2] (a :: b :: c :: l) = [a, b, c] := rfl
@[simp] theorem sel_4 {a b c d : α} : sel [0, 1, 2, 3] (a :: b :: c :: d :: l) = [a, b, c, d] := rfl
@[simp] theorem asg_nm {d : D} : asgT (.nm i) d env = some (env.set i (some d)) := rfl
end
/-! loops -/
def loopP (q : Env → Prop) (P : Fl → Env → Prop) : Fl → Env → Prop
  | .nx, e => q e
  | .ct, e => q e
  | .bk, e => P .nx e
  | .rt d, e => P (.rt d) e
theorem loopP_congr {q : Env → Prop} {P : Fl → Env → Prop} {r r' : Fl} {e e' : Env} (h : e = e') (g : r = r') : loopP q P r e = loopP q P r' e' := by rw [h, g]
@[simp] theorem loopP_nx {q : Env → Prop} {P : Fl → Env → Prop} {e : Env} : loopP q P .nx e = q e := rfl
@[simp] theorem loopP_ct {q : Env → Prop} {P : Fl → Env → Prop} {e : Env} : loopP q P .ct e = q e := rfl
@[simp] theorem loopP_bk {q : Env → Prop} {P : Fl → Env → Prop} {e : Env} : loopP q P .bk e = P .nx e := rfl
@[simp] theorem loopP_rt {q : Env → Prop} {P : Fl → Env → Prop} {e : Env} {d : D} : loopP q P (.rt d) e = P (.rt d) e := rfl
section
variable {tg : Tg} {body : CS} {t : CB} {P : Fl → Env → Prop} {c : CB} {f : CE} {vs : List Nat} {QL : List D → Env → Prop}
theorem wS_forD_nil {e : Env} : wS (forD tg body []) e P = P .nx e := wM_ok
theorem wS_forD_cons {d : D} {ds : List D} {e : Env} : wS (forD tg body (d :: ds)) e P = wP (asgT tg d e) fun e1 => wS body e1 (loopP (fun e2 => wS (forD tg body ds) e2 P) P) := by
  show wM (forD tg body (d :: ds) e) P = _
  rw [forD]
  cases h : asgT tg d e with
  | none => rw [wP_none]; exact wM_none
  | some e1 =>
    rw [wP_some]
    unfold wS
    cases h2 : body e1 with
    | none => simp only [h2]; exact wM_none.trans wM_none.symm
    | some y =>
      obtain ⟨r, e2⟩ := y
      cases r with
      | error z => simp only [h2]; exact wM_err.trans wM_err.symm
      | ok fl =>
        simp only [h2]
        rw [wM_ok]
        cases fl with
        | nx => rfl
        | ct => rfl
        | bk => exact wM_ok
        | rt d => exact wM_ok
/-- a for loop by what holds ahead of each turn -/
theorem for_inv (J : Nat → Env → Prop) {items : List D} {e : Env} (h0 : J 0 e) (hs : ∀ i d e, items[i]? = some d → J i e → wP (asgT tg d e) fun e1 => wS body e1 (loopP (J (i + 1)) P)) (hn : ∀ e, J items.length e → P .nx e) : wS (forD tg body items) e P := by
  suffices H : ∀ (k : Nat) (e : Env), k ≤ items.length → J k e → wS (forD tg body (items.drop k)) e P from by simpa using H 0 e (Nat.zero_le _) h0
  intro k
  induction hk : items.length - k generalizing k with
  | zero =>
    intro e hle hJ
    have : k = items.length := by omega
    subst this
    rw [List.drop_length, wS_forD_nil]
    exact hn e hJ
  | succ m ih =>
    intro e hle hJ
    have hlt : k < items.length := by omega
    rw [List.drop_eq_getElem_cons hlt, wS_forD_cons]
    obtain ⟨e1, a1, r, e', a2, a3⟩ := hs k _ e (List.getElem?_eq_getElem hlt) hJ
    refine ⟨e1, a1, r, e', a2, ?_⟩
    cases r with
    | nx => exact ih (k + 1) (by omega) e' (by omega) a3
    | ct => exact ih (k + 1) (by omega) e' (by omega) a3
    | bk => exact a3
    | rt d => exact a3
theorem wS_while_succ {n : Nat} {e : Env} : wS (whileD t body (n + 1)) e P = wB t e fun b e1 => wIf b (wS body e1 (loopP (fun e2 => wS (whileD t body n) e2 P) P)) (P .nx e1) := by
  unfold wS wB
  rw [whileD, wM_bind]
  congr 1; funext b e1
  cases b with
  | false => rw [wIf_false]; exact wM_ok
  | true =>
    rw [wIf_true]
    simp only [if_true]
    cases h2 : body e1 with
    | none => simp only [h2]; exact wM_none.trans wM_none.symm
    | some y =>
      obtain ⟨r, e2⟩ := y
      cases r with
      | error z => simp only [h2]; exact wM_err.trans wM_err.symm
      | ok fl =>
        try simp only [h2]
        rw [wM_ok]
        cases fl with
        | nx => rfl
        | ct => rfl
        | bk => exact wM_ok
        | rt d => exact wM_ok
/-- a while loop: what holds ahead of the test, with a number that falls -/
theorem while_inv (J : Nat → Env → Prop) {n m : Nat} {e : Env} (h0 : J m e) (hm : m < n) (hs : ∀ m e, J m e → wB t e fun b e1 => wIf b (wS body e1 (loopP (fun e2 => ∃ k, k < m ∧ J k e2) P)) (P .nx e1)) : wS (whileD t body n) e P := by
  induction n generalizing m e with
  | zero => omega
  | succ n ih =>
    rw [wS_while_succ]
    obtain ⟨b, e1, a1, a2⟩ := hs m e h0
    refine ⟨b, e1, a1, ?_⟩
    show wIf b _ _
    cases b with
    | false => rw [wIf_false] at a2 ⊢; exact a2
    | true =>
      rw [wIf_true] at a2 ⊢
      obtain ⟨r, e', a3, a4⟩ := a2
      refine ⟨r, e', a3, ?_⟩
      cases r with
      | nx => obtain ⟨k, h1, h2⟩ := a4; exact ih h2 (by omega)
      | ct => obtain ⟨k, h1, h2⟩ := a4; exact ih h2 (by omega)
      | bk => exact a4
      | rt d => exact a4
theorem wL_nil {e : Env} : wL tg c f vs [] e QL = QL [] e := wM_ok
theorem wL_cons {d : D} {ds : List D} {e : Env} : wL tg c f vs (d :: ds) e QL = wP (asgT tg d (wipeE e vs)) fun e1 => wB c e1 fun b e2 => wIf b (wE f e2 fun y e3 => wL tg c f vs ds e3 fun ys e4 => QL (y :: ys) e4) (wL tg c f vs ds e2 QL) := by
  unfold wL
  rw [lcD]
  cases h : asgT tg d (wipeE e vs) with
  | none => rw [wP_none]; exact wM_none
  | some e1 =>
    rw [wP_some]
    show wM (mbind _ _) _ = _
    rw [wM_bind]
    unfold wB
    congr 1; funext b e2
    cases b with
    | false => rfl
    | true =>
      rw [wIf_true]
      show wM (mbind _ _) _ = _
      rw [wM_bind]
      unfold wE
      congr 1; funext y e3
      rw [wM_bind]
      congr 1; funext ys e4
      exact wM_ok
theorem wB_yes {e : Env} {Q : Bool → Env → Prop} : wB cYes e Q = Q true e := wM_ok
@[simp] theorem wB_yes_ {o : Option D} {e : Env} {Q : Bool → Env → Prop} : wB cYes (o :: e) Q = Q true (o :: e) := wM_ok
/-- [f(x) for x in ..] -/
theorem lc_map (g : D → D) {items : List D} {e : Env} (h : ∀ d ∈ items, wP (asgT tg d (wipeE e vs)) fun e1 => wB c e1 fun b e2 => b = true ∧ wE f e2 fun y e3 => y = g d ∧ wipeE e3 vs = wipeE e vs)
    (q : ∀ e2, wipeE e2 vs = wipeE e vs → QL (items.map g) e2) : wL tg c f vs items e QL := by
  suffices H : ∀ (ds : List D) (e0 : Env) (R : List D → Env → Prop), (∀ d ∈ ds, d ∈ items) → wipeE e0 vs = wipeE e vs → (∀ e2, wipeE e2 vs = wipeE e vs → R (ds.map g) e2) → wL tg c f vs ds e0 R from H items e QL (fun _ h => h) rfl q
  intro ds
  induction ds with
  | nil => intro e0 R _ hw q; rw [wL_nil]; exact q e0 hw
  | cons d ds ih =>
    intro e0 R hd hw q
    rw [wL_cons, hw]
    obtain ⟨e1, a1, b, e2, a2, rfl, y, e3, a3, rfl, a4⟩ := h d (hd d List.mem_cons_self)
    refine ⟨e1, a1, true, e2, a2, ?_⟩
    show wIf true _ _
    rw [wIf_true]
    exact ⟨_, e3, a3, ih e3 _ (fun z hz => hd z (List.mem_cons_of_mem _ hz)) a4 fun e4 he4 => q e4 he4⟩
/-- [f(x) for x in .. if c] -/
theorem lc_filterMap (g : D → Option D) {items : List D} {e : Env} (h : ∀ d ∈ items, wP (asgT tg d (wipeE e vs)) fun e1 => wB c e1 fun b e2 => wIf b (wE f e2 fun y e3 => g d = some y ∧ wipeE e3 vs = wipeE e vs) (g d = none ∧ wipeE e2 vs = wipeE e vs))
    (q : ∀ e2, wipeE e2 vs = wipeE e vs → QL (items.filterMap g) e2) : wL tg c f vs items e QL := by
  suffices H : ∀ (ds : List D) (e0 : Env) (R : List D → Env → Prop), (∀ d ∈ ds, d ∈ items) → wipeE e0 vs = wipeE e vs → (∀ e2, wipeE e2 vs = wipeE e vs → R (ds.filterMap g) e2) → wL tg c f vs ds e0 R from H items e QL (fun _ h => h) rfl q
  intro ds
  induction ds with
  | nil => intro e0 R _ hw q; rw [wL_nil]; exact q e0 hw
  | cons d ds ih =>
    intro e0 R hd hw q
    rw [wL_cons, hw]
    obtain ⟨e1, a1, b, e2, a2, a3⟩ := h d (hd d List.mem_cons_self)
    refine ⟨e1, a1, b, e2, a2, ?_⟩
    show wIf b _ _
    cases b with
    | true =>
      rw [wIf_true] at a3 ⊢
      obtain ⟨y, e3, a3, a4, a5⟩ := a3
      refine ⟨y, e3, a3, ih e3 _ (fun z hz => hd z (List.mem_cons_of_mem _ hz)) a5 fun e4 he4 => ?_⟩
      have := q e4 he4
      rw [List.filterMap_cons, a4] at this
      exact this
    | false =>
      rw [wIf_false] at a3 ⊢
      refine ih e2 R (fun z hz => hd z (List.mem_cons_of_mem _ hz)) a3.2 fun e4 he4 => ?_
      have := q e4 he4
      rw [List.filterMap_cons, a3.1] at this
      exact this
/-- a comprehension whose turns change what is outside -/
theorem lc_inv (J : Nat → List D → Env → Prop) {items : List D} {e : Env} (h0 : J 0 [] e) (hs : ∀ i d acc e, items[i]? = some d → J i acc e → wP (asgT tg d (wipeE e vs)) fun e1 => wB c e1 fun b e2 => wIf b (wE f e2 fun y e3 => J (i + 1) (acc ++ [y]) e3) (J (i + 1) acc e2))
    (q : ∀ ys e2, J items.length ys e2 → QL ys e2) : wL tg c f vs items e QL := by
  suffices H : ∀ (k : Nat) (acc : List D) (e : Env) (R : List D → Env → Prop), k ≤ items.length → J k acc e → (∀ ys e2, J items.length (acc ++ ys) e2 → R ys e2) → wL tg c f vs (items.drop k) e R from by simpa using H 0 [] e QL (Nat.zero_le _) h0 (fun ys e2 h => q ys e2 (by simpa using h))
  intro k
  induction hk : items.length - k generalizing k with
  | zero =>
    intro acc e R hle hJ q
    have : k = items.length := by omega
    subst this
    rw [List.drop_length, wL_nil]
    exact q [] e (by simpa using hJ)
  | succ m ih =>
    intro acc e R hle hJ q
    have hlt : k < items.length := by omega
    rw [List.drop_eq_getElem_cons hlt, wL_cons]
    obtain ⟨e1, a1, b, e2, a2, a3⟩ := hs k _ acc e (List.getElem?_eq_getElem hlt) hJ
    refine ⟨e1, a1, b, e2, a2, ?_⟩
    show wIf b _ _
    cases b with
    | true =>
      rw [wIf_true] at a3 ⊢
      obtain ⟨y, e3, a3, a4⟩ := a3
      exact ⟨y, e3, a3, ih (k + 1) (by omega) (acc ++ [y]) e3 _ (by omega) a4 fun ys e4 h => q (y :: ys) e4 (by simpa using h)⟩
    | false =>
      rw [wIf_false] at a3 ⊢
      exact ih (k + 1) (by omega) acc e2 R (by omega) a3 q
@[simp] theorem wipeE_nil {o : Option D} {e : Env} : wipeE (o :: e) [] = o :: e := rfl
@[simp] theorem wipeE_cons {o : Option D} {e : Env} {v : Nat} {vs : List Nat} : wipeE (o :: e) (v :: vs) = (wipeE (o :: e) vs).set v none := rfl
@[simp] theorem restoreE_nil {e0 e : Env} {o : Option D} : restoreE e0 (o :: e) [] = o :: e := rfl
@[simp] theorem restoreE_cons {e0 e : Env} {o : Option D} {v : Nat} {vs : List Nat} : restoreE e0 (o :: e) (v :: vs) = (restoreE e0 (o :: e) vs).set v (getS e0 v) := rfl
end
end DI
set_option Elab.async false
set_option autoImplicit false
set_option linter.all false
set_option maxRecDepth 100000
set_option maxHeartbeats 2000000
/-! DP3: lists of ints; equality; repr. -/
namespace DI
open PySem PySem.Spec PyProof.Rows L2
@[simp] theorem log2_10 : Nat.log2 10 = 3 := by decide +kernel
@[simp] theorem log2_100000 : Nat.log2 100000 = 16 := by decide +kernel
@[simp] theorem lg9000 {n : Nat} (h : n < 2 ^ 64) : (n.log2 < 9000) = True := eq_true (Nat.lt_of_le_of_lt (show n.log2 ≤ 64 from by
  by_cases h0 : n = 0
  · subst h0; rw [Nat.log2_zero]; exact Nat.zero_le _
  · exact Nat.le_of_lt ((Nat.log2_lt h0).mpr h)) (by decide))
theorem log2_le {n k : Nat} (h : n < 2 ^ k) : n.log2 ≤ k := by
  by_cases h0 : n = 0
  · subst h0; rw [Nat.log2_zero]; exact Nat.zero_le _
  · exact Nat.le_of_lt ((Nat.log2_lt h0).mpr h)
theorem lg {x : Int} {k : Nat} (h1 : -(2 ^ k : Nat) < x) (h2 : x < (2 ^ k : Nat)) : x.natAbs.log2 ≤ k := log2_le (by omega)
theorem okMul_l {a b : Int} (h : a.natAbs < 2 ^ 64) : okMul a b := .inl (.inl h)
theorem okMul_r {a b : Int} (h : b.natAbs < 2 ^ 64) : okMul a b := .inl (.inr h)
theorem pys_ints : ∀ ns : List Int, D.pys (ns.map D.int) = some (ns.map PyData.int)
  | [] => rfl
  | n :: ns => by
    show (match (D.int n).py, D.pys (ns.map D.int) with
      | some p, some ps => some (p :: ps)
      | _, _ => none) = _
    rw [pys_ints ns]; rfl
theorem canLay_ints : ∀ ns : List Int, PyData.canLayAll0 (ns.map PyData.int) = true
  | [] => by unfold PyData.canLayAll0; rfl
  | n :: ns => by rw [List.map_cons]; unfold PyData.canLayAll0; rw [canLay_ints ns]; simp [PyData.canLay0]
theorem depth_ints : ∀ ns : List Int, PyData.depthAll (ns.map PyData.int) = 0
  | [] => by unfold PyData.depthAll; rfl
  | n :: ns => by rw [List.map_cons]; unfold PyData.depthAll; rw [depth_ints ns]; simp [PyData.depth]
theorem shaped_ints (ns : List Int) : SeqAt.shaped (.list (ns.map PyData.int)) = true := by
  unfold SeqAt.shaped PyData.canLay0 PyData.depth
  rw [canLay_ints, depth_ints]; rfl
theorem eqv_ints : ∀ ns ms : List Int, PyData.eqvAll (ns.map PyData.int) (ms.map PyData.int) = decide (ns = ms)
  | [], [] => by unfold PyData.eqvAll; rfl
  | [], m :: ms => by rw [List.map_cons, List.map_nil]; unfold PyData.eqvAll; simp
  | n :: ns, [] => by rw [List.map_cons, List.map_nil]; unfold PyData.eqvAll; simp
  | n :: ns, m :: ms => by
    rw [List.map_cons, List.map_cons]; unfold PyData.eqvAll
    rw [eqv_ints ns ms]
    unfold PyData.eqv
    rw [Bool.eq_iff_iff]
    simp
theorem eqD_ints (ns ms : List Int) : eqD (.lst (ns.map .int)) (.lst (ms.map .int)) = some (decide (ns = ms)) := by
  show eqP _ _ = _
  unfold eqP D.py
  rw [pys_ints, pys_ints]
  show (if SeqAt.shaped (.list (ns.map PyData.int)) = true ∧ SeqAt.shaped (.list (ms.map PyData.int)) = true then some (PyData.eqv (.list (ns.map PyData.int)) (.list (ms.map PyData.int))) else none) = _
  rw [if_pos ⟨shaped_ints _, shaped_ints _⟩]
  unfold PyData.eqv
  rw [eqv_ints]
section
variable {Q : D → Prop} {ns ms : List Int} {a b : Int} {x y : Str}
theorem wP_gEq {a b : D} {k : Bool} (h : eqD a b = some k) : wP (gEq [a, b]) Q = Q (.bl k) := by
  show wP ((eqD a b).map D.bl) Q = _
  rw [h]; exact wP_some
theorem wP_gNe {a b : D} {k : Bool} (h : eqD a b = some k) : wP (gNe [a, b]) Q = Q (.bl (!k)) := by
  show wP ((eqD a b).map fun k => D.bl (!k)) Q = _
  rw [h]; exact wP_some
@[simp] theorem wP_gEqI : wP (gEq [.int a, .int b]) Q = Q (.bl (decide (a = b))) := wP_gEq rfl
@[simp] theorem wP_gNeI : wP (gNe [.int a, .int b]) Q = Q (.bl (!decide (a = b))) := wP_gNe rfl
@[simp] theorem wP_gEqS : wP (gEq [.str x, .str y]) Q = Q (.bl (decide (x = y))) := wP_gEq rfl
@[simp] theorem wP_gNeS : wP (gNe [.str x, .str y]) Q = Q (.bl (!decide (x = y))) := wP_gNe rfl
@[simp] theorem wP_gEqL : wP (gEq [.lst (ns.map .int), .lst (ms.map .int)]) Q = Q (.bl (decide (ns = ms))) := wP_gEq (eqD_ints _ _)
@[simp] theorem wP_gNeL : wP (gNe [.lst (ns.map .int), .lst (ms.map .int)]) Q = Q (.bl (!decide (ns = ms))) := wP_gNe (eqD_ints _ _)
@[simp] theorem wP_gEqL0 : wP (gEq [.lst (ns.map .int), .lst []]) Q = Q (.bl (decide (ns = []))) := wP_gEq (eqD_ints _ [])
@[simp] theorem wP_gNeL0 : wP (gNe [.lst (ns.map .int), .lst []]) Q = Q (.bl (!decide (ns = []))) := wP_gNe (eqD_ints _ [])
@[simp] theorem wP_gSum : wP (gSum [.lst (ns.map .int)]) Q = Q (.int ns.sum) := by
  show wP ((intsD (ns.map D.int)).map fun ns => D.int ns.sum) Q = _
  rw [intsD_map]; exact wP_some
@[simp] theorem wP_gAll {bs : List Bool} : wP (gAll [.lst (bs.map .bl)]) Q = Q (.bl (bs.all id)) := by
  show wP ((blsD (bs.map D.bl)).map fun bs => D.bl (bs.all id)) Q = _
  rw [blsD_map]; exact wP_some
@[simp] theorem wP_gAny {bs : List Bool} : wP (gAny [.lst (bs.map .bl)]) Q = Q (.bl (bs.any id)) := by
  show wP ((blsD (bs.map D.bl)).map fun bs => D.bl (bs.any id)) Q = _
  rw [blsD_map]; exact wP_some
def cutL {α : Type} (xs : List α) (lo hi : Option Int) : List α := (xs.drop (HT.sIx xs.length 0 lo)).take (HT.sIx xs.length xs.length hi - HT.sIx xs.length 0 lo)
theorem cutD_map {f : Int → D} {lo hi : Option Int} : cutD (ns.map f) lo hi = (cutL ns lo hi).map f := by
  unfold cutD cutL
  rw [List.length_map, List.map_take, List.map_drop]
@[simp] theorem wP_gSl11 : wP (gSl11 [.lst (ns.map .int), .int a, .int b]) Q = Q (.lst ((cutL ns (some a) (some b)).map .int)) := by
  show wP (some (D.lst (cutD (ns.map D.int) (some a) (some b)))) Q = _
  rw [cutD_map]; exact wP_some
@[simp] theorem wP_gSl10 : wP (gSl10 [.lst (ns.map .int), .int a]) Q = Q (.lst ((cutL ns (some a) none).map .int)) := by
  show wP (some (D.lst (cutD (ns.map D.int) (some a) none))) Q = _
  rw [cutD_map]; exact wP_some
@[simp] theorem wP_gSl01 : wP (gSl01 [.lst (ns.map .int), .int b]) Q = Q (.lst ((cutL ns none (some b)).map .int)) := by
  show wP (some (D.lst (cutD (ns.map D.int) none (some b)))) Q = _
  rw [cutD_map]; exact wP_some
@[simp] theorem wP_giL {R : List D → Prop} {ds : List D} : wP (giL [.lst ds]) R = R ds := wP_some
@[simp] theorem wP_giLS {R : List D → Prop} : wP (giL [.scr ns]) R = R (ns.map .int) := wP_some
@[simp] theorem wP_giR1 {R : List D → Prop} : wP (giR1 [.int a]) R = ((-(2 ^ 62) ≤ a ∧ a < 2 ^ 62) ∧ R (rangeD 0 a.toNat)) := wP_ite
@[simp] theorem wP_giR2 {R : List D → Prop} : wP (giR2 [.int a, .int b]) R = (((-(2 ^ 62) ≤ a ∧ a < 2 ^ 62) ∧ -(2 ^ 62) ≤ b ∧ b < 2 ^ 62) ∧ R (rangeD a (b - a).toNat)) := wP_ite
end
theorem rangeD_get {lo : Int} {n i : Nat} {d : D} (h : (rangeD lo n)[i]? = some d) : d = .int (lo + i) ∧ i < n := by
  unfold rangeD at h
  rw [List.getElem?_map] at h
  by_cases hi : i < n
  · rw [List.getElem?_range hi] at h
    cases h
    exact ⟨rfl, hi⟩
  · rw [List.getElem?_eq_none (by simpa using hi)] at h; cases h
theorem rangeD_len {lo : Int} {n : Nat} : (rangeD lo n).length = n := by unfold rangeD; simp
theorem ints_get {ns : List Int} {i : Nat} {d : D} (h : (ns.map D.int)[i]? = some d) : ∃ n, ns[i]? = some n ∧ d = .int n := by
  rw [List.getElem?_map] at h
  cases hn : ns[i]? with
  | none => rw [hn] at h; cases h
  | some n => rw [hn] at h; cases h; exact ⟨n, rfl, rfl⟩
def onInt (f : Int → D) : D → D
  | .int v => f v
  | _ => .non
@[simp] theorem onInt_int {f : Int → D} {v : Int} : onInt f (.int v) = f v := rfl
theorem ints_onInt {f : Int → D} {ns : List Int} : (ns.map D.int).map (onInt f) = ns.map f := by rw [List.map_map]; rfl
theorem rangeD_onInt {f : Int → D} {lo : Int} {n : Nat} : (rangeD lo n).map (onInt f) = (List.range n).map fun (i : Nat) => f (lo + i) := by
  unfold rangeD
  rw [List.map_map]; rfl
theorem rangeD_map {n : Nat} {g : Int → Int} : (rangeD 0 n).map (onInt fun v => .int (g v)) = ((List.range n).map fun (i : Nat) => g i).map D.int := by
  rw [rangeD_onInt, List.map_map]
  apply List.map_congr_left
  intro i _
  simp
/-! repr of what is small -/
theorem showable_ints : ∀ {ns : List Int}, (∀ n ∈ ns, n.natAbs < 10 ^ 100) → PyData.showableAll (ns.map PyData.int) = true
  | [], _ => by unfold PyData.showableAll; rfl
  | n :: ns, h => by
    rw [List.map_cons]; unfold PyData.showableAll
    rw [showable_ints fun m hm => h m (List.mem_cons_of_mem _ hm)]
    unfold PyData.showable
    have h1 := h n List.mem_cons_self
    have : n.natAbs.log2 < 1920 := Nat.lt_of_le_of_lt (log2_le (k := 400) (Nat.lt_trans h1 (by decide +kernel))) (by decide)
    simp [this]
theorem hasDict_ints : ∀ ns : List Int, PyData.hasDictAll (ns.map PyData.int) = false
  | [] => by unfold PyData.hasDictAll; rfl
  | n :: ns => by rw [List.map_cons]; unfold PyData.hasDictAll; rw [hasDict_ints ns]; simp [PyData.hasDict]
theorem shown_ints_le : ∀ {ns : List Int}, (∀ n ∈ ns, n.natAbs < 10 ^ 100) → (((PyData.shownAll (ns.map PyData.int)).map (·.length)).sum ≤ 101 * ns.length ∧ (PyData.shownAll (ns.map PyData.int)).length = ns.length)
  | [], _ => by unfold PyData.shownAll; simp
  | n :: ns, h => by
    rw [List.map_cons]; unfold PyData.shownAll
    obtain ⟨h1, h2⟩ := shown_ints_le (ns := ns) fun m hm => h m (List.mem_cons_of_mem _ hm)
    have h3 : (PyData.int n).shown.length ≤ 101 := by
      have e := int_text_length_le10 (k := 100) (by decide) (h n List.mem_cons_self)
      unfold PyData.shown
      have : (Str.ofString (toString n)).length = (toString n).length := PySem.ofString_length _
      show (Str.ofString (toString n)).length ≤ 101
      omega
    simp only [List.map_cons, List.sum_cons, List.length_cons]
    omega
theorem repr_ints {ns : List Int} (h : ∀ n ∈ ns, n.natAbs < 10 ^ 100) (hl : ns.length ≤ 100000) : reprOf (.lst (ns.map .int)) = some (PyData.list (ns.map PyData.int)).shown := by
  unfold reprOf D.py
  rw [pys_ints]
  simp only [Option.map_some]
  rw [if_pos]
  refine ⟨?_, ?_, ?_, ?_⟩
  · unfold PyData.showable; exact showable_ints h
  · unfold PyData.hasDict; exact hasDict_ints ns
  · unfold PyData.depth; rw [depth_ints]; decide
  · unfold PyData.shown
    have h1 := listText_len_le (PyData.shownAll (ns.map PyData.int))
    obtain ⟨h2, h3⟩ := shown_ints_le h
    rw [h3] at h1
    have := sizeLine_eq
    omega
theorem wP_gRepr {d : D} {x : Str} {Q : D → Prop} (h : reprOf d = some x) : wP (gRepr [d]) Q = Q (.str x) := by
  show wP ((reprOf d).map D.str) Q = _
  rw [h]; exact wP_some
end DI
set_option Elab.async false
set_option autoImplicit false
set_option linter.all false
set_option maxRecDepth 100000
set_option maxHeartbeats 2000000
/-! DP4: what is small has a repr. -/
namespace DI
open PySem PySem.Spec PyProof.Rows L2
mutual
/-- ints below 10^100, signs that are signs -/
def D.sm : D → Prop
  | .non => True
  | .bl _ => True
  | .int i => i.natAbs < 10 ^ 100
  | .str x => ∀ c ∈ x.cps.toList, c < 16 ^ 8
  | .lst xs => D.sms xs
  | .tup xs => D.sms xs
  | .dic _ _ => False
  | .scr _ => False
  | .sta _ => False
  | .ty _ => False
def D.sms : List D → Prop
  | [] => True
  | d :: ds => d.sm ∧ D.sms ds
end
mutual
/-- as many signs at most -/
def D.wt : D → Nat
  | .non => 4
  | .bl _ => 5
  | .int _ => 101
  | .str x => 10 * x.length + 2
  | .lst xs => D.wts xs + 3
  | .tup xs => D.wts xs + 3
  | .dic _ _ => 0
  | .scr _ => 0
  | .sta _ => 0
  | .ty _ => 0
def D.wts : List D → Nat
  | [] => 0
  | d :: ds => d.wt + 2 + D.wts ds
end
mutual
def D.dp : D → Nat
  | .lst xs => D.dps xs + 1
  | .tup xs => D.dps xs + 1
  | .non => 0
  | .bl _ => 0
  | .int _ => 0
  | .str _ => 0
  | .dic _ _ => 0
  | .scr _ => 0
  | .sta _ => 0
  | .ty _ => 0
def D.dps : List D → Nat
  | [] => 0
  | d :: ds => max d.dp (D.dps ds)
end
mutual
theorem D.sm_py : ∀ {d : D}, d.sm → ∃ p, d.py = some p ∧ p.showable = true ∧ p.hasDict = false ∧ p.depth ≤ d.dp ∧ p.shown.length ≤ d.wt
  | .non, _ => ⟨.none, rfl, by unfold PyData.showable; rfl, by unfold PyData.hasDict; rfl, by unfold PyData.depth; exact Nat.zero_le _, by unfold PyData.shown D.wt; decide⟩
  | .bl b, _ => ⟨.bool b, rfl, by unfold PyData.showable; rfl, by unfold PyData.hasDict; rfl, by unfold PyData.depth; exact Nat.zero_le _, by unfold PyData.shown D.wt; cases b <;> decide⟩
  | .int i, h => by
    unfold D.sm at h
    refine ⟨.int i, rfl, ?_, by unfold PyData.hasDict; rfl, by unfold PyData.depth; exact Nat.zero_le _, ?_⟩
    · unfold PyData.showable
      have : i.natAbs.log2 < 1920 := Nat.lt_of_le_of_lt (log2_le (k := 400) (Nat.lt_trans h (by decide +kernel))) (by decide)
      simp [this]
    · have e := int_text_length_le10 (k := 100) (by decide) h
      have e2 : (Str.ofString (toString i)).length = (toString i).length := PySem.ofString_length _
      unfold PyData.shown D.wt
      show (Str.ofString (toString i)).length ≤ 101
      omega
  | .str x, h => by
    unfold D.sm at h
    refine ⟨.str x, rfl, by unfold PyData.showable; rfl, by unfold PyData.hasDict; rfl, by unfold PyData.depth; exact Nat.zero_le _, ?_⟩
    unfold PyData.shown D.wt
    exact StrLaws.reprText_len x h
  | .lst xs, h => by
    unfold D.sm at h
    obtain ⟨ps, h1, h2, h3, h4, h5, h6⟩ := D.sms_py h
    refine ⟨.list ps, by unfold D.py; rw [h1]; rfl, by unfold PyData.showable; exact h2, by unfold PyData.hasDict; exact h3, by unfold PyData.depth D.dp; omega, ?_⟩
    unfold PyData.shown D.wt
    have := listText_len_le (PyData.shownAll ps)
    omega
  | .tup xs, h => by
    unfold D.sm at h
    obtain ⟨ps, h1, h2, h3, h4, h5, h6⟩ := D.sms_py h
    refine ⟨.tuple ps, by unfold D.py; rw [h1]; rfl, by unfold PyData.showable; exact h2, by unfold PyData.hasDict; exact h3, by unfold PyData.depth D.dp; omega, ?_⟩
    unfold PyData.shown D.wt
    have := tupleText_len_le (PyData.shownAll ps)
    omega
  | .dic _ _, h => by unfold D.sm at h; exact h.elim
  | .scr _, h => by unfold D.sm at h; exact h.elim
  | .sta _, h => by unfold D.sm at h; exact h.elim
  | .ty _, h => by unfold D.sm at h; exact h.elim
theorem D.sms_py : ∀ {ds : List D}, D.sms ds → ∃ ps, D.pys ds = some ps ∧ PyData.showableAll ps = true ∧ PyData.hasDictAll ps = false ∧ PyData.depthAll ps ≤ D.dps ds ∧ (PyData.shownAll ps).length = ps.length ∧ ((PyData.shownAll ps).map (·.length)).sum + 2 * (PyData.shownAll ps).length ≤ D.wts ds
  | [], _ => ⟨[], rfl, by unfold PyData.showableAll; rfl, by unfold PyData.hasDictAll; rfl, by unfold PyData.depthAll; exact Nat.zero_le _, by unfold PyData.shownAll; rfl, by unfold PyData.shownAll D.wts; simp⟩
  | d :: ds, h => by
    unfold D.sms at h
    obtain ⟨p, a1, a2, a3, a4, a5⟩ := D.sm_py h.1
    obtain ⟨ps, b1, b2, b3, b4, b5, b6⟩ := D.sms_py h.2
    refine ⟨p :: ps, by unfold D.pys; rw [a1, b1], by unfold PyData.showableAll; rw [a2, b2]; rfl, by unfold PyData.hasDictAll; rw [a3, b3]; rfl, by unfold PyData.depthAll D.dps; omega, by unfold PyData.shownAll; simp [b5], ?_⟩
    unfold PyData.shownAll D.wts
    simp only [List.map_cons, List.sum_cons, List.length_cons]
    omega
end
theorem repr_sm {d : D} (h : d.sm) (hd : d.dp ≤ 60) (hw : d.wt ≤ 16777216) : ∃ x, reprOf d = some x := by
  obtain ⟨p, h1, h2, h3, h4, h5⟩ := D.sm_py h
  refine ⟨p.shown, ?_⟩
  unfold reprOf
  rw [h1]
  simp only
  rw [if_pos ⟨h2, h3, by omega, by have := sizeLine_eq; omega⟩]
/-- two reprs of the same -/
theorem wP_gRepr_sm {d : D} {Q : D → Prop} (h : d.sm) (hd : d.dp ≤ 60) (hw : d.wt ≤ 16777216) (q : ∀ x, reprOf d = some x → Q (.str x)) : wP (gRepr [d]) Q := by
  obtain ⟨x, hx⟩ := repr_sm h hd hw
  rw [wP_gRepr hx]
  exact q x hx
@[simp] theorem sm_non : D.non.sm = True := by unfold D.sm; rfl
@[simp] theorem sm_bl {b : Bool} : (D.bl b).sm = True := by unfold D.sm; rfl
@[simp] theorem sm_int {i : Int} : (D.int i).sm = (i.natAbs < 10 ^ 100) := by unfold D.sm; rfl
@[simp] theorem sm_lst {ds : List D} : (D.lst ds).sm = D.sms ds := by rw [D.sm]
@[simp] theorem sm_tup {ds : List D} : (D.tup ds).sm = D.sms ds := by rw [D.sm]
@[simp] theorem sms_nil : D.sms [] = True := by unfold D.sms; rfl
@[simp] theorem sms_cons {d : D} {ds : List D} : D.sms (d :: ds) = (d.sm ∧ D.sms ds) := by rw [D.sms]
@[simp] theorem wt_non : D.non.wt = 4 := by unfold D.wt; rfl
@[simp] theorem wt_bl {b : Bool} : (D.bl b).wt = 5 := by unfold D.wt; rfl
@[simp] theorem wt_int {i : Int} : (D.int i).wt = 101 := by unfold D.wt; rfl
@[simp] theorem wt_lst {ds : List D} : (D.lst ds).wt = D.wts ds + 3 := by rw [D.wt]
@[simp] theorem wt_tup {ds : List D} : (D.tup ds).wt = D.wts ds + 3 := by rw [D.wt]
@[simp] theorem wts_nil : D.wts [] = 0 := by unfold D.wts; rfl
@[simp] theorem wts_cons {d : D} {ds : List D} : D.wts (d :: ds) = d.wt + 2 + D.wts ds := by rw [D.wts]
@[simp] theorem dp_non : D.non.dp = 0 := by unfold D.dp; rfl
@[simp] theorem dp_bl {b : Bool} : (D.bl b).dp = 0 := by unfold D.dp; rfl
@[simp] theorem dp_int {i : Int} : (D.int i).dp = 0 := by unfold D.dp; rfl
@[simp] theorem dp_lst {ds : List D} : (D.lst ds).dp = D.dps ds + 1 := by rw [D.dp]
@[simp] theorem dp_tup {ds : List D} : (D.tup ds).dp = D.dps ds + 1 := by rw [D.dp]
@[simp] theorem dps_nil : D.dps [] = 0 := by unfold D.dps; rfl
@[simp] theorem dps_cons {d : D} {ds : List D} : D.dps (d :: ds) = max d.dp (D.dps ds) := by rw [D.dps]
theorem sms_iff : ∀ {ds : List D}, D.sms ds ↔ ∀ d ∈ ds, d.sm
  | [] => by simp
  | d :: ds => by simp [sms_iff (ds := ds)]
theorem wts_map {f : Int → D} {k : Nat} (h : ∀ n, (f n).wt ≤ k) : ∀ ns : List Int, D.wts (ns.map f) ≤ (k + 2) * ns.length
  | [] => by simp
  | n :: ns => by
    have := wts_map h ns
    have h2 := h n
    have h3 : (k + 2) * (ns.length + 1) = (k + 2) * ns.length + (k + 2) := Nat.mul_succ _ _
    simp only [List.map_cons, wts_cons, List.length_cons]
    omega
theorem dps_map {f : Int → D} (h : ∀ n, (f n).dp = 0) : ∀ ns : List Int, D.dps (ns.map f) = 0
  | [] => by simp
  | n :: ns => by simp [h n, dps_map h ns]
theorem sm_ints {ns : List Int} (h : ∀ n ∈ ns, n.natAbs < 10 ^ 100) : (D.lst (ns.map .int)).sm := by
  rw [sm_lst, sms_iff]
  intro d hd
  obtain ⟨n, hn, rfl⟩ := List.mem_map.mp hd
  rw [sm_int]
  exact h n hn
theorem wt_ints (ns : List Int) : (D.lst (ns.map .int)).wt ≤ 103 * ns.length + 3 := by
  have := wts_map (f := D.int) (k := 101) (fun n => by simp) ns
  rw [wt_lst]; omega
theorem dp_ints (ns : List Int) : (D.lst (ns.map .int)).dp = 1 := by
  rw [dp_lst, dps_map (fun n => by simp)]
end DI
set_option Elab.async false
set_option autoImplicit false
set_option linter.all false
set_option maxRecDepth 100000
set_option maxHeartbeats 2000000
/-! DP5: more prims; borrowed lists; zip, enumerate, ranges that fall. -/
namespace DI
open PySem PySem.Spec PyProof.Rows L2
section
variable {Q : D → Prop} {a b c : Int} {k : Bool} {ds es : List D} {d : D} {ns ms : List Int} {R : List D → Prop}
@[simp] theorem wP_gDivmod : wP (gDivmod [.int a, .int b]) Q = ((0 < b ∧ b < 1073741824) ∧ Q (.tup [.int (a / b), .int (a % b)])) := wP_ite
@[simp] theorem wP_gIntI : wP (gInt [.int a]) Q = Q (.int a) := wP_some
@[simp] theorem wP_gIntB : wP (gInt [.bl k]) Q = Q (.int (if k = true then 1 else 0)) := wP_some
@[simp] theorem wP_gIsNI : wP (gIs [.int a, .non]) Q = Q (.bl false) := wP_some
@[simp] theorem wP_gIsNL : wP (gIs [.lst ds, .non]) Q = Q (.bl false) := wP_some
@[simp] theorem wP_gIsNotNI : wP (gIsNot [.int a, .non]) Q = Q (.bl true) := wP_some
@[simp] theorem wP_gIsNotNN : wP (gIsNot [.non, .non]) Q = Q (.bl false) := wP_some
@[simp] theorem wP_mApp {Q : D × List D → Prop} : wP (mApp ds [d]) Q = (ds.length < sizeLine ∧ Q (.non, ds ++ [d])) := wP_ite
@[simp] theorem wP_mExt {Q : D × List D → Prop} : wP (mExt ds [.lst es]) Q = (ds.length + es.length ≤ sizeLine ∧ Q (.non, ds ++ es)) := wP_ite
@[simp] theorem wP_mIns {Q : D × List D → Prop} : wP (mIns ds [.int a, d]) Q = ((ds.length < sizeLine ∧ 0 ≤ a ∧ a < 2 ^ 63) ∧ Q (.non, ds.take a.toNat ++ [d] ++ ds.drop a.toNat)) := wP_ite
@[simp] theorem wP_mRev {Q : D × List D → Prop} : wP (mRev ds []) Q = Q (.non, ds.reverse) := wP_some
@[simp] theorem wP_giZ : wP (giZ [.lst ds, .lst es]) R = R (zipD ds es) := wP_some
@[simp] theorem wP_giE : wP (giE [.lst ds]) R = R (enumD ds) := wP_some
@[simp] theorem wP_giRm : wP (giRm [.int a, .int b, .int c]) R = (((-(2 ^ 62) ≤ a ∧ a < 2 ^ 62) ∧ (-(2 ^ 62) ≤ b ∧ b < 2 ^ 62) ∧ c = -1) ∧ R (rangeCD a (-1) (a - b).toNat)) := wP_ite
@[simp] theorem wP_gSl00 : wP (gSl00 [.lst (ns.map .int)]) Q = Q (.lst ((cutL ns none none).map .int)) := by
  show wP (some (D.lst (cutD (ns.map D.int) none none))) Q = _
  rw [cutD_map]; exact wP_some
theorem gMul_rep : wP (gMul [.lst ds, .int a]) Q = (((-(2 ^ 63) ≤ a ∧ a < 2 ^ 63) ∧ ds.length * a.toNat ≤ sizeLine) ∧ Q (.lst (List.replicate a.toNat ds).flatten)) := wP_ite
end
theorem cutL_lo {α : Type} {xs : List α} {k : Nat} : cutL xs (some (k : Int)) none = xs.drop k := by
  unfold cutL
  rw [HT.sIx_nat, HT.sIx_none]
  by_cases h : k ≤ xs.length
  · rw [Nat.min_eq_left h, List.take_of_length_le (by simp)]
  · rw [Nat.min_eq_right (by omega), List.drop_eq_nil_of_le (Nat.le_refl _), List.drop_eq_nil_of_le (by omega)]
    simp
theorem cutL_hi {α : Type} {xs : List α} {k : Nat} : cutL xs none (some (k : Int)) = xs.take k := by
  unfold cutL
  rw [HT.sIx_nat, HT.sIx_none, List.drop_zero, Nat.sub_zero]
  by_cases h : k ≤ xs.length
  · rw [Nat.min_eq_left h]
  · rw [Nat.min_eq_right (by omega), List.take_of_length_le (Nat.le_refl _), List.take_of_length_le (by omega)]
theorem cutL_all {α : Type} {xs : List α} : cutL xs none none = xs := by
  unfold cutL
  rw [HT.sIx_none, HT.sIx_none]
  simp
theorem zipD_get {ds es : List D} {i : Nat} {d : D} (h : (zipD ds es)[i]? = some d) : ∃ x y, ds[i]? = some x ∧ es[i]? = some y ∧ d = .tup [x, y] := by
  unfold zipD at h
  rw [List.getElem?_zipWith] at h
  cases h1 : ds[i]? with
  | none => rw [h1] at h; cases h
  | some x =>
    cases h2 : es[i]? with
    | none => rw [h1, h2] at h; cases h
    | some y => rw [h1, h2] at h; cases h; exact ⟨x, y, rfl, rfl, rfl⟩
theorem zipD_len {ds es : List D} : (zipD ds es).length = min ds.length es.length := by unfold zipD; simp
theorem enumD_get {ds : List D} {i : Nat} {d : D} (h : (enumD ds)[i]? = some d) : ∃ x, ds[i]? = some x ∧ d = .tup [.int i, x] := by
  unfold enumD at h
  rw [List.getElem?_map] at h
  by_cases hi : i < ds.length
  · rw [List.getElem?_range hi] at h
    cases h
    exact ⟨ds[i], List.getElem?_eq_getElem hi, by simp [List.getElem?_eq_getElem hi]⟩
  · rw [List.getElem?_eq_none (by simpa using hi)] at h; cases h
theorem enumD_len {ds : List D} : (enumD ds).length = ds.length := by unfold enumD; simp
theorem rangeCD_get {lo : Int} {n i : Nat} {d : D} (h : (rangeCD lo (-1) n)[i]? = some d) : d = .int (lo - i) ∧ i < n := by
  unfold rangeCD at h
  rw [List.getElem?_map] at h
  by_cases hi : i < n
  · rw [List.getElem?_range hi] at h
    cases h
    exact ⟨by show D.int (lo + (i : Int) * (-1)) = _; congr 1; omega, hi⟩
  · rw [List.getElem?_eq_none (by simpa using hi)] at h; cases h
theorem rangeCD_len {lo c : Int} {n : Nat} : (rangeCD lo c n).length = n := by unfold rangeCD; simp
section
variable {env fin : Env} {is : List Nat} {ds : List D} {i : Nat} {d : D} {ks : List AK} {o : Option D}
@[simp] theorem asg_tp : asgT (.tp is) (.tup ds) env = putEs is ds env := rfl
@[simp] theorem putEs_nil : putEs [] [] env = some env := rfl
@[simp] theorem putEs_cons : putEs (i :: is) (d :: ds) env = putEs is ds (env.set i (some d)) := rfl
theorem okBo_flat {r : Except Exn D} (h : flatR .sh r = true) (g : finOk ks fin = true) : okBo ks .sh r fin = true := by unfold okBo; rw [h, g]; simp
@[simp] theorem finOk_nil : finOk [] fin = true := by cases fin <;> rfl
@[simp] theorem finOk_sh : finOk (.sh :: ks) (none :: fin) = finOk ks fin := rfl
@[simp] theorem finOk_bo : finOk (.bo i :: ks) (none :: fin) = finOk ks fin := rfl
@[simp] theorem okBo_int {i : Int} : okBo ks .sh (.ok (.int i)) fin = (noBo ks || finOk ks fin) := by
  unfold okBo
  rw [show flatR .sh (.ok (.int i)) = true from rfl, Bool.true_and]
@[simp] theorem okBo_bl {i : Bool} : okBo ks .sh (.ok (.bl i)) fin = (noBo ks || finOk ks fin) := by
  unfold okBo
  rw [show flatR .sh (.ok (.bl i)) = true from rfl, Bool.true_and]
@[simp] theorem noBo_nil : noBo [] = true := rfl
@[simp] theorem noBo_sh : noBo (.sh :: ks) = noBo ks := rfl
@[simp] theorem noBo_ln : noBo (.ln i :: ks) = noBo ks := rfl
@[simp] theorem noBo_bo : noBo (.bo i :: ks) = false := rfl
end
theorem ixN_lt {n : Nat} {j : Int} (h0 : 0 ≤ j) (h1 : j < n) : ixN n j = some j.toNat := by
  unfold ixN
  rw [if_pos h0, if_pos h1]
theorem wP_ixN {n : Nat} {j : Int} {Q : Nat → Prop} (h0 : 0 ≤ j) (h1 : j < n) (q : Q j.toNat) : wP (ixN n j) Q := by
  rw [ixN_lt h0 h1, wP_some]; exact q
theorem atI_last {α : Type} {xs : List α} {x : α} : atI (xs ++ [x]) (-1) = some x := by
  unfold atI ixN
  rw [if_neg (by decide), if_pos (by simp; omega)]
  simp
  have : (-1 + ((xs.length : Int) + 1)).toNat = xs.length := by omega
  rw [this]
  simp
end DI
set_option Elab.async false
set_option autoImplicit false
set_option linter.all false
set_option maxRecDepth 100000
set_option maxHeartbeats 8000000
namespace LM
open PySem PySem.Spec PyProof.Rows L2 DI
/-! _law_numbers(script, k); slots: 0 script 1 k 2 cell -/
def m__law_numbers : CS :=
  (cSeq (cAsg 2 (cIf (cTest (cPrim gLt [.tm (cVar 1), .tm (cPrim gLen [.tm (cVar 0)])])) (cPrim gIx [.tm (cVar 0), .tm (cVar 1)]) (cK (.int 0))))
  (cRet (cPrim gLst [.tm (cPrim gMax2 [.tm (cK (.int 0)), .tm (cPrim gSub [.tm (cPrim gAbs [.tm (cVar 2)]), .tm (cPrim gPow [.tm (cK (.int 10)), .tm (cK (.int 18))])])]), .tm (cPrim gMod [.tm (cPrim gAdd [.tm (cPrim gAdd [.tm (cPrim gMul [.tm (cVar 2), .tm (cK (.int 89))]), .tm (cPrim gMul [.tm (cK (.int 23)), .tm (cVar 1)])]), .tm (cK (.int 7))]), .tm (cPrim gAdd [.tm (cPrim gPow [.tm (cK (.int 10)), .tm (cK (.int 39))]), .tm (cK (.int 3))])]), .tm (cK (.int 0))])))
def F__law_numbers : FnD := runF 3 [.sh, .sh] m__law_numbers
/-! _law_pick(numbers, bound); slots: 0 numbers 1 bound 2 digit 3 mixed -/
def m__law_pick : CS :=
  (cSeq (cIfS (cTest (cPrim gGt [.tm (cPrim gIx [.vr 0, .tm (cK (.int 0))]), .tm (cK (.int 0))]))
    (cSeq (cAsg 2 (cPrim gMod [.tm (cPrim gIx [.vr 0, .tm (cK (.int 0))]), .tm (cVar 1)]))
    (cSeq (cSetI 0 (cPrim gFdiv [.tm (cPrim gIx [.vr 0, .tm (cK (.int 0))]), .tm (cVar 1)]) (cK (.int 0)))
    (cRet (cVar 2))))
    cSkip)
  (cSeq (cSetI 0 (cPrim gAdd [.tm (cPrim gIx [.vr 0, .tm (cK (.int 2))]), .tm (cK (.int 1))]) (cK (.int 2)))
  (cSeq (cAsg 3 (cPrim gMod [.tm (cPrim gPow [.tm (cPrim gAdd [.tm (cPrim gIx [.vr 0, .tm (cK (.int 1))]), .tm (cPrim gMul [.tm (cK (.int 179424673)), .tm (cPrim gIx [.vr 0, .tm (cK (.int 2))])])]), .tm (cK (.int 3))]), .tm (cPrim gAdd [.tm (cPrim gPow [.tm (cK (.int 10)), .tm (cK (.int 40))]), .tm (cK (.int 121))])]))
  (cSeq (cAsg 3 (cPrim gMod [.tm (cPrim gPow [.tm (cPrim gAdd [.tm (cVar 3), .tm (cPrim gMul [.tm (cK (.int 32452843)), .tm (cPrim gIx [.vr 0, .tm (cK (.int 2))])])]), .tm (cK (.int 2))]), .tm (cPrim gAdd [.tm (cPrim gPow [.tm (cK (.int 10)), .tm (cK (.int 41))]), .tm (cK (.int 37))])]))
  (cRet (cPrim gMod [.tm (cPrim gFdiv [.tm (cVar 3), .tm (cPrim gPow [.tm (cK (.int 10)), .tm (cK (.int 5))])]), .tm (cVar 1)]))))))
def F__law_pick : FnD := runF 4 [.pr, .sh] m__law_pick
/-! _law_plan(numbers, most, wide); slots: 0 numbers 1 most 2 wide 3 found 4 turn 5 near 6 made -/
def m__law_plan : CS :=
  (cSeq (cAsg 3 (cPrim gLst []))
  (cSeq (cFor (cIt giR1 [.tm (cCall LM.F__law_pick [.ln 0, .sh] .sh [0, 1] [] [.vr 0, .tm (cPrim gAdd [.tm (cVar 1), .tm (cK (.int 1))])])]) (.nm 4)
    (cSeq (cAsg 5 (cIf (cTest (cPrim gNe [.tm (cVar 3), .tm (cPrim gLst [])])) (cPrim gIx [.tm (cVar 3), .tm (cK (.int 0))]) (cPrim gAdd [.tm (cK (.int 2)), .tm (cCall LM.F__law_pick [.ln 0, .sh] .sh [0, 1] [] [.vr 0, .tm (cK (.int 6))])])))
    (cSeq (cAsg 6 (cPrim gLst [.tm (cPrim gAdd [.tm (cK (.int 1)), .tm (cCall LM.F__law_pick [.ln 0, .sh] .sh [0, 1] [] [.vr 0, .tm (cVar 2)])]), .tm (cPrim gMul [.tm (cVar 5), .tm (cPrim gAdd [.tm (cK (.int 1)), .tm (cCall LM.F__law_pick [.ln 0, .sh] .sh [0, 1] [] [.vr 0, .tm (cK (.int 3))])])])]))
    (cSeq (cSetI 6 (cPrim gAdd [.tm (cPrim gIx [.vr 6, .tm (cK (.int 1))]), .tm (cCall LM.F__law_pick [.ln 0, .sh] .sh [0, 1] [] [.vr 0, .tm (cPrim gAdd [.tm (cVar 5), .tm (cK (.int 1))])])]) (cK (.int 1)))
    (cSeq (cAsg 6 (cPrim gAdd [.vr 6, .tm (cPrim gLst [.tm (cPrim gAdd [.tm (cPrim gAdd [.tm (cVar 5), .tm (cPrim gSum [.tm (cPrim gSl11 [.tm (cVar 3), .tm (cInt (cK (.int 1))), .tm (cK (.int 2))])])]), .tm (cCall LM.F__law_pick [.ln 0, .sh] .sh [0, 1] [] [.vr 0, .tm (cK (.int 2))])]), .tm (cVar 5)])]))
    (cAsg 3 (cPrim gAdd [.tm (cPrim gLst [.tm (cPrim gMax2 [.tm (cK (.int 1)), .tm (cPrim gMin2 [.tm (cVar 2), .tm (cPrim gIx [.vr 6, .tm (cPrim gMod [.tm (cCall LM.F__law_pick [.ln 0, .sh] .sh [0, 1] [] [.vr 0, .tm (cK (.int 7))]), .tm (cK (.int 4))])])])])]), .tm (cVar 3)])))))))
  (cRet (cVar 3))))
def F__law_plan : FnD := runF 7 [.pr, .sh, .sh] m__law_plan
/-! is_integer(value, low, high); slots: 0 value 1 low 2 high -/
def m_is_integer : CS :=
  (cRet (cAndV (cPrim gIsi [.tm (cVar 0), .tm (cK (.ty "int"))]) (cAndV (cNotV (cPrim gIsi [.tm (cVar 0), .tm (cK (.ty "bool"))])) (cChain gLe gLe (cVar 1) (cVar 0) (cVar 2)))))
def F_is_integer : FnD := runF 3 [.sh, .sh, .sh] m_is_integer
/-! is_width(value); slots: 0 value -/
def m_is_width : CS :=
  (cRet (cCall LM.F_is_integer [.sh, .sh, .sh] .sh [0, 1, 2] [] [.tm (cVar 0), .tm (cK (.int 1)), .tm (cK (.int 10000))]))
def F_is_width : FnD := runF 1 [.sh] m_is_width
/-! is_widths(value); slots: 0 value 1 width -/
def m_is_widths : CS :=
  (cRet (cAndV (cPrim gIsi [.tm (cVar 0), .tm (cK (.ty "list"))]) (cPrim gAll [.tm (cLc (cIt giL [.tm (cVar 0)]) (.nm 1) cYes (cCall LM.F_is_width [.sh] .sh [0] [] [.tm (cVar 1)]) [1])])))
def F_is_widths : FnD := runF 2 [.sh] m_is_widths
/-! require_widths(widths); slots: 0 widths -/
def m_require_widths : CS :=
  (cIfS (cNot (cTest (cCall LM.F_is_widths [.sh] .sh [0] [] [.tm (cVar 0)])))
    cStuck
    cSkip)
def F_require_widths : FnD := runF 1 [.sh] m_require_widths
/-! require_position(position); slots: 0 position -/
def m_require_position : CS :=
  (cIfS (cNot (cTest (cCall LM.F_is_integer [.sh, .sh, .sh] .sh [0, 1, 2] [] [.tm (cVar 0), .tm (cK (.int 0)), .tm (cK (.int 1000000000000000000000000000000))])))
    cStuck
    cSkip)
def F_require_position : FnD := runF 1 [.sh] m_require_position
/-! column_of(widths, position); slots: 0 widths 1 position 2 width -/
def m_column_of : CS :=
  (cSeq (cFor (cIt giL [.tm (cVar 0)]) (.nm 2)
    (cAug 1 gModI (cVar 2)))
  (cRet (cVar 1)))
def F_column_of : FnD := runF 3 [.sh, .sh] m_column_of
/-! column(widths, position); slots: 0 widths 1 position -/
def m_column : CS :=
  (cSeq (cDrop (cCall LM.F_require_widths [.sh] .sh [0] [] [.tm (cVar 0)]))
  (cSeq (cDrop (cCall LM.F_require_position [.sh] .sh [0] [] [.tm (cVar 1)]))
  (cRet (cCall LM.F_column_of [.sh, .sh] .sh [0, 1] [] [.tm (cVar 0), .tm (cVar 1)]))))
def F_column : FnD := runF 2 [.sh, .sh] m_column
/-! is_break(widths, position); slots: 0 widths 1 position -/
def m_is_break : CS :=
  (cRet (cPrim gEq [.tm (cCall LM.F_column [.sh, .sh] .sh [0, 1] [] [.tm (cVar 0), .tm (cVar 1)]), .tm (cK (.int 0))]))
def F_is_break : FnD := runF 2 [.sh, .sh] m_is_break
/-! last_break(widths, position); slots: 0 widths 1 position -/
def m_last_break : CS :=
  (cRet (cPrim gSub [.tm (cVar 1), .tm (cCall LM.F_column [.sh, .sh] .sh [0, 1] [] [.tm (cVar 0), .tm (cVar 1)])]))
def F_last_break : FnD := runF 2 [.sh, .sh] m_last_break
/-! require_length(length, least, greatest); slots: 0 length 1 least 2 greatest -/
def m_require_length : CS :=
  (cIfS (cNot (cTest (cCall LM.F_is_integer [.sh, .sh, .sh] .sh [0, 1, 2] [] [.tm (cVar 0), .tm (cVar 1), .tm (cVar 2)])))
    cStuck
    cSkip)
def F_require_length : FnD := runF 3 [.sh, .sh, .sh] m_require_length
/-! columns(widths, length); slots: 0 widths 1 length 2 position -/
def m_columns : CS :=
  (cSeq (cDrop (cCall LM.F_require_widths [.sh] .sh [0] [] [.tm (cVar 0)]))
  (cSeq (cDrop (cCall LM.F_require_length [.sh, .sh, .sh] .sh [0, 1, 2] [.int 0, .int 1000000000000000000000000000000] [.tm (cVar 1), .tm (cK (.int 0)), .tm (cK (.int 1000))]))
  (cRet (cLc (cIt giR1 [.tm (cVar 1)]) (.nm 2) cYes (cCall LM.F_column_of [.sh, .sh] .sh [0, 1] [] [.tm (cVar 0), .tm (cVar 2)]) [2]))))
def F_columns : FnD := runF 3 [.sh, .sh] m_columns
/-! effective_of(widths); slots: 0 widths 1 found 2 width -/
def m_effective_of : CS :=
  (cSeq (cAsg 1 (cPrim gLst []))
  (cSeq (cFor (cIt giL [.tm (cVar 0)]) (.nm 2)
    (cIfS (cOr (cTest (cPrim gEq [.vr 1, .tm (cPrim gLst [])])) (cTest (cPrim gLt [.tm (cVar 2), .tm (cPrim gIx [.vr 1, .tm (cPrim gNeg [.tm (cK (.int 1))])])])))
      (cDrop (cMut 1 mApp [.tm (cVar 2)]))
      cSkip))
  (cRet (cVar 1))))
def F_effective_of : FnD := runF 3 [.sh] m_effective_of
/-! effective(widths); slots: 0 widths -/
def m_effective : CS :=
  (cSeq (cDrop (cCall LM.F_require_widths [.sh] .sh [0] [] [.tm (cVar 0)]))
  (cRet (cCall LM.F_effective_of [.sh] .sh [0] [] [.tm (cVar 0)])))
def F_effective : FnD := runF 1 [.sh] m_effective
/-! count_with(widths, totals, length, size); slots: 0 widths 1 totals 2 length 3 size 4 found 5 width 6 total 7 blocks -/
def m_count_with : CS :=
  (cSeq (cAsg 4 (cK (.int 0)))
  (cSeq (cFor (cIt giZ [.tm (cVar 0), .tm (cVar 1)]) (.tp [5, 6])
    (cSeq (cUnp (.tp [7, 2]) (cPrim gDivmod [.tm (cVar 2), .tm (cVar 5)]))
    (cAug 4 gAddI (cPrim gMul [.tm (cVar 7), .tm (cVar 6)]))))
  (cRet (cPrim gAdd [.tm (cVar 4), .tm (cPrim gInt [.tm (cAndV (cPrim gGt [.tm (cVar 2), .tm (cK (.int 0))]) (cOrV (cPrim gIs [.tm (cVar 3), .tm (cK .non)]) (cPrim gEq [.tm (cVar 2), .tm (cVar 3)])))])]))))
def F_count_with : FnD := runF 8 [.sh, .sh, .sh, .sh] m_count_with
/-! block_totals(widths, size); slots: 0 widths 1 size 2 totals 3 index -/
def m_block_totals : CS :=
  (cSeq (cAsg 2 (cPrim gLst []))
  (cSeq (cFor (cIt giRm [.tm (cPrim gSub [.tm (cPrim gLen [.tm (cVar 0)]), .tm (cK (.int 1))]), .tm (cPrim gNeg [.tm (cK (.int 1))]), .tm (cPrim gNeg [.tm (cK (.int 1))])]) (.nm 3)
    (cDrop (cMut 2 mIns [.tm (cK (.int 0)), .tm (cCall LM.F_count_with [.sh, .bo 2, .sh, .sh] .sh [0, 1, 2, 3] [] [.tm (cPrim gSl10 [.tm (cVar 0), .tm (cPrim gAdd [.tm (cVar 3), .tm (cK (.int 1))])]), .vr 2, .tm (cPrim gIx [.tm (cVar 0), .tm (cVar 3)]), .tm (cVar 1)])])))
  (cRet (cVar 2))))
def F_block_totals : FnD := runF 4 [.sh, .sh] m_block_totals
/-! breaks_below(widths, length); slots: 0 widths 1 length -/
def m_breaks_below : CS :=
  (cRet (cCall LM.F_count_with [.sh, .sh, .sh, .sh] .sh [0, 1, 2, 3] [] [.tm (cVar 0), .tm (cCall LM.F_block_totals [.sh, .sh] .sh [0, 1] [.non] [.tm (cVar 0)]), .tm (cVar 1), .tm (cK .non)]))
def F_breaks_below : FnD := runF 2 [.sh, .sh] m_breaks_below
/-! count_pieces(widths, length); slots: 0 widths 1 length -/
def m_count_pieces : CS :=
  (cSeq (cDrop (cCall LM.F_require_widths [.sh] .sh [0] [] [.tm (cVar 0)]))
  (cSeq (cDrop (cCall LM.F_require_length [.sh, .sh, .sh] .sh [0, 1, 2] [.int 0, .int 1000000000000000000000000000000] [.tm (cVar 1)]))
  (cRet (cCall LM.F_breaks_below [.sh, .sh] .sh [0, 1] [] [.tm (cCall LM.F_effective_of [.sh] .sh [0] [] [.tm (cVar 0)]), .tm (cVar 1)]))))
def F_count_pieces : FnD := runF 2 [.sh, .sh] m_count_pieces
/-! _law_wrapped(plan, span); slots: 0 plan 1 span 2 found 3 most 4 shorter 5 part 6 full 7 rest -/
def m__law_wrapped : CS :=
  (cSeq (cAsg 2 (cPrim gMul [.tm (cPrim gLst [.tm (cVar 1)]), .tm (cPrim gInt [.tm (cPrim gGt [.tm (cVar 1), .tm (cK (.int 0))])])]))
  (cSeq (cFor (cIt giL [.tm (cVar 0)]) (.nm 3)
    (cSeq (cAsg 4 (cPrim gLst []))
    (cSeq (cFor (cIt giL [.tm (cVar 2)]) (.nm 5)
      (cSeq (cUnp (.tp [6, 7]) (cPrim gDivmod [.tm (cPrim gSub [.tm (cVar 5), .tm (cK (.int 1))]), .tm (cVar 3)]))
      (cAsg 4 (cPrim gAdd [.tm (cPrim gAdd [.tm (cVar 4), .tm (cPrim gMul [.tm (cPrim gLst [.tm (cVar 3)]), .tm (cVar 6)])]), .tm (cPrim gLst [.tm (cPrim gAdd [.tm (cVar 7), .tm (cK (.int 1))])])]))))
    (cAsg 2 (cVar 4)))))
  (cRet (cVar 2))))
def F__law_wrapped : FnD := runF 8 [.sh, .sh] m__law_wrapped
/-! break_at(widths, index); slots: 0 widths 1 index 2 position 3 width 4 total 5 blocks -/
def m_break_at : CS :=
  (cSeq (cAsg 2 (cK (.int 0)))
  (cSeq (cFor (cIt giZ [.tm (cVar 0), .tm (cCall LM.F_block_totals [.sh, .sh] .sh [0, 1] [.non] [.tm (cVar 0)])]) (.tp [3, 4])
    (cSeq (cUnp (.tp [5, 1]) (cPrim gDivmod [.tm (cVar 1), .tm (cVar 4)]))
    (cAug 2 gAddI (cPrim gMul [.tm (cVar 5), .tm (cVar 3)]))))
  (cRet (cVar 2))))
def F_break_at : FnD := runF 6 [.sh, .sh] m_break_at
/-! nth_break(widths, index); slots: 0 widths 1 index -/
def m_nth_break : CS :=
  (cSeq (cDrop (cCall LM.F_require_widths [.sh] .sh [0] [] [.tm (cVar 0)]))
  (cSeq (cIfS (cOr (cNot (cTest (cCall LM.F_is_integer [.sh, .sh, .sh] .sh [0, 1, 2] [] [.tm (cVar 1), .tm (cK (.int 0)), .tm (cK (.int 1000000000000000000000000000000))]))) (cAnd (cTest (cPrim gEq [.tm (cVar 0), .tm (cPrim gLst [])])) (cTest (cPrim gGt [.tm (cVar 1), .tm (cK (.int 0))]))))
    cStuck
    cSkip)
  (cRet (cCall LM.F_break_at [.sh, .sh] .sh [0, 1] [] [.tm (cCall LM.F_effective_of [.sh] .sh [0] [] [.tm (cVar 0)]), .tm (cVar 1)]))))
def F_nth_break : FnD := runF 2 [.sh, .sh] m_nth_break
/-! sizes_of(widths, length); slots: 0 widths 1 length 2 breaks 3 index 4 begin 5 end -/
def m_sizes_of : CS :=
  (cSeq (cAsg 2 (cLc (cIt giR1 [.tm (cCall LM.F_breaks_below [.sh, .sh] .sh [0, 1] [] [.tm (cVar 0), .tm (cVar 1)])]) (.nm 3) cYes (cCall LM.F_break_at [.sh, .sh] .sh [0, 1] [] [.tm (cVar 0), .tm (cVar 3)]) [3]))
  (cRet (cLc (cIt giZ [.tm (cVar 2), .tm (cPrim gAdd [.tm (cPrim gSl10 [.tm (cVar 2), .tm (cK (.int 1))]), .tm (cPrim gLst [.tm (cVar 1)])])]) (.tp [4, 5]) cYes (cPrim gSub [.tm (cVar 5), .tm (cVar 4)]) [4, 5])))
def F_sizes_of : FnD := runF 6 [.sh, .sh] m_sizes_of
/-! piece_sizes(widths, length); slots: 0 widths 1 length 2 own 3 count -/
def m_piece_sizes : CS :=
  (cSeq (cDrop (cCall LM.F_require_widths [.sh] .sh [0] [] [.tm (cVar 0)]))
  (cSeq (cDrop (cCall LM.F_require_length [.sh, .sh, .sh] .sh [0, 1, 2] [.int 0, .int 1000000000000000000000000000000] [.tm (cVar 1)]))
  (cSeq (cAsg 2 (cCall LM.F_effective_of [.sh] .sh [0] [] [.tm (cVar 0)]))
  (cSeq (cAsg 3 (cCall LM.F_breaks_below [.sh, .sh] .sh [0, 1] [] [.tm (cVar 2), .tm (cVar 1)]))
  (cSeq (cIfS (cTest (cPrim gGt [.tm (cVar 3), .tm (cK (.int 400))]))
    cStuck
    cSkip)
  (cRet (cCall LM.F_sizes_of [.sh, .sh] .sh [0, 1] [] [.tm (cVar 2), .tm (cVar 1)])))))))
def F_piece_sizes : FnD := runF 4 [.sh, .sh] m_piece_sizes
end LM
set_option Elab.async false
set_option autoImplicit false
set_option linter.all false
set_option maxRecDepth 100000
set_option maxHeartbeats 2000000
/-! LP1: what the shared defs give (the PRNG of k01..k24, widths). -/
namespace LM
open PySem PySem.Spec PyProof.Rows L2 DI
/-- the PRNG's list, with at most c draws behind it -/
def PR (c : Nat) (x : D) : Prop := ∃ a b d : Int, x = .lst [.int a, .int b, .int d] ∧ 0 ≤ a ∧ 0 ≤ b ∧ b < 10 ^ 40 ∧ 0 ≤ d ∧ d ≤ c
theorem PR.mono {c c' : Nat} {x : D} (h : PR c x) (l : c ≤ c') : PR c' x := by
  obtain ⟨a, b, d, rfl, h1, h2, h3, h4, h5⟩ := h
  exact ⟨a, b, d, rfl, h1, h2, h3, h4, by omega⟩
section
variable {Q : D → DI.Env → Prop}
theorem numbers_ok {ns : List Int} {k : Int} (h0 : 0 ≤ k) (h1 : k < 2 ^ 60) (q : ∀ y, PR 0 y → Q y [none, none]) : wF F__law_numbers [.scr ns, .int k] Q := by
  have fin : ∀ v : Int, Q (.lst [.int (max 0 ((v.natAbs : Int) - 1000000000000000000)), .int ((v * 89 + 23 * k + 7) % 1000000000000000000000000000000000000003), .int 0]) [none, none] := fun v => by
    refine q _ ⟨_, _, _, rfl, by omega, Int.emod_nonneg _ (by decide), ?_, by decide, by decide⟩
    have := Int.emod_lt_of_pos (v * 89 + 23 * k + 7) (b := 1000000000000000000000000000000000000003) (by decide)
    omega
  unfold F__law_numbers m__law_numbers
  simp
  apply wIf_i
  · intro h
    have h2 : k.toNat < ns.length := by have := of_decide_eq_true h; omega
    rw [wP_at h0]
    refine wP_get (fun v _ => ?_) h2
    simp [okMul_l, okMul_r]
    exact fin v
  · intro h
    simp [okMul_l, okMul_r]
    have := fin 0
    simpa using this
theorem pick_ok {c : Nat} {n : Int} {x : D} (h : PR c x) (hc : c < 2 ^ 60) (hn : 0 < n) (hn2 : n < 10 ^ 100) (q : ∀ r y, 0 ≤ r → r < n → PR (c + 1) y → Q (.int r) [some y, none]) : wF F__law_pick [x, .int n] Q := by
  obtain ⟨a, b, d, rfl, h1, h2, h3, h4, h5⟩ := h
  unfold F__law_pick m__law_pick
  simp
  apply wIf_i
  · intro ha
    have hl : n.natAbs.log2 < 9000 := Nat.lt_of_le_of_lt (log2_le (k := 400) (Nat.lt_trans (m := 10 ^ 100) (by omega) (by decide +kernel))) (by decide)
    refine ⟨hn, ⟨hn, hl⟩, q _ _ (Int.emod_nonneg _ (by omega)) (Int.emod_lt_of_pos _ hn) ⟨_, _, _, rfl, Int.ediv_nonneg h1 (by omega), h2, h3, h4, by omega⟩⟩
  · intro _
    have hb : b + 179424673 * (d + 1) < 2 ^ 200 := by omega
    have hb0 : 0 ≤ b + 179424673 * (d + 1) := by omega
    have l1 : (b + 179424673 * (d + 1)).natAbs.log2 ≤ 200 := log2_le (by omega)
    have m0 : 0 ≤ (b + 179424673 * (d + 1)) ^ 3 % 10000000000000000000000000000000000000121 := Int.emod_nonneg _ (by decide)
    have m1 : (b + 179424673 * (d + 1)) ^ 3 % 10000000000000000000000000000000000000121 < 10000000000000000000000000000000000000121 := Int.emod_lt_of_pos _ (by decide)
    generalize (b + 179424673 * (d + 1)) ^ 3 % 10000000000000000000000000000000000000121 = M at m0 m1 ⊢
    have l2 : (M + 32452843 * (d + 1)).natAbs.log2 ≤ 200 := log2_le (by omega)
    refine ⟨okMul_l (by decide), by omega, okMul_l (by decide), by omega, hn, q _ _ (Int.emod_nonneg _ (by omega)) (Int.emod_lt_of_pos _ hn) ⟨_, _, _, rfl, h1, h2, h3, by omega, by omega⟩⟩
theorem is_integer_int {v lo hi : Int} : wF F_is_integer [.int v, .int lo, .int hi] Q = Q (.bl (decide (lo ≤ v) && decide (v ≤ hi))) [none, none, none] := by
  unfold F_is_integer m_is_integer
  simp
  cases h : decide (lo ≤ v) <;> simp
theorem is_width_int {v : Int} : wF F_is_width [.int v] Q = Q (.bl (decide (1 ≤ v) && decide (v ≤ 10000))) [none] := by
  unfold F_is_width m_is_width
  simp [is_integer_int]
/-- widths -/
def Wd (ws : List Int) : Prop := ∀ w ∈ ws, 1 ≤ w ∧ w ≤ 10000
theorem is_widths_ints {ws : List Int} (hz : ws.length ≤ sizeLine) (q : Q (.bl (ws.all fun v => decide (1 ≤ v) && decide (v ≤ 10000))) [none]) : wF F_is_widths [.lst (ws.map .int)] Q := by
  unfold F_is_widths m_is_widths
  simp
  refine lc_map (onInt fun v => .bl (decide (1 ≤ v) && decide (v ≤ 10000))) (fun d hd => ?_) fun e2 he => ?_
  · obtain ⟨v, hv, rfl⟩ := List.mem_map.mp hd
    simp [is_width_int]
  · simp [he]
    refine ⟨by simpa using hz, ?_⟩
    have : ws.map ((onInt fun v => .bl (decide (1 ≤ v) && decide (v ≤ 10000))) ∘ D.int) = (ws.map fun v => decide (1 ≤ v) && decide (v ≤ 10000)).map D.bl := by
      rw [List.map_map]; rfl
    rw [this, wP_gAll]
    simp [List.all_map]
    exact q
theorem require_widths_ok {ws : List Int} (hz : ws.length ≤ 1000000) (h : Wd ws) (q : Q .non [none]) : wF F_require_widths [.lst (ws.map .int)] Q := by
  unfold F_require_widths m_require_widths
  simp
  refine is_widths_ints (by simp; omega) ?_
  have : (ws.all fun v => decide (1 ≤ v) && decide (v ≤ 10000)) = true := by
    rw [List.all_eq_true]
    intro v hv
    have := h v hv
    simp [this]
  rw [this]
  simpa using q
theorem require_position_ok {p : Int} (h0 : 0 ≤ p) (h1 : p ≤ 10 ^ 30) (q : Q .non [none]) : wF F_require_position [.int p] Q := by
  unfold F_require_position m_require_position
  have h2 : p ≤ 1000000000000000000000000000000 := by omega
  simp [is_integer_int, h0, h2]
  exact q
theorem require_length_ok {p lo hi : Int} (h0 : lo ≤ p) (h1 : p ≤ hi) (q : Q .non [none, none, none]) : wF F_require_length [.int p, .int lo, .int hi] Q := by
  unfold F_require_length m_require_length
  simp [is_integer_int, h0, h1]
  exact q
/-! ### columns -/
def colOf : List Int → Int → Int
  | [], p => p
  | w :: ws, p => colOf ws (p % w)
theorem colOf_append (a b : List Int) (p : Int) : colOf (a ++ b) p = colOf b (colOf a p) := by
  induction a generalizing p with
  | nil => rfl
  | cons w a ih => exact ih _
theorem colOf_take {ws : List Int} {i : Nat} {w p : Int} (h : ws[i]? = some w) : colOf (ws.take (i + 1)) p = colOf (ws.take i) p % w := by
  rw [List.take_add_one, colOf_append, h]; rfl
theorem colOf_nonneg : ∀ {ws : List Int} {p : Int}, 0 ≤ p → (∀ w ∈ ws, 1 ≤ w) → 0 ≤ colOf ws p
  | [], p, h, _ => h
  | w :: ws, p, h, hw => by
    have h1 := hw w List.mem_cons_self
    show 0 ≤ colOf ws (p % w)
    exact colOf_nonneg (Int.emod_nonneg _ (by omega)) fun v hv => hw v (List.mem_cons_of_mem _ hv)
theorem colOf_le : ∀ {ws : List Int} {p : Int}, 0 ≤ p → (∀ w ∈ ws, 1 ≤ w) → colOf ws p ≤ p
  | [], p, h, _ => Int.le_refl _
  | w :: ws, p, h, hw => by
    have h1 := hw w List.mem_cons_self
    have h2 : 0 ≤ p % w := Int.emod_nonneg _ (by omega)
    have h3 := colOf_le h2 fun v hv => hw v (List.mem_cons_of_mem _ hv)
    have h4 : p % w ≤ p := by
      have e1 := Int.emod_add_mul_ediv p w
      have e2 : 0 ≤ w * (p / w) := Int.mul_nonneg (by omega) (Int.ediv_nonneg h (by omega))
      omega
    exact Int.le_trans h3 h4
/-- a place's distance from its last break -/
theorem colOf_sub : ∀ {ws : List Int} {p b : Int}, 0 ≤ p → (∀ w ∈ ws, 1 ≤ w) → 0 ≤ b → b ≤ colOf ws p → colOf ws (p - b) = colOf ws p - b
  | [], p, b, _, _, _, _ => rfl
  | w :: ws, p, b, h, hw, h0, h1 => by
    have hw1 := hw w List.mem_cons_self
    have hws : ∀ v ∈ ws, 1 ≤ v := fun v hv => hw v (List.mem_cons_of_mem _ hv)
    have h2 : 0 ≤ p % w := Int.emod_nonneg _ (by omega)
    have h3 : colOf ws (p % w) ≤ p % w := colOf_le h2 hws
    have h1' : b ≤ colOf ws (p % w) := h1
    have h4 : (p - b) % w = p % w - b := by
      have h5 : p % w < w := Int.emod_lt_of_pos _ (by omega)
      have h6 : p - b = (p % w - b) + w * (p / w) := by have := Int.emod_add_mul_ediv p w; omega
      rw [h6, Int.add_mul_emod_self_left, Int.emod_eq_of_lt (by omega) (by omega)]
    show colOf ws ((p - b) % w) = colOf ws (p % w) - b
    rw [h4]
    exact colOf_sub h2 hws h0 h1'
theorem column_of_ok {ws : List Int} {p : Int} (h : ∀ w ∈ ws, 1 ≤ w) (q : Q (.int (colOf ws p)) [none, none]) : wF F_column_of [.lst (ws.map .int), .int p] Q := by
  unfold F_column_of m_column_of
  simp
  refine for_inv (fun i e => ∃ x, e = [some (.lst (ws.map .int)), some (.int (colOf (ws.take i) p)), x]) ⟨_, rfl⟩ (fun i d e hi ⟨x, he⟩ => ?_) fun e ⟨x, he⟩ => ?_
  · subst he
    obtain ⟨w, hw, rfl⟩ := ints_get hi
    simp
    refine ⟨by have := h w (List.mem_of_getElem? hw); omega, ?_⟩
    rw [colOf_take hw]
  · subst he
    simp
    exact q
theorem column_ok {ws : List Int} {p : Int} (hz : ws.length ≤ 1000000) (h : Wd ws) (h0 : 0 ≤ p) (h1 : p ≤ 10 ^ 30) (q : Q (.int (colOf ws p)) [none, none]) : wF F_column [.lst (ws.map .int), .int p] Q := by
  unfold F_column m_column
  simp
  refine require_widths_ok hz h ?_
  simp
  refine require_position_ok h0 h1 ?_
  simp
  refine column_of_ok (fun w hw => (h w hw).1) ?_
  simpa using q
theorem is_break_ok {ws : List Int} {p : Int} (hz : ws.length ≤ 1000000) (h : Wd ws) (h0 : 0 ≤ p) (h1 : p ≤ 10 ^ 30) (q : Q (.bl (decide (colOf ws p = 0))) [none, none]) : wF F_is_break [.lst (ws.map .int), .int p] Q := by
  unfold F_is_break m_is_break
  simp
  refine column_ok hz h h0 h1 ?_
  simpa using q
theorem last_break_ok {ws : List Int} {p : Int} (hz : ws.length ≤ 1000000) (h : Wd ws) (h0 : 0 ≤ p) (h1 : p ≤ 10 ^ 30) (q : Q (.int (p - colOf ws p)) [none, none]) : wF F_last_break [.lst (ws.map .int), .int p] Q := by
  unfold F_last_break m_last_break
  simp
  refine column_ok hz h h0 h1 ?_
  simpa using q
theorem columns_ok {ws : List Int} {n : Int} (hz : ws.length ≤ 1000000) (h : Wd ws) (h0 : 0 ≤ n) (h1 : n ≤ 1000) (q : Q (.lst (((List.range n.toNat).map fun (i : Nat) => colOf ws i).map .int)) [none, none]) : wF F_columns [.lst (ws.map .int), .int n] Q := by
  unfold F_columns m_columns
  simp
  refine require_widths_ok hz h ?_
  simp
  refine require_length_ok h0 h1 ?_
  simp
  refine ⟨by omega, lc_map (onInt fun v => .int (colOf ws v)) (fun d hd => ?_) fun e2 he => ?_⟩
  · unfold rangeD at hd
    obtain ⟨v, hv, rfl⟩ := List.mem_map.mp hd
    simp
    refine column_of_ok (fun w hw => (h w hw).1) ?_
    simp
  · rw [rangeD_map]
    simp [he]
    refine ⟨by omega, ?_⟩
    simpa using q
/-! ### plans -/
theorem cut12 (ws : List Int) : cutL ws (some 1) (some 2) = (ws.drop 1).take 1 := by
  unfold cutL
  have e1 : HT.sIx ws.length 0 (some 1) = min 1 ws.length := HT.sIx_nat _ _ 1
  have e2 : HT.sIx ws.length ws.length (some 2) = min 2 ws.length := HT.sIx_nat _ _ 2
  rw [e1, e2]
  match ws with
  | [] => rfl
  | [_] => rfl
  | a :: b :: r => simp
end
end LM
set_option Elab.async false
set_option autoImplicit false
set_option linter.all false
set_option maxRecDepth 100000
set_option maxHeartbeats 2000000
/-! LP2: plans of k01..k23. -/
namespace LM
open PySem PySem.Spec PyProof.Rows L2 DI
section
variable {Q : D → DI.Env → Prop}
theorem plan_ok {c : Nat} {most wide : Int} {x : D} (h : PR c x) (hc : c < 2 ^ 50) (hm : 0 ≤ most) (hm2 : most < 1000) (hw : 1 ≤ wide) (hw2 : wide ≤ 10 ^ 20)
    (q : ∀ (ws : List Int) y, ws.length ≤ most.toNat → (∀ w ∈ ws, 1 ≤ w ∧ w ≤ wide) → PR (c + 10000) y → Q (.lst (ws.map .int)) [some y, none, none]) : wF F__law_plan [x, .int most, .int wide] Q := by
  unfold F__law_plan m__law_plan
  simp
  refine pick_ok h (by omega) (by omega) (by omega) fun r y hr0 hr1 hy => ?_
  simp
  refine ⟨by omega, ?_⟩
  refine for_inv (fun i e => ∃ (ws : List Int) (z : D) (o4 o5 o6 : Option D), e = [some z, some (.int most), some (.int wide), some (.lst (ws.map .int)), o4, o5, o6] ∧ ws.length = i ∧ (∀ w ∈ ws, 1 ≤ w ∧ w ≤ wide) ∧ PR (c + 1 + 6 * i) z)
    ⟨[], y, none, none, none, by simp, rfl, by simp, hy⟩ (fun i d e hi hJ => ?_) fun e hJ => ?_
  · obtain ⟨ws, z, o4, o5, o6, rfl, hl, hws, hz⟩ := hJ
    obtain ⟨rfl, hi2⟩ := rangeD_get hi
    have hir : (i : Int) ≤ 1000 := by omega
    simp [-wE_if_]
    refine wE_cut (fun d e' => ∃ (near : Int) (z : D), d = .int near ∧ 1 ≤ near ∧ near ≤ 10 ^ 20 ∧ PR (c + 2 + 6 * i) z ∧ e' = [some z, some (.int most), some (.int wide), some (.lst (ws.map .int)), some (.int i), o5, o6]) ?_ ?_
    · simp
      refine wIf_i (fun hn => ?_) fun hn => ?_
      · match ws, hl, hws with
        | [], _, _ => simp at hn
        | w :: ws, hl, hws =>
          have := hws w List.mem_cons_self
          simp
          exact ⟨by omega, by omega, hz.mono (by omega)⟩
      · refine pick_ok hz (by omega) (by omega) (by omega) fun r y hr0 hr1 hy => ?_
        simp
        exact ⟨by omega, by omega, hy.mono (by omega)⟩
    · rintro _ _ ⟨near, z, rfl, hn1, hn2, hz, rfl⟩
      simp
      refine pick_ok hz (by omega) (by omega) (by omega) fun r1 y1 hr10 hr11 hy1 => ?_
      simp
      refine pick_ok hy1 (by omega) (by omega) (by omega) fun r2 y2 hr20 hr21 hy2 => ?_
      simp
      refine ⟨okMul_r (by omega), ?_⟩
      refine pick_ok hy2 (by omega) (by omega) (by omega) fun r3 y3 hr30 hr31 hy3 => ?_
      simp
      refine pick_ok hy3 (by omega) (by omega) (by omega) fun r4 y4 hr40 hr41 hy4 => ?_
      simp
      refine pick_ok hy4 (by omega) (by omega) (by omega) fun r5 y5 hr50 hr51 hy5 => ?_
      simp
      have e4 : ([D.int (1 + r1), D.int (near * (1 + r2) + r3), D.int (near + (cutL ws (some 1) (some 2)).sum + r4), D.int near] : List D) = [1 + r1, near * (1 + r2) + r3, near + (cutL ws (some 1) (some 2)).sum + r4, near].map D.int := rfl
      rw [e4, wP_at (by omega)]
      refine wP_get (fun d hd => ?_) (by simp; omega)
      obtain ⟨v, _, rfl⟩ := ints_get hd
      simp
      refine ⟨by omega, max 1 (min wide v) :: ws, y5, ⟨rfl, by simp⟩, by simp [hl], fun u hu => ?_, hy5.mono (by omega)⟩
      rcases List.mem_cons.mp hu with rfl | hu
      · omega
      · exact hws u hu
  · obtain ⟨ws, z, o4, o5, o6, rfl, hl, hws, hz⟩ := hJ
    rw [rangeD_len] at hl hz
    simp
    exact q ws z (by omega) hws (hz.mono (by omega))
end
end LM
set_option Elab.async false
set_option autoImplicit false
set_option linter.all false
set_option maxRecDepth 100000
set_option maxHeartbeats 4000000
/-! LP3: effective widths; counting. -/
namespace LM
open PySem PySem.Spec PyProof.Rows L2 DI
/-! ### effective widths -/
def effB : Int → List Int → List Int
  | _, [] => []
  | b, w :: ws => if w < b then w :: effB w ws else effB b ws
def eff : List Int → List Int
  | [] => []
  | w :: ws => w :: effB w ws
/-- the least so far -/
def lastB : Int → List Int → Int
  | b, [] => b
  | b, w :: ws => lastB (if w < b then w else b) ws
theorem effB_append (b : Int) (us vs : List Int) : effB b (us ++ vs) = effB b us ++ effB (lastB b us) vs := by
  induction us generalizing b with
  | nil => rfl
  | cons w us ih =>
    show (if w < b then w :: effB w (us ++ vs) else effB b (us ++ vs)) = (if w < b then w :: effB w us else effB b us) ++ effB (lastB (if w < b then w else b) us) vs
    by_cases h : w < b
    · simp only [h, if_true]; rw [ih]; rfl
    · simp only [h, if_false]; rw [ih]
theorem effB_last (b : Int) : ∀ us : List Int, (b :: effB b us).getLast? = some (lastB b us)
  | [] => rfl
  | w :: us => by
    show (b :: (if w < b then w :: effB w us else effB b us)).getLast? = some (lastB (if w < b then w else b) us)
    by_cases h : w < b
    · simp only [h, if_true]
      rw [List.getLast?_cons_cons]
      exact effB_last w us
    · simp only [h, if_false]
      exact effB_last b us
theorem effB_mem {b : Int} {ws : List Int} {w : Int} (h : w ∈ effB b ws) : w ∈ ws := by
  induction ws generalizing b with
  | nil => cases h
  | cons v ws ih =>
    have h' : w ∈ (if v < b then v :: effB v ws else effB b ws) := h
    by_cases hv : v < b
    · simp only [hv, if_true] at h'
      rcases List.mem_cons.mp h' with rfl | h'
      · exact List.mem_cons_self
      · exact List.mem_cons_of_mem _ (ih h')
    · simp only [hv, if_false] at h'
      exact List.mem_cons_of_mem _ (ih h')
theorem eff_mem {ws : List Int} {w : Int} (h : w ∈ eff ws) : w ∈ ws := by
  cases ws with
  | nil => cases h
  | cons v ws =>
    rcases List.mem_cons.mp h with rfl | h
    · exact List.mem_cons_self
    · exact List.mem_cons_of_mem _ (effB_mem h)
theorem effB_len (b : Int) (ws : List Int) : (effB b ws).length ≤ ws.length := by
  induction ws generalizing b with
  | nil => exact Nat.le_refl _
  | cons v ws ih =>
    show (if v < b then v :: effB v ws else effB b ws).length ≤ ws.length + 1
    split
    · have := ih v; simp; omega
    · have := ih b; omega
theorem eff_len (ws : List Int) : (eff ws).length ≤ ws.length := by
  cases ws with
  | nil => exact Nat.le_refl _
  | cons v ws => have := effB_len v ws; show (v :: effB v ws).length ≤ _; simp; omega
theorem eff_wd {ws : List Int} (h : Wd ws) : Wd (eff ws) := fun w hw => h w (eff_mem hw)
theorem effB_idem (b : Int) (ws : List Int) : effB b (effB b ws) = effB b ws := by
  induction ws generalizing b with
  | nil => rfl
  | cons v ws ih =>
    by_cases hv : v < b
    · have e : effB b (v :: ws) = v :: effB v ws := by show (if v < b then _ else _) = _; rw [if_pos hv]
      rw [e]
      show (if v < b then v :: effB v (effB v ws) else _) = _
      rw [if_pos hv, ih]
    · have e : effB b (v :: ws) = effB b ws := by show (if v < b then _ else _) = _; rw [if_neg hv]
      rw [e, ih]
theorem eff_idem (ws : List Int) : eff (eff ws) = eff ws := by
  cases ws with
  | nil => rfl
  | cons v ws => show v :: effB v (effB v ws) = v :: effB v ws; rw [effB_idem]
theorem effB_col {b p : Int} {ws : List Int} (h0 : 0 ≤ p) (h : p < b) (hw : ∀ w ∈ ws, 1 ≤ w) : colOf (effB b ws) p = colOf ws p := by
  induction ws generalizing b p with
  | nil => rfl
  | cons v ws ih =>
    have hv := hw v List.mem_cons_self
    have hws : ∀ w ∈ ws, 1 ≤ w := fun w h => hw w (List.mem_cons_of_mem _ h)
    show colOf (if v < b then v :: effB v ws else effB b ws) p = colOf ws (p % v)
    by_cases hvb : v < b
    · simp only [hvb, if_true]
      exact ih (Int.emod_nonneg _ (by omega)) (Int.emod_lt_of_pos _ (by omega)) hws
    · simp only [hvb, if_false]
      rw [ih h0 h hws, Int.emod_eq_of_lt h0 (by omega)]
theorem eff_col {p : Int} {ws : List Int} (h0 : 0 ≤ p) (hw : ∀ w ∈ ws, 1 ≤ w) : colOf (eff ws) p = colOf ws p := by
  cases ws with
  | nil => rfl
  | cons v ws =>
    have hv := hw v List.mem_cons_self
    exact effB_col (Int.emod_nonneg _ (by omega)) (Int.emod_lt_of_pos _ (by omega)) fun w h => hw w (List.mem_cons_of_mem _ h)
section
variable {Q : D → DI.Env → Prop}
theorem eff_take {ws : List Int} {i : Nat} {w : Int} (h : ws[i]? = some w) : eff (ws.take (i + 1)) = (match (eff (ws.take i)).getLast? with
    | none => [w]
    | some l => if w < l then eff (ws.take i) ++ [w] else eff (ws.take i)) := by
  rw [List.take_add_one, h]
  show eff (ws.take i ++ [w]) = _
  cases hw : ws.take i with
  | nil => rfl
  | cons v vs =>
    show v :: effB v (vs ++ [w]) = (match (v :: effB v vs).getLast? with
      | none => [w]
      | some l => if w < l then (v :: effB v vs) ++ [w] else v :: effB v vs)
    rw [effB_last, effB_append]
    show v :: (effB v vs ++ (if w < lastB v vs then [w] else [])) = (if w < lastB v vs then (v :: effB v vs) ++ [w] else v :: effB v vs)
    split
    · rfl
    · simp
theorem effective_of_ok {ws : List Int} (hz : ws.length ≤ 1000000) (q : Q (.lst ((eff ws).map .int)) [none]) : wF F_effective_of [.lst (ws.map .int)] Q := by
  unfold F_effective_of m_effective_of
  simp
  refine for_inv (fun i e => ∃ x, e = [some (.lst (ws.map .int)), some (.lst ((eff (ws.take i)).map .int)), x]) ⟨_, rfl⟩ (fun i d e hi ⟨x, he⟩ => ?_) fun e ⟨x, he⟩ => ?_
  · subst he
    obtain ⟨w, hw, rfl⟩ := ints_get hi
    have hlen : (eff (ws.take i)).length < 16777216 := by
      have h1 := eff_len (ws.take i)
      rw [List.length_take] at h1
      omega
    have key := eff_take hw
    simp
    cases hg : (eff (ws.take i)).getLast? with
    | none =>
      rw [hg] at key
      have hnil := List.getLast?_eq_none_iff.mp hg
      simp [hnil, key]
    | some l =>
      rw [hg] at key
      obtain ⟨ys, hys⟩ := List.getLast?_eq_some_iff.mp hg
      have hne : eff (ws.take i) ≠ [] := by rw [hys]; simp
      simp [hne]
      rw [hys, List.map_append]
      show wP (atI (ys.map D.int ++ [D.int l]) (-1)) _
      rw [DI.atI_last]
      simp
      have key' : eff (ws.take (i + 1)) = if w < l then eff (ws.take i) ++ [w] else eff (ws.take i) := key
      rw [hys] at key' hlen
      refine wIf_i (fun h => ?_) fun h => ?_
      · have h' : w < l := of_decide_eq_true h
        rw [if_pos h'] at key'
        simp at hlen
        simp [key']
        omega
      · have h' : ¬ w < l := of_decide_eq_false h
        rw [if_neg h'] at key'
        simp [key']
  · subst he
    simp
    exact q
theorem effective_ok {ws : List Int} (hz : ws.length ≤ 1000000) (h : Wd ws) (q : Q (.lst ((eff ws).map .int)) [none]) : wF F_effective [.lst (ws.map .int)] Q := by
  unfold F_effective m_effective
  simp
  refine require_widths_ok hz h ?_
  simp
  refine effective_of_ok hz ?_
  simpa using q
end
end LM
set_option Elab.async false
set_option autoImplicit false
set_option linter.all false
set_option maxRecDepth 100000
set_option maxHeartbeats 4000000
/-! LP4: the number of pieces. -/
namespace LM
open PySem PySem.Spec PyProof.Rows L2 DI
/-- pieces of a line, by the pieces of each width -/
def cw : List Int → List Int → Int → Int
  | w :: ws, t :: ts, n => n / w * t + cw ws ts (n % w)
  | _, _, n => if 0 < n then 1 else 0
def tots : List Int → List Int
  | [] => []
  | w :: ws => cw ws (tots ws) w :: tots ws
def cnt (ws : List Int) (n : Int) : Int := cw ws (tots ws) n
theorem tots_len : ∀ ws : List Int, (tots ws).length = ws.length
  | [] => rfl
  | w :: ws => congrArg (· + 1) (tots_len ws)
theorem cw_zero : ∀ ws ts : List Int, cw ws ts 0 = 0
  | [], _ => rfl
  | _ :: _, [] => rfl
  | w :: ws, t :: ts => by
    show 0 / w * t + cw ws ts (0 % w) = 0
    rw [Int.zero_ediv, Int.zero_emod, cw_zero ws ts]; simp
theorem cnt_bd : ∀ {ws : List Int} {n : Int}, 0 ≤ n → (∀ w ∈ ws, 1 ≤ w) → 0 ≤ cnt ws n ∧ cnt ws n ≤ n
  | [], n, h, _ => by
    show 0 ≤ (if 0 < n then (1 : Int) else 0) ∧ (if 0 < n then (1 : Int) else 0) ≤ n
    split <;> omega
  | w :: ws, n, h, hw => by
    have h1 := hw w List.mem_cons_self
    have hws : ∀ v ∈ ws, 1 ≤ v := fun v hv => hw v (List.mem_cons_of_mem _ hv)
    obtain ⟨t0, t1⟩ := cnt_bd (ws := ws) (n := w) (by omega) hws
    obtain ⟨r0, r1⟩ := cnt_bd (ws := ws) (n := n % w) (Int.emod_nonneg _ (by omega)) hws
    show 0 ≤ n / w * cnt ws w + cnt ws (n % w) ∧ n / w * cnt ws w + cnt ws (n % w) ≤ n
    have q0 : 0 ≤ n / w := Int.ediv_nonneg h (by omega)
    have a0 : 0 ≤ n / w * cnt ws w := Int.mul_nonneg q0 t0
    have a1 : n / w * cnt ws w ≤ n / w * w := Int.mul_le_mul_of_nonneg_left t1 q0
    have e1 := Int.emod_add_mul_ediv n w
    have e2 : n / w * w = w * (n / w) := Int.mul_comm _ _
    omega
theorem tots_bd {ws : List Int} (h : Wd ws) : ∀ t ∈ tots ws, 0 ≤ t ∧ t ≤ 10000 := by
  induction ws with
  | nil => intro t ht; cases ht
  | cons w ws ih =>
    intro t ht
    have h1 := h w List.mem_cons_self
    have hws : Wd ws := fun v hv => h v (List.mem_cons_of_mem _ hv)
    rcases List.mem_cons.mp (show t ∈ cnt ws w :: tots ws from ht) with rfl | ht
    · have := cnt_bd (ws := ws) (n := w) (by omega) (fun v hv => (hws v hv).1)
      omega
    · exact ih hws t ht
/-- as many blocks more -/
theorem cnt_add {w n k : Int} {ws : List Int} (hw : 1 ≤ w) : cnt (w :: ws) (n + w * k) = cnt (w :: ws) n + k * cnt (w :: ws) w := by
  have e0 : cnt (w :: ws) w = cnt ws w := by
    show w / w * cnt ws w + cw ws (tots ws) (w % w) = cnt ws w
    rw [Int.ediv_self (by omega), Int.emod_self, cw_zero]; omega
  rw [e0]
  show (n + w * k) / w * cnt ws w + cnt ws ((n + w * k) % w) = n / w * cnt ws w + cnt ws (n % w) + k * cnt ws w
  rw [Int.add_mul_ediv_left _ _ (by omega), Int.add_mul_emod_self_left, Int.add_mul]
  omega
/-- one piece more behind the last break -/
theorem cnt_break : ∀ {ws : List Int} {p : Int}, 0 ≤ p → (∀ w ∈ ws, 1 ≤ w) → cnt ws (p - colOf ws p) + 1 = cnt ws (p + 1)
  | [], p, h, _ => by
    show (if 0 < p - p then (1 : Int) else 0) + 1 = if 0 < p + 1 then 1 else 0
    rw [if_neg (by omega), if_pos (by omega)]; rfl
  | w :: ws, p, h, hw => by
    have h1 := hw w List.mem_cons_self
    have hws : ∀ v ∈ ws, 1 ≤ v := fun v hv => hw v (List.mem_cons_of_mem _ hv)
    have m0 : 0 ≤ p % w := Int.emod_nonneg _ (by omega)
    have m1 : p % w < w := Int.emod_lt_of_pos _ (by omega)
    have c0 := colOf_nonneg m0 hws
    have c1 := colOf_le m0 hws
    have ih := cnt_break m0 hws
    have e1 := Int.emod_add_mul_ediv p w
    have d1 : p - colOf (w :: ws) p = (p % w - colOf ws (p % w)) + w * (p / w) := by show p - colOf ws (p % w) = _; omega
    rw [d1, cnt_add h1]
    have d2 : p + 1 = (p % w + 1) + w * (p / w) := by omega
    rw [d2, cnt_add h1]
    have z1 : cnt (w :: ws) (p % w - colOf ws (p % w)) = cnt ws (p % w - colOf ws (p % w)) := by
      show (p % w - colOf ws (p % w)) / w * cnt ws w + cnt ws ((p % w - colOf ws (p % w)) % w) = _
      rw [Int.ediv_eq_zero_of_lt (by omega) (by omega), Int.emod_eq_of_lt (by omega) (by omega)]; omega
    have z2 : cnt (w :: ws) (p % w + 1) = cnt ws (p % w + 1) := by
      by_cases hm : p % w + 1 < w
      · show (p % w + 1) / w * cnt ws w + cnt ws ((p % w + 1) % w) = _
        rw [Int.ediv_eq_zero_of_lt (by omega) (by omega), Int.emod_eq_of_lt (by omega) (by omega)]; omega
      · have e : p % w + 1 = w := by omega
        rw [e]
        show w / w * cnt ws w + cw ws (tots ws) (w % w) = cnt ws w
        rw [Int.ediv_self (by omega), Int.emod_self, cw_zero]; omega
    rw [z1, z2]
    omega
section
variable {Q : D → DI.Env → Prop}
theorem count_with_ok {ws ts : List Int} {n : Int} (hl : ts.length = ws.length) (hw : Wd ws) (ht : ∀ t ∈ ts, 0 ≤ t ∧ t ≤ 10000) (h0 : 0 ≤ n) (q : Q (.int (cw ws ts n)) [none, none, none, none]) :
    wF F_count_with [.lst (ws.map .int), .lst (ts.map .int), .int n, .non] Q := by
  unfold F_count_with m_count_with
  simp
  refine for_inv (fun i e => ∃ (m f : Int) (x y z : Option D), e = [some (.lst (ws.map .int)), some (.lst (ts.map .int)), some (.int m), some .non, some (.int f), x, y, z] ∧ 0 ≤ m ∧ f + cw (ws.drop i) (ts.drop i) m = cw ws ts n) ⟨n, 0, none, none, none, rfl, h0, by simp⟩ (fun i d e hi hJ => ?_) fun e hJ => ?_
  · obtain ⟨m, f, x, y, z, rfl, hm, hf⟩ := hJ
    obtain ⟨dx, dy, h1, h2, rfl⟩ := zipD_get hi
    obtain ⟨w, hw1, rfl⟩ := ints_get h1
    obtain ⟨t, ht1, rfl⟩ := ints_get h2
    have a1 := hw w (List.mem_of_getElem? hw1)
    have a2 := ht t (List.mem_of_getElem? ht1)
    obtain ⟨li, ew⟩ := List.getElem?_eq_some_iff.mp hw1
    obtain ⟨lj, et⟩ := List.getElem?_eq_some_iff.mp ht1
    rw [List.drop_eq_getElem_cons li, List.drop_eq_getElem_cons lj, ew, et] at hf
    simp
    refine ⟨by omega, okMul_r (by omega), _, _, ⟨rfl, rfl⟩, Int.emod_nonneg _ (by omega), ?_⟩
    have hf' : f + (m / w * t + cw (ws.drop (i + 1)) (ts.drop (i + 1)) (m % w)) = cw ws ts n := hf
    omega
  · obtain ⟨m, f, x, y, z, rfl, hm, hf⟩ := hJ
    rw [zipD_len, List.length_map, List.length_map, hl, Nat.min_self] at hf
    rw [List.drop_eq_nil_of_le (Nat.le_refl _)] at hf
    have hf' : f + (if 0 < m then (1 : Int) else 0) = cw ws ts n := hf
    simp
    refine wIf_i (fun hp => ?_) fun hp => ?_
    · have hp' : 0 < m := of_decide_eq_true hp
      rw [if_pos hp'] at hf'
      rw [hf']; exact q
    · have hp' : ¬ 0 < m := of_decide_eq_false hp
      rw [if_neg hp'] at hf'
      rw [show f = cw ws ts n from by omega]; exact q
theorem block_totals_ok {ws : List Int} (hz : ws.length ≤ 1000000) (hw : Wd ws) (q : Q (.lst ((tots ws).map .int)) [none, none]) : wF F_block_totals [.lst (ws.map .int), .non] Q := by
  unfold F_block_totals m_block_totals
  simp
  refine ⟨by omega, ?_⟩
  refine for_inv (fun i e => ∃ (x : Option D), e = [some (.lst (ws.map .int)), some .non, some (.lst ((tots (ws.drop (ws.length - i))).map .int)), x]) ⟨none, ?_⟩ (fun i d e hi hJ => ?_) fun e hJ => ?_
  · simp [tots]
  · obtain ⟨x, rfl⟩ := hJ
    obtain ⟨rfl, hi2⟩ := rangeCD_get hi
    have hi3 : i < ws.length := by omega
    have hk : (ws.length : Int) - 1 - i = ((ws.length - 1 - i : Nat) : Int) := by omega
    have hk2 : (ws.length : Int) - 1 - i + 1 = ((ws.length - i : Nat) : Int) := by omega
    simp
    rw [hk2, cutL_lo, hk, wP_atI]
    refine wP_get (fun d hd => ?_) (by simp; omega)
    obtain ⟨w, hw1, rfl⟩ := ints_get hd
    have a1 := hw w (List.mem_of_getElem? hw1)
    simp
    have hws : Wd (ws.drop (ws.length - i)) := fun v hv => hw v (List.mem_of_mem_drop hv)
    rw [← List.map_drop]
    refine count_with_ok (n := w) (by rw [tots_len]) hws (tots_bd hws) (by omega) ?_
    obtain ⟨li, ew⟩ := List.getElem?_eq_some_iff.mp hw1
    have e1 : ws.drop (ws.length - (i + 1)) = w :: ws.drop (ws.length - i) := by
      have : ws.length - (i + 1) = ws.length - 1 - i := by omega
      rw [this, List.drop_eq_getElem_cons li, ew]
      congr 2; omega
    have hl := tots_len (ws.drop (ws.length - i))
    rw [List.length_drop] at hl
    simp [e1, tots]
    omega
  · obtain ⟨x, rfl⟩ := hJ
    rw [rangeCD_len]
    have : ws.length - ((ws.length : Int) - 1 - -1).toNat = 0 := by omega
    simp
    simpa [this] using q
theorem breaks_below_ok {ws : List Int} {n : Int} (hz : ws.length ≤ 1000000) (hw : Wd ws) (h0 : 0 ≤ n) (q : Q (.int (cnt ws n)) [none, none]) : wF F_breaks_below [.lst (ws.map .int), .int n] Q := by
  unfold F_breaks_below m_breaks_below
  simp
  refine block_totals_ok hz hw ?_
  simp
  refine count_with_ok (tots_len ws) hw (tots_bd hw) h0 ?_
  simp
  exact q
theorem count_pieces_ok {ws : List Int} {n : Int} (hz : ws.length ≤ 1000000) (hw : Wd ws) (h0 : 0 ≤ n) (h1 : n ≤ 10 ^ 30) (q : Q (.int (cnt (eff ws) n)) [none, none]) : wF F_count_pieces [.lst (ws.map .int), .int n] Q := by
  unfold F_count_pieces m_count_pieces
  simp
  refine require_widths_ok hz hw ?_
  simp
  refine require_length_ok h0 (by omega) ?_
  simp
  refine effective_of_ok hz ?_
  simp
  refine breaks_below_ok (Nat.le_trans (eff_len ws) hz) (eff_wd hw) h0 ?_
  simpa using q
end
end LM
set_option Elab.async false
set_option autoImplicit false
set_option linter.all false
set_option maxRecDepth 100000
set_option maxHeartbeats 4000000
/-! LP5: breaks by index. -/
namespace LM
open PySem PySem.Spec PyProof.Rows L2 DI
theorem cnt_cons (w : Int) (ws : List Int) (n : Int) : cnt (w :: ws) n = n / w * cnt ws w + cnt ws (n % w) := rfl
theorem cnt_z (ws : List Int) : cnt ws 0 = 0 := cw_zero _ _
theorem cnt_pos : ∀ {ws : List Int} {n : Int}, 0 < n → (∀ w ∈ ws, 1 ≤ w) → 1 ≤ cnt ws n
  | [], n, h, _ => by show (1 : Int) ≤ if 0 < n then 1 else 0; rw [if_pos h]; decide
  | w :: ws, n, h, hw => by
    have h1 := hw w List.mem_cons_self
    have hws : ∀ v ∈ ws, 1 ≤ v := fun v hv => hw v (List.mem_cons_of_mem _ hv)
    have t1 := cnt_pos (ws := ws) (n := w) (by omega) hws
    rw [cnt_cons]
    have m0 : 0 ≤ n % w := Int.emod_nonneg _ (by omega)
    have r0 := (cnt_bd (ws := ws) m0 hws).1
    by_cases hq : n / w = 0
    · have e1 := Int.emod_add_mul_ediv n w
      rw [hq] at e1 ⊢
      have := cnt_pos (ws := ws) (n := n % w) (by omega) hws
      omega
    · have q0 : 0 ≤ n / w := Int.ediv_nonneg (by omega) (by omega)
      have : 1 * 1 ≤ n / w * cnt ws w := Int.mul_le_mul (by omega) t1 (by decide) q0
      omega
theorem cnt_mono : ∀ {ws : List Int} {a b : Int}, 0 ≤ a → a ≤ b → (∀ w ∈ ws, 1 ≤ w) → cnt ws a ≤ cnt ws b
  | [], a, b, h0, h, _ => by
    show (if 0 < a then (1 : Int) else 0) ≤ if 0 < b then 1 else 0
    split <;> split <;> omega
  | w :: ws, a, b, h0, h, hw => by
    have h1 := hw w List.mem_cons_self
    have hws : ∀ v ∈ ws, 1 ≤ v := fun v hv => hw v (List.mem_cons_of_mem _ hv)
    rw [cnt_cons, cnt_cons]
    have ea := Int.emod_add_mul_ediv a w
    have eb := Int.emod_add_mul_ediv b w
    have a0 : 0 ≤ a % w := Int.emod_nonneg _ (by omega)
    have b0 : 0 ≤ b % w := Int.emod_nonneg _ (by omega)
    have a1 : a % w < w := Int.emod_lt_of_pos _ (by omega)
    have hq : a / w ≤ b / w := Int.ediv_le_ediv (by omega) h
    by_cases he : a / w = b / w
    · rw [he] at ea ⊢
      have := cnt_mono (ws := ws) a0 (show a % w ≤ b % w by omega) hws
      omega
    · have t0 := (cnt_bd (ws := ws) (n := w) (by omega) hws).1
      have m1 := cnt_mono (ws := ws) a0 (show a % w ≤ w by omega) hws
      have m2 := (cnt_bd (ws := ws) b0 hws).1
      have m3 : (a / w + 1) * cnt ws w ≤ b / w * cnt ws w := Int.mul_le_mul_of_nonneg_right (by omega) t0
      rw [Int.add_mul] at m3
      omega
theorem effB_cnt {b n : Int} {ws : List Int} (h0 : 0 ≤ n) (h : n ≤ b) (hw : ∀ w ∈ ws, 1 ≤ w) : cnt (effB b ws) n = cnt ws n := by
  induction ws generalizing b n with
  | nil => rfl
  | cons v ws ih =>
    have hv := hw v List.mem_cons_self
    have hws : ∀ w ∈ ws, 1 ≤ w := fun w h => hw w (List.mem_cons_of_mem _ h)
    by_cases hvb : v < b
    · have e : effB b (v :: ws) = v :: effB v ws := by show (if v < b then _ else _) = _; rw [if_pos hvb]
      rw [e, cnt_cons, cnt_cons, ih (by omega) (Int.le_refl _) hws, ih (Int.emod_nonneg _ (by omega)) (Int.le_of_lt (Int.emod_lt_of_pos _ (by omega))) hws]
    · have e : effB b (v :: ws) = effB b ws := by show (if v < b then _ else _) = _; rw [if_neg hvb]
      rw [e, ih h0 h hws, cnt_cons]
      by_cases hn : n = v
      · subst hn; rw [Int.ediv_self (by omega), Int.emod_self, cnt_z]; omega
      · rw [Int.ediv_eq_zero_of_lt h0 (by omega), Int.emod_eq_of_lt h0 (by omega)]; omega
theorem eff_cnt {n : Int} {ws : List Int} (h0 : 0 ≤ n) (hw : ∀ w ∈ ws, 1 ≤ w) : cnt (eff ws) n = cnt ws n := by
  cases ws with
  | nil => rfl
  | cons v ws =>
    have hv := hw v List.mem_cons_self
    have hws : ∀ w ∈ ws, 1 ≤ w := fun w h => hw w (List.mem_cons_of_mem _ h)
    show cnt (v :: effB v ws) n = cnt (v :: ws) n
    rw [cnt_cons, cnt_cons, effB_cnt (by omega) (Int.le_refl _) hws, effB_cnt (Int.emod_nonneg _ (by omega)) (Int.le_of_lt (Int.emod_lt_of_pos _ (by omega))) hws]
/-- the break with an index -/
def brk : List Int → List Int → Int → Int
  | w :: ws, t :: ts, n => n / t * w + brk ws ts (n % t)
  | _, _, _ => 0
def br (ws : List Int) (n : Int) : Int := brk ws (tots ws) n
theorem br_cons (w : Int) (ws : List Int) (n : Int) : br (w :: ws) n = n / cnt ws w * w + br ws (n % cnt ws w) := rfl
theorem br_spec : ∀ {ws : List Int} {n : Int}, 0 ≤ n → (ws = [] → n = 0) → (∀ w ∈ ws, 1 ≤ w) → 0 ≤ br ws n ∧ cnt ws (br ws n) = n ∧ colOf ws (br ws n) = 0
  | [], n, h, h2, _ => by
    have := h2 rfl
    subst this
    exact ⟨Int.le_refl _, rfl, rfl⟩
  | w :: ws, n, h, _, hw => by
    have h1 := hw w List.mem_cons_self
    have hws : ∀ v ∈ ws, 1 ≤ v := fun v hv => hw v (List.mem_cons_of_mem _ hv)
    have t1 := cnt_pos (ws := ws) (n := w) (by omega) hws
    have m0 : 0 ≤ n % cnt ws w := Int.emod_nonneg _ (by omega)
    have m1 : n % cnt ws w < cnt ws w := Int.emod_lt_of_pos _ (by omega)
    have hn : ws = [] → n % cnt ws w = 0 := by
      intro e
      have e1 : cnt ws w = 1 := by
        rw [e]
        show (if 0 < w then (1 : Int) else 0) = 1
        rw [if_pos (by omega)]
      rw [e1] at m1 ⊢
      omega
    obtain ⟨i0, i1, i2⟩ := br_spec (ws := ws) (n := n % cnt ws w) m0 hn hws
    have lt : br ws (n % cnt ws w) < w := by
      by_cases hc : br ws (n % cnt ws w) < w
      · exact hc
      · have := cnt_mono (ws := ws) (a := w) (b := br ws (n % cnt ws w)) (by omega) (by omega) hws
        omega
    rw [br_cons]
    have q0 : 0 ≤ n / cnt ws w := Int.ediv_nonneg h (by omega)
    have p0 : 0 ≤ n / cnt ws w * w := Int.mul_nonneg q0 (by omega)
    have e0 : n / cnt ws w * w + br ws (n % cnt ws w) = br ws (n % cnt ws w) + w * (n / cnt ws w) := by rw [Int.mul_comm]; omega
    refine ⟨by omega, ?_, ?_⟩
    · rw [e0, cnt_cons, Int.add_mul_ediv_left _ _ (by omega), Int.add_mul_emod_self_left, Int.ediv_eq_zero_of_lt i0 lt, Int.emod_eq_of_lt i0 lt, i1, Int.zero_add]
      have := Int.emod_add_mul_ediv n (cnt ws w)
      rw [Int.mul_comm] at this
      omega
    · show colOf ws ((n / cnt ws w * w + br ws (n % cnt ws w)) % w) = 0
      rw [e0, Int.add_mul_emod_self_left, Int.emod_eq_of_lt i0 lt, i2]
theorem br_le : ∀ {ws : List Int} {n : Int}, 0 ≤ n → Wd ws → br ws n ≤ n * 10000
  | [], n, h, _ => by show (0 : Int) ≤ n * 10000; omega
  | w :: ws, n, h, hw => by
    have h1 := hw w List.mem_cons_self
    have hws : Wd ws := fun v hv => hw v (List.mem_cons_of_mem _ hv)
    have t1 := cnt_pos (ws := ws) (n := w) (by omega) (fun v hv => (hws v hv).1)
    have m0 : 0 ≤ n % cnt ws w := Int.emod_nonneg _ (by omega)
    have ih := br_le (ws := ws) m0 hws
    rw [br_cons]
    have q0 : 0 ≤ n / cnt ws w := Int.ediv_nonneg h (by omega)
    have p1 : n / cnt ws w * w ≤ n / cnt ws w * 10000 := Int.mul_le_mul_of_nonneg_left h1.2 q0
    have p2 : n / cnt ws w * 1 ≤ n / cnt ws w * cnt ws w := Int.mul_le_mul_of_nonneg_left t1 q0
    have e1 := Int.emod_add_mul_ediv n (cnt ws w)
    rw [Int.mul_comm] at e1
    omega
/-- a break that is not behind a place is not behind its last break -/
theorem lb_mono : ∀ {ws : List Int} {x p : Int}, 0 ≤ x → x ≤ p → (∀ w ∈ ws, 1 ≤ w) → colOf ws x = 0 → x ≤ p - colOf ws p
  | [], x, p, h0, h, _, hc => by have hx : x = 0 := hc; show x ≤ p - p; omega
  | w :: ws, x, p, h0, h, hw, hc => by
    have h1 := hw w List.mem_cons_self
    have hws : ∀ v ∈ ws, 1 ≤ v := fun v hv => hw v (List.mem_cons_of_mem _ hv)
    have ex := Int.emod_add_mul_ediv x w
    have ep := Int.emod_add_mul_ediv p w
    have x0 : 0 ≤ x % w := Int.emod_nonneg _ (by omega)
    have x1 : x % w < w := Int.emod_lt_of_pos _ (by omega)
    have p0 : 0 ≤ p % w := Int.emod_nonneg _ (by omega)
    have hq : x / w ≤ p / w := Int.ediv_le_ediv (by omega) h
    show x ≤ p - colOf ws (p % w)
    by_cases he : x / w = p / w
    · rw [he] at ex
      have := lb_mono (ws := ws) x0 (show x % w ≤ p % w by omega) hws hc
      omega
    · have c1 := colOf_le (ws := ws) p0 hws
      have m3 : w * (x / w + 1) ≤ w * (p / w) := Int.mul_le_mul_of_nonneg_left (by omega) (by omega)
      rw [Int.mul_add, Int.mul_one] at m3
      omega
/-- of two breaks the earlier one has fewer pieces before it -/
theorem cnt_lt {ws : List Int} {x y : Int} (h0 : 0 ≤ x) (h : x < y) (hw : ∀ w ∈ ws, 1 ≤ w) (hx : colOf ws x = 0) (hy : colOf ws y = 0) : cnt ws x < cnt ws y := by
  have h1 := lb_mono (ws := ws) (x := x) (p := y - 1) h0 (by omega) hw hx
  have h2 := cnt_break (ws := ws) (p := y - 1) (by omega) hw
  have h3 := cnt_mono (ws := ws) h0 h1 hw
  rw [Int.sub_add_cancel] at h2
  omega
theorem br_unique {ws : List Int} {x n : Int} (h0 : 0 ≤ x) (hw : ∀ w ∈ ws, 1 ≤ w) (hx : colOf ws x = 0) (hn : cnt ws x = n) (hne : ws = [] → n = 0) : br ws n = x := by
  have hn0 : 0 ≤ n := by rw [← hn]; exact (cnt_bd h0 hw).1
  obtain ⟨b0, b1, b2⟩ := br_spec hn0 hne hw
  rcases Int.lt_trichotomy (br ws n) x with h | h | h
  · have := cnt_lt b0 h hw b2 hx; omega
  · exact h
  · have := cnt_lt h0 h hw hx b2; omega
theorem eff_nil {ws : List Int} (h : eff ws = []) : ws = [] := by
  cases ws with
  | nil => rfl
  | cons v ws => cases h
theorem br_eff {ws : List Int} {n : Int} (h0 : 0 ≤ n) (hne : ws = [] → n = 0) (hw : ∀ w ∈ ws, 1 ≤ w) : br (eff ws) n = br ws n := by
  have hwe : ∀ w ∈ eff ws, 1 ≤ w := fun w h => hw w (eff_mem h)
  obtain ⟨b0, b1, b2⟩ := br_spec h0 hne hw
  exact br_unique b0 hwe (by rw [eff_col b0 hw]; exact b2) (by rw [eff_cnt b0 hw]; exact b1) fun h => hne (eff_nil h)
section
variable {Q : D → DI.Env → Prop}
theorem break_at_ok {ws : List Int} {n : Int} (hz : ws.length ≤ 1000000) (hw : Wd ws) (h0 : 0 ≤ n) (q : Q (.int (br ws n)) [none, none]) : wF F_break_at [.lst (ws.map .int), .int n] Q := by
  have hw1 : ∀ w ∈ ws, 1 ≤ w := fun w h => (hw w h).1
  have tp : ∀ t ∈ tots ws, 1 ≤ t := by
    clear q
    induction ws with
    | nil => intro t ht; cases ht
    | cons w ws ih =>
      intro t ht
      have h1 := hw w List.mem_cons_self
      have hws : Wd ws := fun v hv => hw v (List.mem_cons_of_mem _ hv)
      rcases List.mem_cons.mp (show t ∈ cnt ws w :: tots ws from ht) with rfl | ht
      · exact cnt_pos (by omega) fun v hv => (hws v hv).1
      · exact ih (by simp at hz; omega) hws (fun v hv => (hws v hv).1) t ht
  unfold F_break_at m_break_at
  simp
  refine block_totals_ok hz hw ?_
  simp
  refine for_inv (fun i e => ∃ (m f : Int) (x y z : Option D), e = [some (.lst (ws.map .int)), some (.int m), some (.int f), x, y, z] ∧ 0 ≤ m ∧ f + brk (ws.drop i) ((tots ws).drop i) m = br ws n) ⟨n, 0, none, none, none, rfl, h0, by simp [br]⟩ (fun i d e hi hJ => ?_) fun e hJ => ?_
  · obtain ⟨m, f, x, y, z, rfl, hm, hf⟩ := hJ
    obtain ⟨dx, dy, h1, h2, rfl⟩ := zipD_get hi
    obtain ⟨w, hw1', rfl⟩ := ints_get h1
    obtain ⟨t, ht1, rfl⟩ := ints_get h2
    have a1 := hw w (List.mem_of_getElem? hw1')
    have a2 := tp t (List.mem_of_getElem? ht1)
    have a3 := tots_bd hw t (List.mem_of_getElem? ht1)
    obtain ⟨li, ew⟩ := List.getElem?_eq_some_iff.mp hw1'
    obtain ⟨lj, et⟩ := List.getElem?_eq_some_iff.mp ht1
    rw [List.drop_eq_getElem_cons li, List.drop_eq_getElem_cons lj, ew, et] at hf
    simp
    refine ⟨by omega, okMul_r (by omega), _, _, ⟨rfl, rfl⟩, Int.emod_nonneg _ (by omega), ?_⟩
    have hf' : f + (m / t * w + brk (ws.drop (i + 1)) ((tots ws).drop (i + 1)) (m % t)) = br ws n := hf
    omega
  · obtain ⟨m, f, x, y, z, rfl, hm, hf⟩ := hJ
    rw [zipD_len, List.length_map, List.length_map, tots_len, Nat.min_self] at hf
    rw [List.drop_eq_nil_of_le (Nat.le_refl _)] at hf
    have hf' : f + 0 = br ws n := hf
    simp
    rw [show f = br ws n from by omega]; exact q
theorem nth_break_ok {ws : List Int} {n : Int} (hz : ws.length ≤ 1000000) (hw : Wd ws) (h0 : 0 ≤ n) (h1 : n ≤ 10 ^ 30) (hne : ws = [] → n = 0) (q : Q (.int (br ws n)) [none, none]) : wF F_nth_break [.lst (ws.map .int), .int n] Q := by
  have h2 : n ≤ 1000000000000000000000000000000 := by omega
  have go : ∀ {Q' : D → DI.Env → Prop}, Q' (.int (br ws n)) [none, none] → wF F_break_at [.lst ((eff ws).map .int), .int n] Q' := fun q => break_at_ok (Nat.le_trans (eff_len ws) hz) (eff_wd hw) h0 (by rw [br_eff h0 hne (fun w h => (hw w h).1)]; exact q)
  unfold F_nth_break m_nth_break
  simp
  refine require_widths_ok hz hw ?_
  simp [is_integer_int, h0, h2]
  refine wIf_i (fun he => ?_) fun he => ?_
  · have hn : n = 0 := hne (of_decide_eq_true he)
    subst hn
    simp
    refine effective_of_ok hz ?_
    simp
    refine go ?_
    simpa using q
  · refine effective_of_ok hz ?_
    simp
    refine go ?_
    simpa using q
end
end LM
set_option Elab.async false
set_option autoImplicit false
set_option linter.all false
set_option maxRecDepth 100000
set_option maxHeartbeats 4000000
/-! LP6: wrapped lines. -/
namespace LM
open PySem PySem.Spec PyProof.Rows L2 DI
def chop (m p : Int) : List Int := List.replicate ((p - 1) / m).toNat m ++ [(p - 1) % m + 1]
def wrapL : List Int → List Int → List Int
  | [], l => l
  | w :: ws, l => wrapL ws (l.flatMap (chop w))
def wrp (ws : List Int) (n : Int) : List Int := wrapL ws (if 0 < n then [n] else [])
/-- pieces that are at least 1 and s together -/
def Ps (l : List Int) (s : Int) : Prop := (∀ p ∈ l, 1 ≤ p) ∧ l.sum = s
theorem Ps.len {l : List Int} {s : Int} (h : Ps l s) : (l.length : Int) ≤ s := by
  obtain ⟨h1, rfl⟩ := h
  induction l with
  | nil => simp
  | cons p l ih =>
    have := h1 p List.mem_cons_self
    have := ih fun q hq => h1 q (List.mem_cons_of_mem _ hq)
    simp only [List.length_cons, List.sum_cons]
    omega
theorem Ps.append {a b : List Int} {s u : Int} (h : Ps a s) (k : Ps b u) : Ps (a ++ b) (s + u) :=
  ⟨fun p hp => (List.mem_append.mp hp).elim (h.1 p) (k.1 p), by rw [List.sum_append, h.2, k.2]⟩
theorem rep_sum (n : Nat) (m : Int) : (List.replicate n m).sum = n * m := by
  induction n with
  | zero => simp
  | succ n ih =>
    rw [List.replicate_succ, List.sum_cons, ih]
    have : ((n + 1 : Nat) : Int) * m = n * m + m := by rw [Int.natCast_add, Int.add_mul]; simp
    omega
theorem chop_ps {m p : Int} (hm : 1 ≤ m) (hp : 1 ≤ p) : Ps (chop m p) p := by
  have r0 : 0 ≤ (p - 1) % m := Int.emod_nonneg _ (by omega)
  refine ⟨fun x hx => ?_, ?_⟩
  · unfold chop at hx
    rcases List.mem_append.mp hx with h | h
    · rw [List.eq_of_mem_replicate h]; exact hm
    · simp at h; omega
  · unfold chop
    rw [List.sum_append, rep_sum]
    have q0 : 0 ≤ (p - 1) / m := Int.ediv_nonneg (by omega) (by omega)
    have e1 := Int.emod_add_mul_ediv (p - 1) m
    have e2 : (((p - 1) / m).toNat : Int) = (p - 1) / m := by omega
    rw [e2, Int.mul_comm]
    simp
    omega
theorem flat_ps {m : Int} (hm : 1 ≤ m) : ∀ {l : List Int} {s : Int}, Ps l s → Ps (l.flatMap (chop m)) s
  | [], s, h => h
  | p :: l, s, h => by
    have h1 := h.1 p List.mem_cons_self
    have hs : p + l.sum = s := by have := h.2; rwa [List.sum_cons] at this
    rw [List.flatMap_cons, ← hs]
    exact (chop_ps hm h1).append (flat_ps hm ⟨fun q hq => h.1 q (List.mem_cons_of_mem _ hq), rfl⟩)
theorem wrapL_ps : ∀ {ws l : List Int} {s : Int}, (∀ w ∈ ws, 1 ≤ w) → Ps l s → Ps (wrapL ws l) s
  | [], _, _, _, h => h
  | w :: ws, l, s, hw, h => by
    show Ps (wrapL ws (l.flatMap (chop w))) s
    exact wrapL_ps (fun v hv => hw v (List.mem_cons_of_mem _ hv)) (flat_ps (hw w List.mem_cons_self) h)
theorem wrapL_app (ws : List Int) (a b : List Int) : wrapL ws (a ++ b) = wrapL ws a ++ wrapL ws b := by
  induction ws generalizing a b with
  | nil => rfl
  | cons w ws ih => show wrapL ws ((a ++ b).flatMap (chop w)) = _; rw [List.flatMap_append, ih]; rfl
theorem wrapL_two (us vs l : List Int) : wrapL (us ++ vs) l = wrapL vs (wrapL us l) := by
  induction us generalizing l with
  | nil => rfl
  | cons w us ih => exact ih _
theorem wrapL_rep (ws : List Int) (n : Nat) (m : Int) : wrapL ws (List.replicate n m) = (List.replicate n (wrapL ws [m])).flatten := by
  induction n with
  | zero =>
    show wrapL ws [] = []
    induction ws with
    | nil => rfl
    | cons w ws ih => exact ih
  | succ n ih =>
    rw [List.replicate_succ, List.replicate_succ, List.flatten_cons, ← ih]
    exact wrapL_app ws [m] _
/-- sums of what stands ahead, over blocks of the same -/
theorem sum_blocks {X Y : List Int} {t w : Int} {f : Int → Int} (ht : (X.length : Int) = t) (h1 : 1 ≤ t) (hs : X.sum = w) (hX : ∀ k : Nat, (k : Int) < t → (X.take k).sum = f k) (hY : ∀ k : Nat, k < Y.length → (Y.take k).sum = f k) (hl : (Y.length : Int) ≤ t) :
    ∀ (q k : Nat), k < q * X.length + Y.length → (((List.replicate q X).flatten ++ Y).take k).sum = (k : Int) / t * w + f ((k : Int) % t)
  | 0, k, hk => by
    have hk' : k < Y.length := by omega
    rw [List.replicate_zero, List.flatten_nil, List.nil_append, hY k hk', Int.ediv_eq_zero_of_lt (by omega) (by omega), Int.emod_eq_of_lt (by omega) (by omega)]
    simp
  | q + 1, k, hk => by
    rw [List.replicate_succ, List.flatten_cons, List.append_assoc]
    by_cases hkt : k < X.length
    · rw [List.take_append_of_le_length (by omega), hX k (by omega), Int.ediv_eq_zero_of_lt (by omega) (by omega), Int.emod_eq_of_lt (by omega) (by omega)]
      simp
    · rw [List.take_append, List.sum_append, List.take_of_length_le (by omega), hs]
      have hk2 : k - X.length < q * X.length + Y.length := by
        have : (q + 1) * X.length = q * X.length + X.length := Nat.succ_mul _ _
        omega
      rw [sum_blocks ht h1 hs hX hY hl q (k - X.length) hk2]
      have e : (k : Int) = ((k - X.length : Nat) : Int) + t * 1 := by omega
      rw [e, Int.add_mul_ediv_left _ _ (by omega), Int.add_mul_emod_self_left, Int.add_mul]
      omega
theorem wrap_begin : ∀ {ws : List Int}, (∀ w ∈ ws, 1 ≤ w) → ∀ {n : Int}, 0 < n → (((wrapL ws [n]).length : Int) = cnt ws n ∧ ∀ k : Nat, k < (wrapL ws [n]).length → ((wrapL ws [n]).take k).sum = br ws k)
  | [], _, n, hn => by
    refine ⟨?_, fun k hk => ?_⟩
    · show (1 : Int) = if 0 < n then 1 else 0
      rw [if_pos hn]
    · have : k = 0 := by
        have hk' : k < 1 := hk
        omega
      subst this; rfl
  | w :: ws, hw, n, hn => by
    have h1 := hw w List.mem_cons_self
    have hws : ∀ v ∈ ws, 1 ≤ v := fun v hv => hw v (List.mem_cons_of_mem _ hv)
    have r0 : 0 ≤ (n - 1) % w := Int.emod_nonneg _ (by omega)
    have r1 : (n - 1) % w < w := Int.emod_lt_of_pos _ (by omega)
    have q0 : 0 ≤ (n - 1) / w := Int.ediv_nonneg (by omega) (by omega)
    have e1 := Int.emod_add_mul_ediv (n - 1) w
    obtain ⟨x1, x2⟩ := wrap_begin hws (n := w) (by omega)
    obtain ⟨y1, y2⟩ := wrap_begin hws (n := (n - 1) % w + 1) (by omega)
    have xs : (wrapL ws [w]).sum = w := (wrapL_ps hws (l := [w]) (s := w) ⟨by simp; exact h1, by simp⟩).2
    have e0 : wrapL (w :: ws) [n] = (List.replicate ((n - 1) / w).toNat (wrapL ws [w])).flatten ++ wrapL ws [(n - 1) % w + 1] := by
      show wrapL ws ([n].flatMap (chop w)) = _
      rw [List.flatMap_cons, List.flatMap_nil, List.append_nil]
      unfold chop
      rw [wrapL_app, wrapL_rep]
    have t1 : 1 ≤ cnt ws w := cnt_pos (by omega) hws
    have lY : ((wrapL ws [(n - 1) % w + 1]).length : Int) ≤ cnt ws w := by rw [y1]; exact cnt_mono (by omega) (by omega) hws
    have lq : (((n - 1) / w).toNat : Int) = (n - 1) / w := by omega
    have hlen : (wrapL (w :: ws) [n]).length = ((n - 1) / w).toNat * (wrapL ws [w]).length + (wrapL ws [(n - 1) % w + 1]).length := by
      rw [e0, List.length_append, List.length_flatten]
      simp
    refine ⟨?_, fun k hk => ?_⟩
    · rw [hlen, Int.natCast_add, Int.natCast_mul, x1, y1, lq, cnt_cons]
      by_cases hr : (n - 1) % w + 1 < w
      · have d1 : n / w = (n - 1) / w := by
          have : n = ((n - 1) % w + 1) + w * ((n - 1) / w) := by omega
          rw [this, Int.add_mul_ediv_left _ _ (by omega), Int.ediv_eq_zero_of_lt (by omega) hr, ← this]; omega
        have d2 : n % w = (n - 1) % w + 1 := by
          have e2 := Int.emod_add_mul_ediv n w
          rw [d1] at e2; omega
        rw [d1, d2]
      · have hr' : (n - 1) % w + 1 = w := by omega
        have hn2 : n = 0 + w * ((n - 1) / w + 1) := by rw [Int.mul_add, Int.mul_one]; omega
        have d1 : n / w = (n - 1) / w + 1 := by
          conv => lhs; rw [hn2]
          rw [Int.add_mul_ediv_left _ _ (by omega)]; simp
        have d2 : n % w = 0 := by
          conv => lhs; rw [hn2]
          rw [Int.add_mul_emod_self_left]; simp
        rw [d1, d2, hr', cnt_z, Int.add_mul]; omega
    · rw [hlen] at hk
      rw [e0, br_cons]
      exact sum_blocks x1 t1 xs (fun k hk => x2 k (by omega)) y2 lY _ k hk
section
variable {Q : D → DI.Env → Prop}
theorem wrapped_ok {ws : List Int} {n : Int} (hz : ws.length ≤ 1000000) (hw : Wd ws) (h0 : 0 ≤ n) (h1 : n ≤ 1000000) (q : Q (.lst ((wrp ws n).map .int)) [none, none]) : wF F__law_wrapped [.lst (ws.map .int), .int n] Q := by
  have hw1 : ∀ w ∈ ws, 1 ≤ w := fun w h => (hw w h).1
  have base : Ps (if 0 < n then [n] else []) n := by
    split
    · exact ⟨by simp; omega, by simp⟩
    · exact ⟨by simp, by simp; omega⟩
  unfold F__law_wrapped m__law_wrapped
  simp
  have ei : wP (gMul [.lst [.int n], .int (if 0 < n then 1 else 0)]) = fun (R : D → Prop) => R (.lst ((if 0 < n then [n] else []).map .int)) := by
    funext R
    rw [gMul_rep]
    split <;> simp
  rw [ei]
  simp
  refine for_inv (fun i e => ∃ (o3 o4 o5 o6 o7 : Option D), e = [some (.lst (ws.map .int)), some (.int n), some (.lst ((wrapL (ws.take i) (if 0 < n then [n] else [])).map .int)), o3, o4, o5, o6, o7]) ⟨_, _, _, _, _, rfl⟩ (fun i d e hi hJ => ?_) fun e hJ => ?_
  · obtain ⟨o3, o4, o5, o6, o7, rfl⟩ := hJ
    obtain ⟨w, hw2, rfl⟩ := ints_get hi
    have a1 := hw w (List.mem_of_getElem? hw2)
    have hl := wrapL_ps (ws := ws.take i) (fun v hv => hw1 v (List.mem_of_mem_take hv)) base
    have key : wrapL (ws.take (i + 1)) (if 0 < n then [n] else []) = (wrapL (ws.take i) (if 0 < n then [n] else [])).flatMap (chop w) := by
      rw [List.take_add_one, hw2, wrapL_two]; rfl
    rw [key]
    generalize wrapL (ws.take i) (if 0 < n then [n] else []) = l at hl ⊢
    simp
    refine for_inv (fun j e => ∃ (o5 o6 o7 : Option D), e = [some (.lst (ws.map .int)), some (.int n), some (.lst (l.map .int)), some (.int w), some (.lst (((l.take j).flatMap (chop w)).map .int)), o5, o6, o7]) ⟨_, _, _, rfl⟩ (fun j d e hj hJ => ?_) fun e hJ => ?_
    · obtain ⟨o5, o6, o7, rfl⟩ := hJ
      obtain ⟨p, hp, rfl⟩ := ints_get hj
      have p1 := hl.1 p (List.mem_of_getElem? hp)
      obtain ⟨lj, ep⟩ := List.getElem?_eq_some_iff.mp hp
      have htk : Ps (l.take j) (l.take j).sum := ⟨fun x hx => hl.1 x (List.mem_of_mem_take hx), rfl⟩
      have htk1 : Ps (l.take (j + 1)) (l.take (j + 1)).sum := ⟨fun x hx => hl.1 x (List.mem_of_mem_take hx), rfl⟩
      have hdr : Ps (l.drop (j + 1)) (l.drop (j + 1)).sum := ⟨fun x hx => hl.1 x (List.mem_of_mem_drop hx), rfl⟩
      have hsum : (l.take (j + 1)).sum + (l.drop (j + 1)).sum = n := by rw [← List.sum_append, List.take_append_drop]; exact hl.2
      have hlen := (flat_ps a1.1 htk1).len
      have hd0 := hdr.len
      have hkey : (l.take (j + 1)).flatMap (chop w) = (l.take j).flatMap (chop w) ++ chop w p := by
        rw [List.take_add_one, hp, List.flatMap_append]; simp
      have hc : (chop w p).length = ((p - 1) / w).toNat + 1 := by simp [chop]
      have hlen2 : (((l.take j).flatMap (chop w)).length : Int) + (((p - 1) / w).toNat + 1) ≤ 1000000 := by
        rw [hkey, List.length_append, hc] at hlen
        omega
      have q0 : 0 ≤ (p - 1) / w := Int.ediv_nonneg (by omega) (by omega)
      rw [hkey]
      generalize (l.take j).flatMap (chop w) = A at hlen2 ⊢
      simp
      refine ⟨⟨by omega, by omega⟩, ?_⟩
      rw [gMul_rep]
      refine ⟨⟨by omega, by simp; omega⟩, ?_⟩
      simp
      refine ⟨by omega, by omega, ?_⟩
      unfold chop
      simp
    · obtain ⟨o5, o6, o7, rfl⟩ := hJ
      simp
  · obtain ⟨o3, o4, o5, o6, o7, rfl⟩ := hJ
    simp
    exact q
end
end LM
set_option Elab.async false
set_option autoImplicit false
set_option linter.all false
set_option maxRecDepth 100000
set_option maxHeartbeats 8000000
namespace K09
open PySem PySem.Spec PyProof.Rows L2 DI
abbrev F__law_numbers : FnD := LM.F__law_numbers
abbrev F__law_pick : FnD := LM.F__law_pick
abbrev F__law_plan : FnD := LM.F__law_plan
abbrev F__law_wrapped : FnD := LM.F__law_wrapped
/-! _law_near(plan); slots: 0 plan 1 found 2 begin 3 part -/
def m__law_near : CS :=
  (cSeq (cPar 1 2 (cPrim gLst []) (cK (.int 0)))
  (cSeq (cFor (cIt giL [.tm (cCall LM.F__law_wrapped [.sh, .sh] .sh [0, 1] [] [.tm (cVar 0), .tm (cK (.int 300))])]) (.nm 3)
    (cSeq (cDrop (cMut 1 mApp [.tm (cVar 2)]))
    (cAsg 2 (cPrim gAdd [.tm (cVar 2), .tm (cVar 3)]))))
  (cRet (cVar 1))))
def F__law_near : FnD := runF 4 [.sh] m__law_near
abbrev F_is_integer : FnD := LM.F_is_integer
abbrev F_is_width : FnD := LM.F_is_width
abbrev F_is_widths : FnD := LM.F_is_widths
abbrev F_require_widths : FnD := LM.F_require_widths
abbrev F_count_with : FnD := LM.F_count_with
abbrev F_block_totals : FnD := LM.F_block_totals
abbrev F_break_at : FnD := LM.F_break_at
abbrev F_effective_of : FnD := LM.F_effective_of
abbrev F_nth_break : FnD := LM.F_nth_break
abbrev F_require_position : FnD := LM.F_require_position
abbrev F_column_of : FnD := LM.F_column_of
abbrev F_column : FnD := LM.F_column
abbrev F_is_break : FnD := LM.F_is_break
abbrev F_require_length : FnD := LM.F_require_length
abbrev F_breaks_below : FnD := LM.F_breaks_below
abbrev F_count_pieces : FnD := LM.F_count_pieces
/-! law(script); slots: 0 script 1 k 2 numbers 3 turn 4 plan 5 kept 6 near 7 told 8 at 9 step 10 place 11 later -/
def m_law : CS :=
  (cSeq (cFor (cIt giR1 [.tm (cPrim gMax2 [.tm (cK (.int 1)), .tm (cPrim gMin2 [.tm (cK (.int 8)), .tm (cPrim gLen [.tm (cVar 0)])])])]) (.nm 1)
    (cSeq (cAsg 2 (cCall LM.F__law_numbers [.sh, .sh] .ow [0, 1] [] [.tm (cVar 0), .tm (cVar 1)]))
    (cFor (cIt giR1 [.tm (cK (.int 5))]) (.nm 3)
      (cSeq (cAsg 4 (cCall LM.F__law_plan [.ln 2, .sh, .sh] .sh [0, 1, 2] [] [.vr 2, .tm (cK (.int 20)), .tm (cPrim gIx [.tm (cPrim gLst [.tm (cK (.int 12)), .tm (cK (.int 40)), .tm (cPrim gPow [.tm (cK (.int 10)), .tm (cK (.int 4))])]), .tm (cCall LM.F__law_pick [.ln 2, .sh] .sh [0, 1] [] [.vr 2, .tm (cK (.int 3))])])]))
      (cSeq (cAsg 5 (cPrim gRepr [.tm (cVar 4)]))
      (cSeq (cAsg 6 (cCall F__law_near [.sh] .sh [0] [] [.tm (cVar 4)]))
      (cSeq (cAsg 7 (cLc (cIt giR1 [.tm (cPrim gMin2 [.tm (cK (.int 100)), .tm (cPrim gLen [.tm (cVar 6)])])]) (.nm 8) cYes (cCall LM.F_nth_break [.sh, .sh] .sh [0, 1] [] [.tm (cVar 4), .tm (cVar 8)]) [8]))
      (cSeq (cIfS (cOr (cTest (cPrim gNe [.tm (cPrim gRepr [.tm (cVar 7)]), .tm (cPrim gRepr [.tm (cPrim gSl01 [.tm (cVar 6), .tm (cK (.int 100))])])])) (cTest (cPrim gNe [.tm (cCall LM.F_nth_break [.sh, .sh] .sh [1, 0] [] [.tm (cPrim gSub [.tm (cPrim gLen [.tm (cVar 6)]), .tm (cK (.int 1))]), .tm (cVar 4)]), .tm (cPrim gIx [.tm (cVar 6), .tm (cPrim gNeg [.tm (cK (.int 1))])])])))
        (cRet (cK (.bl false)))
        cSkip)
      (cFor (cIt giR1 [.tm (cPrim gMul [.tm (cK (.int 4)), .tm (cPrim gInt [.tm (cPrim gNe [.tm (cVar 4), .tm (cPrim gLst [])])])])]) (.nm 9)
        (cSeq (cAsg 8 (cPrim gIx [.tm (cPrim gLst [.tm (cCall LM.F__law_pick [.ln 2, .sh] .sh [0, 1] [] [.vr 2, .tm (cPrim gPow [.tm (cK (.int 10)), .tm (cK (.int 24))])]), .tm (cCall LM.F__law_pick [.ln 2, .sh] .sh [0, 1] [] [.vr 2, .tm (cPrim gPow [.tm (cK (.int 10)), .tm (cK (.int 6))])]), .tm (cPrim gPow [.tm (cK (.int 10)), .tm (cK (.int 25))])]), .tm (cCall LM.F__law_pick [.ln 2, .sh] .sh [0, 1] [] [.vr 2, .tm (cK (.int 3))])]))
        (cSeq (cPar 10 11 (cCall LM.F_nth_break [.sh, .sh] .sh [0, 1] [] [.tm (cVar 4), .tm (cVar 8)]) (cCall LM.F_nth_break [.sh, .sh] .sh [0, 1] [] [.tm (cVar 4), .tm (cPrim gAdd [.tm (cVar 8), .tm (cK (.int 1))])]))
        (cSeq (cIfS (cOr (cNot (cTest (cCall LM.F_is_break [.sh, .sh] .sh [0, 1] [] [.tm (cVar 4), .tm (cVar 10)]))) (cOr (cTest (cPrim gNe [.tm (cCall LM.F_count_pieces [.sh, .sh] .sh [0, 1] [] [.tm (cVar 4), .tm (cVar 10)]), .tm (cVar 8)])) (cTest (cPrim gLe [.tm (cVar 11), .tm (cVar 10)]))))
          (cRet (cK (.bl false)))
          cSkip)
        (cIfS (cOr (cTest (cPrim gNe [.tm (cCall LM.F_column [.sh, .sh] .sh [0, 1] [] [.tm (cVar 4), .tm (cPrim gSub [.tm (cVar 11), .tm (cK (.int 1))])]), .tm (cPrim gSub [.tm (cPrim gSub [.tm (cVar 11), .tm (cK (.int 1))]), .tm (cVar 10)])])) (cTest (cPrim gNe [.tm (cPrim gRepr [.tm (cVar 4)]), .tm (cVar 5)])))
          (cRet (cK (.bl false)))
          cSkip)))))))))))))
  (cRet (cAndV (cPrim gEq [.tm (cCall LM.F_nth_break [.sh, .sh] .sh [0, 1] [] [.tm (cPrim gLst []), .tm (cK (.int 0))]), .tm (cK (.int 0))]) (cAndV (cPrim gEq [.tm (cCall LM.F_nth_break [.sh, .sh] .sh [0, 1] [] [.tm (cPrim gLst [.tm (cPrim gPow [.tm (cK (.int 10)), .tm (cK (.int 4))])]), .tm (cPrim gPow [.tm (cK (.int 10)), .tm (cK (.int 30))])]), .tm (cPrim gPow [.tm (cK (.int 10)), .tm (cK (.int 34))])]) (cPrim gEq [.tm (cCall LM.F_nth_break [.sh, .sh] .sh [0, 1] [] [.tm (cPrim gLst [.tm (cK (.int 1))]), .tm (cK (.int 5))]), .tm (cK (.int 5))])))))
def F_law : FnD := runF 12 [.sh] m_law
end K09
set_option Elab.async false
set_option autoImplicit false
set_option linter.all false
set_option maxRecDepth 100000
set_option maxHeartbeats 4000000
namespace K09
open PySem PySem.Spec PyProof.Rows L2 DI LM
section
variable {Q : D → DI.Env → Prop}
@[simp] theorem sel_10 {α : Type} {a b : α} {l : List α} : sel [1, 0] (a :: b :: l) = [b, a] := rfl
theorem near_ok {ws : List Int} (hz : ws.length ≤ 1000000) (hw : Wd ws) (q : ∀ m : Nat, (m : Int) = cnt ws 300 → Q (.lst (((List.range m).map fun (k : Nat) => br ws k).map .int)) [none]) : wF F__law_near [.lst (ws.map .int)] Q := by
  have hw1 : ∀ w ∈ ws, 1 ≤ w := fun w h => (hw w h).1
  obtain ⟨b1, b2⟩ := wrap_begin hw1 (n := 300) (by decide)
  have b3 : (wrp ws 300).length ≤ 300 := by
    have := (wrapL_ps hw1 (l := [300]) (s := 300) ⟨by simp, by simp⟩).len
    have e : wrp ws 300 = wrapL ws [300] := rfl
    rw [e]; omega
  have e0 : wrapL ws [300] = wrp ws 300 := rfl
  rw [e0] at b1 b2
  unfold F__law_near m__law_near
  simp
  refine wrapped_ok hz hw (by decide) (by decide) ?_
  generalize wrp ws 300 = L at b1 b2 b3
  simp
  refine for_inv (fun i e => ∃ (o3 : Option D), e = [some (.lst (ws.map .int)), some (.lst (((List.range i).map fun (k : Nat) => (L.take k).sum).map .int)), some (.int (L.take i).sum), o3]) ⟨_, rfl⟩ (fun i d e hi hJ => ?_) fun e hJ => ?_
  · obtain ⟨o3, rfl⟩ := hJ
    obtain ⟨p, hp, rfl⟩ := ints_get hi
    obtain ⟨li, ep⟩ := List.getElem?_eq_some_iff.mp hp
    have e1 : (L.take (i + 1)).sum = (L.take i).sum + p := by rw [List.take_add_one, hp, List.sum_append]; simp
    simp [e1, List.range_succ]
    omega
  · obtain ⟨o3, rfl⟩ := hJ
    rw [List.length_map]
    have e1 : ((List.range L.length).map fun (k : Nat) => (L.take k).sum) = (List.range L.length).map fun (k : Nat) => br ws k :=
      List.map_congr_left fun k hk => b2 k (List.mem_range.mp hk)
    rw [e1]
    simp
    simpa using q L.length b1
theorem law_true (ns : List Int) (hl : ns.length ≤ 63) : wF F_law [.scr ns] fun d _ => d = .bl true := by
  unfold F_law m_law
  simp
  refine ⟨by omega, ?_⟩
  refine for_inv (fun _ e => ∃ o1 o2 o3 o4 o5 o6 o7 o8 o9 o10 o11, e = [some (.scr ns), o1, o2, o3, o4, o5, o6, o7, o8, o9, o10, o11]) ⟨_, _, _, _, _, _, _, _, _, _, _, rfl⟩ (fun i d e hi hJ => ?_) fun e hJ => ?_
  · obtain ⟨o1, o2, o3, o4, o5, o6, o7, o8, o9, o10, o11, rfl⟩ := hJ
    obtain ⟨rfl, hi2⟩ := rangeD_get hi
    simp
    refine numbers_ok (by omega) (by omega) fun y hy => ?_
    simp
    refine for_inv (fun t e => ∃ z o3 o4 o5 o6 o7 o8 o9 o10 o11, PR (t * 20000) z ∧ e = [some (.scr ns), some (.int i), some z, o3, o4, o5, o6, o7, o8, o9, o10, o11]) ⟨_, _, _, _, _, _, _, _, _, _, hy.mono (by omega), rfl⟩ (fun t d e ht hJ => ?_) fun e hJ => ?_
    · obtain ⟨z, o3, o4, o5, o6, o7, o8, o9, o10, o11, hz, rfl⟩ := hJ
      obtain ⟨rfl, ht2⟩ := rangeD_get ht
      simp
      refine pick_ok hz (by omega) (by omega) (by omega) fun r y hr0 hr1 hy => ?_
      simp
      have e2 : ([D.int 12, D.int 40, D.int 10000] : List D) = [12, 40, 10000].map D.int := rfl
      rw [e2, wP_at (by omega)]
      refine wP_get (fun d hd => ?_) (by simp; omega)
      obtain ⟨v, hv, rfl⟩ := ints_get hd
      have hv2 := List.mem_of_getElem? hv
      simp at hv2
      refine plan_ok hy (by omega) (by omega) (by omega) (by omega) (by omega) fun ws y hwl hws hy => ?_
      have hW : Wd ws := fun w hw => by have := hws w hw; omega
      have hW1 : ∀ w ∈ ws, 1 ≤ w := fun w hw => (hW w hw).1
      have hwz : ws.length ≤ 1000000 := by omega
      simp
      refine wP_gRepr_sm (sm_ints fun n hn => by have := hW n hn; omega) (by rw [dp_ints]; decide) (Nat.le_trans (wt_ints ws) (by omega)) fun kept hkept => ?_
      refine near_ok hwz hW fun m hm => ?_
      have hm1 : 1 ≤ cnt ws 300 := cnt_pos (by decide) hW1
      have hm2 : cnt ws 300 ≤ 300 := (cnt_bd (by decide) hW1).2
      have hnil : ws = [] → m = 1 := fun e => by
        rw [e] at hm
        have : cnt [] 300 = 1 := rfl
        omega
      simp [-List.map_map]
      refine ⟨by omega, lc_map (onInt fun v => .int (br ws v)) (fun d hd => ?_) fun e2 he => ?_⟩
      · unfold rangeD at hd
        obtain ⟨u, hu, rfl⟩ := List.mem_map.mp hd
        have hu2 := List.mem_range.mp hu
        simp
        refine nth_break_ok hwz hW (by omega) (by omega) (fun e => by have := hnil e; omega) ?_
        simp
      · rw [rangeD_map]
        simp [he, -List.map_map]
        refine ⟨by omega, ?_⟩
        have c1 : cutL (List.map (fun (k : Nat) => br ws k) (List.range m)) none (some 100) = List.map (fun (k : Nat) => br ws k) (List.range (min 100 (m : Int)).toNat) := by
          have e1 : cutL (List.map (fun (k : Nat) => br ws k) (List.range m)) none (some 100) = (List.map (fun (k : Nat) => br ws k) (List.range m)).take 100 := cutL_hi (k := 100)
          rw [e1, ← List.map_take, List.take_range]
          congr 2
          omega
        rw [c1]
        have hm3 : m ≤ 300 := by omega
        have bd : ∀ n ∈ List.map (fun (k : Nat) => br ws k) (List.range (min 100 (m : Int)).toNat), n.natAbs < 10 ^ 100 := by
          intro n hn
          obtain ⟨k, hk, rfl⟩ := List.mem_map.mp hn
          have hk2 := List.mem_range.mp hk
          have b1 := br_le (ws := ws) (n := k) (by omega) hW
          have b0 := (br_spec (ws := ws) (n := k) (by omega) (fun e => by have := hnil e; omega) hW1).1
          omega
        refine wP_gRepr_sm (sm_ints bd) (by rw [dp_ints]; decide) (Nat.le_trans (wt_ints _) (by simp; omega)) fun x hx => ?_
        rw [wP_gRepr hx]
        simp [-List.map_map]
        refine nth_break_ok hwz hW (by omega) (by omega) (fun e => by have := hnil e; omega) ?_
        have hm4 : m = (m - 1) + 1 := by omega
        have c2 : List.map D.int (List.map (fun (k : Nat) => br ws k) (List.range m)) = List.map D.int (List.map (fun (k : Nat) => br ws k) (List.range (m - 1))) ++ [D.int (br ws ((m : Int) - 1))] := by
          conv => lhs; rw [hm4]
          rw [List.range_succ, List.map_append, List.map_append]
          have : (((m - 1 : Nat) : Int)) = (m : Int) - 1 := by omega
          simp [this]
        rw [c2]
        simp [-List.map_map]
        rw [DI.atI_last]
        simp [-List.map_map]
        rw [← c2]
        refine ⟨okMul_l (by decide), ⟨by split <;> omega, by split <;> omega⟩, ?_⟩
        refine for_inv (fun s e => ∃ z o8 o9 o10 o11, PR (t * 20000 + 10010 + s * 10) z ∧ e = [some (.scr ns), some (.int i), some z, some (.int t), some (.lst (ws.map .int)), some (.str kept), some (.lst (List.map D.int (List.map (fun (k : Nat) => br ws k) (List.range m)))), some (.lst (List.map D.int (List.map (fun (k : Nat) => br ws k) (List.range (min 100 (m : Int)).toNat)))), o8, o9, o10, o11]) ⟨_, _, _, _, _, hy.mono (by omega), rfl⟩ (fun s d e hs hJ => ?_) fun e hJ => ?_
        · obtain ⟨z, o8, o9, o10, o11, hz, rfl⟩ := hJ
          obtain ⟨rfl, hs2⟩ := rangeD_get hs
          have hne : ws ≠ [] := fun e => by rw [if_pos e] at hs2; simp at hs2
          have hs3 : s < 4 := by rw [if_neg hne] at hs2; simpa using hs2
          simp [-List.map_map]
          refine pick_ok hz (by omega) (by omega) (by omega) fun r1 y hr10 hr11 hy => ?_
          simp [-List.map_map]
          refine pick_ok hy (by omega) (by omega) (by omega) fun r2 y hr20 hr21 hy => ?_
          simp [-List.map_map]
          refine pick_ok hy (by omega) (by omega) (by omega) fun r3 y hr30 hr31 hy => ?_
          simp [-List.map_map]
          have e3 : ([D.int r1, D.int r2, D.int 10000000000000000000000000] : List D) = [r1, r2, 10000000000000000000000000].map D.int := rfl
          rw [e3, wP_at (by omega)]
          refine wP_get (fun d hd => ?_) (by simp; omega)
          obtain ⟨a, ha, rfl⟩ := ints_get hd
          have ha2 := List.mem_of_getElem? ha
          simp at ha2
          have a0 : 0 ≤ a := by omega
          have a1 : a ≤ 10 ^ 25 := by omega
          obtain ⟨p0, p1, p2⟩ := br_spec (ws := ws) a0 (fun e => absurd e hne) hW1
          obtain ⟨l0, l1, l2⟩ := br_spec (ws := ws) (n := a + 1) (by omega) (fun e => absurd e hne) hW1
          have p3 := br_le (ws := ws) a0 hW
          have l3 := br_le (ws := ws) (n := a + 1) (by omega) hW
          have lt : br ws a < br ws (a + 1) := by
            by_cases hc : br ws a < br ws (a + 1)
            · exact hc
            · have := cnt_mono (ws := ws) l0 (show br ws (a + 1) ≤ br ws a by omega) hW1
              omega
          refine nth_break_ok hwz hW a0 (by omega) (fun e => absurd e hne) ?_
          simp [-List.map_map]
          refine nth_break_ok hwz hW (by omega) (by omega) (fun e => absurd e hne) ?_
          generalize br ws (a + 1) = later at l0 l1 l2 l3 lt ⊢
          generalize br ws a = place at p0 p1 p2 p3 lt ⊢
          simp [-List.map_map]
          refine is_break_ok hwz hW p0 (by omega) ?_
          simp [p2, -List.map_map]
          refine count_pieces_ok hwz hW p0 (by omega) ?_
          rw [eff_cnt p0 hW1, p1]
          have hle : ¬ later ≤ place := by omega
          simp [hle, -List.map_map]
          refine column_ok hwz hW (by omega) (by omega) ?_
          have c0 := colOf_nonneg (ws := ws) (p := later - 1) (by omega) hW1
          have c1 := colOf_le (ws := ws) (p := later - 1) (by omega) hW1
          have c2 := cnt_break (ws := ws) (p := later - 1) (by omega) hW1
          rw [Int.sub_add_cancel, l1] at c2
          have c3 := lb_mono (ws := ws) (x := place) (p := later - 1) p0 (by omega) hW1 p2
          have c4 := colOf_sub (ws := ws) (p := later - 1) (by omega) hW1 c0 (Int.le_refl _)
          have c5 : later - 1 - colOf ws (later - 1) = place := by
            by_cases hc : place < later - 1 - colOf ws (later - 1)
            · have := cnt_lt p0 hc hW1 p2 (by omega)
              omega
            · omega
          have c6 : colOf ws (later - 1) = later - 1 - place := by omega
          simp [c6, wP_gRepr hkept, -List.map_map]
          exact hy.mono (by omega)
        · obtain ⟨z, o8, o9, o10, o11, hz, rfl⟩ := hJ
          rw [rangeD_len] at hz
          simp [-List.map_map]
          refine hz.mono ?_
          split <;> simp <;> omega
    · obtain ⟨z, o3, o4, o5, o6, o7, o8, o9, o10, o11, hz, rfl⟩ := hJ
      simp
  · obtain ⟨o1, o2, o3, o4, o5, o6, o7, o8, o9, o10, o11, rfl⟩ := hJ
    simp
    refine nth_break_ok (ws := []) (by decide) (by intro w hw; cases hw) (by decide) (by decide) (fun _ => rfl) ?_
    have e1 : br [] 0 = 0 := rfl
    simp [e1]
    refine nth_break_ok (ws := [10000]) (by decide) (by intro w hw; simp at hw; omega) (by decide) (by decide) (fun h => by cases h) ?_
    have e2 : br [10000] 1000000000000000000000000000000 = 10000000000000000000000000000000000 := by decide +kernel
    simp [e2]
    refine nth_break_ok (ws := [1]) (by decide) (by intro w hw; simp at hw; omega) (by decide) (by decide) (fun h => by cases h) ?_
    have e3 : br [1] 5 = 5 := by decide +kernel
    simp [e3]
theorem law_holds (ns : List Int) (hl : ns.length ≤ 63) : ∃ fin, F_law [.scr ns] = some (.ok (.bl true), fin) := by
  obtain ⟨d, fin, h, rfl⟩ := law_true ns hl
  exact ⟨fin, h⟩
end
end K09
set_option Elab.async false
set_option autoImplicit false
set_option linter.all false
set_option maxRecDepth 100000
set_option maxHeartbeats 8000000
namespace K09
open PySem PySem.Spec PyProof.Rows L2 DI
def top (i : Nat) : Stmt := PySem.Challenge.pw_hardwraps_k09_breaks_by_index.main.body.getD i (.Pass ⟨0, 0, 0, 0⟩)
abbrev s__law_numbers : Stmt := top 27
abbrev s__law_pick : Stmt := top 28
abbrev s__law_plan : Stmt := top 29
abbrev s__law_wrapped : Stmt := top 30
abbrev s__law_near : Stmt := top 31
abbrev s_is_integer : Stmt := top 9
abbrev s_is_width : Stmt := top 10
abbrev s_is_widths : Stmt := top 11
abbrev s_require_widths : Stmt := top 12
abbrev s_count_with : Stmt := top 20
abbrev s_block_totals : Stmt := top 21
abbrev s_break_at : Stmt := top 23
abbrev s_effective_of : Stmt := top 16
abbrev s_nth_break : Stmt := top 25
abbrev s_require_position : Stmt := top 13
abbrev s_column_of : Stmt := top 15
abbrev s_column : Stmt := top 17
abbrev s_is_break : Stmt := top 18
abbrev s_require_length : Stmt := top 14
abbrev s_breaks_below : Stmt := top 22
abbrev s_count_pieces : Stmt := top 24
abbrev s_law : Stmt := top 32
/-- what is known of the module -/
structure Say (K : PySem.W.Frag) (mg : Str → Option Value) where
  a__law_numbers : Addr
  d__law_numbers : FuncData
  F__law_numbers : defF s__law_numbers [] K "_law_numbers" a__law_numbers d__law_numbers
  g__law_numbers : mg "_law_numbers" = some (.ref a__law_numbers)
  a__law_pick : Addr
  d__law_pick : FuncData
  F__law_pick : defF s__law_pick [] K "_law_pick" a__law_pick d__law_pick
  g__law_pick : mg "_law_pick" = some (.ref a__law_pick)
  a__law_plan : Addr
  d__law_plan : FuncData
  F__law_plan : defF s__law_plan [] K "_law_plan" a__law_plan d__law_plan
  g__law_plan : mg "_law_plan" = some (.ref a__law_plan)
  a__law_wrapped : Addr
  d__law_wrapped : FuncData
  F__law_wrapped : defF s__law_wrapped [] K "_law_wrapped" a__law_wrapped d__law_wrapped
  g__law_wrapped : mg "_law_wrapped" = some (.ref a__law_wrapped)
  a__law_near : Addr
  d__law_near : FuncData
  F__law_near : defF s__law_near [] K "_law_near" a__law_near d__law_near
  g__law_near : mg "_law_near" = some (.ref a__law_near)
  a_is_integer : Addr
  d_is_integer : FuncData
  F_is_integer : defF s_is_integer [] K "is_integer" a_is_integer d_is_integer
  g_is_integer : mg "is_integer" = some (.ref a_is_integer)
  a_is_width : Addr
  d_is_width : FuncData
  F_is_width : defF s_is_width [] K "is_width" a_is_width d_is_width
  g_is_width : mg "is_width" = some (.ref a_is_width)
  a_is_widths : Addr
  d_is_widths : FuncData
  F_is_widths : defF s_is_widths [] K "is_widths" a_is_widths d_is_widths
  g_is_widths : mg "is_widths" = some (.ref a_is_widths)
  a_require_widths : Addr
  d_require_widths : FuncData
  F_require_widths : defF s_require_widths [] K "require_widths" a_require_widths d_require_widths
  g_require_widths : mg "require_widths" = some (.ref a_require_widths)
  a_count_with : Addr
  d_count_with : FuncData
  F_count_with : defF s_count_with [] K "count_with" a_count_with d_count_with
  g_count_with : mg "count_with" = some (.ref a_count_with)
  a_block_totals : Addr
  d_block_totals : FuncData
  F_block_totals : defF s_block_totals [V.non] K "block_totals" a_block_totals d_block_totals
  g_block_totals : mg "block_totals" = some (.ref a_block_totals)
  a_break_at : Addr
  d_break_at : FuncData
  F_break_at : defF s_break_at [] K "break_at" a_break_at d_break_at
  g_break_at : mg "break_at" = some (.ref a_break_at)
  a_effective_of : Addr
  d_effective_of : FuncData
  F_effective_of : defF s_effective_of [] K "effective_of" a_effective_of d_effective_of
  g_effective_of : mg "effective_of" = some (.ref a_effective_of)
  a_nth_break : Addr
  d_nth_break : FuncData
  F_nth_break : defF s_nth_break [] K "nth_break" a_nth_break d_nth_break
  g_nth_break : mg "nth_break" = some (.ref a_nth_break)
  a_require_position : Addr
  d_require_position : FuncData
  F_require_position : defF s_require_position [] K "require_position" a_require_position d_require_position
  g_require_position : mg "require_position" = some (.ref a_require_position)
  a_column_of : Addr
  d_column_of : FuncData
  F_column_of : defF s_column_of [] K "column_of" a_column_of d_column_of
  g_column_of : mg "column_of" = some (.ref a_column_of)
  a_column : Addr
  d_column : FuncData
  F_column : defF s_column [] K "column" a_column d_column
  g_column : mg "column" = some (.ref a_column)
  a_is_break : Addr
  d_is_break : FuncData
  F_is_break : defF s_is_break [] K "is_break" a_is_break d_is_break
  g_is_break : mg "is_break" = some (.ref a_is_break)
  a_require_length : Addr
  d_require_length : FuncData
  F_require_length : defF s_require_length [V.int 0, V.int 1000000000000000000000000000000] K "require_length" a_require_length d_require_length
  g_require_length : mg "require_length" = some (.ref a_require_length)
  a_breaks_below : Addr
  d_breaks_below : FuncData
  F_breaks_below : defF s_breaks_below [] K "breaks_below" a_breaks_below d_breaks_below
  g_breaks_below : mg "breaks_below" = some (.ref a_breaks_below)
  a_count_pieces : Addr
  d_count_pieces : FuncData
  F_count_pieces : defF s_count_pieces [] K "count_pieces" a_count_pieces d_count_pieces
  g_count_pieces : mg "count_pieces" = some (.ref a_count_pieces)
  a_law : Addr
  d_law : FuncData
  F_law : defF s_law [] K "law" a_law d_law
  n_abs : mg "abs" = none
  n_all : mg "all" = none
  n_bool : mg "bool" = none
  n_divmod : mg "divmod" = none
  n_int : mg "int" = none
  n_isinstance : mg "isinstance" = none
  n_len : mg "len" = none
  n_list : mg "list" = none
  n_max : mg "max" = none
  n_min : mg "min" = none
  n_range : mg "range" = none
  n_repr : mg "repr" = none
  n_sum : mg "sum" = none
  n_zip : mg "zip" = none
  i_MAX_LENGTH : ∃ t, mg "MAX_LENGTH" = some (.int 1000000000000000000000000000000 t)
  i_MAX_WIDTH : ∃ t, mg "MAX_WIDTH" = some (.int 10000 t)
theorem boot_abs : bootBuiltins "abs" = some (.builtin "abs") := by decide +kernel
theorem boot_all : bootBuiltins "all" = some (.builtin "all") := by decide +kernel
theorem boot_bool : bootBuiltins "bool" = some (.type "bool") := by decide +kernel
theorem boot_divmod : bootBuiltins "divmod" = some (.builtin "divmod") := by decide +kernel
theorem boot_int : bootBuiltins "int" = some (.type "int") := by decide +kernel
theorem boot_isinstance : bootBuiltins "isinstance" = some (.builtin "isinstance") := by decide +kernel
theorem boot_len : bootBuiltins "len" = some (.builtin "len") := by decide +kernel
theorem boot_list : bootBuiltins "list" = some (.type "list") := by decide +kernel
theorem boot_max : bootBuiltins "max" = some (.builtin "max") := by decide +kernel
theorem boot_min : bootBuiltins "min" = some (.builtin "min") := by decide +kernel
theorem boot_range : bootBuiltins "range" = some (.type "range") := by decide +kernel
theorem boot_repr : bootBuiltins "repr" = some (.builtin "repr") := by decide +kernel
theorem boot_sum : bootBuiltins "sum" = some (.builtin "sum") := by decide +kernel
theorem boot_zip : bootBuiltins "zip" = some (.type "zip") := by decide +kernel
section
variable {P : Program} {w : World} {K : PySem.W.Frag} {mg : Str → Option Value} {base : Heap}
theorem sc__law_numbers : FnScope ["script", "k", "cell"] ["script", "k"] (defScope s__law_numbers) := ⟨rfl, rfl, rfl, by decide +kernel, rfl, by decide +kernel, by decide +kernel⟩
theorem g__law_numbers (c : Say K mg) : FnG P w K mg base 1 c.a__law_numbers c.d__law_numbers ["script", "k"] (spF K mg [.sh, .sh] .ow F__law_numbers) :=
  fn_g (N := ["script", "k", "cell"]) (ms' := [.sh, .sh, .sh]) (B := []) (ls := [.sh]) c.F__law_numbers sc__law_numbers rfl rfl (by decide) rfl fun cdv A outer s H E hr am => by
    have hN : (["script", "k", "cell"] : List Str).Nodup := sc__law_numbers.nd
    exact (
      (dss_cons (ms2 := [.sh, .sh, .sh]) (ds_asg (m := .sh) 2 (de_if (dt_cmp L2.op_lt gLt_ok (do_tm (de_var 1)) (do_tm (de_callB L2.call_len gLen_ok rfl c.n_len boot_len (dos_cons (do_tm (de_var 0)) dos_nil)))) (de_ix L2.ix_seq gIx_ok (do_tm (de_var 0)) (do_tm (de_var 1))) de_int) hN)
      (dss_one (ds_ret (de_lst (dos_cons (do_tm (de_callB (L2.call_max2 rfl) gMax2_ok rfl c.n_max boot_max (dos_cons (do_tm de_int) (dos_cons (do_tm (de_bin L2.op_sub gSub_ok (do_tm (de_callB L2.call_abs gAbs_ok rfl c.n_abs boot_abs (dos_cons (do_tm (de_var 2)) dos_nil))) (do_tm (de_bin DI.op_powW gPow_ok (do_tm de_int) (do_tm de_int))))) dos_nil)))) (dos_cons (do_tm (de_bin L2.op_mod gMod_ok (do_tm (de_bin DI.op_addD gAdd_ok (do_tm (de_bin DI.op_addD gAdd_ok (do_tm (de_bin DI.op_mulD gMul_ok (do_tm (de_var 2)) (do_tm de_int))) (do_tm (de_bin DI.op_mulD gMul_ok (do_tm de_int) (do_tm (de_var 1)))))) (do_tm de_int))) (do_tm (de_bin DI.op_addD gAdd_ok (do_tm (de_bin DI.op_powW gPow_ok (do_tm de_int) (do_tm de_int))) (do_tm de_int))))) (dos_cons (do_tm de_int) dos_nil))))))))
theorem sc__law_pick : FnScope ["numbers", "bound", "digit", "mixed"] ["numbers", "bound"] (defScope s__law_pick) := ⟨rfl, rfl, rfl, by decide +kernel, rfl, by decide +kernel, by decide +kernel⟩
theorem g__law_pick (c : Say K mg) : FnG P w K mg base 1 c.a__law_pick c.d__law_pick ["numbers", "bound"] (spF K mg [.pr, .sh] .sh F__law_pick) :=
  fn_g (N := ["numbers", "bound", "digit", "mixed"]) (ms' := [.pr, .sh, .sh, .sh]) (B := []) (ls := [.sh, .sh]) c.F__law_pick sc__law_pick rfl rfl (by decide) rfl fun cdv A outer s H E hr am => by
    have hN : (["numbers", "bound", "digit", "mixed"] : List Str).Nodup := sc__law_pick.nd
    exact (
      (dss_cons (ms2 := [.pr, .sh, .sh, .sh]) (ds_if (dt_cmp L2.op_gt gGt_ok (do_tm (de_ix L2.ix_seq gIx_ok (do_vr 0) (do_tm de_int))) (do_tm de_int))
        (dss_cons (ms2 := [.pr, .sh, .sh, .sh]) (ds_asg (m := .sh) 2 (de_bin L2.op_mod gMod_ok (do_tm (de_ix L2.ix_seq gIx_ok (do_vr 0) (do_tm de_int))) (do_tm (de_var 1))) hN)
        (dss_cons (ms2 := [.pr, .sh, .sh, .sh]) (ds_set 0 (de_bin L2.op_fdivW gFdiv_ok (do_tm (de_ix L2.ix_seq gIx_ok (do_vr 0) (do_tm de_int))) (do_tm (de_var 1))) de_int)
        (dss_one (ds_ret (de_var 2)))))
        dss_nil)
      (dss_cons (ms2 := [.pr, .sh, .sh, .sh]) (ds_set 0 (de_bin DI.op_addD gAdd_ok (do_tm (de_ix L2.ix_seq gIx_ok (do_vr 0) (do_tm de_int))) (do_tm de_int)) de_int)
      (dss_cons (ms2 := [.pr, .sh, .sh, .sh]) (ds_asg (m := .sh) 3 (de_bin L2.op_mod gMod_ok (do_tm (de_bin DI.op_powW gPow_ok (do_tm (de_bin DI.op_addD gAdd_ok (do_tm (de_ix L2.ix_seq gIx_ok (do_vr 0) (do_tm de_int))) (do_tm (de_bin DI.op_mulD gMul_ok (do_tm de_int) (do_tm (de_ix L2.ix_seq gIx_ok (do_vr 0) (do_tm de_int))))))) (do_tm de_int))) (do_tm (de_bin DI.op_addD gAdd_ok (do_tm (de_bin DI.op_powW gPow_ok (do_tm de_int) (do_tm de_int))) (do_tm de_int)))) hN)
      (dss_cons (ms2 := [.pr, .sh, .sh, .sh]) (ds_asg (m := .sh) 3 (de_bin L2.op_mod gMod_ok (do_tm (de_bin DI.op_powW gPow_ok (do_tm (de_bin DI.op_addD gAdd_ok (do_tm (de_var 3)) (do_tm (de_bin DI.op_mulD gMul_ok (do_tm de_int) (do_tm (de_ix L2.ix_seq gIx_ok (do_vr 0) (do_tm de_int))))))) (do_tm de_int))) (do_tm (de_bin DI.op_addD gAdd_ok (do_tm (de_bin DI.op_powW gPow_ok (do_tm de_int) (do_tm de_int))) (do_tm de_int)))) hN)
      (dss_one (ds_ret (de_bin L2.op_mod gMod_ok (do_tm (de_bin L2.op_fdivW gFdiv_ok (do_tm (de_var 3)) (do_tm (de_bin DI.op_powW gPow_ok (do_tm de_int) (do_tm de_int))))) (do_tm (de_var 1))))))))))
theorem sc__law_plan : FnScope ["numbers", "most", "wide", "found", "turn", "near", "made"] ["numbers", "most", "wide"] (defScope s__law_plan) := ⟨rfl, rfl, rfl, by decide +kernel, rfl, by decide +kernel, by decide +kernel⟩
theorem g__law_plan (c : Say K mg) : FnG P w K mg base 2 c.a__law_plan c.d__law_plan ["numbers", "most", "wide"] (spF K mg [.pr, .sh, .sh] .sh F__law_plan) :=
  fn_g (N := ["numbers", "most", "wide", "found", "turn", "near", "made"]) (ms' := [.pr, .sh, .sh, .sh, .sh, .sh, .ow]) (B := []) (ls := [.sh, .sh, .sh, .ow]) c.F__law_plan sc__law_plan rfl rfl (by decide) rfl fun cdv A outer s H E hr am => by
    have hN : (["numbers", "most", "wide", "found", "turn", "near", "made"] : List Str).Nodup := sc__law_plan.nd
    exact (
      (dss_cons (ms2 := [.pr, .sh, .sh, .sh, .sh, .sh, .ow]) (ds_asg (m := .sh) 3 (de_lst dos_nil) hN)
      (dss_cons (ms2 := [.pr, .sh, .sh, .sh, .sh, .sh, .ow]) (ds_for (di_r1 rfl c.n_range (dos_cons (do_tm (de_call (kinds := [.ln 0, .sh]) (g__law_pick c) (hr.mono (by decide)) am (cb_0 c.F__law_pick 2 [] [0, 1] fun _ _ _ _ _ _ us ws h1 h2 => match us, ws, h1, h2 with | [u0, u1], [], _, _ => rfl) (fun _ => .nil) rfl c.g__law_pick c.F__law_pick.kp (dos_cons (do_vr 0) (dos_cons (do_tm (de_bin DI.op_addD gAdd_ok (do_tm (de_var 1)) (do_tm de_int))) dos_nil)))) dos_nil)) (pg_nm 4 hN)
        (dss_cons (ms2 := [.pr, .sh, .sh, .sh, .sh, .sh, .ow]) (ds_asg (m := .sh) 5 (de_if (dt_cmp (DI.op_neX hr.units) gNe_ok (do_tm (de_var 3)) (do_tm (de_lst dos_nil))) (de_ix L2.ix_seq gIx_ok (do_tm (de_var 3)) (do_tm de_int)) (de_bin DI.op_addD gAdd_ok (do_tm de_int) (do_tm (de_call (kinds := [.ln 0, .sh]) (g__law_pick c) (hr.mono (by decide)) am (cb_0 c.F__law_pick 2 [] [0, 1] fun _ _ _ _ _ _ us ws h1 h2 => match us, ws, h1, h2 with | [u0, u1], [], _, _ => rfl) (fun _ => .nil) rfl c.g__law_pick c.F__law_pick.kp (dos_cons (do_vr 0) (dos_cons (do_tm de_int) dos_nil)))))) hN)
        (dss_cons (ms2 := [.pr, .sh, .sh, .sh, .sh, .sh, .ow]) (ds_asg (m := .ow) 6 (de_lst (dos_cons (do_tm (de_bin DI.op_addD gAdd_ok (do_tm de_int) (do_tm (de_call (kinds := [.ln 0, .sh]) (g__law_pick c) (hr.mono (by decide)) am (cb_0 c.F__law_pick 2 [] [0, 1] fun _ _ _ _ _ _ us ws h1 h2 => match us, ws, h1, h2 with | [u0, u1], [], _, _ => rfl) (fun _ => .nil) rfl c.g__law_pick c.F__law_pick.kp (dos_cons (do_vr 0) (dos_cons (do_tm (de_var 2)) dos_nil)))))) (dos_cons (do_tm (de_bin DI.op_mulD gMul_ok (do_tm (de_var 5)) (do_tm (de_bin DI.op_addD gAdd_ok (do_tm de_int) (do_tm (de_call (kinds := [.ln 0, .sh]) (g__law_pick c) (hr.mono (by decide)) am (cb_0 c.F__law_pick 2 [] [0, 1] fun _ _ _ _ _ _ us ws h1 h2 => match us, ws, h1, h2 with | [u0, u1], [], _, _ => rfl) (fun _ => .nil) rfl c.g__law_pick c.F__law_pick.kp (dos_cons (do_vr 0) (dos_cons (do_tm de_int) dos_nil)))))))) dos_nil))) hN)
        (dss_cons (ms2 := [.pr, .sh, .sh, .sh, .sh, .sh, .ow]) (ds_set 6 (de_bin DI.op_addD gAdd_ok (do_tm (de_ix L2.ix_seq gIx_ok (do_vr 6) (do_tm de_int))) (do_tm (de_call (kinds := [.ln 0, .sh]) (g__law_pick c) (hr.mono (by decide)) am (cb_0 c.F__law_pick 2 [] [0, 1] fun _ _ _ _ _ _ us ws h1 h2 => match us, ws, h1, h2 with | [u0, u1], [], _, _ => rfl) (fun _ => .nil) rfl c.g__law_pick c.F__law_pick.kp (dos_cons (do_vr 0) (dos_cons (do_tm (de_bin DI.op_addD gAdd_ok (do_tm (de_var 5)) (do_tm de_int))) dos_nil))))) de_int)
        (dss_cons (ms2 := [.pr, .sh, .sh, .sh, .sh, .sh, .ow]) (ds_asg (m := .ow) 6 (de_bin DI.op_addD gAdd_ok (do_vr 6) (do_tm (de_lst (dos_cons (do_tm (de_bin DI.op_addD gAdd_ok (do_tm (de_bin DI.op_addD gAdd_ok (do_tm (de_var 5)) (do_tm (de_callB (L2.cr_sum rfl) gSum_ok rfl c.n_sum boot_sum (dos_cons (do_tm (de_sl11 (do_tm (de_var 3)) de_int (do_tm de_int))) dos_nil))))) (do_tm (de_call (kinds := [.ln 0, .sh]) (g__law_pick c) (hr.mono (by decide)) am (cb_0 c.F__law_pick 2 [] [0, 1] fun _ _ _ _ _ _ us ws h1 h2 => match us, ws, h1, h2 with | [u0, u1], [], _, _ => rfl) (fun _ => .nil) rfl c.g__law_pick c.F__law_pick.kp (dos_cons (do_vr 0) (dos_cons (do_tm de_int) dos_nil)))))) (dos_cons (do_tm (de_var 5)) dos_nil))))) hN)
        (dss_one (ds_asg (m := .sh) 3 (de_bin DI.op_addD gAdd_ok (do_tm (de_lst (dos_cons (do_tm (de_callB (L2.call_max2 rfl) gMax2_ok rfl c.n_max boot_max (dos_cons (do_tm de_int) (dos_cons (do_tm (de_callB (L2.call_min2 rfl) gMin2_ok rfl c.n_min boot_min (dos_cons (do_tm (de_var 2)) (dos_cons (do_tm (de_ix L2.ix_seq gIx_ok (do_vr 6) (do_tm (de_bin L2.op_mod gMod_ok (do_tm (de_call (kinds := [.ln 0, .sh]) (g__law_pick c) (hr.mono (by decide)) am (cb_0 c.F__law_pick 2 [] [0, 1] fun _ _ _ _ _ _ us ws h1 h2 => match us, ws, h1, h2 with | [u0, u1], [], _, _ => rfl) (fun _ => .nil) rfl c.g__law_pick c.F__law_pick.kp (dos_cons (do_vr 0) (dos_cons (do_tm de_int) dos_nil)))) (do_tm de_int))))) dos_nil)))) dos_nil)))) dos_nil))) (do_tm (de_var 3))) hN)))))) (passes_of rfl) rfl)
      (dss_one (ds_ret (de_var 3))))))
theorem sc__law_wrapped : FnScope ["plan", "span", "found", "most", "shorter", "part", "full", "rest"] ["plan", "span"] (defScope s__law_wrapped) := ⟨rfl, rfl, rfl, by decide +kernel, rfl, by decide +kernel, by decide +kernel⟩
theorem g__law_wrapped (c : Say K mg) : FnG P w K mg base 1 c.a__law_wrapped c.d__law_wrapped ["plan", "span"] (spF K mg [.sh, .sh] .sh F__law_wrapped) :=
  fn_g (N := ["plan", "span", "found", "most", "shorter", "part", "full", "rest"]) (ms' := [.sh, .sh, .sh, .sh, .sh, .sh, .sh, .sh]) (B := []) (ls := [.sh, .sh, .sh, .sh, .sh, .sh]) c.F__law_wrapped sc__law_wrapped rfl rfl (by decide) rfl fun cdv A outer s H E hr am => by
    have hN : (["plan", "span", "found", "most", "shorter", "part", "full", "rest"] : List Str).Nodup := sc__law_wrapped.nd
    exact (
      (dss_cons (ms2 := [.sh, .sh, .sh, .sh, .sh, .sh, .sh, .sh]) (ds_asg (m := .sh) 2 (de_bin DI.op_mulD gMul_ok (do_tm (de_lst (dos_cons (do_tm (de_var 1)) dos_nil))) (do_tm (de_callTy L2.call_int1 gInt_ok rfl c.n_int boot_int (dos_cons (do_tm (de_cmp L2.op_gt gGt_ok (do_tm (de_var 1)) (do_tm de_int))) dos_nil)))) hN)
      (dss_cons (ms2 := [.sh, .sh, .sh, .sh, .sh, .sh, .sh, .sh]) (ds_for (di_lst (de_var 0)) (pg_nm 3 hN)
        (dss_cons (ms2 := [.sh, .sh, .sh, .sh, .sh, .sh, .sh, .sh]) (ds_asg (m := .sh) 4 (de_lst dos_nil) hN)
        (dss_cons (ms2 := [.sh, .sh, .sh, .sh, .sh, .sh, .sh, .sh]) (ds_for (di_lst (de_var 2)) (pg_nm 5 hN)
          (dss_cons (ms2 := [.sh, .sh, .sh, .sh, .sh, .sh, .sh, .sh]) (ds_unp (de_callB L2.call_divmod gDivmod_ok rfl c.n_divmod boot_divmod (dos_cons (do_tm (de_bin L2.op_sub gSub_ok (do_tm (de_var 5)) (do_tm de_int))) (dos_cons (do_tm (de_var 3)) dos_nil))) (L2.pg_tup rfl (L2.pgs_cons (L2.pg_name (i := 6) hN rfl (by first | exact .inl rfl | exact .inr rfl) (by first | exact .inl rfl | exact .inr rfl)) (L2.pgs_cons (L2.pg_name (i := 7) hN rfl (by first | exact .inl rfl | exact .inr rfl) (by first | exact .inl rfl | exact .inr rfl)) L2.pgs_nil))))
          (dss_one (ds_asg (m := .sh) 4 (de_bin DI.op_addD gAdd_ok (do_tm (de_bin DI.op_addD gAdd_ok (do_tm (de_var 4)) (do_tm (de_bin DI.op_mulD gMul_ok (do_tm (de_lst (dos_cons (do_tm (de_var 3)) dos_nil))) (do_tm (de_var 6)))))) (do_tm (de_lst (dos_cons (do_tm (de_bin DI.op_addD gAdd_ok (do_tm (de_var 7)) (do_tm de_int))) dos_nil)))) hN))) (passes_of rfl) rfl)
        (dss_one (ds_asg (m := .sh) 2 (de_var 4) hN)))) (passes_of rfl) rfl)
      (dss_one (ds_ret (de_var 2))))))
theorem sc__law_near : FnScope ["plan", "found", "begin", "part"] ["plan"] (defScope s__law_near) := ⟨rfl, rfl, rfl, by decide +kernel, rfl, by decide +kernel, by decide +kernel⟩
theorem g__law_near (c : Say K mg) : FnG P w K mg base 2 c.a__law_near c.d__law_near ["plan"] (spF K mg [.sh] .sh F__law_near) :=
  fn_g (N := ["plan", "found", "begin", "part"]) (ms' := [.sh, .sh, .sh, .sh]) (B := []) (ls := [.ow, .sh, .sh]) c.F__law_near sc__law_near rfl rfl (by decide) rfl fun cdv A outer s H E hr am => by
    have hN : (["plan", "found", "begin", "part"] : List Str).Nodup := sc__law_near.nd
    exact (
      (dss_cons (ms2 := [.sh, .ow, .sh, .sh]) (ds_par (m1 := .ow) (m2 := .sh) 1 2 (de_lst dos_nil) de_int hN rfl)
      (dss_cons (ms2 := [.sh, .ow, .sh, .sh]) (ds_for (di_lst (de_call (kinds := [.sh, .sh]) (g__law_wrapped c) (hr.mono (by decide)) am (cb_0 c.F__law_wrapped 2 [] [0, 1] fun _ _ _ _ _ _ us ws h1 h2 => match us, ws, h1, h2 with | [u0, u1], [], _, _ => rfl) (fun _ => .nil) rfl c.g__law_wrapped c.F__law_wrapped.kp (dos_cons (do_tm (de_var 0)) (dos_cons (do_tm de_int) dos_nil)))) (pg_nm 3 hN)
        (dss_cons (ms2 := [.sh, .ow, .sh, .sh]) (ds_expr (de_mut 1 PySem.F.slot_list_append rfl L2.mt_append mApp_ok (dos_cons (do_tm (de_var 2)) dos_nil)))
        (dss_one (ds_asg (m := .sh) 2 (de_bin DI.op_addD gAdd_ok (do_tm (de_var 2)) (do_tm (de_var 3))) hN))) (passes_of rfl) rfl)
      (dss_share 1 rfl (dss_one (ds_ret (de_var 1)))))))
theorem sc_is_integer : FnScope ["value", "low", "high"] ["value", "low", "high"] (defScope s_is_integer) := ⟨rfl, rfl, rfl, by decide +kernel, rfl, by decide +kernel, by decide +kernel⟩
theorem g_is_integer (c : Say K mg) : FnG P w K mg base 1 c.a_is_integer c.d_is_integer ["value", "low", "high"] (spF K mg [.sh, .sh, .sh] .sh F_is_integer) :=
  fn_g (N := ["value", "low", "high"]) (ms' := [.sh, .sh, .sh]) (B := []) (ls := []) c.F_is_integer sc_is_integer rfl rfl (by decide) rfl fun cdv A outer s H E hr am => by
    have hN : (["value", "low", "high"] : List Str).Nodup := sc_is_integer.nd
    exact (
      (dss_one (ds_ret (de_and (de_callB L2.call_isi gIsi_ok rfl c.n_isinstance boot_isinstance (dos_cons (do_tm (de_var 0)) (dos_cons (do_tm (de_ty rfl c.n_int boot_int)) dos_nil))) (de_and (de_not (de_callB L2.call_isi gIsi_ok rfl c.n_isinstance boot_isinstance (dos_cons (do_tm (de_var 0)) (dos_cons (do_tm (de_ty rfl c.n_bool boot_bool)) dos_nil)))) (de_one (de_chain L2.op_le L2.op_le gLe_ok gLe_ok (de_var 1) (de_var 0) (de_var 2))))))))
theorem sc_is_width : FnScope ["value"] ["value"] (defScope s_is_width) := ⟨rfl, rfl, rfl, by decide +kernel, rfl, by decide +kernel, by decide +kernel⟩
theorem g_is_width (c : Say K mg) : FnG P w K mg base 2 c.a_is_width c.d_is_width ["value"] (spF K mg [.sh] .sh F_is_width) :=
  fn_g (N := ["value"]) (ms' := [.sh]) (B := []) (ls := []) c.F_is_width sc_is_width rfl rfl (by decide) rfl fun cdv A outer s H E hr am => by
    have hN : (["value"] : List Str).Nodup := sc_is_width.nd
    exact (
      (dss_one (ds_ret (de_call (kinds := [.sh, .sh, .sh]) (g_is_integer c) (hr.mono (by decide)) am (cb_0 c.F_is_integer 3 [] [0, 1, 2] fun _ _ _ _ _ _ us ws h1 h2 => match us, ws, h1, h2 with | [u0, u1, u2], [], _, _ => rfl) (fun _ => .nil) rfl c.g_is_integer c.F_is_integer.kp (dos_cons (do_tm (de_var 0)) (dos_cons (do_tm de_int) (dos_cons (do_tm (de_gInt rfl c.i_MAX_WIDTH)) dos_nil)))))))
theorem sc_is_widths : FnScope ["value", "width"] ["value"] (defScope s_is_widths) := ⟨rfl, rfl, rfl, by decide +kernel, rfl, by decide +kernel, by decide +kernel⟩
theorem g_is_widths (c : Say K mg) : FnG P w K mg base 3 c.a_is_widths c.d_is_widths ["value"] (spF K mg [.sh] .sh F_is_widths) :=
  fn_g (N := ["value", "width"]) (ms' := [.sh, .sh]) (B := []) (ls := [.sh]) c.F_is_widths sc_is_widths rfl rfl (by decide) rfl fun cdv A outer s H E hr am => by
    have hN : (["value", "width"] : List Str).Nodup := sc_is_widths.nd
    exact (
      (dss_one (ds_ret (de_and (de_callB L2.call_isi gIsi_ok rfl c.n_isinstance boot_isinstance (dos_cons (do_tm (de_var 0)) (dos_cons (do_tm (de_ty rfl c.n_list boot_list)) dos_nil))) (de_one (de_callB (L2.cr_all rfl) gAll_ok rfl c.n_all boot_all (dos_cons (do_tm (de_lc (own := [("width", 1)]) (di_lst (de_var 0)) (blkOk_by (N := ["value", "width"]) (sc := defScope s_is_widths) (by decide +kernel)) (fun _ _ _ _ _ => (pg_nm 1 hN)) (fun _ _ _ _ _ => dts_nil) (fun _ _ _ _ _ => (de_call (kinds := [.sh]) (g_is_width c) (hr.mono (by decide)) am (cb_0 c.F_is_width 1 [] [0] fun _ _ _ _ _ _ us ws h1 h2 => match us, ws, h1, h2 with | [u0], [], _, _ => rfl) (fun _ => .nil) rfl c.g_is_width c.F_is_width.kp (dos_cons (do_tm (de_var 1)) dos_nil))) rfl hN)) dos_nil)))))))
theorem sc_require_widths : FnScope ["widths"] ["widths"] (defScope s_require_widths) := ⟨rfl, rfl, rfl, by decide +kernel, rfl, by decide +kernel, by decide +kernel⟩
theorem g_require_widths (c : Say K mg) : FnG P w K mg base 4 c.a_require_widths c.d_require_widths ["widths"] (spF K mg [.sh] .sh F_require_widths) :=
  fn_g (N := ["widths"]) (ms' := [.sh]) (B := []) (ls := []) c.F_require_widths sc_require_widths rfl rfl (by decide) rfl fun cdv A outer s H E hr am => by
    have hN : (["widths"] : List Str).Nodup := sc_require_widths.nd
    exact (
      (dss_one (ds_if (dt_not (dt_val (de_call (kinds := [.sh]) (g_is_widths c) (hr.mono (by decide)) am (cb_0 c.F_is_widths 1 [] [0] fun _ _ _ _ _ _ us ws h1 h2 => match us, ws, h1, h2 with | [u0], [], _, _ => rfl) (fun _ => .nil) rfl c.g_is_widths c.F_is_widths.kp (dos_cons (do_tm (de_var 0)) dos_nil))))
        (dss_one ds_stuck)
        dss_nil)))
theorem sc_count_with : FnScope ["widths", "totals", "length", "size", "found", "width", "total", "blocks"] ["widths", "totals", "length", "size"] (defScope s_count_with) := ⟨rfl, rfl, rfl, by decide +kernel, rfl, by decide +kernel, by decide +kernel⟩
theorem g_count_with (c : Say K mg) : FnG P w K mg base 1 c.a_count_with c.d_count_with ["widths", "totals", "length", "size"] (spF K mg [.sh, .sh, .sh, .sh] .sh F_count_with) :=
  fn_g (N := ["widths", "totals", "length", "size", "found", "width", "total", "blocks"]) (ms' := [.sh, .sh, .sh, .sh, .sh, .sh, .sh, .sh]) (B := []) (ls := [.sh, .sh, .sh, .sh]) c.F_count_with sc_count_with rfl rfl (by decide) rfl fun cdv A outer s H E hr am => by
    have hN : (["widths", "totals", "length", "size", "found", "width", "total", "blocks"] : List Str).Nodup := sc_count_with.nd
    exact (
      (dss_cons (ms2 := [.sh, .sh, .sh, .sh, .sh, .sh, .sh, .sh]) (ds_asg (m := .sh) 4 de_int hN)
      (dss_cons (ms2 := [.sh, .sh, .sh, .sh, .sh, .sh, .sh, .sh]) (ds_for (di_zip rfl c.n_zip (dos_cons (do_tm (de_var 0)) (dos_cons (do_tm (de_var 1)) dos_nil))) (L2.pg_tup rfl (L2.pgs_cons (L2.pg_name (i := 5) hN rfl (by first | exact .inl rfl | exact .inr rfl) (by first | exact .inl rfl | exact .inr rfl)) (L2.pgs_cons (L2.pg_name (i := 6) hN rfl (by first | exact .inl rfl | exact .inr rfl) (by first | exact .inl rfl | exact .inr rfl)) L2.pgs_nil)))
        (dss_cons (ms2 := [.sh, .sh, .sh, .sh, .sh, .sh, .sh, .sh]) (ds_unp (de_callB L2.call_divmod gDivmod_ok rfl c.n_divmod boot_divmod (dos_cons (do_tm (de_var 2)) (dos_cons (do_tm (de_var 5)) dos_nil))) (L2.pg_tup rfl (L2.pgs_cons (L2.pg_name (i := 7) hN rfl (by first | exact .inl rfl | exact .inr rfl) (by first | exact .inl rfl | exact .inr rfl)) (L2.pgs_cons (L2.pg_name (i := 2) hN rfl (by first | exact .inl rfl | exact .inr rfl) (by first | exact .inl rfl | exact .inr rfl)) L2.pgs_nil))))
        (dss_one (ds_aug 4 L2.iop_add gAddI_ok (de_bin DI.op_mulD gMul_ok (do_tm (de_var 7)) (do_tm (de_var 6))) hN))) (passes_of rfl) rfl)
      (dss_one (ds_ret (de_bin DI.op_addD gAdd_ok (do_tm (de_var 4)) (do_tm (de_callTy L2.call_int1 gInt_ok rfl c.n_int boot_int (dos_cons (do_tm (de_and (de_cmp L2.op_gt gGt_ok (do_tm (de_var 2)) (do_tm de_int)) (de_one (de_or (de_cmp DI.op_isD gIs_ok (do_tm (de_var 3)) (do_tm de_non)) (de_one (de_cmp (DI.op_eqX hr.units) gEq_ok (do_tm (de_var 2)) (do_tm (de_var 3)))))))) dos_nil)))))))))
theorem sc_block_totals : FnScope ["widths", "size", "totals", "index"] ["widths", "size"] (defScope s_block_totals) := ⟨rfl, rfl, rfl, by decide +kernel, rfl, by decide +kernel, by decide +kernel⟩
theorem g_block_totals (c : Say K mg) : FnG P w K mg base 2 c.a_block_totals c.d_block_totals ["widths", "size"] (spF K mg [.sh, .sh] .sh F_block_totals) :=
  fn_g (N := ["widths", "size", "totals", "index"]) (ms' := [.sh, .sh, .sh, .sh]) (B := []) (ls := [.ow, .sh]) c.F_block_totals sc_block_totals rfl rfl (by decide) rfl fun cdv A outer s H E hr am => by
    have hN : (["widths", "size", "totals", "index"] : List Str).Nodup := sc_block_totals.nd
    exact (
      (dss_cons (ms2 := [.sh, .sh, .ow, .sh]) (ds_asg (m := .ow) 2 (de_lst dos_nil) hN)
      (dss_cons (ms2 := [.sh, .sh, .ow, .sh]) (ds_for (di_rm rfl c.n_range (dos_cons (do_tm (de_bin L2.op_sub gSub_ok (do_tm (de_callB L2.call_len gLen_ok rfl c.n_len boot_len (dos_cons (do_tm (de_var 0)) dos_nil))) (do_tm de_int))) (dos_cons (do_tm (de_un L2.un_neg gNeg_ok (do_tm de_int))) (dos_cons (do_tm (de_un L2.un_neg gNeg_ok (do_tm de_int))) dos_nil)))) (pg_nm 3 hN)
        (dss_one (ds_expr (de_mut 2 PySem.F.slot_list_insert rfl L2.mt_insert mIns_ok (dos_cons (do_tm de_int) (dos_cons (do_tm (de_call (kinds := [.sh, .bo 2, .sh, .sh]) (g_count_with c) (hr.mono (by decide)) am (cb_0 c.F_count_with 4 [] [0, 1, 2, 3] fun _ _ _ _ _ _ us ws h1 h2 => match us, ws, h1, h2 with | [u0, u1, u2, u3], [], _, _ => rfl) (fun _ => .nil) rfl c.g_count_with c.F_count_with.kp (dos_cons (do_tm (de_sl10 (do_tm (de_var 0)) (do_tm (de_bin DI.op_addD gAdd_ok (do_tm (de_var 3)) (do_tm de_int))))) (dos_cons (do_vr 2) (dos_cons (do_tm (de_ix L2.ix_seq gIx_ok (do_tm (de_var 0)) (do_tm (de_var 3)))) (dos_cons (do_tm (de_var 1)) dos_nil)))))) dos_nil))))) (passes_of rfl) rfl)
      (dss_share 2 rfl (dss_one (ds_ret (de_var 2)))))))
theorem sc_break_at : FnScope ["widths", "index", "position", "width", "total", "blocks"] ["widths", "index"] (defScope s_break_at) := ⟨rfl, rfl, rfl, by decide +kernel, rfl, by decide +kernel, by decide +kernel⟩
theorem g_break_at (c : Say K mg) : FnG P w K mg base 3 c.a_break_at c.d_break_at ["widths", "index"] (spF K mg [.sh, .sh] .sh F_break_at) :=
  fn_g (N := ["widths", "index", "position", "width", "total", "blocks"]) (ms' := [.sh, .sh, .sh, .sh, .sh, .sh]) (B := []) (ls := [.sh, .sh, .sh, .sh]) c.F_break_at sc_break_at rfl rfl (by decide) rfl fun cdv A outer s H E hr am => by
    have hN : (["widths", "index", "position", "width", "total", "blocks"] : List Str).Nodup := sc_break_at.nd
    exact (
      (dss_cons (ms2 := [.sh, .sh, .sh, .sh, .sh, .sh]) (ds_asg (m := .sh) 2 de_int hN)
      (dss_cons (ms2 := [.sh, .sh, .sh, .sh, .sh, .sh]) (ds_for (di_zip rfl c.n_zip (dos_cons (do_tm (de_var 0)) (dos_cons (do_tm (de_call (kinds := [.sh, .sh]) (g_block_totals c) (hr.mono (by decide)) am (cb_d c.F_block_totals 1 [] [0, 1] (by decide) fun _ _ _ _ _ _ _ us ws its h1 h2 h3 => match us, ws, its, h1, h2, h3 with | [u0], [], [d0], _, _, _ => ⟨_, rfl, rfl⟩) (fun _ => (.cons .non .nil)) rfl c.g_block_totals c.F_block_totals.kp (dos_cons (do_tm (de_var 0)) dos_nil))) dos_nil))) (L2.pg_tup rfl (L2.pgs_cons (L2.pg_name (i := 3) hN rfl (by first | exact .inl rfl | exact .inr rfl) (by first | exact .inl rfl | exact .inr rfl)) (L2.pgs_cons (L2.pg_name (i := 4) hN rfl (by first | exact .inl rfl | exact .inr rfl) (by first | exact .inl rfl | exact .inr rfl)) L2.pgs_nil)))
        (dss_cons (ms2 := [.sh, .sh, .sh, .sh, .sh, .sh]) (ds_unp (de_callB L2.call_divmod gDivmod_ok rfl c.n_divmod boot_divmod (dos_cons (do_tm (de_var 1)) (dos_cons (do_tm (de_var 4)) dos_nil))) (L2.pg_tup rfl (L2.pgs_cons (L2.pg_name (i := 5) hN rfl (by first | exact .inl rfl | exact .inr rfl) (by first | exact .inl rfl | exact .inr rfl)) (L2.pgs_cons (L2.pg_name (i := 1) hN rfl (by first | exact .inl rfl | exact .inr rfl) (by first | exact .inl rfl | exact .inr rfl)) L2.pgs_nil))))
        (dss_one (ds_aug 2 L2.iop_add gAddI_ok (de_bin DI.op_mulD gMul_ok (do_tm (de_var 5)) (do_tm (de_var 3))) hN))) (passes_of rfl) rfl)
      (dss_one (ds_ret (de_var 2))))))
theorem sc_effective_of : FnScope ["widths", "found", "width"] ["widths"] (defScope s_effective_of) := ⟨rfl, rfl, rfl, by decide +kernel, rfl, by decide +kernel, by decide +kernel⟩
theorem g_effective_of (c : Say K mg) : FnG P w K mg base 1 c.a_effective_of c.d_effective_of ["widths"] (spF K mg [.sh] .sh F_effective_of) :=
  fn_g (N := ["widths", "found", "width"]) (ms' := [.sh, .sh, .sh]) (B := []) (ls := [.ow, .sh]) c.F_effective_of sc_effective_of rfl rfl (by decide) rfl fun cdv A outer s H E hr am => by
    have hN : (["widths", "found", "width"] : List Str).Nodup := sc_effective_of.nd
    exact (
      (dss_cons (ms2 := [.sh, .ow, .sh]) (ds_asg (m := .ow) 1 (de_lst dos_nil) hN)
      (dss_cons (ms2 := [.sh, .ow, .sh]) (ds_for (di_lst (de_var 0)) (pg_nm 2 hN)
        (dss_one (ds_if (dw_pt (dw_or (dt_cmp (DI.op_eqX hr.units) gEq_ok (do_vr 1) (do_tm (de_lst dos_nil))) (dw_or1 (dt_cmp L2.op_lt gLt_ok (do_tm (de_var 2)) (do_tm (de_ix L2.ix_seq gIx_ok (do_vr 1) (do_tm (de_un L2.un_neg gNeg_ok (do_tm de_int)))))))))
          (dss_one (ds_expr (de_mut 1 PySem.F.slot_list_append rfl L2.mt_append mApp_ok (dos_cons (do_tm (de_var 2)) dos_nil))))
          dss_nil)) (passes_of rfl) rfl)
      (dss_share 1 rfl (dss_one (ds_ret (de_var 1)))))))
theorem sc_nth_break : FnScope ["widths", "index"] ["widths", "index"] (defScope s_nth_break) := ⟨rfl, rfl, rfl, by decide +kernel, rfl, by decide +kernel, by decide +kernel⟩
theorem g_nth_break (c : Say K mg) : FnG P w K mg base 5 c.a_nth_break c.d_nth_break ["widths", "index"] (spF K mg [.sh, .sh] .sh F_nth_break) :=
  fn_g (N := ["widths", "index"]) (ms' := [.sh, .sh]) (B := []) (ls := []) c.F_nth_break sc_nth_break rfl rfl (by decide) rfl fun cdv A outer s H E hr am => by
    have hN : (["widths", "index"] : List Str).Nodup := sc_nth_break.nd
    exact (
      (dss_cons (ms2 := [.sh, .sh]) (ds_expr (de_call (kinds := [.sh]) (g_require_widths c) (hr.mono (by decide)) am (cb_0 c.F_require_widths 1 [] [0] fun _ _ _ _ _ _ us ws h1 h2 => match us, ws, h1, h2 with | [u0], [], _, _ => rfl) (fun _ => .nil) rfl c.g_require_widths c.F_require_widths.kp (dos_cons (do_tm (de_var 0)) dos_nil)))
      (dss_cons (ms2 := [.sh, .sh]) (ds_if (dw_pt (dw_or (dt_not (dt_val (de_call (kinds := [.sh, .sh, .sh]) (g_is_integer c) (hr.mono (by decide)) am (cb_0 c.F_is_integer 3 [] [0, 1, 2] fun _ _ _ _ _ _ us ws h1 h2 => match us, ws, h1, h2 with | [u0, u1, u2], [], _, _ => rfl) (fun _ => .nil) rfl c.g_is_integer c.F_is_integer.kp (dos_cons (do_tm (de_var 1)) (dos_cons (do_tm de_int) (dos_cons (do_tm (de_gInt rfl c.i_MAX_LENGTH)) dos_nil)))))) (dw_or1 (dw_pt (dw_and (dt_cmp (DI.op_eqX hr.units) gEq_ok (do_tm (de_var 0)) (do_tm (de_lst dos_nil))) (dw_and1 (dt_cmp L2.op_gt gGt_ok (do_tm (de_var 1)) (do_tm de_int))))))))
        (dss_one ds_stuck)
        dss_nil)
      (dss_one (ds_ret (de_call (kinds := [.sh, .sh]) (g_break_at c) (hr.mono (by decide)) am (cb_0 c.F_break_at 2 [] [0, 1] fun _ _ _ _ _ _ us ws h1 h2 => match us, ws, h1, h2 with | [u0, u1], [], _, _ => rfl) (fun _ => .nil) rfl c.g_break_at c.F_break_at.kp (dos_cons (do_tm (de_call (kinds := [.sh]) (g_effective_of c) (hr.mono (by decide)) am (cb_0 c.F_effective_of 1 [] [0] fun _ _ _ _ _ _ us ws h1 h2 => match us, ws, h1, h2 with | [u0], [], _, _ => rfl) (fun _ => .nil) rfl c.g_effective_of c.F_effective_of.kp (dos_cons (do_tm (de_var 0)) dos_nil))) (dos_cons (do_tm (de_var 1)) dos_nil))))))))
theorem sc_require_position : FnScope ["position"] ["position"] (defScope s_require_position) := ⟨rfl, rfl, rfl, by decide +kernel, rfl, by decide +kernel, by decide +kernel⟩
theorem g_require_position (c : Say K mg) : FnG P w K mg base 2 c.a_require_position c.d_require_position ["position"] (spF K mg [.sh] .sh F_require_position) :=
  fn_g (N := ["position"]) (ms' := [.sh]) (B := []) (ls := []) c.F_require_position sc_require_position rfl rfl (by decide) rfl fun cdv A outer s H E hr am => by
    have hN : (["position"] : List Str).Nodup := sc_require_position.nd
    exact (
      (dss_one (ds_if (dt_not (dt_val (de_call (kinds := [.sh, .sh, .sh]) (g_is_integer c) (hr.mono (by decide)) am (cb_0 c.F_is_integer 3 [] [0, 1, 2] fun _ _ _ _ _ _ us ws h1 h2 => match us, ws, h1, h2 with | [u0, u1, u2], [], _, _ => rfl) (fun _ => .nil) rfl c.g_is_integer c.F_is_integer.kp (dos_cons (do_tm (de_var 0)) (dos_cons (do_tm de_int) (dos_cons (do_tm (de_gInt rfl c.i_MAX_LENGTH)) dos_nil))))))
        (dss_one ds_stuck)
        dss_nil)))
theorem sc_column_of : FnScope ["widths", "position", "width"] ["widths", "position"] (defScope s_column_of) := ⟨rfl, rfl, rfl, by decide +kernel, rfl, by decide +kernel, by decide +kernel⟩
theorem g_column_of (c : Say K mg) : FnG P w K mg base 1 c.a_column_of c.d_column_of ["widths", "position"] (spF K mg [.sh, .sh] .sh F_column_of) :=
  fn_g (N := ["widths", "position", "width"]) (ms' := [.sh, .sh, .sh]) (B := []) (ls := [.sh]) c.F_column_of sc_column_of rfl rfl (by decide) rfl fun cdv A outer s H E hr am => by
    have hN : (["widths", "position", "width"] : List Str).Nodup := sc_column_of.nd
    exact (
      (dss_cons (ms2 := [.sh, .sh, .sh]) (ds_for (di_lst (de_var 0)) (pg_nm 2 hN)
        (dss_one (ds_aug 1 L2.iop_mod gModI_ok (de_var 2) hN)) (passes_of rfl) rfl)
      (dss_one (ds_ret (de_var 1)))))
theorem sc_column : FnScope ["widths", "position"] ["widths", "position"] (defScope s_column) := ⟨rfl, rfl, rfl, by decide +kernel, rfl, by decide +kernel, by decide +kernel⟩
theorem g_column (c : Say K mg) : FnG P w K mg base 5 c.a_column c.d_column ["widths", "position"] (spF K mg [.sh, .sh] .sh F_column) :=
  fn_g (N := ["widths", "position"]) (ms' := [.sh, .sh]) (B := []) (ls := []) c.F_column sc_column rfl rfl (by decide) rfl fun cdv A outer s H E hr am => by
    have hN : (["widths", "position"] : List Str).Nodup := sc_column.nd
    exact (
      (dss_cons (ms2 := [.sh, .sh]) (ds_expr (de_call (kinds := [.sh]) (g_require_widths c) (hr.mono (by decide)) am (cb_0 c.F_require_widths 1 [] [0] fun _ _ _ _ _ _ us ws h1 h2 => match us, ws, h1, h2 with | [u0], [], _, _ => rfl) (fun _ => .nil) rfl c.g_require_widths c.F_require_widths.kp (dos_cons (do_tm (de_var 0)) dos_nil)))
      (dss_cons (ms2 := [.sh, .sh]) (ds_expr (de_call (kinds := [.sh]) (g_require_position c) (hr.mono (by decide)) am (cb_0 c.F_require_position 1 [] [0] fun _ _ _ _ _ _ us ws h1 h2 => match us, ws, h1, h2 with | [u0], [], _, _ => rfl) (fun _ => .nil) rfl c.g_require_position c.F_require_position.kp (dos_cons (do_tm (de_var 1)) dos_nil)))
      (dss_one (ds_ret (de_call (kinds := [.sh, .sh]) (g_column_of c) (hr.mono (by decide)) am (cb_0 c.F_column_of 2 [] [0, 1] fun _ _ _ _ _ _ us ws h1 h2 => match us, ws, h1, h2 with | [u0, u1], [], _, _ => rfl) (fun _ => .nil) rfl c.g_column_of c.F_column_of.kp (dos_cons (do_tm (de_var 0)) (dos_cons (do_tm (de_var 1)) dos_nil))))))))
theorem sc_is_break : FnScope ["widths", "position"] ["widths", "position"] (defScope s_is_break) := ⟨rfl, rfl, rfl, by decide +kernel, rfl, by decide +kernel, by decide +kernel⟩
theorem g_is_break (c : Say K mg) : FnG P w K mg base 6 c.a_is_break c.d_is_break ["widths", "position"] (spF K mg [.sh, .sh] .sh F_is_break) :=
  fn_g (N := ["widths", "position"]) (ms' := [.sh, .sh]) (B := []) (ls := []) c.F_is_break sc_is_break rfl rfl (by decide) rfl fun cdv A outer s H E hr am => by
    have hN : (["widths", "position"] : List Str).Nodup := sc_is_break.nd
    exact (
      (dss_one (ds_ret (de_cmp (DI.op_eqX hr.units) gEq_ok (do_tm (de_call (kinds := [.sh, .sh]) (g_column c) (hr.mono (by decide)) am (cb_0 c.F_column 2 [] [0, 1] fun _ _ _ _ _ _ us ws h1 h2 => match us, ws, h1, h2 with | [u0, u1], [], _, _ => rfl) (fun _ => .nil) rfl c.g_column c.F_column.kp (dos_cons (do_tm (de_var 0)) (dos_cons (do_tm (de_var 1)) dos_nil)))) (do_tm de_int)))))
theorem sc_require_length : FnScope ["length", "least", "greatest"] ["length", "least", "greatest"] (defScope s_require_length) := ⟨rfl, rfl, rfl, by decide +kernel, rfl, by decide +kernel, by decide +kernel⟩
theorem g_require_length (c : Say K mg) : FnG P w K mg base 2 c.a_require_length c.d_require_length ["length", "least", "greatest"] (spF K mg [.sh, .sh, .sh] .sh F_require_length) :=
  fn_g (N := ["length", "least", "greatest"]) (ms' := [.sh, .sh, .sh]) (B := []) (ls := []) c.F_require_length sc_require_length rfl rfl (by decide) rfl fun cdv A outer s H E hr am => by
    have hN : (["length", "least", "greatest"] : List Str).Nodup := sc_require_length.nd
    exact (
      (dss_one (ds_if (dt_not (dt_val (de_call (kinds := [.sh, .sh, .sh]) (g_is_integer c) (hr.mono (by decide)) am (cb_0 c.F_is_integer 3 [] [0, 1, 2] fun _ _ _ _ _ _ us ws h1 h2 => match us, ws, h1, h2 with | [u0, u1, u2], [], _, _ => rfl) (fun _ => .nil) rfl c.g_is_integer c.F_is_integer.kp (dos_cons (do_tm (de_var 0)) (dos_cons (do_tm (de_var 1)) (dos_cons (do_tm (de_var 2)) dos_nil))))))
        (dss_one ds_stuck)
        dss_nil)))
theorem sc_breaks_below : FnScope ["widths", "length"] ["widths", "length"] (defScope s_breaks_below) := ⟨rfl, rfl, rfl, by decide +kernel, rfl, by decide +kernel, by decide +kernel⟩
theorem g_breaks_below (c : Say K mg) : FnG P w K mg base 3 c.a_breaks_below c.d_breaks_below ["widths", "length"] (spF K mg [.sh, .sh] .sh F_breaks_below) :=
  fn_g (N := ["widths", "length"]) (ms' := [.sh, .sh]) (B := []) (ls := []) c.F_breaks_below sc_breaks_below rfl rfl (by decide) rfl fun cdv A outer s H E hr am => by
    have hN : (["widths", "length"] : List Str).Nodup := sc_breaks_below.nd
    exact (
      (dss_one (ds_ret (de_call (kinds := [.sh, .sh, .sh, .sh]) (g_count_with c) (hr.mono (by decide)) am (cb_0 c.F_count_with 4 [] [0, 1, 2, 3] fun _ _ _ _ _ _ us ws h1 h2 => match us, ws, h1, h2 with | [u0, u1, u2, u3], [], _, _ => rfl) (fun _ => .nil) rfl c.g_count_with c.F_count_with.kp (dos_cons (do_tm (de_var 0)) (dos_cons (do_tm (de_call (kinds := [.sh, .sh]) (g_block_totals c) (hr.mono (by decide)) am (cb_d c.F_block_totals 1 [] [0, 1] (by decide) fun _ _ _ _ _ _ _ us ws its h1 h2 h3 => match us, ws, its, h1, h2, h3 with | [u0], [], [d0], _, _, _ => ⟨_, rfl, rfl⟩) (fun _ => (.cons .non .nil)) rfl c.g_block_totals c.F_block_totals.kp (dos_cons (do_tm (de_var 0)) dos_nil))) (dos_cons (do_tm (de_var 1)) (dos_cons (do_tm de_non) dos_nil))))))))
theorem sc_count_pieces : FnScope ["widths", "length"] ["widths", "length"] (defScope s_count_pieces) := ⟨rfl, rfl, rfl, by decide +kernel, rfl, by decide +kernel, by decide +kernel⟩
theorem g_count_pieces (c : Say K mg) : FnG P w K mg base 5 c.a_count_pieces c.d_count_pieces ["widths", "length"] (spF K mg [.sh, .sh] .sh F_count_pieces) :=
  fn_g (N := ["widths", "length"]) (ms' := [.sh, .sh]) (B := []) (ls := []) c.F_count_pieces sc_count_pieces rfl rfl (by decide) rfl fun cdv A outer s H E hr am => by
    have hN : (["widths", "length"] : List Str).Nodup := sc_count_pieces.nd
    exact (
      (dss_cons (ms2 := [.sh, .sh]) (ds_expr (de_call (kinds := [.sh]) (g_require_widths c) (hr.mono (by decide)) am (cb_0 c.F_require_widths 1 [] [0] fun _ _ _ _ _ _ us ws h1 h2 => match us, ws, h1, h2 with | [u0], [], _, _ => rfl) (fun _ => .nil) rfl c.g_require_widths c.F_require_widths.kp (dos_cons (do_tm (de_var 0)) dos_nil)))
      (dss_cons (ms2 := [.sh, .sh]) (ds_expr (de_call (kinds := [.sh, .sh, .sh]) (g_require_length c) (hr.mono (by decide)) am (cb_d c.F_require_length 1 [] [0, 1, 2] (by decide) fun _ _ _ _ _ _ _ us ws its h1 h2 h3 => match us, ws, its, h1, h2, h3 with | [u0], [], [d0, d1], _, _, _ => ⟨_, rfl, rfl⟩) (fun _ => (.cons (.int _) (.cons (.int _) .nil))) rfl c.g_require_length c.F_require_length.kp (dos_cons (do_tm (de_var 1)) dos_nil)))
      (dss_one (ds_ret (de_call (kinds := [.sh, .sh]) (g_breaks_below c) (hr.mono (by decide)) am (cb_0 c.F_breaks_below 2 [] [0, 1] fun _ _ _ _ _ _ us ws h1 h2 => match us, ws, h1, h2 with | [u0, u1], [], _, _ => rfl) (fun _ => .nil) rfl c.g_breaks_below c.F_breaks_below.kp (dos_cons (do_tm (de_call (kinds := [.sh]) (g_effective_of c) (hr.mono (by decide)) am (cb_0 c.F_effective_of 1 [] [0] fun _ _ _ _ _ _ us ws h1 h2 => match us, ws, h1, h2 with | [u0], [], _, _ => rfl) (fun _ => .nil) rfl c.g_effective_of c.F_effective_of.kp (dos_cons (do_tm (de_var 0)) dos_nil))) (dos_cons (do_tm (de_var 1)) dos_nil))))))))
theorem sc_law : FnScope ["script", "k", "numbers", "turn", "plan", "kept", "near", "told", "at", "step", "place", "later"] ["script"] (defScope s_law) := ⟨rfl, rfl, rfl, by decide +kernel, rfl, by decide +kernel, by decide +kernel⟩
theorem g_law (c : Say K mg) : FnG P w K mg base 7 c.a_law c.d_law ["script"] (spF K mg [.sh] .sh F_law) :=
  fn_g (N := ["script", "k", "numbers", "turn", "plan", "kept", "near", "told", "at", "step", "place", "later"]) (ms' := [.sh, .sh, .ow, .sh, .sh, .sh, .sh, .sh, .sh, .sh, .sh, .sh]) (B := []) (ls := [.sh, .ow, .sh, .sh, .sh, .sh, .sh, .sh, .sh, .sh, .sh]) c.F_law sc_law rfl rfl (by decide) rfl fun cdv A outer s H E hr am => by
    have hN : (["script", "k", "numbers", "turn", "plan", "kept", "near", "told", "at", "step", "place", "later"] : List Str).Nodup := sc_law.nd
    exact (
      (dss_cons (ms2 := [.sh, .sh, .ow, .sh, .sh, .sh, .sh, .sh, .sh, .sh, .sh, .sh]) (ds_for (di_r1 rfl c.n_range (dos_cons (do_tm (de_callB (L2.call_max2 rfl) gMax2_ok rfl c.n_max boot_max (dos_cons (do_tm de_int) (dos_cons (do_tm (de_callB (L2.call_min2 rfl) gMin2_ok rfl c.n_min boot_min (dos_cons (do_tm de_int) (dos_cons (do_tm (de_callB L2.call_len gLen_ok rfl c.n_len boot_len (dos_cons (do_tm (de_var 0)) dos_nil))) dos_nil)))) dos_nil)))) dos_nil)) (pg_nm 1 hN)
        (dss_cons (ms2 := [.sh, .sh, .ow, .sh, .sh, .sh, .sh, .sh, .sh, .sh, .sh, .sh]) (ds_asg (m := .ow) 2 (de_call (kinds := [.sh, .sh]) (g__law_numbers c) (hr.mono (by decide)) am (cb_0 c.F__law_numbers 2 [] [0, 1] fun _ _ _ _ _ _ us ws h1 h2 => match us, ws, h1, h2 with | [u0, u1], [], _, _ => rfl) (fun _ => .nil) rfl c.g__law_numbers c.F__law_numbers.kp (dos_cons (do_tm (de_var 0)) (dos_cons (do_tm (de_var 1)) dos_nil))) hN)
        (dss_one (ds_for (di_r1 rfl c.n_range (dos_cons (do_tm de_int) dos_nil)) (pg_nm 3 hN)
          (dss_cons (ms2 := [.sh, .sh, .ow, .sh, .sh, .sh, .sh, .sh, .sh, .sh, .sh, .sh]) (ds_asg (m := .sh) 4 (de_call (kinds := [.ln 2, .sh, .sh]) (g__law_plan c) (hr.mono (by decide)) am (cb_0 c.F__law_plan 3 [] [0, 1, 2] fun _ _ _ _ _ _ us ws h1 h2 => match us, ws, h1, h2 with | [u0, u1, u2], [], _, _ => rfl) (fun _ => .nil) rfl c.g__law_plan c.F__law_plan.kp (dos_cons (do_vr 2) (dos_cons (do_tm de_int) (dos_cons (do_tm (de_ix L2.ix_seq gIx_ok (do_tm (de_lst (dos_cons (do_tm de_int) (dos_cons (do_tm de_int) (dos_cons (do_tm (de_bin DI.op_powW gPow_ok (do_tm de_int) (do_tm de_int))) dos_nil))))) (do_tm (de_call (kinds := [.ln 2, .sh]) (g__law_pick c) (hr.mono (by decide)) am (cb_0 c.F__law_pick 2 [] [0, 1] fun _ _ _ _ _ _ us ws h1 h2 => match us, ws, h1, h2 with | [u0, u1], [], _, _ => rfl) (fun _ => .nil) rfl c.g__law_pick c.F__law_pick.kp (dos_cons (do_vr 2) (dos_cons (do_tm de_int) dos_nil)))))) dos_nil)))) hN)
          (dss_cons (ms2 := [.sh, .sh, .ow, .sh, .sh, .sh, .sh, .sh, .sh, .sh, .sh, .sh]) (ds_asg (m := .sh) 5 (de_callB (call_repr am.guards hr.units) gRepr_ok rfl c.n_repr boot_repr (dos_cons (do_tm (de_var 4)) dos_nil)) hN)
          (dss_cons (ms2 := [.sh, .sh, .ow, .sh, .sh, .sh, .sh, .sh, .sh, .sh, .sh, .sh]) (ds_asg (m := .sh) 6 (de_call (kinds := [.sh]) (g__law_near c) (hr.mono (by decide)) am (cb_0 c.F__law_near 1 [] [0] fun _ _ _ _ _ _ us ws h1 h2 => match us, ws, h1, h2 with | [u0], [], _, _ => rfl) (fun _ => .nil) rfl c.g__law_near c.F__law_near.kp (dos_cons (do_tm (de_var 4)) dos_nil)) hN)
          (dss_cons (ms2 := [.sh, .sh, .ow, .sh, .sh, .sh, .sh, .sh, .sh, .sh, .sh, .sh]) (ds_lc (m := .sh) (own := [("at", 8)]) 7 (di_r1 rfl c.n_range (dos_cons (do_tm (de_callB (L2.call_min2 rfl) gMin2_ok rfl c.n_min boot_min (dos_cons (do_tm de_int) (dos_cons (do_tm (de_callB L2.call_len gLen_ok rfl c.n_len boot_len (dos_cons (do_tm (de_var 6)) dos_nil))) dos_nil)))) dos_nil)) (blkOk_by (N := ["script", "k", "numbers", "turn", "plan", "kept", "near", "told", "at", "step", "place", "later"]) (sc := defScope s_law) (by decide +kernel)) (fun _ _ _ _ _ => (pg_nm 8 hN)) (fun _ _ _ _ _ => dts_nil) (fun _ _ _ _ _ => (de_call (kinds := [.sh, .sh]) (g_nth_break c) (hr.mono (by decide)) am (cb_0 c.F_nth_break 2 [] [0, 1] fun _ _ _ _ _ _ us ws h1 h2 => match us, ws, h1, h2 with | [u0, u1], [], _, _ => rfl) (fun _ => .nil) rfl c.g_nth_break c.F_nth_break.kp (dos_cons (do_tm (de_var 4)) (dos_cons (do_tm (de_var 8)) dos_nil)))) rfl hN (L2.sw_true rfl rfl rfl (by decide +kernel)))
          (dss_cons (ms2 := [.sh, .sh, .ow, .sh, .sh, .sh, .sh, .sh, .sh, .sh, .sh, .sh]) (ds_if (dw_pt (dw_or (dt_cmp (DI.op_neX hr.units) gNe_ok (do_tm (de_callB (call_repr am.guards hr.units) gRepr_ok rfl c.n_repr boot_repr (dos_cons (do_tm (de_var 7)) dos_nil))) (do_tm (de_callB (call_repr am.guards hr.units) gRepr_ok rfl c.n_repr boot_repr (dos_cons (do_tm (de_sl01 (do_tm (de_var 6)) (do_tm de_int))) dos_nil)))) (dw_or1 (dt_cmp (DI.op_neX hr.units) gNe_ok (do_tm (de_callK0 (kinds := [.sh, .sh]) (g_nth_break c) (hr.mono (by decide)) am (cb_0 c.F_nth_break 0 ["index", "widths"] [1, 0] fun _ _ _ _ _ _ us ws h1 h2 => match us, ws, h1, h2 with | [], [w0, w1], _, _ => rfl) (fun _ => .nil) rfl c.g_nth_break c.F_nth_break.kp (.cons (do_tm (de_bin L2.op_sub gSub_ok (do_tm (de_callB L2.call_len gLen_ok rfl c.n_len boot_len (dos_cons (do_tm (de_var 6)) dos_nil))) (do_tm de_int))) (.cons (do_tm (de_var 4)) .nil)))) (do_tm (de_ix L2.ix_seq gIx_ok (do_tm (de_var 6)) (do_tm (de_un L2.un_neg gNeg_ok (do_tm de_int)))))))))
            (dss_one (ds_ret de_bl))
            dss_nil)
          (dss_one (ds_for (di_r1 rfl c.n_range (dos_cons (do_tm (de_bin DI.op_mulD gMul_ok (do_tm de_int) (do_tm (de_callTy L2.call_int1 gInt_ok rfl c.n_int boot_int (dos_cons (do_tm (de_cmp (DI.op_neX hr.units) gNe_ok (do_tm (de_var 4)) (do_tm (de_lst dos_nil)))) dos_nil))))) dos_nil)) (pg_nm 9 hN)
            (dss_cons (ms2 := [.sh, .sh, .ow, .sh, .sh, .sh, .sh, .sh, .sh, .sh, .sh, .sh]) (ds_asg (m := .sh) 8 (de_ix L2.ix_seq gIx_ok (do_tm (de_lst (dos_cons (do_tm (de_call (kinds := [.ln 2, .sh]) (g__law_pick c) (hr.mono (by decide)) am (cb_0 c.F__law_pick 2 [] [0, 1] fun _ _ _ _ _ _ us ws h1 h2 => match us, ws, h1, h2 with | [u0, u1], [], _, _ => rfl) (fun _ => .nil) rfl c.g__law_pick c.F__law_pick.kp (dos_cons (do_vr 2) (dos_cons (do_tm (de_bin DI.op_powW gPow_ok (do_tm de_int) (do_tm de_int))) dos_nil)))) (dos_cons (do_tm (de_call (kinds := [.ln 2, .sh]) (g__law_pick c) (hr.mono (by decide)) am (cb_0 c.F__law_pick 2 [] [0, 1] fun _ _ _ _ _ _ us ws h1 h2 => match us, ws, h1, h2 with | [u0, u1], [], _, _ => rfl) (fun _ => .nil) rfl c.g__law_pick c.F__law_pick.kp (dos_cons (do_vr 2) (dos_cons (do_tm (de_bin DI.op_powW gPow_ok (do_tm de_int) (do_tm de_int))) dos_nil)))) (dos_cons (do_tm (de_bin DI.op_powW gPow_ok (do_tm de_int) (do_tm de_int))) dos_nil))))) (do_tm (de_call (kinds := [.ln 2, .sh]) (g__law_pick c) (hr.mono (by decide)) am (cb_0 c.F__law_pick 2 [] [0, 1] fun _ _ _ _ _ _ us ws h1 h2 => match us, ws, h1, h2 with | [u0, u1], [], _, _ => rfl) (fun _ => .nil) rfl c.g__law_pick c.F__law_pick.kp (dos_cons (do_vr 2) (dos_cons (do_tm de_int) dos_nil))))) hN)
            (dss_cons (ms2 := [.sh, .sh, .ow, .sh, .sh, .sh, .sh, .sh, .sh, .sh, .sh, .sh]) (ds_par (m1 := .sh) (m2 := .sh) 10 11 (de_call (kinds := [.sh, .sh]) (g_nth_break c) (hr.mono (by decide)) am (cb_0 c.F_nth_break 2 [] [0, 1] fun _ _ _ _ _ _ us ws h1 h2 => match us, ws, h1, h2 with | [u0, u1], [], _, _ => rfl) (fun _ => .nil) rfl c.g_nth_break c.F_nth_break.kp (dos_cons (do_tm (de_var 4)) (dos_cons (do_tm (de_var 8)) dos_nil))) (de_call (kinds := [.sh, .sh]) (g_nth_break c) (hr.mono (by decide)) am (cb_0 c.F_nth_break 2 [] [0, 1] fun _ _ _ _ _ _ us ws h1 h2 => match us, ws, h1, h2 with | [u0, u1], [], _, _ => rfl) (fun _ => .nil) rfl c.g_nth_break c.F_nth_break.kp (dos_cons (do_tm (de_var 4)) (dos_cons (do_tm (de_bin DI.op_addD gAdd_ok (do_tm (de_var 8)) (do_tm de_int))) dos_nil))) hN rfl)
            (dss_cons (ms2 := [.sh, .sh, .ow, .sh, .sh, .sh, .sh, .sh, .sh, .sh, .sh, .sh]) (ds_if (dw_pt (dw_or (dt_not (dt_val (de_call (kinds := [.sh, .sh]) (g_is_break c) (hr.mono (by decide)) am (cb_0 c.F_is_break 2 [] [0, 1] fun _ _ _ _ _ _ us ws h1 h2 => match us, ws, h1, h2 with | [u0, u1], [], _, _ => rfl) (fun _ => .nil) rfl c.g_is_break c.F_is_break.kp (dos_cons (do_tm (de_var 4)) (dos_cons (do_tm (de_var 10)) dos_nil))))) (dw_or (dt_cmp (DI.op_neX hr.units) gNe_ok (do_tm (de_call (kinds := [.sh, .sh]) (g_count_pieces c) (hr.mono (by decide)) am (cb_0 c.F_count_pieces 2 [] [0, 1] fun _ _ _ _ _ _ us ws h1 h2 => match us, ws, h1, h2 with | [u0, u1], [], _, _ => rfl) (fun _ => .nil) rfl c.g_count_pieces c.F_count_pieces.kp (dos_cons (do_tm (de_var 4)) (dos_cons (do_tm (de_var 10)) dos_nil)))) (do_tm (de_var 8))) (dw_or1 (dt_cmp L2.op_le gLe_ok (do_tm (de_var 11)) (do_tm (de_var 10)))))))
              (dss_one (ds_ret de_bl))
              dss_nil)
            (dss_one (ds_if (dw_pt (dw_or (dt_cmp (DI.op_neX hr.units) gNe_ok (do_tm (de_call (kinds := [.sh, .sh]) (g_column c) (hr.mono (by decide)) am (cb_0 c.F_column 2 [] [0, 1] fun _ _ _ _ _ _ us ws h1 h2 => match us, ws, h1, h2 with | [u0, u1], [], _, _ => rfl) (fun _ => .nil) rfl c.g_column c.F_column.kp (dos_cons (do_tm (de_var 4)) (dos_cons (do_tm (de_bin L2.op_sub gSub_ok (do_tm (de_var 11)) (do_tm de_int))) dos_nil)))) (do_tm (de_bin L2.op_sub gSub_ok (do_tm (de_bin L2.op_sub gSub_ok (do_tm (de_var 11)) (do_tm de_int))) (do_tm (de_var 10))))) (dw_or1 (dt_cmp (DI.op_neX hr.units) gNe_ok (do_tm (de_callB (call_repr am.guards hr.units) gRepr_ok rfl c.n_repr boot_repr (dos_cons (do_tm (de_var 4)) dos_nil))) (do_tm (de_var 5))))))
              (dss_one (ds_ret de_bl))
              dss_nil))))) (passes_of rfl) rfl))))))) (passes_of rfl) rfl))) (passes_of rfl) rfl)
      (dss_one (ds_ret (de_and (de_cmp (DI.op_eqX hr.units) gEq_ok (do_tm (de_call (kinds := [.sh, .sh]) (g_nth_break c) (hr.mono (by decide)) am (cb_0 c.F_nth_break 2 [] [0, 1] fun _ _ _ _ _ _ us ws h1 h2 => match us, ws, h1, h2 with | [u0, u1], [], _, _ => rfl) (fun _ => .nil) rfl c.g_nth_break c.F_nth_break.kp (dos_cons (do_tm (de_lst dos_nil)) (dos_cons (do_tm de_int) dos_nil)))) (do_tm de_int)) (de_and (de_cmp (DI.op_eqX hr.units) gEq_ok (do_tm (de_call (kinds := [.sh, .sh]) (g_nth_break c) (hr.mono (by decide)) am (cb_0 c.F_nth_break 2 [] [0, 1] fun _ _ _ _ _ _ us ws h1 h2 => match us, ws, h1, h2 with | [u0, u1], [], _, _ => rfl) (fun _ => .nil) rfl c.g_nth_break c.F_nth_break.kp (dos_cons (do_tm (de_lst (dos_cons (do_tm (de_bin DI.op_powW gPow_ok (do_tm de_int) (do_tm de_int))) dos_nil))) (dos_cons (do_tm (de_bin DI.op_powW gPow_ok (do_tm de_int) (do_tm de_int))) dos_nil)))) (do_tm (de_bin DI.op_powW gPow_ok (do_tm de_int) (do_tm de_int)))) (de_one (de_cmp (DI.op_eqX hr.units) gEq_ok (do_tm (de_call (kinds := [.sh, .sh]) (g_nth_break c) (hr.mono (by decide)) am (cb_0 c.F_nth_break 2 [] [0, 1] fun _ _ _ _ _ _ us ws h1 h2 => match us, ws, h1, h2 with | [u0, u1], [], _, _ => rfl) (fun _ => .nil) rfl c.g_nth_break c.F_nth_break.kp (dos_cons (do_tm (de_lst (dos_cons (do_tm de_int) dos_nil))) (dos_cons (do_tm de_int) dos_nil)))) (do_tm de_int)))))))))
end
/-! ### the head -/
def D__law_numbers : He.DefD := ⟨("_law_numbers", none), "_law_numbers", "_law_numbers", defArgs s__law_numbers, defBody s__law_numbers, defScope s__law_numbers, [], []⟩
def D__law_pick : He.DefD := ⟨("_law_pick", none), "_law_pick", "_law_pick", defArgs s__law_pick, defBody s__law_pick, defScope s__law_pick, [], []⟩
def D__law_plan : He.DefD := ⟨("_law_plan", none), "_law_plan", "_law_plan", defArgs s__law_plan, defBody s__law_plan, defScope s__law_plan, [], []⟩
def D__law_wrapped : He.DefD := ⟨("_law_wrapped", none), "_law_wrapped", "_law_wrapped", defArgs s__law_wrapped, defBody s__law_wrapped, defScope s__law_wrapped, [], []⟩
def D__law_near : He.DefD := ⟨("_law_near", none), "_law_near", "_law_near", defArgs s__law_near, defBody s__law_near, defScope s__law_near, [], []⟩
def D_is_integer : He.DefD := ⟨("is_integer", none), "is_integer", "is_integer", defArgs s_is_integer, defBody s_is_integer, defScope s_is_integer, [], []⟩
def D_is_width : He.DefD := ⟨("is_width", none), "is_width", "is_width", defArgs s_is_width, defBody s_is_width, defScope s_is_width, [], []⟩
def D_is_widths : He.DefD := ⟨("is_widths", none), "is_widths", "is_widths", defArgs s_is_widths, defBody s_is_widths, defScope s_is_widths, [], []⟩
def D_require_widths : He.DefD := ⟨("require_widths", none), "require_widths", "require_widths", defArgs s_require_widths, defBody s_require_widths, defScope s_require_widths, [], []⟩
def D_count_with : He.DefD := ⟨("count_with", none), "count_with", "count_with", defArgs s_count_with, defBody s_count_with, defScope s_count_with, [], []⟩
def D_block_totals : He.DefD := ⟨("block_totals", none), "block_totals", "block_totals", defArgs s_block_totals, defBody s_block_totals, defScope s_block_totals, [.non], []⟩
def D_break_at : He.DefD := ⟨("break_at", none), "break_at", "break_at", defArgs s_break_at, defBody s_break_at, defScope s_break_at, [], []⟩
def D_effective_of : He.DefD := ⟨("effective_of", none), "effective_of", "effective_of", defArgs s_effective_of, defBody s_effective_of, defScope s_effective_of, [], []⟩
def D_nth_break : He.DefD := ⟨("nth_break", none), "nth_break", "nth_break", defArgs s_nth_break, defBody s_nth_break, defScope s_nth_break, [], []⟩
def D_require_position : He.DefD := ⟨("require_position", none), "require_position", "require_position", defArgs s_require_position, defBody s_require_position, defScope s_require_position, [], []⟩
def D_column_of : He.DefD := ⟨("column_of", none), "column_of", "column_of", defArgs s_column_of, defBody s_column_of, defScope s_column_of, [], []⟩
def D_column : He.DefD := ⟨("column", none), "column", "column", defArgs s_column, defBody s_column, defScope s_column, [], []⟩
def D_is_break : He.DefD := ⟨("is_break", none), "is_break", "is_break", defArgs s_is_break, defBody s_is_break, defScope s_is_break, [], []⟩
def D_require_length : He.DefD := ⟨("require_length", none), "require_length", "require_length", defArgs s_require_length, defBody s_require_length, defScope s_require_length, [.int 0, .int 1000000000000000000000000000000], []⟩
def D_breaks_below : He.DefD := ⟨("breaks_below", none), "breaks_below", "breaks_below", defArgs s_breaks_below, defBody s_breaks_below, defScope s_breaks_below, [], []⟩
def D_count_pieces : He.DefD := ⟨("count_pieces", none), "count_pieces", "count_pieces", defArgs s_count_pieces, defBody s_count_pieces, defScope s_count_pieces, [], []⟩
def D_law : He.DefD := ⟨("law", none), "law", "law", defArgs s_law, defBody s_law, defScope s_law, [], []⟩
def fn : List He.DefD := [D__law_numbers, D__law_pick, D__law_plan, D__law_wrapped, D__law_near, D_is_integer, D_is_width, D_is_widths, D_require_widths, D_count_with, D_block_totals, D_break_at, D_effective_of, D_nth_break, D_require_position, D_column_of, D_column, D_is_break, D_require_length, D_breaks_below, D_count_pieces, D_law]
def fa : List He.Fa := [.glo "_law_numbers", .glo "_law_pick", .glo "_law_plan", .glo "_law_wrapped", .glo "_law_near", .glo "is_integer", .glo "is_width", .glo "is_widths", .glo "require_widths", .glo "count_with", .glo "block_totals", .glo "break_at", .glo "effective_of", .glo "nth_break", .glo "require_position", .glo "column_of", .glo "column", .glo "is_break", .glo "require_length", .glo "breaks_below", .glo "count_pieces", .glo "law", .free "abs", .free "all", .free "bool", .free "divmod", .free "int", .free "isinstance", .free "len", .free "list", .free "max", .free "min", .free "range", .free "repr", .free "sum", .free "zip", .int "MAX_LENGTH" 1000000000000000000000000000000, .int "MAX_WIDTH" 10000]
def loose : List Str := ["WrapError", "InvalidWidths", "InvalidPosition", "InvalidLength", "InvalidIndex", "MAX_WIDTH", "MAX_LENGTH", "is_integer", "is_width", "is_widths", "require_widths", "require_position", "require_length", "column_of", "effective_of", "column", "is_break", "count_with", "block_totals", "breaks_below", "break_at", "count_pieces", "nth_break", "_law_numbers", "_law_pick", "_law_plan", "_law_wrapped", "_law_near"]
abbrev R : PySem.W.OpenRow := PySem.W.OpenLaw.row PySem.Challenge.rw_hardwraps_k09_breaks_by_index
abbrev hk : PySem.W.Hook := He.hookD 4 fa fn
def ob (s : PySem.W.SharedT) : He.AlD := He.obsDG 4 fa fn (HandSHeadRun.getT s)
theorem ob_eq (s : PySem.W.SharedT) : ob s = hk.obs s.abs := He.obsDG_eq (HandSHeadRun.getT_eq s)
theorem run (w : World) : HandSHeadRun.RunEq R (PySem.W.view R.prog [32]) hk ob 4000 loose w := by
  intro os
  kernel_rfl
theorem facts {K : PySem.W.Frag} {h : Heap} {mg : Str → Option Value} {f : Addr} (X : K.In h) (G : h.Ns mainGlobals mg) (hfa : mg ("law" : Str) = some (.ref f)) (c : He.SaysD fa fn K) :
    ∃ y : Say K mg, y.a_law = f := by
  obtain ⟨d__law_numbers, F__law_numbers⟩ := c.def_ 0 (d := D__law_numbers) rfl
  obtain ⟨d__law_pick, F__law_pick⟩ := c.def_ 1 (d := D__law_pick) rfl
  obtain ⟨d__law_plan, F__law_plan⟩ := c.def_ 2 (d := D__law_plan) rfl
  obtain ⟨d__law_wrapped, F__law_wrapped⟩ := c.def_ 3 (d := D__law_wrapped) rfl
  obtain ⟨d__law_near, F__law_near⟩ := c.def_ 4 (d := D__law_near) rfl
  obtain ⟨d_is_integer, F_is_integer⟩ := c.def_ 5 (d := D_is_integer) rfl
  obtain ⟨d_is_width, F_is_width⟩ := c.def_ 6 (d := D_is_width) rfl
  obtain ⟨d_is_widths, F_is_widths⟩ := c.def_ 7 (d := D_is_widths) rfl
  obtain ⟨d_require_widths, F_require_widths⟩ := c.def_ 8 (d := D_require_widths) rfl
  obtain ⟨d_count_with, F_count_with⟩ := c.def_ 9 (d := D_count_with) rfl
  obtain ⟨d_block_totals, F_block_totals⟩ := c.def_ 10 (d := D_block_totals) rfl
  obtain ⟨d_break_at, F_break_at⟩ := c.def_ 11 (d := D_break_at) rfl
  obtain ⟨d_effective_of, F_effective_of⟩ := c.def_ 12 (d := D_effective_of) rfl
  obtain ⟨d_nth_break, F_nth_break⟩ := c.def_ 13 (d := D_nth_break) rfl
  obtain ⟨d_require_position, F_require_position⟩ := c.def_ 14 (d := D_require_position) rfl
  obtain ⟨d_column_of, F_column_of⟩ := c.def_ 15 (d := D_column_of) rfl
  obtain ⟨d_column, F_column⟩ := c.def_ 16 (d := D_column) rfl
  obtain ⟨d_is_break, F_is_break⟩ := c.def_ 17 (d := D_is_break) rfl
  obtain ⟨d_require_length, F_require_length⟩ := c.def_ 18 (d := D_require_length) rfl
  obtain ⟨d_breaks_below, F_breaks_below⟩ := c.def_ 19 (d := D_breaks_below) rfl
  obtain ⟨d_count_pieces, F_count_pieces⟩ := c.def_ 20 (d := D_count_pieces) rfl
  obtain ⟨d_law, F_law⟩ := c.def_ 21 (d := D_law) rfl
  have e := hfa.symm.trans (He.glo_ok X G (c.fact 21 (f := .glo "law") rfl))
  cases e
  exact ⟨{
    a__law_numbers := _, d__law_numbers := d__law_numbers, F__law_numbers := F__law_numbers,
    g__law_numbers := He.glo_ok X G (c.fact 0 (f := .glo "_law_numbers") rfl),
    a__law_pick := _, d__law_pick := d__law_pick, F__law_pick := F__law_pick,
    g__law_pick := He.glo_ok X G (c.fact 1 (f := .glo "_law_pick") rfl),
    a__law_plan := _, d__law_plan := d__law_plan, F__law_plan := F__law_plan,
    g__law_plan := He.glo_ok X G (c.fact 2 (f := .glo "_law_plan") rfl),
    a__law_wrapped := _, d__law_wrapped := d__law_wrapped, F__law_wrapped := F__law_wrapped,
    g__law_wrapped := He.glo_ok X G (c.fact 3 (f := .glo "_law_wrapped") rfl),
    a__law_near := _, d__law_near := d__law_near, F__law_near := F__law_near,
    g__law_near := He.glo_ok X G (c.fact 4 (f := .glo "_law_near") rfl),
    a_is_integer := _, d_is_integer := d_is_integer, F_is_integer := F_is_integer,
    g_is_integer := He.glo_ok X G (c.fact 5 (f := .glo "is_integer") rfl),
    a_is_width := _, d_is_width := d_is_width, F_is_width := F_is_width,
    g_is_width := He.glo_ok X G (c.fact 6 (f := .glo "is_width") rfl),
    a_is_widths := _, d_is_widths := d_is_widths, F_is_widths := F_is_widths,
    g_is_widths := He.glo_ok X G (c.fact 7 (f := .glo "is_widths") rfl),
    a_require_widths := _, d_require_widths := d_require_widths, F_require_widths := F_require_widths,
    g_require_widths := He.glo_ok X G (c.fact 8 (f := .glo "require_widths") rfl),
    a_count_with := _, d_count_with := d_count_with, F_count_with := F_count_with,
    g_count_with := He.glo_ok X G (c.fact 9 (f := .glo "count_with") rfl),
    a_block_totals := _, d_block_totals := d_block_totals, F_block_totals := F_block_totals,
    g_block_totals := He.glo_ok X G (c.fact 10 (f := .glo "block_totals") rfl),
    a_break_at := _, d_break_at := d_break_at, F_break_at := F_break_at,
    g_break_at := He.glo_ok X G (c.fact 11 (f := .glo "break_at") rfl),
    a_effective_of := _, d_effective_of := d_effective_of, F_effective_of := F_effective_of,
    g_effective_of := He.glo_ok X G (c.fact 12 (f := .glo "effective_of") rfl),
    a_nth_break := _, d_nth_break := d_nth_break, F_nth_break := F_nth_break,
    g_nth_break := He.glo_ok X G (c.fact 13 (f := .glo "nth_break") rfl),
    a_require_position := _, d_require_position := d_require_position, F_require_position := F_require_position,
    g_require_position := He.glo_ok X G (c.fact 14 (f := .glo "require_position") rfl),
    a_column_of := _, d_column_of := d_column_of, F_column_of := F_column_of,
    g_column_of := He.glo_ok X G (c.fact 15 (f := .glo "column_of") rfl),
    a_column := _, d_column := d_column, F_column := F_column,
    g_column := He.glo_ok X G (c.fact 16 (f := .glo "column") rfl),
    a_is_break := _, d_is_break := d_is_break, F_is_break := F_is_break,
    g_is_break := He.glo_ok X G (c.fact 17 (f := .glo "is_break") rfl),
    a_require_length := _, d_require_length := d_require_length, F_require_length := F_require_length,
    g_require_length := He.glo_ok X G (c.fact 18 (f := .glo "require_length") rfl),
    a_breaks_below := _, d_breaks_below := d_breaks_below, F_breaks_below := F_breaks_below,
    g_breaks_below := He.glo_ok X G (c.fact 19 (f := .glo "breaks_below") rfl),
    a_count_pieces := _, d_count_pieces := d_count_pieces, F_count_pieces := F_count_pieces,
    g_count_pieces := He.glo_ok X G (c.fact 20 (f := .glo "count_pieces") rfl),
    a_law := _, d_law := d_law, F_law := F_law,
    n_abs := He.free_ok X G (c.fact 22 (f := .free "abs") rfl),
    n_all := He.free_ok X G (c.fact 23 (f := .free "all") rfl),
    n_bool := He.free_ok X G (c.fact 24 (f := .free "bool") rfl),
    n_divmod := He.free_ok X G (c.fact 25 (f := .free "divmod") rfl),
    n_int := He.free_ok X G (c.fact 26 (f := .free "int") rfl),
    n_isinstance := He.free_ok X G (c.fact 27 (f := .free "isinstance") rfl),
    n_len := He.free_ok X G (c.fact 28 (f := .free "len") rfl),
    n_list := He.free_ok X G (c.fact 29 (f := .free "list") rfl),
    n_max := He.free_ok X G (c.fact 30 (f := .free "max") rfl),
    n_min := He.free_ok X G (c.fact 31 (f := .free "min") rfl),
    n_range := He.free_ok X G (c.fact 32 (f := .free "range") rfl),
    n_repr := He.free_ok X G (c.fact 33 (f := .free "repr") rfl),
    n_sum := He.free_ok X G (c.fact 34 (f := .free "sum") rfl),
    n_zip := He.free_ok X G (c.fact 35 (f := .free "zip") rfl),
    i_MAX_LENGTH := He.int_ok X G (c.fact 36 (f := .int "MAX_LENGTH" 1000000000000000000000000000000) rfl),
    i_MAX_WIDTH := He.int_ok X G (c.fact 37 (f := .int "MAX_WIDTH" 10000) rfl) }, rfl⟩
open PySem.W PySem.Calls in
theorem holds (hm : ∀ ns : List Int, ns.length ≤ 63 → ∃ fin, F_law [.scr ns] = some (.ok (.bl true), fin)) : PySem.Challenge.rw_hardwraps_k09_breaks_by_index.Holds := by
  w_on; o_law
  refine HandSHeadRun.head_any (r := OpenLaw.row PySem.Challenge.rw_hardwraps_k09_breaks_by_index) (q := view (OpenLaw.row PySem.Challenge.rw_hardwraps_k09_breaks_by_index).prog [32]) (H := hk) (ob := ob) (M := 4000) (loose := loose) (d := HandSHeadRun.topDef (OpenLaw.row PySem.Challenge.rw_hardwraps_k09_breaks_by_index).prog 32) (kwd := []) ob_eq
    (by kernel_rfl) (fun s => by kernel_rfl) run (by kernel_rfl) (by kernel_rfl) (by kernel_rfl) (by rfl) (by first | assumption | decide +kernel) (by decide +kernel) ⟨rfl, rfl, rfl, rfl, rfl, by decide +kernel⟩ ?hw ?hc
  case hw => w_witness2
  case hc =>
    refine walk_end (l := PySem.Challenge.rw_hardwraps_k09_breaks_by_index) (n := 63) (k := 7) (x := "script") F_law rfl (by decide) (by kernel_rfl) ⟨rfl, by decide, by decide⟩ hm ?F
    intro w mg fa h Y G hmg0
    obtain ⟨K, KX, c⟩ := Y
    have hmg : mg ("law" : PySem.Str) = some (.ref fa) := by
      have e : (HandSHeadRun.topDef (OpenLaw.row PySem.Challenge.rw_hardwraps_k09_breaks_by_index).prog 32).name = ("law" : PySem.Str) := by kernel_rfl
      rw [← e]
      exact hmg0
    obtain ⟨y, rfl⟩ := facts KX G hmg c
    have b := FunD.bindsA (ps := ["script"]) y.F_law fun _ _ _ _ _ _ us hl => match us, hl with | [_], _ => rfl
    exact ⟨K, y.d_law, KX, fun s v => b s [v] rfl, fun base _ _ => g_law y⟩
end K09
theorem PySem.Challenge.cw_hardwraps_k09_breaks_by_index_holds : PySem.Challenge.rw_hardwraps_k09_breaks_by_index.Holds := by
  exact K09.holds K09.law_holds
