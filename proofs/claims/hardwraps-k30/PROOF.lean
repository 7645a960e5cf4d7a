import PyProof.Rows.All
import HandS.ExcCtx
import HandS.ExcInit
import HandS.WordsExc
import HandS.TryMany
import Wide.All
import OpenK.AllK
import Wide.FinOn
import HandS.ForMost
import HandS.ForExc
import HandS.Wide
import HandS.WideBits
import HandS.Style
import HandS.IsInst
import HandS.SortInts
import KE.KSortedM
import HandS.Defaults
import HandS.More
import HandS.Deep
import HandS.Conv
import HandS.TryOnly
import HandS.ExcField
import HandS.HeadHook1
import HandS.HeadHook2
import HandS.SetFor
import HandS.Strs
import HandS.DictComp
import PyProof.LongRange
import PyProof.ListRange
import HandS.Zip
import HandS.HeadHook3
import HandS.Text
import HandS.Codes
import HandS.OwnEq
import OpenK.KOps
import PyProof.InstNe
import HandS.ExcIs
import KE.KExcIs
import PyProof.Draws
import PyProof.EnumMake
import HandS.ReplaceLit
import HandS.HotCalls
import HandS.ExcValue
import HandS.Hot
import KE.KStateDown
import HandS.Head0
import HandS.Head1
import HandS.Head2
import HandS.HeadEnd
import PyProof.StrLawsRepr
import PySem.Challenge.RW_hardwraps_k30_forms_errors
set_option Elab.async false
set_option autoImplicit false
set_option linter.all false
set_option maxRecDepth 100000
set_option maxHeartbeats 2000000
/-! DI0N: what the kit says of exceptions, for those whose context is None. -/
namespace L2N
open PySem PySem.Spec PyProof.Rows
open L2 hiding XE Takes Takes.imp CX XE.of_call XE.new XE.leave takes_of passes_call Sky.land MkP PMk ps_raise mk_of ps_try_as HdsOk ps_try_many pmk_own passAt takes_none5 takes0 passL mk_end pmk_oex St
theorem takes_none5 {X : Cx} : L2N.Takes X (fun _ _ _ _ => False) := fun _ _ ⟨_, _, _, _, _, _, _, _, _, _, _, _, _, _, _, _, w⟩ => w.elim
theorem takes0 {X : Cx} : L2N.Takes X (fun _ _ _ _ => False) := takes_none5
theorem passL {X : Cx} : Passes (L2N.CX X.prog X.w) X E0 := fun _ _ _ _ _ _ _ h => by
  obtain ⟨_, _, _, _, _, _, _, _, _, _, _, _, z⟩ := h
  exact z.elim
section
variable {X : Cx} {x : Str} {e : Expr} {es : List Expr} {ta : TA} {p pos : Pos}
theorem mk_end {pins : List (Addr × Obj)} {σ : L2.St} {H1 H2 : Hp} {Q : XK} {hp hp2 h2 : Heap} {g1 g2 : Array GenState} {d1 d2 : Drawn} {t1 t2 : Nat} {os1 os2 : OsState} {a C d : Addr} {fs : List (Str × V)} (T : Raises X (.ref C)) (I1 : Inv X pins σ H1 ⟨hp, g1, d1, t1, os1⟩)
    (ha : hp.objs.size ≤ a) (k : ∀ b o, hp.get? b = some o → hp2.get? b = some o) (un : Un (frs X.stack) [] (upd H1 a (exo a C none)) H2 hp2 h2) (hok : HOk X.prog X.w H2 h2) (ho : os2 = os1) (hb : AllBare g2)
    (ea : H2 a = some (exo a C (some d))) (ed : H2 d = some (exd d fs)) (hd1 : H1 d = none) (q : Q (.ref C) (some d) (upd (del H2 a) d (.xd fs))) : L2N.MkP X pins σ Q (.ref a) ⟨h2, g2, d2, t2, os2⟩ := by
  obtain ⟨t0, G, J, kG, ge, hoe, na⟩ := mk_end0 (d2 := d2) (t2 := t2) I1 ha k un hok ho hb ea ed hd1
  exact ⟨a, _, _, ⟨G, g2, d2, t2, os2⟩, _, .ref C, some d, rfl, J, kG, ge, hoe, ⟨rfl, rfl, fun vs hv => by cases hv; rfl⟩, rfl, rfl, na, rfl, hb, T, q⟩
theorem pmk_oex {CX : CXT} {x : Str} {C fI : Addr} {k : Nat} {fd : FuncData} {ps : List Str} {sp : Sp} {ds : List Value} {dvs : List V} (T : OexC X.K C) (iC : PySem.W.findIn X.K (.ref C) "__init__" = some (some (.ref fI))) (tI : PySem.W.typeIn X.K (.ref fI) = some (.type "function"))
    (F1 : FnOk X.prog X.w X.K X.mg X.base CX k fI fd ps sp) (hr : Room (k + 1) X.A) (hb : Binds X.K fd ps ds) (hd : Vals dvs ds) (hx : Passes CX X (fun _ _ _ => False)) (hg : Gl X x) (hm : X.mg x = some (.ref C)) (ha : PA X (e :: es) ta)
    (hdb : (x == ("__debug__" : Str)) = false := by decide) (he : starEach (e :: es) X.env = (false, eval e X.env) :: starEach es X.env := by rfl) (hpl : (backTo pos (starEach es X.env)).any (·.1) = false := by rfl) :
    L2N.PMk X (.Call (.Name x p) (e :: es) [] pos) (tMkO C sp dvs ta) := by
  intro pins s σ H Q I h
  obtain ⟨nm, q, N, bs, bm, sn, sub, ab, col, dd, k0, k1, k2, k3, k5, hC, hbm⟩ := T.cls
  refine wpAny_Call_Name_kw (ld_glob I hg hm ?_ hdb)
  refine PySem.W.callWith_K (h₀ := X.base) I.ok.mod.kin T.kC (thn (ha.run pos pins s σ H _ I h) fun us s1 ⟨vs, H1, I1, r1, hz, q1⟩ => ⟨I1.kIn, ?_⟩) he hpl
  show wpAny _ _ (call (.ref C) us) _ _ _
  obtain ⟨hp, g, dr, tk, os⟩ := s1
  have hsz : hp.objs.size ≤ hp.objs.size + 1 := Nat.le_succ _
  have hn : H1 (hp.objs.size + 1) = none := I1.hok.fresh hsz
  have hq := q1 (hp.objs.size + 1) hn
  have kk : ∀ b o, hp.get? b = some o → ((hp.push (PySem.W.kdv_tup us)).push (PySem.HandSPX.excO C hp.objs.size)).get? b = some o := fun b o e => Heap.get?_push_of_some _ (Heap.get?_push_of_some _ e)
  have hget : ((hp.push (PySem.W.kdv_tup us)).push (PySem.HandSPX.excO C hp.objs.size)).get? (hp.objs.size + 1) = some (PySem.HandSPX.excO C hp.objs.size) := by heap_get
  have I2 : Inv X pins σ (upd H1 (hp.objs.size + 1) (exo (hp.objs.size + 1) C none)) ⟨(hp.push (PySem.W.kdv_tup us)).push (PySem.HandSPX.excO C hp.objs.size), g, dr, tk, os⟩ :=
    I1.laid (t' := tk) (a := hp.objs.size + 1) (o := exo (hp.objs.size + 1) C none) (h' := (hp.push (PySem.W.kdv_tup us)).push (PySem.HandSPX.excO C hp.objs.size)) kk hsz (exo_ok hget)
  have r2 : Vals (V.ref (hp.objs.size + 1) :: (vs ++ dvs)) (Value.ref (hp.objs.size + 1) :: (us ++ ds)) := .cons rfl (r1.append hd)
  have hl : (Value.ref (hp.objs.size + 1) :: us ++ ds).length = ps.length := by
    have e := r2.length
    rw [F1.len _ _ _ _ hq] at e
    exact e.symm
  have hus : us.length ≤ sizeLine := by
    rw [← Paired.length r1, sizeLine_eq]
    omega
  refine wpAny_call (PySem.HandSPX.call_own F.excBase_ValueError (fun Y => PySem.HandSPX.refsVE_contains Y bm hbm) (I1.kIn _ _ hC) (PySem.W.looks_findIn I1.kIn iC) (fun self => PySem.W.bind_fn I1.kIn self tI) hus
    (codeAny_mono (F1.run _ X.stack _ _ ⟨Value.ref (hp.objs.size + 1) :: us, []⟩ (Value.ref (hp.objs.size + 1) :: (us ++ ds)) _ _ (fun _ _ _ => False) (hr.make C us []) (I2.env0.make C us []) (hb _ (Value.ref (hp.objs.size + 1) :: us) I2.kIn hl) r2 hq) fun r s' hq' => ?_))
  cases r with
  | error er => exact hx pins σ _ _ er s' I2 hq'
  | ok fl =>
    cases fl with
    | ret u =>
      obtain ⟨v, H2, os2, bare2, un2, hok2, rv, ev, d, fs, ea, ed, hd1, q2⟩ := hq'
      subst ev
      obtain ⟨h2, g2, d2, t2, os'⟩ := s'
      exact ⟨rv, mk_end (raises_own T.exC T.tyC) I1 hsz kk un2 hok2 os2 bare2 ea ed hd1 q2⟩
    | next => exact False.elim hq'
    | brk => exact False.elim hq'
    | cont => exact False.elim hq'
end
end L2N
set_option Elab.async false
set_option autoImplicit false
set_option linter.all false
set_option maxRecDepth 100000
set_option maxHeartbeats 2000000
/-! DI1: data, what represents them, slots, states. -/
namespace DI
open PySem PySem.Spec PyProof.Rows
open L2 hiding XE Takes Takes.imp CX XE.of_call XE.new XE.leave takes_of passes_call Sky.land MkP PMk ps_raise mk_of ps_try_as HdsOk ps_try_many pmk_own passAt takes_none5 takes0 passL mk_end pmk_oex
open L2N hiding St
/-- data without addresses -/
inductive D where
  | non | bl (b : Bool) | int (i : Int) | str (s : Str)
  | lst (xs : List D) | tup (xs : List D)
  | dic (ks : List Key) (vs : List D)
  | scr (ns : List Int)
  | sta (a : Addr)
  | ty (n : String)
  | gl (n : Str)
  | exn (c : Str) (ns : List Str) (ds : List D)
  | ob (ds : List D)
mutual
/-- what is one's own: a list of what is shared | a list of what is one's own | an instance, each field shared or one's own -/
inductive OT where
  | l0
  | ls (t : OT)
  | ob (c : Str) (ns : List Str) (fs : OTs)
inductive OTs where
  | nil
  | sh (r : OTs)
  | ow (t : OT) (r : OTs)
end
/-- a slot: shared (never changed in place) | one's own | a parameter's that may be changed in place -/
inductive Md where
  | sh | os (t : OT) | ps (t : OT)
mutual
def OT.eq : OT → OT → Bool
  | .l0, .l0 => true
  | .ls a, .ls b => OT.eq a b
  | .ob c ns fs, .ob c' ns' fs' => decide (c = c') && (decide (ns = ns') && OTs.eq fs fs')
  | _, _ => false
def OTs.eq : OTs → OTs → Bool
  | .nil, .nil => true
  | .sh a, .sh b => OTs.eq a b
  | .ow t a, .ow u b => OT.eq t u && OTs.eq a b
  | _, _ => false
end
mutual
theorem OT.eq_of : ∀ {a b : OT}, OT.eq a b = true → a = b
  | .l0, .l0, _ => rfl
  | .ls a, .ls b, h => congrArg OT.ls (OT.eq_of (show OT.eq a b = true by simpa [OT.eq] using h))
  | .ob c ns fs, .ob c' ns' fs', h => by
    simp only [OT.eq, Bool.and_eq_true, decide_eq_true_iff] at h
    obtain ⟨rfl, rfl, h⟩ := h
    rw [OTs.eq_of h]
  | .l0, .ls _, h => by simp [OT.eq] at h
  | .l0, .ob _ _ _, h => by simp [OT.eq] at h
  | .ls _, .l0, h => by simp [OT.eq] at h
  | .ls _, .ob _ _ _, h => by simp [OT.eq] at h
  | .ob _ _ _, .l0, h => by simp [OT.eq] at h
  | .ob _ _ _, .ls _, h => by simp [OT.eq] at h
theorem OTs.eq_of : ∀ {a b : OTs}, OTs.eq a b = true → a = b
  | .nil, .nil, _ => rfl
  | .sh a, .sh b, h => congrArg OTs.sh (OTs.eq_of (show OTs.eq a b = true by simpa [OTs.eq] using h))
  | .ow t a, .ow u b, h => by
    simp only [OTs.eq, Bool.and_eq_true] at h
    rw [OT.eq_of h.1, OTs.eq_of h.2]
  | .nil, .sh _, h => by simp [OTs.eq] at h
  | .nil, .ow _ _, h => by simp [OTs.eq] at h
  | .sh _, .nil, h => by simp [OTs.eq] at h
  | .sh _, .ow _ _, h => by simp [OTs.eq] at h
  | .ow _ _, .nil, h => by simp [OTs.eq] at h
  | .ow _ _, .sh _, h => by simp [OTs.eq] at h
end
abbrev Md.ow : Md := .os .l0
abbrev Md.pr : Md := .ps .l0
def Md.par : Md → Bool
  | .ps _ => true
  | _ => false
def Md.isSh : Md → Bool
  | .sh => true
  | _ => false
/-- what comes is new at its top at most -/
def Md.fl : Md → Bool
  | .sh => true
  | .os .l0 => true
  | _ => false
theorem Md.fl_cases {m : Md} (h : m.fl = true) : m = .sh ∨ m = .ow := by
  cases m with
  | sh => exact .inl rfl
  | os t => cases t with
    | l0 => exact .inr rfl
    | ls t => cases h
    | ob C ns fs => cases h
  | ps t => cases h
theorem Md.fl_par {m : Md} (h : m.fl = true) : m.par = false := by
  rcases Md.fl_cases h with rfl | rfl <;> rfl
/-- the global x, as the written part has it -/
def gAd (K : PySem.W.Frag) (x : Str) : Addr := match PySem.W.nsIn K mainGlobals x with
  | some (some (.ref a)) => a
  | _ => 0
/-- an exception object of the class cls -/
def exT (cls : Value) (d : Option Addr) (a : Addr) : HO := .ext fun h => ∃ (oe : Obj) (vs : Array Value), h.get? a = some oe ∧ Zc cls d oe ∧ oe.data = .fields vs
mutual
inductive Rep (K : PySem.W.Frag) (I : Hp) : V → D → Prop
  | non : Rep K I .non .non
  | bl (b : Bool) : Rep K I (.bl b) (.bl b)
  | int (i : Int) : Rep K I (.int i) (.int i)
  | str (x : Str) : Rep K I (.str x) (.str x)
  | lst {a : Addr} {xs : List V} {ds : List D} : I a = some (.lst xs) → Reps K I xs ds → Rep K I (.ref a) (.lst ds)
  | tup {a : Addr} {xs : List V} {ds : List D} : SqT K I a xs → Reps K I xs ds → Rep K I (.ref a) (.tup ds)
  | dic {a : Addr} {ks : List Key} {xs : List V} {ds : List D} : I a = some (.dK (ks.zip xs)) → ks.length = xs.length → Reps K I xs ds → Rep K I (.ref a) (.dic ks ds)
  | scr {a : Addr} {ns : List Int} : SqL K I a (ns.map V.int) → Rep K I (.ref a) (.scr ns)
  | sta (a : Addr) : Rep K I (.ref a) (.sta a)
  | ty (n : String) : Rep K I (.ty n) (.ty n)
  | gl (n : Str) : Rep K I (.ref (gAd K n)) (.gl n)
  | ex0 {a : Addr} {c : Str} : Rd I a (exT (.ref (gAd K c)) none a) → Rep K I (.ref a) (.exn c [] [])
  | ex1 {a dd : Addr} {c : Str} {ns : List Str} {vs : List V} {ds : List D} : Rd I a (exT (.ref (gAd K c)) (some dd) a) → I dd = some (.xd (ns.zip vs)) → ns.length = vs.length → Reps K I vs ds → Rep K I (.ref a) (.exn c ns ds)
inductive Reps (K : PySem.W.Frag) (I : Hp) : List V → List D → Prop
  | nil : Reps K I [] []
  | cons {v : V} {vs : List V} {d : D} {ds : List D} : Rep K I v d → Reps K I vs ds → Reps K I (v :: vs) (d :: ds)
end
def Ext (H H' : Hp) : Prop := ∀ a o, H a = some o → H' a = some o
theorem Ext.refl (H : Hp) : Ext H H := fun _ _ h => h
theorem rd_ext {H H' : Hp} {a : Addr} {u : HO} (e : Ext H H') (h : Rd H a u) : Rd H' a u := h.imp (e _ _) fun ⟨o, z⟩ => ⟨o, e _ _ z⟩
theorem Ext.trans {H H1 H2 : Hp} (a : Ext H H1) (b : Ext H1 H2) : Ext H H2 := fun x o h => b x o (a x o h)
theorem Ext.new {H : Hp} {p : Addr} {o : HO} (h : H p = none) : Ext H (upd H p o) := fun a u e => by
  rw [upd_ne (ne_of_none e h)]; exact e
theorem Ext.upd2 {I H : Hp} {p : Addr} {o : HO} (e : Ext I H) : Ext (upd I p o) (upd H p o) := fun a u h => by
  by_cases ha : a = p
  · subst ha; rw [upd_same] at h ⊢; exact h
  · rw [upd_ne ha] at h ⊢; exact e a u h
theorem Ext.mut {I H : Hp} {p : Addr} {o : HO} (e : Ext I H) (h : I p = none) : Ext I (upd H p o) := fun a u ha => by
  rw [upd_ne (ne_of_none ha h)]; exact e a u ha
theorem Ext.free {H H' : Hp} {p : Addr} (e : Ext H H') (h : H' p = none) : H p = none := by
  cases q : H p with
  | none => rfl
  | some o => rw [e p o q] at h; cases h
theorem Ext.l {K : PySem.W.Frag} {H H' : Hp} {a : Addr} {xs : List V} (e : Ext H H') (h : SqL K H a xs) : SqL K H' a xs := by
  rcases h with (h | ⟨o, h⟩) | h
  · exact .inl (.inl (e _ _ h))
  · exact .inl (.inr ⟨o, e _ _ h⟩)
  · exact .inr h
theorem Ext.t {K : PySem.W.Frag} {H H' : Hp} {a : Addr} {xs : List V} (e : Ext H H') (h : SqT K H a xs) : SqT K H' a xs := by
  rcases h with (h | ⟨o, h⟩) | h
  · exact .inl (.inl (e _ _ h))
  · exact .inl (.inr ⟨o, e _ _ h⟩)
  · exact .inr h
section
variable {K : PySem.W.Frag} {I I' H H' : Hp}
mutual
theorem Rep.mono (e : Ext I I') : ∀ {v : V} {d : D}, Rep K I v d → Rep K I' v d
  | _, _, .non => .non
  | _, _, .bl b => .bl b
  | _, _, .int i => .int i
  | _, _, .str x => .str x
  | _, _, .lst h r => .lst (e _ _ h) (Reps.mono e r)
  | _, _, .tup h r => .tup (e.t h) (Reps.mono e r)
  | _, _, .dic h l r => .dic (e _ _ h) l (Reps.mono e r)
  | _, _, .scr h => .scr (e.l h)
  | _, _, .sta a => .sta a
  | _, _, .ty a => .ty a
  | _, _, .gl a => .gl a
  | _, _, .ex0 h => .ex0 (rd_ext e h)
  | _, _, .ex1 h h2 l r => .ex1 (rd_ext e h) (e _ _ h2) l (Reps.mono e r)
theorem Reps.mono (e : Ext I I') : ∀ {vs : List V} {ds : List D}, Reps K I vs ds → Reps K I' vs ds
  | _, _, .nil => .nil
  | _, _, .cons h r => .cons (Rep.mono e h) (Reps.mono e r)
end
theorem Reps.length : ∀ {vs : List V} {ds : List D}, Reps K I vs ds → vs.length = ds.length
  | _, _, .nil => rfl
  | _, _, .cons _ r => congrArg (· + 1) (Reps.length r)
theorem Reps.get : ∀ {vs : List V} {ds : List D} {i : Nat} {d : D}, Reps K I vs ds → ds[i]? = some d → ∃ v, vs[i]? = some v ∧ Rep K I v d
  | _, _, _, _, .nil, e => by simp at e
  | _, _, 0, _, .cons h _, e => by simp at e; subst e; exact ⟨_, rfl, h⟩
  | _, _, i + 1, d, .cons _ r, e => by
    obtain ⟨v, h1, h2⟩ := Reps.get (i := i) (d := d) r (by simpa using e)
    exact ⟨v, by simpa using h1, h2⟩
theorem Reps.append : ∀ {vs ws : List V} {ds es : List D}, Reps K I vs ds → Reps K I ws es → Reps K I (vs ++ ws) (ds ++ es)
  | _, _, _, _, .nil, s => s
  | _, _, _, _, .cons h r, s => .cons h (Reps.append r s)
theorem Reps.take : ∀ {vs : List V} {ds : List D} (n : Nat), Reps K I vs ds → Reps K I (vs.take n) (ds.take n)
  | _, _, 0, _ => .nil
  | _, _, _ + 1, .nil => .nil
  | _, _, n + 1, .cons h r => .cons h (Reps.take n r)
theorem Reps.drop : ∀ {vs : List V} {ds : List D} (n : Nat), Reps K I vs ds → Reps K I (vs.drop n) (ds.drop n)
  | _, _, 0, r => r
  | _, _, _ + 1, .nil => .nil
  | _, _, n + 1, .cons _ r => Reps.drop n r
theorem Reps.set {v : V} {d : D} (h : Rep K I v d) : ∀ {vs : List V} {ds : List D} (n : Nat), Reps K I vs ds → Reps K I (vs.set n v) (ds.set n d)
  | _, _, _, .nil => .nil
  | _, _, 0, .cons _ r => .cons h r
  | _, _, n + 1, .cons q r => .cons q (Reps.set h n r)
theorem Reps.reverse {vs : List V} {ds : List D} (h : Reps K I vs ds) : Reps K I vs.reverse ds.reverse := by
  induction vs generalizing ds with
  | nil => cases h; exact .nil
  | cons v vs ih =>
    cases h with
    | cons a b => rw [List.reverse_cons, List.reverse_cons]; exact (ih b).append (.cons a .nil)
theorem Reps.rep {vs : List V} {ds : List D} (h : Reps K I vs ds) : ∀ k : Nat, Reps K I (List.replicate k vs).flatten (List.replicate k ds).flatten
  | 0 => .nil
  | k + 1 => by rw [List.replicate_succ, List.replicate_succ, List.flatten_cons, List.flatten_cons]; exact h.append (Reps.rep h k)
theorem Reps.eraseIdx : ∀ {vs : List V} {ds : List D} (n : Nat), Reps K I vs ds → Reps K I (vs.eraseIdx n) (ds.eraseIdx n)
  | _, _, _, .nil => .nil
  | _, _, 0, .cons _ r => r
  | _, _, n + 1, .cons q r => .cons q (Reps.eraseIdx n r)
theorem Reps.dropLast {vs : List V} {ds : List D} (h : Reps K I vs ds) : Reps K I vs.dropLast ds.dropLast := by
  rw [List.dropLast_eq_take, List.dropLast_eq_take, h.length]; exact h.take _
theorem Reps.ints : ∀ (ns : List Int), Reps K I (ns.map V.int) (ns.map D.int)
  | [] => .nil
  | n :: r => .cons (.int n) (Reps.ints r)
/-- neither a list nor an instance -/
def D.nl : D → Bool
  | .lst _ => false
  | .ob _ => false
  | _ => true
mutual
/-- v is d, one's own as t says, fp its addresses -/
inductive RepO (K : PySem.W.Frag) (I H : Hp) : OT → V → D → List Addr → Prop
  | nl {t : OT} {v : V} {d : D} : d.nl = true → Rep K I v d → RepO K I H t v d []
  | l0 {a : Addr} {xs : List V} {ds : List D} : H a = some (.lst xs) → Reps K I xs ds → RepO K I H .l0 (.ref a) (.lst ds) [a]
  | ls {t : OT} {a : Addr} {xs : List V} {ds : List D} {fp : List Addr} : H a = some (.lst xs) → RepOs K I H t xs ds fp → RepO K I H (.ls t) (.ref a) (.lst ds) (a :: fp)
  | ob {a dx : Addr} {c : Str} {ns : List Str} {ts : OTs} {xs : List V} {ds : List D} {fp : List Addr} : H a = some (.ins (gAd K c) dx (ns.zip xs)) → H dx = some (.own a) → xs.length ≤ ns.length → RepF K I H ts xs ds fp → RepO K I H (.ob c ns ts) (.ref a) (.ob ds) (a :: dx :: fp)
inductive RepOs (K : PySem.W.Frag) (I H : Hp) : OT → List V → List D → List Addr → Prop
  | nil {t : OT} : RepOs K I H t [] [] []
  | cons {t : OT} {v : V} {vs : List V} {d : D} {ds : List D} {f fp : List Addr} : RepO K I H t v d f → RepOs K I H t vs ds fp → RepOs K I H t (v :: vs) (d :: ds) (f ++ fp)
inductive RepF (K : PySem.W.Frag) (I H : Hp) : OTs → List V → List D → List Addr → Prop
  | nil {ts : OTs} : RepF K I H ts [] [] []
  | sh {ts : OTs} {v : V} {vs : List V} {d : D} {ds : List D} {fp : List Addr} : Rep K I v d → RepF K I H ts vs ds fp → RepF K I H (.sh ts) (v :: vs) (d :: ds) fp
  | ow {t : OT} {ts : OTs} {v : V} {vs : List V} {d : D} {ds : List D} {f fp : List Addr} : RepO K I H t v d f → RepF K I H ts vs ds fp → RepF K I H (.ow t ts) (v :: vs) (d :: ds) (f ++ fp)
end
mutual
theorem RepO.move {I I' H H' : Hp} (e : Ext I I') : ∀ {t : OT} {v : V} {d : D} {fp : List Addr}, RepO K I H t v d fp → (∀ p ∈ fp, ∀ o, H p = some o → H' p = some o) → RepO K I' H' t v d fp
  | _, _, _, _, .nl a b, _ => .nl a (b.mono e)
  | _, _, _, _, .l0 a b, k => .l0 (k _ (by simp) _ a) (b.mono e)
  | _, _, _, _, .ls a b, k => .ls (k _ (by simp) _ a) (RepOs.move e b fun p hp => k p (List.mem_cons_of_mem _ hp))
  | _, _, _, _, .ob a b l c, k => .ob (k _ (by simp) _ a) (k _ (by simp) _ b) l (RepF.move e c fun p hp => k p (List.mem_cons_of_mem _ (List.mem_cons_of_mem _ hp)))
theorem RepOs.move {I I' H H' : Hp} (e : Ext I I') : ∀ {t : OT} {v : List V} {d : List D} {fp : List Addr}, RepOs K I H t v d fp → (∀ p ∈ fp, ∀ o, H p = some o → H' p = some o) → RepOs K I' H' t v d fp
  | _, _, _, _, .nil, _ => .nil
  | _, _, _, _, .cons a b, k => .cons (RepO.move e a fun p hp => k p (List.mem_append_left _ hp)) (RepOs.move e b fun p hp => k p (List.mem_append_right _ hp))
theorem RepF.move {I I' H H' : Hp} (e : Ext I I') : ∀ {t : OTs} {v : List V} {d : List D} {fp : List Addr}, RepF K I H t v d fp → (∀ p ∈ fp, ∀ o, H p = some o → H' p = some o) → RepF K I' H' t v d fp
  | _, _, _, _, .nil, _ => .nil
  | _, _, _, _, .sh a b, k => .sh (a.mono e) (RepF.move e b k)
  | _, _, _, _, .ow a b, k => .ow (RepO.move e a fun p hp => k p (List.mem_append_left _ hp)) (RepF.move e b fun p hp => k p (List.mem_append_right _ hp))
end
/-- what can be changed in place -/
def mutO : HO → Bool
  | .lst _ => true
  | .ins _ _ _ => true
  | .own _ => true
  | _ => false
mutual
theorem RepO.there {I H : Hp} : ∀ {t : OT} {v : V} {d : D} {fp : List Addr}, RepO K I H t v d fp → ∀ p ∈ fp, ∃ o, H p = some o ∧ mutO o = true
  | _, _, _, _, .nl a b, p, hp => by cases hp
  | _, _, _, _, .l0 a b, p, hp => by simp at hp; subst hp; exact ⟨_, a, rfl⟩
  | _, _, _, _, .ls a b, p, hp => by
    rcases List.mem_cons.mp hp with rfl | hp
    · exact ⟨_, a, rfl⟩
    · exact RepOs.there b p hp
  | _, _, _, _, .ob a b l c, p, hp => by
    rcases List.mem_cons.mp hp with rfl | hp
    · exact ⟨_, a, rfl⟩
    · rcases List.mem_cons.mp hp with rfl | hp
      · exact ⟨_, b, rfl⟩
      · exact RepF.there c p hp
theorem RepOs.there {I H : Hp} : ∀ {t : OT} {v : List V} {d : List D} {fp : List Addr}, RepOs K I H t v d fp → ∀ p ∈ fp, ∃ o, H p = some o ∧ mutO o = true
  | _, _, _, _, .nil, p, hp => by cases hp
  | _, _, _, _, .cons a b, p, hp => (List.mem_append.mp hp).elim (RepO.there a p) (RepOs.there b p)
theorem RepF.there {I H : Hp} : ∀ {t : OTs} {v : List V} {d : List D} {fp : List Addr}, RepF K I H t v d fp → ∀ p ∈ fp, ∃ o, H p = some o ∧ mutO o = true
  | _, _, _, _, .nil, p, hp => by cases hp
  | _, _, _, _, .sh a b, p, hp => RepF.there b p hp
  | _, _, _, _, .ow a b, p, hp => (List.mem_append.mp hp).elim (RepO.there a p) (RepF.there b p)
end
theorem repO_l0 {v : V} {d : D} {fp : List Addr} : RepO K I H .l0 v d fp ↔ (d.nl = true ∧ Rep K I v d ∧ fp = []) ∨ ∃ a xs ds, v = .ref a ∧ d = .lst ds ∧ H a = some (.lst xs) ∧ Reps K I xs ds ∧ fp = [a] := by
  constructor
  · intro h
    cases h with
    | nl a b => exact .inl ⟨a, b, rfl⟩
    | l0 a b => exact .inr ⟨_, _, _, rfl, rfl, a, b, rfl⟩
  · rintro (⟨a, b, rfl⟩ | ⟨a, xs, ds, rfl, rfl, h1, h2, rfl⟩)
    · exact .nl a b
    · exact .l0 h1 h2
/-- what a slot, or a fresh value, in a mode represents; the addresses that are its own -/
def RepM (m : Md) (K : PySem.W.Frag) (I H : Hp) (v : V) (d : D) (fp : List Addr) : Prop :=
  match m with
  | .sh => Rep K I v d ∧ fp = []
  | .os t => RepO K I H t v d fp
  | .ps t => RepO K I H t v d fp
theorem repM_ow {v : V} {d : D} {fp : List Addr} : RepM .ow K I H v d fp ↔ (d.nl = true ∧ Rep K I v d ∧ fp = []) ∨ ∃ a xs ds, v = .ref a ∧ d = .lst ds ∧ H a = some (.lst xs) ∧ Reps K I xs ds ∧ fp = [a] := repO_l0
theorem RepM.nl {m : Md} {v : V} {d : D} (h : d.nl = true) (r : Rep K I v d) : RepM m K I H v d [] := by
  cases m with
  | sh => exact ⟨r, rfl⟩
  | os t => exact RepO.nl h r
  | ps t => exact RepO.nl h r
theorem RepM.move {m : Md} {v : V} {d : D} {fp : List Addr} (h : RepM m K I H v d fp) (e : Ext I I') (k : ∀ p ∈ fp, ∀ o, H p = some o → H' p = some o) : RepM m K I' H' v d fp := by
  cases m with
  | sh => exact ⟨h.1.mono e, h.2⟩
  | os t => exact RepO.move e h k
  | ps t => exact RepO.move e h k
/-- it can be read now: a list's items in I -/
def Rd1 (K : PySem.W.Frag) (I H : Hp) (v : V) (d : D) : Prop :=
  match d with
  | .lst ds => ∃ a xs, v = .ref a ∧ H a = some (.lst xs) ∧ Reps K I xs ds
  | _ => Rep K I v d
theorem Rd1.of_rep {v : V} {d : D} (e : Ext I H) (h : Rep K I v d) : Rd1 K I H v d := by
  cases h with
  | lst h r => exact ⟨_, _, rfl, e _ _ h, r⟩
  | _ => first | exact .non | exact .bl _ | exact .int _ | exact .str _ | exact .tup (by assumption) (by assumption) | exact .dic (by assumption) (by assumption) (by assumption) | exact .scr (by assumption) | exact .sta _ | exact .ty _ | exact .gl _ | exact .ex0 (by assumption) | exact .ex1 (by assumption) (by assumption) (by assumption) (by assumption)
/-- it can be read: shared, or a list of what is shared -/
def Md.rdy : Md → Bool
  | .sh => true
  | .os .l0 => true
  | .ps .l0 => true
  | _ => false
theorem Md.rdy_cases {m : Md} (h : m.rdy = true) : m = .sh ∨ m = .ow ∨ m = .pr := by
  cases m with
  | sh => exact .inl rfl
  | os t => cases t with
    | l0 => exact .inr (.inl rfl)
    | ls t => cases h
    | ob C ns fs => cases h
  | ps t => cases t with
    | l0 => exact .inr (.inr rfl)
    | ls t => cases h
    | ob C ns fs => cases h
theorem RepO.rd {v : V} {d : D} {fp : List Addr} (h : RepO K I H .l0 v d fp) (e : Ext I H) : Rd1 K I H v d := by
  cases h with
  | nl a b => exact .of_rep e b
  | l0 a b => exact ⟨_, _, rfl, a, b⟩
theorem RepM.rd {m : Md} {v : V} {d : D} {fp : List Addr} (h : RepM m K I H v d fp) (e : Ext I H) (hm : m.rdy = true) : Rd1 K I H v d := by
  rcases Md.rdy_cases hm with rfl | rfl | rfl
  · exact .of_rep e h.1
  · exact RepO.rd h e
  · exact RepO.rd h e
theorem RepM.there {m : Md} {v : V} {d : D} {fp : List Addr} (h : RepM m K I H v d fp) : ∀ p ∈ fp, ∃ o, H p = some o ∧ mutO o = true := by
  cases m with
  | sh => intro p hp; rw [h.2] at hp; cases hp
  | os t => exact RepO.there h
  | ps t => exact RepO.there h
abbrev Env := List (Option D)
/-- the slots of a def: modes, values, data, the addresses that are their own -/
inductive Slots (K : PySem.W.Frag) (I H : Hp) : List Md → L2.St → Env → List Addr → Prop
  | nil : Slots K I H [] [] [] []
  | non {m : Md} {o : Option V} {ms : List Md} {σ : L2.St} {env : Env} {fp : List Addr} : Slots K I H ms σ env fp → Slots K I H (m :: ms) (o :: σ) (none :: env) fp
  | som {m : Md} {v : V} {d : D} {ms : List Md} {σ : L2.St} {env : Env} {fp fp1 : List Addr} : RepM m K I H v d fp1 → Slots K I H ms σ env fp → Slots K I H (m :: ms) (some v :: σ) (some d :: env) (fp1 ++ fp)
theorem Slots.move (e : Ext I I') : ∀ {ms : List Md} {σ : L2.St} {env : Env} {fp : List Addr}, Slots K I H ms σ env fp → (∀ p ∈ fp, ∀ o, H p = some o → H' p = some o) → Slots K I' H' ms σ env fp
  | _, _, _, _, .nil, _ => .nil
  | _, _, _, _, .non s, k => .non (Slots.move e s k)
  | _, _, _, _, .som h s, k => .som (h.move e fun p hp => k p (List.mem_append_left _ hp)) (Slots.move e s fun p hp => k p (List.mem_append_right _ hp))
theorem Slots.there : ∀ {ms : List Md} {σ : L2.St} {env : Env} {fp : List Addr}, Slots K I H ms σ env fp → ∀ p ∈ fp, ∃ o, H p = some o ∧ mutO o = true
  | _, _, _, _, .nil, p, hp => by cases hp
  | _, _, _, _, .non s, p, hp => Slots.there s p hp
  | _, _, _, _, .som h s, p, hp => (List.mem_append.mp hp).elim (h.there p) (Slots.there s p)
theorem Slots.len : ∀ {ms : List Md} {σ : L2.St} {env : Env} {fp : List Addr}, Slots K I H ms σ env fp → ms.length = env.length ∧ σ.length = env.length
  | _, _, _, _, .nil => ⟨rfl, rfl⟩
  | _, _, _, _, .non s => ⟨congrArg (· + 1) s.len.1, congrArg (· + 1) s.len.2⟩
  | _, _, _, _, .som _ s => ⟨congrArg (· + 1) s.len.1, congrArg (· + 1) s.len.2⟩
theorem Slots.get : ∀ {ms : List Md} {σ : L2.St} {env : Env} {fp : List Addr} {i : Nat} {d : D}, Slots K I H ms σ env fp → env[i]? = some (some d) →
    ∃ m v fp1, ms[i]? = some m ∧ σ[i]? = some (some v) ∧ RepM m K I H v d fp1 ∧ ∀ p ∈ fp1, p ∈ fp
  | _, _, _, _, _, _, .nil, e => by simp at e
  | _, _, _, _, 0, _, .non s, e => by simp at e
  | _, _, _, _, 0, _, .som h s, e => by
    simp at e; subst e
    exact ⟨_, _, _, rfl, rfl, h, fun p hp => List.mem_append_left _ hp⟩
  | _, _, _, _, i + 1, d, .non s, e => by
    obtain ⟨m, v, fp1, h1, h2, h3, h4⟩ := Slots.get (i := i) (d := d) s (by simpa using e)
    exact ⟨m, v, fp1, by simpa using h1, by simpa using h2, h3, h4⟩
  | _, _, _, _, i + 1, d, .som h s, e => by
    obtain ⟨m, v, fp1, h1, h2, h3, h4⟩ := Slots.get (i := i) (d := d) s (by simpa using e)
    exact ⟨m, v, fp1, by simpa using h1, by simpa using h2, h3, fun p hp => List.mem_append_right _ (h4 p hp)⟩
/-- a slot is filled anew -/
theorem Slots.put {m : Md} {v : V} {d : D} {fp1 : List Addr} (h : RepM m K I H v d fp1) : ∀ {ms : List Md} {σ : L2.St} {env : Env} {fp : List Addr} {i : Nat}, Slots K I H ms σ env fp → i < ms.length → (fp1 ++ fp).Nodup →
    ∃ fp', Slots K I H (ms.set i m) (σ.set i (some v)) (env.set i (some d)) fp' ∧ fp'.Nodup ∧ (∀ p ∈ fp', p ∈ fp1 ∨ p ∈ fp)
  | _, _, _, _, _, .nil, hi, _ => by simp at hi
  | _, _, _, fp, 0, .non s, _, nd => ⟨fp1 ++ fp, .som h s, nd, fun p hp => List.mem_append.mp hp⟩
  | _, _, _, _, 0, .som (fp := fp) (fp1 := f0) q s, _, nd => by
    refine ⟨fp1 ++ fp, .som h s, ?_, fun p hp => (List.mem_append.mp hp).imp_right (List.mem_append_right _)⟩
    exact nd.sublist (List.Sublist.append_left (List.sublist_append_right _ _) _)
  | _, _, _, _, i + 1, .non s, hi, nd => by
    obtain ⟨fp', a, b, c⟩ := Slots.put h (i := i) s (by simpa using hi) nd
    exact ⟨fp', .non a, b, c⟩
  | _, _, _, _, i + 1, .som (fp := fp) (fp1 := f0) q s, hi, nd => by
    have nd1 : (fp1 ++ fp).Nodup := nd.sublist (List.Sublist.append_left (List.sublist_append_right _ _) _)
    obtain ⟨fp', a, b, c⟩ := Slots.put h (i := i) s (by simpa using hi) nd1
    refine ⟨f0 ++ fp', .som q a, ?_, fun p hp => ?_⟩
    · rw [List.nodup_append] at nd ⊢
      obtain ⟨n1, n2, n3⟩ := nd
      rw [List.nodup_append] at n2
      refine ⟨n2.1, b, fun x hx y hy => ?_⟩
      rcases c y hy with z | z
      · exact fun e => n3 y z x (List.mem_append_left _ hx) e.symm
      · exact n2.2.2 x hx y z
    · rcases List.mem_append.mp hp with z | z
      · exact .inr (List.mem_append_left _ z)
      · exact (c p z).imp_right (List.mem_append_right _)
/-- a list of one's own is changed in place -/
theorem Slots.write {a : Addr} {xs : List V} {ds : List D} (hx : Reps K I xs ds) : ∀ {ms : List Md} {σ : L2.St} {env : Env} {fp : List Addr} {i : Nat}, Slots K I H ms σ env fp → fp.Nodup → σ[i]? = some (some (.ref a)) → a ∈ fp →
    (∃ es m, env[i]? = some (some (.lst es)) ∧ ms[i]? = some m ∧ (m = .ow ∨ m = .pr)) → Slots K I (upd H a (.lst xs)) ms σ (env.set i (some (.lst ds))) fp
  | _, _, _, _, _, .nil, _, e, _, _ => by simp at e
  | _, _, _, _, 0, .non s, _, _, _, ⟨es, m, e, _⟩ => by simp at e
  | _, _, _, _, 0, .som (m := m) (fp := fp) (fp1 := f0) q s, nd, e, ha, ⟨es, m', e1, e2, e3⟩ => by
    simp at e e1 e2
    subst e e1 e2
    have q' : RepO K I H .l0 (.ref a) (.lst es) f0 := by rcases e3 with rfl | rfl <;> exact q
    rcases repO_l0.mp q' with ⟨z, _⟩ | ⟨a', xs', ds', z1, z2, h1, h2, h3⟩
    · cases z
    · cases z1
      subst h3
      have hn : a ∉ fp := fun z => by
        rw [List.nodup_append] at nd
        exact nd.2.2 a (by simp) a z rfl
      refine .som ?_ (Slots.move (.refl _) s fun p hp o hq => by rw [upd_ne (fun z => hn (by rw [← z]; exact hp))]; exact hq)
      have new : RepO K I (upd H a (.lst xs)) .l0 (.ref a) (.lst ds) [a] := .l0 upd_same hx
      rcases e3 with rfl | rfl <;> exact new
  | _, _, _, _, i + 1, .non s, nd, e, ha, ⟨es, m', e1, e2, e3⟩ => .non (Slots.write hx (i := i) s nd (by simpa using e) ha ⟨es, m', by simpa using e1, by simpa using e2, e3⟩)
  | _, _, _, _, i + 1, .som (fp := fp) (fp1 := f0) q s, nd, e, ha, ⟨es, m', e1, e2, e3⟩ => by
    rw [List.nodup_append] at nd
    have e1' := e1
    obtain ⟨m2, v2, fp2, g1, g2, g3, g4⟩ := Slots.get (i := i) s (by simpa using e1)
    have hin : a ∈ fp := by
      have g2' : some (some v2) = some (some (V.ref a)) := g2.symm.trans (by simpa using e)
      cases g2'
      have g1' : some m2 = some m' := g1.symm.trans (by simpa using e2)
      cases g1'
      have q' : RepO K I H .l0 (.ref a) (.lst es) fp2 := by rcases e3 with rfl | rfl <;> exact g3
      rcases repO_l0.mp q' with ⟨z, _⟩ | ⟨a', xs', ds', z1, z2, h1, h2, h3⟩
      · cases z
      · cases z1
        exact g4 a (by rw [h3]; simp)
    have hn : a ∉ f0 := fun z => nd.2.2 a z a hin rfl
    exact .som (q.move (.refl _) fun p hp o hq => by rw [upd_ne (fun z => hn (by rw [← z]; exact hp))]; exact hq)
      (Slots.write hx (i := i) s nd.2.1 (by simpa using e) hin ⟨es, m', by simpa using e1, by simpa using e2, e3⟩)
/-- the slots of a parameter's mode alone -/
def maskP : List Md → Env → Env
  | m :: ms, o :: env => (if m.par = true then o else none) :: maskP ms env
  | _, _ => []
theorem Slots.mask : ∀ {ms : List Md} {σ : L2.St} {env : Env} {fp : List Addr}, Slots K I H ms σ env fp → ∃ fp', Slots K I H ms σ (maskP ms env) fp' ∧ fp'.Sublist fp
  | _, _, _, _, .nil => ⟨[], .nil, .slnil⟩
  | _, _, _, _, .non (m := m) s => by
    obtain ⟨fp', a, b⟩ := s.mask
    refine ⟨fp', ?_, b⟩
    unfold maskP
    split <;> exact .non a
  | _, _, _, _, .som (m := m) (fp1 := f0) h s => by
    obtain ⟨fp', a, b⟩ := s.mask
    by_cases e : m.par = true
    · refine ⟨f0 ++ fp', ?_, b.append_left _⟩
      unfold maskP
      rw [if_pos e]
      exact .som h a
    · refine ⟨fp', ?_, b.trans (List.sublist_append_right _ _)⟩
      unfold maskP
      rw [if_neg e]
      exact .non a
/-- a list of one's own is shared from here on -/
theorem Slots.share : ∀ {ms : List Md} {σ : L2.St} {env : Env} {fp : List Addr} {i : Nat}, Slots K I H ms σ env fp → fp.Nodup → (∀ p ∈ fp, I p = none) → Ext I H → ms[i]? = some .ow →
    ∃ I' fp', Ext I I' ∧ Ext I' H ∧ Slots K I' H (ms.set i .sh) σ env fp' ∧ fp'.Sublist fp ∧ (∀ p ∈ fp', I' p = none) ∧ ∀ b, I' b ≠ none → I b ≠ none ∨ b ∈ fp
  | _, _, _, _, _, .nil, _, _, _, e => by simp at e
  | _, _, _, fp, 0, .non s, nd, off, eh, e => ⟨I, fp, .refl _, eh, .non s, .refl _, off, fun b hb => .inl hb⟩
  | _, _, _, _, 0, .som (m := m) (v := v) (d := d) (fp := fp) (fp1 := f0) q s, nd, off, eh, e => by
    simp at e
    subst e
    rcases repM_ow.mp q with ⟨a, b, rfl⟩ | ⟨a, xs, ds, rfl, rfl, h1, h2, rfl⟩
    · exact ⟨I, fp, .refl _, eh, .som (fp1 := []) (m := .sh) ⟨b, rfl⟩ s, .refl _, off, fun b hb => .inl hb⟩
    · have na : I a = none := off a (by simp)
      have hn : a ∉ fp := fun z => by
        rw [List.nodup_append] at nd
        exact nd.2.2 a (by simp) a z rfl
      refine ⟨upd I a (.lst xs), fp, .new na, fun b o hb => ?_, .som (fp1 := []) (m := .sh) ⟨.lst upd_same (h2.mono (.new na)), rfl⟩ (s.move (.new na) fun p hp o ho => ho), List.sublist_append_right _ _, fun p hp => ?_, fun b hb => ?_⟩
      · by_cases hba : b = a
        · subst hba; rw [upd_same] at hb; cases hb; exact h1
        · rw [upd_ne hba] at hb; exact eh b o hb
      · rw [upd_ne fun z => hn (by rw [← z]; exact hp)]; exact off p (List.mem_append_right _ hp)
      · by_cases hba : b = a
        · subst hba; exact .inr (by simp)
        · rw [upd_ne hba] at hb; exact .inl hb
  | _, _, _, _, i + 1, .non s, nd, off, eh, e => by
    obtain ⟨I', fp', a1, a2, a3, a4, a5, a6⟩ := s.share (i := i) nd off eh (by simpa using e)
    exact ⟨I', fp', a1, a2, .non a3, a4, a5, a6⟩
  | _, _, _, _, i + 1, .som (fp := fp) (fp1 := f0) q s, nd, off, eh, e => by
    have nd' := nd
    rw [List.nodup_append] at nd
    obtain ⟨I', fp', a1, a2, a3, a4, a5, a6⟩ := s.share (i := i) nd.2.1 (fun p hp => off p (List.mem_append_right _ hp)) eh (by simpa using e)
    refine ⟨I', f0 ++ fp', a1, a2, .som (q.move a1 fun p hp o ho => ho) a3, a4.append_left _, fun p hp => ?_, fun b hb => (a6 b hb).imp_right (List.mem_append_right _)⟩
    rcases List.mem_append.mp hp with z | z
    · cases hz : I' p with
      | none => rfl
      | some o =>
        rcases a6 p (by rw [hz]; simp) with y | y
        · exact absurd (off p (List.mem_append_left _ z)) y
        · exact absurd rfl (nd.2.2 p z p y)
    · exact a5 p z
/-- a state of the layer that holds the data env: I the shared part, fp the lists of the slots' own -/
structure St (K : PySem.W.Frag) (ms : List Md) (I : Hp) (σ : L2.St) (env : Env) (H : Hp) (fp : List Addr) : Prop where
  ext : Ext I H
  nd : fp.Nodup
  off : ∀ p ∈ fp, I p = none
  sl : Slots K I H ms σ env fp
/-- from one state to a later one -/
structure Step (I H : Hp) (fp : List Addr) (I' H' : Hp) (fp' : List Addr) : Prop where
  ext : Ext I I'
  keep : ∀ b o, H b = some o → b ∉ fp → H' b = some o
  own : ∀ p ∈ fp', p ∈ fp ∨ H p = none
  gr : ∀ b, I' b ≠ none → I b ≠ none ∨ b ∈ fp ∨ H b = none
theorem Step.refl (I H : Hp) (fp : List Addr) : Step I H fp I H fp := ⟨.refl _, fun _ _ h _ => h, fun _ h => .inl h, fun _ h => .inl h⟩
end
section
variable {K : PySem.W.Frag} {I I1 I2 H H1 H2 : Hp} {fp fp1 fp2 : List Addr} {ms : List Md} {σ : L2.St} {env : Env}
theorem Step.trans (a : Step I H fp I1 H1 fp1) (b : Step I1 H1 fp1 I2 H2 fp2) : Step I H fp I2 H2 fp2 where
  ext := a.ext.trans b.ext
  keep := fun c o h hc => b.keep c o (a.keep c o h hc) fun z => by
    rcases a.own c z with y | y
    · exact hc y
    · rw [h] at y; cases y
  own := fun p hp => by
    rcases b.own p hp with z | z
    · exact a.own p z
    · by_cases hf : p ∈ fp
      · exact .inl hf
      · cases q : H p with
        | none => exact .inr rfl
        | some o => rw [a.keep p o q hf] at z; cases z
  gr := fun c hc => by
    rcases b.gr c hc with z | z | z
    · exact a.gr c z
    · rcases a.own c z with y | y
      · exact .inr (.inl y)
      · exact .inr (.inr y)
    · by_cases hf : c ∈ fp
      · exact .inr (.inl hf)
      · cases q : H c with
        | none => exact .inr (.inr rfl)
        | some o => rw [a.keep c o q hf] at z; cases z
/-- a new shared object -/
theorem Step.newI {p : Addr} {o : HO} (hp : H p = none) (e : Ext I H) : Step I H fp (upd I p o) (upd H p o) fp where
  ext := .new (e.free hp)
  keep := fun b u h _ => Ext.new hp b u h
  own := fun _ h => .inl h
  gr := fun b hb => by
    by_cases e : b = p
    · subst e; exact .inr (.inr hp)
    · rw [upd_ne e] at hb; exact .inl hb
theorem St.newI {p : Addr} {o : HO} (s : St K ms I σ env H fp) (hp : H p = none) : St K ms (upd I p o) σ env (upd H p o) fp where
  ext := s.ext.upd2
  nd := s.nd
  off := fun q hq => by
    obtain ⟨xs, hx, _⟩ := s.sl.there q hq
    rw [upd_ne (ne_of_none hx hp)]
    exact s.off q hq
  sl := s.sl.move (.new (s.ext.free hp)) fun q hq o h => Ext.new hp q o h
/-- a new object that is not shared (yet) -/
theorem Step.newH {p : Addr} {o : HO} (hp : H p = none) : Step I H fp I (upd H p o) fp where
  ext := .refl _
  keep := fun b u h _ => Ext.new hp b u h
  own := fun _ h => .inl h
  gr := fun b hb => .inl hb
theorem St.newH {p : Addr} {o : HO} (s : St K ms I σ env H fp) (hp : H p = none) : St K ms I σ env (upd H p o) fp where
  ext := s.ext.trans (.new hp)
  nd := s.nd
  off := s.off
  sl := s.sl.move (.refl _) fun q hq o h => Ext.new hp q o h
/-- the slot can be read -/
def rdyM (ms : List Md) (i : Nat) : Bool := match ms[i]? with
  | some m => m.rdy
  | none => false
theorem rdyM_some {ms : List Md} {i : Nat} {m : Md} (h : rdyM ms i = true) (e : ms[i]? = some m) : m.rdy = true := by
  unfold rdyM at h
  rw [e] at h
  exact h
theorem St.at (s : St K ms I σ env H fp) {i : Nat} {d : D} (e : env[i]? = some (some d)) : ∃ v, σ[i]? = some (some v) := by
  obtain ⟨m, v, f, h1, h2, h3, h4⟩ := s.sl.get e
  exact ⟨v, h2⟩
theorem St.rd (s : St K ms I σ env H fp) {i : Nat} {d : D} (e : env[i]? = some (some d)) (hm : rdyM ms i = true) : ∃ v, σ[i]? = some (some v) ∧ Rd1 K I H v d := by
  obtain ⟨m, v, f, h1, h2, h3, h4⟩ := s.sl.get e
  exact ⟨v, h2, h3.rd s.ext (rdyM_some hm h1)⟩
theorem St.sh (s : St K ms I σ env H fp) {i : Nat} {d : D} (e : env[i]? = some (some d)) (hm : ms[i]? = some .sh) : ∃ v, σ[i]? = some (some v) ∧ Rep K I v d := by
  obtain ⟨m, v, f, h1, h2, h3, h4⟩ := s.sl.get e
  rw [hm] at h1; cases h1
  exact ⟨v, h2, h3.1⟩
end
end DI
set_option Elab.async false
set_option autoImplicit false
set_option linter.all false
set_option maxRecDepth 100000
set_option maxHeartbeats 2000000
/-! DI2: meanings of expressions; what a prover's rule asks; operands, prims. -/
namespace DI
open PySem PySem.Spec PyProof.Rows
open L2 hiding XE Takes Takes.imp CX XE.of_call XE.new XE.leave takes_of passes_call Sky.land MkP PMk ps_raise mk_of ps_try_as HdsOk ps_try_many pmk_own passAt takes_none5 takes0 passL mk_end pmk_oex
open L2N hiding St
/-- an own exception: its class's name, its fields -/
structure Exn where
  cls : Str
  fs : List (Str × D)
abbrev Out (α : Type) := Option (Except Exn α × Env)
abbrev CE := Env → Out D
abbrev CB := Env → Out Bool
def mbind {α β : Type} (x : Out α) (k : α → Env → Out β) : Out β :=
  match x with
  | none => none
  | some (.error e, s) => some (.error e, s)
  | some (.ok a, s) => k a s
section
variable {α β : Type} {k : α → Env → Out β}
theorem mbind_ok {a : α} {s : Env} : mbind (some (.ok a, s) : Out α) k = k a s := rfl
theorem mbind_some {x : Out α} {r : Except Exn β} {s : Env} (h : mbind x k = some (r, s)) : (∃ e, x = some (.error e, s) ∧ r = .error e) ∨ ∃ a s1, x = some (.ok a, s1) ∧ k a s1 = some (r, s) := by
  match x, h with
  | some (.error e, s1), h =>
    have h' : some (Except.error e, s1) = some (r, s) := h
    cases h'
    exact .inl ⟨e, rfl, rfl⟩
  | some (.ok a, s1), h => exact .inr ⟨a, s1, rfl, h⟩
end
def getS : Env → Nat → Option D
  | [], _ => none
  | o :: _, 0 => o
  | _ :: r, i + 1 => getS r i
theorem getS_iff : ∀ {env : Env} {i : Nat} {d : D}, getS env i = some d ↔ env[i]? = some (some d)
  | [], _, _ => by simp [getS]
  | o :: r, 0, d => by simp [getS]
  | o :: r, i + 1, d => by simp [getS, getS_iff (env := r) (i := i) (d := d)]
inductive Opd where
  | tm (f : CE)
  | vr (i : Nat)
def evalOs : List Opd → Env → Out (List D)
  | [], env => some (.ok [], env)
  | .tm f :: os, env => mbind (f env) fun d e1 => mbind (evalOs os e1) fun ds e2 => some (.ok (d :: ds), e2)
  | .vr i :: os, env => match getS env i with
    | none => none
    | some _ => mbind (evalOs os env) fun ds e2 => match getS e2 i with
      | some d => some (.ok (d :: ds), e2)
      | none => none
def ExcIs (K : PySem.W.Frag) (mg : Str → Option Value) (I : Hp) (e : Exn) (c : Value) (dd : Option Addr) : Prop :=
  mg e.cls = some c ∧ match dd with
    | none => e.fs = []
    | some a => ∃ vs, I a = some (.xd ((e.fs.map (·.1)).zip vs)) ∧ Reps K I vs (e.fs.map (·.2))
section
variable (K : PySem.W.Frag) (mg : Str → Option Value) (ms : List Md)
/-- the exception's way -/
def Bad (I : Hp) (σ : L2.St) (H : Hp) (fp : List Addr) (W : WX) (e : Exn) (env' : Env) : Prop :=
  ∀ c dd H' I' fp', St K ms I' σ env' H' fp' → Step I H fp I' H' fp' → ExcIs K mg I' e c dd → W c dd σ H'
/-- an expression's reading by its meaning f; m: the mode of what comes -/
def tE (m : Md) (f : CE) (W : WX) : TE := fun σ H Q => ∃ I env fp, St K ms I σ env H fp ∧ ∃ r env', f env = some (r, env') ∧
  (∀ d, r = .ok d → ∀ v H' I' fp' fv, St K ms I' σ env' H' fp' → Step I H fp I' H' (fv ++ fp') → RepM m K I' H' v d fv → (fv ++ fp').Nodup → (∀ p ∈ fv, I' p = none) → Q v H') ∧
  (∀ e, r = .error e → Bad K mg ms I σ H fp W e env')
def tB1 (f : CB) (W : WX) : TT := fun σ H Q => ∃ I env fp, St K ms I σ env H fp ∧ ∃ r env', f env = some (r, env') ∧
  (∀ b, r = .ok b → ∀ H' I' fp', St K ms I' σ env' H' fp' → Step I H fp I' H' fp' → Q b H') ∧
  (∀ e, r = .error e → Bad K mg ms I σ H fp W e env')
def tO (W : WX) : Opd → TE
  | .tm f => tE K mg ms .sh f W
  | .vr i => tVar i
def tOs (W : WX) : List Opd → TA
  | [] => tNil
  | o :: os => tCons (tO K mg ms W o) (tOs W os)
end
inductive OpRs (K : PySem.W.Frag) (I H : Hp) (σ : L2.St) (env : Env) : List Opd → List V → List D → Prop
  | nil : OpRs K I H σ env [] [] []
  | tm {f : CE} {os : List Opd} {v : V} {d : D} {vs : List V} {ds : List D} : Rep K I v d → OpRs K I H σ env os vs ds → OpRs K I H σ env (.tm f :: os) (v :: vs) (d :: ds)
  | vr {i : Nat} {os : List Opd} {v : V} {d : D} {vs : List V} {ds : List D} : σ[i]? = some (some v) → getS env i = some d → OpRs K I H σ env os vs ds → OpRs K I H σ env (.vr i :: os) (v :: vs) (d :: ds)
abbrev Rds (K : PySem.W.Frag) (I H : Hp) : List V → List D → Prop := Paired (Rd1 K I H)
section
variable {K : PySem.W.Frag} {mg : Str → Option Value} {ms : List Md} {I I1 H H1 : Hp} {W : WX} {σ : L2.St} {env env1 env2 : Env} {fp fp1 : List Addr}
/-- all operands can be read -/
def prOk (ms : List Md) : List Opd → Bool
  | [] => true
  | .tm _ :: os => prOk ms os
  | .vr i :: os => rdyM ms i && prOk ms os
theorem OpRs.rds (s : St K ms I σ env H fp) : ∀ {os : List Opd} {vs : List V} {ds : List D}, OpRs K I H σ env os vs ds → prOk ms os = true → Rds K I H vs ds
  | _, _, _, .nil, _ => .nil
  | _, _, _, .tm h r, o => .cons (.of_rep s.ext h) (OpRs.rds s r o)
  | _, _, _, .vr (i := i) (os := os) h1 h2 r, o => by
    have o' : (rdyM ms i && prOk ms os) = true := o
    rw [Bool.and_eq_true] at o'
    obtain ⟨v', e1, rd⟩ := s.rd (getS_iff.mp h2) o'.1
    rw [h1] at e1; cases e1
    exact .cons rd (OpRs.rds s r o'.2)
def Opd.isTm : Opd → Bool
  | .tm _ => true
  | .vr _ => false
theorem OpRs.reps : ∀ {os : List Opd} {vs : List V} {ds : List D}, OpRs K I H σ env os vs ds → os.all Opd.isTm = true → Reps K I vs ds
  | _, _, _, .nil, _ => .nil
  | _, _, _, .tm h r, e => .cons h (OpRs.reps r (by simpa [Opd.isTm] using e))
  | _, _, _, .vr _ _ r, e => by simp [Opd.isTm] at e
theorem Bad.back {e : Exn} (st : Step I H fp I1 H1 fp1) (b : Bad K mg ms I σ H fp W e env2) : Bad K mg ms I1 σ H1 fp1 W e env2 :=
  fun c dd H' I' fp' s t x => b c dd H' I' fp' s (st.trans t) x
/-- THE OPERANDS, one after the other -/
theorem os_read : ∀ {os : List Opd} {I H : Hp} {env env' : Env} {fp : List Addr} {r : Except Exn (List D)} {Q : List V → Hp → Prop}, St K ms I σ env H fp → evalOs os env = some (r, env') →
    (∀ ds, r = .ok ds → ∀ vs H' I' fp', St K ms I' σ env' H' fp' → Step I H fp I' H' fp' → OpRs K I' H' σ env' os vs ds → Q vs H') →
    (∀ e, r = .error e → Bad K mg ms I σ H fp W e env') → tOs K mg ms W os σ H Q
  | [], I, H, env, env', fp, r, Q, s, h, q, _ => by
    have h' : some (Except.ok [], env) = some (r, env') := h
    cases h'
    exact q _ rfl [] H I fp s (.refl _ _ _) .nil
  | .tm f :: os, I, H, env, env', fp, r, Q, s, h, q, b => by
    have h' : mbind (f env) (fun d e1 => mbind (evalOs os e1) fun ds e2 => some (.ok (d :: ds), e2)) = some (r, env') := h
    rcases mbind_some h' with ⟨e, h1, rfl⟩ | ⟨d, e1, h1, h2⟩
    · exact ⟨I, env, fp, s, _, _, h1, fun d z => (by cases z), fun e' z => by cases z; exact b e rfl⟩
    · refine ⟨I, env, fp, s, _, _, h1, fun d' z v H1 I1 fp1 fv s1 t1 rv nd off => ?_, fun e' z => by cases z⟩
      cases z
      obtain ⟨rv, rfl⟩ := rv
      rcases mbind_some h2 with ⟨e, h3, rfl⟩ | ⟨ds, e2, h3, h4⟩
      · exact os_read s1 h3 (fun ds z => by cases z) fun e' z => by cases z; exact (b e rfl).back t1
      · have h4' : some (Except.ok (d :: ds), e2) = some (r, env') := h4
        cases h4'
        refine os_read s1 h3 (fun ds' z vs H2 I2 fp2 s2 t2 rs => ?_) fun e' z => by cases z
        cases z
        exact q _ rfl (v :: vs) H2 I2 fp2 s2 (Step.trans t1 t2) (.tm (rv.mono t2.ext) rs)
  | .vr i :: os, I, H, env, env', fp, r, Q, s, h, q, b => by
    have h0 : (match getS env i with
      | none => none
      | some _ => mbind (evalOs os env) (fun ds e2 => match getS e2 i with
        | some d => some (.ok (d :: ds), e2)
        | none => none)) = some (r, env') := h
    cases g0 : getS env i with
    | none => simp only [g0] at h0; cases h0
    | some d0 =>
      simp only [g0] at h0
      obtain ⟨v, hs⟩ := s.at (getS_iff.mp g0)
      refine ⟨v, hs, ?_⟩
      rcases mbind_some h0 with ⟨e, h1, rfl⟩ | ⟨ds, e2, h1, h2⟩
      · exact os_read s h1 (fun ds z => by cases z) fun e' z => by cases z; exact b e rfl
      · cases g : getS e2 i with
        | none => simp only [g] at h2; cases h2
        | some d =>
          simp only [g] at h2
          cases h2
          refine os_read s h1 (fun ds' z vs H2 I2 fp2 s2 t2 rs => ?_) fun e' z => by cases z
          cases z
          exact q _ rfl (v :: vs) H2 I2 fp2 s2 t2 (.vr hs g rs)
end
/-! ### judgements -/
/-- e means f; what comes is in the mode m -/
def DE (X : Cx) (ms : List Md) (m : Md) (e : Expr) (f : CE) : Prop := ∀ W, Takes X W → PE X e (tE X.K X.mg ms m f W)
def DB (X : Cx) (ms : List Md) (e : Expr) (f : CB) : Prop := ∀ W, Takes X W → PT X e (tB1 X.K X.mg ms f W)
def DW (X : Cx) (ms : List Md) (e : Expr) (f : CB) : Prop := ∀ W, Takes X W → PW X e (tB1 X.K X.mg ms f W)
def DO (X : Cx) (ms : List Md) (e : Expr) : Opd → Prop
  | .tm f => DE X ms .sh e f
  | .vr i => PE X e (tVar i)
inductive DOs (X : Cx) (ms : List Md) : List Expr → List Opd → Prop
  | nil : DOs X ms [] []
  | cons {e : Expr} {es : List Expr} {o : Opd} {os : List Opd} : DO X ms e o → DOs X ms es os → starEach (e :: es) X.env = (false, eval e X.env) :: starEach es X.env → DOs X ms (e :: es) (o :: os)
section
variable {X : Cx} {ms : List Md} {m : Md} {e a b c : Expr} {es : List Expr} {f fa fb : CE} {W : WX} {o oa ob oc : Opd} {os : List Opd} {pos p : Pos}
theorem pe_imp {t t' : TE} (h : PE X e t) (i : ∀ σ H Q, t' σ H Q → t σ H Q) : PE X e t' := ⟨fun pins s σ H Q I q => h.run pins s σ H Q I (i σ H Q q)⟩
theorem pt_imp {t t' : TT} (h : PT X e t) (i : ∀ σ H Q, t' σ H Q → t σ H Q) : PT X e t' := ⟨fun pins s σ H Q I q => h.run pins s σ H Q I (i σ H Q q)⟩
theorem pw_imp {t t' : TT} (h : PW X e t) (i : ∀ σ H Q, t' σ H Q → t σ H Q) : PW X e t' := ⟨fun wh pins s σ H Q I q => h.run wh pins s σ H Q I (i σ H Q q)⟩
theorem ps_imp {st : Stmt} {t t' : TS} (h : PS X st t) (i : ∀ D σ H, t' D σ H → t D σ H) : PS X st t' := ⟨fun pins s σ H D I q => h.run pins s σ H D I (i D σ H q)⟩
theorem pss_imp {st : List Stmt} {t t' : TS} (h : PSs X st t) (i : ∀ D σ H, t' D σ H → t D σ H) : PSs X st t' := ⟨fun pins s σ H D I q => h.run pins s σ H D I (i D σ H q)⟩
theorem DO.pe (h : DO X ms e o) (tk : Takes X W) : PE X e (tO X.K X.mg ms W o) := by
  cases o with
  | tm f => exact h W tk
  | vr i => exact h
theorem DOs.pa (h : DOs X ms es os) (tk : Takes X W) : PA X es (tOs X.K X.mg ms W os) := by
  induction h with
  | nil => exact pa_nil
  | cons h1 _ h3 ih => exact pa_cons (h1.pe tk) ih h3
theorem do_tm (h : DE X ms .sh e f) : DO X ms e (.tm f) := h
theorem do_vr (i : Nat) {x : Str} {pos : Pos} (hN : X.N[i]? = some x := by rfl) (hv : Vis X.env.scope x := by first | exact Or.inl rfl | exact Or.inr (Or.inl rfl) | exact Or.inr (Or.inr rfl)) (hd : (x == ("__debug__" : Str)) = false := by decide)
    (hcd : (x == ("__classdict__" : Str)) = false := by decide) : DO X ms (.Name x pos) (.vr i) := pe_var hN hv hd hcd
theorem dos_nil : DOs X ms [] [] := .nil
theorem dos_cons (h : DO X ms e o) (r : DOs X ms es os) (hs : starEach (e :: es) X.env = (false, eval e X.env) :: starEach es X.env := by rfl) : DOs X ms (e :: es) (o :: os) := .cons h r hs
end
/-! ### one after the other -/
section
variable {K : PySem.W.Frag} {mg : Str → Option Value} {ms : List Md} {I H : Hp} {W : WX} {σ : L2.St} {env env' : Env} {fp : List Addr} {β : Type} {r : Except Exn β}
theorem tE_then {f1 : CE} {k : D → Env → Out β} {Q : VK} (s : St K ms I σ env H fp) (h : mbind (f1 env) k = some (r, env')) (b : ∀ e, r = .error e → Bad K mg ms I σ H fp W e env')
    (go : ∀ d e1 v H1 I1 fp1, k d e1 = some (r, env') → St K ms I1 σ e1 H1 fp1 → Step I H fp I1 H1 fp1 → Rep K I1 v d → Q v H1) : tE K mg ms .sh f1 W σ H Q := by
  rcases mbind_some h with ⟨e, h1, rfl⟩ | ⟨d, e1, h1, h2⟩
  · exact ⟨I, env, fp, s, _, _, h1, fun d z => (by cases z), fun e' z => by cases z; exact b e rfl⟩
  · refine ⟨I, env, fp, s, _, _, h1, fun d' z v H1 I1 fp1 fv s1 t1 rv nd off => ?_, fun e' z => by cases z⟩
    cases z
    obtain ⟨rv, rfl⟩ := rv
    exact go d e1 v H1 I1 fp1 h2 s1 t1 rv
theorem tB_then {f1 : CB} {k : Bool → Env → Out β} {Q : Bool → Hp → Prop} (s : St K ms I σ env H fp) (h : mbind (f1 env) k = some (r, env')) (b : ∀ e, r = .error e → Bad K mg ms I σ H fp W e env')
    (go : ∀ d e1 H1 I1 fp1, k d e1 = some (r, env') → St K ms I1 σ e1 H1 fp1 → Step I H fp I1 H1 fp1 → Q d H1) : tB1 K mg ms f1 W σ H Q := by
  rcases mbind_some h with ⟨e, h1, rfl⟩ | ⟨d, e1, h1, h2⟩
  · exact ⟨I, env, fp, s, _, _, h1, fun d z => (by cases z), fun e' z => by cases z; exact b e rfl⟩
  · refine ⟨I, env, fp, s, _, _, h1, fun d' z H1 I1 fp1 s1 t1 => ?_, fun e' z => by cases z⟩
    cases z
    exact go d e1 H1 I1 fp1 h2 s1 t1
theorem os_then {os : List Opd} {k : List D → Env → Out β} {Q : List V → Hp → Prop} (s : St K ms I σ env H fp) (h : mbind (evalOs os env) k = some (r, env')) (b : ∀ e, r = .error e → Bad K mg ms I σ H fp W e env')
    (go : ∀ ds e1 vs H1 I1 fp1, k ds e1 = some (r, env') → St K ms I1 σ e1 H1 fp1 → Step I H fp I1 H1 fp1 → OpRs K I1 H1 σ e1 os vs ds → Q vs H1) : tOs K mg ms W os σ H Q := by
  rcases mbind_some h with ⟨e, h1, rfl⟩ | ⟨d, e1, h1, h2⟩
  · exact os_read s h1 (fun ds z => by cases z) fun e' z => by cases z; exact b e rfl
  · exact os_read s h1 (fun ds z vs H1 I1 fp1 s1 t1 rs => by cases z; exact go d e1 vs H1 I1 fp1 h2 s1 t1 rs) fun e' z => by cases z
end
/-! ### prims -/
abbrev Prim := List D → Option D
def pOut (g : Option D) (e : Env) : Out D := match g with
  | some d => some (.ok d, e)
  | none => none
def cPrim (g : Prim) (os : List Opd) : CE := fun env => mbind (evalOs os env) fun ds e => pOut (g ds) e
theorem pOut_some {g : Option D} {e env' : Env} {r : Except Exn D} (h : pOut g e = some (r, env')) : ∃ d, g = some d ∧ r = .ok d ∧ env' = e := by
  cases g with
  | none => cases h
  | some d => cases h; exact ⟨d, rfl, rfl, rfl⟩
abbrev RL := List V → Hp → VK → Prop
/-- the rule r does what g says; fr: what comes is new, or no list -/
def PrimOk (K : PySem.W.Frag) (fr : Bool) (r : RL) (g : Prim) : Prop :=
  ∀ (I H : Hp) (vs : List V) (ds : List D) (d : D) (Q : VK), Ext I H → Rds K I H vs ds → g ds = some d →
    (∀ v, (fr = true → d.nl = true) → Rep K I v d → Q v H) →
    (∀ p xs es, d = .lst es → H p = none → Reps K I xs es → Q (.ref p) (upd H p (.lst xs))) →
    (∀ p xs es, d = .tup es → H p = none → Reps K I xs es → Q (.ref p) (upd H p (.tup xs))) →
    (∀ p ks xs es, d = .dic ks es → H p = none → ks.length = xs.length → Reps K I xs es → Q (.ref p) (upd H p (.dK (ks.zip xs)))) → r vs H Q
section
variable {K : PySem.W.Frag} {mg : Str → Option Value} {ms : List Md} {I H : Hp} {W : WX} {σ : L2.St} {env env' : Env} {fp : List Addr}
/-- what a result's continuation wants, from a state -/
theorem res_end {m : Md} {fr : Bool} {d : D} {Q : VK} (hm : m.fl = true) (hf : m = .sh ∨ fr = true) (s : St K ms I σ env H fp)
    (q : ∀ v H' I' fp' fv, St K ms I' σ env H' fp' → Step I H fp I' H' (fv ++ fp') → RepM m K I' H' v d fv → (fv ++ fp').Nodup → (∀ p ∈ fv, I' p = none) → Q v H') :
    (∀ v, (fr = true → d.nl = true) → Rep K I v d → Q v H) ∧
    (∀ p xs es, d = .lst es → H p = none → Reps K I xs es → Q (.ref p) (upd H p (.lst xs))) ∧
    (∀ p xs es, d = .tup es → H p = none → Reps K I xs es → Q (.ref p) (upd H p (.tup xs))) ∧
    (∀ p ks xs es, d = .dic ks es → H p = none → ks.length = xs.length → Reps K I xs es → Q (.ref p) (upd H p (.dK (ks.zip xs)))) := by
  have sh : ∀ v d', d = d' → d.nl = true ∨ m = .sh → ∀ I' H', St K ms I' σ env H' fp → Step I H fp I' H' fp → Rep K I' v d' → Q v H' := fun v d' e hn I' H' s' t' r => by
    subst e
    refine q v H' I' fp [] s' t' ?_ s'.nd (fun p hp => by cases hp)
    rcases hn with z | z
    · exact .nl z r
    · subst z; exact ⟨r, rfl⟩
  refine ⟨fun v hv r => ?_, fun p xs es e hp r => ?_, fun p xs es e hp r => ?_, fun p ks xs es e hp hl r => ?_⟩
  · refine sh v d rfl ?_ I H s (.refl _ _ _) r
    rcases hf with z | z
    · exact .inr z
    · exact .inl (hv z)
  · subst e
    have fresh : p ∉ fp := fun z => by
      obtain ⟨ys, hy, _⟩ := s.sl.there p z
      rw [hp] at hy; cases hy
    rcases Md.fl_cases hm with rfl | rfl
    · exact sh (.ref p) _ rfl (.inr rfl) _ _ (s.newI hp) (.newI hp s.ext) (.lst upd_same (r.mono (.new (s.ext.free hp))))
    · refine q (.ref p) _ I fp [p] (s.newH hp) ⟨.refl _, fun b o h _ => Ext.new hp b o h, fun b hb => ?_, fun b hb => .inl hb⟩ (RepO.l0 upd_same r) (List.nodup_cons.mpr ⟨fresh, s.nd⟩) (fun b hb => ?_)
      · rcases List.mem_cons.mp hb with z | z
        · subst z; exact .inr hp
        · exact .inl z
      · simp at hb; subst hb; exact s.ext.free hp
  · subst e
    exact sh (.ref p) _ rfl (.inl rfl) _ _ (s.newI hp) (.newI hp s.ext) (.tup (SqT.of upd_same) (r.mono (.new (s.ext.free hp))))
  · subst e
    exact sh (.ref p) _ rfl (.inl rfl) _ _ (s.newI hp) (.newI hp s.ext) (.dic upd_same hl (r.mono (.new (s.ext.free hp))))
theorem prim_read {m : Md} {fr : Bool} {r : RL} {g : Prim} {os : List Opd} {H : Hp} {Q : VK} (hp : PrimOk K fr r g) (ho : prOk ms os = true) (hm : m.fl = true) (hf : m = .sh ∨ fr = true) (h : tE K mg ms m (cPrim g os) W σ H Q) : tOs K mg ms W os σ H (fun vs H' => r vs H' Q) := by
  obtain ⟨I, env, fp, s, x, env', h1, q, b⟩ := h
  refine os_then s h1 b fun ds e1 vs H1 I1 fp1 h2 s1 t1 rs => ?_
  obtain ⟨d, g1, rfl, rfl⟩ := pOut_some h2
  obtain ⟨a1, a2, a3, a4⟩ := res_end hm hf s1 fun v H' I' fp' fv s' t' => q d rfl v H' I' fp' fv s' (t1.trans t')
  exact hp I1 H1 vs ds d Q s1.ext (rs.rds s1 ho) g1 a1 a2 a3 a4
end
def rOf2 (r : R2) : RL := fun vs H Q => match vs with
  | [x, y] => r x y H Q
  | _ => False
def rOf1 (r : V → Hp → VK → Prop) : RL := fun vs H Q => match vs with
  | [x] => r x H Q
  | _ => False
section
variable {X : Cx} {ms : List Md} {m : Md} {e a b c : Expr} {es : List Expr} {f fa fb : CE} {o oa ob oc : Opd} {os : List Opd} {pos p p2 : Pos} {g : Prim} {fr : Bool} {r : R2}
theorem de_bin {op : Operator} (hO : OpR X (binaryOp op) r) (hp : PrimOk X.K fr (rOf2 r) g) (ha : DO X ms a oa) (hb : DO X ms b ob) (ho : prOk ms [oa, ob] = true := by rfl) (hm : m.fl = true := by rfl) (hf : m = .sh ∨ fr = true := by first | exact .inl rfl | exact .inr rfl) :
    DE X ms m (.BinOp a op b pos) (cPrim g [oa, ob]) := fun W tk => pe_imp (pe_op hO (ha.pe tk) (hb.pe tk)) fun σ H Q h => prim_read hp ho hm hf h
theorem de_un {op : UnaryOp} {r : V → Hp → VK → Prop} (hO : UnR X (unaryOp op) r) (hp : PrimOk X.K fr (rOf1 r) g) (ha : DO X ms a oa) (ho : prOk ms [oa] = true := by rfl) (hm : m.fl = true := by rfl) (hf : m = .sh ∨ fr = true := by first | exact .inl rfl | exact .inr rfl) :
    DE X ms m (.UnaryOp op a pos) (cPrim g [oa]) := fun W tk => pe_imp (pe_un hO (ha.pe tk)) fun σ H Q h => prim_read hp ho hm hf h
theorem de_cmp {op : CmpOp} (hO : OpR X (compareOp op) r) (hp : PrimOk X.K fr (rOf2 r) g) (ha : DO X ms a oa) (hb : DO X ms b ob) (hk : behindInMarks op b = false := by first | exact nomark _ | rfl) (ho : prOk ms [oa, ob] = true := by rfl) (hm : m.fl = true := by rfl) (hf : m = .sh ∨ fr = true := by first | exact .inl rfl | exact .inr rfl) :
    DE X ms m (.Compare a [op] [b] pos) (cPrim g [oa, ob]) := fun W tk => pe_imp (pe_cmpR hO (ha.pe tk) (hb.pe tk) hk) fun σ H Q h => prim_read hp ho hm hf h
theorem de_ix (hr : IxR X r) (hp : PrimOk X.K fr (rOf2 r) g) (ha : DO X ms a oa) (hb : DO X ms b ob) (hs : PlainIx b := by exact fun _ _ => rfl) (ho : prOk ms [oa, ob] = true := by rfl) (hm : m.fl = true := by rfl) (hf : m = .sh ∨ fr = true := by first | exact .inl rfl | exact .inr rfl) :
    DE X ms m (.Subscript a b pos) (cPrim g [oa, ob]) := fun W tk => pe_imp (pe_ix hr (ha.pe tk) (hb.pe tk) hs) fun σ H Q h => prim_read hp ho hm hf h
theorem de_callB {x : Str} {id : String} {r : RL} (hc : CallR X (.builtin id) r) (hp : PrimOk X.K fr r g) (hg : Gl X x) (hx : X.mg x = none) (hv : bootBuiltins x = some (.builtin id)) (ha : DOs X ms (e :: es) os) (ho : prOk ms os = true := by rfl) (hm : m.fl = true := by rfl)
    (hf : m = .sh ∨ fr = true := by first | exact .inl rfl | exact .inr rfl) (hn : x ≠ "__name__" := by decide) (hdb : (x == ("__debug__" : Str)) = false := by decide)
    (he : starEach (e :: es) X.env = (false, eval e X.env) :: starEach es X.env := by rfl) (hpl : (backTo pos (starEach es X.env)).any (·.1) = false := by rfl) :
    DE X ms m (.Call (.Name x p) (e :: es) [] pos) (cPrim g os) := fun W tk => pe_imp (pe_callB hc hg hx hv (ha.pa tk) hn hdb he hpl) fun σ H Q h => prim_read hp ho hm hf h
theorem de_callTy {x : Str} {T : String} {r : RL} (hc : CallR X (.type T) r) (hp : PrimOk X.K fr r g) (hg : Gl X x) (hx : X.mg x = none) (hv : bootBuiltins x = some (.type T)) (ha : DOs X ms (e :: es) os) (ho : prOk ms os = true := by rfl) (hm : m.fl = true := by rfl)
    (hf : m = .sh ∨ fr = true := by first | exact .inl rfl | exact .inr rfl) (hn : x ≠ "__name__" := by decide) (hdb : (x == ("__debug__" : Str)) = false := by decide)
    (he : starEach (e :: es) X.env = (false, eval e X.env) :: starEach es X.env := by rfl) (hpl : (backTo pos (starEach es X.env)).any (·.1) = false := by rfl) :
    DE X ms m (.Call (.Name x p) (e :: es) [] pos) (cPrim g os) := fun W tk => pe_imp (pe_callTy hc hg hx hv (ha.pa tk) hn hdb he hpl) fun σ H Q h => prim_read hp ho hm hf h
/-! ### names, constants, tests -/
def cVar (i : Nat) : CE := fun env => pOut (getS env i) env
def cK (d : D) : CE := fun env => some (.ok d, env)
theorem de_var (i : Nat) {x : Str} (hs : ms[i]? = some .sh := by rfl) (hN : X.N[i]? = some x := by rfl) (hv : Vis X.env.scope x := by first | exact Or.inl rfl | exact Or.inr (Or.inl rfl) | exact Or.inr (Or.inr rfl)) (hd : (x == ("__debug__" : Str)) = false := by decide)
    (hcd : (x == ("__classdict__" : Str)) = false := by decide) : DE X ms .sh (.Name x pos) (cVar i) := fun W tk => pe_imp (pe_var hN hv hd hcd) fun σ H Q h => by
  obtain ⟨I, env, fp, s, r, env', h1, q, b⟩ := h
  obtain ⟨d, g1, rfl, rfl⟩ := pOut_some h1
  obtain ⟨v, h2, h3⟩ := s.sh (getS_iff.mp g1) hs
  exact ⟨v, h2, q d rfl v H I fp [] s (.refl _ _ _) ⟨h3, rfl⟩ s.nd fun p hp => by cases hp⟩
/-- a constant's reading -/
theorem de_const {v : V} {d : D} (h : PE X e (tC v)) (hr : ∀ I, Rep X.K I v d) (hd : d.nl = true) : DE X ms m e (cK d) := fun W tk => pe_imp h fun σ H Q h => by
  obtain ⟨I, env, fp, s, r, env', h1, q, b⟩ := h
  cases h1
  exact q d rfl v H I fp [] s (.refl _ _ _) (.nl hd (hr I)) s.nd fun p hp => by cases hp
theorem de_int {i : Int} {j : Nat} : DE X ms m (.Constant (.int i) j pos) (cK (.int i)) := de_const pe_int (fun _ => .int i) rfl
theorem de_bl {i : Bool} {j : Nat} : DE X ms m (.Constant (.bool i) j pos) (cK (.bl i)) := de_const pe_bl (fun _ => .bl i) rfl
theorem de_non {j : Nat} : DE X ms m (.Constant .none j pos) (cK .non) := de_const pe_non (fun _ => .non) rfl
theorem de_str {i : Str} {j : Nat} : DE X ms m (.Constant (.str i) j pos) (cK (.str i)) := de_const pe_str (fun _ => .str i) rfl
def cTest (f : CE) : CB := fun env => mbind (f env) fun d e => match d with
  | .bl b => some (.ok b, e)
  | _ => none
theorem test_read {K : PySem.W.Frag} {mg : Str → Option Value} {W : WX} {σ : L2.St} {H : Hp} {Q : Bool → Hp → Prop} (h : tB1 K mg ms (cTest f) W σ H Q) : tE K mg ms .sh f W σ H (fun x H1 => ∃ k, x = .bl k ∧ Q k H1) := by
  obtain ⟨I, env, fp, s, r, env', h1, q, b⟩ := h
  refine tE_then s h1 b fun d e1 v H1 I1 fp1 h2 s1 t1 rv => ?_
  cases rv with
  | bl k => cases h2; exact ⟨k, rfl, q k rfl H1 I1 fp1 s1 t1⟩
  | _ => cases h2
theorem dt_val (h : DE X ms .sh e f) (he : ∀ whole, isTrue e X.env whole = (do let v ← whole; standAt e.pos; holding [v] (truthy v)) := by intro _; rfl) : DB X ms e (cTest f) := fun W tk => pt_imp (pt_val (h W tk) he) fun σ H Q h => test_read h
theorem dt_cmp {op : CmpOp} (hO : OpR X (compareOp op) r) (hp : PrimOk X.K fr (rOf2 r) g) (ha : DO X ms a oa) (hb : DO X ms b ob) (hk : behindInMarks op b = false := by first | exact nomark _ | rfl) (ho : prOk ms [oa, ob] = true := by rfl) :
    DB X ms (.Compare a [op] [b] pos) (cTest (cPrim g [oa, ob])) := fun W tk => pt_imp (pt_cmpR hO (ha.pe tk) (hb.pe tk) hk) fun σ H Q h => by
  have h2 := test_read h
  exact prim_read hp ho rfl (.inl rfl) h2
def cNot (t : CB) : CB := fun env => mbind (t env) fun b e => some (.ok (!b), e)
def cAnd (t u : CB) : CB := fun env => mbind (t env) fun b e => if b = true then u e else some (.ok false, e)
def cOr (t u : CB) : CB := fun env => mbind (t env) fun b e => if b = true then some (.ok true, e) else u e
theorem dt_not {t : CB} (h : DB X ms e t) : DB X ms (.UnaryOp .Not e pos) (cNot t) := fun W tk => pt_imp (pt_not (h W tk)) fun σ H Q h => by
  obtain ⟨I, env, fp, s, r, env', h1, q, b⟩ := h
  refine tB_then s h1 b fun k e1 H1 I1 fp1 h2 s1 t1 => ?_
  cases h2
  exact q _ rfl H1 I1 fp1 s1 t1
theorem dw_pt {t : CB} (h : DW X ms e t) : DB X ms e t := fun W tk => (h W tk).pt
theorem dw_and1 {t : CB} (h : DB X ms e t) : DW X ms (.BoolOp .And [e] pos) t := fun W tk => pw_and1 (h W tk)
theorem dw_or1 {t : CB} (h : DB X ms e t) : DW X ms (.BoolOp .Or [e] pos) t := fun W tk => pw_or1 (h W tk)
theorem and_read {K : PySem.W.Frag} {mg : Str → Option Value} {W : WX} {t u : CB} {σ : L2.St} {H : Hp} {Q : Bool → Hp → Prop} (h : tB1 K mg ms (cAnd t u) W σ H Q) : tAnd (tB1 K mg ms t W) (tB1 K mg ms u W) σ H Q := by
  obtain ⟨I, env, fp, s, r, env', h1, q, b⟩ := h
  refine tB_then s h1 b fun k e1 H1 I1 fp1 h2 s1 t1 => ?_
  cases k with
  | true =>
    simp only [if_true] at h2 ⊢
    exact ⟨I1, e1, fp1, s1, r, env', h2, fun b hb H' I' fp' s' t' => q b hb H' I' fp' s' (t1.trans t'), fun e he => (b e he).back t1⟩
  | false =>
    simp only [Bool.false_eq_true, if_false] at h2 ⊢
    cases h2
    exact q _ rfl H1 I1 fp1 s1 t1
theorem or_read {K : PySem.W.Frag} {mg : Str → Option Value} {W : WX} {t u : CB} {σ : L2.St} {H : Hp} {Q : Bool → Hp → Prop} (h : tB1 K mg ms (cOr t u) W σ H Q) : tOr (tB1 K mg ms t W) (tB1 K mg ms u W) σ H Q := by
  obtain ⟨I, env, fp, s, r, env', h1, q, b⟩ := h
  refine tB_then s h1 b fun k e1 H1 I1 fp1 h2 s1 t1 => ?_
  cases k with
  | true =>
    simp only [if_true] at h2 ⊢
    cases h2
    exact q _ rfl H1 I1 fp1 s1 t1
  | false =>
    simp only [Bool.false_eq_true, if_false] at h2 ⊢
    exact ⟨I1, e1, fp1, s1, r, env', h2, fun b hb H' I' fp' s' t' => q b hb H' I' fp' s' (t1.trans t'), fun e he => (b e he).back t1⟩
theorem dw_and {t u : CB} (h : DB X ms a t) (hr : DW X ms (.BoolOp .And (b :: es) pos) u) : DW X ms (.BoolOp .And (a :: b :: es) pos) (cAnd t u) := fun W tk => pw_imp (pw_and (h W tk) (hr W tk)) fun σ H Q h => and_read h
theorem dw_or {t u : CB} (h : DB X ms a t) (hr : DW X ms (.BoolOp .Or (b :: es) pos) u) : DW X ms (.BoolOp .Or (a :: b :: es) pos) (cOr t u) := fun W tk => pw_imp (pw_or (h W tk) (hr W tk)) fun σ H Q h => or_read h
/-! ### and, or, not, if as values -/
def cAndV (f1 f2 : CE) : CE := fun env => mbind (f1 env) fun d e => match d with
  | .bl true => f2 e
  | .bl false => some (.ok (.bl false), e)
  | _ => none
def cOrV (f1 f2 : CE) : CE := fun env => mbind (f1 env) fun d e => match d with
  | .bl true => some (.ok (.bl true), e)
  | .bl false => f2 e
  | _ => none
def cNotV (f1 : CE) : CE := fun env => mbind (f1 env) fun d e => match d with
  | .bl b => some (.ok (.bl (!b)), e)
  | _ => none
def cIf (t : CB) (f1 f2 : CE) : CE := fun env => mbind (t env) fun b e => if b = true then f1 e else f2 e
theorem de_one {op : BoolOp} (h : DE X ms m e f) : DE X ms m (.BoolOp op [e] pos) f := fun W tk => pe_one (h W tk)
theorem tE_back {K : PySem.W.Frag} {mg : Str → Option Value} {I I1 : Hp} {fp fp1 : List Addr} {W : WX} {σ : L2.St} {H H1 : Hp} {Q : VK} {env1 env' : Env} {r : Except Exn D} (s1 : St K ms I1 σ env1 H1 fp1) (t1 : Step I H fp I1 H1 fp1) (h : f env1 = some (r, env'))
    (q : ∀ d, r = .ok d → ∀ v H' I' fp' fv, St K ms I' σ env' H' fp' → Step I H fp I' H' (fv ++ fp') → RepM m K I' H' v d fv → (fv ++ fp').Nodup → (∀ p ∈ fv, I' p = none) → Q v H') (b : ∀ e, r = .error e → Bad K mg ms I σ H fp W e env') :
    tE K mg ms m f W σ H1 Q := ⟨I1, env1, fp1, s1, r, env', h, fun d hd v H' I' fp' fv s' t' => q d hd v H' I' fp' fv s' (t1.trans t'), fun e he => (b e he).back t1⟩
theorem res_bl {K : PySem.W.Frag} {I H : Hp} {k : Bool} : RepM m K I H (.bl k) (.bl k) [] := .nl rfl (.bl k)
theorem de_and (h : DE X ms .sh a fa) (hr : DE X ms m (.BoolOp .And (b :: es) pos) fb) : DE X ms m (.BoolOp .And (a :: b :: es) pos) (cAndV fa fb) := fun W tk => pe_imp (pe_and (h W tk) (hr W tk)) fun σ H Q h => by
  obtain ⟨I, env, fp, s, r, env', h1, q, b⟩ := h
  refine tE_then s h1 b fun d e1 v H1 I1 fp1 h2 s1 t1 rv => ?_
  cases rv with
  | bl k =>
    refine ⟨k, rfl, ?_⟩
    cases k with
    | true => simp only [if_true]; exact tE_back s1 t1 h2 q b
    | false =>
      simp only [Bool.false_eq_true, if_false]
      cases h2
      exact q _ rfl _ H1 I1 fp1 [] s1 t1 res_bl s1.nd fun p hp => by cases hp
  | _ => cases h2
theorem de_or (h : DE X ms .sh a fa) (hr : DE X ms m (.BoolOp .Or (b :: es) pos) fb) : DE X ms m (.BoolOp .Or (a :: b :: es) pos) (cOrV fa fb) := fun W tk => pe_imp (pe_or (h W tk) (hr W tk)) fun σ H Q h => by
  obtain ⟨I, env, fp, s, r, env', h1, q, b⟩ := h
  refine tE_then s h1 b fun d e1 v H1 I1 fp1 h2 s1 t1 rv => ?_
  cases rv with
  | bl k =>
    refine ⟨k, rfl, ?_⟩
    cases k with
    | true =>
      simp only [if_true]
      cases h2
      exact q _ rfl _ H1 I1 fp1 [] s1 t1 res_bl s1.nd fun p hp => by cases hp
    | false => simp only [Bool.false_eq_true, if_false]; exact tE_back s1 t1 h2 q b
  | _ => cases h2
theorem de_not (h : DE X ms .sh a fa) : DE X ms m (.UnaryOp .Not a pos) (cNotV fa) := fun W tk => pe_imp (pe_not (h W tk)) fun σ H Q h => by
  obtain ⟨I, env, fp, s, r, env', h1, q, b⟩ := h
  refine tE_then s h1 b fun d e1 v H1 I1 fp1 h2 s1 t1 rv => ?_
  cases rv with
  | bl k =>
    cases h2
    exact ⟨k, rfl, q _ rfl _ H1 I1 fp1 [] s1 t1 res_bl s1.nd fun p hp => by cases hp⟩
  | _ => cases h2
theorem de_if {t : CB} (ht : DB X ms c t) (ha : DE X ms m a fa) (hb : DE X ms m b fb) : DE X ms m (.IfExp c a b pos) (cIf t fa fb) := fun W tk => pe_imp (pe_ifExp (ht W tk) (ha W tk) (hb W tk)) fun σ H Q h => by
  obtain ⟨I, env, fp, s, r, env', h1, q, b⟩ := h
  refine tB_then s h1 b fun k e1 H1 I1 fp1 h2 s1 t1 => ?_
  cases k with
  | true => simp only [if_true] at h2 ⊢; exact tE_back s1 t1 h2 q b
  | false => simp only [Bool.false_eq_true, if_false] at h2 ⊢; exact tE_back s1 t1 h2 q b
end
end DI
set_option Elab.async false
set_option autoImplicit false
set_option linter.all false
set_option maxRecDepth 100000
set_option maxHeartbeats 2000000
/-! DI3: prims (what an operator, a built-in gives). -/
namespace DI
open PySem PySem.Spec PyProof.Rows
open L2 hiding XE Takes Takes.imp CX XE.of_call XE.new XE.leave takes_of passes_call Sky.land MkP PMk ps_raise mk_of ps_try_as HdsOk ps_try_many pmk_own passAt takes_none5 takes0 passL mk_end pmk_oex
open L2N hiding St
/-! ### data as the library's -/
mutual
def D.py : D → Option PyData
  | .non => some .none
  | .bl b => some (.bool b)
  | .int i => some (.int i)
  | .str x => some (.str x)
  | .lst xs => (D.pys xs).map .list
  | .tup xs => (D.pys xs).map .tuple
  | .dic _ _ => none
  | .scr _ => none
  | .sta _ => none
  | .ty _ => none
  | .gl _ => none
  | .exn _ _ _ => none
  | .ob _ => none
def D.pys : List D → Option (List PyData)
  | [] => some []
  | d :: ds => match d.py, D.pys ds with
    | some p, some ps => some (p :: ps)
    | _, _ => none
end
section
variable {K : PySem.W.Frag} {I H : Hp}
theorem pys_cons {d : D} {ds : List D} {ps : List PyData} (h : D.pys (d :: ds) = some ps) : ∃ p r, ps = p :: r ∧ d.py = some p ∧ D.pys ds = some r := by
  unfold D.pys at h
  cases h1 : d.py with
  | none => simp [h1] at h
  | some p =>
    cases h2 : D.pys ds with
    | none => simp [h1, h2] at h
    | some r => simp [h1, h2] at h; exact ⟨p, r, h.symm, rfl, rfl⟩
mutual
theorem Rep.dp (e : Ext I H) : ∀ {v : V} {d : D} {p : PyData}, Rep K I v d → d.py = some p → Dp K H v p
  | _, _, _, .non, h => by cases h; exact .non
  | _, _, _, .bl b, h => by cases h; exact .bl b
  | _, _, _, .int b, h => by cases h; exact .int b
  | _, _, _, .str b, h => by cases h; exact .str b
  | _, _, p, .lst (ds := ds) h r, q => by
    unfold D.py at q
    cases h2 : D.pys ds with
    | none => rw [h2] at q; cases q
    | some ps => rw [h2] at q; cases q; exact .lst (SqL.of (e _ _ h)) (Reps.dp e r h2)
  | _, _, p, .tup (ds := ds) h r, q => by
    unfold D.py at q
    cases h2 : D.pys ds with
    | none => rw [h2] at q; cases q
    | some ps => rw [h2] at q; cases q; exact .tup (e.t h) (Reps.dp e r h2)
  | _, _, _, .dic _ _ _, h => by cases h
  | _, _, _, .scr _, h => by cases h
  | _, _, _, .sta _, h => by cases h
  | _, _, _, .ty _, h => by cases h
  | _, _, _, .gl _, h => by cases h
  | _, _, _, .ex0 _, h => by cases h
  | _, _, _, .ex1 _ _ _ _, h => by cases h
theorem Reps.dp (e : Ext I H) : ∀ {vs : List V} {ds : List D} {ps : List PyData}, Reps K I vs ds → D.pys ds = some ps → DpAll K H vs ps
  | _, _, _, .nil, h => by cases h; exact .nil
  | _, _, _, .cons h r, q => by
    obtain ⟨p, ps, rfl, h1, h2⟩ := pys_cons q
    exact .cons (Rep.dp e h h1) (Reps.dp e r h2)
end
theorem Rd1.dp (e : Ext I H) {v : V} {d : D} {p : PyData} (h : Rd1 K I H v d) (q : d.py = some p) : Dp K H v p := by
  cases d with
  | lst ds =>
    obtain ⟨a, xs, rfl, h1, h2⟩ := h
    unfold D.py at q
    cases h3 : D.pys ds with
    | none => rw [h3] at q; cases q
    | some ps => rw [h3] at q; cases q; exact .lst (SqL.of h1) (h2.dp e h3)
  | _ => exact Rep.dp e h q
/-! inversion of what is read -/
theorem rds1 {vs : List V} {d : D} (h : Rds K I H vs [d]) : ∃ v, vs = [v] ∧ Rd1 K I H v d := by
  cases h with
  | cons a b => cases b; exact ⟨_, rfl, a⟩
theorem rds2 {vs : List V} {d e : D} (h : Rds K I H vs [d, e]) : ∃ v w, vs = [v, w] ∧ Rd1 K I H v d ∧ Rd1 K I H w e := by
  cases h with
  | cons a b =>
    obtain ⟨w, rfl, c⟩ := rds1 b
    exact ⟨_, w, rfl, a, c⟩
theorem rd_int {v : V} {i : Int} (h : Rd1 K I H v (.int i)) : v = .int i := by cases (show Rep K I v (.int i) from h); rfl
theorem rd_bl {v : V} {i : Bool} (h : Rd1 K I H v (.bl i)) : v = .bl i := by cases (show Rep K I v (.bl i) from h); rfl
theorem rd_str {v : V} {i : Str} (h : Rd1 K I H v (.str i)) : v = .str i := by cases (show Rep K I v (.str i) from h); rfl
theorem rd_non {v : V} (h : Rd1 K I H v .non) : v = .non := by cases (show Rep K I v .non from h); rfl
theorem rd_ty {v : V} {n : String} (h : Rd1 K I H v (.ty n)) : v = .ty n := by cases (show Rep K I v (.ty n) from h); rfl
theorem rd_tup {v : V} {ds : List D} (h : Rd1 K I H v (.tup ds)) : ∃ a xs, v = .ref a ∧ SqT K I a xs ∧ Reps K I xs ds := by
  cases (show Rep K I v (.tup ds) from h) with
  | tup a b => exact ⟨_, _, rfl, a, b⟩
theorem rd_scr {v : V} {ns : List Int} (h : Rd1 K I H v (.scr ns)) : ∃ a, v = .ref a ∧ SqL K I a (ns.map V.int) := by
  cases (show Rep K I v (.scr ns) from h) with
  | scr a => exact ⟨_, rfl, a⟩
/-! ### lists of ints -/
def intsD : List D → Option (List Int)
  | [] => some []
  | .int i :: r => (intsD r).map (i :: ·)
  | _ => none
theorem intsD_map : ∀ ns : List Int, intsD (ns.map D.int) = some ns
  | [] => rfl
  | n :: r => by rw [List.map_cons, intsD, intsD_map r]; rfl
def blsD : List D → Option (List Bool)
  | [] => some []
  | .bl i :: r => (blsD r).map (i :: ·)
  | _ => none
theorem blsD_eq : ∀ {ds : List D} {ns : List Bool}, blsD ds = some ns → ds = ns.map D.bl
  | [], ns, h => by cases h; rfl
  | .bl i :: r, ns, h => by
    unfold blsD at h
    cases q : blsD r with
    | none => rw [q] at h; cases h
    | some l => rw [q] at h; cases h; rw [List.map_cons, ← blsD_eq q]
  | .non :: r, ns, h => by cases h
  | .int _ :: r, ns, h => by cases h
  | .str _ :: r, ns, h => by cases h
  | .lst _ :: r, ns, h => by cases h
  | .tup _ :: r, ns, h => by cases h
  | .dic _ _ :: r, ns, h => by cases h
  | .scr _ :: r, ns, h => by cases h
  | .sta _ :: r, ns, h => by cases h
  | .ty _ :: r, ns, h => by cases h
  | .gl _ :: r, ns, h => by cases h
  | .exn _ _ _ :: r, ns, h => by cases h
  | .ob _ :: r, ns, h => by cases h
theorem blsD_map : ∀ ns : List Bool, blsD (ns.map D.bl) = some ns
  | [] => rfl
  | n :: r => by rw [List.map_cons, blsD, blsD_map r]; rfl
theorem reps_bls : ∀ {ns : List Bool} {vs : List V}, Reps K I vs (ns.map D.bl) → vs = ns.map V.bl
  | [], _, .nil => rfl
  | n :: r, _, .cons h t => by cases h; rw [List.map_cons, reps_bls t]
end
/-! ### operators -/
def gAdd : Prim
  | [.int a, .int b] => some (.int (a + b))
  | [.str a, .str b] => if a.length + b.length ≤ sizeLine then some (.str (a ++ b)) else none
  | [.lst a, .lst b] => if a.length + b.length ≤ sizeLine then some (.lst (a ++ b)) else none
  | _ => none
def gSub : Prim
  | [.int a, .int b] => some (.int (a - b))
  | _ => none
def okMul (a b : Int) : Prop := (a.natAbs < 2 ^ 64 ∨ b.natAbs < 2 ^ 64) ∨ a.natAbs.log2 + b.natAbs.log2 < 1000000
instance (a b : Int) : Decidable (okMul a b) := by unfold okMul; exact inferInstance
def gMul : Prim
  | [.int a, .int b] => if okMul a b then some (.int (a * b)) else none
  | [.lst a, .int k] => if (-(2 ^ 63) ≤ k ∧ k < 2 ^ 63) ∧ a.length * k.toNat ≤ sizeLine then some (.lst (List.replicate k.toNat a).flatten) else none
  | _ => none
def gFdiv : Prim
  | [.int a, .int b] => if 0 < b ∧ b.natAbs.log2 < 9000 then some (.int (a / b)) else none
  | _ => none
def gMod : Prim
  | [.int a, .int b] => if 0 < b then some (.int (a % b)) else none
  | _ => none
def gPow : Prim
  | [.int a, .int b] => if 0 ≤ b ∧ (a.natAbs.log2 + 1) * b.toNat ≤ 100000000 then some (.int (a ^ b.toNat)) else none
  | _ => none
def gNeg : Prim
  | [.int a] => some (.int (-a))
  | _ => none
section
variable {X : Cx}
theorem gAdd_ok : PrimOk X.K true (rOf2 fun x y H Q => (∃ i j, x = .int i ∧ y = .int j ∧ Q (.int (i + j)) H) ∨ (∃ i j, x = .str i ∧ y = .str j ∧ i.length + j.length ≤ sizeLine ∧ Q (.str (i ++ j)) H) ∨ rCat x y H Q) gAdd := by
  intro I H vs ds d Q e r g q1 q2 q3 q4
  unfold gAdd at g
  split at g
  · obtain ⟨v, w, rfl, h1, h2⟩ := rds2 r
    cases g; cases rd_int h1; cases rd_int h2
    exact .inl ⟨_, _, rfl, rfl, q1 _ (fun _ => rfl) (.int _)⟩
  · obtain ⟨v, w, rfl, h1, h2⟩ := rds2 r
    split at g
    · cases g; cases rd_str h1; cases rd_str h2
      exact .inr (.inl ⟨_, _, rfl, rfl, by assumption, q1 _ (fun _ => rfl) (.str _)⟩)
    · cases g
  · obtain ⟨v, w, rfl, ⟨a, xs, rfl, h1, h2⟩, ⟨b, ys, rfl, h3, h4⟩⟩ := rds2 r
    split at g
    · rename_i hz
      cases g
      exact .inr (.inr ⟨a, b, xs, ys, rfl, rfl, h1, h3, by rw [h2.length, h4.length]; exact hz, fun p hp => q2 p _ _ rfl hp (h2.append h4)⟩)
    · cases g
  · cases g
theorem op_addD : OpR X (binaryOp .Add) (fun x y H Q => (∃ i j, x = .int i ∧ y = .int j ∧ Q (.int (i + j)) H) ∨ (∃ i j, x = .str i ∧ y = .str j ∧ i.length + j.length ≤ sizeLine ∧ Q (.str (i ++ j)) H) ∨ rCat x y H Q) := op_add.or (op_add_str.or op_cat)
theorem gSub_ok : PrimOk X.K true (rOf2 (rI0 fun i j => .int (i - j))) gSub := by
  intro I H vs ds d Q e r g q1 q2 q3 q4
  unfold gSub at g
  split at g
  · obtain ⟨v, w, rfl, h1, h2⟩ := rds2 r
    cases g; cases rd_int h1; cases rd_int h2
    exact ⟨_, _, rfl, rfl, q1 _ (fun _ => rfl) (.int _)⟩
  · cases g
def rMulD : R2 := fun x y H Q => rI CMul (fun i j => .int (i * j)) x y H Q ∨ rI CMulW (fun i j => .int (i * j)) x y H Q ∨ rRep x y H Q
theorem op_mulD : OpR X (binaryOp .Mult) rMulD := op_mul.or (op_mulW.or op_rep)
theorem gMul_ok : PrimOk X.K true (rOf2 rMulD) gMul := by
  intro I H vs ds d Q e r g q1 q2 q3 q4
  unfold gMul at g
  split at g
  · obtain ⟨v, w, rfl, h1, h2⟩ := rds2 r
    split at g
    · rename_i hm
      cases g; cases rd_int h1; cases rd_int h2
      rcases hm with (hm | hm) | hm
      · exact .inl ⟨_, _, rfl, rfl, .inl (by omega), q1 _ (fun _ => rfl) (.int _)⟩
      · exact .inl ⟨_, _, rfl, rfl, .inr (by omega), q1 _ (fun _ => rfl) (.int _)⟩
      · exact .inr (.inl ⟨_, _, rfl, rfl, hm, q1 _ (fun _ => rfl) (.int _)⟩)
    · cases g
  · obtain ⟨v, w, rfl, ⟨a, xs, rfl, h1, h2⟩, h3⟩ := rds2 r
    split at g
    · rename_i hz
      cases g; cases rd_int h3
      exact .inr (.inr ⟨a, _, xs, rfl, rfl, h1, hz.1.1, hz.1.2, by rw [h2.length]; exact hz.2, fun p hp => q2 p _ _ rfl hp (h2.rep _)⟩)
    · cases g
  · cases g
theorem gFdiv_ok : PrimOk X.K true (rOf2 (rI CDivW fun i j => .int (i / j))) gFdiv := by
  intro I H vs ds d Q e r g q1 q2 q3 q4
  unfold gFdiv at g
  split at g
  · obtain ⟨v, w, rfl, h1, h2⟩ := rds2 r
    split at g
    · cases g; cases rd_int h1; cases rd_int h2
      exact ⟨_, _, rfl, rfl, by assumption, q1 _ (fun _ => rfl) (.int _)⟩
    · cases g
  · cases g
theorem gMod_ok : PrimOk X.K true (rOf2 (rI (fun _ j => 0 < j) fun i j => .int (i % j))) gMod := by
  intro I H vs ds d Q e r g q1 q2 q3 q4
  unfold gMod at g
  split at g
  · obtain ⟨v, w, rfl, h1, h2⟩ := rds2 r
    split at g
    · cases g; cases rd_int h1; cases rd_int h2
      exact ⟨_, _, rfl, rfl, by assumption, q1 _ (fun _ => rfl) (.int _)⟩
    · cases g
  · cases g
theorem intBits_le (a : Int) : Builtin.Int.intBits a ≤ a.natAbs.log2 + 1 := by
  unfold Builtin.Int.intBits
  split <;> omega
theorem op_powW : OpR X (binaryOp .Pow) (rI (fun i j => 0 ≤ j ∧ (i.natAbs.log2 + 1) * j.toNat ≤ 100000000) fun i j => .int (i ^ j.toNat)) := opI fun i j _ _ _ _ _ hc q => by
  refine pow_int hc.1 ?_ q
  have h1 : Builtin.Int.intBits i * j.toNat ≤ (i.natAbs.log2 + 1) * j.toNat := Nat.mul_le_mul_right _ (intBits_le i)
  have h2 : (Builtin.Int.intBits i : Int) * j = ((Builtin.Int.intBits i * j.toNat : Nat) : Int) := by
    rw [Int.natCast_mul, Int.toNat_of_nonneg hc.1]
  rw [h2]
  have h3 := hc.2
  have h4 : Builtin.Int.intBits i * j.toNat ≤ 134217728 := by omega
  have h5 : ((2 : Int) ^ 27) = ((134217728 : Nat) : Int) := by decide
  rw [h5]
  exact Int.ofNat_le.mpr h4
theorem gPow_ok : PrimOk X.K true (rOf2 (rI (fun i j => 0 ≤ j ∧ (i.natAbs.log2 + 1) * j.toNat ≤ 100000000) fun i j => .int (i ^ j.toNat))) gPow := by
  intro I H vs ds d Q e r g q1 q2 q3 q4
  unfold gPow at g
  split at g
  · obtain ⟨v, w, rfl, h1, h2⟩ := rds2 r
    split at g
    · cases g; cases rd_int h1; cases rd_int h2
      exact ⟨_, _, rfl, rfl, by assumption, q1 _ (fun _ => rfl) (.int _)⟩
    · cases g
  · cases g
theorem gNeg_ok : PrimOk X.K true (rOf1 (rU fun i => .int (-i))) gNeg := by
  intro I H vs ds d Q e r g q1 q2 q3 q4
  unfold gNeg at g
  split at g
  · obtain ⟨v, rfl, h1⟩ := rds1 r
    cases g; cases rd_int h1
    exact ⟨_, rfl, q1 _ (fun _ => rfl) (.int _)⟩
  · cases g
end
/-! ### comparisons -/
def eqP (a b : D) : Option Bool := match a.py, b.py with
  | some p, some q => if SeqAt.shaped p = true ∧ SeqAt.shaped q = true then some (PyData.eqv p q) else none
  | _, _ => none
def eqD : D → D → Option Bool
  | .int a, .int b => some (decide (a = b))
  | .str a, .str b => some (decide (a = b))
  | a, b => eqP a b
def gEq : Prim
  | [a, b] => (eqD a b).map .bl
  | _ => none
def gNe : Prim
  | [a, b] => (eqD a b).map fun k => .bl (!k)
  | _ => none
def gLt : Prim
  | [.int a, .int b] => some (.bl (decide (a < b)))
  | _ => none
def gLe : Prim
  | [.int a, .int b] => some (.bl (decide (a ≤ b)))
  | _ => none
def gGt : Prim
  | [.int a, .int b] => some (.bl (decide (b < a)))
  | _ => none
def gGe : Prim
  | [.int a, .int b] => some (.bl (decide (b ≤ a)))
  | _ => none
def D.isNon : D → Bool
  | .non => true
  | _ => false
def gIs : Prim
  | [a, .non] => some (.bl a.isNon)
  | [.bl a, .bl b] => some (.bl (decide (a = b)))
  | _ => none
def gIsNot : Prim
  | [a, .non] => some (.bl (!a.isNon))
  | [.bl a, .bl b] => some (.bl (!decide (a = b)))
  | _ => none
section
variable {X : Cx}
theorem eqP_some {a b : D} {k : Bool} (h : eqP a b = some k) : ∃ p q, a.py = some p ∧ b.py = some q ∧ SeqAt.shaped p = true ∧ SeqAt.shaped q = true ∧ PyData.eqv p q = k := by
  unfold eqP at h
  split at h
  · rename_i p q h1 h2
    split at h
    · rename_i hs
      cases h
      exact ⟨p, q, h1, h2, hs.1, hs.2, rfl⟩
    · cases h
  · cases h
theorem eqD_some {a b : D} {k : Bool} (h : eqD a b = some k) : (∃ i j, a = .int i ∧ b = .int j ∧ k = decide (i = j)) ∨ (∃ i j, a = .str i ∧ b = .str j ∧ k = decide (i = j)) ∨ eqP a b = some k := by
  unfold eqD at h
  split at h
  · cases h; exact .inl ⟨_, _, rfl, rfl, rfl⟩
  · cases h; exact .inr (.inl ⟨_, _, rfl, rfl, rfl⟩)
  · exact .inr (.inr h)
def rEqX (K : PySem.W.Frag) : R2 := fun x y H Q => rEq x y H Q ∨ rEqD K x y H Q
def rNeX (K : PySem.W.Frag) : R2 := fun x y H Q => rNe x y H Q ∨ rNeD K x y H Q
theorem op_eqX (hu : X.A.units + 64 < cLine) : OpR X (compareOp .Eq) (rEqX X.K) := op_eq.or (op_eqD hu)
theorem op_neX (hu : X.A.units + 64 < cLine) : OpR X (compareOp .NotEq) (rNeX X.K) := op_ne.or (op_neD hu)
theorem gEq_ok : PrimOk X.K true (rOf2 (rEqX X.K)) gEq := by
  intro I H vs ds d Q e r g q1 q2 q3 q4
  unfold gEq at g
  split at g
  · rename_i a b
    obtain ⟨v, w, rfl, h1, h2⟩ := rds2 r
    cases hk : eqD a b with
    | none => rw [hk] at g; cases g
    | some k =>
      rw [hk] at g; cases g
      rcases eqD_some hk with ⟨i, j, rfl, rfl, rfl⟩ | ⟨i, j, rfl, rfl, rfl⟩ | hk
      · cases rd_int h1; cases rd_int h2
        refine .inl ⟨rfl, q1 _ (fun _ => rfl) ?_⟩
        have : decide (V.int i = V.int j) = decide (i = j) := by simp
        rw [this]; exact .bl _
      · cases (show Rep X.K I v (.str i) from h1); cases (show Rep X.K I w (.str j) from h2)
        refine .inl ⟨rfl, q1 _ (fun _ => rfl) ?_⟩
        have : decide (V.str i = V.str j) = decide (i = j) := by simp
        rw [this]; exact .bl _
      · obtain ⟨p, q, h3, h4, h5, h6, rfl⟩ := eqP_some hk
        exact .inr ⟨p, q, h1.dp e h3, h2.dp e h4, h5, h6, q1 _ (fun _ => rfl) (.bl _)⟩
  · cases g
theorem gNe_ok : PrimOk X.K true (rOf2 (rNeX X.K)) gNe := by
  intro I H vs ds d Q e r g q1 q2 q3 q4
  unfold gNe at g
  split at g
  · rename_i a b
    obtain ⟨v, w, rfl, h1, h2⟩ := rds2 r
    cases hk : eqD a b with
    | none => rw [hk] at g; cases g
    | some k =>
      rw [hk] at g; cases g
      rcases eqD_some hk with ⟨i, j, rfl, rfl, rfl⟩ | ⟨i, j, rfl, rfl, rfl⟩ | hk
      · cases rd_int h1; cases rd_int h2
        refine .inl ⟨rfl, q1 _ (fun _ => rfl) ?_⟩
        have : decide (V.int i = V.int j) = decide (i = j) := by simp
        rw [this]; exact .bl _
      · cases (show Rep X.K I v (.str i) from h1); cases (show Rep X.K I w (.str j) from h2)
        refine .inl ⟨rfl, q1 _ (fun _ => rfl) ?_⟩
        have : decide (V.str i = V.str j) = decide (i = j) := by simp
        rw [this]; exact .bl _
      · obtain ⟨p, q, h3, h4, h5, h6, rfl⟩ := eqP_some hk
        exact .inr ⟨p, q, h1.dp e h3, h2.dp e h4, h5, h6, q1 _ (fun _ => rfl) (.bl _)⟩
  · cases g
theorem gLt_ok : PrimOk X.K true (rOf2 (rI0 fun i j => .bl (decide (i < j)))) gLt := by
  intro I H vs ds d Q e r g q1 q2 q3 q4
  unfold gLt at g
  split at g
  · obtain ⟨v, w, rfl, h1, h2⟩ := rds2 r
    cases g; cases rd_int h1; cases rd_int h2
    exact ⟨_, _, rfl, rfl, q1 _ (fun _ => rfl) (.bl _)⟩
  · cases g
theorem gLe_ok : PrimOk X.K true (rOf2 (rI0 fun i j => .bl (decide (i ≤ j)))) gLe := by
  intro I H vs ds d Q e r g q1 q2 q3 q4
  unfold gLe at g
  split at g
  · obtain ⟨v, w, rfl, h1, h2⟩ := rds2 r
    cases g; cases rd_int h1; cases rd_int h2
    exact ⟨_, _, rfl, rfl, q1 _ (fun _ => rfl) (.bl _)⟩
  · cases g
theorem gGt_ok : PrimOk X.K true (rOf2 (rI0 fun i j => .bl (decide (j < i)))) gGt := by
  intro I H vs ds d Q e r g q1 q2 q3 q4
  unfold gGt at g
  split at g
  · obtain ⟨v, w, rfl, h1, h2⟩ := rds2 r
    cases g; cases rd_int h1; cases rd_int h2
    exact ⟨_, _, rfl, rfl, q1 _ (fun _ => rfl) (.bl _)⟩
  · cases g
theorem gGe_ok : PrimOk X.K true (rOf2 (rI0 fun i j => .bl (decide (j ≤ i)))) gGe := by
  intro I H vs ds d Q e r g q1 q2 q3 q4
  unfold gGe at g
  split at g
  · obtain ⟨v, w, rfl, h1, h2⟩ := rds2 r
    cases g; cases rd_int h1; cases rd_int h2
    exact ⟨_, _, rfl, rfl, q1 _ (fun _ => rfl) (.bl _)⟩
  · cases g
theorem rd_isNon {K : PySem.W.Frag} {I H : Hp} {v : V} {d : D} (h : Rd1 K I H v d) : decide (v = .non) = d.isNon := by
  cases d with
  | lst ds => obtain ⟨a, xs, rfl, _⟩ := h; rfl
  | non => rw [rd_non h]; rfl
  | bl b => rw [rd_bl h]; rfl
  | int b => rw [rd_int h]; rfl
  | str b => rw [rd_str h]; rfl
  | ty b => rw [rd_ty h]; rfl
  | tup ds => obtain ⟨a, xs, rfl, _⟩ := rd_tup h; rfl
  | scr ds => obtain ⟨a, rfl, _⟩ := rd_scr h; rfl
  | dic ks ds => cases (show Rep K I v (.dic ks ds) from h); rfl
  | sta a => cases (show Rep K I v (.sta a) from h); rfl
  | gl n => cases (show Rep K I v (.gl n) from h); rfl
  | exn c ns ds => cases (show Rep K I v (.exn c ns ds) from h) <;> rfl
  | ob ds => cases (show Rep K I v (.ob ds) from h)
def rIsD : R2 := fun x y H Q => (y = .non ∧ Q (.bl (decide (x = .non))) H) ∨ rIsB x y H Q
def rNotD : R2 := fun x y H Q => (y = .non ∧ Q (.bl (!decide (x = .non))) H) ∨ rNotB x y H Q
theorem op_isD : OpR X (compareOp .Is) rIsD := op_isN.or op_isBl
theorem gIs_ok : PrimOk X.K true (rOf2 rIsD) gIs := by
  intro I H vs ds d Q e r g q1 q2 q3 q4
  unfold gIs at g
  split at g
  · obtain ⟨v, w, rfl, h1, h2⟩ := rds2 r
    cases g; cases rd_non h2
    refine .inl ⟨rfl, ?_⟩
    rw [rd_isNon h1]
    exact q1 _ (fun _ => rfl) (.bl _)
  · obtain ⟨v, w, rfl, h1, h2⟩ := rds2 r
    cases g; cases rd_bl h1; cases rd_bl h2
    exact .inr ⟨_, _, rfl, rfl, q1 _ (fun _ => rfl) (.bl _)⟩
  · cases g
end
end DI
set_option Elab.async false
set_option autoImplicit false
set_option linter.all false
set_option maxRecDepth 100000
set_option maxHeartbeats 2000000
/-! DI4: prims of built-ins; items, slices, displays. -/
namespace DI
open PySem PySem.Spec PyProof.Rows
open L2 hiding XE Takes Takes.imp CX XE.of_call XE.new XE.leave takes_of passes_call Sky.land MkP PMk ps_raise mk_of ps_try_as HdsOk ps_try_many pmk_own passAt takes_none5 takes0 passL mk_end pmk_oex
open L2N hiding St
/-! ### len, items, slices -/
def gLen : Prim
  | [.lst ds] => some (.int ds.length)
  | [.tup ds] => some (.int ds.length)
  | [.scr ns] => some (.int ns.length)
  | [.str x] => if x.length ≤ sizeLine then some (.int x.length) else none
  | _ => none
def gIx : Prim
  | [.lst ds, .int i] => atI ds i
  | [.tup ds, .int i] => atI ds i
  | [.scr ns, .int i] => (atI ns i).map .int
  | [.str x, .int i] => if x.length ≤ sizeLine then (atI x.cps.toList i).map fun c => .str ⟨#[c]⟩ else none
  | _ => none
def cutD (xs : List D) (lo hi : Option Int) : List D := (xs.drop (HT.sIx xs.length 0 lo)).take (HT.sIx xs.length xs.length hi - HT.sIx xs.length 0 lo)
def gSl (lo hi : Option Int) : D → Option D
  | .lst ds => some (.lst (cutD ds lo hi))
  | .str x => if x.length ≤ sizeLine then some (.str (cutS x lo hi)) else none
  | _ => none
section
variable {X : Cx} {K : PySem.W.Frag} {I H : Hp}
theorem gLen_ok : PrimOk X.K true (fun xs H Q => ∃ x n, xs = [x] ∧ LenV X.K x H n ∧ Q (.int n) H) gLen := by
  intro I H vs ds d Q e r g q1 q2 q3 q4
  unfold gLen at g
  split at g
  · obtain ⟨v, rfl, ⟨a, xs, rfl, h1, h2⟩⟩ := rds1 r
    cases g
    exact ⟨_, _, rfl, .inl ⟨xs, SqL.of h1, h2.length.symm⟩, q1 _ (fun _ => rfl) (.int _)⟩
  · obtain ⟨v, rfl, h⟩ := rds1 r
    cases g
    obtain ⟨a, xs, rfl, h1, h2⟩ := rd_tup h
    exact ⟨_, _, rfl, .inr ⟨xs, e.t h1, h2.length.symm⟩, q1 _ (fun _ => rfl) (.int _)⟩
  · obtain ⟨v, rfl, h⟩ := rds1 r
    cases g
    obtain ⟨a, rfl, h1⟩ := rd_scr h
    exact ⟨_, _, rfl, .inl ⟨_, e.l h1, by rw [List.length_map]⟩, q1 _ (fun _ => rfl) (.int _)⟩
  · obtain ⟨v, rfl, h⟩ := rds1 r
    split at g
    · rename_i hz
      cases g; cases rd_str h
      exact ⟨_, _, rfl, ⟨hz, rfl⟩, q1 _ (fun _ => rfl) (.int _)⟩
    · cases g
  · cases g
theorem atI_rep {xs : List V} {ds : List D} {i : Int} {d : D} (h : Reps K I xs ds) (g : atI ds i = some d) : ∃ v, atI xs i = some v ∧ Rep K I v d := by
  unfold atI at g ⊢
  rw [h.length]
  cases q : ixN ds.length i with
  | none => rw [q] at g; cases g
  | some j =>
    rw [q] at g
    exact h.get (show ds[j]? = some d from g)
theorem atI_map {α β : Type} (f : α → β) (xs : List α) (i : Int) : atI (xs.map f) i = (atI xs i).map f := by
  unfold atI
  rw [List.length_map]
  cases ixN xs.length i with
  | none => rfl
  | some j =>
    show (xs.map f)[j]? = (xs[j]?).map f
    rw [List.getElem?_map]
theorem gIx_ok : PrimOk X.K false (rOf2 (rIx X.K)) gIx := by
  intro I H vs ds d Q e r g q1 q2 q3 q4
  unfold gIx at g
  split at g
  · obtain ⟨v, w, rfl, ⟨a, xs, rfl, h1, h2⟩, h3⟩ := rds2 r
    cases rd_int h3
    obtain ⟨v, h4, h5⟩ := atI_rep h2 g
    exact .inl ⟨a, xs, _, v, rfl, rfl, SqL.of h1, h4, q1 _ (fun z => by cases z) h5⟩
  · obtain ⟨v, w, rfl, h, h3⟩ := rds2 r
    cases rd_int h3
    obtain ⟨a, xs, rfl, h1, h2⟩ := rd_tup h
    obtain ⟨v, h4, h5⟩ := atI_rep h2 g
    exact .inr (.inl ⟨a, xs, _, v, rfl, rfl, e.t h1, h4, q1 _ (fun z => by cases z) h5⟩)
  · rename_i ns i
    obtain ⟨v, w, rfl, h, h3⟩ := rds2 r
    cases rd_int h3
    obtain ⟨a, rfl, h1⟩ := rd_scr h
    cases hq : atI ns i with
    | none => rw [hq] at g; cases g
    | some n =>
      rw [hq] at g; cases g
      exact .inl ⟨a, _, _, .int n, rfl, rfl, e.l h1, by rw [atI_map, hq]; rfl, q1 _ (fun z => by cases z) (.int n)⟩
  · rename_i x i
    obtain ⟨v, w, rfl, h, h3⟩ := rds2 r
    cases rd_int h3; cases rd_str h
    split at g
    · rename_i hz
      cases hq : atI x.cps.toList i with
      | none => rw [hq] at g; cases g
      | some n =>
        rw [hq] at g; cases g
        exact .inr (.inr ⟨x, i, n, rfl, rfl, hz, hq, q1 _ (fun z => by cases z) (.str _)⟩)
    · cases g
  · cases g
theorem cut_rep {xs : List V} {ds : List D} (lo hi : Option Int) (h : Reps K I xs ds) : Reps K I (cutV xs lo hi) (cutD ds lo hi) := by
  unfold cutV cutD
  rw [h.length]
  exact (h.drop _).take _
def rSlD (K : PySem.W.Frag) : V → Option Int → Option Int → Hp → VK → Prop := fun x lo hi H Q => rSlL K x lo hi H Q ∨ ∃ z, x = .str z ∧ z.length ≤ sizeLine ∧ Q (.str (cutS z lo hi)) H
theorem sl_D : SlR X (rSlD X.K) := sl_list.or sl_str
/-- a slice's result, its ends known -/
theorem sl_end {lo hi : Option Int} {Q : VK} {v : V} {d d' : D} (e : Ext I H) (h : Rd1 K I H v d) (g : gSl lo hi d = some d') (q1 : ∀ v, (true = true → d'.nl = true) → Rep K I v d' → Q v H)
    (q2 : ∀ p xs es, d' = .lst es → H p = none → Reps K I xs es → Q (.ref p) (upd H p (.lst xs))) : rSlD K v lo hi H Q := by
  unfold gSl at g
  split at g
  · obtain ⟨a, xs, rfl, h1, h2⟩ := h
    cases g
    exact .inl ⟨a, xs, rfl, SqL.of h1, fun p hp => q2 p _ _ rfl hp (cut_rep lo hi h2)⟩
  · split at g
    · rename_i hz
      cases g; cases rd_str h
      exact .inr ⟨_, rfl, hz, q1 _ (fun _ => rfl) (.str _)⟩
    · cases g
  · cases g
def gSl00 : Prim
  | [a] => gSl none none a
  | _ => none
def gSl10 : Prim
  | [a, .int i] => gSl (some i) none a
  | _ => none
def gSl01 : Prim
  | [a, .int i] => gSl none (some i) a
  | _ => none
def gSl11 : Prim
  | [a, .int i, .int j] => gSl (some i) (some j) a
  | _ => none
end
section
variable {X : Cx} {ms : List Md} {m : Md} {a b c : Expr} {es : List Expr} {oa ob oc : Opd} {os : List Opd} {pos p2 : Pos} {W : WX}
theorem de_sl10 (ha : DO X ms a oa) (hb : DO X ms b ob) (ho : prOk ms [oa, ob] = true := by rfl) (hm : m.fl = true := by rfl) : DE X ms m (.Subscript a (.Slice (some b) none none p2) pos) (cPrim gSl10 [oa, ob]) := fun W tk => pe_imp (pe_slice sl_D (ha.pe tk) (po_some (hb.pe tk)) po_none) fun σ H Q h =>
  prim_read (fr := true) (os := [oa, ob]) (r := fun vs H Q => match vs with
    | [x, y] => ∃ i, y = .int i ∧ rSlD X.K x (some i) none H Q
    | _ => False) (fun I H vs ds d Q e r g q1 q2 q3 q4 => by
    unfold gSl10 at g
    split at g
    · obtain ⟨v, w, rfl, h1, h2⟩ := rds2 r
      cases rd_int h2
      exact ⟨_, rfl, sl_end e h1 g (fun v hv => q1 v hv) q2⟩
    · cases g) ho hm (.inr rfl) h
theorem de_sl01 (ha : DO X ms a oa) (hb : DO X ms b ob) (ho : prOk ms [oa, ob] = true := by rfl) (hm : m.fl = true := by rfl) : DE X ms m (.Subscript a (.Slice none (some b) none p2) pos) (cPrim gSl01 [oa, ob]) := fun W tk => pe_imp (pe_slice sl_D (ha.pe tk) po_none (po_some (hb.pe tk))) fun σ H Q h =>
  prim_read (fr := true) (os := [oa, ob]) (r := fun vs H Q => match vs with
    | [x, y] => ∃ i, y = .int i ∧ rSlD X.K x none (some i) H Q
    | _ => False) (fun I H vs ds d Q e r g q1 q2 q3 q4 => by
    unfold gSl01 at g
    split at g
    · obtain ⟨v, w, rfl, h1, h2⟩ := rds2 r
      cases rd_int h2
      exact ⟨_, rfl, sl_end e h1 g (fun v hv => q1 v hv) q2⟩
    · cases g) ho hm (.inr rfl) h
theorem tE_mono {K : PySem.W.Frag} {mg : Str → Option Value} {f : CE} {σ : L2.St} {H : Hp} {Q Q' : VK} (h : tE K mg ms m f W σ H Q) (k : ∀ v H', Q v H' → Q' v H') : tE K mg ms m f W σ H Q' := by
  obtain ⟨I, env, fp, s, r, env', h1, q, b⟩ := h
  exact ⟨I, env, fp, s, r, env', h1, fun d hd v H' I' fp' fv s' t' rv nd off => k _ _ (q d hd v H' I' fp' fv s' t' rv nd off), b⟩
theorem tO_mono {K : PySem.W.Frag} {mg : Str → Option Value} {o : Opd} {σ : L2.St} {H : Hp} {Q Q' : VK} (h : tO K mg ms W o σ H Q) (k : ∀ v H', Q v H' → Q' v H') : tO K mg ms W o σ H Q' := by
  cases o with
  | tm f => exact tE_mono h k
  | vr i =>
    obtain ⟨v, h1, h2⟩ := h
    exact ⟨v, h1, k _ _ h2⟩
/-- an operand that is to be an int -/
def cInt (f : CE) : CE := fun env => mbind (f env) fun d e => match d with
  | .int i => some (.ok (.int i), e)
  | _ => none
/-! ### displays -/
def gLst : Prim := fun ds => if ds.length ≤ sizeLine then some (.lst ds) else none
def gTup : Prim := fun ds => if ds.length ≤ sizeLine then some (.tup ds) else none
theorem disp_read {K : PySem.W.Frag} {mg : Str → Option Value} {σ : L2.St} {H : Hp} {Q : VK} {dk : List D → D} {r : RL} (ht : os.all Opd.isTm = true) (hm : m.fl = true)
    (hr : ∀ (I H : Hp) (xs : List V) (ds : List D) (Q : VK), Ext I H → Reps K I xs ds → ds.length ≤ sizeLine → (∀ v, (true = true → (dk ds).nl = true) → Rep K I v (dk ds) → Q v H) →
      (∀ p xs es, dk ds = .lst es → H p = none → Reps K I xs es → Q (.ref p) (upd H p (.lst xs))) → (∀ p xs es, dk ds = .tup es → H p = none → Reps K I xs es → Q (.ref p) (upd H p (.tup xs))) → r xs H Q)
    (h : tE K mg ms m (cPrim (fun ds => if ds.length ≤ sizeLine then some (dk ds) else none) os) W σ H Q) : tOs K mg ms W os σ H (fun vs H' => r vs H' Q) := by
  obtain ⟨I, env, fp, s, x, env', h1, q, b⟩ := h
  refine os_then s h1 b fun ds e1 vs H1 I1 fp1 h2 s1 t1 rs => ?_
  obtain ⟨d, g1, rfl, rfl⟩ := pOut_some h2
  have g1 : (if ds.length ≤ sizeLine then some (dk ds) else none) = some d := g1
  split at g1
  · rename_i hz
    cases g1
    obtain ⟨a1, a2, a3, a4⟩ := res_end (fr := true) hm (.inr rfl) s1 fun v H' I' fp' fv s' t' => q _ rfl v H' I' fp' fv s' (t1.trans t')
    exact hr I1 H1 vs ds Q s1.ext (rs.reps ht) hz a1 a2 a3
  · cases g1
theorem de_lst (h : DOs X ms es os) (ht : os.all Opd.isTm = true := by rfl) (hm : m.fl = true := by rfl) : DE X ms m (.List es pos) (cPrim gLst os) := fun W tk => pe_imp (pe_lst (h.pa tk)) fun σ H Q h' =>
  disp_read (dk := .lst) (r := fun xs H1 Q => xs.length ≤ sizeLine ∧ ∀ p, H1 p = none → Q (.ref p) (upd H1 p (.lst xs))) ht hm (fun I H xs ds Q e r hz q1 q2 q3 => ⟨by rw [r.length]; exact hz, fun p hp => q2 p xs ds rfl hp r⟩) h'
theorem de_tup {j : Nat} (h : DOs X ms es os) (ht : os.all Opd.isTm = true := by rfl) (hm : m.fl = true := by rfl) : DE X ms m (.Tuple es j pos) (cPrim gTup os) := fun W tk => pe_imp (pe_tup (h.pa tk)) fun σ H Q h' =>
  disp_read (dk := .tup) (r := fun xs H1 Q => xs.length ≤ sizeLine ∧ ∀ p, H1 p = none → Q (.ref p) (upd H1 p (.tup xs))) ht hm (fun I H xs ds Q e r hz q1 q2 q3 => ⟨by rw [r.length]; exact hz, fun p hp => q3 p xs ds rfl hp r⟩) h'
end
/-! ### built-ins -/
def gMax2 : Prim
  | [.int a, .int b] => some (.int (if b > a then b else a))
  | _ => none
def gMin2 : Prim
  | [.int a, .int b] => some (.int (if b < a then b else a))
  | _ => none
def gAbs : Prim
  | [.int a] => some (.int (if a < 0 then -a else a))
  | _ => none
def gInt : Prim
  | [.int a] => some (.int a)
  | [.bl a] => some (.int (if a then 1 else 0))
  | _ => none
def gSum : Prim
  | [.lst ds] => (intsD ds).map fun ns => .int ns.sum
  | _ => none
def maxI : List Int → Int
  | [] => 0
  | [a] => a
  | a :: r => if maxI r > a then maxI r else a
def minI : List Int → Int
  | [] => 0
  | [a] => a
  | a :: r => if minI r < a then minI r else a
def gMaxL : Prim
  | [.lst ds] => match intsD ds with
    | some (a :: r) => some (.int (maxI (a :: r)))
    | _ => none
  | _ => none
def gMinL : Prim
  | [.lst ds] => match intsD ds with
    | some (a :: r) => some (.int (minI (a :: r)))
    | _ => none
  | _ => none
def gAll : Prim
  | [.lst ds] => (blsD ds).map fun bs => .bl (bs.all id)
  | _ => none
def gAny : Prim
  | [.lst ds] => (blsD ds).map fun bs => .bl (bs.any id)
  | _ => none
def sortI (ns : List Int) : List Int := ns.mergeSort (fun a b => decide (a ≤ b))
def gSorted : Prim
  | [.lst ds] => (intsD ds).map fun ns => .lst ((sortI ns).map .int)
  | _ => none
def gDivmod : Prim
  | [.int a, .int b] => if 0 < b ∧ b < 1073741824 then some (.tup [.int (a / b), .int (a % b)]) else none
  | _ => none
def gList : Prim
  | [.lst ds] => some (.lst ds)
  | [.tup ds] => some (.lst ds)
  | [.scr ns] => some (.lst (ns.map .int))
  | _ => none
def gTuple : Prim
  | [.lst ds] => some (.tup ds)
  | [.tup ds] => some (.tup ds)
  | _ => none
def D.tyName : D → Option String
  | .non => some "NoneType"
  | .bl _ => some "bool"
  | .int _ => some "int"
  | .str _ => some "str"
  | .lst _ => some "list"
  | .scr _ => some "list"
  | .tup _ => some "tuple"
  | .dic _ _ => some "dict"
  | _ => none
def isTyN (t n : String) : Option Bool :=
  if n = "int" then some (decide (t = "int") || decide (t = "bool"))
  else if n = "bool" then some (decide (t = "bool")) else if n = "str" then some (decide (t = "str")) else if n = "list" then some (decide (t = "list"))
  else if n = "tuple" then some (decide (t = "tuple")) else if n = "dict" then some (decide (t = "dict")) else none
def gIsi : Prim
  | [d, .ty n] => match d.tyName with
    | some t => (isTyN t n).map .bl
    | none => none
  | _ => none
section
variable {X : Cx} {K : PySem.W.Frag} {I H : Hp}
theorem gMax2_ok : PrimOk X.K true (fun xs H Q => ∃ i j, xs = [.int i, .int j] ∧ Q (.int (if j > i then j else i)) H) gMax2 := by
  intro I H vs ds d Q e r g q1 q2 q3 q4
  unfold gMax2 at g
  split at g
  · obtain ⟨v, w, rfl, h1, h2⟩ := rds2 r
    cases g; cases rd_int h1; cases rd_int h2
    exact ⟨_, _, rfl, q1 _ (fun _ => rfl) (.int _)⟩
  · cases g
theorem gMin2_ok : PrimOk X.K true (fun xs H Q => ∃ i j, xs = [.int i, .int j] ∧ Q (.int (if j < i then j else i)) H) gMin2 := by
  intro I H vs ds d Q e r g q1 q2 q3 q4
  unfold gMin2 at g
  split at g
  · obtain ⟨v, w, rfl, h1, h2⟩ := rds2 r
    cases g; cases rd_int h1; cases rd_int h2
    exact ⟨_, _, rfl, q1 _ (fun _ => rfl) (.int _)⟩
  · cases g
theorem gAbs_ok : PrimOk X.K true (fun xs H Q => ∃ i, xs = [.int i] ∧ Q (.int (if i < 0 then -i else i)) H) gAbs := by
  intro I H vs ds d Q e r g q1 q2 q3 q4
  unfold gAbs at g
  split at g
  · obtain ⟨v, rfl, h1⟩ := rds1 r
    cases g; cases rd_int h1
    exact ⟨_, rfl, q1 _ (fun _ => rfl) (.int _)⟩
  · cases g
theorem gInt_ok : PrimOk X.K true (fun xs H Q => (∃ i, xs = [.int i] ∧ Q (.int i) H) ∨ ∃ k, xs = [.bl k] ∧ Q (.int (if k then 1 else 0)) H) gInt := by
  intro I H vs ds d Q e r g q1 q2 q3 q4
  unfold gInt at g
  split at g
  · obtain ⟨v, rfl, h1⟩ := rds1 r
    cases g; cases rd_int h1
    exact .inl ⟨_, rfl, q1 _ (fun _ => rfl) (.int _)⟩
  · obtain ⟨v, rfl, h1⟩ := rds1 r
    cases g; cases rd_bl h1
    exact .inr ⟨_, rfl, q1 _ (fun _ => rfl) (.int _)⟩
  · cases g
theorem rd_bls {v : V} {ds : List D} {ns : List Bool} (h : Rd1 K I H v (.lst ds)) (q : blsD ds = some ns) : ∃ a, v = .ref a ∧ SqL K H a (ns.map V.bl) := by
  obtain ⟨a, xs, rfl, h1, h2⟩ := h
  rw [blsD_eq q] at h2
  cases reps_bls h2
  exact ⟨a, rfl, SqL.of h1⟩
theorem gAll_ok : PrimOk X.K true (rAll X.K) gAll := by
  intro I H vs ds d Q e r g q1 q2 q3 q4
  unfold gAll at g
  split at g
  · rename_i ds
    obtain ⟨v, rfl, h1⟩ := rds1 r
    cases q : blsD ds with
    | none => rw [q] at g; cases g
    | some ns =>
      rw [q] at g; cases g
      obtain ⟨a, rfl, h2⟩ := rd_bls h1 q
      exact ⟨a, ns, rfl, h2, q1 _ (fun _ => rfl) (.bl _)⟩
  · cases g
theorem gTuple_ok : PrimOk X.K true (fun xs H Q => ∃ p ys, xs = [.ref p] ∧ ((SqL X.K H p ys ∧ ∀ l, H l = none → Q (.ref l) (upd H l (.tup ys))) ∨ (SqT X.K H p ys ∧ Q (.ref p) H))) gTuple := by
  intro I H vs ds d Q e r g q1 q2 q3 q4
  unfold gTuple at g
  split at g
  · obtain ⟨v, rfl, ⟨a, xs, rfl, h1, h2⟩⟩ := rds1 r
    cases g
    exact ⟨a, xs, rfl, .inl ⟨SqL.of h1, fun l hl => q3 l _ _ rfl hl h2⟩⟩
  · obtain ⟨v, rfl, h⟩ := rds1 r
    cases g
    obtain ⟨a, xs, rfl, h1, h2⟩ := rd_tup h
    exact ⟨a, xs, rfl, .inr ⟨e.t h1, q1 _ (fun _ => rfl) (.tup h1 h2)⟩⟩
  · cases g
theorem rd_ty_of {v : V} {d : D} {t : String} (e : Ext I H) (h : Rd1 K I H v d) (ht : d.tyName = some t) : TyX K H v (.type t) := by
  cases d with
  | non => cases ht; cases rd_non h; exact .base .non
  | bl b => cases ht; cases rd_bl h; exact .base (.bl _)
  | int b => cases ht; cases rd_int h; exact .base (.int _)
  | str b => cases ht; cases rd_str h; exact .base (.str _)
  | lst ds => cases ht; obtain ⟨a, xs, rfl, h1, h2⟩ := h; exact .base (.lst h1)
  | scr ns =>
    cases ht
    obtain ⟨a, rfl, h1⟩ := rd_scr h
    rcases e.l h1 with (h2 | ⟨o, h2⟩) | ⟨o, its, n, h2, h3, _⟩
    · exact .base (.lst h2)
    · exact .base (.frz h2)
    · exact .kList h2 h3
  | tup ds =>
    cases ht
    obtain ⟨a, xs, rfl, h1, _⟩ := rd_tup h
    rcases e.t h1 with (h2 | ⟨o, h2⟩) | ⟨o, its, n, h2, h3, _⟩
    · exact .base (.tup h2)
    · exact .fTuple h2
    · exact .kTuple h2 h3
  | dic ks ds =>
    cases ht
    cases (show Rep K I v (.dic ks ds) from h) with
    | dic h1 _ _ => exact .base (.dK (e _ _ h1))
  | ty n => cases ht
  | sta a => cases ht
  | gl n => cases ht
  | exn c ns ds => cases ht
  | ob ds => cases ht
theorem kit_N {t n : String} {b : Bool} (h : isTyN t n = some b) (ht : t = "NoneType" ∨ t = "bool" ∨ t = "int" ∨ t = "str" ∨ t = "list" ∨ t = "tuple" ∨ t = "dict") : PySem.W.kitOne K (.type t) (.type n) = some b := by
  unfold isTyN at h
  split at h
  · subst n; rcases ht with rfl | rfl | rfl | rfl | rfl | rfl | rfl <;> (cases h; rfl)
  split at h
  · subst n; rcases ht with rfl | rfl | rfl | rfl | rfl | rfl | rfl <;> (cases h; rfl)
  split at h
  · subst n; rcases ht with rfl | rfl | rfl | rfl | rfl | rfl | rfl <;> (cases h; rfl)
  split at h
  · subst n; rcases ht with rfl | rfl | rfl | rfl | rfl | rfl | rfl <;> (cases h; rfl)
  split at h
  · subst n; rcases ht with rfl | rfl | rfl | rfl | rfl | rfl | rfl <;> (cases h; rfl)
  split at h
  · subst n; rcases ht with rfl | rfl | rfl | rfl | rfl | rfl | rfl <;> (cases h; rfl)
  · cases h
theorem tyName_in {d : D} {t : String} (h : d.tyName = some t) : t = "NoneType" ∨ t = "bool" ∨ t = "int" ∨ t = "str" ∨ t = "list" ∨ t = "tuple" ∨ t = "dict" := by
  cases d <;> cases h <;> simp
theorem gIsi_ok : PrimOk X.K true (rIsi X.K) gIsi := by
  intro I H vs ds d Q e r g q1 q2 q3 q4
  unfold gIsi at g
  split at g
  · rename_i d n
    obtain ⟨v, w, rfl, h1, h2⟩ := rds2 r
    cases rd_ty h2
    split at g
    · rename_i t ht
      cases hb : isTyN t n with
      | none => rw [hb] at g; cases g
      | some b =>
        rw [hb] at g; cases g
        exact ⟨v, _, .type t, .type n, b, rfl, .ty n, rd_ty_of e h1 ht, kit_N hb (tyName_in ht), q1 _ (fun _ => rfl) (.bl _)⟩
    · cases g
  · cases g
end
end DI
set_option Elab.async false
set_option autoImplicit false
set_option linter.all false
set_option maxRecDepth 100000
set_option maxHeartbeats 2000000
/-! DI5: a def's promise, and its call: arguments by value, lent lists, borrowed lists. -/
namespace DI
open PySem PySem.Spec PyProof.Rows
open L2 hiding XE Takes Takes.imp CX XE.of_call XE.new XE.leave takes_of passes_call Sky.land MkP PMk ps_raise mk_of ps_try_as HdsOk ps_try_many pmk_own passAt takes_none5 takes0 passL mk_end pmk_oex
open L2N hiding St
/-! ### how an argument is given: its value | the list of a slot, to be changed | the list of a slot, to be read -/
inductive AK where
  | sh | lo (i : Nat) (t : OT) | bo (i : Nat)
abbrev AK.ln (i : Nat) : AK := .lo i .l0
def AK.md : AK → Md
  | .lo _ t => .ps t
  | _ => .sh
def ixs : List AK → List Nat
  | [] => []
  | .sh :: ks => ixs ks
  | .lo i _ :: ks => i :: ixs ks
  | .bo i :: ks => i :: ixs ks
/-- one's own as t says -/
def Md.is (m : Md) (t : OT) : Prop := m = .os t ∨ m = .ps t
/-- lists alone -/
def OT.noob : OT → Bool
  | .l0 => true
  | .ls t => t.noob
  | .ob _ _ _ => false
/-- a list, or lists of lists, of one's own -/
def Md.bor : Md → Bool
  | .sh => false
  | .os t => t.noob
  | .ps t => t.noob
section
variable {K : PySem.W.Frag} {I Ic H : Hp}
mutual
theorem RepO.share (e : Ext I Ic) : ∀ {t : OT} {v : V} {d : D} {f : List Addr}, RepO K I H t v d f → t.noob = true → (∀ a ∈ f, ∀ o, H a = some o → Ic a = some o) → Rep K Ic v d
  | _, _, _, _, .nl a b, _, _ => b.mono e
  | _, _, _, _, .l0 a b, _, k => .lst (k _ (by simp) _ a) (b.mono e)
  | _, _, _, _, .ls (t := t) a b, n, k => .lst (k _ (by simp) _ a) (RepOs.share e b (show t.noob = true from n) fun p hp => k p (List.mem_cons_of_mem _ hp))
  | _, _, _, _, .ob a b l c, n, k => by cases n
theorem RepOs.share (e : Ext I Ic) : ∀ {t : OT} {v : List V} {d : List D} {f : List Addr}, RepOs K I H t v d f → t.noob = true → (∀ a ∈ f, ∀ o, H a = some o → Ic a = some o) → Reps K Ic v d
  | _, _, _, _, .nil, _, _ => .nil
  | _, _, _, _, .cons a b, n, k => .cons (RepO.share e a n fun p hp => k p (List.mem_append_left _ hp)) (RepOs.share e b n fun p hp => k p (List.mem_append_right _ hp))
end
theorem RepM.share {m : Md} {v : V} {d : D} {f : List Addr} (e : Ext I Ic) (h : RepM m K I H v d f) (hm : m.bor = true) (k : ∀ a ∈ f, ∀ o, H a = some o → Ic a = some o) : Rep K Ic v d := by
  cases m with
  | sh => cases hm
  | os t => exact RepO.share e h hm k
  | ps t => exact RepO.share e h hm k
end
theorem set_id {α : Type} : ∀ {l : List α} {i : Nat} {a : α}, l[i]? = some a → l.set i a = l
  | [], _, _, _ => rfl
  | x :: r, 0, a, h => by simp at h; subst h; rfl
  | x :: r, i + 1, a, h => by rw [List.set_cons_succ, set_id (by simpa using h)]
section
variable {K : PySem.W.Frag} {I H : Hp} {ms : List Md} {σ : L2.St}
/-- a slot is taken out -/
theorem Slots.out : ∀ {ms : List Md} {σ : L2.St} {env : Env} {fp : List Addr} {i : Nat} {d : D}, Slots K I H ms σ env fp → env[i]? = some (some d) →
    ∃ m v f rest, ms[i]? = some m ∧ σ[i]? = some (some v) ∧ RepM m K I H v d f ∧ Slots K I H ms σ (env.set i none) rest ∧ (f ++ rest).Perm fp
  | _, _, _, _, _, _, .nil, e => by simp at e
  | _, _, _, _, 0, _, .non s, e => by simp at e
  | _, _, _, _, 0, _, .som h s, e => by
    simp at e; subst e
    exact ⟨_, _, _, _, rfl, rfl, h, .non s, .refl _⟩
  | _, _, _, _, i + 1, d, .non s, e => by
    obtain ⟨m, v, f, rest, h1, h2, h3, h4, h5⟩ := s.out (i := i) (d := d) (by simpa using e)
    exact ⟨m, v, f, rest, by simpa using h1, by simpa using h2, h3, .non h4, h5⟩
  | _, _, _, _, i + 1, d, .som (fp1 := f0) h s, e => by
    obtain ⟨m, v, f, rest, h1, h2, h3, h4, h5⟩ := s.out (i := i) (d := d) (by simpa using e)
    refine ⟨m, v, f, f0 ++ rest, by simpa using h1, by simpa using h2, h3, .som h h4, ?_⟩
    have p1 : (f ++ (f0 ++ rest)).Perm (f0 ++ (f ++ rest)) := by
      rw [← List.append_assoc, ← List.append_assoc]
      exact (List.perm_append_comm).append_right _
    exact p1.trans (h5.append_left _)
/-- the arguments taken out of the slots: fc the lent lists, bs the borrowed ones -/
inductive Prep (K : PySem.W.Frag) (I H : Hp) (ms : List Md) (σ : L2.St) : List AK → List V → List D → Env → List Addr → Env → List Addr → List Addr → List Addr → Prop
  | nil {env : Env} {fp : List Addr} : Prep K I H ms σ [] [] [] env fp env fp [] []
  | sh {ks : List AK} {v : V} {vs : List V} {d : D} {ds : List D} {env env' : Env} {fp fp' fc bs : List Addr} : Rep K I v d → Prep K I H ms σ ks vs ds env fp env' fp' fc bs → Prep K I H ms σ (.sh :: ks) (v :: vs) (d :: ds) env fp env' fp' fc bs
  | lo {i : Nat} {t : OT} {m : Md} {ks : List AK} {v : V} {vs : List V} {d : D} {ds : List D} {env env' : Env} {fp f rest fp' fc bs : List Addr} : env[i]? = some (some d) → ms[i]? = some m → m.is t → σ[i]? = some (some v) → RepM m K I H v d f → (f ++ rest).Perm fp →
      Prep K I H ms σ ks vs ds (env.set i none) rest env' fp' fc bs → Prep K I H ms σ (.lo i t :: ks) (v :: vs) (d :: ds) env fp env' fp' (f ++ fc) bs
  | bo {i : Nat} {m : Md} {ks : List AK} {v : V} {vs : List V} {d : D} {ds : List D} {env env' : Env} {fp f rest fp' fc bs : List Addr} : env[i]? = some (some d) → ms[i]? = some m → m.bor = true → σ[i]? = some (some v) → RepM m K I H v d f → (f ++ rest).Perm fp →
      Prep K I H ms σ ks vs ds (env.set i none) rest env' fp' fc bs → Prep K I H ms σ (.bo i :: ks) (v :: vs) (d :: ds) env fp env' fp' fc (f ++ bs)
/-- what the arguments are, told beforehand -/
inductive ArgsAt (K : PySem.W.Frag) (I : Hp) (ms : List Md) (σ : L2.St) (env : Env) : List AK → List V → List D → Prop
  | nil : ArgsAt K I ms σ env [] [] []
  | sh {ks : List AK} {v : V} {vs : List V} {d : D} {ds : List D} : Rep K I v d → ArgsAt K I ms σ env ks vs ds → ArgsAt K I ms σ env (.sh :: ks) (v :: vs) (d :: ds)
  | lo {i : Nat} {t : OT} {m : Md} {ks : List AK} {v : V} {vs : List V} {d : D} {ds : List D} : env[i]? = some (some d) → ms[i]? = some m → m.is t → σ[i]? = some (some v) → ArgsAt K I ms σ env ks vs ds → ArgsAt K I ms σ env (.lo i t :: ks) (v :: vs) (d :: ds)
  | bo {i : Nat} {m : Md} {ks : List AK} {v : V} {vs : List V} {d : D} {ds : List D} : env[i]? = some (some d) → ms[i]? = some m → m.bor = true → σ[i]? = some (some v) → ArgsAt K I ms σ env ks vs ds → ArgsAt K I ms σ env (.bo i :: ks) (v :: vs) (d :: ds)
theorem nm_cons {i j : Nat} {l : List Nat} (h : i ∉ j :: l) : i ≠ j ∧ i ∉ l := by simpa using h
theorem ArgsAt.unset {i : Nat} {env : Env} : ∀ {ks : List AK} {vs : List V} {ds : List D}, ArgsAt K I ms σ env ks vs ds → i ∉ ixs ks → ArgsAt K I ms σ (env.set i none) ks vs ds
  | _, _, _, .nil, _ => .nil
  | _, _, _, .sh h r, n => .sh h (r.unset n)
  | _, _, _, .lo (i := j) h2 h3 h4 h5 r, n => .lo (by rw [List.getElem?_set_ne (nm_cons n).1]; exact h2) h3 h4 h5 (r.unset (nm_cons n).2)
  | _, _, _, .bo (i := j) h2 h3 h4 h5 r, n => .bo (by rw [List.getElem?_set_ne (nm_cons n).1]; exact h2) h3 h4 h5 (r.unset (nm_cons n).2)
theorem prep_of : ∀ {ks : List AK} {vs : List V} {ds : List D} {env : Env} {fp : List Addr}, ArgsAt K I ms σ env ks vs ds → (ixs ks).Nodup → Slots K I H ms σ env fp →
    ∃ env' fp' fc bs, Prep K I H ms σ ks vs ds env fp env' fp' fc bs ∧ Slots K I H ms σ env' fp' ∧ (fc ++ (bs ++ fp')).Perm fp
  | _, _, _, env, fp, .nil, _, s => ⟨env, fp, [], [], .nil, s, .refl _⟩
  | _, _, _, env, fp, .sh h r, nd, s => by
    obtain ⟨env', fp', fc, bs, a, b, c⟩ := prep_of r nd s
    exact ⟨env', fp', fc, bs, .sh h a, b, c⟩
  | _, _, _, env, fp, .lo (i := i) h2 h3 h4 h5 r, nd, s => by
    obtain ⟨n1, n2⟩ := List.nodup_cons.mp nd
    obtain ⟨m, v, f, rest, g1, g2, g3, g4, g5⟩ := s.out h2
    rw [h3] at g1; cases g1
    rw [h5] at g2; cases g2
    obtain ⟨env', fp', fc, bs, a1, b, c⟩ := prep_of (r.unset n1) n2 g4
    refine ⟨env', fp', f ++ fc, bs, .lo h2 h3 h4 h5 g3 g5 a1, b, ?_⟩
    rw [List.append_assoc]
    exact (c.append_left _).trans g5
  | _, _, _, env, fp, .bo (i := i) h2 h3 h4 h5 r, nd, s => by
    obtain ⟨n1, n2⟩ := List.nodup_cons.mp nd
    obtain ⟨m, v, f, rest, g1, g2, g3, g4, g5⟩ := s.out h2
    rw [h3] at g1; cases g1
    rw [h5] at g2; cases g2
    obtain ⟨env', fp', fc, bs, a1, b, c⟩ := prep_of (r.unset n1) n2 g4
    refine ⟨env', fp', fc, f ++ bs, .bo h2 h3 h4 h5 g3 g5 a1, b, ?_⟩
    have p1 : (fc ++ (f ++ bs ++ fp')).Perm (f ++ (fc ++ (bs ++ fp'))) := by
      rw [List.append_assoc, ← List.append_assoc, ← List.append_assoc f]
      exact (List.perm_append_comm).append_right _
    exact (p1.trans (c.append_left _)).trans g5
theorem RepM.ps_of {m : Md} {t : OT} {v : V} {d : D} {f : List Addr} (h : RepM m K I H v d f) (hm : m.is t) : RepM (.ps t) K I H v d f := by
  rcases hm with rfl | rfl <;> exact h
theorem RepM.of_ps {m : Md} {t : OT} {v : V} {d : D} {f : List Addr} (h : RepM (.ps t) K I H v d f) (hm : m.is t) : RepM m K I H v d f := by
  rcases hm with rfl | rfl <;> exact h
/-- the callee's slots -/
theorem Prep.callee {Ic : Hp} (e : Ext I Ic) : ∀ {ks : List AK} {vs : List V} {ds : List D} {env env' : Env} {fp fp' fc bs : List Addr}, Prep K I H ms σ ks vs ds env fp env' fp' fc bs → (∀ a ∈ bs, ∀ o, H a = some o → Ic a = some o) →
    Slots K Ic H (ks.map AK.md) (vs.map some) (ds.map some) fc
  | _, _, _, _, _, _, _, _, _, .nil, _ => .nil
  | _, _, _, _, _, _, _, _, _, .sh h r, hb => .som (fp1 := []) (m := .sh) ⟨h.mono e, rfl⟩ (r.callee e hb)
  | _, _, _, _, _, _, _, _, _, .lo (t := t) h1 h2 h3 h4 h5 h6 r, hb => .som (m := .ps t) ((h5.ps_of h3).move e fun p hp o ho => ho) (r.callee e hb)
  | _, _, _, _, _, _, _, _, _, .bo h1 h2 h3 h4 h5 h6 r, hb => by
    refine .som (fp1 := []) (m := .sh) ⟨?_, rfl⟩ (r.callee e fun a ha o ho => hb a (List.mem_append_right _ ha) o ho)
    exact h5.share e h3 fun a ha o ho => hb a (List.mem_append_left _ ha) o ho
/-- what the slots hold behind the call -/
def backE : List AK → Env → Env → Env
  | .lo i _ :: ks, o :: fin, env => (backE ks fin env).set i o
  | .bo i :: ks, _ :: fin, env => (backE ks fin env).set i (getS env i)
  | .sh :: ks, _ :: fin, env => backE ks fin env
  | _, _, env => env
theorem getS_none : ∀ {env : Env} {i j : Nat}, i ≠ j → getS (env.set i none) j = getS env j
  | [], _, _, _ => rfl
  | o :: r, 0, 0, h => absurd rfl h
  | o :: r, 0, j + 1, h => rfl
  | o :: r, i + 1, 0, h => rfl
  | o :: r, i + 1, j + 1, h => getS_none (env := r) (i := i) (j := j) (by omega)
theorem backE_set {i : Nat} {y : Option D} : ∀ {ks : List AK} {fin env : Env}, i ∉ ixs ks → (backE ks fin (env.set i none)).set i y = (backE ks fin env).set i y
  | [], _, env, _ => by simp [backE]
  | .sh :: ks, [], env, _ => by simp [backE]
  | .lo _ _ :: ks, [], env, _ => by simp [backE]
  | .bo _ :: ks, [], env, _ => by simp [backE]
  | .sh :: ks, o :: fin, env, h => backE_set (ks := ks) (fin := fin) h
  | .lo j _ :: ks, o :: fin, env, h => by
    have hn := nm_cons h
    show ((backE ks fin (env.set i none)).set j o).set i y = ((backE ks fin env).set j o).set i y
    rw [List.set_comm _ _ (Ne.symm hn.1), backE_set hn.2, List.set_comm _ _ hn.1]
  | .bo j :: ks, o :: fin, env, h => by
    have hn := nm_cons h
    show ((backE ks fin (env.set i none)).set j (getS (env.set i none) j)).set i y = ((backE ks fin env).set j (getS env j)).set i y
    rw [getS_none hn.1, List.set_comm _ _ (Ne.symm hn.1), backE_set hn.2, List.set_comm _ _ hn.1]
theorem Slots.unset : ∀ {ms : List Md} {σ : L2.St} {env : Env} {fp : List Addr} (i : Nat), Slots K I H ms σ env fp → ∃ fp', Slots K I H ms σ (env.set i none) fp' ∧ fp'.Sublist fp
  | _, _, _, _, _, .nil => ⟨[], .nil, .slnil⟩
  | _, _, _, fp, 0, .non s => ⟨fp, .non s, .refl _⟩
  | _, _, _, _, 0, .som (fp := fp) h s => ⟨fp, .non s, List.sublist_append_right _ _⟩
  | _, _, _, _, i + 1, .non s => by
    obtain ⟨fp', a, b⟩ := s.unset i
    exact ⟨fp', .non a, b⟩
  | _, _, _, _, i + 1, .som h s => by
    obtain ⟨fp', a, b⟩ := s.unset i
    exact ⟨_, .som h a, b.append_left _⟩
/-- a slot is filled again -/
theorem Slots.fill {i : Nat} {m : Md} {v : V} {d : D} {f fp : List Addr} {env : Env} (s : Slots K I H ms σ env fp) (h2 : ms[i]? = some m) (h4 : σ[i]? = some (some v)) (q : RepM m K I H v d f) (nd : (f ++ fp).Nodup) :
    ∃ fp', Slots K I H ms σ (env.set i (some d)) fp' ∧ fp'.Nodup ∧ ∀ p ∈ fp', p ∈ f ∨ p ∈ fp := by
  have hlt : i < ms.length := (List.getElem?_eq_some_iff.mp h2).1
  obtain ⟨fp', a, b, c⟩ := Slots.put q s hlt nd
  rw [set_id h2, set_id h4] at a
  exact ⟨fp', a, b, c⟩
/-- .. and that the callee left it so -/
theorem Prep.back {I' H' : Hp} : ∀ {ks : List AK} {vs : List V} {ds : List D} {env env' fin : Env} {fp fp' fc bs fc' : List Addr}, Prep K I H ms σ ks vs ds env fp env' fp' fc bs → (ixs ks).Nodup →
    Slots K I' H' (ks.map AK.md) (vs.map some) fin fc' → Slots K I' H' ms σ env' fp' → (fc' ++ (bs ++ fp')).Nodup → Ext I I' → (∀ a ∈ bs, ∀ o, H a = some o → H' a = some o) →
    ∃ fpn, Slots K I' H' ms σ (backE ks fin env) fpn ∧ fpn.Nodup ∧ ∀ p ∈ fpn, p ∈ fc' ∨ p ∈ bs ∨ p ∈ fp'
  | _, _, _, env, _, _, fp, _, _, _, _, .nil, _, .nil, s, nd, e, hb => ⟨fp, s, by simpa using nd, fun p hp => .inr (.inr hp)⟩
  | _, _, _, _, _, _, _, _, _, _, _, .sh h r, n, .non c, s, nd, e, hb => r.back n c s nd e hb
  | _, _, _, _, _, _, _, _, _, _, _, .sh h r, n, .som (fp1 := f0) q c, s, nd, e, hb => by
    obtain ⟨_, rfl⟩ := (show Rep K I' _ _ ∧ f0 = [] from q)
    exact r.back n c s (by simpa using nd) e hb
  | _, _, _, env, _, _, _, _, _, _, _, .lo (i := i) h1 h2 h3 h4 h5 h6 r, n, .non (fp := fcr) c, s, nd, e, hb => by
    obtain ⟨n1, n2⟩ := List.nodup_cons.mp n
    obtain ⟨fpn, a, b, d⟩ := r.back n2 c s nd e hb
    obtain ⟨fp2, a2, b2⟩ := a.unset i
    rw [backE_set n1] at a2
    exact ⟨fp2, a2, b.sublist b2, fun p hp => d p (b2.subset hp)⟩
  | _, _, _, env, _, _, _, _, _, _, _, .lo (i := i) h1 h2 h3 h4 h5 h6 r, n, .som (fp1 := f0) (fp := fcr) q c, s, nd, e, hb => by
    obtain ⟨n1, n2⟩ := List.nodup_cons.mp n
    rw [List.append_assoc] at nd
    obtain ⟨m1, m2, m3⟩ := List.nodup_append.mp nd
    obtain ⟨fpn, a, b, d⟩ := r.back n2 c s m2 e hb
    have nd3 : (f0 ++ fpn).Nodup := List.nodup_append.mpr ⟨m1, b, fun x hx y hy => m3 x hx y (by
      rcases d y hy with z | z | z
      · exact List.mem_append_left _ z
      · exact List.mem_append_right _ (List.mem_append_left _ z)
      · exact List.mem_append_right _ (List.mem_append_right _ z))⟩
    obtain ⟨fp2, a2, b2, d2⟩ := a.fill h2 h4 (q.of_ps h3) nd3
    rw [backE_set n1] at a2
    refine ⟨fp2, a2, b2, fun p hp => ?_⟩
    rcases d2 p hp with z | z
    · exact .inl (List.mem_append_left _ z)
    · exact (d p z).imp_left (List.mem_append_right _)
  | _, _, _, env, _, _, _, _, _, _, _, .bo (i := i) (f := f0) (bs := bsr) (fp' := fpr) (vs := vsr) (ks := ksr) h1 h2 h3 h4 h5 h6 r, n, c0, s, nd, e, hb => by
    obtain ⟨n1, n2⟩ := List.nodup_cons.mp n
    have hg := getS_iff.mpr h1
    have go : ∀ {fin0 : Env} {fcr : List Addr}, Slots K I' H' (ksr.map AK.md) (vsr.map some) fin0 fcr → (fcr ++ (f0 ++ bsr ++ fpr)).Nodup → ∃ fpn : List Addr, Slots K I' H' ms σ ((backE ksr fin0 env).set i (getS env i)) fpn ∧ fpn.Nodup ∧ ∀ p ∈ fpn, p ∈ fcr ∨ p ∈ f0 ++ bsr ∨ p ∈ fpr := by
      intro fin0 fcr c nd
      have nd' : (f0 ++ (fcr ++ (bsr ++ fpr))).Nodup := by
        refine List.Perm.nodup_iff ?_ |>.mp nd
        rw [List.append_assoc, ← List.append_assoc, ← List.append_assoc f0]
        exact (List.perm_append_comm).append_right _
      obtain ⟨m1, m2, m3⟩ := List.nodup_append.mp nd'
      obtain ⟨fpn, a, b, d⟩ := r.back n2 c s m2 e fun p hp o ho => hb p (List.mem_append_right _ hp) o ho
      have nd3 : (f0 ++ fpn).Nodup := List.nodup_append.mpr ⟨m1, b, fun x hx y hy => m3 x hx y (by
        rcases d y hy with z | z | z
        · exact List.mem_append_left _ z
        · exact List.mem_append_right _ (List.mem_append_left _ z)
        · exact List.mem_append_right _ (List.mem_append_right _ z))⟩
      obtain ⟨fp2, a2, b2, d2⟩ := a.fill h2 h4 (h5.move e fun p hp o ho => hb p (List.mem_append_left _ hp) o ho) nd3
      rw [backE_set n1] at a2
      refine ⟨fp2, by rw [hg]; exact a2, b2, fun p hp => ?_⟩
      rcases d2 p hp with z | z
      · exact .inr (.inl (List.mem_append_left _ z))
      · rcases d p z with y | y | y
        · exact .inl y
        · exact .inr (.inl (List.mem_append_right _ y))
        · exact .inr (.inr y)
    cases c0 with
    | non c => exact go c nd
    | som q c =>
      obtain ⟨_, rfl⟩ := (show Rep K I' _ _ ∧ _ = [] from q)
      exact go c nd
end
end DI
set_option Elab.async false
set_option autoImplicit false
set_option linter.all false
set_option maxRecDepth 100000
set_option maxHeartbeats 2000000
/-! DI6: a def's promise; a call's reading. -/
namespace DI
open PySem PySem.Spec PyProof.Rows
open L2 hiding XE Takes Takes.imp CX XE.of_call XE.new XE.leave takes_of passes_call Sky.land MkP PMk ps_raise mk_of ps_try_as HdsOk ps_try_many pmk_own passAt takes_none5 takes0 passL mk_end pmk_oex
open L2N hiding St
def D.atom : D → Bool
  | .lst _ => false
  | .tup _ => false
  | .dic _ _ => false
  | .scr _ => false
  | .exn _ _ _ => false
  | .ob _ => false
  | _ => true
/-- what is no list and does not lean on a borrowed one -/
def flatN : D → Bool
  | .tup ds => ds.all D.atom
  | .lst _ => false
  | .dic _ _ => false
  | .scr _ => false
  | .exn _ _ _ => false
  | .ob _ => false
  | _ => true
def flatO : OT → D → Bool
  | .l0, d => (match d with
    | .lst ds => ds.all D.atom
    | d => flatN d)
  | .ls t, d => (match d with
    | .lst ds => ds.all (flatO t)
    | d => flatN d)
  | .ob _ _ _, d => flatN d
/-- what comes does not lean on a borrowed list -/
def flatB (ro : Md) (d : D) : Bool := match ro with
  | .sh => flatN d
  | .os t => flatO t d
  | .ps t => flatO t d
def noBo : List AK → Bool
  | [] => true
  | .bo _ :: _ => false
  | _ :: ks => noBo ks
def finOk : List AK → Env → Bool
  | .lo _ t :: ks, o :: fin => (match o with
    | none => true
    | some d => flatO t d) && finOk ks fin
  | _ :: ks, o :: fin => (match o with
    | none => true
    | some _ => false) && finOk ks fin
  | _, _ => true
def flatR (ro : Md) : Except Exn D → Bool
  | .ok d => flatB ro d
  | .error e => e.fs.all fun q => q.2.atom
def okBo (ks : List AK) (ro : Md) (r : Except Exn D) (fin : Env) : Bool := noBo ks || (flatR ro r && finOk ks fin)
section
variable {K : PySem.W.Frag} {mg : Str → Option Value} {I I' H H' : Hp} {ms : List Md} {σ : L2.St}
theorem Rep.atom {v : V} {d : D} (h : Rep K I v d) (a : d.atom = true) : Rep K I' v d := by
  cases h with
  | non => exact .non
  | bl b => exact .bl b
  | int b => exact .int b
  | str b => exact .str b
  | sta b => exact .sta b
  | ty b => exact .ty b
  | gl b => exact .gl b
  | _ => cases a
theorem Reps.atoms : ∀ {vs : List V} {ds : List D}, Reps K I vs ds → ds.all D.atom = true → Reps K I' vs ds
  | _, _, .nil, _ => .nil
  | _, _, .cons h r, a => by
    rw [List.all_cons, Bool.and_eq_true] at a
    exact .cons (h.atom a.1) (r.atoms a.2)
theorem Rep.flatN {v : V} {d : D} (a : DI.flatN d = true) (t : ∀ p xs, SqT K I p xs → SqT K I' p xs) (r : Rep K I v d) : Rep K I' v d := by
  cases r with
  | lst h1 r => cases a
  | tup h1 r =>
    have a' : List.all _ D.atom = true := a
    exact .tup (t _ _ h1) (r.atoms a')
  | dic h l r => cases a
  | scr h => cases a
  | ex0 h => cases a
  | ex1 h h2 l r => cases a
  | non => exact .non
  | bl b => exact .bl b
  | int b => exact .int b
  | str b => exact .str b
  | sta b => exact .sta b
  | ty b => exact .ty b
  | gl b => exact .gl b
theorem flatO_nl {t : OT} {d : D} (h : flatO t d = true) (n : d.nl = true) : DI.flatN d = true := by
  cases d with
  | lst ds => cases n
  | ob ds => cases n
  | _ => cases t <;> exact h
mutual
theorem RepO.flat (tt : ∀ p xs, SqT K I p xs → SqT K I' p xs) : ∀ {t : OT} {v : V} {d : D} {f : List Addr}, RepO K I H t v d f → flatO t d = true → RepO K I' H t v d f
  | _, _, _, _, .nl a b, h => .nl a (b.flatN (flatO_nl h a) tt)
  | _, _, _, _, .l0 a b, h => .l0 a (b.atoms h)
  | _, _, _, _, .ls a b, h => .ls a (RepOs.flat tt b h)
  | _, _, _, _, .ob a b l c, h => by cases h
theorem RepOs.flat (tt : ∀ p xs, SqT K I p xs → SqT K I' p xs) : ∀ {t : OT} {v : List V} {d : List D} {f : List Addr}, RepOs K I H t v d f → d.all (flatO t) = true → RepOs K I' H t v d f
  | _, _, _, _, .nil, _ => .nil
  | _, _, _, _, .cons a b, h => by
    rw [List.all_cons, Bool.and_eq_true] at h
    exact .cons (RepO.flat tt a h.1) (RepOs.flat tt b h.2)
end
theorem RepM.flat {ro : Md} {v : V} {d : D} {f : List Addr} (h : RepM ro K I H v d f) (a : flatB ro d = true) (t : ∀ p xs, SqT K I p xs → SqT K I' p xs) : RepM ro K I' H v d f := by
  cases ro with
  | sh => exact ⟨h.1.flatN a t, h.2⟩
  | os o => exact RepO.flat t h a
  | ps o => exact RepO.flat t h a
theorem Slots.flat (t : ∀ p xs, SqT K I p xs → SqT K I' p xs) : ∀ {ks : List AK} {vs : List V} {fin : Env} {fp : List Addr}, Slots K I H (ks.map AK.md) (vs.map some) fin fp → finOk ks fin = true → Slots K I' H (ks.map AK.md) (vs.map some) fin fp
  | [], [], _, _, .nil, _ => .nil
  | .sh :: ks, v :: vs, _, _, .non s, a => .non (s.flat t (by simpa [finOk] using a))
  | .bo _ :: ks, v :: vs, _, _, .non s, a => .non (s.flat t (by simpa [finOk] using a))
  | .lo _ _ :: ks, v :: vs, _, _, .non s, a => .non (s.flat t (by simpa [finOk] using a))
  | .sh :: ks, v :: vs, _, _, .som h s, a => by simp [finOk] at a
  | .bo _ :: ks, v :: vs, _, _, .som h s, a => by simp [finOk] at a
  | .lo _ o :: ks, v :: vs, _, _, .som h s, a => by
    have a2 : (flatO o _ && finOk ks _) = true := a
    rw [Bool.and_eq_true] at a2
    exact .som (m := .ps o) (RepO.flat t h a2.1) (s.flat t a2.2)
theorem Prep.bs_nil {env env' : Env} : ∀ {ks : List AK} {vs : List V} {ds : List D} {env env' : Env} {fp fp' fc bs : List Addr}, Prep K I H ms σ ks vs ds env fp env' fp' fc bs → noBo ks = true → bs = []
  | _, _, _, _, _, _, _, _, _, .nil, _ => rfl
  | _, _, _, _, _, _, _, _, _, .sh h r, a => r.bs_nil (env := env) (env' := env') a
  | _, _, _, _, _, _, _, _, _, .lo h1 h2 h3 h4 h5 h6 r, a => r.bs_nil (env := env) (env' := env') a
  | _, _, _, _, _, _, _, _, _, .bo h1 h2 h3 h4 h5 h6 r, a => by cases a
/-! ### the promise -/
abbrev FnD := List D → Option (Except Exn D × Env)
def spF (K : PySem.W.Frag) (mg : Str → Option Value) (pm : List Md) (ro : Md) (F : FnD) : Sp := fun vs H Q E => ∃ I ds fp, St K pm I (vs.map some) (ds.map some) H fp ∧ ∃ r fin, F ds = some (r, fin) ∧
  (∀ d, r = .ok d → ∀ v H' I' fp' fv, St K pm I' (vs.map some) fin H' fp' → Step I H fp I' H' (fv ++ fp') → RepM ro K I' H' v d fv → (fv ++ fp').Nodup → (∀ p ∈ fv, I' p = none) → Q v H') ∧
  (∀ e, r = .error e → ∀ c dd H' I' fp', St K pm I' (vs.map some) fin H' fp' → Step I H fp I' H' fp' → ExcIs K mg I' e c dd → E c dd H')
theorem call_ok {W : WX} {ro : Md} {F : FnD} {ks : List AK} {pvs : List V} {pds : List D} {env fin : Env} {fp : List Addr} {r : Except Exn D} {Q : VK} (s : St K ms I σ env H fp) (ha : ArgsAt K I ms σ env ks pvs pds) (hn : (ixs ks).Nodup)
    (hF : F pds = some (r, fin)) (ho : okBo ks ro r fin = true)
    (q : ∀ d, r = .ok d → ∀ v H' I' fp' fv, St K ms I' σ (backE ks fin env) H' fp' → Step I H fp I' H' (fv ++ fp') → RepM ro K I' H' v d fv → (fv ++ fp').Nodup → (∀ p ∈ fv, I' p = none) → Q v H')
    (b : ∀ e, r = .error e → Bad K mg ms I σ H fp W e (backE ks fin env)) : spF K mg (ks.map AK.md) ro F pvs H Q (fun c dd H' => W c dd σ H') := by
  obtain ⟨env', fpr, fc, bs, P, sr, perm⟩ := prep_of ha hn s.sl
  have nd1 : (fc ++ (bs ++ fpr)).Nodup := perm.nodup_iff.mpr s.nd
  obtain ⟨n1, n2, n3⟩ := List.nodup_append.mp nd1
  obtain ⟨n4, n5, n6⟩ := List.nodup_append.mp n2
  have mfc : ∀ p ∈ fc, p ∈ fp := fun p hp => perm.mem_iff.mp (List.mem_append_left _ hp)
  have mbs : ∀ p ∈ bs, p ∈ fp := fun p hp => perm.mem_iff.mp (List.mem_append_right _ (List.mem_append_left _ hp))
  have mfr : ∀ p ∈ fpr, p ∈ fp := fun p hp => perm.mem_iff.mp (List.mem_append_right _ (List.mem_append_right _ hp))
  have tr : ∀ p ∈ fp, ∃ xs, H p = some xs ∧ mutO xs = true := s.sl.there
  generalize hIc : (fun a => if a ∈ bs then H a else I a : Hp) = Ic
  have icb : ∀ a, a ∈ bs → Ic a = H a := fun a h => by rw [← hIc]; exact if_pos h
  have icn : ∀ a, a ∉ bs → Ic a = I a := fun a h => by rw [← hIc]; exact if_neg h
  have eI : Ext I Ic := fun a o h => by
    by_cases hb : a ∈ bs
    · rw [s.off a (mbs a hb)] at h; cases h
    · rw [icn a hb]; exact h
  have eH : Ext Ic H := fun a o h => by
    by_cases hb : a ∈ bs
    · rw [icb a hb] at h; exact h
    · rw [icn a hb] at h; exact s.ext a o h
  have sc : St K (ks.map AK.md) Ic (pvs.map some) (pds.map some) H fc := ⟨eH, n1, fun p hp => by
    rw [icn p fun z => n3 p hp p (List.mem_append_left _ z) rfl]; exact s.off p (mfc p hp), P.callee eI fun a h o ho => by rw [icb a h]; exact ho⟩
  -- behind the call
  have back : ∀ (H' Ic' : Hp) (fc' fv : List Addr), St K (ks.map AK.md) Ic' (pvs.map some) fin H' fc' → Step Ic H fc Ic' H' (fv ++ fc') → (fv ++ fc').Nodup → (∀ p ∈ fv, Ic' p = none) → (noBo ks = true ∨ finOk ks fin = true) →
      ∃ I' fpn, St K ms I' σ (backE ks fin env) H' fpn ∧ Step I H fp I' H' (fv ++ fpn) ∧ (fv ++ fpn).Nodup ∧ (∀ p ∈ fv, I' p = none) ∧ (∀ p xs, SqT K Ic' p xs → SqT K I' p xs) ∧ (noBo ks = true → I' = Ic') ∧ (∀ a, a ∉ bs → I' a = Ic' a) ∧ (∀ a ∈ bs, ∃ xs, Ic' a = some xs ∧ mutO xs = true) := by
    intro H' Ic' fc' fv s' t nd' off' hfl
    have kb : ∀ a ∈ bs, ∀ o, H a = some o → H' a = some o := fun a h o ho => t.keep a o ho fun z => n3 a z a (List.mem_append_left _ h) rfl
    have icb' : ∀ a ∈ bs, ∃ xs, Ic' a = some xs ∧ mutO xs = true := fun a h => by
      obtain ⟨xs, hx, hm⟩ := tr a (mbs a h)
      exact ⟨xs, t.ext a _ (by rw [icb a h]; exact hx), hm⟩
    generalize hI' : (fun a => if a ∈ bs then none else Ic' a : Hp) = I'
    have ib : ∀ a, a ∈ bs → I' a = none := fun a h => by rw [← hI']; exact if_pos h
    have inn : ∀ a, a ∉ bs → I' a = Ic' a := fun a h => by rw [← hI']; exact if_neg h
    have e1 : Ext I I' := fun a o h => by
      have hb : a ∉ bs := fun z => by rw [s.off a (mbs a z)] at h; cases h
      rw [inn a hb]
      exact t.ext a o (eI a o h)
    have e2 : Ext I' Ic' := fun a o h => by
      by_cases hb : a ∈ bs
      · rw [ib a hb] at h; cases h
      · rw [inn a hb] at h; exact h
    have tt : ∀ p xs, SqT K Ic' p xs → SqT K I' p xs := fun p xs h => by
      have nb : ∀ o, Ic' p = some o → mutO o = false → p ∉ bs := fun o h1 h2 z => by
        obtain ⟨ys, hy, hm⟩ := icb' p z
        rw [h1] at hy; cases hy; rw [h2] at hm; cases hm
      rcases h with (h | ⟨o, h⟩) | h
      · exact .inl (.inl (by rw [inn p (nb _ h rfl)]; exact h))
      · exact .inl (.inr ⟨o, by rw [inn p (nb _ h rfl)]; exact h⟩)
      · exact .inr h
    have same : noBo ks = true → I' = Ic' := fun h => by
      have e := P.bs_nil (env := env) (env' := env') h
      funext a
      exact inn a (by rw [e]; simp)
    have sfin : Slots K I' H' (ks.map AK.md) (pvs.map some) fin fc' := by
      rcases hfl with h | h
      · rw [same h]; exact s'.sl
      · exact s'.sl.flat tt h
    have ownc : ∀ p ∈ fv ++ fc', p ∈ fc ∨ H p = none := t.own
    have apart : ∀ p ∈ fv ++ fc', p ∉ bs ∧ p ∉ fpr := fun p hp => by
      rcases ownc p hp with z | z
      · exact ⟨fun y => n3 p z p (List.mem_append_left _ y) rfl, fun y => n3 p z p (List.mem_append_right _ y) rfl⟩
      · refine ⟨fun y => ?_, fun y => ?_⟩
        · obtain ⟨xs, hx, _⟩ := tr p (mbs p y); rw [z] at hx; cases hx
        · obtain ⟨xs, hx, _⟩ := tr p (mfr p y); rw [z] at hx; cases hx
    obtain ⟨d1, d2, d3⟩ := List.nodup_append.mp nd'
    have ndb : (fc' ++ (bs ++ fpr)).Nodup := List.nodup_append.mpr ⟨d2, n2, fun x hx y hy e => by
      have := apart x (List.mem_append_right _ hx)
      rcases List.mem_append.mp hy with z | z
      · exact this.1 (e ▸ z)
      · exact this.2 (e ▸ z)⟩
    obtain ⟨fpn, w1, w2, w3⟩ := P.back hn sfin (sr.move e1 fun p hp o ho => t.keep p o ho fun z => n3 p z p (List.mem_append_right _ hp) rfl) ndb e1 kb
    have nfr : ∀ p ∈ fpr, Ic' p = none := fun p hp => by
      cases z : Ic' p with
      | none => rfl
      | some o =>
        exfalso
        rcases t.gr p (by rw [z]; simp) with y | y | y
        · rw [icn p fun w => n6 p w p hp rfl, s.off p (mfr p hp)] at y; exact y rfl
        · exact n3 p y p (List.mem_append_right _ hp) rfl
        · obtain ⟨xs, hx, _⟩ := tr p (mfr p hp); rw [y] at hx; cases hx
    have offn : ∀ p, p ∈ fc' ∨ p ∈ bs ∨ p ∈ fpr → I' p = none := fun p hp => by
      by_cases hb : p ∈ bs
      · exact ib p hb
      · rw [inn p hb]
        rcases hp with z | z | z
        · exact s'.off p z
        · exact absurd z hb
        · exact nfr p z
    refine ⟨I', fpn, ⟨e2.trans s'.ext, w2, fun p hp => offn p (w3 p hp), w1⟩, ⟨e1, fun c o h hc => t.keep c o h fun z => hc (mfc c z), fun p hp => ?_, fun c hc => ?_⟩, ?_, fun p hp => ?_, tt, same, inn, icb'⟩
    · rcases List.mem_append.mp hp with z | z
      · exact (ownc p (List.mem_append_left _ z)).imp_left (mfc p)
      · rcases w3 p z with y | y | y
        · exact (ownc p (List.mem_append_right _ y)).imp_left (mfc p)
        · exact .inl (mbs p y)
        · exact .inl (mfr p y)
    · by_cases hb : c ∈ bs
      · exact .inr (.inl (mbs c hb))
      · rw [inn c hb] at hc
        rcases t.gr c hc with z | z | z
        · rw [icn c hb] at z; exact .inl z
        · exact .inr (.inl (mfc c z))
        · exact .inr (.inr z)
    · refine List.nodup_append.mpr ⟨d1, w2, fun x hx y hy e => ?_⟩
      subst e
      rcases w3 x hy with z | z | z
      · exact d3 x hx x z rfl
      · exact (apart x (List.mem_append_left _ hx)).1 z
      · exact (apart x (List.mem_append_left _ hx)).2 z
    · rw [inn p (apart p (List.mem_append_left _ hp)).1]; exact off' p hp
  have ho2 : noBo ks = true ∨ (flatR ro r = true ∧ finOk ks fin = true) := by
    unfold okBo at ho
    rw [Bool.or_eq_true, Bool.and_eq_true] at ho
    exact ho
  have hfl : noBo ks = true ∨ finOk ks fin = true := ho2.imp_right And.right
  refine ⟨Ic, pds, fc, sc, r, fin, hF, fun d hr v H' Ic' fc' fv s' t rv nd' off' => ?_, fun e hr c dd H' Ic' fc' s' t x => ?_⟩
  · obtain ⟨I', fpn, w1, w2, w3, w4, w5, w6, w7, w8⟩ := back H' Ic' fc' fv s' t nd' off' hfl
    refine q d hr v H' I' fpn fv w1 w2 ?_ w3 w4
    rcases ho2 with z | ⟨z, _⟩
    · rw [w6 z]; exact rv
    · subst hr
      exact rv.flat z w5
  · obtain ⟨I', fpn, w1, w2, w3, w4, w5, w6, w7, w8⟩ := back H' Ic' fc' [] s' t s'.nd (fun p hp => by cases hp) hfl
    refine b e hr c dd H' I' fpn w1 w2 ?_
    rcases ho2 with z | ⟨z, _⟩
    · rw [w6 z]; exact x
    · subst hr
      obtain ⟨x1, x2⟩ := x
      refine ⟨x1, ?_⟩
      cases dd with
      | none => exact x2
      | some a =>
        obtain ⟨vs, h1, h2⟩ := x2
        have na : a ∉ bs := fun y => by
          obtain ⟨ys, hy, hm⟩ := w8 a y
          rw [h1] at hy; cases hy; cases hm
        exact ⟨vs, by rw [w7 a na]; exact h1, h2.atoms (by rw [List.all_map]; exact z)⟩
end
end DI
set_option Elab.async false
set_option autoImplicit false
set_option linter.all false
set_option maxRecDepth 100000
set_option maxHeartbeats 2000000
/-! DI7: the def's own rule, calls by name. -/
namespace DI
open PySem PySem.Spec PyProof.Rows
open L2 hiding XE Takes Takes.imp CX XE.of_call XE.new XE.leave takes_of passes_call Sky.land MkP PMk ps_raise mk_of ps_try_as HdsOk ps_try_many pmk_own passAt takes_none5 takes0 passL mk_end pmk_oex
open L2N hiding St
/-- what is known of where a def runs: nothing is being shown; the table of modules lies low -/
structure Amb (A : Around) (base : Heap) : Prop where
  guards : A.guards = some []
  low : sysModules < base.objs.size
structure FnG (P : Program) (w : World) (K : PySem.W.Frag) (mg : Str → Option Value) (base : Heap) (k : Nat) (f : Addr) (fd : FuncData) (ps : List Str) (sp : Sp) : Prop where
  len : ∀ vs H Q E, sp vs H Q E → vs.length = ps.length
  run : ∀ (A : Around) (outer : List PySem.Env) (s : Shared) (H : Hp) (args : Args) (us : List Value) (vs : List V) (Q : VK) (E : XK), Room k A → Amb A base → Env0 P w K mg base A outer s H →
    BindsTo s fd args (ps.zip us) → Vals vs us → sp vs H Q E → codeAny (model P w) A (.call (.ref f) args) (CR (L2N.CX P w) outer P w H s Q E) s
def sel {α : Type} (perm : List Nat) (l : List α) : List α := perm.filterMap fun i => l[i]?
theorem Vals.sel {vs : List V} {us : List Value} (r : Vals vs us) : ∀ perm : List Nat, Vals (sel perm vs) (sel perm us)
  | [] => .nil
  | i :: p => by
    unfold DI.sel
    rw [List.filterMap_cons, List.filterMap_cons]
    cases h : vs[i]? with
    | none => rw [r.none_of h]; exact Vals.sel r p
    | some v =>
      obtain ⟨u, h1, h2⟩ := r.get h
      rw [h1]
      exact .cons h2 (Vals.sel r p)
/-- how a call of this shape binds: n values by place, the keywords ks, the defaults dvs -/
structure CallB (K : PySem.W.Frag) (fd : FuncData) (ps : List Str) (n : Nat) (ks : List Str) (perm : List Nat) (dvs : List V) : Prop where
  ex : ∃ dus, Vals dvs dus ∧ ∀ (s : Shared) (us ws : List Value), K.In s.heap → us.length = n → ws.length = ks.length → BindsTo s fd ⟨us, ks.zip ws⟩ (ps.zip (sel perm (us ++ ws ++ dus)))
section
variable {X : Cx} {k n : Nat} {f : Addr} {fd : FuncData} {ps ks : List Str} {sp : Sp} {perm : List Nat} {dvs : List V} {x : Str} {p pos : Pos} {e : Expr} {es : List Expr} {kws : List Keyword} {t tk : TA} {W : WX}
theorem run_g {pins : List (Addr × Obj)} {σ : L2.St} {H : Hp} {s : Shared} {Q : VK} {us ws : List Value} {vs zs : List V} (F : FnG X.prog X.w X.K X.mg X.base k f fd ps sp) (hr : Room k X.A) (am : Amb X.A X.base) (hb : CallB X.K fd ps n ks perm dvs)
    (tk : Takes X W) (I : Inv X pins σ H s) (r : Vals vs us) (rz : Vals zs ws) (hn : us.length = n) (hk : ws.length = ks.length) (h : sp (sel perm (vs ++ zs ++ dvs)) H Q (fun c d H' => W c d σ H')) :
    wpAny (model X.prog X.w) X.A (call (.ref f) us (ks.zip ws)) (EP X pins σ Q) X.xe s := by
  obtain ⟨dus, rd, hb⟩ := hb.ex
  have r2 : Vals (sel perm (vs ++ zs ++ dvs)) (sel perm (us ++ ws ++ dus)) := Vals.sel ((r.append rz).append rd) perm
  refine wpAny_call (codeAny_mono (F.run X.A X.stack s H ⟨us, ks.zip ws⟩ _ _ Q _ hr am I.env0 (hb s us ws I.kIn hn hk) r2 h) fun q s' hq => ?_)
  cases q with
  | error ev => exact tk ev s' (XE.of_call I (fun _ _ _ h => h) hq)
  | ok fl =>
    cases fl with
    | ret u => exact I.after hq
    | next => exact False.elim hq
    | brk => exact False.elim hq
    | cont => exact False.elim hq
def tG (sp : Sp) (n m : Nat) (perm : List Nat) (dvs : List V) (W : WX) (t tk : TA) : TE := fun σ H Q => t σ H fun vs H1 => tk σ H1 fun zs H2 => vs.length = n ∧ zs.length = m ∧ sp (sel perm (vs ++ zs ++ dvs)) H2 Q (fun c d H' => W c d σ H')
theorem pe_g (F : FnG X.prog X.w X.K X.mg X.base k f fd ps sp) (hr : Room k X.A) (am : Amb X.A X.base) (hb : CallB X.K fd ps n [] perm dvs) (ht : Takes X W) (hg : Gl X x) (hm : X.mg x = some (.ref f)) (hk : PySem.W.keepIn X.K (.ref f) = true)
    (ha : PA X (e :: es) t) (hdb : (x == ("__debug__" : Str)) = false) (he : starEach (e :: es) X.env = (false, eval e X.env) :: starEach es X.env) (hpl : (backTo pos (starEach es X.env)).any (·.1) = false) :
    PE X (.Call (.Name x p) (e :: es) [] pos) (tG sp n 0 perm dvs W t tNil) := by
  refine ⟨fun pins s σ H Q I h => ?_⟩
  refine wpAny_Call_Name_kw (ld_glob I hg hm ?_ hdb)
  refine PySem.W.callWith_K (h₀ := X.base) I.ok.mod.kin hk (thn (ha.run pos pins s σ H _ I h) fun us s1 ⟨vs, H1, I1, r, n1, n2, q⟩ => ⟨I1.kIn, ?_⟩) he hpl
  exact run_g (ws := []) (zs := []) F hr am hb ht I1 r .nil (by show us.length = n; rw [← r.length]; exact n1) rfl q
end
/-! ### the operands of keywords -/
inductive DKs (X : Cx) (ms : List Md) : List Keyword → List Opd → Prop
  | nil : DKs X ms [] []
  | cons {nm : Option Str} {e : Expr} {kp : Pos} {kws : List Keyword} {o : Opd} {os : List Opd} : DO X ms e o → DKs X ms kws os → DKs X ms (⟨nm, e, kp⟩ :: kws) (o :: os)
/-! ### a call's meaning -/
def callOut (x : Option (Except Exn D × Env)) (kinds : List AK) (ro : Md) (e : Env) : Out D := match x with
  | none => none
  | some (r, fin) => if okBo kinds ro r fin = true then some (r, backE kinds fin e) else none
def cCall (F : FnD) (kinds : List AK) (ro : Md) (perm : List Nat) (dds : List D) (os : List Opd) : CE := fun env => mbind (evalOs os env) fun ds e => callOut (F (sel perm (ds ++ dds))) kinds ro e
/-- a list of one's own, of what is shared -/
def isOwn (ms : List Md) (i : Nat) : Bool := match ms[i]? with
  | some (.os .l0) => true
  | some (.ps .l0) => true
  | _ => false
def isT (ms : List Md) (i : Nat) (t : OT) : Bool := match ms[i]? with
  | some (.os u) => OT.eq u t
  | some (.ps u) => OT.eq u t
  | _ => false
def isBor (ms : List Md) (i : Nat) : Bool := match ms[i]? with
  | some m => m.bor
  | none => false
def argOk (ms : List Md) (os : List Opd) (k : AK) (p : Nat) : Bool := match os[p]?, k with
  | some (.tm _), .sh => true
  | some (.vr i), .lo j t => decide (i = j) && isT ms i t
  | some (.vr i), .bo j => decide (i = j) && isBor ms i
  | none, .sh => true
  | _, _ => false
theorem isOwn_some {ms : List Md} {i : Nat} (h : isOwn ms i = true) : ∃ m, ms[i]? = some m ∧ (m = .ow ∨ m = .pr) := by
  unfold isOwn at h
  split at h
  · exact ⟨_, by assumption, .inl rfl⟩
  · exact ⟨_, by assumption, .inr rfl⟩
  · cases h
theorem isT_some {ms : List Md} {i : Nat} {t : OT} (h : isT ms i t = true) : ∃ m, ms[i]? = some m ∧ m.is t := by
  unfold isT at h
  split at h
  · rw [← OT.eq_of h]; exact ⟨_, by assumption, .inl rfl⟩
  · rw [← OT.eq_of h]; exact ⟨_, by assumption, .inr rfl⟩
  · cases h
theorem isBor_some {ms : List Md} {i : Nat} (h : isBor ms i = true) : ∃ m, ms[i]? = some m ∧ m.bor = true := by
  unfold isBor at h
  split at h
  · exact ⟨_, by assumption, h⟩
  · cases h
def argsOk (ms : List Md) (os : List Opd) : List AK → List Nat → Bool
  | [], [] => true
  | k :: ks, p :: ps => argOk ms os k p && argsOk ms os ks ps
  | _, _ => false
section
variable {K : PySem.W.Frag} {mg : Str → Option Value} {ms : List Md} {I H : Hp} {σ : L2.St} {env : Env} {W : WX}
theorem OpRs.length : ∀ {os : List Opd} {vs : List V} {ds : List D}, OpRs K I H σ env os vs ds → vs.length = os.length ∧ ds.length = os.length
  | _, _, _, .nil => ⟨rfl, rfl⟩
  | _, _, _, .tm _ r => ⟨congrArg (· + 1) r.length.1, congrArg (· + 1) r.length.2⟩
  | _, _, _, .vr _ _ r => ⟨congrArg (· + 1) r.length.1, congrArg (· + 1) r.length.2⟩
theorem OpRs.at_tm : ∀ {os : List Opd} {vs : List V} {ds : List D} {p : Nat} {f : CE}, OpRs K I H σ env os vs ds → os[p]? = some (.tm f) → ∃ v d, vs[p]? = some v ∧ ds[p]? = some d ∧ Rep K I v d
  | _, _, _, _, _, .nil, h => by simp at h
  | _, _, _, 0, _, .tm h r, e => ⟨_, _, rfl, rfl, h⟩
  | _, _, _, 0, _, .vr _ _ r, e => by simp at e
  | _, _, _, p + 1, _, .tm _ r, e => by obtain ⟨v, d, a, b, c⟩ := r.at_tm (p := p) (by simpa using e); exact ⟨v, d, by simpa using a, by simpa using b, c⟩
  | _, _, _, p + 1, _, .vr _ _ r, e => by obtain ⟨v, d, a, b, c⟩ := r.at_tm (p := p) (by simpa using e); exact ⟨v, d, by simpa using a, by simpa using b, c⟩
theorem OpRs.at_vr : ∀ {os : List Opd} {vs : List V} {ds : List D} {p i : Nat}, OpRs K I H σ env os vs ds → os[p]? = some (.vr i) → ∃ v d, vs[p]? = some v ∧ ds[p]? = some d ∧ σ[i]? = some (some v) ∧ getS env i = some d
  | _, _, _, _, _, .nil, h => by simp at h
  | _, _, _, 0, _, .tm h r, e => by simp at e
  | _, _, _, 0, _, .vr h1 h2 r, e => by simp at e; subst e; exact ⟨_, _, rfl, rfl, h1, h2⟩
  | _, _, _, p + 1, _, .tm _ r, e => by obtain ⟨v, d, a, b, c⟩ := r.at_vr (p := p) (by simpa using e); exact ⟨v, d, by simpa using a, by simpa using b, c⟩
  | _, _, _, p + 1, _, .vr _ _ r, e => by obtain ⟨v, d, a, b, c⟩ := r.at_vr (p := p) (by simpa using e); exact ⟨v, d, by simpa using a, by simpa using b, c⟩
theorem args_at {os : List Opd} {vs : List V} {ds : List D} {dvs : List V} {dds : List D} (h : OpRs K I H σ env os vs ds) (hd : Reps K I dvs dds) : ∀ {ks : List AK} {perm : List Nat}, argsOk ms os ks perm = true → (∀ p ∈ perm, p < os.length + dds.length) →
    ArgsAt K I ms σ env ks (sel perm (vs ++ dvs)) (sel perm (ds ++ dds))
  | [], [], _, _ => .nil
  | [], _ :: _, h, _ => by cases h
  | _ :: _, [], h, _ => by cases h
  | k :: ks, p :: perm, ha, hp => by
    have ha2 : (argOk ms os k p && argsOk ms os ks perm) = true := ha
    rw [Bool.and_eq_true] at ha2
    obtain ⟨a1, a2⟩ := ha2
    have ih := args_at h hd a2 fun q hq => hp q (List.mem_cons_of_mem _ hq)
    obtain ⟨l1, l2⟩ := h.length
    have cons : ∀ {v d}, (vs ++ dvs)[p]? = some v → (ds ++ dds)[p]? = some d → sel (p :: perm) (vs ++ dvs) = v :: sel perm (vs ++ dvs) ∧ sel (p :: perm) (ds ++ dds) = d :: sel perm (ds ++ dds) := fun {v d} e1 e2 => by
      unfold sel
      rw [List.filterMap_cons, List.filterMap_cons, e1, e2]
      exact ⟨rfl, rfl⟩
    have old : ∀ {v d}, vs[p]? = some v → ds[p]? = some d → (vs ++ dvs)[p]? = some v ∧ (ds ++ dds)[p]? = some d := fun {v d} e1 e2 =>
      ⟨by rw [List.getElem?_append_left (List.getElem?_eq_some_iff.mp e1).1]; exact e1, by rw [List.getElem?_append_left (List.getElem?_eq_some_iff.mp e2).1]; exact e2⟩
    unfold argOk at a1
    cases ho : os[p]? with
    | none =>
      rw [ho] at a1
      cases k with
      | sh =>
        have hle : os.length ≤ p := List.getElem?_eq_none_iff.mp ho
        have hlt := hp p List.mem_cons_self
        have h3 : p - os.length < dds.length := by omega
        obtain ⟨v, h4, h5⟩ := hd.get (List.getElem?_eq_getElem h3)
        obtain ⟨c1, c2⟩ := cons (v := v) (d := dds[p - os.length]) (by rw [List.getElem?_append_right (by omega), l1]; exact h4) (by rw [List.getElem?_append_right (by omega), l2]; exact List.getElem?_eq_getElem h3)
        rw [c1, c2]
        exact .sh h5 ih
      | lo j t => cases a1
      | bo j => cases a1
    | some o =>
      rw [ho] at a1
      cases o with
      | tm f =>
        obtain ⟨v, d, e1, e2, e3⟩ := h.at_tm ho
        obtain ⟨o1, o2⟩ := old e1 e2
        obtain ⟨c1, c2⟩ := cons o1 o2
        cases k with
        | sh => rw [c1, c2]; exact .sh e3 ih
        | lo j t => cases a1
        | bo j => cases a1
      | vr i =>
        obtain ⟨v, d, e1, e2, e3, e4⟩ := h.at_vr ho
        obtain ⟨o1, o2⟩ := old e1 e2
        obtain ⟨c1, c2⟩ := cons o1 o2
        cases k with
        | sh => cases a1
        | lo j t =>
          have a2 : (decide (i = j) && isT ms i t) = true := a1
          rw [Bool.and_eq_true] at a2
          obtain rfl := of_decide_eq_true a2.1
          obtain ⟨m, h6, h7⟩ := isT_some a2.2
          rw [c1, c2]
          exact .lo (getS_iff.mp e4) h6 h7 e3 ih
        | bo j =>
          have a2 : (decide (i = j) && isBor ms i) = true := a1
          rw [Bool.and_eq_true] at a2
          obtain rfl := of_decide_eq_true a2.1
          obtain ⟨m, h6, h7⟩ := isBor_some a2.2
          rw [c1, c2]
          exact .bo (getS_iff.mp e4) h6 h7 e3 ih
theorem callOut_some {x : Option (Except Exn D × Env)} {kinds : List AK} {ro : Md} {e env' : Env} {r : Except Exn D} (h : callOut x kinds ro e = some (r, env')) : ∃ fin, x = some (r, fin) ∧ okBo kinds ro r fin = true ∧ env' = backE kinds fin e := by
  unfold callOut at h
  split at h
  · cases h
  · rename_i r' fin
    split at h
    · rename_i ho
      cases h
      exact ⟨fin, rfl, ho, rfl⟩
    · cases h
/-- a call's reading: the operands, then the promise -/
theorem call_read {F : FnD} {kinds : List AK} {ro m : Md} {perm : List Nat} {dvs : List V} {dds : List D} {os : List Opd} {H : Hp} {Q : VK} (hm : m = ro) (ha : argsOk ms os kinds perm = true) (hn : (ixs kinds).Nodup) (hp : ∀ p ∈ perm, p < os.length + dds.length) (hd : ∀ I, Reps K I dvs dds)
    (h : tE K mg ms m (cCall F kinds ro perm dds os) W σ H Q) : tOs K mg ms W os σ H (fun vs H1 => vs.length = os.length ∧ spF K mg (kinds.map AK.md) ro F (sel perm (vs ++ dvs)) H1 Q (fun c d H' => W c d σ H')) := by
  subst hm
  obtain ⟨I, env, fp, s, x, env', h1, q, b⟩ := h
  refine os_then s h1 b fun ds e1 vs H1 I1 fp1 h2 s1 t1 rs => ?_
  obtain ⟨fin, f1, f2, rfl⟩ := callOut_some h2
  refine ⟨rs.length.1, call_ok s1 (args_at rs (hd I1) ha hp) hn f1 f2 (fun d hx v H' I' fp' fv s' t' => q d hx v H' I' fp' fv s' (t1.trans t')) fun e hx => (b e hx).back t1⟩
end
theorem tOs_len {K : PySem.W.Frag} {mg : Str → Option Value} {ms : List Md} {W : WX} {σ : L2.St} : ∀ {os : List Opd} {H : Hp} {Q : List V → Hp → Prop}, tOs K mg ms W os σ H Q → tOs K mg ms W os σ H (fun vs H1 => vs.length = os.length ∧ Q vs H1)
  | [], H, Q, h => ⟨rfl, h⟩
  | o :: os, H, Q, h => tO_mono (ms := ms) (W := W) (o := o) (show tO K mg ms W o σ H (fun x H1 => tOs K mg ms W os σ H1 fun xs H2 => Q (x :: xs) H2) from h) fun v H1 h1 => by
    have h2 := tOs_len h1
    exact tOs_mono h2 fun vs H2 ⟨a, b⟩ => ⟨congrArg (· + 1) a, b⟩
where tOs_mono {K : PySem.W.Frag} {mg : Str → Option Value} {ms : List Md} {W : WX} {σ : L2.St} : ∀ {os : List Opd} {H : Hp} {Q Q' : List V → Hp → Prop}, tOs K mg ms W os σ H Q → (∀ vs H1, Q vs H1 → Q' vs H1) → tOs K mg ms W os σ H Q'
  | [], H, Q, Q', h, k => k _ _ h
  | o :: os, H, Q, Q', h, k => tO_mono (ms := ms) (W := W) (o := o) (show tO K mg ms W o σ H (fun x H1 => tOs K mg ms W os σ H1 fun xs H2 => Q (x :: xs) H2) from h) fun v H1 h1 => tOs_mono h1 fun vs H2 q => k _ _ q
section
variable {X : Cx} {ms : List Md} {k : Nat} {f : Addr} {fd : FuncData} {ps ks : List Str} {x : Str} {p pos : Pos} {e : Expr} {es : List Expr} {kws : List Keyword} {F : FnD} {kinds : List AK} {ro : Md} {perm : List Nat} {dvs : List V} {dds : List D} {os oks : List Opd}
theorem de_call (G : FnG X.prog X.w X.K X.mg X.base k f fd ps (spF X.K X.mg (kinds.map AK.md) ro F)) (hr : Room k X.A) (am : Amb X.A X.base) (hb : CallB X.K fd ps os.length [] perm dvs) (hd : ∀ I, Reps X.K I dvs dds) (hg : Gl X x) (hm : X.mg x = some (.ref f)) (hk : PySem.W.keepIn X.K (.ref f) = true)
    (ha : DOs X ms (e :: es) os) (h1 : argsOk ms os kinds perm = true := by rfl) (h2 : (ixs kinds).Nodup := by decide) (h3 : ∀ p ∈ perm, p < os.length + dds.length := by decide) (hdb : (x == ("__debug__" : Str)) = false := by decide)
    (he : starEach (e :: es) X.env = (false, eval e X.env) :: starEach es X.env := by rfl) (hpl : (backTo pos (starEach es X.env)).any (·.1) = false := by rfl) :
    DE X ms ro (.Call (.Name x p) (e :: es) [] pos) (cCall F kinds ro perm dds os) := fun W tk => pe_imp (pe_g G hr am hb tk hg hm hk (ha.pa tk) hdb he hpl) fun σ H Q h => by
  refine tOs_len.tOs_mono (call_read rfl h1 h2 h3 hd h) fun vs H1 ⟨a, b⟩ => ⟨a, rfl, ?_⟩
  rw [List.append_nil]; exact b
end
end DI
set_option Elab.async false
set_option autoImplicit false
set_option linter.all false
set_option maxRecDepth 100000
set_option maxHeartbeats 2000000
/-! DI8: meanings of statements. -/
namespace DI
open PySem PySem.Spec PyProof.Rows
open L2 hiding XE Takes Takes.imp CX XE.of_call XE.new XE.leave takes_of passes_call Sky.land MkP PMk ps_raise mk_of ps_try_as HdsOk ps_try_many pmk_own passAt takes_none5 takes0 passL mk_end pmk_oex
open L2N hiding St
inductive Fl where
  | nx | bk | ct | rt (d : D)
abbrev CS := Env → Out Fl
def nrm1 (m : Md) : Md := match m with
  | .ps t => .ps t
  | _ => .sh
def norm (ms : List Md) : List Md := ms.map nrm1
/-- what is kept of the slots where an exception leaves: the parameters' lists, the slots that xm names -/
def maskB : List Bool → List Md → Env → Env
  | b :: bs, m :: ms, o :: env => (if m.par = true ∨ b = true then o else none) :: maskB bs ms env
  | [], m :: ms, o :: env => (if m.par = true then o else none) :: maskB [] ms env
  | _, _, _ => []
/-- xm names nothing of one's own -/
def compat : List Bool → List Md → Bool
  | b :: bs, m :: ms => (!b || (m.isSh || m.par)) && compat bs ms
  | _, _ => true
def Keep (ms : List Md) (σ σ' : L2.St) : Prop := ∀ (i : Nat) (t : OT), ms[i]? = some (.ps t) → σ'[i]? = σ[i]?
section
variable {K : PySem.W.Frag} {mg : Str → Option Value} {I I1 H H1 : Hp} {fp fp1 : List Addr} {ms ms' B : List Md} {σ σ1 : L2.St} {env : Env} {xm : List Bool}
theorem Keep.refl (ms : List Md) (σ : L2.St) : Keep ms σ σ := fun _ _ _ => rfl
theorem nrm1_ps {m : Md} {t : OT} : nrm1 m = .ps t ↔ m = .ps t := by cases m <;> simp [nrm1]
theorem nrm1_par (m : Md) : (nrm1 m).par = m.par := by cases m <;> rfl
theorem par_of_nrm {m m' : Md} (h : nrm1 m' = nrm1 m) : m'.par = m.par := by rw [← nrm1_par, h, nrm1_par]
theorem norm_pr {ms : List Md} {i : Nat} {t : OT} : (norm ms)[i]? = some (.ps t) ↔ ms[i]? = some (.ps t) := by
  unfold norm
  rw [List.getElem?_map]
  cases ms[i]? with
  | none => simp
  | some m => simp [nrm1_ps]
theorem Keep.trans {σ2 : L2.St} (h : norm ms' = norm ms) (a : Keep ms σ σ1) (b : Keep ms' σ1 σ2) : Keep ms σ σ2 := fun i t hi =>
  (b i t (norm_pr.mp (by rw [h]; exact norm_pr.mpr hi))).trans (a i t hi)
theorem maskB_norm : ∀ {xm : List Bool} {ms ms' : List Md} {env : Env}, norm ms' = norm ms → maskB xm ms' env = maskB xm ms env
  | _, [], [], _, _ => rfl
  | _, [], _ :: _, _, h => by cases h
  | _, _ :: _, [], _, h => by cases h
  | [], m :: ms, m' :: ms', [], h => rfl
  | b :: bs, m :: ms, m' :: ms', [], h => rfl
  | [], m :: ms, m' :: ms', o :: env, h => by
    have h2 : nrm1 m' = nrm1 m ∧ norm ms' = norm ms := List.cons.inj h
    unfold maskB
    rw [maskB_norm h2.2, par_of_nrm h2.1]
  | b :: bs, m :: ms, m' :: ms', o :: env, h => by
    have h2 : nrm1 m' = nrm1 m ∧ norm ms' = norm ms := List.cons.inj h
    unfold maskB
    rw [maskB_norm h2.2, par_of_nrm h2.1]
theorem RepM.nrm {m : Md} {v : V} {d : D} {f : List Addr} (h : RepM m K I H v d f) (k : m.par = true ∨ m.isSh = true) : RepM (nrm1 m) K I H v d f := by
  cases m with
  | sh => exact h
  | os t => rcases k with k | k <;> cases k
  | ps t => exact h
theorem Slots.maskB : ∀ {xm : List Bool} {ms : List Md} {σ : L2.St} {env : Env} {fp : List Addr}, Slots K I H ms σ env fp → compat xm ms = true → ∃ fp', Slots K I H (norm ms) σ (maskB xm ms env) fp' ∧ fp'.Sublist fp
  | [], _, _, _, _, .nil, _ => ⟨[], .nil, .slnil⟩
  | b :: bs, _, _, _, _, .nil, _ => ⟨[], .nil, .slnil⟩
  | [], _, _, _, _, .non (m := m) s, h => by
    obtain ⟨fp', a, b⟩ := s.maskB (xm := []) (by unfold compat; rfl)
    refine ⟨fp', ?_, b⟩
    unfold DI.maskB
    split <;> exact .non a
  | b0 :: bs, _, _, _, _, .non (m := m) s, h => by
    have h2 : ((!b0 || (m.isSh || m.par)) && compat bs _) = true := h
    rw [Bool.and_eq_true] at h2
    obtain ⟨fp', a, b⟩ := s.maskB h2.2
    refine ⟨fp', ?_, b⟩
    unfold DI.maskB
    split <;> exact .non a
  | [], _, _, _, _, .som (m := m) (fp1 := f0) q s, h => by
    obtain ⟨fp', a, b⟩ := s.maskB (xm := []) (by unfold compat; rfl)
    unfold DI.maskB
    by_cases e : m.par = true
    · rw [if_pos e]
      exact ⟨f0 ++ fp', .som (q.nrm (.inl e)) a, b.append_left _⟩
    · rw [if_neg e]
      exact ⟨fp', .non a, b.trans (List.sublist_append_right _ _)⟩
  | b0 :: bs, _, _, _, _, .som (m := m) (fp1 := f0) q s, h => by
    have h2 : ((!b0 || (m.isSh || m.par)) && compat bs _) = true := h
    rw [Bool.and_eq_true] at h2
    obtain ⟨fp', a, b⟩ := s.maskB h2.2
    unfold DI.maskB
    by_cases e : m.par = true ∨ b0 = true
    · rw [if_pos e]
      refine ⟨f0 ++ fp', .som (q.nrm ?_) a, b.append_left _⟩
      rcases e with e | e
      · exact .inl e
      · subst e
        have h3 : (m.isSh || m.par) = true := h2.1
        rw [Bool.or_eq_true] at h3
        exact h3.symm
    · rw [if_neg e]
      exact ⟨fp', .non a, b.trans (List.sublist_append_right _ _)⟩
theorem St.maskB (s : St K ms I σ env H fp) (h : compat xm ms = true) : ∃ fp', St K (norm ms) I σ (maskB xm ms env) H fp' ∧ ∀ p ∈ fp', p ∈ fp := by
  obtain ⟨fp', a, b⟩ := s.sl.maskB h
  exact ⟨fp', ⟨s.ext, s.nd.sublist b, fun p hp => s.off p (b.subset hp), a⟩, fun p hp => b.subset hp⟩
theorem Step.less {fp2 : List Addr} (t : Step I H fp I1 H1 fp1) (h : ∀ p ∈ fp2, p ∈ fp1) : Step I H fp I1 H1 fp2 := ⟨t.ext, t.keep, fun p hp => t.own p (h p hp), t.gr⟩
variable (K mg) in
/-- an exception's way out of statements -/
def BadS (xm : List Bool) (ms : List Md) (I : Hp) (σ : L2.St) (H : Hp) (fp : List Addr) (W : WX) (e : Exn) (env' : Env) : Prop :=
  ∀ c dd σ' H' I' fp', St K (norm ms) I' σ' (DI.maskB xm ms env') H' fp' → Step I H fp I' H' fp' → ExcIs K mg I' e c dd → Keep ms σ σ' → W c dd σ' H'
theorem BadS.bad {W : WX} {e : Exn} {env' : Env} (b : BadS K mg xm ms I σ H fp W e env') (h : compat xm ms = true) : Bad K mg ms I σ H fp W e env' := fun c dd H' I' fp' s t x => by
  obtain ⟨fp2, s2, h2⟩ := s.maskB h
  exact b c dd σ H' I' fp2 s2 (t.less h2) x (Keep.refl _ _)
theorem BadS.back {W : WX} {e : Exn} {env' : Env} (b : BadS K mg xm ms I σ H fp W e env') (hn : norm ms' = norm ms) (t : Step I H fp I1 H1 fp1) (k : Keep ms σ σ1) : BadS K mg xm ms' I1 σ1 H1 fp1 W e env' :=
  fun c dd σ' H' I' fp' s t' x k' => b c dd σ' H' I' fp' (by rw [← hn, ← maskB_norm hn]; exact s) (t.trans t') x (Keep.trans hn k k')
variable (K mg) in
def tS (xm : List Bool) (ms ms' B : List Md) (ro : Md) (f : CS) (W : WX) : TS := fun D σ H => ∃ I env fp, St K ms I σ env H fp ∧ ∃ r env', f env = some (r, env') ∧
  (r = .ok .nx → ∀ σ' H' I' fp', St K ms' I' σ' env' H' fp' → Step I H fp I' H' fp' → Keep ms σ σ' → D.nx σ' H') ∧
  (r = .ok .bk → ∀ σ' H' I' fp', St K B I' σ' env' H' fp' → Step I H fp I' H' fp' → Keep ms σ σ' → D.bk σ' H') ∧
  (r = .ok .ct → ∀ σ' H' I' fp', St K B I' σ' env' H' fp' → Step I H fp I' H' fp' → Keep ms σ σ' → D.ct σ' H') ∧
  (∀ d, r = .ok (.rt d) → ∀ v σ' H' I' fp' fv, St K (norm ms) I' σ' (DI.maskB [] ms env') H' fp' → Step I H fp I' H' (fv ++ fp') → RepM ro K I' H' v d fv → (fv ++ fp').Nodup → (∀ p ∈ fv, I' p = none) → Keep ms σ σ' → D.rt v H') ∧
  (∀ e, r = .error e → BadS K mg xm ms I σ H fp W e env')
end
structure DS (X : Cx) (xm : List Bool) (ms ms' B : List Md) (ro : Md) (st : Stmt) (f : CS) : Prop where
  nm : norm ms' = norm ms
  run : ∀ W, Takes X W → PS X st (tS X.K X.mg xm ms ms' B ro f W)
structure DSs (X : Cx) (xm : List Bool) (ms ms' B : List Md) (ro : Md) (st : List Stmt) (f : CS) : Prop where
  nm : norm ms' = norm ms
  run : ∀ W, Takes X W → PSs X st (tS X.K X.mg xm ms ms' B ro f W)
/-! ### blocks -/
def cSkip : CS := fun env => some (.ok .nx, env)
def cSeq (f1 f2 : CS) : CS := fun env => match f1 env with
  | some (.ok .nx, e) => f2 e
  | x => x
def cStuck : CS := fun _ => none
section
variable {X : Cx} {xm : List Bool} {ms ms' ms2 B : List Md} {ro m : Md} {st : Stmt} {sts : List Stmt} {f f1 f2 : CS} {fe fa : CE} {e a b : Expr} {es : List Expr} {pos p p2 : Pos} {os : List Opd} {W : WX}
theorem dss_nil : DSs X xm ms ms B ro [] cSkip := ⟨rfl, fun W tk => pss_imp pss_nil fun D σ H h => by
  obtain ⟨I, env, fp, s, r, env', h1, q, _⟩ := h
  cases h1
  exact q rfl σ H I fp s (.refl _ _ _) (Keep.refl _ _)⟩
def cBrk : CS := fun env => some (.ok .bk, env)
def cCnt : CS := fun env => some (.ok .ct, env)
theorem seq_read {K : PySem.W.Frag} {mg : Str → Option Value} {D : Ends} {σ : L2.St} {H : Hp} (nm : norm ms2 = norm ms) (h : tS K mg xm ms ms' B ro (cSeq f1 f2) W D σ H) : tSeq (tS K mg xm ms ms2 B ro f1 W) (tS K mg xm ms2 ms' B ro f2 W) D σ H := by
  obtain ⟨I, env, fp, s, r, env', h1, q1, q2, q3, q4, q5⟩ := h
  unfold cSeq at h1
  cases hf : f1 env with
  | none => rw [hf] at h1; cases h1
  | some x =>
    obtain ⟨r1, e1⟩ := x
    rw [hf] at h1
    by_cases hx : r1 = .ok .nx
    · subst hx
      have h1' : f2 e1 = some (r, env') := h1
      refine ⟨I, env, fp, s, _, _, hf, fun _ σ1 H1 I1 fp1 s1 t1 k1 => ?_, fun z => (by cases z), fun z => (by cases z), fun d z => (by cases z), fun e z => (by cases z)⟩
      refine ⟨I1, e1, fp1, s1, r, env', h1', fun z σ' H' I' fp' s' t' k' => q1 z σ' H' I' fp' s' (t1.trans t') (Keep.trans nm k1 k'), fun z σ' H' I' fp' s' t' k' => q2 z σ' H' I' fp' s' (t1.trans t') (Keep.trans nm k1 k'),
        fun z σ' H' I' fp' s' t' k' => q3 z σ' H' I' fp' s' (t1.trans t') (Keep.trans nm k1 k'), fun d z v σ' H' I' fp' fv s' t' rv nd off k' => ?_, fun e z => (q5 e z).back nm t1 k1⟩
      refine q4 d z v σ' H' I' fp' fv ?_ (t1.trans t') rv nd off (Keep.trans nm k1 k')
      rw [← nm, ← maskB_norm nm]; exact s'
    · have h1' : some (r1, e1) = some (r, env') := by
        cases r1 with
        | error e => exact h1
        | ok fl => cases fl with
          | nx => exact absurd rfl hx
          | bk => exact h1
          | ct => exact h1
          | rt d => exact h1
      cases h1'
      exact ⟨I, env, fp, s, _, _, hf, fun z => absurd z hx, q2, q3, q4, q5⟩
theorem dss_cons (h1 : DS X xm ms ms2 B ro st f1) (h2 : DSs X xm ms2 ms' B ro sts f2) : DSs X xm ms ms' B ro (st :: sts) (cSeq f1 f2) :=
  ⟨h2.nm.trans h1.nm, fun W tk => pss_imp (pss_cons (h1.run W tk) (h2.run W tk)) fun D σ H h => seq_read h1.nm h⟩
theorem dss_one (h1 : DS X xm ms ms' B ro st f1) : DSs X xm ms ms' B ro [st] f1 := ⟨h1.nm, fun W tk => pss_one (h1.run W tk)⟩
/-- a list of one's own is shared from here on (a remark of the proof's) -/
theorem dss_share (i : Nat) (hi : ms[i]? = some .ow := by rfl) (h : DSs X xm (ms.set i .sh) ms' B ro sts f) : DSs X xm ms ms' B ro sts f := by
  have nm1 : norm (ms.set i .sh) = norm ms := by
    unfold norm
    rw [List.map_set]
    exact set_id (by rw [List.getElem?_map, hi]; rfl)
  refine ⟨h.nm.trans nm1, fun W tk => pss_imp (h.run W tk) fun D σ H h' => ?_⟩
  obtain ⟨I, env, fp, s, r, env', h1, q1, q2, q3, q4, q5⟩ := h'
  obtain ⟨I1, fp1, a1, a2, a3, a4, a5, a6⟩ := s.sl.share s.nd s.off s.ext hi
  have t1 : Step I H fp I1 H fp1 := ⟨a1, fun _ _ h _ => h, fun p hp => .inl (a4.subset hp), fun b hb => (a6 b hb).imp_right .inl⟩
  have k1 : Keep ms σ σ := Keep.refl _ _
  refine ⟨I1, env, fp1, ⟨a2, s.nd.sublist a4, a5, a3⟩, r, env', h1, fun z σ' H' I' fp' s' t' k' => q1 z σ' H' I' fp' s' (t1.trans t') (Keep.trans nm1 k1 k'), fun z σ' H' I' fp' s' t' k' => q2 z σ' H' I' fp' s' (t1.trans t') (Keep.trans nm1 k1 k'),
    fun z σ' H' I' fp' s' t' k' => q3 z σ' H' I' fp' s' (t1.trans t') (Keep.trans nm1 k1 k'), fun d z v σ' H' I' fp' fv s' t' rv nd off k' => ?_, fun e z => (q5 e z).back nm1 t1 k1⟩
  refine q4 d z v σ' H' I' fp' fv ?_ (t1.trans t') rv nd off (Keep.trans nm1 k1 k')
  rw [← nm1, ← maskB_norm nm1]; exact s'
/-! ### names -/
def cAsg (i : Nat) (f : CE) : CS := fun env => mbind (f env) fun d e => some (.ok .nx, e.set i (some d))
theorem nrm1_np {m : Md} (h : m.par = false) : nrm1 m = .sh := by cases m with
  | sh => rfl
  | os t => rfl
  | ps t => cases h
theorem norm_set {i : Nat} {m0 : Md} (h : ms[i]? = some m0) (h0 : m0.par = false) (h1 : m.par = false) : norm (ms.set i m) = norm ms := by
  unfold norm
  rw [List.map_set]
  refine set_id ?_
  rw [List.getElem?_map, h, nrm1_np h1]
  show some (nrm1 m0) = some .sh
  rw [nrm1_np h0]
theorem keep_set {σ : L2.St} {i : Nat} {m0 : Md} {v : Option V} (h : ms[i]? = some m0) (h0 : m0.par = false) : Keep ms σ (σ.set i v) := fun j t hj => by
  by_cases e : i = j
  · subst e
    rw [h] at hj
    cases hj; cases h0
  · rw [List.getElem?_set_ne e]
theorem put_st {K : PySem.W.Frag} {I H I1 H1 : Hp} {σ : L2.St} {env : Env} {fp fp1 fv : List Addr} {i : Nat} {v : V} {d : D} (s : St K ms I1 σ env H1 fp1) (t : Step I H fp I1 H1 (fv ++ fp1)) (rv : RepM m K I1 H1 v d fv) (nd : (fv ++ fp1).Nodup) (off : ∀ p ∈ fv, I1 p = none) (hi : i < ms.length) :
    ∃ fp2, St K (ms.set i m) I1 (σ.set i (some v)) (env.set i (some d)) H1 fp2 ∧ Step I H fp I1 H1 fp2 := by
  obtain ⟨fp2, a, b, c⟩ := Slots.put rv s.sl hi nd
  refine ⟨fp2, ⟨s.ext, b, fun p hp => (c p hp).elim (off p) (s.off p), a⟩, t.less fun p hp => (c p hp).elim (List.mem_append_left _) (List.mem_append_right _)⟩
def notPr (ms : List Md) (i : Nat) : Bool := match ms[i]? with
  | some m => !m.par
  | none => false
theorem notPr_some {i : Nat} (h : notPr ms i = true) : ∃ m0, ms[i]? = some m0 ∧ m0.par = false ∧ i < ms.length := by
  unfold notPr at h
  cases hm : ms[i]? with
  | none => rw [hm] at h; cases h
  | some m0 =>
    rw [hm] at h
    exact ⟨m0, rfl, by simpa using h, (List.getElem?_eq_some_iff.mp hm).1⟩
theorem asg_read {K : PySem.W.Frag} {mg : Str → Option Value} {D : Ends} {σ : L2.St} {H : Hp} {i : Nat} (h0 : notPr ms i = true) (hc : compat xm ms = true) (h : tS K mg xm ms (ms.set i m) B ro (cAsg i fe) W D σ H) : tAsg (tE K mg ms m fe W) (gName i) D σ H := by
  obtain ⟨m0, g1, g2, g3⟩ := notPr_some h0
  obtain ⟨I, env, fp, s, r, env', h1, q1, q2, q3, q4, q5⟩ := h
  rcases mbind_some h1 with ⟨e, h2, rfl⟩ | ⟨d, e1, h2, h3⟩
  · exact ⟨I, env, fp, s, _, _, h2, fun d z => (by cases z), fun e' z => by cases z; exact (q5 e rfl).bad hc⟩
  · cases h3
    refine ⟨I, env, fp, s, _, _, h2, fun d' z v H1 I1 fp1 fv s1 t1 rv nd off => ?_, fun e' z => by cases z⟩
    cases z
    obtain ⟨fp2, s2, t2⟩ := put_st s1 t1 rv nd off g3
    exact q1 rfl _ H1 I1 fp2 s2 t2 (keep_set g1 g2)
theorem ds_asg (i : Nat) {x : Str} (he : DE X ms m e fe) (hN : X.N.Nodup) (h0 : notPr ms i = true := by rfl) (h1 : m.par = false := by rfl) (hi : X.N[i]? = some x := by rfl) (hx : Loc X.env.scope x := by first | exact .inl rfl | exact .inr rfl) (hc : compat xm ms = true := by rfl)
    (hs : swapsWith e (some (.Name x p)) pos.line X.env = pure false := by rfl) (hf : X.fn x = true ∨ X.env.scope.names.lookup x = some .local := by first | exact .inl rfl | exact .inr rfl) : DS X xm ms (ms.set i m) B ro (.Assign [.Name x p] e pos) (cAsg i fe) :=
  ⟨let ⟨_, g1, g2, _⟩ := notPr_some h0; norm_set g1 g2 h1, fun W tk => ps_imp (ps_set (i := i) hN hi hx (he W tk) hs hf) fun D σ H h => asg_read h0 hc h⟩
/-- a, b = e1, e2 -/
def cPar (i j : Nat) (f1 f2 : CE) : CS := fun env => mbind (f1 env) fun d e => mbind (f2 e) fun d2 e2 => some (.ok .nx, (e2.set i (some d)).set j (some d2))
theorem ds_par (i j : Nat) {x y : Str} {m1 m2 : Md} {px py pt : Pos} {kt k2 : Nat} {pt2 : Pos} (ha : DE X ms m1 a fe) (hb : DE X ms m2 b fa) (hN : X.N.Nodup) (hc : X.calm = true) (h0 : notPr ms i = true := by rfl) (h0' : notPr ms j = true := by rfl) (h1 : m1.par = false := by rfl) (h1' : m2.par = false := by rfl)
    (hi : X.N[i]? = some x := by rfl) (hj : X.N[j]? = some y := by rfl) (hij : i ≠ j := by decide) (hx : X.env.scope.names.lookup x = some .local := by rfl) (hy : X.env.scope.names.lookup y = some .local := by rfl) (hcm : compat xm ms = true := by rfl)
    (hw : swappedStores [.Tuple [.Name x px, .Name y py] kt pt] (.Tuple [a, b] k2 pt2) X.env = pure (some [x, y]) := by rfl) (hs : swapsWithSole [.Tuple [.Name x px, .Name y py] kt pt] (.Tuple [a, b] k2 pt2) pos.line X.env = pure false := by rfl)
    (e1 : starEach [a, b] X.env = (false, eval a X.env) :: starEach [b] X.env := by rfl) (e2 : starEach [b] X.env = (false, eval b X.env) :: starEach [] X.env := by rfl) :
    DS X xm ms ((ms.set i m1).set j m2) B ro (.Assign [.Tuple [.Name x px, .Name y py] kt pt] (.Tuple [a, b] k2 pt2) pos) (cPar i j fe fa) := by
  obtain ⟨m0, g1, g2, g3⟩ := notPr_some h0
  obtain ⟨m0', g1', g2', g3'⟩ := notPr_some h0'
  have gj : (ms.set i m1)[j]? = some m0' := by rw [List.getElem?_set_ne hij]; exact g1'
  refine ⟨(norm_set gj g2' h1').trans (norm_set g1 g2 h1), fun W tk => ps_imp (ps_par hc hN hi hj hij hx hy (pa_cons (ha W tk) (pa_cons (hb W tk) pa_nil e2) e1) hw hs) fun D σ H h => ?_⟩
  obtain ⟨I, env, fp, s, r, env', h1, q1, q2, q3, q4, q5⟩ := h
  show tE X.K X.mg ms m1 fe W σ H fun x H1 => tE X.K X.mg ms m2 fa W σ H1 fun y H2 => ∃ v w, [x, y] = [v, w] ∧ D.nx ((σ.set i (some v)).set j (some w)) H2
  rcases mbind_some h1 with ⟨e, h2, rfl⟩ | ⟨d, n1, h2, h3⟩
  · exact ⟨I, env, fp, s, _, _, h2, fun d z => (by cases z), fun e' z => by cases z; exact (q5 e rfl).bad hcm⟩
  · refine ⟨I, env, fp, s, _, _, h2, fun d' z v H1 I1 fp1 fv s1 t1 rv nd off => ?_, fun e' z => by cases z⟩
    cases z
    have t1' : Step I H fp I1 H1 fp1 := t1.less fun p hp => List.mem_append_right _ hp
    rcases mbind_some h3 with ⟨e, h4, rfl⟩ | ⟨d2, n2, h4, h5⟩
    · exact ⟨I1, n1, fp1, s1, _, _, h4, fun d z => (by cases z), fun e' z => by cases z; exact ((q5 e rfl).bad hcm).back t1'⟩
    · cases h5
      refine ⟨I1, n1, fp1, s1, _, _, h4, fun d' z v2 H2 I2 fp2 fv2 s2 t2 rv2 nd2 off2 => ⟨v, v2, rfl, ?_⟩, fun e' z => by cases z⟩
      cases z
      obtain ⟨a1, a2, a3⟩ := List.nodup_append.mp nd
      obtain ⟨b1, b2, b3⟩ := List.nodup_append.mp nd2
      have there : ∀ p ∈ fv, ∃ xs, H1 p = some xs ∧ mutO xs = true := rv.there
      have rvm : RepM m1 X.K I2 H2 v d fv := rv.move t2.ext fun p hp o ho => t2.keep p o ho fun z => a3 p hp p z rfl
      have apart : ∀ p ∈ fv, p ∉ fv2 ++ fp2 := fun p hp z => by
        rcases t2.own p z with y | y
        · exact a3 p hp p y rfl
        · obtain ⟨xs, hx, _⟩ := there p hp; rw [y] at hx; cases hx
      have off3 : ∀ p ∈ fv, I2 p = none := fun p hp => by
        cases z : I2 p with
        | none => rfl
        | some o =>
          rcases t2.gr p (by rw [z]; simp) with y | y | y
          · exact absurd (off p hp) y
          · exact absurd rfl (a3 p hp p y)
          · obtain ⟨xs, hx, _⟩ := there p hp; rw [y] at hx; cases hx
      obtain ⟨fp3, w1, w2, w3⟩ := Slots.put rvm s2.sl g3 (List.nodup_append.mpr ⟨a1, b2, fun x hx y hy e => apart x hx (e ▸ List.mem_append_right _ hy)⟩)
      obtain ⟨fp4, u1, u2, u3⟩ := Slots.put rv2 w1 (show j < (ms.set i m1).length by rw [List.length_set]; exact g3') (List.nodup_append.mpr ⟨b1, w2, fun x hx y hy e => by
        subst e
        rcases w3 x hy with z | z
        · exact apart x z (List.mem_append_left _ hx)
        · exact b3 x hx x z rfl⟩)
      have src : ∀ p ∈ fp4, p ∈ fv2 ++ fp2 ∨ p ∈ fv := fun p hp => by
        rcases u3 p hp with z | z
        · exact .inl (List.mem_append_left _ z)
        · rcases w3 p z with y | y
          · exact .inr y
          · exact .inl (List.mem_append_right _ y)
      have t2' : Step I1 H1 (fv ++ fp1) I2 H2 fp4 := ⟨t2.ext, fun b o h hb => t2.keep b o h fun z => hb (List.mem_append_right _ z), fun p hp => by
        rcases src p hp with z | z
        · exact (t2.own p z).imp_left (List.mem_append_right _)
        · exact .inl (List.mem_append_left _ z), fun b hb => (t2.gr b hb).imp_right fun z => z.imp_left (List.mem_append_right _)⟩
      refine q1 rfl _ H2 I2 fp4 ⟨s2.ext, u2, fun p hp => ?_, u1⟩ (t1.trans t2') fun l t hl => ?_
      · rcases u3 p hp with z | z
        · exact off2 p z
        · exact (w3 p z).elim (off3 p) (s2.off p)
      · have k1 := keep_set (v := some v) (σ := σ) g1 g2 l t hl
        have hl2 : (ms.set i m1)[l]? = some (.ps t) := by
          by_cases e : i = l
          · subst e; rw [g1] at hl; cases hl; cases g2
          · rw [List.getElem?_set_ne e]; exact hl
        exact (keep_set (v := some v2) (σ := σ.set i (some v)) gj g2' l t hl2).trans k1
/-! ### targets that are tuples -/
def putEs : List Nat → List D → Env → Option Env
  | [], [], env => some env
  | i :: is, d :: ds, env => putEs is ds (env.set i (some d))
  | _, _, _ => none
/-- a target: a name's slot, several names' -/
inductive Tg where
  | nm (i : Nat)
  | tp (is : List Nat)
def asgT : Tg → D → Env → Option Env
  | .nm i, d, env => some (env.set i (some d))
  | .tp is, .tup ds, env => putEs is ds env
  | _, _, _ => none
def gNs : List Nat → TGs
  | [] => gNil
  | i :: is => gCons (gName i) (gNs is)
def tgR (K : PySem.W.Frag) : Tg → TG
  | .nm i => gName i
  | .tp is => L2.gTup K is.length (gNs is)
def isShM (ms : List Md) (i : Nat) : Bool := match ms[i]? with
  | some m => m.isSh
  | none => false
theorem isShM_some {i : Nat} (h : isShM ms i = true) : ms[i]? = some .sh := by
  unfold isShM at h
  cases hm : ms[i]? with
  | none => rw [hm] at h; cases h
  | some m =>
    rw [hm] at h
    cases m with
    | sh => rfl
    | os t => cases h
    | ps t => cases h
def shAll (ms : List Md) (is : List Nat) : Bool := is.all fun i => isShM ms i
def tgOk (ms : List Md) : Tg → Bool
  | .nm i => shAll ms [i]
  | .tp is => shAll ms is
def Tg.slots : Tg → List Nat
  | .nm i => [i]
  | .tp is => is
theorem put_sh {K : PySem.W.Frag} {I H : Hp} {σ : L2.St} {env : Env} {fp : List Addr} {i : Nat} {v : V} {d : D} (s : St K ms I σ env H fp) (hi : ms[i]? = some .sh) (r : Rep K I v d) :
    ∃ fp', St K ms I (σ.set i (some v)) (env.set i (some d)) H fp' ∧ ∀ p ∈ fp', p ∈ fp := by
  obtain ⟨fp', a, b, c⟩ := Slots.put (m := .sh) (fp1 := []) ⟨r, rfl⟩ s.sl (List.getElem?_eq_some_iff.mp hi).1 s.nd
  rw [set_id hi] at a
  have c' : ∀ p ∈ fp', p ∈ fp := fun p hp => (c p hp).elim (fun z => by cases z) id
  exact ⟨fp', ⟨s.ext, b, fun p hp => s.off p (c' p hp), a⟩, c'⟩
theorem gNs_read {K : PySem.W.Frag} {I H : Hp} {Q : L2.St → Hp → Prop} {env1 : Env} : ∀ {is : List Nat} {xs : List V} {ds : List D} {σ : L2.St} {env : Env} {fp : List Addr}, St K ms I σ env H fp → Reps K I xs ds → putEs is ds env = some env1 → shAll ms is = true →
    (∀ σ' fp', St K ms I σ' env1 H fp' → (∀ p ∈ fp', p ∈ fp) → (∀ j, j ∉ is → σ'[j]? = σ[j]?) → Q σ' H) → gNs is xs σ H Q
  | [], _, _, σ, env, fp, s, .nil, h, _, q => by
    cases h
    exact ⟨rfl, q σ fp s (fun _ h => h) fun _ _ => rfl⟩
  | i :: is, _, _, σ, env, fp, s, .cons r rs, h, hs, q => by
    have hs2 : (isShM ms i && shAll ms is) = true := hs
    rw [Bool.and_eq_true] at hs2
    obtain ⟨fp1, s1, c1⟩ := put_sh s (isShM_some hs2.1) r
    refine ⟨_, _, rfl, gNs_read s1 rs h hs2.2 fun σ' fp' s' c' k' => q σ' fp' s' (fun p hp => c1 p (c' p hp)) fun j hj => ?_⟩
    have hj2 : j ≠ i ∧ j ∉ is := by simpa using hj
    rw [k' j hj2.2, List.getElem?_set_ne (Ne.symm hj2.1)]
theorem tg_read {K : PySem.W.Frag} {I H : Hp} {Q : L2.St → Hp → Prop} {env env1 : Env} {σ : L2.St} {fp : List Addr} {tg : Tg} {x : V} {d : D} (s : St K ms I σ env H fp) (r : Rep K I x d) (h : asgT tg d env = some env1) (hs : tgOk ms tg = true)
    (q : ∀ σ' fp', St K ms I σ' env1 H fp' → (∀ p ∈ fp', p ∈ fp) → (∀ j, j ∉ tg.slots → σ'[j]? = σ[j]?) → Q σ' H) : tgR K tg x σ H Q := by
  cases tg with
  | nm i =>
    cases h
    have hs2 : (isShM ms i && true) = true := hs
    rw [Bool.and_eq_true] at hs2
    obtain ⟨fp1, s1, c1⟩ := put_sh s (isShM_some hs2.1) r
    exact q _ fp1 s1 c1 fun j hj => by
      have hj2 : j ≠ i := by simpa [Tg.slots] using hj
      rw [List.getElem?_set_ne (Ne.symm hj2)]
  | tp is =>
    cases r with
    | tup hx rs =>
      have h' : putEs is _ env = some env1 := h
      have len : ∀ {is : List Nat} {ds : List D} {env : Env}, putEs is ds env = some env1 → ds.length = is.length := by
        intro is
        induction is with
        | nil => intro ds env h; cases ds with
          | nil => rfl
          | cons d ds => cases h
        | cons i is ih => intro ds env h; cases ds with
          | nil => cases h
          | cons d ds => exact congrArg (· + 1) (ih (show putEs is ds (env.set i (some d)) = some env1 from h))
      exact ⟨_, _, rfl, s.ext.t hx, by rw [rs.length]; exact len h', gNs_read s rs h' hs q⟩
    | _ => cases h
/-- no parameter's list is named -/
theorem sh_keep {σ σ' : L2.St} {tg : Tg} (hs : tgOk ms tg = true) (k : ∀ j, j ∉ tg.slots → σ'[j]? = σ[j]?) : Keep ms σ σ' := fun j t hj => by
  refine k j fun z => ?_
  have : shAll ms tg.slots = true := by cases tg <;> exact hs
  unfold shAll at this
  rw [List.all_eq_true] at this
  have := isShM_some (this j z)
  rw [hj] at this; cases this
def cUnp (tg : Tg) (f : CE) : CS := fun env => mbind (f env) fun d e => match asgT tg d e with
  | some e1 => some (.ok .nx, e1)
  | none => none
theorem pg_nm (i : Nat) {x : Str} (hN : X.N.Nodup) (hi : X.N[i]? = some x := by rfl) (hx : Loc X.env.scope x := by first | exact .inl rfl | exact .inr rfl) (hf : X.fn x = true ∨ X.env.scope.names.lookup x = some .local := by first | exact .inl rfl | exact .inr rfl) : PG X (.Name x pos) (tgR X.K (.nm i)) :=
  pg_name (i := i) hN hi hx hf
/-! ### expressions, returns, ifs -/
def cDrop (f : CE) : CS := fun env => mbind (f env) fun _ e => some (.ok .nx, e)
theorem ds_expr (he : DE X ms .sh e fe) (hc : compat xm ms = true := by rfl) (hs : swapsWith e none pos.line X.env = pure false := by rfl) : DS X xm ms ms B ro (.Expr e pos) (cDrop fe) := ⟨rfl, fun W tk => ps_imp (ps_expr (he W tk) hs) fun D σ H h => by
  obtain ⟨I, env, fp, s, r, env', h1, q1, q2, q3, q4, q5⟩ := h
  refine tE_then s h1 (fun e z => (q5 e z).bad hc) fun d e1 v H1 I1 fp1 h2 s1 t1 rv => ?_
  cases h2
  exact q1 rfl σ H1 I1 fp1 s1 t1 (Keep.refl _ _)⟩
def cRet (f : CE) : CS := fun env => mbind (f env) fun d e => some (.ok (.rt d), e)
theorem ds_ret (he : DE X ms ro e fe) (hc : compat xm ms = true := by rfl) : DS X xm ms ms B ro (.Return (some e) pos) (cRet fe) := ⟨rfl, fun W tk => ps_imp (ps_ret (he W tk)) fun D σ H h => by
  obtain ⟨I, env, fp, s, r, env', h1, q1, q2, q3, q4, q5⟩ := h
  rcases mbind_some h1 with ⟨e, h2, rfl⟩ | ⟨d, e1, h2, h3⟩
  · exact ⟨I, env, fp, s, _, _, h2, fun d z => (by cases z), fun e' z => by cases z; exact (q5 e rfl).bad hc⟩
  · cases h3
    refine ⟨I, env, fp, s, _, _, h2, fun d' z v H1 I1 fp1 fv s1 t1 rv nd off => ?_, fun e' z => by cases z⟩
    cases z
    obtain ⟨fp2, s2, c2⟩ := s1.maskB (xm := []) (by unfold compat; rfl)
    obtain ⟨a1, a2, a3⟩ := List.nodup_append.mp nd
    exact q4 _ rfl v σ H1 I1 fp2 fv s2 (t1.less fun p hp => (List.mem_append.mp hp).elim (List.mem_append_left _) fun z => List.mem_append_right _ (c2 p z)) rv
      (List.nodup_append.mpr ⟨a1, s2.nd, fun x hx y hy => a3 x hx y (c2 y hy)⟩) off (Keep.refl _ _)⟩
def cRetN : CS := fun env => some (.ok (.rt .non), env)
def cIfS (t : CB) (f1 f2 : CS) : CS := fun env => mbind (t env) fun b e => if b = true then f1 e else f2 e
theorem tS_back {K : PySem.W.Frag} {mg : Str → Option Value} {I H I1 H1 : Hp} {σ : L2.St} {env1 env' : Env} {fp fp1 : List Addr} {D : Ends} {r : Except Exn Fl} (s1 : St K ms I1 σ env1 H1 fp1) (t1 : Step I H fp I1 H1 fp1) (h : f env1 = some (r, env'))
    (q1 : r = .ok .nx → ∀ σ' H' I' fp', St K ms' I' σ' env' H' fp' → Step I H fp I' H' fp' → Keep ms σ σ' → D.nx σ' H')
    (q2 : r = .ok .bk → ∀ σ' H' I' fp', St K B I' σ' env' H' fp' → Step I H fp I' H' fp' → Keep ms σ σ' → D.bk σ' H')
    (q3 : r = .ok .ct → ∀ σ' H' I' fp', St K B I' σ' env' H' fp' → Step I H fp I' H' fp' → Keep ms σ σ' → D.ct σ' H')
    (q4 : ∀ d, r = .ok (.rt d) → ∀ v σ' H' I' fp' fv, St K (norm ms) I' σ' (DI.maskB [] ms env') H' fp' → Step I H fp I' H' (fv ++ fp') → RepM ro K I' H' v d fv → (fv ++ fp').Nodup → (∀ p ∈ fv, I' p = none) → Keep ms σ σ' → D.rt v H')
    (q5 : ∀ e, r = .error e → BadS K mg xm ms I σ H fp W e env') : tS K mg xm ms ms' B ro f W D σ H1 :=
  ⟨I1, env1, fp1, s1, r, env', h, fun z σ' H' I' fp' s' t' k' => q1 z σ' H' I' fp' s' (t1.trans t') k', fun z σ' H' I' fp' s' t' k' => q2 z σ' H' I' fp' s' (t1.trans t') k', fun z σ' H' I' fp' s' t' k' => q3 z σ' H' I' fp' s' (t1.trans t') k',
    fun d z v σ' H' I' fp' fv s' t' rv nd off k' => q4 d z v σ' H' I' fp' fv s' (t1.trans t') rv nd off k', fun e z => (q5 e z).back rfl t1 (Keep.refl _ _)⟩
theorem ds_if {c : Expr} {t : CB} {sa sb : List Stmt} (ht : DB X ms c t) (ha : DSs X xm ms ms' B ro sa f1) (hb : DSs X xm ms ms' B ro sb f2) (hc : compat xm ms = true := by rfl) : DS X xm ms ms' B ro (.If c sa sb pos) (cIfS t f1 f2) :=
  ⟨ha.nm, fun W tk => ps_imp (ps_if (ht W tk) (ha.run W tk) (hb.run W tk)) fun D σ H h => by
  obtain ⟨I, env, fp, s, r, env', h1, q1, q2, q3, q4, q5⟩ := h
  refine tB_then s h1 (fun e z => (q5 e z).bad hc) fun k e1 H1 I1 fp1 h2 s1 t1 => ?_
  cases k with
  | true => simp only [if_true] at h2 ⊢; exact tS_back s1 t1 h2 q1 q2 q3 q4 q5
  | false => simp only [Bool.false_eq_true, if_false] at h2 ⊢; exact tS_back s1 t1 h2 q1 q2 q3 q4 q5⟩
/-! ### x op= e -/
def cAug (i : Nat) (g : Prim) (f : CE) : CS := fun env => match getS env i with
  | none => none
  | some d0 => mbind (f env) fun d e => match g [d0, d] with
    | some d1 => some (.ok .nx, e.set i (some d1))
    | none => none
theorem ds_aug (i : Nat) {x : Str} {op : Operator} {r : R2} {g : Prim} (ho : OpR X (inplaceOp op) r) (hp : PrimOk X.K true (rOf2 r) g) (he : DE X ms .sh e fe) (hN : X.N.Nodup) (h0 : ms[i]? = some .sh := by rfl) (hi : X.N[i]? = some x := by rfl) (hx : Loc X.env.scope x := by first | exact .inl rfl | exact .inr rfl)
    (hc : compat xm ms = true := by rfl) (hf : X.fn x = true ∨ X.env.scope.names.lookup x = some .local := by first | exact .inl rfl | exact .inr rfl) : DS X xm ms ms B ro (.AugAssign (.Name x p) op e pos) (cAug i g fe) :=
  ⟨rfl, fun W tk => ps_imp (ps_aug (i := i) hN hi hx (he W tk) (ti := r) ho hf) fun D σ H h => by
  obtain ⟨I, env, fp, s, rr, env', h1, q1, q2, q3, q4, q5⟩ := h
  unfold cAug at h1
  cases g0 : getS env i with
  | none => rw [g0] at h1; cases h1
  | some d0 =>
    rw [g0] at h1
    obtain ⟨v0, k1, k2⟩ := s.sh (getS_iff.mp g0) h0
    refine ⟨v0, k1, tE_then s h1 (fun e z => (q5 e z).bad hc) fun d e1 v H1 I1 fp1 h2 s1 t1 rv => ?_⟩
    cases g2 : g [d0, d] with
    | none => simp only [g2] at h2; cases h2
    | some d1 =>
      simp only [g2] at h2
      cases h2
      have hpv := hp I1 H1 [v0, v] [d0, d] d1 (fun z H2 => D.nx (σ.set i (some z)) H2) s1.ext (.cons (.of_rep s1.ext (k2.mono t1.ext)) (.cons (.of_rep s1.ext rv) .nil)) g2
      obtain ⟨a1, a2, a3, a4⟩ := res_end (m := .sh) (fr := true) (Q := fun z H2 => D.nx (σ.set i (some z)) H2) rfl (.inl rfl) s1 fun v H' I' fp' fv s' t' rv' nd off => by
        obtain ⟨rr, rfl⟩ := rv'
        obtain ⟨fp3, s3, c3⟩ := put_sh s' h0 rr
        exact q1 rfl _ H' I' fp3 s3 ((t1.trans t').less c3) (keep_set h0 rfl)
      exact hpv a1 a2 a3 a4⟩
end
end DI
set_option Elab.async false
set_option autoImplicit false
set_option linter.all false
set_option maxRecDepth 100000
set_option maxHeartbeats 2000000
/-! DI9: what is walked; for, while; comprehensions; lists changed in place. -/
namespace DI
open PySem PySem.Spec PyProof.Rows
open L2 hiding XE Takes Takes.imp CX XE.of_call XE.new XE.leave takes_of passes_call Sky.land MkP PMk ps_raise mk_of ps_try_as HdsOk ps_try_many pmk_own passAt takes_none5 takes0 passL mk_end pmk_oex
open L2N hiding St
/-! ### what is walked -/
abbrev CI := Env → Out (List D)
/-- the iterator J hands out the items, wherever I₀ stands -/
def IterOk (K : PySem.W.Frag) (J : It) (items : List D) (I0 : Hp) : Prop := ∀ (i : Nat) (I H : Hp) (ms : List Md) (σ : L2.St) (env : Env) (fp : List Addr), Ext I0 I → St K ms I σ env H fp →
  (i < items.length → J.go i H ∧ ∀ x H', J.yld i H x H' → ∃ I' d, items[i]? = some d ∧ Rep K I' x d ∧ St K ms I' σ env H' fp ∧ Step I H fp I' H' fp ∧ ∀ b, H b = none ∨ H' b = H b) ∧ (items.length ≤ i → J.stop i H)
def tI (K : PySem.W.Frag) (mg : Str → Option Value) (ms : List Md) (f : CI) (W : WX) : TI := fun σ H R => ∃ I env fp, St K ms I σ env H fp ∧ ∃ r env', f env = some (r, env') ∧
  (∀ items, r = .ok items → ∀ J H' I' fp', St K ms I' σ env' H' fp' → Step I H fp I' H' fp' → IterOk K J items I' → R J H') ∧
  (∀ e, r = .error e → Bad K mg ms I σ H fp W e env')
def DIt (X : Cx) (ms : List Md) (tg iter : Expr) (f : CI) : Prop := ∀ W, Takes X W → PI X tg iter (tI X.K X.mg ms f W)
section
variable {K : PySem.W.Frag} {mg : Str → Option Value} {ms : List Md} {W : WX}
theorem pi_imp {X : Cx} {tg iter : Expr} {t t' : TI} (h : PI X tg iter t) (i : ∀ σ H R, t' σ H R → t σ H R) : PI X tg iter t' := ⟨fun pins s σ H R I q => h.run pins s σ H R I (i σ H R q)⟩
theorem same_yld {I H : Hp} {x : V} {d : D} {items : List D} {i : Nat} {ms : List Md} {σ : L2.St} {env : Env} {fp : List Addr} (s : St K ms I σ env H fp) (h : items[i]? = some d) (r : Rep K I x d) :
    ∃ I' d, items[i]? = some d ∧ Rep K I' x d ∧ St K ms I' σ env H fp ∧ Step I H fp I' H fp ∧ ∀ b, H b = none ∨ H b = H b := ⟨I, d, h, r, s, .refl _ _ _, fun _ => .inr rfl⟩
theorem it_lst {I0 : Hp} {a : Addr} {xs : List V} {ds : List D} (h : SqL K I0 a xs) (r : Reps K I0 xs ds) : IterOk K (Itl K a) ds I0 := fun i I H ms σ env fp e s => by
  have hl : SqL K H a xs := s.ext.l (e.l h)
  refine ⟨fun hi => ?_, fun hi => ⟨xs, hl, by rw [r.length]; exact hi⟩⟩
  obtain ⟨x, h1, h2⟩ := r.get (List.getElem?_eq_getElem hi)
  refine ⟨⟨xs, x, hl, h1⟩, fun y H' ⟨e1, q⟩ => ?_⟩
  subst e1
  have e2 := q xs hl
  rw [h1] at e2; cases e2
  exact same_yld s (List.getElem?_eq_getElem hi) (h2.mono e)
def rangeD (lo : Int) (n : Nat) : List D := (List.range n).map fun i => .int (lo + (i : Nat))
theorem it_range {I0 : Hp} {lo : Int} {n : Nat} : IterOk K (Itr lo n) (rangeD lo n) I0 := fun i I H ms σ env fp e s => by
  have hl : (rangeD lo n).length = n := by unfold rangeD; rw [List.length_map, List.length_range]
  refine ⟨fun hi => ?_, fun hi => by rw [hl] at hi; exact hi⟩
  rw [hl] at hi
  refine ⟨hi, fun y H' ⟨e1, e2⟩ => ?_⟩
  subst e1 e2
  refine same_yld s (d := .int (lo + (i : Nat))) ?_ (.int _)
  unfold rangeD
  rw [List.getElem?_map, List.getElem?_range hi]; rfl
def enumD (ds : List D) : List D := (List.range ds.length).map fun i => .tup [.int (i : Nat), (ds[i]?).getD .non]
def zipD (as bs : List D) : List D := List.zipWith (fun x y => .tup [x, y]) as bs
def charsD (x : Str) : List D := x.cps.toList.map fun c => .str ⟨#[c]⟩
def rangeCD (lo c : Int) (n : Nat) : List D := (List.range n).map fun i => .int (lo + (i : Nat) * c)
/-! ### the items of an operand -/
def iOut (g : Option (List D)) (e : Env) : Out (List D) := match g with
  | some d => some (.ok d, e)
  | none => none
theorem iOut_some {g : Option (List D)} {e env' : Env} {r : Except Exn (List D)} (h : iOut g e = some (r, env')) : ∃ d, g = some d ∧ r = .ok d ∧ env' = e := by
  cases g with
  | none => cases h
  | some d => cases h; exact ⟨d, rfl, rfl, rfl⟩
/-- items of the operands' data (all of them by value) -/
def cIt (g : List D → Option (List D)) (os : List Opd) : CI := fun env => mbind (evalOs os env) fun ds e => iOut (g ds) e
theorem it_read {g : List D → Option (List D)} {os : List Opd} {σ : L2.St} {H : Hp} {R : It → Hp → Prop} {r : List V → Hp → (It → Hp → Prop) → Prop} (ht : os.all Opd.isTm = true)
    (hr : ∀ I H vs ds items, Ext I H → Reps K I vs ds → g ds = some items → ∀ R : It → Hp → Prop, (∀ J, IterOk K J items I → R J H) → r vs H R) (h : tI K mg ms (cIt g os) W σ H R) : tOs K mg ms W os σ H (fun vs H1 => r vs H1 R) := by
  obtain ⟨I, env, fp, s, x, env', h1, q, b⟩ := h
  refine os_then s h1 b fun ds e1 vs H1 I1 fp1 h2 s1 t1 rs => ?_
  obtain ⟨items, g1, rfl, rfl⟩ := iOut_some h2
  exact hr I1 H1 vs ds items s1.ext (rs.reps ht) g1 R fun J hJ => q items rfl J H1 I1 fp1 s1 t1 hJ
def giL : List D → Option (List D)
  | [.lst ds] => some ds
  | [.scr ns] => some (ns.map .int)
  | _ => none
def giT : List D → Option (List D)
  | [.tup ds] => some ds
  | _ => none
def giR1 : List D → Option (List D)
  | [.int j] => if -(2 ^ 62) ≤ j ∧ j < 2 ^ 62 then some (rangeD 0 j.toNat) else none
  | _ => none
def giR2 : List D → Option (List D)
  | [.int i, .int j] => if (-(2 ^ 62) ≤ i ∧ i < 2 ^ 62) ∧ -(2 ^ 62) ≤ j ∧ j < 2 ^ 62 then some (rangeD i (j - i).toNat) else none
  | _ => none
def giRm : List D → Option (List D)
  | [.int i, .int j, .int c] => if (-(2 ^ 62) ≤ i ∧ i < 2 ^ 62) ∧ (-(2 ^ 62) ≤ j ∧ j < 2 ^ 62) ∧ c = -1 then some (rangeCD i (-1) (i - j).toNat) else none
  | _ => none
def giE : List D → Option (List D)
  | [.lst ds] => some (enumD ds)
  | _ => none
def giZ : List D → Option (List D)
  | [.lst ds, .lst es] => some (zipD ds es)
  | _ => none
def giS : List D → Option (List D)
  | [.str x] => some (charsD x)
  | _ => none
end
section
variable {X : Cx} {ms : List Md} {tg a b c : Expr} {fa fb fc : CE} {p pos tpos : Pos} {elts : List Expr} {kk : Nat}
theorem reps1 {K : PySem.W.Frag} {I : Hp} {vs : List V} {d : D} (h : Reps K I vs [d]) : ∃ v, vs = [v] ∧ Rep K I v d := by
  cases h with
  | cons a b => cases b; exact ⟨_, rfl, a⟩
theorem reps2 {K : PySem.W.Frag} {I : Hp} {vs : List V} {d e : D} (h : Reps K I vs [d, e]) : ∃ v w, vs = [v, w] ∧ Rep K I v d ∧ Rep K I w e := by
  cases h with
  | cons a b => obtain ⟨w, rfl, c⟩ := reps1 b; exact ⟨_, w, rfl, a, c⟩
theorem di_lst (ha : DE X ms .sh a fa) : DIt X ms tg a (cIt giL [.tm fa]) := fun W tk => pi_imp (pi_list (ha W tk)) fun σ H R h => by
  have h2 := it_read (K := X.K) (r := fun vs H1 R => ∃ x, vs = [x] ∧ ∃ a, x = .ref a ∧ (∃ xs, SqL X.K H1 a xs) ∧ R (Itl X.K a) H1) rfl (fun I H vs ds items e r g R q => by
    unfold giL at g
    split at g
    · obtain ⟨v, rfl, h⟩ := reps1 r
      cases g
      cases h with
      | lst h1 h2 => exact ⟨_, rfl, _, rfl, ⟨_, SqL.of (e _ _ h1)⟩, q _ (it_lst (SqL.of h1) h2)⟩
    · obtain ⟨v, rfl, h⟩ := reps1 r
      cases g
      cases h with
      | scr h1 => exact ⟨_, rfl, _, rfl, ⟨_, e.l h1⟩, q _ (it_lst h1 (Reps.ints _))⟩
    · cases g) h
  refine tE_mono (show tE X.K X.mg ms .sh fa W σ H (fun x H1 => ∃ x', [x] = [x'] ∧ ∃ a, x' = .ref a ∧ (∃ xs, SqL X.K H1 a xs) ∧ R (Itl X.K a) H1) from h2) fun v H1 ⟨x, e, q⟩ => ?_
  cases e; exact q
theorem di_r1 (hg : Gl X "range") (hm : X.mg "range" = none) (ha : DOs X ms [a] [.tm fa]) (hs : starEach [a] X.env = [(false, eval a X.env)] := by rfl) : DIt X ms tg (.Call (.Name "range" p) [a] [] pos) (cIt giR1 [.tm fa]) := fun W tk =>
  pi_imp (pi_range1 hg hm (ha.pa tk) hs) fun σ H R h => it_read (r := fun vs H1 R => ∃ j : Int, vs = [.int j] ∧ -(2 ^ 62) ≤ j ∧ j < 2 ^ 62 ∧ R (Itr 0 j.toNat) H1) rfl (fun I H vs ds items e r g R q => by
    unfold giR1 at g
    split at g
    · obtain ⟨v, rfl, h⟩ := reps1 r
      split at g
      · rename_i hz
        cases g
        cases h
        exact ⟨_, rfl, hz.1, hz.2, q _ it_range⟩
      · cases g
    · cases g) h
theorem di_r2 (hg : Gl X "range") (hm : X.mg "range" = none) (ha : DOs X ms [a, b] [.tm fa, .tm fb]) (hs : starEach [a, b] X.env = [(false, eval a X.env), (false, eval b X.env)] := by rfl) (hs2 : starEach [b] X.env = [(false, eval b X.env)] := by rfl) :
    DIt X ms tg (.Call (.Name "range" p) [a, b] [] pos) (cIt giR2 [.tm fa, .tm fb]) := fun W tk =>
  pi_imp (pi_range2 hg hm (ha.pa tk) hs hs2) fun σ H R h => it_read (r := fun vs H1 R => ∃ i j : Int, vs = [.int i, .int j] ∧ (-(2 ^ 62) ≤ i ∧ i < 2 ^ 62 ∧ -(2 ^ 62) ≤ j ∧ j < 2 ^ 62) ∧ R (Itr i (j - i).toNat) H1) rfl (fun I H vs ds items e r g R q => by
    unfold giR2 at g
    split at g
    · obtain ⟨v, w, rfl, h, h'⟩ := reps2 r
      split at g
      · rename_i hz
        cases g
        cases h; cases h'
        exact ⟨_, _, rfl, ⟨hz.1.1, hz.1.2, hz.2.1, hz.2.2⟩, q _ it_range⟩
      · cases g
    · cases g) h
end
/-! ### for, while -/
def forD (tg : Tg) (body : CS) : List D → CS
  | [], e => some (.ok .nx, e)
  | d :: ds, e => match asgT tg d e with
    | none => none
    | some e1 => match body e1 with
      | none => none
      | some (.error x, e2) => some (.error x, e2)
      | some (.ok .nx, e2) => forD tg body ds e2
      | some (.ok .ct, e2) => forD tg body ds e2
      | some (.ok .bk, e2) => some (.ok .nx, e2)
      | some (.ok (.rt d), e2) => some (.ok (.rt d), e2)
def cFor (it : CI) (tg : Tg) (body : CS) : CS := fun env => mbind (it env) fun items e => forD tg body items e
def whileD (t : CB) (body : CS) : Nat → CS
  | 0, _ => none
  | n + 1, e => mbind (t e) fun b e1 => if b = true then (match body e1 with
      | none => none
      | some (.error x, e2) => some (.error x, e2)
      | some (.ok .nx, e2) => whileD t body n e2
      | some (.ok .ct, e2) => whileD t body n e2
      | some (.ok .bk, e2) => some (.ok .nx, e2)
      | some (.ok (.rt d), e2) => some (.ok (.rt d), e2)) else some (.ok .nx, e1)
section
variable {X : Cx} {xm : List Bool} {ms B : List Md} {ro : Md} {sts : List Stmt} {f : CS} {te iter c : Expr} {pos : Pos} {tg : Tg} {fi : CI} {t : CB}
theorem ds_for (hi : DIt X ms te iter fi) (hg : PG X te (tgR X.K tg)) (hb : DSs X xm ms ms ms ro sts f) (hp : PassesOwn (model X.prog X.w) X.A X.env X.xe) (hcalm : X.calm = true) (h0 : tgOk ms tg = true := by rfl) (hc : compat xm ms = true := by rfl)
    (hs : ∀ x, foldedSetIterable iter X.env x = pure x := by intro _; rfl) : DS X xm ms ms B ro (.For te iter sts [] pos) (cFor fi tg f) := ⟨rfl, fun W tk => ps_imp (ps_for hp hcalm (hi W tk) hg (hb.run W tk) hs) fun D σ H h => by
  obtain ⟨I, env, fp, s, r, env', h1, q1, q2, q3, q4, q5⟩ := h
  rcases mbind_some h1 with ⟨e, h2, rfl⟩ | ⟨items, e1, h2, h3⟩
  · exact ⟨I, env, fp, s, _, _, h2, fun d z => (by cases z), fun e' z => by cases z; exact (q5 e rfl).bad hc⟩
  · refine ⟨I, env, fp, s, _, _, h2, fun items' z J H1 I1 fp1 s1 t1 hJ => ?_, fun e' z => by cases z⟩
    cases z
    refine ⟨fun i m σ' H' => m = items.length - i ∧ i ≤ items.length ∧ ∃ I' en fp', Ext I1 I' ∧ St X.K ms I' σ' en H' fp' ∧ Step I H fp I' H' fp' ∧ Keep ms σ σ' ∧ forD tg f (items.drop i) en = some (r, env'),
      ⟨items.length, rfl, Nat.zero_le _, I1, e1, fp1, .refl _, s1, t1, Keep.refl _ _, h3⟩, ?_⟩
    rintro i m σ' H' ⟨rfl, hle, I', en, fp', x1, s', t', k', hf⟩
    obtain ⟨go, stop⟩ := hJ i I' H' ms σ' en fp' x1 s'
    by_cases hlt : i < items.length
    · obtain ⟨g1, g2⟩ := go hlt
      have hd : items.drop i = items[i] :: items.drop (i + 1) := List.drop_eq_getElem_cons hlt
      rw [hd] at hf
      refine .inr ⟨g1, fun σ2 H2 => ∃ I2 en2 fp2, Ext I1 I2 ∧ St X.K ms I2 σ2 en2 H2 fp2 ∧ Step I H fp I2 H2 fp2 ∧ Keep ms σ σ2 ∧ forD tg f (items.drop (i + 1)) en2 = some (r, env'), fun σ2 H2 ⟨I2, en2, fp2, a1, a2, a3, a4, a5⟩ =>
        ⟨items.length - (i + 1), by omega, rfl, hlt, I2, en2, fp2, a1, a2, a3, a4, a5⟩, fun x H2 hy => ?_⟩
      obtain ⟨I2, d, e2, rx, s2, t2, _⟩ := g2 x H2 hy
      rw [List.getElem?_eq_getElem hlt] at e2
      cases e2
      have hf' : (match asgT tg items[i] en with
        | none => none
        | some e1 => match f e1 with
          | none => none
          | some (.error x, e2) => some (.error x, e2)
          | some (.ok .nx, e2) => forD tg f (items.drop (i + 1)) e2
          | some (.ok .ct, e2) => forD tg f (items.drop (i + 1)) e2
          | some (.ok .bk, e2) => some (.ok .nx, e2)
          | some (.ok (.rt d), e2) => some (.ok (.rt d), e2)) = some (r, env') := hf
      cases ha : asgT tg items[i] en with
      | none => simp only [ha] at hf'; cases hf'
      | some en1 =>
        simp only [ha] at hf'
        refine tg_read s2 rx ha h0 fun σ3 fp3 s3 c3 k3 => ?_
        have t3 : Step I H fp I2 H2 fp3 := (t'.trans t2).less c3
        have kk : Keep ms σ σ3 := Keep.trans rfl k' (sh_keep h0 k3)
        cases hb1 : f en1 with
        | none => simp only [hb1] at hf'; cases hf'
        | some y =>
          obtain ⟨ry, en2⟩ := y
          simp only [hb1] at hf'
          have xe : Ext I1 I2 := x1.trans t2.ext
          refine ⟨I2, en1, fp3, s3, ry, en2, hb1, fun z σ4 H4 I4 fp4 s4 t4 k4 => ?_, fun z σ4 H4 I4 fp4 s4 t4 k4 => ?_, fun z σ4 H4 I4 fp4 s4 t4 k4 => ?_, fun d z v σ4 H4 I4 fp4 fv s4 t4 rv nd off k4 => ?_, fun e z => ?_⟩
          · subst z; exact ⟨I4, en2, fp4, xe.trans t4.ext, s4, t3.trans t4, Keep.trans rfl kk k4, hf'⟩
          · subst z
            cases hf'
            exact q1 rfl σ4 H4 I4 fp4 s4 (t3.trans t4) (Keep.trans rfl kk k4)
          · subst z; exact ⟨I4, en2, fp4, xe.trans t4.ext, s4, t3.trans t4, Keep.trans rfl kk k4, hf'⟩
          · subst z
            cases hf'
            exact q4 d rfl v σ4 H4 I4 fp4 fv s4 (t3.trans t4) rv nd off (Keep.trans rfl kk k4)
          · subst z
            cases hf'
            exact (q5 e rfl).back rfl t3 kk
    · have e0 : items.drop i = [] := List.drop_eq_nil_of_le (by omega)
      rw [e0] at hf
      cases hf
      exact .inl ⟨stop (by omega), q1 rfl σ' H' I' fp' s' t' k'⟩⟩
theorem ds_while (n : Nat) (ht : DB X ms c t) (hb : DSs X xm ms ms ms ro sts f) (hp : PassesOwn (model X.prog X.w) X.A X.env X.xe) (hc : compat xm ms = true := by rfl) : DS X xm ms ms B ro (.While c sts [] pos) (whileD t f n) := ⟨rfl, fun W tk => ps_imp (ps_while hp (ht W tk) (hb.run W tk)) fun D σ H h => by
  obtain ⟨I, env, fp, s, r, env', h1, q1, q2, q3, q4, q5⟩ := h
  refine ⟨fun m σ' H' => ∃ I' en fp', St X.K ms I' σ' en H' fp' ∧ Step I H fp I' H' fp' ∧ Keep ms σ σ' ∧ whileD t f m en = some (r, env'), ⟨n, I, env, fp, s, .refl _ _ _, Keep.refl _ _, h1⟩, ?_⟩
  rintro m σ' H' ⟨I', en, fp', s', t', k', hf⟩
  cases m with
  | zero => cases hf
  | succ m =>
    have hf' : mbind (t en) (fun b e1 => if b = true then (match f e1 with
      | none => none
      | some (.error x, e2) => some (.error x, e2)
      | some (.ok .nx, e2) => whileD t f m e2
      | some (.ok .ct, e2) => whileD t f m e2
      | some (.ok .bk, e2) => some (.ok .nx, e2)
      | some (.ok (.rt d), e2) => some (.ok (.rt d), e2)) else some (.ok .nx, e1)) = some (r, env') := hf
    refine tB_then s' hf' (fun e z => ((q5 e z).bad hc |>.back t') |> fun x => by
      intro c dd H2 I2 fp2 s2 t2 x2
      obtain ⟨fp3, s3, c3⟩ := s2.maskB hc
      exact q5 e z c dd σ' H2 I2 fp3 s3 ((t'.trans t2).less c3) x2 k') fun b e1 H1 I1 fp1 h2 s1 t1 => ?_
    have t3 : Step I H fp I1 H1 fp1 := t'.trans t1
    cases b with
    | false =>
      simp only [Bool.false_eq_true, if_false] at h2 ⊢
      cases h2
      exact q1 rfl σ' H1 I1 fp1 s1 t3 k'
    | true =>
      simp only [if_true] at h2 ⊢
      cases hb1 : f e1 with
      | none => simp only [hb1] at h2; cases h2
      | some y =>
        obtain ⟨ry, en2⟩ := y
        simp only [hb1] at h2
        refine ⟨fun σ2 H2 => ∃ I2 en2 fp2, St X.K ms I2 σ2 en2 H2 fp2 ∧ Step I H fp I2 H2 fp2 ∧ Keep ms σ σ2 ∧ whileD t f m en2 = some (r, env'), fun σ2 H2 w => ⟨m, by omega, w⟩, ?_⟩
        refine ⟨I1, e1, fp1, s1, ry, en2, hb1, fun z σ4 H4 I4 fp4 s4 t4 k4 => ?_, fun z σ4 H4 I4 fp4 s4 t4 k4 => ?_, fun z σ4 H4 I4 fp4 s4 t4 k4 => ?_, fun d z v σ4 H4 I4 fp4 fv s4 t4 rv nd off k4 => ?_, fun e z => ?_⟩
        · subst z; exact ⟨I4, en2, fp4, s4, t3.trans t4, Keep.trans rfl k' k4, h2⟩
        · subst z
          cases h2
          exact q1 rfl σ4 H4 I4 fp4 s4 (t3.trans t4) (Keep.trans rfl k' k4)
        · subst z; exact ⟨I4, en2, fp4, s4, t3.trans t4, Keep.trans rfl k' k4, h2⟩
        · subst z
          cases h2
          exact q4 d rfl v σ4 H4 I4 fp4 fv s4 (t3.trans t4) rv nd off (Keep.trans rfl k' k4)
        · subst z
          cases h2
          exact (q5 e rfl).back rfl t3 k'⟩
end
end DI
set_option Elab.async false
set_option autoImplicit false
set_option linter.all false
set_option maxRecDepth 100000
set_option maxHeartbeats 2000000
/-! DI10: comprehensions; lists changed in place; a def by its body. -/
namespace DI
open PySem PySem.Spec PyProof.Rows
open L2 hiding XE Takes Takes.imp CX XE.of_call XE.new XE.leave takes_of passes_call Sky.land MkP PMk ps_raise mk_of ps_try_as HdsOk ps_try_many pmk_own passAt takes_none5 takes0 passL mk_end pmk_oex
open L2N hiding St
/-! ### comprehensions -/
def wipeE (env : Env) : List Nat → Env
  | [] => env
  | v :: vs => (wipeE env vs).set v none
def restoreE (e0 env : Env) : List Nat → Env
  | [] => env
  | v :: vs => (restoreE e0 env vs).set v (getS e0 v)
def lcD (tg : Tg) (c : CB) (f : CE) (vs : List Nat) : List D → Env → Out (List D)
  | [], e => some (.ok [], e)
  | d :: ds, e => match asgT tg d (wipeE e vs) with
    | none => none
    | some e1 => mbind (c e1) fun b e2 => if b = true then mbind (f e2) fun y e3 => mbind (lcD tg c f vs ds e3) fun ys e4 => some (.ok (y :: ys), e4) else lcD tg c f vs ds e2
def lcOut (e1 : Env) (vs : List Nat) : Out (List D) → Out D
  | some (.ok ys, e2) => if ys.length ≤ sizeLine then some (.ok (.lst ys), restoreE e1 (wipeE e2 vs) vs) else none
  | _ => none
def cLc (it : CI) (tg : Tg) (c : CB) (f : CE) (vs : List Nat) : CE := fun env => mbind (it env) fun items e => lcOut e vs (lcD tg c f vs items e)
section
variable {K : PySem.W.Frag} {I H : Hp} {ms : List Md} {σ : L2.St} {fp : List Addr}
theorem Slots.congr : ∀ {ms : List Md} {σ σ2 : L2.St} {env : Env} {fp : List Addr}, Slots K I H ms σ env fp → σ2.length = σ.length → (∀ (i : Nat) d, env[i]? = some (some d) → σ2[i]? = σ[i]?) → Slots K I H ms σ2 env fp
  | _, _, [], _, _, .nil, _, _ => .nil
  | _, _, _ :: _, _, _, .nil, h, _ => by cases h
  | _, _, [], _, _, .non s, h, _ => by cases h
  | _, _, o2 :: σ2, _, _, .non s, h, k => .non (s.congr (by simpa using h) fun i d hd => by have := k (i + 1) d (by simpa using hd); simpa using this)
  | _, _, [], _, _, .som q s, h, _ => by cases h
  | _, _, o2 :: σ2, _, _, .som q s, h, k => by
    have h0 := k 0 _ rfl
    simp at h0
    subst h0
    exact .som q (s.congr (by simpa using h) fun i d hd => by have := k (i + 1) d (by simpa using hd); simpa using this)
theorem wipeE_some {e : Env} {i : Nat} {d : D} : ∀ {vs : List Nat}, (wipeE e vs)[i]? = some (some d) → e[i]? = some (some d) ∧ i ∉ vs
  | [], h => ⟨h, by simp⟩
  | v :: vs, h => by
    unfold wipeE at h
    by_cases hi : v = i
    · subst hi
      by_cases hv : v < (wipeE e vs).length
      · rw [List.getElem?_set_self hv] at h; cases h
      · rw [List.getElem?_eq_none (by simpa using hv)] at h; cases h
    · rw [List.getElem?_set_ne hi] at h
      obtain ⟨h1, h2⟩ := wipeE_some h
      exact ⟨h1, by simp only [List.mem_cons, not_or]; exact ⟨fun e => hi e.symm, h2⟩⟩
theorem wipe_off {i : Nat} : ∀ {vs : List Nat}, i ∉ vs → (wipe σ vs)[i]? = σ[i]?
  | [], _ => rfl
  | v :: vs, h => by
    have h2 : i ≠ v ∧ i ∉ vs := by simpa using h
    unfold wipe
    rw [List.getElem?_set_ne (Ne.symm h2.1), wipe_off h2.2]
theorem wipe_on {i : Nat} : ∀ {vs : List Nat}, i ∈ vs → i < σ.length → (wipe σ vs)[i]? = some none
  | [], h, _ => by cases h
  | v :: vs, h, hl => by
    unfold wipe
    by_cases e : v = i
    · subst e
      rw [List.getElem?_set_self (by rw [wipe_length]; exact hl)]
    · rw [List.getElem?_set_ne e]
      exact wipe_on (by simpa [Ne.symm e] using h) hl
theorem wipe_eq {σ3 : L2.St} {vs : List Nat} (hl : σ3.length = σ.length) (h : ∀ j, j ∉ vs → σ3[j]? = σ[j]?) : wipe σ3 vs = wipe σ vs := by
  apply List.ext_getElem?
  intro i
  by_cases hi : i ∈ vs
  · by_cases hlt : i < σ.length
    · rw [wipe_on hi hlt, wipe_on hi (by omega)]
    · rw [List.getElem?_eq_none (by rw [wipe_length]; omega), List.getElem?_eq_none (by rw [wipe_length]; omega)]
  · rw [wipe_off hi, wipe_off hi, h i hi]
theorem St.unsets {env : Env} : ∀ {vs : List Nat}, St K ms I σ env H fp → ∃ fp', St K ms I σ (wipeE env vs) H fp' ∧ ∀ p ∈ fp', p ∈ fp
  | [], s => ⟨fp, s, fun _ h => h⟩
  | v :: vs, s => by
    obtain ⟨fp1, s1, c1⟩ := St.unsets (vs := vs) s
    obtain ⟨fp2, a, b⟩ := s1.sl.unset v
    exact ⟨fp2, ⟨s1.ext, s1.nd.sublist b, fun p hp => s1.off p (b.subset hp), a⟩, fun p hp => c1 p (b.subset hp)⟩
theorem St.wipe {env : Env} {vs : List Nat} (s : St K ms I σ env H fp) : ∃ fp', St K ms I (wipe σ vs) (wipeE env vs) H fp' ∧ ∀ p ∈ fp', p ∈ fp := by
  obtain ⟨fp', s', c⟩ := St.unsets (vs := vs) s
  exact ⟨fp', ⟨s'.ext, s'.nd, s'.off, s'.sl.congr (wipe_length _ _) fun i d hd => wipe_off (wipeE_some hd).2⟩, c⟩
theorem St.restore {env e0 : Env} : ∀ {vs : List Nat}, St K ms I σ env H fp → shAll ms vs = true → (∀ v ∈ vs, ∀ d, getS e0 v = some d → ∃ x, σ[v]? = some (some x) ∧ Rep K I x d) → ∃ fp', St K ms I σ (restoreE e0 env vs) H fp' ∧ ∀ p ∈ fp', p ∈ fp
  | [], s, _, _ => ⟨fp, s, fun _ h => h⟩
  | v :: vs, s, h, r => by
    have h2 : (isShM ms v && shAll ms vs) = true := h
    rw [Bool.and_eq_true] at h2
    obtain ⟨fp1, s1, c1⟩ := St.restore (vs := vs) s h2.2 fun w hw d hd => r w (List.mem_cons_of_mem _ hw) d hd
    cases g : getS e0 v with
    | none =>
      obtain ⟨fp2, a, b⟩ := s1.sl.unset v
      refine ⟨fp2, ?_, fun p hp => c1 p (b.subset hp)⟩
      unfold restoreE
      rw [g]
      exact ⟨s1.ext, s1.nd.sublist b, fun p hp => s1.off p (b.subset hp), a⟩
    | some d =>
      obtain ⟨x, e1, e2⟩ := r v List.mem_cons_self d g
      obtain ⟨fp2, a, b, c⟩ := s1.sl.fill (f := []) (isShM_some h2.1) e1 ⟨e2, rfl⟩ s1.nd
      have c' : ∀ p ∈ fp2, p ∈ fp1 := fun p hp => (c p hp).elim (fun z => by cases z) id
      refine ⟨fp2, ?_, fun p hp => c1 p (c' p hp)⟩
      unfold restoreE
      rw [g]
      exact ⟨s1.ext, b, fun p hp => s1.off p (c' p hp), a⟩
/-- a list that is no slot's changes -/
theorem St.setD {env : Env} {p : Addr} {o : HO} (s : St K ms I σ env H fp) (hI : I p = none) (hf : p ∉ fp) : St K ms I σ env (upd H p o) fp :=
  ⟨s.ext.mut hI, s.nd, s.off, s.sl.move (.refl _) fun q hq u hu => by rw [upd_ne fun z => hf (by rw [← z]; exact hq)]; exact hu⟩
end
def DTs (X : Cx) (ms : List Md) (ifs : List Expr) (c : CB) : Prop := ∀ W, Takes X W → PTs X ifs (tB1 X.K X.mg ms c W)
def cYes : CB := fun e => some (.ok true, e)
section
variable {X : Cx} {ms : List Md} {m : Md} {e tg iter elt : Expr} {ifs : List Expr} {c : CB} {f : CE} {fi : CI} {tgs : Tg} {pos p : Pos} {scope : Scope} {own : List (Str × Nat)}
theorem dts_nil : DTs X ms [] cYes := fun W tk => ⟨fun pins s σ H Q I h => by
  obtain ⟨J, env, fp, st, r, env', h1, q, b⟩ := h
  cases h1
  exact pts_nil.run pins s σ H Q I (q true rfl H J fp st (.refl _ _ _))⟩
theorem dts_one (h : DB X ms e c) : DTs X ms [e] c := fun W tk => pts_one (h W tk)
theorem lc_read {K : PySem.W.Frag} {mg : Str → Option Value} {vs : List Nat} {W : WX} {σ : L2.St} {H : Hp} {Q : VK} (hm : m.fl = true) (h0 : tgOk ms tgs = true) (hv : tgs.slots.all (fun j => decide (j ∈ vs)) = true) (hsh : shAll ms vs = true)
    (h : tE K mg ms m (cLc fi tgs c f vs) W σ H Q) : tLc (tI K mg ms fi W) (tgR K tgs) (tB1 K mg ms c (fun _ _ _ _ => False)) (tE K mg ms .sh f (fun _ _ _ _ => False)) vs σ H Q := by
  obtain ⟨I, env, fp, s, r, env', h1, q, b⟩ := h
  rcases mbind_some h1 with ⟨e, h2, rfl⟩ | ⟨items, e1, h2, h3⟩
  · exact ⟨I, env, fp, s, _, _, h2, fun d z => (by cases z), fun e' z => by cases z; exact b e rfl⟩
  · refine ⟨I, env, fp, s, _, _, h2, fun items' z J H1 I1 fp1 s1 t1 hJ => ?_, fun e' z => by cases z⟩
    cases z
    intro Dl hD
    -- the loop's whole run
    unfold lcOut at h3
    split at h3
    case h_2 => cases h3
    rename_i ys e2 hrun
    split at h3
    case isFalse => cases h3
    rename_i hsz
    cases h3
    have hvs : ∀ j, j ∈ tgs.slots → j ∈ vs := fun j hj => by
      rw [List.all_eq_true] at hv
      exact of_decide_eq_true (hv j hj)
    have dI1 : I1 Dl = none := s1.ext.free hD
    have dfp1 : Dl ∉ fp1 := fun z => by
      obtain ⟨xs, hx, _⟩ := s1.sl.there Dl z
      rw [hD] at hx; cases hx
    obtain ⟨fp2, s2, c2⟩ := (s1.newH (o := .lst []) hD).wipe (vs := vs)
    refine ⟨fun i mm H' => mm = items.length - i ∧ i ≤ items.length ∧ ∃ I' en fp' acc accV, Ext I1 I' ∧ St K ms I' (wipe σ vs) (wipeE en vs) H' fp' ∧ Step I1 (upd H1 Dl (.lst [])) (Dl :: fp1) I' H' (Dl :: fp') ∧ H' Dl = some (.lst accV) ∧ Reps K I' accV acc ∧ I' Dl = none ∧ Dl ∉ fp' ∧
      ∃ zs, lcD tgs c f vs (items.drop i) en = some (.ok zs, e2) ∧ acc ++ zs = ys,
      ⟨items.length, rfl, Nat.zero_le _, I1, e1, fp2, [], [], .refl _, s2, (Step.refl _ _ _).less (fun p hp => ?_), upd_same, .nil, dI1, fun z => dfp1 (c2 _ z), ys, hrun, rfl⟩, ?_⟩
    · rcases List.mem_cons.mp hp with z | z
      · rw [z]; exact List.mem_cons_self
      · exact List.mem_cons_of_mem _ (c2 p z)
    rintro i mm H' ⟨rfl, hle, I', en, fp', acc, accV, x1, s', t', hDl, racc, dI, dfp, zs, hf, hys⟩
    obtain ⟨go, stop⟩ := hJ i I' H' ms _ _ fp' x1 s'
    by_cases hlt : i < items.length
    · obtain ⟨g1, g2⟩ := go hlt
      have hd : items.drop i = items[i] :: items.drop (i + 1) := List.drop_eq_getElem_cons hlt
      rw [hd] at hf
      refine .inr ⟨g1, fun H2 => ∃ I' en fp' acc accV, Ext I1 I' ∧ St K ms I' (wipe σ vs) (wipeE en vs) H2 fp' ∧ Step I1 (upd H1 Dl (.lst [])) (Dl :: fp1) I' H2 (Dl :: fp') ∧ H2 Dl = some (.lst accV) ∧ Reps K I' accV acc ∧ I' Dl = none ∧ Dl ∉ fp' ∧
        ∃ zs, lcD tgs c f vs (items.drop (i + 1)) en = some (.ok zs, e2) ∧ acc ++ zs = ys, fun H2 w => ⟨items.length - (i + 1), by omega, rfl, hlt, w⟩, fun x H2 hy => ?_⟩
      obtain ⟨I2, d, e3, rx, s2, t2, hH2⟩ := g2 x H2 hy
      rw [List.getElem?_eq_getElem hlt] at e3
      cases e3
      have hf' : (match asgT tgs items[i] (wipeE en vs) with
        | none => none
        | some e1 => mbind (c e1) fun b e2 => if b = true then mbind (f e2) fun y e3 => mbind (lcD tgs c f vs (items.drop (i + 1)) e3) fun ys e4 => some (.ok (y :: ys), e4) else lcD tgs c f vs (items.drop (i + 1)) e2) = some (.ok zs, e2) := hf
      cases ha : asgT tgs items[i] (wipeE en vs) with
      | none => simp only [ha] at hf'; cases hf'
      | some en1 =>
        simp only [ha] at hf'
        -- what is known of the list that grows
        have dl2 : H2 Dl = some (.lst accV) := t2.keep Dl _ hDl dfp
        have nI2 : I2 Dl = none := by
          cases z : I2 Dl with
          | none => rfl
          | some o => rcases t2.gr Dl (by rw [z]; simp) with y | y | y
                      · exact absurd dI y
                      · exact absurd y dfp
                      · rw [hDl] at y; cases y
        refine tg_read s2 rx ha h0 fun σ3 fp3 s3 c3 k3 => ?_
        have hl3 : σ3.length = (wipe σ vs).length := by rw [s3.sl.len.2, ← s3.sl.len.1, s'.sl.len.1, ← s'.sl.len.2]
        have off3 : ∀ j, j ∉ vs → σ3[j]? = (wipe σ vs)[j]? := fun j hj => k3 j fun z => hj (hvs j z)
        have ew : wipe σ3 vs = wipe σ vs := by
          have := wipe_eq (σ := σ) (σ3 := σ3) (vs := vs) (by rw [hl3, wipe_length]) fun j hj => by rw [off3 j hj, wipe_off hj]
          exact this
        refine ⟨ew, ?_⟩
        have nfp3 : Dl ∉ fp3 := fun z => dfp (c3 _ z)
        -- the state's way from its start to some later state
        have later : ∀ {I4 H4 : Hp} {fp4 : List Addr}, Step I2 H2 fp3 I4 H4 fp4 → H4 Dl = some (.lst accV) ∧ I4 Dl = none ∧ Dl ∉ fp4 := fun {I4 H4 fp4} t4 => by
          refine ⟨t4.keep Dl _ dl2 nfp3, ?_, fun z => ?_⟩
          · cases z : I4 Dl with
            | none => rfl
            | some o => rcases t4.gr Dl (by rw [z]; simp) with y | y | y
                        · exact absurd nI2 y
                        · exact absurd y nfp3
                        · rw [dl2] at y; cases y
          · rcases t4.own Dl z with y | y
            · exact nfp3 y
            · rw [dl2] at y; cases y
        have tt : ∀ {I4 H4 : Hp} {fp4 : List Addr}, Step I2 H2 fp3 I4 H4 fp4 → Step I1 (upd H1 Dl (.lst [])) (Dl :: fp1) I4 H4 (Dl :: fp4) := fun {I4 H4 fp4} t4 => by
          have t24 : Step I' H' fp' I4 H4 fp4 := (t2.less c3).trans t4
          have t24' : Step I' H' (Dl :: fp') I4 H4 (Dl :: fp4) := ⟨t24.ext, fun b o hb hn => t24.keep b o hb fun z => hn (List.mem_cons_of_mem _ z), fun p hp => by
            rcases List.mem_cons.mp hp with z | z
            · exact .inl (by rw [z]; exact List.mem_cons_self)
            · exact (t24.own p z).imp_left (List.mem_cons_of_mem _), fun b hb => (t24.gr b hb).imp_right fun z => z.imp_left (List.mem_cons_of_mem _)⟩
          exact t'.trans t24'
        rcases mbind_some hf' with ⟨er, h4, z⟩ | ⟨bb, en2, h4, h5⟩
        · cases z
        refine ⟨I2, en1, fp3, s3, _, _, h4, fun b' z H3 I3 fp3' s3' t3 => ?_, fun e' z => by cases z⟩
        cases z
        cases bb with
        | false =>
          simp only [Bool.false_eq_true, if_false] at h5 ⊢
          obtain ⟨w1, w2, w3⟩ := later t3
          obtain ⟨fp5, s5, c5⟩ := s3'.wipe (vs := vs)
          rw [ew] at s5
          exact ⟨I3, en2, fp5, acc, accV, x1.trans (t2.ext.trans t3.ext), s5, (tt t3).less (fun p hp => by
            rcases List.mem_cons.mp hp with z | z
            · rw [z]; exact List.mem_cons_self
            · exact List.mem_cons_of_mem _ (c5 p z)), w1, racc.mono (t2.ext.trans t3.ext), w2, fun z => w3 (c5 _ z), zs, h5, hys⟩
        | true =>
          simp only [if_true] at h5 ⊢
          rcases mbind_some h5 with ⟨er, h6, z⟩ | ⟨y, en3, h6, h7⟩
          · cases z
          refine ⟨I3, en2, fp3', s3', _, _, h6, fun d' z v H4 I4 fp4 fv s4 t4 rv nd off => ?_, fun e' z => by cases z⟩
          cases z
          obtain ⟨rv, rfl⟩ := rv
          have t34 : Step I2 H2 fp3 I4 H4 fp4 := t3.trans t4
          obtain ⟨w1, w2, w3⟩ := later t34
          rcases mbind_some h7 with ⟨er, h8, z⟩ | ⟨zs', en4, h8, h9⟩
          · cases z
          cases h9
          have hlen : accV.length < sizeLine := by
            rw [racc.length]
            have := congrArg List.length hys
            rw [List.length_append, List.length_cons] at this
            omega
          refine ⟨accV, w1, hlen, ?_⟩
          obtain ⟨fp5, s5, c5⟩ := (s4.setD (o := .lst (accV ++ [v])) w2 w3).wipe (vs := vs)
          rw [ew] at s5
          have tD : Step I4 H4 (Dl :: fp4) I4 (upd H4 Dl (.lst (accV ++ [v]))) (Dl :: fp5) := ⟨.refl _, fun b o hb hn => by
            rw [upd_ne fun z => hn (by rw [z]; exact List.mem_cons_self)]; exact hb, fun p hp => .inl (by
            rcases List.mem_cons.mp hp with z | z
            · rw [z]; exact List.mem_cons_self
            · exact List.mem_cons_of_mem _ (c5 p z)), fun b hb => .inl hb⟩
          refine ⟨I4, en3, fp5, acc ++ [y], accV ++ [v], x1.trans (t2.ext.trans t34.ext), s5, (tt t34).trans tD, upd_same, (racc.mono (t2.ext.trans t34.ext)).append (.cons rv .nil), w2, fun z => w3 (c5 _ z), zs', h8, ?_⟩
          rw [List.append_assoc]; exact hys
    · have e0 : items.drop i = [] := List.drop_eq_nil_of_le (by omega)
      rw [e0] at hf
      cases hf
      rw [List.append_nil] at hys
      subst hys
      refine .inl ⟨stop (by omega), ?_⟩
      -- the outer slots again
      have s6 : St K ms I' σ (wipeE e2 vs) H' fp' := ⟨s'.ext, s'.nd, s'.off, s'.sl.congr (wipe_length _ _).symm fun i d hd => (wipe_off (wipeE_some hd).2).symm⟩
      obtain ⟨fp7, s7, c7⟩ := s6.restore (e0 := e1) hsh fun v hv d hd => by
        have hm2 : ms[v]? = some .sh := by
          unfold shAll at hsh
          rw [List.all_eq_true] at hsh
          exact isShM_some (hsh v hv)
        obtain ⟨x, a1, a2⟩ := s1.sh (getS_iff.mp hd) hm2
        exact ⟨x, a1, a2.mono x1⟩
      have own7 : ∀ p ∈ Dl :: fp7, p ∈ fp ∨ H p = none := fun p hp => by
        have hp2 : p ∈ Dl :: fp' := by
          rcases List.mem_cons.mp hp with z | z
          · rw [z]; exact List.mem_cons_self
          · exact List.mem_cons_of_mem _ (c7 p z)
        rcases t'.own p hp2 with z | z
        · rcases List.mem_cons.mp z with y | y
          · subst y
            by_cases hf : p ∈ fp
            · exact .inl hf
            · right
              cases w : H p with
              | none => rfl
              | some o => have := t1.keep p o w hf; rw [hD] at this; cases this
          · exact t1.own p (by simpa using y)
        · have : p ≠ Dl := fun y => by rw [y, upd_same] at z; cases z
          rw [upd_ne this] at z
          by_cases hf : p ∈ fp
          · exact .inl hf
          · right
            cases w : H p with
            | none => rfl
            | some o => have := t1.keep p o w hf; rw [z] at this; cases this
      have kp7 : ∀ b o, H b = some o → b ∉ fp → H' b = some o := fun b o hb hn => by
        have h1 := t1.keep b o hb hn
        have nb : b ≠ Dl := fun y => by rw [y, hD] at h1; cases h1
        refine t'.keep b o (by rw [upd_ne nb]; exact h1) fun z => ?_
        rcases List.mem_cons.mp z with y | y
        · exact nb y
        · rcases t1.own b (by simpa using y) with w | w
          · exact hn w
          · rw [hb] at w; cases w
      have gr7 : ∀ b, I' b ≠ none → I b ≠ none ∨ b ∈ fp ∨ H b = none := fun b hb => by
        rcases t'.gr b hb with z | z | z
        · exact t1.gr b z
        · rcases List.mem_cons.mp z with y | y
          · subst y; rw [dI] at hb; exact absurd rfl hb
          · rcases t1.own b (by simpa using y) with w | w
            · exact .inr (.inl w)
            · exact .inr (.inr w)
        · have nb : b ≠ Dl := fun y => by rw [y, upd_same] at z; cases z
          rw [upd_ne nb] at z
          by_cases hf : b ∈ fp
          · exact .inr (.inl hf)
          · right; right
            cases w : H b with
            | none => rfl
            | some o => have := t1.keep b o w hf; rw [z] at this; cases this
      have hstep : ∀ {fpx : List Addr}, (∀ p ∈ fpx, p ∈ Dl :: fp7) → Step I H fp I' H' fpx := fun {fpx} hx => ⟨t1.ext.trans t'.ext, kp7, fun p hp => own7 p (hx p hp), gr7⟩
      have nf7 : Dl ∉ fp7 := fun z => dfp (c7 _ z)
      rcases (Md.fl_cases hm).symm with rfl | rfl
      · refine q _ rfl (.ref Dl) H' I' fp7 [Dl] s7 (hstep fun p hp => by simpa using hp) (RepO.l0 hDl racc) (List.nodup_cons.mpr ⟨nf7, s7.nd⟩) fun p hp => ?_
        simp at hp; subst hp; exact dI
      · have ex : Ext I' (upd I' Dl (.lst accV)) := .new dI
        have t8 := hstep (fpx := fp7) fun p hp => List.mem_cons_of_mem _ hp
        refine q _ rfl (.ref Dl) H' (upd I' Dl (.lst accV)) fp7 [] ⟨fun a o ha => ?_, s7.nd, fun p hp => ?_, s7.sl.move ex fun p hp o ho => ho⟩ ⟨t8.ext.trans ex, t8.keep, t8.own, fun b hb => ?_⟩ ⟨.lst upd_same (racc.mono ex), rfl⟩ s7.nd fun p hp => by cases hp
        · by_cases e : a = Dl
          · subst e; rw [upd_same] at ha; cases ha; exact hDl
          · rw [upd_ne e] at ha; exact s7.ext a o ha
        · rw [upd_ne fun z => nf7 (by rw [← z]; exact hp)]; exact s7.off p hp
        · by_cases e : b = Dl
          · subst e; exact .inr (own7 b List.mem_cons_self)
          · rw [upd_ne e] at hb; exact t8.gr b hb
theorem de_lc (hi : DIt X ms tg iter fi) (ok : BlkOk X.N X.env.scope scope own) (hg : ∀ (s : Shared) (H : Hp) (C : Addr) (cl : List (Str × Addr)) (fp : List Addr), PG (X.blk s H scope (compEnvC scope cl C X.env) fp) tg (tgR X.K tgs))
    (ht : ∀ (s : Shared) (H : Hp) (C : Addr) (cl : List (Str × Addr)) (fp : List Addr), DTs (X.blk s H scope (compEnvC scope cl C X.env) fp) ms ifs c) (he : ∀ (s : Shared) (H : Hp) (C : Addr) (cl : List (Str × Addr)) (fp : List Addr), DE (X.blk s H scope (compEnvC scope cl C X.env) fp) ms .sh elt f)
    (hc : X.calm = true) (hN : X.N.Nodup) (hm : m.fl = true := by rfl) (h0 : tgOk ms tgs = true := by rfl) (hv : tgs.slots.all (fun j => decide (j ∈ own.map (·.2))) = true := by rfl) (hsh : shAll ms (own.map (·.2)) = true := by rfl) (hs : ∀ x, foldedSetIterable iter X.env x = pure x := by intro _; rfl) :
    DE X ms m (.ListComp elt [⟨tg, iter, ifs, 0⟩] scope pos) (cLc fi tgs c f (own.map (·.2))) := fun W tk =>
  pe_imp (pe_lc hc hN (hi W tk) ok hg (fun s H C cl fp => ht s H C cl fp _ takes0) (fun s H C cl fp => he s H C cl fp _ takes0) hs) fun σ H Q h => lc_read hm h0 hv hsh h
/-- name = [..] -/
theorem ds_lc {xm : List Bool} {B : List Md} {ro : Md} (i : Nat) {y : Str} {py spos : Pos} (hi : DIt X ms tg iter fi) (ok : BlkOk X.N X.env.scope scope own) (hg : ∀ (s : Shared) (H : Hp) (C : Addr) (cl : List (Str × Addr)) (fp : List Addr), PG (X.blk s H scope (compEnvC scope cl C X.env) fp) tg (tgR X.K tgs))
    (ht : ∀ (s : Shared) (H : Hp) (C : Addr) (cl : List (Str × Addr)) (fp : List Addr), DTs (X.blk s H scope (compEnvC scope cl C X.env) fp) ms ifs c) (he : ∀ (s : Shared) (H : Hp) (C : Addr) (cl : List (Str × Addr)) (fp : List Addr), DE (X.blk s H scope (compEnvC scope cl C X.env) fp) ms .sh elt f)
    (hcalm : X.calm = true) (hN : X.N.Nodup) (hsw : swapsWith (.ListComp elt [⟨tg, iter, ifs, 0⟩] scope pos) (some (.Name y py)) spos.line X.env = pure true) (hy : X.N[i]? = some y := by rfl) (hyl : X.env.scope.names.lookup y = some .local := by rfl) (hn : notPr ms i = true := by rfl)
    (hm : m.fl = true := by rfl) (h0 : tgOk ms tgs = true := by rfl) (hv : tgs.slots.all (fun j => decide (j ∈ own.map (·.2))) = true := by rfl) (hsh : shAll ms (own.map (·.2)) = true := by rfl) (hc : compat xm ms = true := by rfl) (hs : ∀ x, foldedSetIterable iter X.env x = pure x := by intro _; rfl) :
    DS X xm ms (ms.set i m) B ro (.Assign [.Name y py] (.ListComp elt [⟨tg, iter, ifs, 0⟩] scope pos) spos) (cAsg i (cLc fi tgs c f (own.map (·.2)))) :=
  ⟨let ⟨_, g1, g2, _⟩ := notPr_some hn; norm_set g1 g2 (Md.fl_par hm), fun W tk => ps_imp (ps_setLc (i := i) hcalm hN hy hyl hsw (hi W tk) ok hg (fun s H C cl fp => ht s H C cl fp _ takes0) (fun s H C cl fp => he s H C cl fp _ takes0) hs) fun D σ H h =>
    lc_read hm h0 hv hsh (asg_read hn hc h)⟩
end
end DI
set_option Elab.async false
set_option autoImplicit false
set_option linter.all false
set_option maxRecDepth 100000
set_option maxHeartbeats 2000000
/-! DI11: lists changed in place; a def by its body. -/
namespace DI
open PySem PySem.Spec PyProof.Rows
open L2 hiding XE Takes Takes.imp CX XE.of_call XE.new XE.leave takes_of passes_call Sky.land MkP PMk ps_raise mk_of ps_try_as HdsOk ps_try_many pmk_own passAt takes_none5 takes0 passL mk_end pmk_oex
open L2N hiding St
section
variable {K : PySem.W.Frag} {I H : Hp} {ms : List Md} {σ : L2.St} {fp : List Addr} {env : Env}
/-- the list of a slot -/
theorem St.own (s : St K ms I σ env H fp) {i : Nat} {ds : List D} (e : getS env i = some (.lst ds)) (ho : isOwn ms i = true) : ∃ a xs, σ[i]? = some (some (.ref a)) ∧ H a = some (.lst xs) ∧ Reps K I xs ds ∧ a ∈ fp := by
  obtain ⟨m, v, f, h1, h2, h3, h4⟩ := s.sl.get (getS_iff.mp e)
  obtain ⟨m', h5, h6⟩ := isOwn_some ho
  rw [h1] at h5; cases h5
  have h3' : RepO K I H .l0 v (.lst ds) f := by rcases h6 with rfl | rfl <;> exact h3
  rcases repO_l0.mp h3' with ⟨z, _⟩ | ⟨a, xs, es, rfl, e1, h7, h8, rfl⟩
  · cases z
  · cases e1
    exact ⟨a, xs, h2, h7, h8, h4 a (by simp)⟩
theorem St.write (s : St K ms I σ env H fp) {i : Nat} {ds ds' : List D} {a : Addr} {xs : List V} (e : getS env i = some (.lst ds)) (ho : isOwn ms i = true) (h1 : σ[i]? = some (some (.ref a))) (h2 : a ∈ fp) (hx : Reps K I xs ds') :
    St K ms I σ (env.set i (some (.lst ds'))) (upd H a (.lst xs)) fp ∧ Step I H fp I (upd H a (.lst xs)) fp := by
  obtain ⟨m, h5, h6⟩ := isOwn_some ho
  refine ⟨⟨s.ext.mut (s.off a h2), s.nd, s.off, Slots.write hx s.sl s.nd h1 h2 ⟨ds, m, getS_iff.mp e, h5, h6⟩⟩, ⟨.refl _, fun b o hb hn => by rw [upd_ne fun z => hn (by rw [z]; exact h2)]; exact hb, fun p hp => .inl hp, fun b hb => .inl hb⟩⟩
end
/-! ### x[k] = e -/
def cSetI (i : Nat) (fe fx : CE) : CS := fun env => match getS env i with
  | none => none
  | some _ => mbind (fe env) fun d e1 => mbind (fx e1) fun k e2 => match k, getS e2 i with
    | .int j, some (.lst xs) => match ixN xs.length j with
      | some n => some (.ok .nx, e2.set i (some (.lst (xs.set n d))))
      | none => none
    | _, _ => none
/-! ### methods -/
def cMut (i : Nat) (g : List D → List D → Option (D × List D)) (os : List Opd) : CE := fun env => match getS env i with
  | some (.lst _) => mbind (evalOs os env) fun ds e => match getS e i with
    | some (.lst xs) => match g xs ds with
      | some (d, xs') => some (.ok d, e.set i (some (.lst xs')))
      | none => none
    | _ => none
  | _ => none
/-- the method r does what g says; f: what comes is no list -/
def MutOk (K : PySem.W.Frag) (r : V → List V → Hp → VK → Prop) (g : List D → List D → Option (D × List D)) : Prop :=
  ∀ (I H : Hp) (a : Addr) (xs vs : List V) (es ds : List D) (d : D) (es' : List D) (Q : VK), Ext I H → H a = some (.lst xs) → I a = none → Reps K I xs es → Reps K I vs ds → g es ds = some (d, es') →
    (∀ v xs', Rep K I v d → Reps K I xs' es' → Q v (upd H a (.lst xs'))) → r (.ref a) vs H Q
section
variable {X : Cx} {xm : List Bool} {ms B : List Md} {ro : Md} {e a : Expr} {es : List Expr} {fe fx : CE} {os : List Opd} {pos p apos cpos : Pos} {W : WX}
theorem mut_read {K : PySem.W.Frag} {mg : Str → Option Value} {σ : L2.St} {H : Hp} {Q : VK} {i : Nat} {r : V → List V → Hp → VK → Prop} {g : List D → List D → Option (D × List D)} (hr : MutOk K r g) (ho : isOwn ms i = true) (ht : os.all Opd.isTm = true)
    (h : tE K mg ms .sh (cMut i g os) W σ H Q) : tVar i σ H fun x H1 => tyV K "list" x H1 ∧ tOs K mg ms W os σ H1 fun vs H2 => r x vs H2 Q := by
  obtain ⟨I, env, fp, s, rr, env', h1, q, b⟩ := h
  unfold cMut at h1
  split at h1
  case h_2 => cases h1
  rename_i ds0 hg0
  obtain ⟨a0, xs0, k1, k2, k3, k4⟩ := s.own hg0 ho
  refine ⟨.ref a0, k1, .inl ⟨rfl, _, SqL.of k2⟩, os_then s h1 b fun ds e1 vs H1 I1 fp1 h2 s1 t1 rs => ?_⟩
  split at h2
  case h_2 => cases h2
  rename_i xs hg1
  split at h2
  case h_2 => cases h2
  rename_i d xs' hgx
  cases h2
  obtain ⟨a, xv, m1, m2, m3, m4⟩ := s1.own hg1 ho
  rw [k1] at m1; cases m1
  refine hr I1 H1 a0 xv vs xs ds d xs' Q s1.ext m2 (s1.off a0 m4) m3 (rs.reps ht) hgx fun v xv' rv rx => ?_
  obtain ⟨s2, t2⟩ := s1.write hg1 ho k1 m4 rx
  exact q d rfl v _ I1 fp1 [] s2 (t1.trans t2) ⟨rv, rfl⟩ s2.nd fun p hp => by cases hp
theorem de_mut (i : Nat) {x name : Str} {id : String} {r : V → List V → Hp → VK → Prop} {g : List D → List D → Option (D × List D)} (slot : Slot "list" name id) (hty : typeOf (.builtin id) = pure (.type "method_descriptor")) (hm : MtR X id r) (hr : MutOk X.K r g) (ha : DOs X ms (e :: es) os)
    (ho : isOwn ms i = true := by rfl) (ht : os.all Opd.isTm = true := by rfl) (hN : X.N[i]? = some x := by rfl) (hv : Vis X.env.scope x := by first | exact Or.inl rfl | exact Or.inr (Or.inl rfl) | exact Or.inr (Or.inr rfl)) (hd : (x == ("__debug__" : Str)) = false := by decide) (hcd : (x == ("__classdict__" : Str)) = false := by decide)
    (hbase : attributeBase (.Name x p) name X.env (eval (.Name x p) X.env) = eval (.Name x p) X.env := by rfl)
    (hfew : ((backTo cpos (starEach (e :: es) X.env)).all (fun x => !x.1) && (backToKw cpos (keywordEach [] X.env)).all (fun x => x.1.isSome)
      && decide ((e :: es).length + ([] : List Keyword).length + (if ([] : List Keyword).isEmpty then 0 else 1) < 30)) = true := by rfl)
    (hline : (apos.endLine == cpos.line) = true := by rfl) (hs : starEach (e :: es) X.env = (false, eval e X.env) :: starEach es X.env := by rfl) (hplain : (backTo cpos (starEach es X.env)).any (·.1) = false := by rfl) :
    DE X ms .sh (.Call (.Attribute (.Name x p) name apos) (e :: es) [] cpos) (cMut i g os) := fun W tk =>
  pe_imp (pe_bm PySem.F.plainAttrs_list slot hty hm (pe_var hN hv hd hcd) (ha.pa tk) hbase hfew hline hs hplain) fun σ H Q h => mut_read hr ho ht h
/-- the methods' meanings -/
def mApp : List D → List D → Option (D × List D)
  | xs, [d] => if xs.length < sizeLine then some (.non, xs ++ [d]) else none
  | _, _ => none
def mExt : List D → List D → Option (D × List D)
  | xs, [.lst ys] => if xs.length + ys.length ≤ sizeLine then some (.non, xs ++ ys) else none
  | _, _ => none
def mPop : List D → List D → Option (D × List D)
  | xs, [] => match xs[xs.length - 1]? with
    | some d => some (d, xs.dropLast)
    | none => none
  | _, _ => none
def mPopAt : List D → List D → Option (D × List D)
  | xs, [.int i] => if -(2 ^ 63) ≤ i ∧ i < 2 ^ 63 then (match seqIndex? i xs.length with
      | some k => match xs[k]? with
        | some d => some (d, xs.eraseIdx k)
        | none => none
      | none => none) else none
  | _, _ => none
def mIns : List D → List D → Option (D × List D)
  | xs, [.int i, d] => if xs.length < sizeLine ∧ 0 ≤ i ∧ i < 2 ^ 63 then some (.non, xs.take i.toNat ++ [d] ++ xs.drop i.toNat) else none
  | _, _ => none
def mRev : List D → List D → Option (D × List D)
  | xs, [] => some (.non, xs.reverse)
  | _, _ => none
theorem mApp_ok {K : PySem.W.Frag} : MutOk K rAppend mApp := by
  intro I H a xs vs es ds d es' Q e h1 h2 h3 h4 g q
  unfold mApp at g
  split at g
  · obtain ⟨v, rfl, h5⟩ := reps1 h4
    split at g
    · rename_i hz
      cases g
      exact ⟨a, xs, v, rfl, rfl, h1, by rw [h3.length]; exact hz, q _ _ .non (h3.append (.cons h5 .nil))⟩
    · cases g
  · cases g
theorem seti_read {D : Ends} {K : PySem.W.Frag} {mg : Str → Option Value} {σ : L2.St} {H : Hp} {i : Nat} (ho : isOwn ms i = true) (hc : compat xm ms = true) (h : tS K mg xm ms ms B ro (cSetI i fe fx) W D σ H) :
    tAsg (tE K mg ms .sh fe W) (L2.gSub (tVar i) (tE K mg ms .sh fx W) rSetL) D σ H := by
  obtain ⟨I, env, fp, s, r, env', h1, q1, q2, q3, q4, q5⟩ := h
  unfold cSetI at h1
  split at h1
  case h_1 => cases h1
  rename_i d0 hg0
  obtain ⟨v0, k1⟩ := s.at (getS_iff.mp hg0)
  refine tE_then s h1 (fun e z => (q5 e z).bad hc) fun d e1 v H1 I1 fp1 h2 s1 t1 rv => ?_
  refine ⟨v0, k1, tE_then s1 h2 (fun e z => ((q5 e z).bad hc).back t1) fun kd e2 w H2 I2 fp2 h3 s2 t2 rw' => ?_⟩
  split at h3
  case h_2 => cases h3
  rename_i j xs hg1
  split at h3
  case h_2 => cases h3
  rename_i n hn
  cases h3
  cases rw'
  obtain ⟨a, xv, m1, m2, m3, m4⟩ := s2.own hg1 ho
  rw [k1] at m1; cases m1
  obtain ⟨s3, t3⟩ := s2.write hg1 ho k1 m4 (Reps.set (rv.mono t2.ext) n m3)
  exact ⟨a, xv, j, n, rfl, rfl, m2, by rw [m3.length]; exact hn, q1 rfl σ _ I2 fp2 s3 ((t1.trans t2).trans t3) (Keep.refl _ _)⟩
end
section
variable {X : Cx} {xm : List Bool} {ms B : List Md} {ro : Md} {e : Expr} {fe fx : CE} {pos p : Pos}
theorem ds_set (i : Nat) {x : Str} {ei : Expr} {pp : Pos} (he : DE X ms .sh e fe) (hx : DE X ms .sh ei fx) (ho : isOwn ms i = true := by rfl) (hN : X.N[i]? = some x := by rfl) (hv : Vis X.env.scope x := by first | exact Or.inl rfl | exact Or.inr (Or.inl rfl) | exact Or.inr (Or.inr rfl)) (hd : (x == ("__debug__" : Str)) = false := by decide) (hcd : (x == ("__classdict__" : Str)) = false := by decide)
    (hc : compat xm ms = true := by rfl) (ha : ∀ v, assign (.Subscript (.Name x p) ei pp) X.env v = (do
      let ov ← holding [v] (eval (.Name x p) X.env)
      let iv ← holding [v, ov] (eval ei X.env)
      standAt pp
      holding [v, ov, iv] (setItem ov iv v)
      release [v, ov, iv] []) := by intro _; rfl) (hs : swapsWithSole [.Subscript (.Name x p) ei pp] e pos.line X.env = pure false := by rfl) (hw : swappedStores [.Subscript (.Name x p) ei pp] e X.env = pure none := by rfl) (h1 : (assignEach [.Subscript (.Name x p) ei pp] X.env).map (·.2) = [assign (.Subscript (.Name x p) ei pp) X.env] := by rfl) :
    DS X xm ms ms B ro (.Assign [.Subscript (.Name x p) ei pp] e pos) (cSetI i fe fx) := ⟨rfl, fun W tk => ps_imp (ps_asg (he W tk) (pg_sub (pe_var hN hv hd hcd) (hx W tk) set_list ha) hs hw h1) fun D σ H h => seti_read ho hc h⟩
end
/-! ### a def by its body -/
def finE (pm : List Md) (env : Env) : Env := maskB [] pm env
def runF (n : Nat) (pm : List Md) (f : CS) : FnD := fun ds => match f (ds.map some ++ List.replicate (n - ds.length) none) with
  | some (.ok (.rt d), e) => some (.ok d, finE pm e)
  | some (.ok .nx, e) => some (.ok .non, finE pm e)
  | some (.error x, e) => some (.error x, finE pm e)
  | _ => none
section
variable {K : PySem.W.Frag} {I H : Hp}
theorem masked_nil : ∀ {k : Nat} {σ : L2.St} {env : Env} {fp : List Addr}, Slots K I H (norm (List.replicate k .sh)) σ (maskB [] (List.replicate k .sh) env) fp → fp = []
  | 0, _, _, _, h => by cases h; rfl
  | k + 1, _, [], _, h => by cases h
  | k + 1, o :: σ, e :: env, _, h => by
    have h' : Slots K I H (.sh :: norm (List.replicate k .sh)) (o :: σ) (none :: maskB [] (List.replicate k .sh) env) _ := h
    cases h' with
    | non s => exact masked_nil s
  | k + 1, [], e :: env, _, h => by
    have h' : Slots K I H (.sh :: norm (List.replicate k .sh)) [] (none :: maskB [] (List.replicate k .sh) env) _ := h
    cases h'
theorem fin_slots {k : Nat} : ∀ {pm : List Md} {σ' : L2.St} {env : Env} {vs : List V} {fp : List Addr}, norm pm = pm → Slots K I H (norm (pm ++ List.replicate k .sh)) σ' (maskB [] (pm ++ List.replicate k .sh) env) fp → vs.length = pm.length →
    (∀ (i : Nat) (t : OT), pm[i]? = some (.ps t) → σ'[i]? = (vs.map some)[i]?) → Slots K I H pm (vs.map some) (finE pm env) fp
  | [], σ', env, vs, fp, _, h, hl, _ => by
    have hv : vs = [] := List.eq_nil_of_length_eq_zero hl
    subst hv
    have : fp = [] := masked_nil h
    subst this
    exact .nil
  | m :: pm, σ', [], vs, fp, _, h, hl, _ => by cases h
  | m :: pm, [], e :: env, vs, fp, _, h, hl, _ => by
    have hh : ∀ x, ¬ Slots K I H (norm (m :: pm ++ List.replicate k .sh)) [] (x :: maskB [] (pm ++ List.replicate k .sh) env) fp := fun x z => by cases z
    exact absurd h (hh _)
  | m :: pm, o :: σ', e :: env, [], fp, _, h, hl, _ => by cases hl
  | m :: pm, o :: σ', e :: env, v :: vs, fp, hn, h, hl, hk => by
    have hn2 : nrm1 m = m ∧ norm pm = pm := List.cons.inj hn
    have h' : Slots K I H (nrm1 m :: norm (pm ++ List.replicate k .sh)) (o :: σ') ((if m.par = true then e else none) :: maskB [] (pm ++ List.replicate k .sh) env) fp := h
    rw [hn2.1] at h'
    have hk2 : ∀ (i : Nat) (t : OT), pm[i]? = some (.ps t) → σ'[i]? = (vs.map some)[i]? := fun i t hi => by have := hk (i + 1) t (by simpa using hi); simpa using this
    show Slots K I H (m :: pm) (some v :: vs.map some) ((if m.par = true then e else none) :: maskB [] pm env) fp
    by_cases hm : m.par = true
    · rw [if_pos hm] at h' ⊢
      have h0 : (o :: σ')[0]? = ((v :: vs).map some)[0]? := by
        cases m with
        | sh => cases hm
        | os t => cases hm
        | ps t => exact hk 0 t rfl
      simp at h0
      subst h0
      cases h' with
      | non s => exact .non (fin_slots hn2.2 s (by simpa using hl) hk2)
      | som q s => exact .som q (fin_slots hn2.2 s (by simpa using hl) hk2)
    · rw [if_neg hm] at h' ⊢
      cases h' with
      | non s => exact .non (fin_slots hn2.2 s (by simpa using hl) hk2)
theorem Slots.more {k : Nat} {ls : List Md} (hl : ls.length = k) : ∀ {ms : List Md} {σ : L2.St} {env : Env} {fp : List Addr}, Slots K I H ms σ env fp → Slots K I H (ms ++ ls) (σ ++ List.replicate k none) (env ++ List.replicate k none) fp
  | _, _, _, _, .nil => by
    subst hl
    induction ls with
    | nil => exact .nil
    | cons m ls ih => exact .non ih
  | _, _, _, _, .non s => .non (s.more hl)
  | _, _, _, _, .som q s => .som q (s.more hl)
theorem norm_append (a b : List Md) : norm (a ++ b) = norm a ++ norm b := by
  unfold norm
  rw [List.map_append]
end
section
variable {P : Program} {w : World} {K : PySem.W.Frag} {mg : Str → Option Value} {base : Heap} {x qual : Str} {params : Arguments} {body : List Stmt} {scope : Scope} {dvs : List V} {kws : List (Str × V)} {f : Addr} {fd : FuncData}
/-- the rule of a body, from a derivation -/
theorem fn_g {N ps : List Str} {k : Nat} {pm ls ms' B : List Md} {ro : Md} {fs : CS} (F : FunD K x qual params body scope dvs kws f fd) (S : FnScope N ps scope) (hpm : pm.length = ps.length) (hn : norm pm = pm) (hro : ro.par = false) (hls : norm ls = List.replicate (N.length - ps.length) .sh)
    (hb : ∀ (cdv : Value) (A : Around) (outer : List PySem.Env) (s : Shared) (H : Hp) (E : XK), Room k (A.deeper (envOfC qual scope s.heap.objs.size f cdv)) → Amb (A.deeper (envOfC qual scope s.heap.objs.size f cdv)) base →
      DSs (cxOf (L2N.CX P w) P w K mg base N qual scope f cdv A outer s H E) [] (pm ++ ls) ms' B ro body fs) :
    FnG P w K mg base (k + 1) f fd ps (spF K mg pm ro (runF N.length pm fs)) := by
  have len : ∀ vs H Q E, spF K mg pm ro (runF N.length pm fs) vs H Q E → vs.length = ps.length := fun vs H Q E ⟨I, ds, fp, s, _⟩ => by
    have := s.sl.len
    rw [List.length_map, List.length_map] at this
    omega
  obtain ⟨oc, od, dV, kV, doc, pmv, an, cdv, ct, osl, rfl, lk, hcd, _, _⟩ := F.ex
  refine ⟨len, fun A outer s H args us vs Q E hr am e0 hbind rv hsp => ?_⟩
  have hl := len _ _ _ _ hsp
  have KX : K.In s.heap := e0.mod.kin.keeps fun b o e => (e0.bs b o e).1
  have lim : s.heap.NoLimit := e0.mod.nolimit.keeps fun b o e => (e0.bs b o e).1
  have hkind : ∀ y ∈ ps.zip us, scope.names.lookup y.1 = some .local ∨ (scope.names.lookup y.1 = some .cell ∧ ((cellsFrom (s.heap.objs.size + 1) scope.names []).lookup y.1).isSome = true) := fun ⟨n, v⟩ hy => by
    rcases S.par n (List.of_mem_zip hy).1 with q | q
    · exact .inl q
    · exact .inr ⟨q, PySem.W.cellsFrom_some _ _ _ (.inl q)⟩
  refine codeAny_call_function hr.depth (KX _ _ lk) rfl S.co S.gen rfl (PySem.W.codeRec_of KX hcd) (hbind _ _ _ _ ?_)
  refine wpAny_newFunctionEnv_cells S.kind hkind fun env he s1 hx => ?_
  subst he
  refine ⟨lim.keeps hx.toInCall.keep, codeAny_func ?_⟩
  have D := hb cdv A outer s H E (hr.deeper _) ⟨am.guards, am.low⟩
  have lsl : ls.length = N.length - ps.length := by
    have := congrArg List.length hls
    unfold norm at this
    rw [List.length_map, List.length_replicate] at this
    exact this
  have nls : norm (pm ++ ls) = norm (pm ++ List.replicate (N.length - ps.length) .sh) := by
    rw [norm_append, norm_append, hls]
    congr 1
    unfold norm
    rw [List.map_replicate]
    rfl
  have J : Inv (cxOf (L2N.CX P w) P w K mg base N qual scope f cdv A outer s H E) [] (L2.start N vs) H s1 := inv_start S hr.hd e0 hl rv hx
  -- the body's reading, from the promise
  have hq : tS K mg [] (pm ++ ls) ms' B ro fs (fun c d _ H => E c d H) { nx := fun _ H' => Q .non H', rt := Q } (L2.start N vs) H := by
    obtain ⟨I, ds, fp, st, r, fin, hF, q, b⟩ := hsp
    have hds : ds.length = ps.length := by
      have := st.sl.len
      rw [List.length_map, List.length_map] at this
      omega
    have s0 : St K (pm ++ ls) I (L2.start N vs) (ds.map some ++ List.replicate (N.length - ds.length) none) H fp := by
      refine ⟨st.ext, st.nd, st.off, ?_⟩
      have := st.sl.more (k := N.length - ps.length) (ls := ls) lsl
      unfold L2.start
      rw [hl, hds]
      exact this
    have kv : ∀ {σ' : L2.St}, Keep (pm ++ ls) (L2.start N vs) σ' → ∀ (i : Nat) (t : OT), pm[i]? = some (.ps t) → σ'[i]? = (vs.map some)[i]? := fun {σ'} kk i t hi => by
      have hlt : i < pm.length := (List.getElem?_eq_some_iff.mp hi).1
      rw [kk i t (by rw [List.getElem?_append_left hlt]; exact hi)]
      unfold L2.start
      rw [List.getElem?_append_left (by rw [List.length_map]; omega)]
    have vl : vs.length = pm.length := by omega
    unfold runF at hF
    cases hf : fs (ds.map some ++ List.replicate (N.length - ds.length) none) with
    | none => rw [hf] at hF; cases hF
    | some y =>
      obtain ⟨ry, ey⟩ := y
      rw [hf] at hF
      refine ⟨I, _, fp, s0, ry, ey, hf, fun z σ' H' I' fp' s' t' k' => ?_, fun z => ?_, fun z => ?_, fun d z v σ' H' I' fp' fv s' t' rvv nd off k' => ?_, fun e z c dd σ' H' I' fp' s' t' xx k' => ?_⟩
      · subst z
        cases hF
        have nmm := D.nm.trans nls
        obtain ⟨fp2, s2, c2⟩ := s'.maskB (xm := []) (by unfold compat; rfl)
        rw [nmm, maskB_norm nmm] at s2
        refine q _ rfl .non H' I' fp2 [] ⟨s2.ext, s2.nd, s2.off, fin_slots hn s2.sl vl (kv k')⟩ (t'.less c2) (.nl rfl .non) s2.nd fun p hp => by cases hp
      · subst z; cases hF
      · subst z; cases hF
      · subst z
        cases hF
        exact q d rfl v H' I' fp' fv ⟨s'.ext, s'.nd, s'.off, fin_slots hn (by have z := s'.sl; rw [nls, maskB_norm nls] at z; exact z) vl (kv k')⟩ t' rvv nd off
      · subst z
        cases hF
        exact b e rfl c dd H' I' fp' ⟨s'.ext, s'.nd, s'.off, fin_slots hn (by have z := s'.sl; rw [nls, maskB_norm nls] at z; exact z) vl (kv k')⟩ t' xx
  refine wpAny_mono ((D.run (fun c d _ H => E c d H) (takes_of rfl rfl rfl rfl)).run [] s1 (L2.start N vs) H _ J hq) (fun fl s' hs => ?_) fun e s' hs => hs
  have fin : ∀ {σ' : L2.St} {H' : Hp} {v : V} {u : Value}, Inv (cxOf (L2N.CX P w) P w K mg base N qual scope f cdv A outer s H E) [] σ' H' s' → RelV v u → Q v H' → L2.CE outer P w H s Q u s' :=
    fun {σ' H' v u} J rv q => ⟨v, H', J.os, J.bare, J.base, J.hok, rv, q⟩
  cases fl with
  | ret u =>
    obtain ⟨v, σ', H', J, rv, q⟩ := hs
    exact fin J rv q
  | next =>
    obtain ⟨σ', H', J, q⟩ := hs
    exact fin (v := V.non) (u := Value.none) J rfl q
  | brk =>
    obtain ⟨_, _, _, q⟩ := hs
    exact False.elim q
  | cont =>
    obtain ⟨_, _, _, q⟩ := hs
    exact False.elim q
/-- a weaker meaning -/
theorem FnG.imp {k : Nat} {ps : List Str} {sp sp' : Sp} (F : FnG P w K mg base k f fd ps sp) (h : ∀ vs H Q E, sp' vs H Q E → sp vs H Q E) : FnG P w K mg base k f fd ps sp' :=
  ⟨fun vs H Q E q => F.len vs H Q E (h _ _ _ _ q), fun A outer s H args us vs Q E hr am he hb hv hs => F.run A outer s H args us vs Q E hr am he hb hv (h _ _ _ _ hs)⟩
end
end DI
set_option Elab.async false
set_option autoImplicit false
set_option linter.all false
set_option maxRecDepth 100000
set_option maxHeartbeats 2000000
/-! DI12: a law's end. -/
namespace DI
open PySem PySem.Spec PyProof.Rows
open L2 hiding XE Takes Takes.imp CX XE.of_call XE.new XE.leave takes_of passes_call Sky.land MkP PMk ps_raise mk_of ps_try_as HdsOk ps_try_many pmk_own passAt takes_none5 takes0 passL mk_end pmk_oex
open L2N hiding St
theorem law_end {P : Program} {w : World} {K : PySem.W.Frag} {mg mb : Str → Option Value} {k : Nat} {fa a : Addr} {fd : FuncData} {x : Str} {F : FnD} {s₁ : Shared} {vs : List Value} {ns : List Int}
    (KX : K.In s₁.heap) (hns : s₁.heap.Ns mainGlobals mg) (hb : s₁.heap.Ns builtinsNs mb) (hbb : ∀ x : Str, x ≠ "__name__" → mb x = bootBuiltins x) (hlim : s₁.heap.NoLimit) (hg : s₁.gens = #[]) (hlow : sysModules < s₁.heap.objs.size)
    (ha : s₁.heap.get? a = some { cls := .type "list", data := .seq vs.toArray }) (hi : IntsAre vs ns) (hl : ns.length ≤ sizeLine) (hr : Room k callerA)
    (hF : ∀ base : Heap, K.In base → base.Ns mainGlobals mg → FnG P w K mg base k fa fd [x] (spF K mg [.sh] .sh F)) (hbind : ∀ (s : Shared) (u : Value), BindsTo s fd ⟨[u], []⟩ [(x, u)])
    (hm : ∃ fin, F [.scr ns] = some (.ok (.bl true), fin)) :
    codeAny (model P w) callerA (.call (.ref fa) ⟨[.ref a], []⟩) (fun r s' => r = .ok (.ret (.bool true)) ∧ OldK s₁.heap s'.heap ∧ s'.os = s₁.os ∧ AllBare s'.gens) s₁ := by
  have rv := vals_ints hi
  have lenV := hi.length
  have core : ∀ H : Hp, Only H → SqL K H a (ns.map V.int) → HOk P w H s₁.heap → (∀ b, H b ≠ none → b = a) → (H a ≠ none → K.lookup a = none) →
      codeAny (model P w) callerA (.call (.ref fa) ⟨[.ref a], []⟩) (fun r s' => r = .ok (.ret (.bool true)) ∧ OldK s₁.heap s'.heap ∧ s'.os = s₁.os ∧ AllBare s'.gens) s₁ := by
    intro H hO hS hok hA hK
    have base_of : ∀ {b : Addr} {o : Obj}, s₁.heap.get? b = some o → H b = none → (hidT s₁.heap H).get? b = some o := fun e n => hidT_get e n
    have noA : ∀ {b : Addr} {o : Obj} {es : Array DictEntry} {ep : Nat}, s₁.heap.get? b = some o → o.data = .dict es ep → H b = none := fun {b o es ep} e d => by
      cases q : H b with
      | none => rfl
      | some u =>
        have e' : b = a := hA b (by rw [q]; simp)
        subst e'
        rw [ha] at e; cases e
        have d' : Data.seq vs.toArray _ = Data.dict es ep := d
        cases d'
    have nsK : ∀ {b : Addr} {m : Str → Option Value}, s₁.heap.Ns b m → (hidT s₁.heap H).Ns b m := fun {b m} ⟨o, es, ep, e, d, r⟩ => ⟨o, es, ep, base_of e (noA e d), d, r⟩
    have hKb : K.In (hidT s₁.heap H) := fun b o e => base_of (KX b o e) (by
      cases q : H b with
      | none => rfl
      | some u =>
        have e' : b = a := hA b (by rw [q]; simp)
        subst e'
        rw [hK (by rw [q]; simp)] at e; cases e)
    have hM : Mod K mg (hidT s₁.heap H) := ⟨hKb, nsK hns, ⟨mb, nsK hb, hbb⟩, let ⟨mc, h1, h2⟩ := hlim; ⟨mc, nsK h1, h2⟩⟩
    have e0 : Env0 P w K mg (hidT s₁.heap H) callerA [] s₁ H := ⟨rfl, hM, fun b o e => of_hidT e, Nat.le_of_eq (hidT_size _ _), trivial, fun b hb => absurd (show b ∈ ([] : List Addr) from hb) (by simp), hok, .of_eq hg⟩
    have am : Amb callerA (hidT s₁.heap H) := ⟨rfl, by rw [hidT_size]; exact hlow⟩
    obtain ⟨fin, hm⟩ := hm
    have hsp : spF K mg [.sh] .sh F [.ref a] H (fun v _ => v = .bl true) fun _ _ _ => False := by
      refine ⟨H, [.scr ns], [], ⟨.refl _, List.nodup_nil, (fun p hp => by cases hp), Slots.som (m := .sh) (fp1 := []) (fp := []) (show RepM .sh K H H _ _ [] from ⟨.scr hS, rfl⟩) .nil⟩, _, fin, hm, fun d e v H' I' fp' fv _ _ rp _ _ => ?_, fun e z => by cases z⟩
      cases e
      cases rp.1
      rfl
    refine codeAny_mono ((hF _ hKb (nsK hns)).run callerA [] s₁ H ⟨[.ref a], []⟩ [.ref a] [.ref a] _ _ hr am e0 (hbind s₁ (.ref a)) (.cons rfl .nil) hsp) fun r s' h => ?_
    cases r with
    | error e =>
      obtain ⟨_, _, _, _, _, _, _, _, _, _, _, _, z⟩ := (show L2N.CX P w [] H s₁ (fun _ _ _ => False) e s' from h)
      exact z.elim
    | ok fl =>
      cases fl with
      | next => exact False.elim h
      | brk => exact False.elim h
      | cont => exact False.elim h
      | ret u =>
        obtain ⟨v, H', os, bare, un, hok', r', q⟩ := h
        have q' : v = .bl true := q
        subst q'
        obtain rfl : u = Value.bool true := r'
        refine ⟨rfl, OldK.of_keep fun b o e => ?_, os, bare⟩
        cases q : H b with
        | none => exact un.keep b o e q (by intro z; exact absurd (show b ∈ ([] : List Addr) from z) (by simp)) (by simp)
        | some u =>
          rcases hO b with z | ⟨ob, xs, z⟩
          · rw [q] at z; cases z
          · have z2 := un.frzs b ob _ z
            obtain ⟨e1, _⟩ := hok b _ z
            obtain ⟨e2, _⟩ := hok' b _ z2
            rw [e] at e1; cases e1
            exact e2
  cases hk : K.lookup a with
  | some o =>
    have e := KX a o hk
    rw [ha] at e
    cases e
    refine core (fun _ => none) (fun _ => .inl rfl) (.inr ⟨_, vs.toArray, _, hk, rfl, rfl, rfl, by rw [List.size_toArray, lenV]; exact hl, by simpa using rv⟩) (fun b u z => by have z' : (none : Option HO) = some u := z; cases z') (fun b z => absurd rfl z) fun z => absurd rfl z
  | none =>
    refine core (fun b => if b = a then some (.frz { cls := .type "list", data := .seq vs.toArray } (.lst (ns.map V.int))) else none) (fun b => ?_) (.inl (.inr ⟨{ cls := .type "list", data := .seq vs.toArray }, if_pos rfl⟩)) (fun b u z => ?_) (fun b z => ?_) fun _ => hk
    · by_cases hb : b = a
      · exact .inr ⟨_, _, if_pos hb⟩
      · exact .inl (if_neg hb)
    · by_cases hb : b = a
      · have z' := (if_pos hb).symm.trans z
        cases z'
        subst hb
        exact ⟨ha, by rw [List.length_map]; exact hl, vs, _, rv, ha⟩
      · have z' := (if_neg hb).symm.trans z
        cases z'
    · by_cases hb : b = a
      · exact hb
      · exact absurd (if_neg hb) z
/-- what a law's head leaves, from its meaning F -/
theorem walk_end {l : PySem.W.OpenLaw} {n k : Nat} {q : Program} {loose : List Str} {XP : (Str → Option Value) → Heap → Prop} {YP : World → Heap → Prop} {d : DefRec} {x : Str} (F : FnD)
    (hn : l.most = some n) (hn2 : n ≤ sizeLine) (hdf : d.params.defaults = []) (hr : Room k callerA) (hm : ∀ ns : List Int, ns.length ≤ n → ∃ fin, F [.scr ns] = some (.ok (.bl true), fin))
    (hF : ∀ (w : World) (mg : Str → Option Value) (fa : Addr) (h : Heap), YP w h → h.Ns mainGlobals mg → mg d.name = some (.ref fa) →
      ∃ (K : PySem.W.Frag) (fd : FuncData), K.In h ∧ (∀ (s : Shared) (u : Value), BindsTo s fd ⟨[u], []⟩ [(x, u)]) ∧
        ∀ base : Heap, K.In base → base.Ns mainGlobals mg → FnG l.prog w K mg base k fa fd [x] (spF K mg [.sh] .sh F)) :
    PySem.W.WalkO q loose XP YP l.row.toRowW d [] (fun f vs => PySem.call f vs) := by
  refine Att.attach_call hn hdf fun w s₀ s₁ mg mb fa o pm cd doc a vs ns G Y ho hd hcd hmg hobj hints hlen hg => ?_
  obtain ⟨K, fd, KX, hb, hF⟩ := hF w mg fa _ Y G.T.g hmg
  exact law_end KX G.T.g G.T.b G.T.builtins G.T.nolimit hg G.low hobj hints (Nat.le_trans hlen hn2) hr hF hb (hm ns hlen)
end DI
set_option Elab.async false
set_option autoImplicit false
set_option linter.all false
set_option maxRecDepth 100000
set_option maxHeartbeats 2000000
/-! DI13: repr, in, chained comparisons, names of the module. -/
namespace DI
open PySem PySem.Spec PyProof.Rows
open L2 hiding XE Takes Takes.imp CX XE.of_call XE.new XE.leave takes_of passes_call Sky.land MkP PMk ps_raise mk_of ps_try_as HdsOk ps_try_many pmk_own passAt takes_none5 takes0 passL mk_end pmk_oex
open L2N hiding St
/-! ### repr -/
def rRepr (K : PySem.W.Frag) : RL := fun xs H Q => ∃ x p, xs = [x] ∧ Dp K H x p ∧ p.showable = true ∧ p.hasDict = false ∧ p.depth ≤ 60 ∧ p.shown.length ≤ sizeLine ∧ Q (.str p.shown) H
section
variable {X : Cx}
theorem call_repr (hg : X.A.guards = some []) (hu : X.A.units + 64 < cLine) : CallR X (.builtin "repr") (rRepr X.K) := by
  intro pins s σ H xs us Q I r h
  obtain ⟨x, p, rfl, hd, hs, hh, hp, hz, q⟩ := h
  obtain ⟨u, rfl, ru⟩ := vals1 r
  obtain ⟨as, rd⟩ := Dp.reads I p x u hd ru
  cases hd with
  | non => cases rd; exact PySem.P.repr_of_none ⟨.str _, H, I.tok _, ⟨_, rfl⟩, q⟩
  | bl b =>
    cases rd
    exact PySem.P.repr_of_bool ⟨.str (PyData.bool b).shown, H, I.tok _, (by cases b <;> exact ⟨_, rfl⟩), q⟩
  | int i =>
    cases rd
    unfold PyData.showable at hs
    exact PySem.P.repr_of_int (of_decide_eq_true hs) ⟨.str _, H, I.tok _, ⟨_, rfl⟩, q⟩
  | str y =>
    cases rd
    exact PySem.P.repr_of_str (hsz := hz) ⟨.str _, H, I.tok _, ⟨_, rfl⟩, q⟩
  | lst h1 h2 =>
    cases rd with
    | list e1 e2 e3 e4 =>
      exact repr_of_reads' (.list e1 e2 e3 e4) hs (PyData.noDict_hsm hh) hg (by omega) (fun _ _ e => e) (fun h' u tk hk => ⟨.str _, H, I.kept hk, ⟨_, rfl⟩, q⟩) hz
  | tup h1 h2 =>
    cases rd with
    | tuple e1 e2 e3 e4 =>
      exact repr_of_reads' (.tuple e1 e2 e3 e4) hs (PyData.noDict_hsm hh) hg (by omega) (fun _ _ e => e) (fun h' u tk hk => ⟨.str _, H, I.kept hk, ⟨_, rfl⟩, q⟩) hz
end
def reprOf (d : D) : Option Str := match d.py with
  | some p => if p.showable = true ∧ p.hasDict = false ∧ p.depth ≤ 60 ∧ p.shown.length ≤ sizeLine then some p.shown else none
  | none => none
def gRepr : Prim
  | [d] => (reprOf d).map .str
  | _ => none
theorem gRepr_ok {K : PySem.W.Frag} : PrimOk K true (rRepr K) gRepr := by
  intro I H vs ds d Q e r g q1 q2 q3 q4
  unfold gRepr at g
  split at g
  · rename_i a
    obtain ⟨v, rfl, h1⟩ := rds1 r
    unfold reprOf at g
    split at g
    · rename_i p hp
      split at g
      · rename_i hc
        cases g
        exact ⟨v, p, rfl, h1.dp e hp, hc.1, hc.2.1, hc.2.2.1, hc.2.2.2, q1 _ (fun _ => rfl) (.str _)⟩
      · cases g
    · cases g
  · cases g
/-! ### in -/
def inD (a : D) (xs : List D) : Option Bool := match a.py, D.pys xs with
  | some p, some ps => if SeqAt.shaped p = true ∧ SeqAt.shaped (.list ps) = true then some (ps.any fun z => PyData.eqv z p) else none
  | _, _ => none
def gIn : Prim
  | [a, .lst xs] => (inD a xs).map .bl
  | _ => none
def gNotIn : Prim
  | [a, .lst xs] => (inD a xs).map fun b => .bl (!b)
  | _ => none
/-! ### a <= b <= c -/
def cChain (g g' : Prim) (fa fb fc : CE) : CE := fun env => mbind (fa env) fun x e => mbind (fb e) fun y e => match g [x, y] with
  | some (.bl true) => mbind (fc e) fun z e => pOut (g' [y, z]) e
  | some (.bl false) => some (.ok (.bl false), e)
  | _ => none
section
variable {X : Cx} {ms : List Md} {m : Md} {a b c : Expr} {fa fb fc : CE} {pos p : Pos} {g g' : Prim} {fr fr' : Bool} {r r' : R2} {op op' : CmpOp}
theorem chain_read {W : WX} {σ : L2.St} {H : Hp} {Q : VK} {mg : Str → Option Value} {K : PySem.W.Frag} (hp : PrimOk K true (rOf2 r) g) (hp' : PrimOk K true (rOf2 r') g') (hm : m.fl = true) (h : tE K mg ms m (cChain g g' fa fb fc) W σ H Q) :
    tChain r r' (tE K mg ms .sh fa W) (tE K mg ms .sh fb W) (tE K mg ms .sh fc W) σ H Q := by
  obtain ⟨I, env, fp, s, x, env', h1, q, b⟩ := h
  refine tE_then s h1 b fun d1 e1 v1 H1 I1 fp1 h2 s1 t1 r1 => ?_
  refine tE_then s1 h2 (fun e z => (b e z).back t1) fun d2 e2 v2 H2 I2 fp2 h3 s2 t2 r2 => ?_
  have r1' := r1.mono t2.ext
  have t12 := t1.trans t2
  cases hg : g [d1, d2] with
  | none => simp only [hg] at h3; cases h3
  | some z =>
    cases z with
    | bl k =>
      refine hp I2 H2 [v1, v2] [d1, d2] (.bl k) _ s2.ext (.cons (.of_rep s2.ext r1') (.cons (.of_rep s2.ext r2) .nil)) hg (fun v _ rv => ?_) (fun _ _ _ z => by cases z) (fun _ _ _ z => by cases z) (fun _ _ _ _ z => by cases z)
      cases rv
      refine ⟨k, rfl, ?_⟩
      cases k with
      | false =>
        simp only [hg] at h3
        cases h3
        simp only [Bool.false_eq_true, if_false]
        exact q _ rfl _ H2 I2 fp2 [] s2 t12 res_bl s2.nd fun p hp => by cases hp
      | true =>
        simp only [hg] at h3
        simp only [if_true]
        refine tE_then s2 h3 (fun e z => (b e z).back t12) fun d3 e3 v3 H3 I3 fp3 h4 s3 t3 r3 => ?_
        obtain ⟨d, g1, rfl, rfl⟩ := pOut_some h4
        obtain ⟨a1, a2, a3, a4⟩ := res_end hm (fr := true) (.inr rfl) s3 fun v H' I' fp' fv s' t' => q d rfl v H' I' fp' fv s' ((t12.trans t3).trans t')
        exact hp' I3 H3 [v2, v3] [d2, d3] d Q s3.ext (.cons (.of_rep s3.ext (r2.mono t3.ext)) (.cons (.of_rep s3.ext r3) .nil)) g1 a1 a2 a3 a4
    | _ => simp only [hg] at h3; cases h3
theorem de_chain (ho : OpR X (compareOp op) r) (ho' : OpR X (compareOp op') r') (hp : PrimOk X.K true (rOf2 r) g) (hp' : PrimOk X.K true (rOf2 r') g') (ha : DE X ms .sh a fa) (hb : DE X ms .sh b fb) (hc : DE X ms .sh c fc) (hm : m.fl = true := by rfl)
    (hk : lastMarks [op, op'] [b, c] = false := by with_unfolding_all rfl) : DE X ms m (.Compare a [op, op'] [b, c] pos) (cChain g g' fa fb fc) := fun W tk => pe_imp (pe_chain ho ho' (ha W tk) (hb W tk) (hc W tk) hk) fun σ H Q h => chain_read hp hp' hm h
/-! ### names of the module -/
theorem de_gInt {x : Str} {i : Int} (hg : Gl X x) (h : ∃ t, X.mg x = some (.int i t)) (hm : m.fl = true := by rfl) (hd : (x == ("__debug__" : Str)) = false := by decide) : DE X ms m (.Name x pos) (cK (.int i)) := by
  obtain ⟨t, h⟩ := h
  exact de_const (pe_glob (v := .int i) hg h ⟨t, rfl⟩ hd) (fun _ => .int i) rfl
theorem de_ty {x : Str} {n : String} (hg : Gl X x) (h : X.mg x = none) (hv : bootBuiltins x = some (.type n)) (hm : m.fl = true := by rfl) (hn : x ≠ "__name__" := by decide) (hd : (x == ("__debug__" : Str)) = false := by decide) : DE X ms m (.Name x pos) (cK (.ty n)) :=
  de_const (pe_bltn (v := .ty n) hg h hv rfl hn hd) (fun _ => .ty n) rfl
end
end DI
set_option Elab.async false
set_option autoImplicit false
set_option linter.all false
set_option maxRecDepth 100000
set_option maxHeartbeats 2000000
/-! DI14: how calls bind; the body's slots from any modes; slots forgotten. -/
namespace DI
open PySem PySem.Spec PyProof.Rows
open L2 hiding XE Takes Takes.imp CX XE.of_call XE.new XE.leave takes_of passes_call Sky.land MkP PMk ps_raise mk_of ps_try_as HdsOk ps_try_many pmk_own passAt takes_none5 takes0 passL mk_end pmk_oex
open L2N hiding St
section
variable {K : PySem.W.Frag} {x qual : Str} {params : Arguments} {body : List Stmt} {scope : Scope} {dvs : List V} {kws : List (Str × V)} {f : Addr} {fd : FuncData} {ps : List Str}
theorem cb_0 (F : FunD K x qual params body scope [] kws f fd) (n : Nat) (ks : List Str) (perm : List Nat)
    (h : ∀ (kV doc pm : Value) (an : Option Addr) (cdv ct : Value) (us ws : List Value), us.length = n → ws.length = ks.length → bindArgs (PySem.W.fnOf x qual params body scope .none kV doc pm an cdv ct) ⟨us, ks.zip ws⟩ = pure (ps.zip (sel perm (us ++ ws ++ [])))) : CallB K fd ps n ks perm [] := by
  obtain ⟨oc, od, dV, kV, doc, pm, an, cdv, ct, osl, rfl, lk, hcd, hD, hK⟩ := F.ex
  rcases hD with ⟨_, rfl⟩ | ⟨e, _⟩
  · exact ⟨[], .nil, fun s us ws X l1 l2 => .of_eq (h kV doc pm an cdv ct us ws l1 l2)⟩
  · exact absurd rfl e
theorem cb_d (F : FunD K x qual params body scope dvs kws f fd) (n : Nat) (ks : List Str) (perm : List Nat) (hd : dvs ≠ [])
    (h : ∀ (T : Addr) (kV doc pm : Value) (an : Option Addr) (cdv ct : Value) (us ws its : List Value), us.length = n → ws.length = ks.length → its.length = dvs.length →
      ∃ k, bindArgs (PySem.W.fnOf x qual params body scope (.ref T) kV doc pm an cdv ct) ⟨us, ks.zip ws⟩ = seqItems? (.ref T) >>= k ∧ k (some its.toArray) = pure (ps.zip (sel perm (us ++ ws ++ its)))) : CallB K fd ps n ks perm dvs := by
  obtain ⟨oc, od, dV, kV, doc, pm, an, cdv, ct, osl, rfl, lk, hcd, hD, hK⟩ := F.ex
  rcases hD with ⟨e, _⟩ | ⟨_, T, o, its, m, rfl, lT, oT, rT⟩
  · exact absurd e hd
  · refine ⟨its, rT, fun s us ws X l1 l2 => ?_⟩
    obtain ⟨k, e1, e2⟩ := h T kV doc pm an cdv ct us ws its l1 l2 rT.length.symm
    refine BindsTo.of_looks fun M => ?_
    rw [e1]
    exact looks_items X lT oT (PySem.W.Looks.of_pure e2)
end
/-! ### slots forgotten -/
theorem Slots.forget {K : PySem.W.Frag} {I H : Hp} : ∀ {ms : List Md} {σ : L2.St} {env : Env} {fp : List Addr} (i : Nat) (m : Md), Slots K I H ms σ env fp → ∃ fp', Slots K I H (ms.set i m) σ (env.set i none) fp' ∧ fp'.Sublist fp
  | _, _, _, _, _, _, .nil => ⟨[], .nil, .slnil⟩
  | _, _, _, fp, 0, _, .non s => ⟨fp, .non s, .refl _⟩
  | _, _, _, _, 0, _, .som (fp := fp) h s => ⟨fp, .non s, List.sublist_append_right _ _⟩
  | _, _, _, _, i + 1, m, .non s => by
    obtain ⟨fp', a, b⟩ := s.forget i m
    exact ⟨fp', .non a, b⟩
  | _, _, _, _, i + 1, m, .som (fp1 := f1) h s => by
    obtain ⟨fp', a, b⟩ := s.forget i m
    exact ⟨f1 ++ fp', .som h a, b.append_left _⟩
def cForget (i : Nat) (f : CS) : CS := fun env => f (env.set i none)
section
variable {X : Cx} {xm : List Bool} {ms ms' B : List Md} {ro : Md} {sts : List Stmt} {st : Stmt} {f : CS}
/-- a slot that is not looked at any more gets another mode -/
theorem dss_forget (i : Nat) (m : Md) (hp : notPr ms i = true) (hm : m.par = false) (hx : xm = []) (h : DSs X xm (ms.set i m) ms' B ro sts f) : DSs X xm ms ms' B ro sts (cForget i f) := by
  obtain ⟨m0, g1, g2, g3⟩ := notPr_some hp
  have nm1 : norm (ms.set i m) = norm ms := norm_set g1 g2 hm
  subst hx
  refine ⟨h.nm.trans nm1, fun W tk => pss_imp (h.run W tk) fun D σ H h' => ?_⟩
  obtain ⟨I, env, fp, s, r, env', h1, q1, q2, q3, q4, q5⟩ := h'
  obtain ⟨fp1, a2, b⟩ := s.sl.forget i m
  have c : ∀ p ∈ fp1, p ∈ fp := fun p hp => b.subset hp
  have t1 : Step I H fp I H fp1 := (Step.refl _ _ _).less c
  refine ⟨I, env.set i none, fp1, ⟨s.ext, s.nd.sublist b, fun p hp => s.off p (c p hp), a2⟩, r, env', h1, fun z σ' H' I' fp' s' t' k' => q1 z σ' H' I' fp' s' (t1.trans t') (Keep.trans nm1 (Keep.refl _ _) k'), fun z σ' H' I' fp' s' t' k' => q2 z σ' H' I' fp' s' (t1.trans t') (Keep.trans nm1 (Keep.refl _ _) k'),
    fun z σ' H' I' fp' s' t' k' => q3 z σ' H' I' fp' s' (t1.trans t') (Keep.trans nm1 (Keep.refl _ _) k'), fun d z v σ' H' I' fp' fv s' t' rv nd off k' => q4 d z v σ' H' I' fp' fv (by rw [← nm1, ← maskB_norm nm1]; exact s') (t1.trans t') rv nd off (Keep.trans nm1 (Keep.refl _ _) k'), fun e z => (q5 e z).back nm1 t1 (Keep.refl _ _)⟩
end
/-! ### x op= e, of ints -/
def gAddI : Prim
  | [.int a, .int b] => some (.int (a + b))
  | _ => none
def gSubI : Prim
  | [.int a, .int b] => some (.int (a - b))
  | _ => none
def gMulI : Prim
  | [.int a, .int b] => if (-(2 ^ 64) < a ∧ a < 2 ^ 64) ∨ (-(2 ^ 64) < b ∧ b < 2 ^ 64) then some (.int (a * b)) else none
  | _ => none
def gFdivI : Prim
  | [.int a, .int b] => if 0 < b ∧ b < 1073741824 then some (.int (a / b)) else none
  | _ => none
def gModI : Prim
  | [.int a, .int b] => if 0 < b then some (.int (a % b)) else none
  | _ => none
theorem rds_int2 {K : PySem.W.Frag} {I H : Hp} {vs : List V} {a b : Int} (r : Rds K I H vs [.int a, .int b]) : vs = [.int a, .int b] := by
  obtain ⟨v, w, rfl, h1, h2⟩ := rds2 r
  cases (show Rep K I v (.int a) from h1)
  cases (show Rep K I w (.int b) from h2)
  rfl
theorem gSubI_ok {K : PySem.W.Frag} : PrimOk K true (rOf2 (rI0 fun i j => .int (i - j))) gSubI := by
  intro I H vs ds d Q e r g q1 q2 q3 q4
  unfold gSubI at g
  split at g
  · cases g; obtain rfl := rds_int2 r; exact ⟨_, _, rfl, rfl, q1 _ (fun _ => rfl) (.int _)⟩
  · cases g
theorem gModI_ok {K : PySem.W.Frag} : PrimOk K true (rOf2 (rI (fun _ j => 0 < j) fun i j => .int (i % j))) gModI := by
  intro I H vs ds d Q e r g q1 q2 q3 q4
  unfold gModI at g
  split at g
  · split at g
    · rename_i h; cases g; obtain rfl := rds_int2 r; exact ⟨_, _, rfl, rfl, h, q1 _ (fun _ => rfl) (.int _)⟩
    · cases g
  · cases g
/-! ### what the head says -/
abbrev defF (st : Stmt) (dvs : List V) (K : PySem.W.Frag) (x : Str) (f : Addr) (fd : FuncData) : Prop := FunD K x x (defArgs st) (defBody st) (defScope st) dvs [] f fd
end DI
set_option Elab.async false
set_option autoImplicit false
set_option linter.all false
set_option maxRecDepth 100000
set_option maxHeartbeats 2000000
/-! DI15: a list of one's own that an expression only reads. -/
namespace DI
open PySem PySem.Spec PyProof.Rows
open L2 hiding XE Takes Takes.imp CX XE.of_call XE.new XE.leave takes_of passes_call Sky.land MkP PMk ps_raise mk_of ps_try_as HdsOk ps_try_many pmk_own passAt takes_none5 takes0 passL mk_end pmk_oex
open L2N hiding St
/-- a slot behind the expression: gone, flat, or as before -/
def okSlot (m : Md) (o o' : Option D) : Prop := o' = none ∨ (∃ d, o' = some d ∧ flatB m d = true) ∨ (m = .sh ∧ o' = o)
def okSlots (i : Nat) : List Md → Env → Env → Prop
  | m :: ms, o :: e, o' :: e' => (match i with
    | 0 => okSlots1 ms e e'
    | j + 1 => okSlot m o o' ∧ okSlots j ms e e')
  | [], [], [] => True
  | _, _, _ => False
where okSlots1 : List Md → Env → Env → Prop
  | m :: ms, o :: e, o' :: e' => okSlot m o o' ∧ okSlots1 ms e e'
  | [], [], [] => True
  | _, _, _ => False
open Classical in
noncomputable def cBor (ms : List Md) (i : Nat) (f : CE) : CE := fun env => match getS env i with
  | some (.lst ds) => (match f env with
    | some (.ok d, e) => if d.atom = true ∧ okSlots i ms env e then some (.ok d, e.set i (some (.lst ds))) else none
    | _ => none)
  | _ => none
section
variable {K : PySem.W.Frag} {I I' H H' : Hp} {a : Addr}
/-- what held a is taken out -/
def less (I : Hp) (a : Addr) : Hp := fun c => if c = a then none else I c
end
section
variable {K : PySem.W.Frag} {I H : Hp}
theorem Slots.bor : ∀ {i : Nat} {ms : List Md} {σ : L2.St} {env : Env} {fp : List Addr} {ds : List D}, Slots K I H ms σ env fp → ms[i]? = some .ow → env[i]? = some (some (.lst ds)) →
    ∃ a xs fp1, σ[i]? = some (some (.ref a)) ∧ H a = some (.lst xs) ∧ Reps K I xs ds ∧ fp.Perm (a :: fp1) ∧ (I a = none → Slots K (upd I a (.lst xs)) H (ms.set i .sh) σ env fp1)
  | i, _, _, _, _, _, .nil, h, _ => by simp at h
  | 0, _, _, _, _, _, .non s, h, e => by simp at e
  | 0, _, _, _, _, _, .som (m := m) (v := v) (d := d) (fp := fp) (fp1 := f0) q s, h, e => by
    simp at h; subst h
    simp at e; subst e
    rcases repM_ow.mp q with ⟨a, b, rfl⟩ | ⟨a, xs, ds', rfl, z, h1, h2, rfl⟩
    · cases a
    · cases z
      exact ⟨a, xs, fp, rfl, h1, h2, .refl _, fun na => .som (fp1 := []) (m := .sh) ⟨.lst upd_same (h2.mono (.new na)), rfl⟩ (s.move (.new na) fun p hp o ho => ho)⟩
  | i + 1, _, _, _, _, _, .non s, h, e => by
    obtain ⟨a, xs, fp1, a1, a2, a3, a4, a5⟩ := s.bor (i := i) (by simpa using h) (by simpa using e)
    exact ⟨a, xs, fp1, by simpa using a1, a2, a3, a4, fun na => .non (a5 na)⟩
  | i + 1, _, _, _, _, _, .som (fp1 := f0) q s, h, e => by
    obtain ⟨a, xs, fp1, a1, a2, a3, a4, a5⟩ := s.bor (i := i) (by simpa using h) (by simpa using e)
    exact ⟨a, xs, f0 ++ fp1, by simpa using a1, a2, a3, (a4.append_left f0).trans List.perm_middle, fun na => .som (q.move (.new na) fun p hp o ho => ho) (a5 na)⟩
end
section
variable {X : Cx} {ms : List Md} {e : Expr} {f : CE} {i : Nat}
end
/-! ### a def that calls itself -/
end DI
set_option Elab.async false
set_option autoImplicit false
set_option linter.all false
set_option maxRecDepth 100000
set_option maxHeartbeats 2000000
/-! DI16: e[::-1]. -/
namespace DI
open PySem PySem.Spec PyProof.Rows
open L2 hiding XE Takes Takes.imp CX XE.of_call XE.new XE.leave takes_of passes_call Sky.land MkP PMk ps_raise mk_of ps_try_as HdsOk ps_try_many pmk_own passAt takes_none5 takes0 passL mk_end pmk_oex
open L2N hiding St
def gRev : Prim
  | [.lst ds] => some (.lst ds.reverse)
  | _ => none
section
variable {X : Cx} {ms : List Md} {m : Md} {e : Expr} {o : Opd}
end
end DI
set_option Elab.async false
set_option autoImplicit false
set_option linter.all false
set_option maxRecDepth 100000
set_option maxHeartbeats 2000000
/-! DI17: own lists of own lists: displays, read, changed in place; a call's mode. -/
namespace DI
open PySem PySem.Spec PyProof.Rows
open L2 hiding XE Takes Takes.imp CX XE.of_call XE.new XE.leave takes_of passes_call Sky.land MkP PMk ps_raise mk_of ps_try_as HdsOk ps_try_many pmk_own passAt takes_none5 takes0 passL mk_end pmk_oex
open L2N hiding St
/-! ### displays of what is one's own -/
section
variable (K : PySem.W.Frag) (mg : Str → Option Value) (ms : List Md)
def tEs (m : Md) (W : WX) : List Opd → TA
  | [] => tNil
  | .tm f :: fs => tCons (tE K mg ms m f W) (tEs m W fs)
  | .vr i :: fs => tCons (tVar i) (tEs m W fs)
end
inductive DEs (X : Cx) (ms : List Md) (m : Md) : List Expr → List Opd → Prop
  | nil : DEs X ms m [] []
  | cons {e : Expr} {es : List Expr} {f : CE} {fs : List Opd} : DE X ms m e f → DEs X ms m es fs → starEach (e :: es) X.env = (false, eval e X.env) :: starEach es X.env → DEs X ms m (e :: es) (.tm f :: fs)
theorem DEs.tm {X : Cx} {ms : List Md} {m : Md} {es : List Expr} {fs : List Opd} (h : DEs X ms m es fs) : fs.all Opd.isTm = true := by
  induction h with
  | nil => rfl
  | cons _ _ _ ih => simpa [Opd.isTm] using ih
theorem DEs.pa {X : Cx} {ms : List Md} {m : Md} {es : List Expr} {fs : List Opd} {W : WX} (h : DEs X ms m es fs) (tk : Takes X W) : PA X es (tEs X.K X.mg ms m W fs) := by
  induction h with
  | nil => exact pa_nil
  | cons h1 _ h3 ih => exact pa_cons (h1 W tk) ih h3
section
variable {K : PySem.W.Frag} {mg : Str → Option Value} {ms : List Md} {I I1 I2 H H1 H2 : Hp} {W : WX} {σ : L2.St} {env env' : Env} {fp fp1 fp2 g : List Addr}
theorem RepOs.len : ∀ {t : OT} {v : List V} {d : List D} {fp : List Addr}, RepOs K I H t v d fp → v.length = d.length
  | _, _, _, _, .nil => rfl
  | _, _, _, _, .cons _ b => congrArg (· + 1) b.len
theorem Step.frame (t : Step I1 H1 fp1 I2 H2 fp2) : Step I1 H1 (g ++ fp1) I2 H2 (g ++ fp2) where
  ext := t.ext
  keep := fun b o h hb => t.keep b o h fun z => hb (List.mem_append_right _ z)
  own := fun p hp => by
    rcases List.mem_append.mp hp with z | z
    · exact .inl (List.mem_append_left _ z)
    · exact (t.own p z).imp_left (List.mem_append_right _)
  gr := fun b hb => by
    rcases t.gr b hb with z | z | z
    · exact .inl z
    · exact .inr (.inl (List.mem_append_right _ z))
    · exact .inr (.inr z)
end
section
variable {X : Cx} {ms : List Md} {e : Expr} {es : List Expr} {f : CE} {fs : List Opd} {pos p apos cpos : Pos} {i : Nat}
end
/-! ### read while it is one's own -/
def OT.lists : OT → Bool
  | .l0 => true
  | .ls t => t.lists
  | .ob _ _ _ => false
section
variable {K : PySem.W.Frag} {I I' H H' : Hp}
mutual
theorem RepO.lsts : ∀ {t : OT} {v : V} {d : D} {fp : List Addr}, RepO K I H t v d fp → t.lists = true → ∀ p ∈ fp, ∃ xs, H p = some (.lst xs)
  | _, _, _, _, .nl a b, _, p, hp => by cases hp
  | _, _, _, _, .l0 a b, _, p, hp => by simp at hp; subst hp; exact ⟨_, a⟩
  | _, _, _, _, .ls a b, ht, p, hp => by
    rcases List.mem_cons.mp hp with rfl | hp
    · exact ⟨_, a⟩
    · exact RepOs.lsts b ht p hp
  | _, _, _, _, .ob a b l c, ht, p, hp => by cases ht
theorem RepOs.lsts : ∀ {t : OT} {v : List V} {d : List D} {fp : List Addr}, RepOs K I H t v d fp → t.lists = true → ∀ p ∈ fp, ∃ xs, H p = some (.lst xs)
  | _, _, _, _, .nil, _, p, hp => by cases hp
  | _, _, _, _, .cons a b, ht, p, hp => (List.mem_append.mp hp).elim (RepO.lsts a ht p) (RepOs.lsts b ht p)
end
mutual
theorem RepO.all (e : Ext I I') : ∀ {t : OT} {v : V} {d : D} {fp : List Addr}, RepO K I H t v d fp → t.lists = true → (∀ p ∈ fp, ∀ o, H p = some o → I' p = some o) → Rep K I' v d
  | _, _, _, _, .nl a b, _, _ => b.mono e
  | _, _, _, _, .l0 a b, _, k => .lst (k _ (by simp) _ a) (b.mono e)
  | _, _, _, _, .ls a b, ht, k => .lst (k _ (by simp) _ a) (RepOs.all e b ht fun p hp => k p (List.mem_cons_of_mem _ hp))
  | _, _, _, _, .ob a b l c, ht, k => by cases ht
theorem RepOs.all (e : Ext I I') : ∀ {t : OT} {v : List V} {d : List D} {fp : List Addr}, RepOs K I H t v d fp → t.lists = true → (∀ p ∈ fp, ∀ o, H p = some o → I' p = some o) → Reps K I' v d
  | _, _, _, _, .nil, _, _ => .nil
  | _, _, _, _, .cons a b, ht, k => .cons (RepO.all e a ht fun p hp => k p (List.mem_append_left _ hp)) (RepOs.all e b ht fun p hp => k p (List.mem_append_right _ hp))
end
def lessF (I : Hp) (f : List Addr) : Hp := fun c => if c ∈ f then none else I c
def moreF (I H : Hp) (f : List Addr) : Hp := fun c => if c ∈ f then H c else I c
variable {f : List Addr}
end
section
variable {X : Cx} {ms : List Md} {e : Expr} {f : CE} {i : Nat}
end
/-! ### x[k].append(j) -/
def cMutK (i k : Nat) (g : List D → List D → Option (D × List D)) (j : Int) : CE := fun env => match getS env i with
  | some (.lst xs) => match xs[k]? with
    | some (.lst ys) => match g ys [.int j] with
      | some (d, ys') => some (.ok d, env.set i (some (.lst (xs.set k (.lst ys')))))
      | none => none
    | _ => none
  | _ => none
section
variable {K : PySem.W.Frag} {I I' H H' : Hp}
end
section
variable {X : Cx} {xm : List Bool} {ms B : List Md} {ro : Md} {e a : Expr} {es : List Expr} {fe fx : CE} {os : List Opd} {pos p q apos cpos : Pos} {W : WX}
end
/-! ### a call's mode where nothing is lent -/
section
variable {X : Cx} {ms : List Md} {m ro ro' : Md} {e : Expr} {F : FnD} {kinds : List AK} {perm : List Nat} {dds : List D} {os : List Opd}
theorem cCall_ro (h : noBo kinds = true) : cCall F kinds ro perm dds os = cCall F kinds ro' perm dds os := by
  unfold cCall callOut okBo
  simp [h]
theorem de_ro (k : DE X ms m e (cCall F kinds ro perm dds os)) (h : noBo kinds = true := by rfl) : DE X ms m e (cCall F kinds ro' perm dds os) := by
  rw [cCall_ro (ro' := ro) h]; exact k
end
end DI
set_option Elab.async false
set_option autoImplicit false
set_option linter.all false
set_option maxRecDepth 100000
set_option maxHeartbeats 2000000
/-! DI18: list(range(..)). -/
namespace DI
open PySem PySem.Spec PyProof.Rows
open L2 hiding XE Takes Takes.imp CX XE.of_call XE.new XE.leave takes_of passes_call Sky.land MkP PMk ps_raise mk_of ps_try_as HdsOk ps_try_many pmk_own passAt takes_none5 takes0 passL mk_end pmk_oex
open L2N hiding St
open Classical in
noncomputable def gLR1 : Prim
  | [.int n] => if RgOk 0 n then some (.lst (rangeD 0 n.toNat)) else none
  | _ => none
open Classical in
noncomputable def gLR2 : Prim
  | [.int a, .int b] => if RgOk a b then some (.lst (rangeD a (b - a).toNat)) else none
  | _ => none
def rLR1 : RL := fun vs H Q => match vs with
  | [x] => ∃ n, x = .int n ∧ RgOk 0 n ∧ ∀ q, H q = none → Q (.ref q) (upd H q (.lst (rgV 0 n)))
  | _ => False
def rLR2 : RL := fun vs H Q => match vs with
  | [x, y] => ∃ i j, x = .int i ∧ y = .int j ∧ RgOk i j ∧ ∀ q, H q = none → Q (.ref q) (upd H q (.lst (rgV i j)))
  | _ => False
section
variable {X : Cx} {ms : List Md} {m : Md} {a b : Expr} {oa ob : Opd} {p q pos pos2 : Pos}
end
end DI
set_option Elab.async false
set_option autoImplicit false
set_option linter.all false
set_option maxRecDepth 100000
set_option maxHeartbeats 2000000
/-! DI19: a, b, c = e1, e2, e3; x = y where y is one's own. -/
namespace DI
open PySem PySem.Spec PyProof.Rows
open L2 hiding XE Takes Takes.imp CX XE.of_call XE.new XE.leave takes_of passes_call Sky.land MkP PMk ps_raise mk_of ps_try_as HdsOk ps_try_many pmk_own passAt takes_none5 takes0 passL mk_end pmk_oex
open L2N hiding St
section
variable {K : PySem.W.Frag} {mg : Str → Option Value} {ms : List Md} {I I1 I2 I3 H H1 H2 H3 : Hp} {W : WX} {σ : L2.St} {env env' : Env} {fp fp1 fp2 fp3 : List Addr}
end
def cPar3 (i j l : Nat) (f1 f2 f3 : CE) : CS := fun env => mbind (f1 env) fun d e => mbind (f2 e) fun d2 e2 => mbind (f3 e2) fun d3 e3 => some (.ok .nx, ((e3.set i (some d)).set j (some d2)).set l (some d3))
section
variable {X : Cx} {xm : List Bool} {ms B : List Md} {ro : Md} {a b c : Expr} {fa fb fc : CE} {pos : Pos}
end
/-! ### x = y, y not read again -/
def cMov (i j : Nat) : CS := fun env => match getS env j with
  | some d => some (.ok .nx, (env.set j none).set i (some d))
  | none => none
section
variable {K : PySem.W.Frag} {I H : Hp}
theorem Slots.take : ∀ {i : Nat} {ms : List Md} {σ : L2.St} {env : Env} {fp : List Addr} {d : D}, Slots K I H ms σ env fp → env[i]? = some (some d) →
    ∃ m v f fp', ms[i]? = some m ∧ σ[i]? = some (some v) ∧ RepM m K I H v d f ∧ Slots K I H ms σ (env.set i none) fp' ∧ fp.Perm (f ++ fp')
  | i, _, _, _, _, _, .nil, h => by simp at h
  | 0, _, _, _, _, _, .non s, e => by simp at e
  | 0, _, _, _, _, _, .som (m := m) (v := v) (fp := fp) (fp1 := f0) q s, e => by
    simp at e; subst e
    exact ⟨m, v, f0, fp, rfl, rfl, q, .non s, .refl _⟩
  | i + 1, _, _, _, _, _, .non s, e => by
    obtain ⟨m, v, f, fp', a1, a2, a3, a4, a5⟩ := s.take (i := i) (by simpa using e)
    exact ⟨m, v, f, fp', by simpa using a1, by simpa using a2, a3, .non a4, a5⟩
  | i + 1, _, _, _, _, _, .som (fp1 := f0) q s, e => by
    obtain ⟨m, v, f, fp', a1, a2, a3, a4, a5⟩ := s.take (i := i) (by simpa using e)
    exact ⟨m, v, f, f0 ++ fp', by simpa using a1, by simpa using a2, a3, .som q a4, (a5.append_left f0).trans (by rw [← List.append_assoc, ← List.append_assoc]; exact List.perm_append_comm.append_right _)⟩
end
section
variable {X : Cx} {xm : List Bool} {ms B : List Md} {ro : Md} {pos py : Pos}
end
end DI
set_option Elab.async false
set_option autoImplicit false
set_option linter.all false
set_option maxRecDepth 100000
set_option maxHeartbeats 2000000
/-! DI20: a, b = a list. -/
namespace DI
open PySem PySem.Spec PyProof.Rows
open L2 hiding XE Takes Takes.imp CX XE.of_call XE.new XE.leave takes_of passes_call Sky.land MkP PMk ps_raise mk_of ps_try_as HdsOk ps_try_many pmk_own passAt takes_none5 takes0 passL mk_end pmk_oex
open L2N hiding St
def putL (is : List Nat) (d : D) (e : Env) : Option Env := match d with
  | .lst ds => putEs is ds e
  | _ => none
def cUnpL (is : List Nat) (f : CE) : CS := fun env => mbind (f env) fun d e => match putL is d e with
  | some e1 => some (.ok .nx, e1)
  | none => none
section
variable {X : Cx} {xm : List Bool} {ms B : List Md} {ro : Md} {e : Expr} {fe : CE} {pos : Pos}
end
end DI
set_option Elab.async false
set_option autoImplicit false
set_option linter.all false
set_option maxRecDepth 100000
set_option maxHeartbeats 2000000
/-! DI21: the deck's draw: pool = deck[0][deck[1] % len(deck[0])], deck[1] = deck[1] + 1, and the rest changes pool. -/
namespace DI
open PySem PySem.Spec PyProof.Rows
open L2 hiding XE Takes Takes.imp CX XE.of_call XE.new XE.leave takes_of passes_call Sky.land MkP PMk ps_raise mk_of ps_try_as HdsOk ps_try_many pmk_own passAt takes_none5 takes0 passL mk_end pmk_oex
open L2N hiding St
def cDraw (i j : Nat) (fr : CS) : CS := fun env => match getS env i with
  | some (.lst [.lst pools, .int c]) => if 0 < pools.length then (match pools[(c % (pools.length : Int)).toNat]? with
    | some (.lst ys) => (match fr ((env.set i none).set j (some (.lst ys))) with
      | some (.ok (.rt d), e) => (match getS e j with
        | some (.lst ys') => some (.ok (.rt d), (e.set i (some (.lst [.lst (pools.set (c % (pools.length : Int)).toNat (.lst ys')), .int (c + 1)]))).set j none)
        | _ => none)
      | _ => none)
    | _ => none) else none
  | _ => none
section
variable {K : PySem.W.Frag} {I I' H H' : Hp}
theorem RepOs.at : ∀ {k : Nat} {vs : List V} {xs : List D} {fp : List Addr} {ys : List D}, RepOs K I H .l0 vs xs fp → xs[k]? = some (.lst ys) →
    ∃ b ws fr, vs[k]? = some (.ref b) ∧ H b = some (.lst ws) ∧ Reps K I ws ys ∧ fp.Perm (b :: fr) ∧ ∀ I' H' ys', Ext I I' → (∀ p ∈ fr, ∀ o, H p = some o → H' p = some o) → RepO K I' H' .l0 (.ref b) (.lst ys') [b] → RepOs K I' H' .l0 vs (xs.set k (.lst ys')) fp
  | _, _, _, _, _, .nil, e => by simp at e
  | 0, _, _, _, _, .cons (f := f) (fp := fp) h r, e => by
    simp at e; subst e
    rcases repO_l0.mp h with ⟨z, _⟩ | ⟨b, ws, ds, rfl, e1, h1, h2, rfl⟩
    · cases z
    · cases e1
      exact ⟨b, ws, fp, rfl, h1, h2, .refl _, fun I' H' ys' ex k nr => .cons nr (r.move ex k)⟩
  | k + 1, _, _, _, _, .cons (f := f) (fp := fp) h r, e => by
    obtain ⟨b, ws, fr, a1, a2, a3, a4, a5⟩ := r.at (k := k) (by simpa using e)
    exact ⟨b, ws, f ++ fr, by simpa using a1, a2, a3, (a4.append_left f).trans List.perm_middle, fun I' H' ys' ex k nr => .cons (h.move ex fun p hp o ho => k p (List.mem_append_left _ hp) o ho) (a5 I' H' ys' ex (fun p hp o ho => k p (List.mem_append_right _ hp) o ho) nr)⟩
theorem Slots.mode {m' : Md} : ∀ {j : Nat} {ms : List Md} {σ : L2.St} {env : Env} {fp : List Addr}, Slots K I H ms σ env fp → env[j]? = some none → Slots K I H (ms.set j m') σ env fp
  | j, _, _, _, _, .nil, h => by simp at h
  | 0, _, _, _, _, .non s, h => .non s
  | 0, _, _, _, _, .som q s, h => by simp at h
  | j + 1, _, _, _, _, .non s, h => .non (s.mode (by simpa using h))
  | j + 1, _, _, _, _, .som q s, h => .som q (s.mode (by simpa using h))
end
abbrev deckT : OT := .ls (.ls .l0)
section
variable {K : PySem.W.Frag} {mg : Str → Option Value} {xm : List Bool} {ms ms' B : List Md} {ro : Md} {W : WX} {D : Ends} {σ : L2.St} {H : Hp} {i j : Nat} {fr : CS}
def tDeckIx (K : PySem.W.Frag) (i : Nat) (k : Int) : TE := tOp (rIx K) (tVar i) (tC (.int k))
end
end DI
set_option Elab.async false
set_option autoImplicit false
set_option linter.all false
set_option maxRecDepth 100000
set_option maxHeartbeats 2000000
/-! DI22: what is one's own taken out of a slot; own items appended; the deck's draw as statements. -/
namespace DI
open PySem PySem.Spec PyProof.Rows
open L2 hiding XE Takes Takes.imp CX XE.of_call XE.new XE.leave takes_of passes_call Sky.land MkP PMk ps_raise mk_of ps_try_as HdsOk ps_try_many pmk_own passAt takes_none5 takes0 passL mk_end pmk_oex
open L2N hiding St
/-- a slot's own value, that is not read there again -/
def cTake (j : Nat) : CE := fun env => match getS env j with
  | some d => some (.ok d, env.set j none)
  | none => none
section
variable {X : Cx} {ms : List Md} {pos p apos cpos : Pos} {e : Expr} {fe : CE}
end
section
variable {X : Cx} {ms : List Md} {pos p apos cpos : Pos} {e : Expr} {fe : CE}
end
section
variable {X : Cx} {xm : List Bool} {ms ms' B : List Md} {ro : Md} {rest : List Stmt} {fr : CS}
end
end DI
set_option Elab.async false
set_option autoImplicit false
set_option linter.all false
set_option maxRecDepth 100000
set_option maxHeartbeats 2000000
/-! DI23: texts: join, split, str. -/
namespace DI
open PySem PySem.Spec PyProof.Rows
open L2 hiding XE Takes Takes.imp CX XE.of_call XE.new XE.leave takes_of passes_call Sky.land MkP PMk ps_raise mk_of ps_try_as HdsOk ps_try_many pmk_own passAt takes_none5 takes0 passL mk_end pmk_oex
open L2N hiding St
def strsOf : List D → Option (List Str)
  | [] => some []
  | .str x :: r => (strsOf r).map (x :: ·)
  | _ :: _ => none
def gJoin : Prim
  | [.str a, .lst ds] => (match strsOf ds with
    | some ys => if (ys.map (·.length)).sum + ys.length * a.length ≤ 16777216 then some (.str (Txt.join a ys)) else none
    | none => none)
  | _ => none
def gSplit : Prim
  | [.str a, .str b] => if (b.length == 0) = false ∧ a.length + 2 ≤ sizeLine then some (.lst ((Txt.split a b).map .str)) else none
  | _ => none
def gStrI : Prim
  | [.int i] => if i.natAbs.log2 < 1920 then some (.str (toString i)) else none
  | _ => none
def rJoin (K : PySem.W.Frag) : RL := fun vs H Q => match vs with
  | [x, y] => ∃ a p, ∃ ys : List Str, x = .str a ∧ y = .ref p ∧ (SqL K H p (ys.map V.str) ∨ SqT K H p (ys.map V.str)) ∧ (ys.map (·.length)).sum + ys.length * a.length ≤ 16777216 ∧ Q (.str (Txt.join a ys)) H
  | _ => False
def rSplit : RL := fun vs H Q => match vs with
  | [x, y] => ∃ a b, x = .str a ∧ y = .str b ∧ (b.length == 0) = false ∧ a.length + 2 ≤ sizeLine ∧ rNewStrs (Txt.split a b) H Q
  | _ => False
/-- an operand that is to be a text -/
def cStr (f : CE) : CE := fun env => mbind (f env) fun d e => match d with
  | .str i => some (.ok (.str i), e)
  | _ => none
section
variable {X : Cx} {ms : List Md} {m : Md} {o e : Expr} {fo fe : CE} {pos apos : Pos} {W : WX}
end
end DI
set_option Elab.async false
set_option autoImplicit false
set_option linter.all false
set_option maxRecDepth 100000
set_option maxHeartbeats 2000000
/-! DI24: several except clauses, with names or without. -/
namespace DI
open PySem PySem.Spec PyProof.Rows
open L2 hiding XE Takes Takes.imp CX XE.of_call XE.new XE.leave takes_of passes_call Sky.land MkP PMk ps_raise mk_of ps_try_as HdsOk ps_try_many pmk_own passAt takes_none5 takes0 passL mk_end pmk_oex
open L2N hiding St
/-- the ends of a suite behind which slot i is unbound -/
def offE (o : Option Nat) (D : Ends) : Ends := match o with
  | none => D
  | some i => { nx := fun σ' H' => D.nx (σ'.set i none) H', rt := D.rt, bk := fun σ' H' => D.bk (σ'.set i none) H', ct := fun σ' H' => D.ct (σ'.set i none) H' }
def onS (o : Option Nat) (a : Addr) (σ : L2.St) : L2.St := match o with
  | none => σ
  | some i => σ.set i (some (.ref a))
/-- a clause: its class, the slot of its name, its suite's reading -/
abbrev Cl := Value × Option Nat × (Addr → Value → Option Addr → TS)
def wCls (K : PySem.W.Frag) (Wout : WX) (D : Ends) : List Cl → WX
  | [] => Wout
  | (c, o, ts) :: r => fun cls d σ H => ∃ b, PySem.W.exmOne K cls c = some b ∧ (b = true → ∀ a, H a = none → ts a cls d (offE o D) (onS o a σ) H) ∧ (b = false → wCls K Wout D r cls d σ H)
def SuR (X : Cx) (sts : List Stmt) (ts : Addr → Value → Option Addr → TS) : Prop :=
  ∀ (a : Addr) (oe : Obj) (cls : Value) (d : Option Addr) (pn : List (Addr × Obj)), Zc cls d oe → (∃ vs, oe.data = .fields vs) → PSs (X.suite a ((a, oe) :: pn)) sts (ts a cls d)
/-- a suite that looks at its exception: it stands among what is shared -/
def SuT (X : Cx) (sts : List Stmt) (ts : Addr → Value → Option Addr → TS) : Prop :=
  ∀ (a : Addr) (cls : Value) (d : Option Addr) (pn : List (Addr × Obj)), PSs (X.suite a pn) sts (ts a cls d)
def trk (ts : Addr → Value → Option Addr → TS) : Addr → Value → Option Addr → TS := fun a cls d D σ H => ∀ oe : Obj, PXN.CtxN oe → (∃ vs, oe.data = .fields vs) → ts a cls d D σ (upd H a (.frz oe (exT cls d a)))
theorem Inv.track {X : Cx} {pins : List (Addr × Obj)} {σ : L2.St} {H : Hp} {s : Shared} {a : Addr} {oe : Obj} {cls : Value} {d : Option Addr} {vs : Array Value} (I : Inv X pins σ H s) (he : s.heap.get? a = some oe) (hz : Zc cls d oe) (hd : oe.data = .fields vs) (na : H a = none) (nL : a ≠ X.env.locals)
    (n0 : X.s_0.heap.get? a = none) (np : ∀ p ∈ X.pn ++ pins, p.1 ≠ a) : Inv (X.suite a (X.pn ++ pins)) [] σ (upd H a (.frz oe (exT cls d a))) s := by
  refine ⟨I.ok.suite _ _, I.os, I.bare, ⟨I.base.keep, I.base.slot, fun b o e n hx => ?_, I.base.there, fun b xs e => ?_, fun b o u e => ?_, fun b ps e => ?_⟩, I.loc, I.cell, ?_, fun x c e => ?_, fun p hp => ?_, fun b u e => ?_, I.len⟩
  · have ne : b ≠ a := fun z => by
      subst z
      have e' : X.s_0.heap.get? b = some o := e
      rw [n0] at e'; cases e'
    rw [upd_ne ne]
    exact I.base.free b o e n hx
  · have q := I.base.tups b xs e
    rw [upd_ne (ne_of_none q na)]; exact q
  · have q := I.base.frzs b o u e
    rw [upd_ne (ne_of_none q na)]; exact q
  · obtain ⟨more, q⟩ := I.base.tbls b ps e
    exact ⟨more, by rw [upd_ne (ne_of_none q na)]; exact q⟩
  · show upd H a _ X.env.locals = none
    rw [upd_ne (Ne.symm nL)]; exact I.free
  · have ne : c ≠ a := fun z => by
      subst z
      obtain ⟨v, o', g, q⟩ := I.cell x c e
      rw [he] at g; cases g
      rw [hd] at q; cases q
    rw [upd_ne ne]; exact I.freeC x c e
  · have hp' : p ∈ X.pn ++ pins := by
      have hp2 : p ∈ (X.pn ++ pins) ++ [] := hp
      rw [List.append_nil] at hp2; exact hp2
    obtain ⟨q1, q2, q3⟩ := I.pin p hp'
    exact ⟨q1, by rw [upd_ne (np p hp')]; exact q2, q3⟩
  · by_cases hb : b = a
    · subst hb
      rw [upd_same] at e; cases e
      refine ⟨he, ⟨oe, vs, he, hz, hd⟩, ⟨oe, he⟩, fun h1 h2 q k => ?_⟩
      obtain ⟨oe', vs', r1, r2, r3⟩ := q
      exact ⟨oe', vs', k _ r1, r2, r3⟩
    · rw [upd_ne hb] at e
      exact (I.hok b u e).stay (fun c v _ q => q) (fun c q => by rw [upd_ne (ne_of_none q na)]; exact q) fun c xs q => by rw [upd_ne (ne_of_none q na)]; exact q
theorem Inv.untrack {X : Cx} {pins : List (Addr × Obj)} {σ : L2.St} {H : Hp} {s : Shared} {a : Addr} (I : Inv (X.suite a (X.pn ++ pins)) [] σ H s) (ok : X.Ok) : Inv X pins σ H s :=
  ⟨ok, I.os, I.bare, I.base, I.loc, I.cell, I.free, I.freeC, fun p hp => I.pin p (List.mem_append_left _ hp), I.hok, I.len⟩
theorem sky_free {B : Heap} {l : List PySem.Env} {a : Addr} {Z : Obj → Prop} {L : Addr} {h : Heap} (x : Sky B l a Z L h) : B.get? a = none := by
  rcases x with x | x | x
  · exact x.2.1
  · exact x.2.1
  · exact x.2.1
inductive ClsOk (X : Cx) : List ExceptHandler → List Cl → Prop
  | nil : ClsOk X [] []
  | bare {x : Str} {c : Value} {ts : Addr → Value → Option Addr → TS} {b₀ : Stmt} {suite : List Stmt} {np pos' : Pos} {hds : List ExceptHandler} {l : List Cl} (hc : Names X x c) (hsu : SuR X (b₀ :: suite) ts) (r : ClsOk X hds l) :
      ClsOk X (.ExceptHandler (some (.Name x np)) none (b₀ :: suite) pos' :: hds) ((c, none, ts) :: l)
  | named {x n : Str} {i : Nat} {c : Value} {ts : Addr → Value → Option Addr → TS} {b₀ : Stmt} {suite : List Stmt} {np pos' : Pos} {hds : List ExceptHandler} {l : List Cl} (hN : X.N.Nodup) (hi : X.N[i]? = some n) (hln : X.env.kindOf n = some .local) (hc : Names X x c)
      (hsu : SuR X (b₀ :: suite) ts) (r : ClsOk X hds l) : ClsOk X (.ExceptHandler (some (.Name x np)) (some n) (b₀ :: suite) pos' :: hds) ((c, some i, ts) :: l)
  | namedT {x n : Str} {i : Nat} {c : Value} {ts : Addr → Value → Option Addr → TS} {b₀ : Stmt} {suite : List Stmt} {np pos' : Pos} {hds : List ExceptHandler} {l : List Cl} (hN : X.N.Nodup) (hi : X.N[i]? = some n) (hln : X.env.kindOf n = some .local) (hc : Names X x c)
      (hsu : SuT X (b₀ :: suite) ts) (r : ClsOk X hds l) : ClsOk X (.ExceptHandler (some (.Name x np)) (some n) (b₀ :: suite) pos' :: hds) ((c, some i, trk ts) :: l)
section
variable {X : Cx} {body : List Stmt} {h₀ : ExceptHandler} {hds : List ExceptHandler} {l : List Cl} {pos : Pos} {tb : WX → TS} {Wout : WX}
theorem ps_try_cls (hs : X.stack = X.env :: X.outer) (hf : X.env.frame = some X.env.locals) (tk : Takes X Wout)
    (hb : ∀ (W : WX) (pn : List (Addr × Obj)) (xe : Value → Shared → Prop), Takes (X.tr pn xe) W → PSs (X.tr pn xe) body (tb W))
    (hh : ClsOk X (h₀ :: hds) l) (hex : X.ex = []) : PS X (.Try body (h₀ :: hds) [] [] pos) (fun D σ H => tb (wCls X.K Wout D l) D σ H) := by
  refine ⟨fun pins s σ H D I h => ?_⟩
  have ok := I.ok
  have hfr : X.A.frames = some (X.env :: X.outer) := by rw [ok.frames, hs]
  refine wpAny_Try_except (wpAny_mono ((hb (wCls X.K Wout D l) (X.pn ++ pins) _ fun u s' xx => ?_).run [] s σ H D (I.toTry _) h) (fun f s1 hsp => ?_) fun e s1 he => he)
  · obtain ⟨a, B, sI, pins', σ', H', cls, d, rfl, J', nb, up, sky, na, os, ag, w⟩ := xx
    have J : Inv X pins σ' H' sI := J'.ofTry ok
    have sky' : Sky B (X.env :: X.outer) a (Zn cls d) X.env.locals s'.heap := by rw [← hs]; exact sky
    show wpAny (model X.prog X.w) X.A (noteFrame (.ref a) X.env) _ _ _
    refine Sky.land Zn.steady hfr hf sky' fun h3 fl3 up3 => ?_
    have J3 : Inv X pins σ' H' { s' with heap := h3 } := J.landed nb fl3.1 (up.trans up3) os ag
    obtain ⟨oe3, vs3, he3, hz3, hd3⟩ := fl3.there
    have nfr : a ∉ frs (X.env :: X.outer) := fun hm => by
      obtain ⟨_, o', e', hnf⟩ := fl3.2.2.1.mem hm
      rw [he3] at e'; cases e'
      exact hnf _ hd3
    have nL : a ≠ X.env.locals := fun z => nfr (List.mem_filterMap.mpr ⟨X.env, List.mem_cons_self, by rw [hf, z]⟩)
    have nF : a ∉ X.fs := fun hm => by
      obtain ⟨e, he, q⟩ := List.mem_filterMap.mp hm
      exact nfr (List.mem_filterMap.mpr ⟨e, List.mem_cons_of_mem _ he, q⟩)
    have nst : a ∉ frs X.stack := by rw [hs]; exact nfr
    have skf := sky_free sky
    have n0 : X.s_0.heap.get? a = none := by
      cases g : X.s_0.heap.get? a with
      | none => rfl
      | some o =>
        obtain ⟨o', g'⟩ := J.base.there a o g (by rw [hex]; exact List.not_mem_nil)
        have := nb a o' g' nst
        rw [skf] at this; cases this
    have npin : ∀ p ∈ X.pn ++ pins, p.1 ≠ a := fun p hp z => by
      obtain ⟨q1, _⟩ := J.pin p hp
      rw [z] at q1
      have := nb a _ q1 nst
      rw [skf] at this; cases this
    have S3 := J3.suite he3 hd3 na nL nF
    have LT : PySem.W.Looks (model X.prog X.w) h3 (typeOf (.ref a)) cls := fun A Q E s k q => wpAny_typeOf_ref (k _ _ he3) (by rw [hz3.1]; exact q)
    have test : ∀ {x : Str} {c : Value} {np : Pos} {Q : Value → Shared → Prop} {E : Value → Shared → Prop}, Names X x c → Q c { s' with heap := h3 } → wpAny (model X.prog X.w) (X.A.mark (some (.ref a))) (eval (.Name x np) X.env) Q E { s' with heap := h3 } := fun {x c np Q E} hc q => by
      obtain ⟨hg, hdbg, hm | ⟨hm, hv, hnn⟩⟩ := hc
      · exact ld_glob (X := X.suite a ((a, oe3) :: (X.pn ++ pins))) S3 hg hm q hdbg
      · exact ld_blt (X := X.suite a ((a, oe3) :: (X.pn ++ pins))) S3 hg hm hv q hnn hdbg
    have go : ∀ {hds' : List ExceptHandler} {l' : List Cl}, ClsOk X hds' l' → wCls X.K Wout D l' cls d σ' H' →
        wpAny (model X.prog X.w) X.A (handleBy (.ref a) X.env hds') (SP X pins D) X.xe { s' with heap := h3 } := by
      intro hds' l' hk
      induction hk with
      | nil =>
        intro w
        refine wpAny_handleBy_nil ?_
        obtain ⟨k1, k2, k3, oe, vs, T, oT, ts', he, hz, hd, h1, hr⟩ := id fl3
        unfold PySem.passOn
        refine wpAny_bind (wpAny_field he hd h1 ?_)
        rw [if_neg (show ¬ ((Value.ref T == Value.none) = true) from by simp)]
        have fin : wpAny (model X.prog X.w) X.A (setFlight (.ref a) X.env.frame) (fun _ s4 => wpAny (model X.prog X.w) X.A (throw (.ref a) : Sem Flow) (SP X pins D) X.xe s4) X.xe { s' with heap := h3 } := by
          rw [hf]
          refine HandSPX.setFlight_upZ fl3 fun h4 hh4 up4 => wpAny_throw (tk _ _ ?_)
          exact ⟨a, B, sI, pins, σ', H', cls, d, rfl, J, nb, (up.trans up3).trans up4, .inr (.inr (by rw [hs]; exact hh4)), na, os, ag, w⟩
        first
          | exact wpAny_bind (wpAny_pure (wpAny_bind fin))
          | exact wpAny_bind fin
      | bare hc hsu r ih =>
        intro w
        obtain ⟨b, hb1, hyes, hno⟩ := w
        refine wpAny_handleBy_cons (codeAny_handlers_test ?_) (by intro q; cases q)
        have LM := PySem.W.exm_one (M := model X.prog X.w) (J3.kIn) LT hb1
        refine test hc (LM.here ?_)
        cases b with
        | false => exact ih (hno rfl)
        | true =>
          refine codeAny_handlers_suite ?_
          refine HandSPX.lands_againZ fl3 fun h4 fl4 up4 => ?_
          have J4 : Inv X pins σ' H' { s' with heap := h4 } := J.landed nb fl4.1 ((up.trans up3).trans up4) os ag
          obtain ⟨oe4, vs4, he4, hz4, hd4⟩ := fl4.there
          have S4 := J4.suite he4 hd4 na nL nF
          refine wpAny_mono ((hsu a oe4 cls d (X.pn ++ pins) hz4.zc ⟨_, hd4⟩).run [] _ _ H' _ S4 (hyes rfl a na)) (fun f s6 hsp => ?_) (fun _ _ z => False.elim z)
          cases f with
          | next =>
            obtain ⟨σ6, H6, S6, q6⟩ := hsp
            exact ⟨_, _, S6.unsuite ok, q6⟩
          | brk =>
            obtain ⟨σ6, H6, S6, q6⟩ := hsp
            exact ⟨_, _, S6.unsuite ok, q6⟩
          | cont =>
            obtain ⟨σ6, H6, S6, q6⟩ := hsp
            exact ⟨_, _, S6.unsuite ok, q6⟩
          | ret u =>
            obtain ⟨v6, σ6, H6, S6, r6, q6⟩ := hsp
            exact ⟨_, _, _, S6.unsuite ok, r6, q6⟩
      | @named x n i c ts b₀ suite np pos' hds2 l2 hN hi hln hc hsu r ih =>
        intro w
        obtain ⟨b, hb1, hyes, hno⟩ := w
        refine wpAny_handleBy_cons (codeAny_handlers_test ?_) (by intro q; cases q)
        have LM := PySem.W.exm_one (M := model X.prog X.w) (J3.kIn) LT hb1
        refine test hc (LM.here ?_)
        cases b with
        | false => exact ih (hno rfl)
        | true =>
          refine codeAny_handlers_suite_as ?_
          refine HandSPX.lands_againZ fl3 fun h4 fl4 up4 => ?_
          have J4 : Inv X pins σ' H' { s' with heap := h4 } := J.landed nb fl4.1 ((up.trans up3).trans up4) os ag
          obtain ⟨oe4, vs4, he4, hz4, hd4⟩ := fl4.there
          have S4 := J4.suite he4 hd4 na nL nF
          have hloc : Loc X.env.scope n := .inl hln
          refine store_ok (X := X.suite a ((a, oe4) :: (X.pn ++ pins))) (v := .ref a) S4 hN hi hloc rfl (fun s5 S5 => ?_) (.inr hln)
          refine wpAny_mono ((hsu a oe4 cls d (X.pn ++ pins) hz4.zc ⟨_, hd4⟩).run [] s5 _ H' _ S5 (hyes rfl a na)) (fun f s6 hsp => ?_) (fun _ _ z => False.elim z)
          have end_ : ∀ {σ6 : L2.St} {H6 : Hp} {Q : Shared → Prop}, Inv (X.suite a ((a, oe4) :: (X.pn ++ pins))) [] σ6 H6 s6 → (∀ s7, Inv X pins (σ6.set i none) H6 s7 → Q s7) →
              wpAny (model X.prog X.w) X.A (do bindName X.env n .none; unbindBehindTheSuite X.env n pos') (fun _ s7 => Q s7) X.xe s6 := fun {σ6 H6 Q} S6 hq => gone_ok (S6.unsuite ok) hN hi hln hq
          cases f with
          | next =>
            obtain ⟨σ6, H6, S6, q6⟩ := hsp
            exact end_ S6 fun s7 J7 => ⟨_, _, J7, q6⟩
          | brk =>
            obtain ⟨σ6, H6, S6, q6⟩ := hsp
            exact end_ S6 fun s7 J7 => ⟨_, _, J7, q6⟩
          | cont =>
            obtain ⟨σ6, H6, S6, q6⟩ := hsp
            exact end_ S6 fun s7 J7 => ⟨_, _, J7, q6⟩
          | ret u =>
            obtain ⟨v6, σ6, H6, S6, r6, q6⟩ := hsp
            exact end_ S6 fun s7 J7 => ⟨_, _, _, J7, r6, q6⟩
      | @namedT x n i c ts b₀ suite np pos' hds2 l2 hN hi hln hc hsu r ih =>
        intro w
        obtain ⟨b, hb1, hyes, hno⟩ := w
        refine wpAny_handleBy_cons (codeAny_handlers_test ?_) (by intro q; cases q)
        have LM := PySem.W.exm_one (M := model X.prog X.w) (J3.kIn) LT hb1
        refine test hc (LM.here ?_)
        cases b with
        | false => exact ih (hno rfl)
        | true =>
          refine codeAny_handlers_suite_as ?_
          refine HandSPX.lands_againZ fl3 fun h4 fl4 up4 => ?_
          have J4 : Inv X pins σ' H' { s' with heap := h4 } := J.landed nb fl4.1 ((up.trans up3).trans up4) os ag
          obtain ⟨oe4, vs4, he4, hz4, hd4⟩ := fl4.there
          have S4 := Inv.track J4 he4 hz4.zc hd4 na nL n0 npin
          have hloc : Loc X.env.scope n := .inl hln
          refine store_ok (X := X.suite a (X.pn ++ pins)) (v := .ref a) S4 hN hi hloc rfl (fun s5 S5 => ?_) (.inr hln)
          refine wpAny_mono ((hsu a cls d (X.pn ++ pins)).run [] s5 _ _ _ S5 (hyes rfl a na oe4 hz4.2.2 ⟨_, hd4⟩)) (fun f s6 hsp => ?_) (fun _ _ z => False.elim z)
          have end_ : ∀ {σ6 : L2.St} {H6 : Hp} {Q : Shared → Prop}, Inv (X.suite a (X.pn ++ pins)) [] σ6 H6 s6 → (∀ s7, Inv X pins (σ6.set i none) H6 s7 → Q s7) →
              wpAny (model X.prog X.w) X.A (do bindName X.env n .none; unbindBehindTheSuite X.env n pos') (fun _ s7 => Q s7) X.xe s6 := fun {σ6 H6 Q} S6 hq => gone_ok (Inv.untrack S6 ok) hN hi hln hq
          cases f with
          | next =>
            obtain ⟨σ6, H6, S6, q6⟩ := hsp
            exact end_ S6 fun s7 J7 => ⟨_, _, J7, q6⟩
          | brk =>
            obtain ⟨σ6, H6, S6, q6⟩ := hsp
            exact end_ S6 fun s7 J7 => ⟨_, _, J7, q6⟩
          | cont =>
            obtain ⟨σ6, H6, S6, q6⟩ := hsp
            exact end_ S6 fun s7 J7 => ⟨_, _, J7, q6⟩
          | ret u =>
            obtain ⟨v6, σ6, H6, S6, r6, q6⟩ := hsp
            exact end_ S6 fun s7 J7 => ⟨_, _, _, J7, r6, q6⟩
    exact go hh w
  · cases f with
    | next =>
      obtain ⟨σ', H', J', q⟩ := hsp
      exact wpAny_execs_nil ⟨σ', H', J'.ofTry ok, q⟩
    | brk =>
      obtain ⟨σ', H', J', q⟩ := hsp
      exact ⟨σ', H', J'.ofTry ok, q⟩
    | cont =>
      obtain ⟨σ', H', J', q⟩ := hsp
      exact ⟨σ', H', J'.ofTry ok, q⟩
    | ret u =>
      obtain ⟨v, σ', H', J', r, q⟩ := hsp
      exact ⟨v, σ', H', J'.ofTry ok, r, q⟩
end
end DI
set_option Elab.async false
set_option autoImplicit false
set_option linter.all false
set_option maxRecDepth 100000
set_option maxHeartbeats 2000000
/-! DI25: try and its clauses; raise. -/
namespace DI
open PySem PySem.Spec PyProof.Rows
open L2 hiding XE Takes Takes.imp CX XE.of_call XE.new XE.leave takes_of passes_call Sky.land MkP PMk ps_raise mk_of ps_try_as HdsOk ps_try_many pmk_own passAt takes_none5 takes0 passL mk_end pmk_oex
open L2N hiding St
/-- a clause's meaning: the classes that it takes, those that it lets pass, its name's slot, its suite -/
structure ClM where
  yes : List Str
  no : List Str
  slot : Option Nat
  run : Exn → CS
def offV (o : Option Nat) (env : Env) : Env := match o with
  | none => env
  | some i => env.set i none
def suOut (o : Option Nat) (x : Out Fl) : Out Fl := match x with
  | some (.ok r, env2) => some (.ok r, offV o env2)
  | _ => none
def hMean : List ClM → Exn → Env → Env → Out Fl
  | [], e, _, env1 => some (.error e, env1)
  | c :: r, e, envm, env1 => if e.cls ∈ c.yes then suOut c.slot (c.run e (offV c.slot envm)) else if e.cls ∈ c.no then hMean r e envm env1 else none
def tryOut (xt : List Bool) (ms : List Md) (cs : List ClM) (x : Out Fl) : Out Fl := match x with
  | some (.error e, env1) => hMean cs e (maskB xt ms env1) env1
  | x => x
def cTry (xt : List Bool) (ms : List Md) (f : CS) (cs : List ClM) : CS := fun env => tryOut xt ms cs (f env)
section
variable {K : PySem.W.Frag} {mg : Str → Option Value} {I I1 H H1 : Hp} {fp fp1 : List Addr} {ms ms' B : List Md} {σ σ1 : L2.St} {env : Env} {xm : List Bool} {ro : Md} {W : WX}
theorem nrm1_nrm1 (m : Md) : nrm1 (nrm1 m) = nrm1 m := by cases m <;> rfl
theorem norm_norm (ms : List Md) : norm (norm ms) = norm ms := by
  unfold norm
  rw [List.map_map]
  congr 1
  funext m
  exact nrm1_nrm1 m
theorem mask_mask : ∀ {xm : List Bool} {ms : List Md} {env : Env}, maskB [] (norm ms) (maskB xm ms env) = maskB [] ms env
  | [], [], _ => rfl
  | _ :: _, [], _ => rfl
  | [], m :: ms, [] => rfl
  | _ :: _, m :: ms, [] => rfl
  | [], m :: ms, o :: env => by
    show (if (nrm1 m).par = true then (if m.par = true then o else none) else none) :: maskB [] (norm ms) (maskB [] ms env) = (if m.par = true then o else none) :: maskB [] ms env
    rw [mask_mask, nrm1_par]
    by_cases h : m.par = true <;> simp [h]
  | b :: bs, m :: ms, o :: env => by
    show (if (nrm1 m).par = true then (if m.par = true ∨ b = true then o else none) else none) :: maskB [] (norm ms) (maskB bs ms env) = (if m.par = true then o else none) :: maskB [] ms env
    rw [mask_mask, nrm1_par]
    by_cases h : m.par = true <;> simp [h]
theorem mask_off : ∀ {i : Nat} {ms : List Md} {env : Env} {x : Option D}, notPr ms i = true → maskB [] ms (env.set i x) = maskB [] ms env
  | _, [], env, _, h => by simp [notPr] at h
  | _, m :: ms, [], _, h => rfl
  | 0, m :: ms, o :: env, x, h => by
    have hp : m.par = false := by simpa [notPr] using h
    show (if m.par = true then x else none) :: maskB [] ms env = (if m.par = true then o else none) :: maskB [] ms env
    rw [hp]
    rfl
  | i + 1, m :: ms, o :: env, x, h => by
    have h' : notPr ms i = true := by simpa [notPr] using h
    show (if m.par = true then o else none) :: maskB [] ms (env.set i x) = (if m.par = true then o else none) :: maskB [] ms env
    rw [mask_off h']
theorem Slots.unsetO {o : Option V} : ∀ {i : Nat} {ms : List Md} {σ : L2.St} {env : Env} {fp : List Addr}, Slots K I H ms σ env fp → ∃ fp', Slots K I H ms (σ.set i o) (env.set i none) fp' ∧ fp'.Sublist fp
  | _, _, _, _, _, .nil => ⟨[], .nil, .slnil⟩
  | 0, _, _, _, _, .non s => ⟨_, .non s, .refl _⟩
  | 0, _, _, _, _, .som q s => ⟨_, .non s, List.sublist_append_right _ _⟩
  | i + 1, _, _, _, _, .non s => by
    obtain ⟨fp', a, b⟩ := Slots.unsetO (i := i) s
    exact ⟨fp', .non a, b⟩
  | i + 1, _, _, _, _, .som (fp1 := f0) q s => by
    obtain ⟨fp', a, b⟩ := Slots.unsetO (i := i) s
    exact ⟨f0 ++ fp', .som q a, b.append_left _⟩
theorem St.unsetO (s : St K ms I σ env H fp) (i : Nat) (o : Option V) : ∃ fp', St K ms I (σ.set i o) (env.set i none) H fp' ∧ ∀ p ∈ fp', p ∈ fp := by
  obtain ⟨fp', a, b⟩ := Slots.unsetO (o := o) s.sl (i := i)
  exact ⟨fp', ⟨s.ext, s.nd.sublist b, fun p hp => s.off p (b.subset hp), a⟩, fun p hp => b.subset hp⟩
theorem keep_off {i : Nat} {o : Option V} (h : notPr ms i = true) : Keep ms σ (σ.set i o) := fun j t hj => by
  by_cases e : i = j
  · subst e
    obtain ⟨m0, h1, h2, _⟩ := notPr_some h
    rw [h1] at hj; cases hj; cases h2
  · rw [List.getElem?_set_ne e]
theorem notPr_norm {i : Nat} : notPr (norm ms) i = notPr ms i := by
  unfold notPr norm
  rw [List.getElem?_map]
  cases ms[i]? with
  | none => rfl
  | some m => simp [nrm1_par]
variable (K mg) in
/-- a suite's reading: e the exception at a -/
def tSu (ms ms' B : List Md) (ro : Md) (o : Option Nat) (fs : Exn → CS) (a : Addr) (cls : Value) (d : Option Addr) : TS := fun D σ H => ∃ e I env fp, St K ms I σ env H fp ∧ ExcIs K mg I e cls d ∧ (∀ i, o = some i → i < σ.length → σ[i]? = some (some (.ref a))) ∧ ∃ r env', fs e env = some (.ok r, env') ∧
  (r = .nx → ∀ σ' H' I' fp', St K ms' I' σ' env' H' fp' → Step I H fp I' H' fp' → Keep ms σ σ' → D.nx σ' H') ∧
  (r = .bk → ∀ σ' H' I' fp', St K B I' σ' env' H' fp' → Step I H fp I' H' fp' → Keep ms σ σ' → D.bk σ' H') ∧
  (r = .ct → ∀ σ' H' I' fp', St K B I' σ' env' H' fp' → Step I H fp I' H' fp' → Keep ms σ σ' → D.ct σ' H') ∧
  (∀ d, r = .rt d → ∀ v σ' H' I' fp' fv, St K (norm ms) I' σ' (maskB [] ms env') H' fp' → Step I H fp I' H' (fv ++ fp') → RepM ro K I' H' v d fv → (fv ++ fp').Nodup → (∀ p ∈ fv, I' p = none) → Keep ms σ σ' → D.rt v H')
end
/-- a suite -/
structure DSu (X : Cx) (ms ms' B : List Md) (ro : Md) (o : Option Nat) (sts : List Stmt) (fs : Exn → CS) : Prop where
  nm : norm ms' = norm ms
  run : SuR X sts (tSu X.K X.mg ms ms' B ro o fs)
/-- the suite f, its exception in slot i -/
def sExn (i : Nat) (f : CS) : Exn → CS := fun e env => f (env.set i (some (.exn e.cls (e.fs.map (·.1)) (e.fs.map (·.2)))))
/-- the exception that is handled is among what is tracked, its object known, its context None -/
def HotH (A : Around) (H : Hp) : Prop := ∃ (a : Addr) (o : Obj) (u : HO) (vs : Array Value), A.handled = some (.ref a) ∧ H a = some (.frz o u) ∧ o.data = .fields vs ∧ vs[2]? = some .none
theorem HotH.ext {A : Around} {I H : Hp} (h : HotH A I) (e : Ext I H) : HotH A H := let ⟨a, o, u, vs, h1, h2, h3⟩ := h; ⟨a, o, u, vs, h1, e _ _ h2, h3⟩
/-- tS, of which more is known at the start -/
def tSJ (J : Hp → Prop) (K : PySem.W.Frag) (mg : Str → Option Value) (xm : List Bool) (ms ms' B : List Md) (ro : Md) (f : CS) (W : WX) : TS := fun D σ H => ∃ I env fp, St K ms I σ env H fp ∧ J I ∧ ∃ r env', f env = some (r, env') ∧
  (r = .ok .nx → ∀ σ' H' I' fp', St K ms' I' σ' env' H' fp' → Step I H fp I' H' fp' → Keep ms σ σ' → D.nx σ' H') ∧
  (r = .ok .bk → ∀ σ' H' I' fp', St K B I' σ' env' H' fp' → Step I H fp I' H' fp' → Keep ms σ σ' → D.bk σ' H') ∧
  (r = .ok .ct → ∀ σ' H' I' fp', St K B I' σ' env' H' fp' → Step I H fp I' H' fp' → Keep ms σ σ' → D.ct σ' H') ∧
  (∀ d, r = .ok (.rt d) → ∀ v σ' H' I' fp' fv, St K (norm ms) I' σ' (DI.maskB [] ms env') H' fp' → Step I H fp I' H' (fv ++ fp') → RepM ro K I' H' v d fv → (fv ++ fp').Nodup → (∀ p ∈ fv, I' p = none) → Keep ms σ σ' → D.rt v H') ∧
  (∀ e, r = .error e → BadS K mg xm ms I σ H fp W e env')
/-- a clause of the text means a clause -/
inductive ClsD (X : Cx) (ms ms' B : List Md) (ro : Md) : List ExceptHandler → List ClM → Prop
  | nil : ClsD X ms ms' B ro [] []
  | bare {x : Str} {c : Value} {fs : Exn → CS} {yes no : List Str} {b₀ : Stmt} {suite : List Stmt} {np pos' : Pos} {hds : List ExceptHandler} {l : List ClM} (hc : Names X x c)
      (hy : ∀ n ∈ yes, ∃ v, X.mg n = some v ∧ PySem.W.exmOne X.K v c = some true) (hno : ∀ n ∈ no, ∃ v, X.mg n = some v ∧ PySem.W.exmOne X.K v c = some false)
      (hsu : DSu X (norm ms) ms' B ro none (b₀ :: suite) fs) (r : ClsD X ms ms' B ro hds l) : ClsD X ms ms' B ro (.ExceptHandler (some (.Name x np)) none (b₀ :: suite) pos' :: hds) (⟨yes, no, none, fs⟩ :: l)
  | named {x n : Str} {i : Nat} {c : Value} {fs : Exn → CS} {yes no : List Str} {b₀ : Stmt} {suite : List Stmt} {np pos' : Pos} {hds : List ExceptHandler} {l : List ClM} (hN : X.N.Nodup) (hi : X.N[i]? = some n) (hln : X.env.kindOf n = some .local) (hp : notPr ms i = true) (hc : Names X x c)
      (hy : ∀ n ∈ yes, ∃ v, X.mg n = some v ∧ PySem.W.exmOne X.K v c = some true) (hno : ∀ n ∈ no, ∃ v, X.mg n = some v ∧ PySem.W.exmOne X.K v c = some false)
      (hsu : DSu X (norm ms) ms' B ro (some i) (b₀ :: suite) fs) (r : ClsD X ms ms' B ro hds l) : ClsD X ms ms' B ro (.ExceptHandler (some (.Name x np)) (some n) (b₀ :: suite) pos' :: hds) (⟨yes, no, some i, fs⟩ :: l)
  /-- the suite looks at its exception, which stands in slot i as what is shared -/
  | namedT {x n : Str} {i : Nat} {c : Value} {f : CS} {yes no : List Str} {b₀ : Stmt} {suite : List Stmt} {np pos' : Pos} {hds : List ExceptHandler} {l : List ClM} (hN : X.N.Nodup) (hi : X.N[i]? = some n) (hln : X.env.kindOf n = some .local) (hp : notPr ms i = true) (hsh : (norm ms).set i .sh = norm ms) (hc : Names X x c)
      (hy : ∀ n ∈ yes, X.mg n = some (.ref (gAd X.K n)) ∧ PySem.W.exmOne X.K (.ref (gAd X.K n)) c = some true) (hno : ∀ n ∈ no, ∃ v, X.mg n = some v ∧ PySem.W.exmOne X.K v c = some false)
      (hn : norm ms' = norm (norm ms)) (hsu : ∀ a pn, DSs (X.suite a pn) [] (norm ms) ms' B ro (b₀ :: suite) f) (r : ClsD X ms ms' B ro hds l) : ClsD X ms ms' B ro (.ExceptHandler (some (.Name x np)) (some n) (b₀ :: suite) pos' :: hds) (⟨yes, no, some i, sExn i f⟩ :: l)
  /-- and it calls what wants to know that its exception's context is None -/
  | namedH {x n : Str} {i : Nat} {c : Value} {f : CS} {yes no : List Str} {b₀ : Stmt} {suite : List Stmt} {np pos' : Pos} {hds : List ExceptHandler} {l : List ClM} (hN : X.N.Nodup) (hi : X.N[i]? = some n) (hln : X.env.kindOf n = some .local) (hp : notPr ms i = true) (hsh : (norm ms).set i .sh = norm ms) (hc : Names X x c)
      (hy : ∀ n ∈ yes, X.mg n = some (.ref (gAd X.K n)) ∧ PySem.W.exmOne X.K (.ref (gAd X.K n)) c = some true) (hno : ∀ n ∈ no, ∃ v, X.mg n = some v ∧ PySem.W.exmOne X.K v c = some false)
      (hn : norm ms' = norm (norm ms)) (hsu : ∀ a pn, PSs (X.suite a pn) (b₀ :: suite) (tSJ (HotH (X.suite a pn).A) X.K X.mg [] (norm ms) ms' B ro f (fun _ _ _ _ => False))) (r : ClsD X ms ms' B ro hds l) : ClsD X ms ms' B ro (.ExceptHandler (some (.Name x np)) (some n) (b₀ :: suite) pos' :: hds) (⟨yes, no, some i, sExn i f⟩ :: l)
section
variable {X : Cx} {ms ms' B : List Md} {ro : Md} {xt : List Bool}
theorem suOut_some {o : Option Nat} {x : Out Fl} {r : Except Exn Fl} {env' : Env} (h : suOut o x = some (r, env')) : ∃ r0 env2, x = some (.ok r0, env2) ∧ r = .ok r0 ∧ env' = offV o env2 := by
  unfold suOut at h
  split at h
  · cases h; exact ⟨_, _, rfl, rfl, rfl⟩
  · cases h
/-- what the rule of the clauses asks -/
theorem ClsD.read {hds : List ExceptHandler} {cs : List ClM} (h : ClsD X ms ms' B ro hds cs) : ∃ l, ClsOk X hds l ∧
    ∀ (D : Ends) (W : WX) (I H : Hp) (fp : List Addr) (σ : L2.St) (e : Exn) (env1 : Env) (r : Except Exn Fl) (env' : Env), hMean cs e (maskB xt ms env1) env1 = some (r, env') →
      (r = .ok .nx → ∀ σ' H' I' fp', St X.K ms' I' σ' env' H' fp' → Step I H fp I' H' fp' → Keep ms σ σ' → D.nx σ' H') →
      (r = .ok .bk → ∀ σ' H' I' fp', St X.K B I' σ' env' H' fp' → Step I H fp I' H' fp' → Keep ms σ σ' → D.bk σ' H') →
      (r = .ok .ct → ∀ σ' H' I' fp', St X.K B I' σ' env' H' fp' → Step I H fp I' H' fp' → Keep ms σ σ' → D.ct σ' H') →
      (∀ d, r = .ok (.rt d) → ∀ v σ' H' I' fp' fv, St X.K (norm ms) I' σ' (DI.maskB [] ms env') H' fp' → Step I H fp I' H' (fv ++ fp') → RepM ro X.K I' H' v d fv → (fv ++ fp').Nodup → (∀ p ∈ fv, I' p = none) → Keep ms σ σ' → D.rt v H') →
      (∀ e, r = .error e → BadS X.K X.mg [] ms I σ H fp W e env') →
      ∀ c dd σ' H' I' fp', St X.K (norm ms) I' σ' (DI.maskB xt ms env1) H' fp' → Step I H fp I' H' fp' → ExcIs X.K X.mg I' e c dd → Keep ms σ σ' → wCls X.K W D l c dd σ' H' := by
  induction h with
  | nil =>
    refine ⟨[], .nil, fun D W I H fp σ e env1 r env' h1 q1 q2 q3 q4 q5 c dd σ' H' I' fp' s t x k => ?_⟩
    have h1' : some (Except.error e, env1) = some (r, env') := h1
    cases h1'
    obtain ⟨fp2, s2, c2⟩ := s.maskB (xm := []) (by unfold compat; rfl)
    rw [norm_norm, mask_mask] at s2
    exact q5 e rfl c dd σ' H' I' fp2 s2 (t.less c2) x k
  | @bare x c fs yes no b₀ suite np pos' hds l hc hy hno hsu r ih =>
    obtain ⟨l', ok', rd⟩ := ih
    refine ⟨_, .bare hc hsu.run ok', fun D W I H fp σ e env1 r env' h1 q1 q2 q3 q4 q5 cl dd σ' H' I' fp' s t x k => ?_⟩
    have hcl : X.mg e.cls = some cl := x.1
    by_cases h2 : e.cls ∈ yes
    · have h1' : suOut none (fs e (maskB xt ms env1)) = some (r, env') := by
        have h3 := h1
        simp only [hMean, if_pos h2] at h3
        exact h3
      obtain ⟨r0, env2, h4, rfl, e2⟩ := suOut_some h1'
      have e2' : env' = env2 := e2
      subst e2'
      obtain ⟨v, g1, g2⟩ := hy _ h2
      rw [hcl] at g1; cases g1
      refine ⟨true, g2, fun _ a ha => ⟨e, I', _, fp', s, x, fun i z => (by cases z), r0, _, h4, fun z σ2 H2 I2 fp2 s2 t2 k2 => ?_, fun z σ2 H2 I2 fp2 s2 t2 k2 => ?_, fun z σ2 H2 I2 fp2 s2 t2 k2 => ?_, fun d z v σ2 H2 I2 fp2 fv s2 t2 rv nd off k2 => ?_⟩, fun z => by cases z⟩
      · exact q1 (by rw [z]) σ2 H2 I2 fp2 s2 (t.trans t2) (Keep.trans (norm_norm ms) k k2)
      · exact q2 (by rw [z]) σ2 H2 I2 fp2 s2 (t.trans t2) (Keep.trans (norm_norm ms) k k2)
      · exact q3 (by rw [z]) σ2 H2 I2 fp2 s2 (t.trans t2) (Keep.trans (norm_norm ms) k k2)
      · refine q4 d (by rw [z]) v σ2 H2 I2 fp2 fv ?_ (t.trans t2) rv nd off (Keep.trans (norm_norm ms) k k2)
        rw [norm_norm, maskB_norm (norm_norm ms)] at s2
        exact s2
    · have h1' : (if e.cls ∈ no then hMean l e (maskB xt ms env1) env1 else none) = some (r, env') := by
        have h3 := h1
        simp only [hMean, if_neg h2] at h3
        exact h3
      by_cases h3 : e.cls ∈ no
      · rw [if_pos h3] at h1'
        obtain ⟨v, g1, g2⟩ := hno _ h3
        rw [hcl] at g1; cases g1
        exact ⟨false, g2, fun z => (by cases z), fun _ => rd D W I H fp σ e env1 r env' h1' q1 q2 q3 q4 q5 cl dd σ' H' I' fp' s t x k⟩
      · rw [if_neg h3] at h1'; cases h1'
  | @named x n i c fs yes no b₀ suite np pos' hds l hN hi hln hp hc hy hno hsu r ih =>
    obtain ⟨l', ok', rd⟩ := ih
    refine ⟨_, .named hN hi hln hc hsu.run ok', fun D W I H fp σ e env1 r env' h1 q1 q2 q3 q4 q5 cl dd σ' H' I' fp' s t x k => ?_⟩
    have hcl : X.mg e.cls = some cl := x.1
    by_cases h2 : e.cls ∈ yes
    · have h1' : suOut (some i) (fs e ((maskB xt ms env1).set i none)) = some (r, env') := by
        have h3 := h1
        simp only [hMean, if_pos h2] at h3
        exact h3
      obtain ⟨r0, env2, h4, rfl, rfl⟩ := suOut_some h1'
      obtain ⟨v, g1, g2⟩ := hy _ h2
      rw [hcl] at g1; cases g1
      have hpn : notPr (norm ms) i = true := by rw [notPr_norm]; exact hp
      refine ⟨true, g2, fun _ a ha => ?_, fun z => by cases z⟩
      obtain ⟨fp1, s1, c1⟩ := s.unsetO i (some (.ref a))
      have k1 : Keep ms σ (σ'.set i (some (.ref a))) := Keep.trans rfl k (keep_off hp)
      have t1 : Step I H fp I' H' fp1 := t.less c1
      refine ⟨e, I', _, fp1, s1, x, fun j z hj => ?_, r0, env2, h4, fun z σ2 H2 I2 fp2 s2 t2 k2 => ?_, fun z σ2 H2 I2 fp2 s2 t2 k2 => ?_, fun z σ2 H2 I2 fp2 s2 t2 k2 => ?_, fun d z v σ2 H2 I2 fp2 fv s2 t2 rv nd off k2 => ?_⟩
      · cases z
        have hj' : i < σ'.length := by
          have : i < (σ'.set i (some (V.ref a))).length := hj
          rwa [List.length_set] at this
        show (σ'.set i (some (V.ref a)))[i]? = _
        rw [List.getElem?_set_self hj']
      · obtain ⟨fp3, s3, c3⟩ := s2.unsetO i none
        exact q1 (by rw [z]) _ H2 I2 fp3 s3 ((t1.trans t2).less c3) (Keep.trans rfl (Keep.trans (norm_norm ms) k1 k2) (keep_off hp))
      · obtain ⟨fp3, s3, c3⟩ := s2.unsetO i none
        exact q2 (by rw [z]) _ H2 I2 fp3 s3 ((t1.trans t2).less c3) (Keep.trans rfl (Keep.trans (norm_norm ms) k1 k2) (keep_off hp))
      · obtain ⟨fp3, s3, c3⟩ := s2.unsetO i none
        exact q3 (by rw [z]) _ H2 I2 fp3 s3 ((t1.trans t2).less c3) (Keep.trans rfl (Keep.trans (norm_norm ms) k1 k2) (keep_off hp))
      · refine q4 d (by rw [z]) v σ2 H2 I2 fp2 fv ?_ (t1.trans t2) rv nd off (Keep.trans (norm_norm ms) k1 k2)
        show St X.K (norm ms) I2 σ2 (maskB [] ms (env2.set i none)) H2 fp2
        rw [mask_off hp]
        rw [norm_norm, maskB_norm (norm_norm ms)] at s2
        exact s2
    · have h1' : (if e.cls ∈ no then hMean l e (maskB xt ms env1) env1 else none) = some (r, env') := by
        have h3 := h1
        simp only [hMean, if_neg h2] at h3
        exact h3
      by_cases h3 : e.cls ∈ no
      · rw [if_pos h3] at h1'
        obtain ⟨v, g1, g2⟩ := hno _ h3
        rw [hcl] at g1; cases g1
        exact ⟨false, g2, fun z => (by cases z), fun _ => rd D W I H fp σ e env1 r env' h1' q1 q2 q3 q4 q5 cl dd σ' H' I' fp' s t x k⟩
      · rw [if_neg h3] at h1'; cases h1'
  | @namedT x n i c f yes no b₀ suite np pos' hds l hN hi hln hp hsh hc hy hno hn hsu r ih =>
    obtain ⟨l', ok', rd⟩ := ih
    refine ⟨_, .namedT hN hi hln hc (ts := fun a cls d => tS X.K X.mg [] (norm ms) ms' B ro f (fun _ _ _ _ => False)) (fun a cls d pn => (hsu a pn).run _ (takes_none5 (X := X.suite a pn))) ok', fun D W I H fp σ e env1 r env' h1 q1 q2 q3 q4 q5 cl dd σ' H' I' fp' s t x k => ?_⟩
    have hcl : X.mg e.cls = some cl := x.1
    by_cases h2 : e.cls ∈ yes
    · have h1' : suOut (some i) (sExn i f e ((maskB xt ms env1).set i none)) = some (r, env') := by
        have h3 := h1
        simp only [hMean, if_pos h2] at h3
        exact h3
      obtain ⟨r0, env2, h4, rfl, rfl⟩ := suOut_some h1'
      obtain ⟨g1, g2⟩ := hy _ h2
      rw [hcl] at g1; cases g1
      refine ⟨true, g2, fun _ a ha oe hcx hdx => ?_, fun z => by cases z⟩
      show tS X.K X.mg [] (norm ms) ms' B ro f (fun _ _ _ _ => False) (offE (some i) D) (σ'.set i (some (.ref a))) (upd H' a (.frz oe (exT (.ref (gAd X.K e.cls)) dd a)))
      have t0 : Step I H fp (upd I' a (.frz oe (exT (.ref (gAd X.K e.cls)) dd a))) (upd H' a (.frz oe (exT (.ref (gAd X.K e.cls)) dd a))) fp' := t.trans (.newI ha s.ext)
      have s0 := s.newI (o := .frz oe (exT (.ref (gAd X.K e.cls)) dd a)) ha
      have rp : Rep X.K (upd I' a (.frz oe (exT (.ref (gAd X.K e.cls)) dd a))) (.ref a) (.exn e.cls (e.fs.map (·.1)) (e.fs.map (·.2))) := by
        obtain ⟨_, hx⟩ := x
        cases dd with
        | none =>
          have hx' : e.fs = [] := hx
          rw [hx']
          exact .ex0 (.inr ⟨_, upd_same⟩)
        | some dx =>
          obtain ⟨vs, hI, rs⟩ := hx
          have ex : Ext I' (upd I' a (.frz oe (exT (.ref (gAd X.K e.cls)) (some dx) a))) := .new (s.ext.free ha)
          exact .ex1 (.inr ⟨_, upd_same⟩) (ex _ _ hI) (by rw [List.length_map]; have := rs.length; rw [List.length_map] at this; exact this.symm) (rs.mono ex)
      have hil : i < (norm ms).length := by
        obtain ⟨m0, h1, _⟩ := notPr_some hp
        unfold norm
        rw [List.length_map]
        exact (List.getElem?_eq_some_iff.mp h1).1
      obtain ⟨fp2, s2, t2⟩ := put_st (m := .sh) (i := i) (fv := []) s0 t0 (⟨rp, rfl⟩ : RepM .sh X.K _ _ _ _ []) s0.nd (fun p hp => by cases hp) hil
      rw [hsh] at s2
      have h4' : f ((maskB xt ms env1).set i (some (.exn e.cls (e.fs.map (·.1)) (e.fs.map (·.2))))) = some (.ok r0, env2) := by
        have h5 : f (((maskB xt ms env1).set i none).set i (some (.exn e.cls (e.fs.map (·.1)) (e.fs.map (·.2))))) = some (.ok r0, env2) := h4
        rw [List.set_set] at h5
        exact h5
      have k1 : Keep ms σ (σ'.set i (some (.ref a))) := Keep.trans rfl k (keep_off hp)
      refine ⟨_, _, fp2, s2, .ok r0, env2, h4', fun z σ2 H2 I2 fp3 s3 t3 k2 => ?_, fun z σ2 H2 I2 fp3 s3 t3 k2 => ?_, fun z σ2 H2 I2 fp3 s3 t3 k2 => ?_, fun d z v σ2 H2 I2 fp3 fv s3 t3 rv nd off k2 => ?_, fun e z => by cases z⟩
      · obtain ⟨fp4, s4, c4⟩ := s3.unsetO i none
        exact q1 z _ H2 I2 fp4 s4 ((t2.trans t3).less c4) (Keep.trans rfl (Keep.trans (norm_norm ms) k1 k2) (keep_off hp))
      · obtain ⟨fp4, s4, c4⟩ := s3.unsetO i none
        exact q2 z _ H2 I2 fp4 s4 ((t2.trans t3).less c4) (Keep.trans rfl (Keep.trans (norm_norm ms) k1 k2) (keep_off hp))
      · obtain ⟨fp4, s4, c4⟩ := s3.unsetO i none
        exact q3 z _ H2 I2 fp4 s4 ((t2.trans t3).less c4) (Keep.trans rfl (Keep.trans (norm_norm ms) k1 k2) (keep_off hp))
      · refine q4 d z v σ2 H2 I2 fp3 fv ?_ (t2.trans t3) rv nd off (Keep.trans (norm_norm ms) k1 k2)
        show St X.K (norm ms) I2 σ2 (maskB [] ms (env2.set i none)) H2 fp3
        rw [mask_off hp]
        rw [norm_norm, maskB_norm (norm_norm ms)] at s3
        exact s3
    · have h1' : (if e.cls ∈ no then hMean l e (maskB xt ms env1) env1 else none) = some (r, env') := by
        have h3 := h1
        simp only [hMean, if_neg h2] at h3
        exact h3
      by_cases h3 : e.cls ∈ no
      · rw [if_pos h3] at h1'
        obtain ⟨v, g1, g2⟩ := hno _ h3
        rw [hcl] at g1; cases g1
        exact ⟨false, g2, fun z => (by cases z), fun _ => rd D W I H fp σ e env1 r env' h1' q1 q2 q3 q4 q5 cl dd σ' H' I' fp' s t x k⟩
      · rw [if_neg h3] at h1'; cases h1'
  | @namedH x n i c f yes no b₀ suite np pos' hds l hN hi hln hp hsh hc hy hno hn hsu r ih =>
    obtain ⟨l', ok', rd⟩ := ih
    refine ⟨_, .namedT hN hi hln hc (ts := fun a cls d => tSJ (HotH (X.A.mark (some (.ref a)))) X.K X.mg [] (norm ms) ms' B ro f (fun _ _ _ _ => False)) (fun a cls d pn => hsu a pn) ok', fun D W I H fp σ e env1 r env' h1 q1 q2 q3 q4 q5 cl dd σ' H' I' fp' s t x k => ?_⟩
    have hcl : X.mg e.cls = some cl := x.1
    by_cases h2 : e.cls ∈ yes
    · have h1' : suOut (some i) (sExn i f e ((maskB xt ms env1).set i none)) = some (r, env') := by
        have h3 := h1
        simp only [hMean, if_pos h2] at h3
        exact h3
      obtain ⟨r0, env2, h4, rfl, rfl⟩ := suOut_some h1'
      obtain ⟨g1, g2⟩ := hy _ h2
      rw [hcl] at g1; cases g1
      refine ⟨true, g2, fun _ a ha oe hcx hdx => ?_, fun z => by cases z⟩
      show tSJ (HotH (X.A.mark (some (.ref a)))) X.K X.mg [] (norm ms) ms' B ro f (fun _ _ _ _ => False) (offE (some i) D) (σ'.set i (some (.ref a))) (upd H' a (.frz oe (exT (.ref (gAd X.K e.cls)) dd a)))
      have t0 : Step I H fp (upd I' a (.frz oe (exT (.ref (gAd X.K e.cls)) dd a))) (upd H' a (.frz oe (exT (.ref (gAd X.K e.cls)) dd a))) fp' := t.trans (.newI ha s.ext)
      have s0 := s.newI (o := .frz oe (exT (.ref (gAd X.K e.cls)) dd a)) ha
      have rp : Rep X.K (upd I' a (.frz oe (exT (.ref (gAd X.K e.cls)) dd a))) (.ref a) (.exn e.cls (e.fs.map (·.1)) (e.fs.map (·.2))) := by
        obtain ⟨_, hx⟩ := x
        cases dd with
        | none =>
          have hx' : e.fs = [] := hx
          rw [hx']
          exact .ex0 (.inr ⟨_, upd_same⟩)
        | some dx =>
          obtain ⟨vs, hI, rs⟩ := hx
          have ex : Ext I' (upd I' a (.frz oe (exT (.ref (gAd X.K e.cls)) (some dx) a))) := .new (s.ext.free ha)
          exact .ex1 (.inr ⟨_, upd_same⟩) (ex _ _ hI) (by rw [List.length_map]; have := rs.length; rw [List.length_map] at this; exact this.symm) (rs.mono ex)
      have hil : i < (norm ms).length := by
        obtain ⟨m0, h1, _⟩ := notPr_some hp
        unfold norm
        rw [List.length_map]
        exact (List.getElem?_eq_some_iff.mp h1).1
      obtain ⟨fp2, s2, t2⟩ := put_st (m := .sh) (i := i) (fv := []) s0 t0 (⟨rp, rfl⟩ : RepM .sh X.K _ _ _ _ []) s0.nd (fun p hp => by cases hp) hil
      rw [hsh] at s2
      have h4' : f ((maskB xt ms env1).set i (some (.exn e.cls (e.fs.map (·.1)) (e.fs.map (·.2))))) = some (.ok r0, env2) := by
        have h5 : f (((maskB xt ms env1).set i none).set i (some (.exn e.cls (e.fs.map (·.1)) (e.fs.map (·.2))))) = some (.ok r0, env2) := h4
        rw [List.set_set] at h5
        exact h5
      have k1 : Keep ms σ (σ'.set i (some (.ref a))) := Keep.trans rfl k (keep_off hp)
      obtain ⟨vsx, hvs⟩ := hdx
      refine ⟨_, _, fp2, s2, ⟨a, oe, _, vsx, rfl, upd_same, hvs, hcx vsx hvs⟩, .ok r0, env2, h4', fun z σ2 H2 I2 fp3 s3 t3 k2 => ?_, fun z σ2 H2 I2 fp3 s3 t3 k2 => ?_, fun z σ2 H2 I2 fp3 s3 t3 k2 => ?_, fun d z v σ2 H2 I2 fp3 fv s3 t3 rv nd off k2 => ?_, fun e z => by cases z⟩
      · obtain ⟨fp4, s4, c4⟩ := s3.unsetO i none
        exact q1 z _ H2 I2 fp4 s4 ((t2.trans t3).less c4) (Keep.trans rfl (Keep.trans (norm_norm ms) k1 k2) (keep_off hp))
      · obtain ⟨fp4, s4, c4⟩ := s3.unsetO i none
        exact q2 z _ H2 I2 fp4 s4 ((t2.trans t3).less c4) (Keep.trans rfl (Keep.trans (norm_norm ms) k1 k2) (keep_off hp))
      · obtain ⟨fp4, s4, c4⟩ := s3.unsetO i none
        exact q3 z _ H2 I2 fp4 s4 ((t2.trans t3).less c4) (Keep.trans rfl (Keep.trans (norm_norm ms) k1 k2) (keep_off hp))
      · refine q4 d z v σ2 H2 I2 fp3 fv ?_ (t2.trans t3) rv nd off (Keep.trans (norm_norm ms) k1 k2)
        show St X.K (norm ms) I2 σ2 (maskB [] ms (env2.set i none)) H2 fp3
        rw [mask_off hp]
        rw [norm_norm, maskB_norm (norm_norm ms)] at s3
        exact s3
    · have h1' : (if e.cls ∈ no then hMean l e (maskB xt ms env1) env1 else none) = some (r, env') := by
        have h3 := h1
        simp only [hMean, if_neg h2] at h3
        exact h3
      by_cases h3 : e.cls ∈ no
      · rw [if_pos h3] at h1'
        obtain ⟨v, g1, g2⟩ := hno _ h3
        rw [hcl] at g1; cases g1
        exact ⟨false, g2, fun z => (by cases z), fun _ => rd D W I H fp σ e env1 r env' h1' q1 q2 q3 q4 q5 cl dd σ' H' I' fp' s t x k⟩
      · rw [if_neg h3] at h1'; cases h1'
/-- THE RULE -/
theorem ds_try {body : List Stmt} {h₀ : ExceptHandler} {hds : List ExceptHandler} {cs : List ClM} {f : CS} {pos : Pos} (xt : List Bool) (hn : norm ms' = norm ms) (hb : ∀ pn xe, DSs (X.tr pn xe) xt ms ms' B ro body f) (hh : ClsD X ms ms' B ro (h₀ :: hds) cs)
    (hs : X.stack = X.env :: X.outer := by rfl) (hf : X.env.frame = some X.env.locals := by rfl) (hex : X.ex = [] := by rfl) : DS X [] ms ms' B ro (.Try body (h₀ :: hds) [] [] pos) (cTry xt ms f cs) := by
  obtain ⟨l, ok, rd⟩ := hh.read (xt := xt)
  refine ⟨hn, fun W tk => ps_imp (ps_try_cls (tb := fun W' => tS X.K X.mg xt ms ms' B ro f W') hs hf tk (fun W' pn xe tk' => (hb pn xe).run W' tk') ok hex) fun D σ H h => ?_⟩
  obtain ⟨I, env, fp, s, r, env', h1, q1, q2, q3, q4, q5⟩ := h
  have h1' : tryOut xt ms cs (f env) = some (r, env') := h1
  cases hx : f env with
  | none => rw [hx] at h1'; cases h1'
  | some x =>
    obtain ⟨r0, env1⟩ := x
    rw [hx] at h1'
    cases r0 with
    | ok fl =>
      have h2 : some (Except.ok fl, env1) = some (r, env') := h1'
      cases h2
      exact ⟨I, env, fp, s, _, _, hx, q1, q2, q3, q4, fun e z => by cases z⟩
    | error e =>
      have h2 : hMean cs e (maskB xt ms env1) env1 = some (r, env') := h1'
      refine ⟨I, env, fp, s, _, _, hx, fun z => (by cases z), fun z => (by cases z), fun z => (by cases z), fun d z => (by cases z), fun e' z => ?_⟩
      cases z
      exact fun c dd σ' H' I' fp' s' t' x' k' => rd D W I H fp σ e env1 r env' h2 q1 q2 q3 q4 q5 c dd σ' H' I' fp' s' t' x' k'
end
end DI
set_option Elab.async false
set_option autoImplicit false
set_option linter.all false
set_option maxRecDepth 100000
set_option maxHeartbeats 2000000
/-! DI26: raise; fields of what is caught. -/
namespace DI
open PySem PySem.Spec PyProof.Rows
open L2 hiding XE Takes Takes.imp CX XE.of_call XE.new XE.leave takes_of passes_call Sky.land MkP PMk ps_raise mk_of ps_try_as HdsOk ps_try_many pmk_own passAt takes_none5 takes0 passL mk_end pmk_oex
open L2N hiding St
/-! ### raise C('..') -/
def cRaise (c : Str) : CS := fun env => some (.error ⟨c, []⟩, env)
/-- a class without an own __init__ -/
structure Ex0 (K : PySem.W.Frag) (mg : Str → Option Value) (x : Str) : Prop where
  ex : ∃ C, mg x = some (.ref C) ∧ PySem.W.excIn K C He.veBase "ValueError.__new__" = true ∧ PySem.W.keepIn K (.ref C) = true ∧ PySem.W.subIn K (.ref C) (.type "BaseException") = some true ∧ PySem.W.typeIn K (.ref C) = some (.type "type")
section
variable {X : Cx} {xm : List Bool} {ms ms' B : List Md} {ro : Md} {x m : Str} {j : Nat} {p p2 p3 pos : Pos} {W : WX}
theorem ds_raise (hn : norm ms' = norm ms) (E : Ex0 X.K X.mg x) (hc : X.calm = true) (hg : Gl X x) (hk : compat xm ms = true := by rfl) (hdb : (x == ("__debug__" : Str)) = false := by decide) :
    DS X xm ms ms' B ro (.Raise (some (.Call (.Name x p) [.Constant (.str m) j p2] [] p3)) none pos) (cRaise x) := by
  obtain ⟨C, e1, e2, e3, e4, e5⟩ := E.ex
  refine ⟨hn, fun W tk => ps_imp (ps_raise hc tk (pmk_own PySem.F.excBase_ValueError e2 e1 e3 (raises_own e4 e5) hg hdb)) fun D σ H h => ?_⟩
  obtain ⟨I, env, fp, s, r, env', h1, q1, q2, q3, q4, q5⟩ := h
  cases h1
  exact ((q5 _ rfl).bad hk) (.ref C) none H I fp s (.refl _ _ _) ⟨e1, rfl⟩
end
/-! ### raise C(a, ..): own fields -/
def cRaiseF (c : Str) (ns : List Str) (os : List Opd) : CS := fun env => mbind (evalOs os env) fun ds e => if ds.length = ns.length then some (.error ⟨c, (ns.zip ds).reverse⟩, e) else none
/-- a class whose __init__ keeps its arguments -/
structure ExF (K : PySem.W.Frag) (mg : Str → Option Value) (x : Str) (C fI : Addr) (ns : List Str) : Prop where
  gC : mg x = some (.ref C)
  T : OexC K C
  F : XfC K C
  no : ∀ f ∈ ns, PySem.W.findIn K (.ref C) f = some none
  iC : PySem.W.findIn K (.ref C) "__init__" = some (some (.ref fI))
  tI : PySem.W.typeIn K (.ref fI) = some (.type "function")
def spI1 (K : PySem.W.Frag) (f : Str) : Sp := fun vs H Q E => ∃ (a C : Addr) (y : V), vs = [.ref a, y] ∧ OexC K C ∧ PySem.W.findIn K (.ref C) f = some none ∧ H a = some (exo a C none) ∧
  ∀ dx, H dx = none → dx ≠ a → Q .non (upd (upd H dx (exd dx [(f, y)])) a (exo a C (some dx)))
def spI2 (K : PySem.W.Frag) (f g : Str) : Sp := fun vs H Q E => ∃ (a C : Addr) (y z : V), vs = [.ref a, y, z] ∧ OexC K C ∧ PySem.W.findIn K (.ref C) f = some none ∧ PySem.W.findIn K (.ref C) g = some none ∧ H a = some (exo a C none) ∧
  ∀ dx, H dx = none → dx ≠ a → Q .non (upd (upd (upd H dx (exd dx [(f, y)])) a (exo a C (some dx))) dx (exd dx [(g, z), (f, y)]))
section
variable {P : Program} {w : World} {K : PySem.W.Frag} {mg : Str → Option Value} {base : Heap} {x qual f g : Str} {params : Arguments} {scope : Scope} {dvs : List V} {kws : List (Str × V)} {fI : Addr} {fd : FuncData} {p1 p2 p3 p4 p5 p6 p7 p8 : Pos}
end
section
variable {X : Cx} {xm : List Bool} {ms ms' B : List Md} {ro : Md} {x f g : Str} {p p3 pos : Pos} {W : WX} {C fI : Addr} {fd : FuncData} {a b : Expr} {fa fb : CE}
end
/-! ### a suite: return (e.f, ..) -/
def sRetT (c : Str) (ns : List Str) : Exn → CS := fun e env => if e.cls = c then (match ns.mapM (fun n => e.fs.lookup n) with
  | some ds => some (.ok (.rt (.tup ds)), env)
  | none => none) else none
section
variable {X : Cx} {ms ms' B : List Md} {ro : Md} {x n f g : Str} {i j : Nat} {p1 p2 p3 p4 p5 p6 pos : Pos} {C fI : Addr}
end
end DI
set_option Elab.async false
set_option autoImplicit false
set_option linter.all false
set_option maxRecDepth 100000
set_option maxHeartbeats 2000000
/-! DI27: a head's facts of one's own; classes of exceptions. -/
namespace DI
open PySem PySem.Spec PyProof.Rows
open L2 hiding XE Takes Takes.imp CX XE.of_call XE.new XE.leave takes_of passes_call Sky.land MkP PMk ps_raise mk_of ps_try_as HdsOk ps_try_many pmk_own passAt takes_none5 takes0 passL mk_end pmk_oex
open L2N hiding St
/-! ### the hook, widened by a test of one's own -/
def obsX (fb : PySem.W.Frag → Bool) (fa : List He.Fa) (fn : List He.DefD) (K : PySem.W.Frag) : He.AlD := ((He.obsD fa fn K).1 && fb K, (He.obsD fa fn K).2)
def SaysX (fb : PySem.W.Frag → Bool) (fa : List He.Fa) (fn : List He.DefD) (K : PySem.W.Frag) : Prop := obsX fb fa fn K = He.valD fn
def obsXG (n : Nat) (fb : PySem.W.Frag → Bool) (fa : List He.Fa) (fn : List He.DefD) (g : Addr → Option Obj) : He.AlD := obsX fb fa fn (He.frG g (He.asD g n))
def hookX (n : Nat) (fb : PySem.W.Frag → Bool) (fa : List He.Fa) (fn : List He.DefD) : PySem.W.Hook where
  α := He.AlD
  obs := fun s => obsXG n fb fa fn s.heap.get?
  val := fun _ => He.valD fn
  says := fun _ h => ∃ K : PySem.W.Frag, K.In h ∧ SaysX fb fa fn K
  of := fun _ _ e => ⟨_, He.frG_in, e⟩
  keeps := fun _ _ _ ⟨K, hK, c⟩ k => ⟨K, PySem.W.Frag.In.keeps hK k, c⟩
theorem obsXG_eq {n : Nat} {fb : PySem.W.Frag → Bool} {fa : List He.Fa} {fn : List He.DefD} {g : Addr → Option Obj} {s : Shared} (h : ∀ a, g a = s.heap.get? a) : obsXG n fb fa fn g = (hookX n fb fa fn).obs s := by
  have e : g = s.heap.get? := funext h
  rw [e] <;> rfl
theorem SaysX.d {fb : PySem.W.Frag → Bool} {fa : List He.Fa} {fn : List He.DefD} {K : PySem.W.Frag} (c : SaysX fb fa fn K) : He.SaysD fa fn K ∧ fb K = true := by
  have c' : obsX fb fa fn K = He.valD fn := c
  have h1 : ((He.obsD fa fn K).1 && fb K) = true := congrArg (fun z : He.AlD => z.1) c'
  have h2 : (He.obsD fa fn K).2 = (He.valD fn).2 := by
    have h3 := congrArg Prod.snd c'
    exact h3
  rw [Bool.and_eq_true] at h1
  exact ⟨Prod.ext h1.1 h2, h1.2⟩
/-! ### classes whose __init__ keeps its arguments -/
def oexB (K : PySem.W.Frag) (C : Addr) : Bool := match K.lookup C with
  | some ⟨.type "type", _, .cls cd, sl⟩ => (match cd.mro, sl.toList with
    | .ref C' :: bm, [_, _, _, _, some (.builtin n), _] => C' == C && n == "ValueError.__new__" && !cd.hasDel && cd.hasDict && PySem.HandSPX.refsVE bm
    | _, _ => false)
  | _ => false
/-- what the head says of the class x with the fields ns -/
def exfB (x : Str) (ns : List Str) (K : PySem.W.Frag) : Bool := He.eqO (PySem.W.nsIn K mainGlobals x) (some (some (.ref (He.ga K x)))) && (oexB K (He.ga K x) && (xfB K (He.ga K x) && (He.eqO (PySem.W.findIn K (.ref (He.ga K x)) "__setattr__") (some (some (.builtin "object.__setattr__"))) && ((decide (PySem.W.typeIn K (.ref (He.ga K x)) = some (.type "type")) && PySem.W.keepIn K (.ref (He.ga K x))) &&
  ((ns.all fun f => He.eqO (PySem.W.findIn K (.ref (He.ga K x)) f) (some none)) && (He.eqO (PySem.W.findIn K (.ref (He.ga K x)) "__init__") (some (some (.ref (He.ma K (He.ga K x) "__init__")))) && decide (PySem.W.typeIn K (.ref (He.ma K (He.ga K x) "__init__")) = some (.type "function"))))))))
theorem ex0_ok {K : PySem.W.Frag} {h : Heap} {mg : Str → Option Value} (X : K.In h) (G : h.Ns mainGlobals mg) {x : Str} (c : (He.Fa.glo x).ok K = true) (c2 : (He.Fa.exc x).ok K = true) : Ex0 K mg x := by
  obtain ⟨a, b, d, e⟩ := He.exc_ok c2
  exact ⟨He.ga K x, He.glo_ok X G c, a, b, d, e⟩
/-! ### a class's __init__ in the text -/
def initOf : Stmt → Stmt
  | .ClassDef _ _ _ body _ _ _ _ _ _ pos => (body.find? fun s => match s with
    | .FunctionDef .. => true
    | _ => false).getD (.Pass pos)
  | s => s
abbrev initF (st : Stmt) (q : Str) (K : PySem.W.Frag) (f : Addr) (fd : FuncData) : Prop := FunD K "__init__" q (defArgs (initOf st)) (defBody (initOf st)) (defScope (initOf st)) [] [] f fd
/-! ### lists of classes -/
theorem am_nil {P : Str → Prop} : ∀ n ∈ ([] : List Str), P n := fun _ h => by cases h
theorem am_cons {P : Str → Prop} {x : Str} {l : List Str} (h : P x) (r : ∀ n ∈ l, P n) : ∀ n ∈ x :: l, P n := fun n hn => by
  rcases List.mem_cons.mp hn with rfl | hn
  · exact h
  · exact r n hn
end DI
set_option Elab.async false
set_option autoImplicit false
set_option linter.all false
set_option maxRecDepth 100000
set_option maxHeartbeats 3200000
/-! DI28: sorted(set(xs)), ints. -/
namespace DI
open PySem PySem.Spec PyProof.Rows
open L2 hiding XE Takes Takes.imp CX XE.of_call XE.new XE.leave takes_of passes_call Sky.land MkP PMk ps_raise mk_of ps_try_as HdsOk ps_try_many pmk_own passAt takes_none5 takes0 passL mk_end pmk_oex
open L2N hiding St
/-- the distinct ones, in the order of their first places -/
def dedI (ns : List Int) : List Int := ns.foldl (fun l k => if k ∈ l then l else l ++ [k]) []
section
variable {P : Program} {w : World} {A : Around} {E : Value → Shared → Prop} {s : Shared}
end
end DI
set_option Elab.async false
set_option autoImplicit false
set_option linter.all false
set_option maxRecDepth 100000
set_option maxHeartbeats 3200000
/-! DI29: sorted(set(xs)), sorted({k: True for ..}), as one expression each. -/
namespace DI
open PySem PySem.Spec PyProof.Rows
open L2 hiding XE Takes Takes.imp CX XE.of_call XE.new XE.leave takes_of passes_call Sky.land MkP PMk ps_raise mk_of ps_try_as HdsOk ps_try_many pmk_own passAt takes_none5 takes0 passL mk_end pmk_oex
open L2N hiding St
def gSortSet : Prim
  | [.lst ds] => match intsD ds with
    | some ns => if (dedI ns).length < 64 ∧ ns.length + 1 < 4096 then some (.lst ((sortI (dedI ns)).map .int)) else none
    | none => none
  | _ => none
def rSortSet (K : PySem.W.Frag) : RL := fun vs H Q => match vs with
  | [x] => ∃ (l : Addr) (ns : List Int), x = .ref l ∧ SqL K H l (ns.map V.int) ∧ (dedI ns).length < 64 ∧ ns.length + 1 < 4096 ∧ ∀ p, H p = none → Q (.ref p) (upd H p (.lst ((sortI (dedI ns)).map V.int)))
  | _ => False
section
variable {X : Cx} {ms : List Md} {m : Md} {a : Expr} {oa : Opd} {p q pos pos2 : Pos}
end
end DI
set_option Elab.async false
set_option autoImplicit false
set_option linter.all false
set_option maxRecDepth 100000
set_option maxHeartbeats 3200000
/-! DI30: sorted({k: True for ..}). -/
namespace DI
open PySem PySem.Spec PyProof.Rows
open L2 hiding XE Takes Takes.imp CX XE.of_call XE.new XE.leave takes_of passes_call Sky.land MkP PMk ps_raise mk_of ps_try_as HdsOk ps_try_many pmk_own passAt takes_none5 takes0 passL mk_end pmk_oex
open L2N hiding St
def sdOut (e1 : Env) (vs : List Nat) : Out (List D) → Out D
  | some (.ok ys, e2) => match intsD ys with
    | some ns => if ys.length ≤ sizeLine ∧ (dedI ns).length < 64 then some (.ok (.lst ((sortI (dedI ns)).map .int)), restoreE e1 (wipeE e2 vs) vs) else none
    | none => none
  | _ => none
/-- sorted({f: True for tg in it if c}) -/
def cSdc (it : CI) (tg : Tg) (c : CB) (f : CE) (vs : List Nat) : CE := fun env => mbind (it env) fun items e => sdOut e vs (lcD tg c f vs items e)
abbrev rSdi : RL := fun xs H Q => ∃ (a : Addr) (kvs : List (Key × V)) (ks : List Int), xs = [.ref a] ∧ Rd H a (.dK kvs) ∧ kvs.map (·.1) = ks.map Sum.inl ∧ ks.length < 64 ∧
    ∀ (ys : List Int) (p : Addr), ys.Perm ks → ys.Pairwise (· ≤ ·) → H p = none → Q (.ref p) (upd H p (.lst (ys.map V.int)))
section
variable {X : Cx} {ms : List Md} {m : Md} {e tg iter elt : Expr} {ifs : List Expr} {c : CB} {f : CE} {fi : CI} {tgs : Tg} {pos p pos2 p3 : Pos} {scope : Scope} {own : List (Str × Nat)} {j : Nat}
end
end DI
set_option Elab.async false
set_option autoImplicit false
set_option linter.all false
set_option maxRecDepth 100000
set_option maxHeartbeats 3200000
/-! DI31: xs.count(k), xs.index(k), ints. -/
namespace DI
open PySem PySem.Spec PyProof.Rows
open L2 hiding XE Takes Takes.imp CX XE.of_call XE.new XE.leave takes_of passes_call Sky.land MkP PMk ps_raise mk_of ps_try_as HdsOk ps_try_many pmk_own passAt takes_none5 takes0 passL mk_end pmk_oex
open L2N hiding St
def cLst (f : CE) : CE := fun env => mbind (f env) fun d e => match d with
  | .lst i => some (.ok (.lst i), e)
  | _ => none
def gCount : Prim
  | [.lst ds, .int k] => (intsD ds).map fun ns => .int (ns.count k : Nat)
  | _ => none
def gIndex : Prim
  | [.lst ds, .int k] => match intsD ds with
    | some ns => if k ∈ ns then some (.int (ns.idxOf k : Nat)) else none
    | none => none
  | _ => none
def rOfM (r : V → List V → Hp → VK → Prop) : RL := fun vs H Q => match vs with
  | x :: xs => r x xs H Q
  | _ => False
section
variable {X : Cx} {ms : List Md} {m : Md} {o e : Expr} {fo fe : CE} {pos apos : Pos} {W : WX}
end
end DI
set_option Elab.async false
set_option autoImplicit false
set_option linter.all false
set_option maxRecDepth 100000
set_option maxHeartbeats 3200000
/-! DI32: list(range(a, b)) of great bounds. -/
namespace DI
section
open PySem
open Sem (wp)
variable {prog : Program} {w : World} {A : Around} {E : Value → Shared → Prop} {s : Shared}
end
open PySem PySem.Spec PyProof.Rows
open L2 hiding XE Takes Takes.imp CX XE.of_call XE.new XE.leave takes_of passes_call Sky.land MkP PMk ps_raise mk_of ps_try_as HdsOk ps_try_many pmk_own passAt takes_none5 takes0 passL mk_end pmk_oex
open L2N hiding St
def gLB2 : Prim
  | [.int a, .int b] => if (b - a).toNat ≤ 2 ^ 24 then some (.lst (rangeD a (b - a).toNat)) else none
  | _ => none
def rLB2 : RL := fun vs H Q => match vs with
  | [x, y] => ∃ i j, x = .int i ∧ y = .int j ∧ (j - i).toNat ≤ 2 ^ 24 ∧ ∀ q, H q = none → Q (.ref q) (upd H q (.lst (rgV i j)))
  | _ => False
section
variable {X : Cx} {ms : List Md} {m : Md} {a b : Expr} {oa ob : Opd} {p q pos pos2 : Pos}
end
end DI
set_option Elab.async false
set_option autoImplicit false
set_option linter.all false
set_option maxRecDepth 100000
set_option maxHeartbeats 2000000
/-! DI33: instances: fields read and set, own fields' lists changed, methods, construction. -/
namespace DI
open PySem PySem.Spec PyProof.Rows
open L2 hiding XE Takes Takes.imp CX XE.of_call XE.new XE.leave takes_of passes_call Sky.land MkP PMk ps_raise mk_of ps_try_as HdsOk ps_try_many pmk_own passAt takes_none5 takes0 passL mk_end pmk_oex
open L2N hiding St
abbrev docT : OT := .ob "Document" ["own_widths", "lengths", "operations", "past"] (.sh (.sh (.ow .l0 (.ow .l0 .nil))))
abbrev conT : OT := .ob "Console" ["own_widths"] (.sh .nil)
def OTs.shAt : OTs → Nat → Bool
  | .sh _, 0 => true
  | .sh r, j + 1 => r.shAt j
  | .ow _ r, j + 1 => r.shAt j
  | _, _ => false
def OTs.owAt : OTs → Nat → Bool
  | .ow t _, 0 => (match t with
    | .l0 => true
    | _ => false)
  | .sh r, j + 1 => r.owAt j
  | .ow _ r, j + 1 => r.owAt j
  | _, _ => false
/-- what is known of a class with these fields -/
structure ClsI (K : PySem.W.Frag) (c : Str) (ns : List Str) : Prop where
  cls : Cls K (gAd K c)
  no : ∀ f ∈ ns, NoAttr K (gAd K c) f
section
variable {K : PySem.W.Frag} {I I' H H' : Hp}
theorem RepF.len : ∀ {ts : OTs} {xs : List V} {ds : List D} {fp : List Addr}, RepF K I H ts xs ds fp → xs.length = ds.length
  | _, _, _, _, .nil => rfl
  | _, _, _, _, .sh _ r => congrArg (· + 1) r.len
  | _, _, _, _, .ow _ r => congrArg (· + 1) r.len
end
/-! ### the fields of an instance by name -/
/-! ### the instance of a slot -/
section
variable {K : PySem.W.Frag} {I H : Hp} {ms : List Md} {σ : L2.St} {env : Env} {fp : List Addr} {i : Nat} {c : Str} {ns : List Str} {ts : OTs}
end
/-! ### o.f, a shared field -/
def cFld (i j : Nat) : CE := fun env => match getS env i with
  | some (.ob ds) => match ds[j]? with
    | some d => some (.ok d, env)
    | none => none
  | _ => none
section
variable {X : Cx} {xm : List Bool} {ms B : List Md} {ro m : Md} {e a : Expr} {es : List Expr} {fe fx : CE} {os : List Opd} {pos p apos cpos : Pos} {W : WX} {c : Str} {ns : List Str} {ts : OTs} {i j : Nat} {x f : Str}
end
/-! ### o.f = e -/
def cSetF (i j : Nat) (fe : CE) : CS := fun env => mbind (fe env) fun d e1 => match getS e1 i with
  | some (.ob ds) => if j < ds.length then some (.ok .nx, e1.set i (some (.ob (ds.set j d)))) else if j = ds.length then some (.ok .nx, e1.set i (some (.ob (ds ++ [d])))) else none
  | _ => none
def cNewF (i j : Nat) (fe : CE) : CS := fun env => mbind (fe env) fun d e1 => match getS e1 i with
  | some (.ob ds) => if j = ds.length then some (.ok .nx, e1.set i (some (.ob (ds ++ [d])))) else none
  | _ => none
section
variable {X : Cx} {xm : List Bool} {ms B : List Md} {ro m : Md} {e a : Expr} {es : List Expr} {fe fx : CE} {os : List Opd} {pos p apos cpos pp : Pos} {W : WX} {c : Str} {ns : List Str} {ts : OTs} {i j : Nat} {x f : Str}
theorem Step.fv {I H I1 H1 I2 H2 : Hp} {fp fp1 fp2 fv : List Addr} (t : Step I H fp I1 H1 (fv ++ fp1)) (u : Step I1 H1 (fv ++ fp1) I2 H2 fp2) : Step I H fp I2 H2 fp2 := t.trans u
end
end DI
set_option Elab.async false
set_option autoImplicit false
set_option linter.all false
set_option maxRecDepth 100000
set_option maxHeartbeats 2000000
/-! DI34: own fields' lists changed; methods; construction. -/
namespace DI
open PySem PySem.Spec PyProof.Rows
open L2 hiding XE Takes Takes.imp CX XE.of_call XE.new XE.leave takes_of passes_call Sky.land MkP PMk ps_raise mk_of ps_try_as HdsOk ps_try_many pmk_own passAt takes_none5 takes0 passL mk_end pmk_oex
open L2N hiding St
section
variable {K : PySem.W.Frag} {I H : Hp} {ms : List Md} {σ : L2.St} {env : Env} {fp : List Addr} {i j : Nat} {c : Str} {ns : List Str} {ts : OTs}
end
/-! ### o.f.append(..) -/
def cAppF (i j : Nat) (g : Env → Option D) : CE := fun env => match getS env i with
  | some (.ob ds) => match ds[j]? with
    | some (.lst es) => match g env with
      | some d => if es.length < sizeLine then some (.ok .non, env.set i (some (.ob (ds.set j (.lst (es ++ [d])))))) else none
      | none => none
    | _ => none
  | _ => none
/-- two fields of the slot i -/
def two (i a b : Nat) : Env → Option D := fun env => match getS env i with
  | some (.ob ds) => match ds[a]?, ds[b]? with
    | some x, some y => some (.tup [x, y])
    | _, _ => none
  | _ => none
section
variable {X : Cx} {xm : List Bool} {ms B : List Md} {ro m : Md} {e : Expr} {es : List Expr} {fe fx : CE} {os : List Opd} {pos p apos cpos pp : Pos} {W : WX} {c : Str} {ns : List Str} {ts : OTs} {i j k : Nat} {x y f : Str}
end
end DI
set_option Elab.async false
set_option autoImplicit false
set_option linter.all false
set_option maxRecDepth 100000
set_option maxHeartbeats 2000000
/-! DI35: methods; construction. -/
namespace DI
open PySem PySem.Spec PyProof.Rows
open L2 hiding XE Takes Takes.imp CX XE.of_call XE.new XE.leave takes_of passes_call Sky.land MkP PMk ps_raise mk_of ps_try_as HdsOk ps_try_many pmk_own passAt takes_none5 takes0 passL mk_end pmk_oex
open L2N hiding St
/-! ### o.m(..) -/
def tGm (sp : Sp) (C : Addr) (mm : Str) (n m : Nat) (perm : List Nat) (dvs : List V) (W : WX) (ta : TE) (t tk : TA) : TE := fun σ H Q => ta σ H fun x H1 => (∃ a dx fs, x = .ref a ∧ H1 a = some (.ins C dx fs) ∧ fs.lookup mm = none) ∧
  t σ H1 fun vs H2 => tk σ H2 fun zs H3 => vs.length = n ∧ zs.length = m ∧ sp (sel perm (x :: vs ++ zs ++ dvs)) H3 Q (fun c d H' => W c d σ H')
section
variable {X : Cx} {k n : Nat} {f C : Addr} {fd : FuncData} {ps ks : List Str} {sp : Sp} {perm : List Nat} {dvs : List V} {x mm : Str} {p pos apos : Pos} {o e : Expr} {es : List Expr} {kws : List Keyword} {ta : TE} {t tk : TA} {W : WX}
end
/-- a method's call: the slot i holds an instance -/
def cMeth (i : Nat) (f : CE) : CE := fun env => match getS env i with
  | some (.ob _) => f env
  | _ => none
section
variable {X : Cx} {ms : List Md} {k i : Nat} {f : Addr} {fd : FuncData} {ps ks : List Str} {x mm : Str} {p pos apos : Pos} {e : Expr} {es : List Expr} {kws : List Keyword} {F : FnD} {kinds : List AK} {ro : Md} {perm : List Nat} {dvs : List V} {dds : List D} {os oks : List Opd} {c : Str} {ns : List Str} {ts : OTs}
end
/-! ### C(..) -/
section
variable {K : PySem.W.Frag} {I H : Hp}
theorem Slots.pop {m : Md} {o : Option V} : ∀ {ms : List Md} {σ : L2.St} {env : Env} {fp : List Addr}, Slots K I H (ms ++ [m]) (σ ++ [o]) env fp → ms.length = σ.length →
    ∃ fp1 fp2, Slots K I H ms σ (env.take ms.length) fp1 ∧ fp = fp1 ++ fp2 ∧ (∀ d, env[ms.length]? = some (some d) → ∃ v, o = some v ∧ RepM m K I H v d fp2)
  | [], [], _, _, s, _ => by
    cases s with
    | non s => exact ⟨[], _, .nil, rfl, fun d h => by simp at h⟩
    | som q s =>
      cases s
      exact ⟨[], _, .nil, rfl, fun d h => by simp at h; subst h; exact ⟨_, rfl, by simpa using q⟩⟩
  | [], _ :: _, _, _, _, h => by cases h
  | _ :: _, [], _, _, _, h => by cases h
  | m' :: ms, o' :: σ, _, _, s, hl => by
    cases s with
    | non s =>
      obtain ⟨fp1, fp2, a, b, c⟩ := s.pop (by simpa using hl)
      exact ⟨fp1, fp2, .non a, b, fun d h => c d (by simpa using h)⟩
    | som q s =>
      obtain ⟨fp1, fp2, a, b, c⟩ := s.pop (by simpa using hl)
      refine ⟨_ ++ fp1, fp2, .som q a, ?_, fun d h => c d (by simpa using h)⟩
      rw [b, List.append_assoc]
end
def tGk (C : Addr) (sp : Sp) (n m : Nat) (perm : List Nat) (dvs : List V) (W : WX) (t tk : TA) : TE := fun σ H Q => t σ H fun vs H1 => tk σ H1 fun zs H2 => vs.length = n ∧ zs.length = m ∧
  ∀ x dx, H2 x = none → H2 dx = none → dx ≠ x → sp (sel perm (.ref x :: vs ++ zs ++ dvs)) (upd (upd H2 dx (.own x)) x (.ins C dx [])) (fun v H3 => v = .non ∧ Q (.ref x) H3) (fun c d H' => W c d σ H')
section
variable {X : Cx} {k n : Nat} {f C : Addr} {fd : FuncData} {ps ks : List Str} {sp : Sp} {perm : List Nat} {dvs : List V} {x : Str} {p pos : Pos} {e : Expr} {es : List Expr} {kws : List Keyword} {t tk : TA} {W : WX}
end
/-- C(..): a new instance, changed by __init__ -/
def cMake (F : FnD) (kinds : List AK) (perm : List Nat) (dds : List D) (os : List Opd) : CE := fun env => mbind (evalOs os env) fun ds e => match F (sel perm (.ob [] :: ds ++ dds)) with
  | some (.ok .non, fin) => if okBo kinds .sh (.ok .non) fin = true then (match fin with
    | some d :: _ => some (.ok d, (backE kinds fin (e ++ [some (.ob [])])).take e.length)
    | _ => none) else none
  | some (.error x, fin) => if okBo kinds .sh (.error x) fin = true then some (.error x, (backE kinds fin (e ++ [some (.ob [])])).take e.length) else none
  | _ => none
theorem getS_app : ∀ {env : Env} {i : Nat} {d : D} {r : Env}, getS env i = some d → getS (env ++ r) i = some d
  | [], _, _, _, h => by simp [getS] at h
  | o :: env, 0, d, r, h => h
  | o :: env, i + 1, d, r, h => getS_app (env := env) (i := i) h
theorem OpRs.more {K : PySem.W.Frag} {I H : Hp} {σ σ2 : L2.St} {env e2 : Env} : ∀ {os : List Opd} {vs : List V} {ds : List D}, OpRs K I H σ env os vs ds → OpRs K I H (σ ++ σ2) (env ++ e2) os vs ds
  | _, _, _, .nil => .nil
  | _, _, _, .tm h r => .tm h r.more
  | _, _, _, .vr (i := i) h1 h2 r => .vr (by rw [List.getElem?_append_left (List.getElem?_eq_some_iff.mp h1).1]; exact h1) (getS_app h2) r.more
section
variable {X : Cx} {ms : List Md} {k n : Nat} {f : Addr} {fd : FuncData} {ps ks : List Str} {x : Str} {p pos : Pos} {e : Expr} {es : List Expr} {kws : List Keyword} {F : FnD} {kinds : List AK} {perm : List Nat} {dvs : List V} {dds : List D} {os oks : List Opd} {c : Str} {ns : List Str} {ts : OTs}
end
end DI
set_option Elab.async false
set_option autoImplicit false
set_option linter.all false
set_option maxRecDepth 100000
set_option maxHeartbeats 2000000
/-! DI36: a class's methods in the text; a default that is an empty tuple. -/
namespace DI
open PySem PySem.Spec PyProof.Rows
open L2 hiding XE Takes Takes.imp CX XE.of_call XE.new XE.leave takes_of passes_call Sky.land MkP PMk ps_raise mk_of ps_try_as HdsOk ps_try_many pmk_own passAt takes_none5 takes0 passL mk_end pmk_oex
open L2N hiding St
abbrev docS : OTs := .sh (.sh (.ow .l0 (.ow .l0 .nil)))
abbrev conS : OTs := .sh .nil
def methI (st : Stmt) (k : Nat) : Stmt := match st with
  | .ClassDef _ _ _ body _ _ _ _ _ _ pos => body.getD k (.Pass pos)
  | s => s
def etupB (p : PySem.W.Frag → Addr) (K : PySem.W.Frag) : Bool := match K.lookup (p K) with
  | some ⟨.type "tuple", _, .seq its _, _⟩ => its.size == 0
  | _ => false
end DI
set_option Elab.async false
set_option autoImplicit false
set_option linter.all false
set_option maxRecDepth 100000
set_option maxHeartbeats 2000000
/-! DI37: isinstance(e, (T, U)). -/
namespace DI
open PySem PySem.Spec PyProof.Rows
open L2 hiding XE Takes Takes.imp CX XE.of_call XE.new XE.leave takes_of passes_call Sky.land MkP PMk ps_raise mk_of ps_try_as HdsOk ps_try_many pmk_own passAt takes_none5 takes0 passL mk_end pmk_oex
open L2N hiding St
def isTy2 (n1 n2 : String) (d : D) : Option D := match d.tyName with
  | some t => match isTyN t n1, isTyN t n2 with
    | some a, some b => some (.bl (a || b))
    | _, _ => none
  | none => none
def cIsi2 (n1 n2 : String) (f : CE) : CE := fun env => mbind (f env) fun d e => match isTy2 n1 n2 d with
  | some r => some (.ok r, e)
  | none => none
section
variable {X : Cx} {ms : List Md} {e : Expr} {f : CE} {x y : Str} {n1 n2 : String} {p p1 p2 tpos cpos : Pos} {k : Nat}
end
/-! ### zip of two lists or two tuples -/
def giZA : List D → Option (List D)
  | [.lst ds, .lst es] => some (zipD ds es)
  | [.tup ds, .tup es] => some (zipD ds es)
  | _ => none
section
variable {X : Cx} {ms : List Md} {tg a b c : Expr} {fa fb fc : CE} {p pos tpos : Pos} {elts : List Expr} {kk : Nat}
end
end DI
set_option Elab.async false
set_option autoImplicit false
set_option linter.all false
set_option maxRecDepth 100000
set_option maxHeartbeats 2000000
/-! DI38: texts: order of signs, int of a text; global tables and tuples. -/
namespace DI
open PySem PySem.Spec PyProof.Rows
open L2 hiding XE Takes Takes.imp CX XE.of_call XE.new XE.leave takes_of passes_call Sky.land MkP PMk ps_raise mk_of ps_try_as HdsOk ps_try_many pmk_own passAt takes_none5 takes0 passL mk_end pmk_oex
open L2N hiding St
def gLeS : Prim
  | [.str a, .str b] => some (.bl (!decide (b.cps.toList < a.cps.toList)))
  | _ => none
def gIntS : Prim
  | [.str a] => if a.length ≤ 640 then (PySem.intText? a).map .int else none
  | _ => none
/-! ### a tuple of the top -/
/-- the global x is the tuple ds -/
def GTup (K : PySem.W.Frag) (mg : Str → Option Value) (x : Str) (ds : List D) : Prop := ∃ a, mg x = some (.ref a) ∧ ∀ I, Rep K I (.ref a) (.tup ds)
/-! ### a table of the top, text keys, ints -/
def GKd (K : PySem.W.Frag) (w : World) (mg : Str → Option Value) (x : Str) (kvs : List (Str × Int)) : Prop := ∃ a es n, mg x = some (.ref a) ∧ KDict K w a es n ∧ ∀ q ∈ kvs, ∃ u, PySem.W.nsIn K a q.1 = some (some u) ∧ RelV (.int q.2) u
abbrev kv_WORD_COUNTS : List (Str × Int) := [("show", 1), ("normal", 1), ("widths", 2), ("column", 2), ("count", 2), ("break", 2), ("compare", 2), ("read", 2)]
def look (kvs : List (Str × Int)) (z : Str) : Option Int := (kvs.find? fun q => q.1 == z).map (·.2)
def cNotInK (kvs : List (Str × Int)) (f : CE) : CE := fun env => mbind (f env) fun d e => match d with
  | .str z => (match look kvs z with
    | some _ => some (.ok (.bl false), e)
    | none => none)
  | _ => none
def cItemK (kvs : List (Str × Int)) (f : CE) : CE := fun env => mbind (f env) fun d e => match d with
  | .str z => (match look kvs z with
    | some i => some (.ok (.int i), e)
    | none => none)
  | _ => none
section
variable {X : Cx} {ms : List Md} {e : Expr} {f : CE} {x : Str} {kvs : List (Str × Int)} {p pos : Pos}
end
/-! ### the hook with tables -/
abbrev AlXT : Type := He.AlD × List (Option (List (Option (Str × Int))))
def obsXT (fb : PySem.W.Frag → Bool) (fa : List He.Fa) (fn : List He.DefD) (ts : List He.Tab) (K : PySem.W.Frag) : AlXT := (obsX fb fa fn K, ts.map fun t => He.dicW K (t.1 K))
def valXT (fn : List He.DefD) (ts : List He.Tab) (w : World) : AlXT := (He.valD fn, ts.map fun t => some (He.keysIn w.params t.2))
def obsXTG (n : Nat) (fb : PySem.W.Frag → Bool) (fa : List He.Fa) (fn : List He.DefD) (ts : List He.Tab) (g : Addr → Option Obj) : AlXT := obsXT fb fa fn ts (He.frG g (He.asD g n))
def SaysXT (fb : PySem.W.Frag → Bool) (fa : List He.Fa) (fn : List He.DefD) (ts : List He.Tab) (w : World) (K : PySem.W.Frag) : Prop := obsXT fb fa fn ts K = valXT fn ts w
def hookXT (n : Nat) (fb : PySem.W.Frag → Bool) (fa : List He.Fa) (fn : List He.DefD) (ts : List He.Tab) : PySem.W.Hook where
  α := AlXT
  obs := fun s => obsXTG n fb fa fn ts s.heap.get?
  val := fun w => valXT fn ts w
  says := fun w h => ∃ K : PySem.W.Frag, K.In h ∧ SaysXT fb fa fn ts w K
  of := fun _ _ e => ⟨_, He.frG_in, e⟩
  keeps := fun _ _ _ ⟨K, hK, c⟩ k => ⟨K, PySem.W.Frag.In.keeps hK k, c⟩
section
variable {fb : PySem.W.Frag → Bool} {fa : List He.Fa} {fn : List He.DefD} {ts : List He.Tab} {w : World} {K : PySem.W.Frag}
theorem SaysXT.x (c : SaysXT fb fa fn ts w K) : SaysX fb fa fn K := congrArg (fun z : AlXT => z.1) c
theorem SaysXT.tab (c : SaysXT fb fa fn ts w K) (i : Nat) {t : He.Tab} (h : ts[i]? = some t := by rfl) : ∃ es n, KDict K w (t.1 K) es n := by
  have e : ts.map (fun t => He.dicW K (t.1 K)) = ts.map fun t => some (He.keysIn w.params t.2) := congrArg (fun z : AlXT => z.2) c
  have e2 : (ts.map fun t => He.dicW K (t.1 K))[i]? = (ts.map fun t => some (He.keysIn w.params t.2))[i]? := by rw [e]
  rw [List.getElem?_map, List.getElem?_map, h] at e2
  exact He.dicW_ok (Option.some.inj e2)
end
end DI
set_option Elab.async false
set_option autoImplicit false
set_option linter.all false
set_option maxRecDepth 100000
set_option maxHeartbeats 2000000
/-! DI39: a text in a tuple of texts. -/
namespace DI
open PySem PySem.Spec PyProof.Rows
open L2 hiding XE Takes Takes.imp CX XE.of_call XE.new XE.leave takes_of passes_call Sky.land MkP PMk ps_raise mk_of ps_try_as HdsOk ps_try_many pmk_own passAt takes_none5 takes0 passL mk_end pmk_oex
open L2N hiding St
def gInT : Prim
  | [.str a, .tup ds] => (strsOf ds).map fun ys => .bl (ys.any fun y => y == a)
  | _ => none
end DI
set_option Elab.async false
set_option autoImplicit false
set_option linter.all false
set_option maxRecDepth 100000
set_option maxHeartbeats 2000000
/-! DI40: an instance's own lists read, popped; fields set together. -/
namespace DI
open PySem PySem.Spec PyProof.Rows
open L2 hiding XE Takes Takes.imp CX XE.of_call XE.new XE.leave takes_of passes_call Sky.land MkP PMk ps_raise mk_of ps_try_as HdsOk ps_try_many pmk_own passAt takes_none5 takes0 passL mk_end pmk_oex
open L2N hiding St
/-! ### a prim of an own field -/
def cFldP (i j : Nat) (g : Prim) : CE := fun env => match getS env i with
  | some (.ob ds) => match ds[j]? with
    | some (.lst es) => pOut (g [.lst es]) env
    | _ => none
  | _ => none
/-- an own field, compared with [] -/
def cFldZ (i j : Nat) (g : Prim) : CE := fun env => match getS env i with
  | some (.ob ds) => match ds[j]? with
    | some (.lst es) => pOut (g [.lst es, .lst []]) env
    | _ => none
  | _ => none
section
variable {X : Cx} {xm : List Bool} {ms B : List Md} {ro m : Md} {e : Expr} {es : List Expr} {fe fx : CE} {os : List Opd} {pos p apos cpos pp : Pos} {W : WX} {c : Str} {ns : List Str} {ts : OTs} {i j k : Nat} {x y f : Str} {fr : Bool}
end
/-! ### o.f.pop() -/
def cMutF (i j : Nat) (g : List D → List D → Option (D × List D)) : CE := fun env => match getS env i with
  | some (.ob ds) => match ds[j]? with
    | some (.lst es) => match g es [] with
      | some (d, es') => some (.ok d, env.set i (some (.ob (ds.set j (.lst es')))))
      | none => none
    | _ => none
  | _ => none
section
variable {X : Cx} {xm : List Bool} {ms B : List Md} {ro m : Md} {e : Expr} {es : List Expr} {fe fx : CE} {os : List Opd} {pos p apos cpos pp : Pos} {W : WX} {c : Str} {ns : List Str} {ts : OTs} {i j k : Nat} {x y f : Str} {fr : Bool}
/-! ### a.f = .. within a tuple of targets -/
def gFldT (K : PySem.W.Frag) (ta : TE) (f : Str) : TG := fun v σ H Q => ta σ H fun x H1 => ∃ a C dx fs, x = .ref a ∧ H1 a = some (.ins C dx fs) ∧ Cls K C ∧ NoAttr K C f ∧ fs.length < 1000 ∧ Q σ (upd H1 a (.ins C dx (putF f v fs)))
end
/-! ### a.f1, a.f2 = a.f.pop() -/
def cPopU (i j n1 n2 : Nat) : CS := fun env => match getS env i with
  | some (.ob ds) => match ds[j]? with
    | some (.lst es) => match mPop es [] with
      | some (.tup [d1, d2], es') => if n1 < ds.length ∧ n2 < ds.length then some (.ok .nx, env.set i (some (.ob (((ds.set j (.lst es')).set n1 d1).set n2 d2)))) else none
      | _ => none
    | _ => none
  | _ => none
section
variable {X : Cx} {xm : List Bool} {ms B : List Md} {ro m : Md} {e : Expr} {es : List Expr} {fe fx : CE} {os : List Opd} {pos p apos cpos pp : Pos} {W : WX} {c : Str} {ns : List Str} {ts : OTs} {i j k n1 n2 : Nat} {x y f f1 f2 : Str} {fr : Bool}
end
end DI
set_option Elab.async false
set_option autoImplicit false
set_option linter.all false
set_option maxRecDepth 100000
set_option maxHeartbeats 2000000
/-! DI41: len, == and isinstance of an instance of the text's own class. -/
namespace DI
open PySem PySem.Spec PyProof.Rows
open L2 hiding XE Takes Takes.imp CX XE.of_call XE.new XE.leave takes_of passes_call Sky.land MkP PMk ps_raise mk_of ps_try_as HdsOk ps_try_many pmk_own passAt takes_none5 takes0 passL mk_end pmk_oex
open L2N hiding St
section
variable {X : Cx} {k : Nat} {f C : Addr} {fd : FuncData} {ps : List Str} {sp : Sp}
/-- len of an instance, by its own __len__ -/
def rLenO (sp : Sp) (C : Addr) : RL := fun xs H Q => ∃ a dx fs, xs = [.ref a] ∧ H a = some (.ins C dx fs) ∧ sp [.ref a] H (fun v H' => ∃ n : Int, v = .int n ∧ 0 ≤ n ∧ n < 2 ^ 63 ∧ Q (.int n) H') fun _ _ _ => False
/-- == of two instances, by their own __eq__ -/
def rEqO (sp : Sp) (C : Addr) : R2 := fun x y H Q => ∃ a dx fs b dy gs, x = .ref a ∧ y = .ref b ∧ H a = some (.ins C dx fs) ∧ H b = some (.ins C dy gs) ∧ sp [.ref a, .ref b] H (fun v H' => ∃ n : Bool, v = .bl n ∧ Q (.bl n) H') fun _ _ _ => False
end
/-! ### readings -/
/-- len(x), x in the slot i -/
def cLenO (i : Nat) (t : OT) (F : FnD) : CE := fun env => match getS env i with
  | some (.ob _) => match cCall F [.lo i t] .sh [0] [] [.vr i] env with
    | some (.ok (.int n), e) => if 0 ≤ n ∧ n < 2 ^ 63 then some (.ok (.int n), e) else none
    | _ => none
  | _ => none
/-- x == y, x and y in the slots i and j -/
def cEqV (i j : Nat) (t : OT) (F : FnD) : CE := fun env => match getS env i, getS env j with
  | some (.ob _), some (.ob _) => match cCall F [.lo i t, .lo j t] .sh [0, 1] [] [.vr i, .vr j] env with
    | some (.ok (.bl n), e) => some (.ok (.bl n), e)
    | _ => none
  | _, _ => none
/-- a == b, both made anew -/
def cEqT (F : FnD) (fa fb : CE) : CE := fun env => mbind (evalOs [.tm fa, .tm fb] env) fun ds e => match ds with
  | [.ob a, .ob b] => match F [.ob a, .ob b] with
    | some (.ok (.bl n), _) => some (.ok (.bl n), e)
    | _ => none
  | _ => none
section
variable {X : Cx} {ms : List Md} {k i j : Nat} {f : Addr} {fd : FuncData} {ps ks : List Str} {x y z : Str} {p p2 pos : Pos} {e a b : Expr} {F : FnD} {fa fb : CE} {c : Str} {ns : List Str} {ts : OTs}
end
/-! ### isinstance(x, C), x in the slot i -/
def cIsO (i : Nat) : CE := fun env => match getS env i with
  | some (.ob _) => some (.ok (.bl true), env)
  | _ => none
section
variable {X : Cx} {ms : List Md} {i : Nat} {x z : Str} {p p2 p3 pos : Pos} {c : Str} {ns : List Str} {ts : OTs}
end
/-! ### the head's test for isinstance -/
def insB (c : Str) (K : PySem.W.Frag) : Bool := He.eqO (PySem.W.findIn K (.ref (He.ga K c)) "__class__") (some (some (.builtin "object.__class__"))) && (He.eqO (PySem.W.specialIn K (.builtin "object.__class__") "__get__") (some (some (.builtin "getset_descriptor.__get__"))) && (decide (PySem.W.takesIn K (.builtin "object.__class__") = some true) && (decide (PySem.W.mroIn K (He.ga K c) (.type "object") = some true) && decide (PySem.W.kitOne K (.ref (He.ga K c)) (.ref (He.ga K c)) = some true))))
end DI
set_option Elab.async false
set_option autoImplicit false
set_option linter.all false
set_option maxRecDepth 100000
set_option maxHeartbeats 2000000
/-! DI42: != of instances of the text's own class. -/
namespace DI
open PySem PySem.Spec PyProof.Rows PySem.SeqAt
section
variable {M : Model} {prog : Program} {w : World} {A : Around} {E : Value → Shared → Prop} {s : Shared} {K : PySem.W.Frag} {x y C f : Addr} {ox : Obj} {od : Option Obj}
end
end DI
namespace DI
open PySem PySem.Spec PyProof.Rows
open L2 hiding XE Takes Takes.imp CX XE.of_call XE.new XE.leave takes_of passes_call Sky.land MkP PMk ps_raise mk_of ps_try_as HdsOk ps_try_many pmk_own passAt takes_none5 takes0 passL mk_end pmk_oex
open L2N hiding St
def rNeO (sp : Sp) (C : Addr) : R2 := fun x y H Q => ∃ a dx fs b dy gs, x = .ref a ∧ y = .ref b ∧ H a = some (.ins C dx fs) ∧ H b = some (.ins C dy gs) ∧ sp [.ref a, .ref b] H (fun v H' => ∃ n : Bool, v = .bl n ∧ Q (.bl (!n)) H') fun _ _ _ => False
/-- what the head says for != -/
structure NeC (K : PySem.W.Frag) (C : Addr) : Prop where
  hm : PySem.W.mroIn K C (.type "object") = some true
  hn : PySem.W.findIn K (.ref C) "__ne__" = some (some (.builtin "object.__ne__"))
def neB (c : Str) (K : PySem.W.Frag) : Bool := decide (PySem.W.mroIn K (He.ga K c) (.type "object") = some true) && He.eqO (PySem.W.findIn K (.ref (He.ga K c)) "__ne__") (some (some (.builtin "object.__ne__")))
section
variable {X : Cx} {ms : List Md} {k i j : Nat} {f C : Addr} {fd : FuncData} {ps ks : List Str} {sp : Sp} {x y z : Str} {p p2 pos : Pos} {e a b : Expr} {F : FnD} {fa fb : CE} {c : Str} {ns : List Str} {ts : OTs}
def cNeV (i j : Nat) (t : OT) (F : FnD) : CE := fun env => match getS env i, getS env j with
  | some (.ob _), some (.ob _) => match cCall F [.lo i t, .lo j t] .sh [0, 1] [] [.vr i, .vr j] env with
    | some (.ok (.bl n), e) => some (.ok (.bl (!n)), e)
    | _ => none
  | _, _ => none
end
section
variable {X : Cx} {xm : List Bool} {ms ms' B : List Md} {ro : Md} {pos : Pos}
end
end DI
set_option Elab.async false
set_option autoImplicit false
set_option linter.all false
set_option maxRecDepth 100000
set_option maxHeartbeats 2000000
/-! DI43: {} as a value; repr of data that holds empty dicts. -/
namespace DI
open PySem PySem.Spec PyProof.Rows
open L2 hiding XE Takes Takes.imp CX XE.of_call XE.new XE.leave takes_of passes_call Sky.land MkP PMk ps_raise mk_of ps_try_as HdsOk ps_try_many pmk_own passAt takes_none5 takes0 passL mk_end pmk_oex
open L2N hiding St
/-! ### data that holds empty dicts -/
mutual
inductive Dq (K : PySem.W.Frag) (H : Hp) : V → PyData → Prop
  | non : Dq K H .non .none
  | bl (b : Bool) : Dq K H (.bl b) (.bool b)
  | int (i : Int) : Dq K H (.int i) (.int i)
  | str (x : Str) : Dq K H (.str x) (.str x)
  | lst {a : Addr} {xs : List V} {ds : List PyData} : SqL K H a xs → DqAll K H xs ds → Dq K H (.ref a) (.list ds)
  | tup {a : Addr} {xs : List V} {ds : List PyData} : SqT K H a xs → DqAll K H xs ds → Dq K H (.ref a) (.tuple ds)
  | dic {a : Addr} : H a = some (.dK []) → Dq K H (.ref a) (.dict [])
inductive DqAll (K : PySem.W.Frag) (H : Hp) : List V → List PyData → Prop
  | nil : DqAll K H [] []
  | cons {v : V} {vs : List V} {d : PyData} {ds : List PyData} : Dq K H v d → DqAll K H vs ds → DqAll K H (v :: vs) (d :: ds)
end
mutual
def D.py2 : D → Option PyData
  | .non => some .none
  | .bl b => some (.bool b)
  | .int i => some (.int i)
  | .str x => some (.str x)
  | .lst xs => (D.pys2 xs).map .list
  | .tup xs => (D.pys2 xs).map .tuple
  | .dic ks _ => if ks.isEmpty = true then some (.dict []) else none
  | .scr _ => none
  | .sta _ => none
  | .ty _ => none
  | .gl _ => none
  | .exn _ _ _ => none
  | .ob _ => none
def D.pys2 : List D → Option (List PyData)
  | [] => some []
  | d :: ds => match d.py2, D.pys2 ds with
    | some p, some ps => some (p :: ps)
    | _, _ => none
end
section
variable {K : PySem.W.Frag} {I H : Hp}
theorem pys2_cons {d : D} {ds : List D} {ps : List PyData} (h : D.pys2 (d :: ds) = some ps) : ∃ p r, ps = p :: r ∧ d.py2 = some p ∧ D.pys2 ds = some r := by
  unfold D.pys2 at h
  cases h1 : d.py2 with
  | none => simp [h1] at h
  | some p =>
    cases h2 : D.pys2 ds with
    | none => simp [h1, h2] at h
    | some r => simp [h1, h2] at h; exact ⟨p, r, h.symm, rfl, rfl⟩
mutual
theorem Rep.dq (e : Ext I H) : ∀ {v : V} {d : D} {p : PyData}, Rep K I v d → d.py2 = some p → Dq K H v p
  | _, _, _, .non, h => by cases h; exact .non
  | _, _, _, .bl b, h => by cases h; exact .bl b
  | _, _, _, .int b, h => by cases h; exact .int b
  | _, _, _, .str b, h => by cases h; exact .str b
  | _, _, p, .lst (ds := ds) h r, q => by
    unfold D.py2 at q
    cases h2 : D.pys2 ds with
    | none => rw [h2] at q; cases q
    | some ps => rw [h2] at q; cases q; exact .lst (SqL.of (e _ _ h)) (Reps.dq e r h2)
  | _, _, p, .tup (ds := ds) h r, q => by
    unfold D.py2 at q
    cases h2 : D.pys2 ds with
    | none => rw [h2] at q; cases q
    | some ps => rw [h2] at q; cases q; exact .tup (e.t h) (Reps.dq e r h2)
  | _, _, p, .dic (ks := ks) (xs := xs) h l _, q => by
    unfold D.py2 at q
    split at q
    · rename_i hk
      cases q
      have hk' : ks = [] := List.isEmpty_iff.mp hk
      subst hk'
      exact .dic (e _ _ (by simpa using h))
    · cases q
  | _, _, _, .scr _, h => by cases h
  | _, _, _, .sta _, h => by cases h
  | _, _, _, .ty _, h => by cases h
  | _, _, _, .gl _, h => by cases h
  | _, _, _, .ex0 _, h => by cases h
  | _, _, _, .ex1 _ _ _ _, h => by cases h
theorem Reps.dq (e : Ext I H) : ∀ {vs : List V} {ds : List D} {ps : List PyData}, Reps K I vs ds → D.pys2 ds = some ps → DqAll K H vs ps
  | _, _, _, .nil, h => by cases h; exact .nil
  | _, _, _, .cons a b, h => by
    obtain ⟨p, r, rfl, h1, h2⟩ := pys2_cons h
    exact .cons (Rep.dq e a h1) (Reps.dq e b h2)
end
end
section
variable {X : Cx} {pins : List (Addr × Obj)} {σ : L2.St} {H : Hp} {s : Shared}
theorem Rd1.dq {K : PySem.W.Frag} {I H : Hp} (e : Ext I H) {v : V} {d : D} {p : PyData} (h : Rd1 K I H v d) (q : d.py2 = some p) : Dq K H v p := by
  cases d with
  | lst ds =>
    obtain ⟨a, xs, rfl, h1, h2⟩ := h
    unfold D.py2 at q
    cases h3 : D.pys2 ds with
    | none => rw [h3] at q; cases q
    | some ps => rw [h3] at q; cases q; exact .lst (SqL.of h1) (Reps.dq e h2 h3)
  | _ => exact Rep.dq e h q
theorem dk_nil (I : Inv X pins σ H s) {a : Addr} (h : H a = some (.dK [])) : ∃ o n, s.heap.get? a = some o ∧ o.cls = .type "dict" ∧ o.data = .dict #[] n ∧ (a == sysModules) = false := by
  obtain ⟨_, h1, vs, kv, o, es, ep, g, ex, hd, hk, hp, _⟩ := I.hok a _ h
  cases kv
  have e : es = #[] := by
    have := hp.length
    exact Array.eq_empty_of_size_eq_zero (by simpa using this)
  subst e
  exact ⟨o, ep, g, ex.1, hd, h1⟩
mutual
theorem Dq.shows (I : Inv X pins σ H s) : ∀ (d : PyData) (v : V) (u : Value), Dq X.K H v d → RelV v u → d.showable = true → d.shown.length ≤ sizeLine →
    ∃ as bs, Reads s.heap u d as ∧ ReadAtMost s.heap d.depth bs ∧ ReprK X.prog X.w bs s.heap d.depth u d.shown
  | .none, _, _, h, r, _, _ => by
    cases h
    cases r
    exact ⟨_, [], Reads.none, (fun _ h => nomatch h), by simp only [PyData.shown]; exact .of_is ReprIs.none _ _ _⟩
  | .bool b, _, _, h, r, _, _ => by
    cases h
    cases r
    exact ⟨_, [], Reads.bool b, (fun _ h => nomatch h), by simp only [PyData.shown]; exact .of_is (ReprIs.bool b) _ _ _⟩
  | .int i, _, _, h, r, hs, _ => by
    cases h
    obtain ⟨t, rfl⟩ := r
    exact ⟨_, [], Reads.int i t, (fun _ h => nomatch h), by simp only [PyData.shown]; exact .of_is (ReprIs.int t (by simpa [PyData.showable] using hs)) _ _ _⟩
  | .str x, _, _, h, r, _, hz => by
    cases h
    obtain ⟨t, rfl⟩ := r
    exact ⟨_, [], Reads.str x t, (fun _ h => nomatch h), by simp only [PyData.shown]; exact .of_is (ReprIs.str x t (by simpa only [PyData.shown] using hz)) _ _ _⟩
  | .list ds, _, _, h, r, hs, hz => by
    cases h with
    | lst h1 h2 =>
      cases r
      obtain ⟨its, rv, ⟨o, n, ho, hc, _, hd⟩, _⟩ := I.list h1
      have hz' : (listText (PyData.shownAll ds)).length ≤ sizeLine := by simpa only [PyData.shown] using hz
      obtain ⟨as, bs, hr, hb, hk⟩ := Dq.showsAll I ds _ its h2 rv (by simpa [PyData.showable] using hs) fun t ht => Nat.le_trans (listText_mem_le ht) hz'
      have r0 : Reads s.heap (.ref _) (.list ds) _ := Reads.list ho hc hd hr
      have hna := not_mem_of_deeper (bs := bs) r0 (by simp only [PyData.depth]; omega) hb
      refine ⟨_, _, r0, ReadAtMost.cons r0 (by simp only [PyData.depth]; omega) hb, ?_⟩
      simp only [PyData.depth, PyData.shown]
      cases its with
      | nil =>
        cases hr
        simp only [PyData.shownAll, listText_nil]
        exact ReprK.listEmpty ho hc hd
      | cons x l => exact ReprK.list ho hc hd hna (by simpa using hk.length_eq) fun i y e => hk.item i y (by simpa using e)
  | .tuple ds, _, _, h, r, hs, hz => by
    cases h with
    | tup h1 h2 =>
      cases r
      obtain ⟨its, rv, ⟨o, ho, hc, n, hd⟩, _⟩ := I.tuple h1
      have hz' : (tupleText (PyData.shownAll ds)).length ≤ sizeLine := by simpa only [PyData.shown] using hz
      obtain ⟨as, bs, hr, hb, hk⟩ := Dq.showsAll I ds _ its h2 rv (by simpa [PyData.showable] using hs) fun t ht => Nat.le_trans (tupleText_mem_le ht) hz'
      have r0 : Reads s.heap (.ref _) (.tuple ds) _ := Reads.tuple ho hc hd hr
      have hna := not_mem_of_deeper (bs := bs) r0 (by simp only [PyData.depth]; omega) hb
      refine ⟨_, _, r0, ReadAtMost.cons r0 (by simp only [PyData.depth]; omega) hb, ?_⟩
      simp only [PyData.depth, PyData.shown]
      exact ReprK.tuple ho hc hd hna hk
  | .dict [], _, _, h, r, _, _ => by
    cases h with
    | dic h1 =>
      cases r
      obtain ⟨o, n, ho, hc, hd, hsys⟩ := dk_nil I h1
      have r0 : Reads s.heap (.ref _) (.dict []) _ := Reads.dict ho hc hd .nil .nil
      refine ⟨_, _, r0, ReadAtMost.cons r0 (Nat.le_refl _) (bs := []) (fun _ h => nomatch h), ?_⟩
      simp only [PyData.depth, PyData.shown, PyData.shownKv]
      exact ReprK.dict ho hc hd hsys (by simp) .nil
  | .dict (_ :: _), _, _, h, _, _, _ => by cases h
theorem Dq.showsAll (I : Inv X pins σ H s) : ∀ (ds : List PyData) (vs : List V) (us : List Value), DqAll X.K H vs ds → Vals vs us → PyData.showableAll ds = true → (∀ t ∈ PyData.shownAll ds, t.length ≤ sizeLine) →
    ∃ as bs, ReadsAll s.heap us ds as ∧ ReadAtMost s.heap (PyData.depthAll ds) bs ∧ ReprAllK X.prog X.w bs s.heap (PyData.depthAll ds) us (PyData.shownAll ds)
  | [], _, _, h, r, _, _ => by
    cases h
    cases r
    exact ⟨_, [], ReadsAll.nil, (fun _ h => nomatch h), by simp only [PyData.shownAll]; exact .nil⟩
  | d :: ds, _, _, h, r, hs, hz => by
    cases h with
    | cons h1 h2 =>
      cases r with
      | cons r1 r2 =>
        have hs' : d.showable = true ∧ PyData.showableAll ds = true := by simpa [PyData.showableAll] using hs
        obtain ⟨as, b1, q1, hb1, k1⟩ := Dq.shows I d _ _ h1 r1 hs'.1 (hz _ (by simp only [PyData.shownAll]; exact List.mem_cons_self ..))
        obtain ⟨as2, b2, q2, hb2, k2⟩ := Dq.showsAll I ds _ _ h2 r2 hs'.2 fun t ht => hz t (by simp only [PyData.shownAll]; exact List.mem_cons_of_mem _ ht)
        refine ⟨_, b1 ++ b2, ReadsAll.cons q1 q2, ?_, ?_⟩
        · simp only [PyData.depthAll]
          exact (hb1.mono (Nat.le_max_left _ _)).append (hb2.mono (Nat.le_max_right _ _))
        · simp only [PyData.depthAll, PyData.shownAll]
          exact .cons ((k1.more fun b hb => List.mem_append_left _ hb).level_le (Nat.le_max_left _ _)) (k2.more_le (fun b hb => List.mem_append_right _ hb) (Nat.le_max_right _ _))
end
end
def rRepr2 (K : PySem.W.Frag) : RL := fun xs H Q => ∃ x p, xs = [x] ∧ Dq K H x p ∧ (∃ ds, p = .list ds ∨ p = .tuple ds) ∧ p.showable = true ∧ p.depth ≤ 60 ∧ p.shown.length ≤ sizeLine ∧ Q (.str p.shown) H
section
variable {X : Cx}
theorem call_repr2 (hg : X.A.guards = some []) (hu : X.A.units + 64 < cLine) : CallR X (.builtin "repr") (rRepr2 X.K) := by
  intro pins s σ H xs us Q I r h
  obtain ⟨x, p, rfl, hd, hp0, hs, hp, hz, q⟩ := h
  obtain ⟨u, rfl, ru⟩ := vals1 r
  rcases hp0 with ⟨ds, rfl | rfl⟩
  · cases hd with
    | lst h1 h2 =>
      cases ru
      obtain ⟨its, rv, ⟨o, n, ho, hc, _, hd⟩, _⟩ := I.list h1
      have hz' : (listText (PyData.shownAll ds)).length ≤ sizeLine := by simpa only [PyData.shown] using hz
      obtain ⟨as, bs, hr, hb, hk⟩ := Dq.showsAll I ds _ its h2 rv (by simpa [PyData.showable] using hs) fun t ht => Nat.le_trans (listText_mem_le ht) hz'
      have hna := not_mem_of_deeper (bs := bs) (Reads.list ho hc hd hr) (by simp only [PyData.depth]; omega) hb
      refine call_repr_slot (by omega) ⟨o, ho, hc⟩ F.slot_list_repr.toG ?_
      simp only [PyData.shown] at q
      simp only [PyData.depth] at hp
      cases its with
      | nil =>
        cases hr
        simp only [PyData.shownAll, listText_nil] at q
        exact call_list_repr_empty ⟨o, ho, hc⟩ ho hd ⟨_, _, rfl, ⟨.str _, H, I.tok _, ⟨_, rfl⟩, q⟩⟩
      | cons x l =>
        refine call_list_reprK ho hc hd hna (by simpa using hk.length_eq) (fun i y e => hk.item i y (by simpa using e)) hg (fun b _ => Clear.nil b) (by show X.A.units + 1 + _ < _; omega) (fun _ _ e => e) (fun h' u tk hk => ⟨_, _, rfl, ⟨.str _, H, I.kept hk, ⟨_, rfl⟩, q⟩⟩) hz'
  · cases hd with
    | tup h1 h2 =>
      cases ru
      obtain ⟨its, rv, ⟨o, ho, hc, n, hd⟩, _⟩ := I.tuple h1
      have hz' : (tupleText (PyData.shownAll ds)).length ≤ sizeLine := by simpa only [PyData.shown] using hz
      obtain ⟨as, bs, hr, hb, hk⟩ := Dq.showsAll I ds _ its h2 rv (by simpa [PyData.showable] using hs) fun t ht => Nat.le_trans (tupleText_mem_le ht) hz'
      have hna := not_mem_of_deeper (bs := bs) (Reads.tuple ho hc hd hr) (by simp only [PyData.depth]; omega) hb
      refine call_repr_slot (by omega) ⟨o, ho, hc⟩ F.slot_tuple_repr ?_
      simp only [PyData.shown] at q
      simp only [PyData.depth] at hp
      exact call_tuple_reprK ho hc hd hna hk hg (fun b _ => Clear.nil b) (by show X.A.units + 1 + _ < _; omega) (fun _ _ e => e) (fun h' u tk hk => ⟨_, _, rfl, ⟨.str _, H, I.kept hk, ⟨_, rfl⟩, q⟩⟩) hz'
end
def isSeqD : D → Bool
  | .lst _ => true
  | .tup _ => true
  | _ => false
def reprOf2 (d : D) : Option Str := match d.py2 with
  | some p => if isSeqD d = true ∧ p.showable = true ∧ p.depth ≤ 60 ∧ p.shown.length ≤ sizeLine then some p.shown else none
  | none => none
def rRepr3 (K : PySem.W.Frag) : RL := fun xs H Q => rRepr K xs H Q ∨ rRepr2 K xs H Q
theorem call_repr3 {X : Cx} (hg : X.A.guards = some []) (hu : X.A.units + 64 < cLine) : CallR X (.builtin "repr") (rRepr3 X.K) := by
  intro pins s σ H xs us Q I r h
  rcases h with h | h
  · exact call_repr hg hu pins s σ H xs us Q I r h
  · exact call_repr2 hg hu pins s σ H xs us Q I r h
def reprOf3 (d : D) : Option Str := match reprOf d with
  | some x => some x
  | none => reprOf2 d
def gReprE : Prim
  | [d] => (reprOf3 d).map .str
  | _ => none
theorem gReprE_ok {K : PySem.W.Frag} : PrimOk K true (rRepr3 K) gReprE := by
  intro I H vs ds d Q e r g q1 q2 q3 q4
  unfold gReprE at g
  split at g
  · rename_i a
    unfold reprOf3 at g
    split at g
    · rename_i x hx
      exact .inl (gRepr_ok I H vs _ d Q e r (by unfold gRepr; simp only [hx]; exact g) q1 q2 q3 q4)
    · obtain ⟨v, rfl, h1⟩ := rds1 r
      unfold reprOf2 at g
      split at g
      · rename_i p hp
        split at g
        · rename_i hc
          cases g
          refine .inr ⟨v, p, rfl, Rd1.dq e h1 hp, ?_, hc.2.1, hc.2.2.1, hc.2.2.2, q1 _ (fun _ => rfl) (.str _)⟩
          cases a with
          | lst xs =>
            unfold D.py2 at hp
            obtain ⟨ps, _, rfl⟩ := Option.map_eq_some_iff.mp hp
            exact ⟨ps, .inl rfl⟩
          | tup xs =>
            unfold D.py2 at hp
            obtain ⟨ps, _, rfl⟩ := Option.map_eq_some_iff.mp hp
            exact ⟨ps, .inr rfl⟩
          | _ => cases hc.1
        · cases g
      · cases g
  · cases g
/-! ### displays -/
def gDic : Prim
  | [] => some (.dic [] [])
  | _ => none
def gDic1 (a b : Int) : Prim
  | [] => some (.dic [.inl a] [.int b])
  | _ => none
def rDic0 : RL := fun vs H Q => vs = [] ∧ ∀ p, H p = none → Q (.ref p) (upd H p (.dK []))
def rDic1 (a b : Int) : RL := fun vs H Q => vs = [] ∧ ∀ p, H p = none → Q (.ref p) (upd H p (.dK [(.inl a, .int b)]))
theorem gDic_ok {K : PySem.W.Frag} : PrimOk K true rDic0 gDic := by
  intro I H vs ds d Q e r g q1 q2 q3 q4
  unfold gDic at g
  split at g
  · cases g
    cases r
    exact ⟨rfl, fun p hp => q4 p [] [] [] rfl hp rfl .nil⟩
  · cases g
section
variable {X : Cx} {ms : List Md} {pos : Pos}
theorem de_dic0 : DE X ms .sh (.Dict [] [] pos) (cPrim gDic []) := fun W tk => pe_imp pe_dnewK fun σ H Q h => by
  have h2 : rDic0 [] H Q := prim_read (os := []) gDic_ok rfl rfl (.inl rfl) h
  exact h2.2
end
end DI
set_option Elab.async false
set_option autoImplicit false
set_option linter.all false
set_option maxRecDepth 100000
set_option maxHeartbeats 2000000
/-! DI44: isinstance of exceptions. -/
namespace DI
open PySem PySem.Spec PyProof.Rows
open L2 hiding XE Takes Takes.imp CX XE.of_call XE.new XE.leave takes_of passes_call Sky.land MkP PMk ps_raise mk_of ps_try_as HdsOk ps_try_many pmk_own passAt takes_none5 takes0 passL mk_end pmk_oex
open L2N hiding St
def gIsE (cs yes : List Str) : Prim
  | [.exn c _ _] => if cs.contains c then some (.bl (yes.contains c)) else none
  | _ => none
/-- the class c is one that isinstance can be asked of -/
def excB (c : Str) (K : PySem.W.Frag) : Bool :=
  He.eqO (PySem.W.findIn K (.ref (He.ga K c)) "__getattribute__") (some (some (.builtin "BaseException.__getattribute__"))) && (He.eqO (PySem.W.findIn K (.ref (He.ga K c)) "__getattr__") (some none) &&
  (decide (PySem.W.subIn K (.ref (He.ga K c)) (.type "BaseException") = some true) && (PySem.W.hasDictIn K (He.ga K c) && (He.eqO (PySem.W.findIn K (.ref (He.ga K c)) "__class__") (some (some (.builtin "object.__class__"))) &&
  (He.eqO (PySem.W.specialIn K (.builtin "object.__class__") "__get__") (some (some (.builtin "getset_descriptor.__get__"))) && (decide (PySem.W.takesIn K (.builtin "object.__class__") = some true) && decide (PySem.W.mroIn K (He.ga K c) (.type "object") = some true)))))))
theorem excB_ok {c : Str} {K : PySem.W.Frag} (h : excB c K = true) : ExcC K (gAd K c) := by
  unfold excB at h
  simp only [Bool.and_eq_true, decide_eq_true_eq] at h
  obtain ⟨h1, h2, h3, h4, h5, h6, h7, h8⟩ := h
  exact ⟨He.eqO_ok h1, He.eqO_ok h2, h3, h4, He.eqO_ok h5, He.eqO_ok h6, h7, h8⟩
def exB (cs : List Str) (K : PySem.W.Frag) : Bool := cs.all fun c => excB c K
def kit1B (cs yes : List Str) (C : Str) (K : PySem.W.Frag) : Bool := cs.all fun c => decide (PySem.W.kitOne K (.ref (He.ga K c)) (.ref (He.ga K C)) = some (yes.contains c))
def kitVB (cs yes : List Str) (n : String) (K : PySem.W.Frag) : Bool := cs.all fun c => decide (PySem.W.kitOne K (.ref (He.ga K c)) (.type n) = some (yes.contains c))
def kitTB (cs yes : List Str) (Cs : List Str) (K : PySem.W.Frag) : Bool := cs.all fun c => decide (PySem.W.kitAny K (.ref (He.ga K c)) (Cs.map fun C => .ref (He.ga K C)) = some (yes.contains c))
/-- isinstance(e, c), isinstance(e, (c1, ..)): e an exception without fields -/
def rIsX (K : PySem.W.Frag) : RL := fun xs H Q => ∃ (a : Addr) (c : Str) (d : V) (b : Bool), xs = [.ref a, d] ∧ (∃ dd : Option Addr, Rd H a (exT (.ref (gAd K c)) dd a) ∧ ∀ x, dd = some x → ∃ fs, H x = some (.xd fs)) ∧ ExcC K (gAd K c) ∧
  ((∃ u, ClsV d u ∧ PySem.W.kitOne K (.ref (gAd K c)) u = some b) ∨ (∃ tp ds us, d = .ref tp ∧ H tp = some (.tup ds) ∧ Paired ClsV ds us ∧ PySem.W.kitAny K (.ref (gAd K c)) us = some b)) ∧ Q (.bl b) H
theorem call_isX {X : Cx} : CallR X (.builtin "isinstance") (rIsX X.K) := by
  intro pins s σ H xs us Q I r h
  obtain ⟨a, c, d, b, rfl, ⟨dd, ha, hdd⟩, C, hk, q⟩ := h
  obtain ⟨u1, u2, rfl, r1, r2⟩ := vals2 r
  cases (show u1 = Value.ref a from r1)
  obtain ⟨⟨oe, vs, e1, e2, e3⟩, _⟩ := (show ObjOk X.prog X.w H s.heap a (exT (.ref (gAd X.K c)) dd a) from Rd.ok ha I.hok)
  obtain ⟨od, J⟩ : ∃ od, PySem.W.InstAt s.heap a oe (gAd X.K c) od := by
    obtain ⟨oc, od, oda, osl⟩ := oe
    obtain ⟨h1, h2⟩ := e2
    dsimp only at h1 h2 e3
    subst h1 h2 e3
    cases od with
    | none => exact ⟨none, e1, rfl, rfl, trivial⟩
    | some x =>
      obtain ⟨fs, hx⟩ := hdd x rfl
      obtain ⟨mA, ⟨o, es, ep, g, _⟩, _⟩ := (show ObjOk X.prog X.w H s.heap x (.xd fs) from I.hok x _ hx)
      exact ⟨some o, e1, rfl, rfl, g⟩
  have hcl : (PySem.W.clsIn X.K (gAd X.K c)).isSome = true := by
    obtain ⟨cd, hc, _⟩ := PySem.W.any_some C.hd
    rw [hc]; rfl
  have Z := PySem.W.kitx_exc (x := a) (ox := oe) (od := od) hcl C.hg C.hk C.hs C.ha C.hn C.ht C.hm
  rcases hk with ⟨u, k, e⟩ | ⟨tp, ds, ws, rfl, hT, k, e⟩
  · have e4 := k.eq r2
    subst e4
    exact PySem.W.kia_one Z I.kIn J e (fun z => nomatch z) fun tk => ⟨.bl b, H, I.tok tk, rfl, q⟩
  · cases (show u2 = Value.ref tp from r2)
    obtain ⟨_, its, rv, o, h1, h2, n, h3⟩ := (show ObjOk X.prog X.w H s.heap tp (.tup ds) from I.hok tp _ hT)
    have e4 := ClsV.all k rv
    subst e4
    obtain ⟨oc, od, dt, sl⟩ := o
    simp only at h2 h3
    subst h2 h3
    exact PySem.W.kia_tup Z I.kIn J h1 e (fun z => nomatch z) fun tk => ⟨.bl b, H, I.tok tk, rfl, q⟩
/-- what isinstance wants of the operand -/
def rE1 (K : PySem.W.Frag) (d : V) : RL := fun vs H Q => match vs with
  | [x] => rIsX K [x, d] H Q
  | _ => False
theorem gIsE_ok {K : PySem.W.Frag} {cs yes : List Str} {d : V} {u : Value} (hx : exB cs K = true) (hd : ClsV d u) (hk : ∀ c ∈ cs, PySem.W.kitOne K (.ref (gAd K c)) u = some (yes.contains c)) : PrimOk K true (rE1 K d) (gIsE cs yes) := by
  intro I H vs ds r Q e rs g q1 q2 q3 q4
  unfold gIsE at g
  split at g
  · rename_i c n0 d0
    split at g
    · rename_i hc
      cases g
      obtain ⟨v, rfl, h1⟩ := rds1 rs
      have hm : c ∈ cs := List.contains_iff_mem.mp hc
      cases (show Rep K I v (.exn c n0 d0) from h1) with
      | ex0 h2 => exact ⟨_, c, d, _, rfl, ⟨none, rd_ext e h2, fun x hx => by cases hx⟩, excB_ok (List.all_eq_true.mp hx c hm), .inl ⟨u, hd, hk c hm⟩, q1 _ (fun _ => rfl) (.bl _)⟩
      | ex1 h2 h3 h4 h5 => exact ⟨_, c, d, _, rfl, ⟨_, rd_ext e h2, fun x hx => by cases hx; exact ⟨_, e _ _ h3⟩⟩, excB_ok (List.all_eq_true.mp hx c hm), .inl ⟨u, hd, hk c hm⟩, q1 _ (fun _ => rfl) (.bl _)⟩
    · cases g
  · cases g
section
variable {X : Cx} {ms : List Md} {e : Expr} {oe : Opd} {cs yes : List Str} {pos p2 p3 : Pos}
theorem de_isE1 {C : Str} (hx : exB cs X.K = true) (hk : kit1B cs yes C X.K = true) (hgc : Gl X C) (hmc : X.mg C = some (.ref (gAd X.K C))) (hg : Gl X "isinstance") (hz : X.mg "isinstance" = none) (ha : DO X ms e oe) (ho : prOk ms [oe] = true := by rfl) (hdz : (C == ("__debug__" : Str)) = false := by decide)
    (he : starEach [e, .Name C p3] X.env = (false, eval e X.env) :: starEach [.Name C p3] X.env := by rfl) (he2 : starEach [.Name C p3] X.env = (false, eval (.Name C p3) X.env) :: starEach [] X.env := by rfl) (hpl : (backTo pos (starEach [Expr.Name C p3] X.env)).any (·.1) = false := by rfl) :
    DE X ms .sh (.Call (.Name "isinstance" p2) [e, .Name C p3] [] pos) (cPrim (gIsE cs yes) [oe]) := fun W tk =>
  pe_imp (pe_callB call_isX hg hz (by decide +kernel) (pa_cons (ha.pe tk) (pa_cons (pe_glob (v := .ref (gAd X.K C)) hgc hmc rfl hdz) pa_nil he2) he) (by decide) (by decide) he hpl) fun σ H Q h =>
    prim_read (gIsE_ok (d := .ref (gAd X.K C)) hx (.own _) fun c hc => of_decide_eq_true (List.all_eq_true.mp hk c hc)) ho rfl (.inl rfl) h
theorem de_isEV {C : Str} {n : String} (hx : exB cs X.K = true) (hk : kitVB cs yes n X.K = true) (hgc : Gl X C) (hmc : X.mg C = none) (hv : bootBuiltins C = some (.type n)) (hg : Gl X "isinstance") (hz : X.mg "isinstance" = none) (ha : DO X ms e oe) (ho : prOk ms [oe] = true := by rfl) (hn : C ≠ "__name__" := by decide) (hdz : (C == ("__debug__" : Str)) = false := by decide)
    (he : starEach [e, .Name C p3] X.env = (false, eval e X.env) :: starEach [.Name C p3] X.env := by rfl) (he2 : starEach [.Name C p3] X.env = (false, eval (.Name C p3) X.env) :: starEach [] X.env := by rfl) (hpl : (backTo pos (starEach [Expr.Name C p3] X.env)).any (·.1) = false := by rfl) :
    DE X ms .sh (.Call (.Name "isinstance" p2) [e, .Name C p3] [] pos) (cPrim (gIsE cs yes) [oe]) := fun W tk =>
  pe_imp (pe_callB call_isX hg hz (by decide +kernel) (pa_cons (ha.pe tk) (pa_cons (pe_bltn (v := .ty n) hgc hmc hv rfl hn hdz) pa_nil he2) he) (by decide) (by decide) he hpl) fun σ H Q h =>
    prim_read (gIsE_ok (d := .ty n) hx (.ty n) fun c hc => of_decide_eq_true (List.all_eq_true.mp hk c hc)) ho rfl (.inl rfl) h
def tGs : List V → TA
  | [] => tNil
  | v :: vs => tCons (tC v) (tGs vs)
theorem tGs_of {σ : L2.St} : ∀ {vs : List V} {H : Hp} {Q : List V → Hp → Prop}, Q vs H → tGs vs σ H Q
  | [], _, _, h => h
  | v :: vs, H, Q, h => tGs_of (vs := vs) (Q := fun xs H1 => Q (v :: xs) H1) h
theorem isT_read {K : PySem.W.Frag} {mg : Str → Option Value} {W : WX} {σ : L2.St} {H : Hp} {Q : VK} {vs : List V} {us : List Value} (hx : exB cs K = true) (hl : vs.length ≤ sizeLine) (hd : Paired ClsV vs us)
    (hk : ∀ c ∈ cs, PySem.W.kitAny K (.ref (gAd K c)) us = some (yes.contains c)) (ho : prOk ms [oe] = true) (h : tE K mg ms .sh (cPrim (gIsE cs yes) [oe]) W σ H Q) :
    tOs K mg ms W [oe] σ H (fun ws H' => match ws with
      | [x] => vs.length ≤ sizeLine ∧ ∀ p, H' p = none → rIsX K [x, .ref p] (upd H' p (.tup vs)) Q
      | _ => False) := by
  obtain ⟨I, env, fp, s, x, env', h1, q, b⟩ := h
  refine os_then s h1 b fun ds e1 ws H1 I1 fp1 h2 s1 t1 rs => ?_
  obtain ⟨d, g1, rfl, rfl⟩ := pOut_some h2
  have rd := rs.rds s1 ho
  unfold gIsE at g1
  split at g1
  · rename_i c n0 d0
    split at g1
    · rename_i hc
      cases g1
      obtain ⟨v, rfl, h3⟩ := rds1 rd
      have hm : c ∈ cs := List.contains_iff_mem.mp hc
      refine ⟨hl, fun p hp => ?_⟩
      have e : Ext I1 (upd H1 p (.tup vs)) := s1.ext.trans (.new hp)
      have fin : Q (.bl (yes.contains c)) (upd H1 p (.tup vs)) := q _ rfl (.bl _) _ _ fp1 [] (s1.newI hp) (t1.trans (.newI hp s1.ext)) ⟨.bl _, rfl⟩ s1.nd fun p hp => by cases hp
      cases (show Rep K I1 v (.exn c n0 d0) from h3) with
      | ex0 k2 => exact ⟨_, c, _, _, rfl, ⟨none, rd_ext e k2, fun x hx => by cases hx⟩, excB_ok (List.all_eq_true.mp hx c hm), .inr ⟨p, vs, us, rfl, upd_same, hd, hk c hm⟩, fin⟩
      | ex1 k2 k3 k4 k5 => exact ⟨_, c, _, _, rfl, ⟨_, rd_ext e k2, fun x hx => by cases hx; exact ⟨_, e _ _ k3⟩⟩, excB_ok (List.all_eq_true.mp hx c hm), .inr ⟨p, vs, us, rfl, upd_same, hd, hk c hm⟩, fin⟩
    · cases g1
  · cases g1
theorem clsVs {K : PySem.W.Frag} : ∀ {Cs : List Str}, Paired ClsV (Cs.map fun C => V.ref (gAd K C)) (Cs.map fun C => Value.ref (gAd K C))
  | [] => .nil
  | C :: Cs => .cons (.own _) (clsVs (Cs := Cs))
theorem de_isET {Cs : List Str} {es : List Expr} {jt : Nat} {pt : Pos} (hx : exB cs X.K = true) (hk : kitTB cs yes Cs X.K = true) (hP : PA X es (tGs (Cs.map fun C => V.ref (gAd X.K C)))) (hg : Gl X "isinstance") (hz : X.mg "isinstance" = none) (ha : DO X ms e oe) (ho : prOk ms [oe] = true := by rfl) (hl : Cs.length ≤ 1000 := by decide)
    (he : starEach [e, .Tuple es jt pt] X.env = (false, eval e X.env) :: starEach [.Tuple es jt pt] X.env := by rfl) (he2 : starEach [.Tuple es jt pt] X.env = (false, eval (.Tuple es jt pt) X.env) :: starEach [] X.env := by rfl) (hpl : (backTo pos (starEach [Expr.Tuple es jt pt] X.env)).any (·.1) = false := by rfl) :
    DE X ms .sh (.Call (.Name "isinstance" p2) [e, .Tuple es jt pt] [] pos) (cPrim (gIsE cs yes) [oe]) := fun W tk =>
  pe_imp (pe_callB call_isX hg hz (by decide +kernel) (pa_cons (ha.pe tk) (pa_cons (pe_tup hP) pa_nil he2) he) (by decide) (by decide) he hpl) fun σ H Q h => by
    have h2 := isT_read (vs := Cs.map fun C => V.ref (gAd X.K C)) (us := Cs.map fun C => Value.ref (gAd X.K C)) hx (by rw [List.length_map, sizeLine_eq]; omega) clsVs (fun c hc => of_decide_eq_true (List.all_eq_true.mp hk c hc)) ho h
    exact tO_mono h2 fun x H1 h3 => tGs_of h3
end
end DI
set_option Elab.async false
set_option autoImplicit false
set_option linter.all false
set_option maxRecDepth 100000
set_option maxHeartbeats 2000000
/-! DI45: a call of one of several defs: [f, g][i](..). -/
namespace DI
open PySem PySem.Spec PyProof.Rows
open L2 hiding XE Takes Takes.imp CX XE.of_call XE.new XE.leave takes_of passes_call Sky.land MkP PMk ps_raise mk_of ps_try_as HdsOk ps_try_many pmk_own passAt takes_none5 takes0 passL mk_end pmk_oex
open L2N hiding St
section
variable {X : Cx} {ms : List Md} {m : Md} {x : Str} {pos : Pos}
theorem de_gl {a : Addr} (hg : Gl X x) (hm : X.mg x = some (.ref a)) (ha : a = gAd X.K x) (hd : (x == ("__debug__" : Str)) = false := by decide) : DE X ms m (.Name x pos) (cK (.gl x)) :=
  de_const (pe_glob (v := .ref (gAd X.K x)) hg (ha ▸ hm) rfl hd) (fun _ => .gl x) rfl
end
def cCallL (tab : List (Str × FnD)) (ff : CE) (kinds : List AK) (ro : Md) (perm : List Nat) (os : List Opd) : CE := fun env => mbind (ff env) fun d e1 => match d with
  | .gl n => (match tab.lookup n with
    | some F => cCall F kinds ro perm [] os e1
    | none => none)
  | _ => none
/-- the def of that name can be called so -/
def FnE (X : Cx) (kinds : List AK) (ro : Md) (perm : List Nat) (no : Nat) (q : Str × FnD) : Prop :=
  ∃ a k fd ps, a = gAd X.K q.1 ∧ FnG X.prog X.w X.K X.mg X.base k a fd ps (spF X.K X.mg (kinds.map AK.md) ro q.2) ∧ Room k X.A ∧ CallB X.K fd ps no [] perm [] ∧ PySem.W.keepIn X.K (.ref a) = true
theorem al_nil {α : Type} {P : α → Prop} : ∀ n ∈ ([] : List α), P n := fun _ h => by cases h
theorem al_cons {α : Type} {P : α → Prop} {x : α} {l : List α} (h : P x) (r : ∀ n ∈ l, P n) : ∀ n ∈ x :: l, P n := fun n hn => by
  rcases List.mem_cons.mp hn with rfl | hn
  · exact h
  · exact r n hn
theorem lookup_mem {n : Str} {F : FnD} : ∀ {tab : List (Str × FnD)}, tab.lookup n = some F → (n, F) ∈ tab
  | [], h => by cases h
  | (a, b) :: tab, h => by
    rw [List.lookup_cons] at h
    cases e : n == a with
    | true => rw [e] at h; cases h; rw [eq_of_beq e]; exact List.mem_cons_self
    | false => rw [e] at h; exact List.mem_cons_of_mem _ (lookup_mem h)
section
variable {X : Cx} {ms : List Md} {fn e : Expr} {es : List Expr} {ff : CE} {tab : List (Str × FnD)} {kinds : List AK} {ro : Md} {perm : List Nat} {os : List Opd} {pos : Pos}
theorem callL_read {K : PySem.W.Frag} {mg : Str → Option Value} {W : WX} {σ : L2.St} {H : Hp} {Q : VK} (h : tE K mg ms ro (cCallL tab ff kinds ro perm os) W σ H Q) :
    tE K mg ms .sh ff W σ H fun x H1 => ∃ n F, x = .ref (gAd K n) ∧ (n, F) ∈ tab ∧ tE K mg ms ro (cCall F kinds ro perm [] os) W σ H1 Q := by
  obtain ⟨I, env, fp, s, r, env', h1, q, b⟩ := h
  rcases mbind_some h1 with ⟨e, h2, rfl⟩ | ⟨d, e1, h2, h3⟩
  · exact ⟨I, env, fp, s, _, _, h2, fun d z => (by cases z), fun e' z => by cases z; exact b e rfl⟩
  · refine ⟨I, env, fp, s, _, _, h2, fun d' z v H1 I1 fp1 fv s1 t1 rv nd off => ?_, fun e' z => by cases z⟩
    cases z
    split at h3
    · rename_i n
      split at h3
      · rename_i F hF
        obtain ⟨rp, rfl⟩ := (show Rep K I1 v (.gl n) ∧ fv = [] from rv)
        cases rp
        exact ⟨n, F, rfl, lookup_mem hF, I1, e1, fp1, s1, r, env', h3, fun d z v H2 I2 fp2 fv s2 t2 => q d z v H2 I2 fp2 fv s2 (t1.trans t2), fun e z => (b e z).back t1⟩
      · cases h3
    · cases h3
theorem de_callL (hf : DE X ms .sh fn ff) (ht : ∀ q ∈ tab, FnE X kinds ro perm os.length q) (am : Amb X.A X.base) (ha : DOs X ms (e :: es) os) (h1 : argsOk ms os kinds perm = true := by rfl) (h2 : (ixs kinds).Nodup := by decide) (h3 : ∀ p ∈ perm, p < os.length + ([] : List D).length := by decide)
    (hev : eval (.Call fn (e :: es) [] pos) X.env = (do callWith pos (← eval fn X.env) [] (backTo pos (starEach (e :: es) X.env)) (backToKw pos (keywordEach [] X.env))) := by rfl)
    (he : starEach (e :: es) X.env = (false, eval e X.env) :: starEach es X.env := by rfl) (hpl : (backTo pos (starEach es X.env)).any (·.1) = false := by rfl) :
    DE X ms ro (.Call fn (e :: es) [] pos) (cCallL tab ff kinds ro perm os) := fun W tk => ⟨fun pins s σ H Q I h => by
  rw [hev]
  refine wpAny_bind (thn ((hf W tk).run pins s σ H _ I (callL_read h)) fun u s1 ⟨x, H1, I1, rx, n, F, ex, hm, hc⟩ => ?_)
  subst ex
  obtain rfl : u = Value.ref (gAd X.K n) := rx
  obtain ⟨a, k, fd, ps, ea, G, hr, hb, hk⟩ := ht _ hm
  rw [← ea]
  refine PySem.W.callWith_K (h₀ := X.base) I.ok.mod.kin hk (thn ((ha.pa tk).run pos pins s1 σ H1 _ I1 (call_read (dvs := []) rfl h1 h2 h3 (fun _ => .nil) hc)) fun us s2 ⟨vs, H2, I2, r, n1, q⟩ => ⟨I2.kIn, ?_⟩) he hpl
  exact run_g (ws := []) (zs := []) G hr am hb tk I2 r .nil (by show us.length = os.length; rw [← r.length]; exact n1) rfl (by rw [List.append_nil]; exact q)⟩
end
end DI
set_option Elab.async false
set_option autoImplicit false
set_option linter.all false
set_option maxRecDepth 100000
set_option maxHeartbeats 2000000
/-! DI46: x[-1] += e, of texts. -/
namespace DI
open PySem PySem.Spec PyProof.Rows
open L2 hiding XE Takes Takes.imp CX XE.of_call XE.new XE.leave takes_of passes_call Sky.land MkP PMk ps_raise mk_of ps_try_as HdsOk ps_try_many pmk_own passAt takes_none5 takes0 passL mk_end pmk_oex
open L2N hiding St
/-- x[i] op= e, x an own list in slot k, i = -1, both texts -/
def cAugL (k : Nat) (fx fe : CE) : CS := fun env => match getS env k with
  | none => none
  | some _ => mbind (fx env) fun kd e1 => match kd, getS e1 k with
    | .int (-1), some (.lst xs) => (match xs.getLast? with
      | some (.str a) => mbind (fe e1) fun d e2 => (match d, getS e2 k with
        | .str b, some (.lst ys) => if a.length + b.length ≤ sizeLine ∧ 0 < ys.length then some (.ok .nx, e2.set k (some (.lst (ys.set (ys.length - 1) (.str (a ++ b)))))) else none
        | _, _ => none)
      | _ => none)
    | _, _ => none
def rLast (K : PySem.W.Frag) : V → V → Hp → VK → Prop := fun o i H Q => ∃ p xs z, o = .ref p ∧ i = .int (-1) ∧ H p = some (.lst xs) ∧ xs.getLast? = some z ∧ Q z H
section
variable {X : Cx} {xm : List Bool} {ms B : List Md} {ro : Md} {e : Expr} {fe fx : CE} {pos p : Pos}
end
end DI
set_option Elab.async false
set_option autoImplicit false
set_option linter.all false
set_option maxRecDepth 100000
set_option maxHeartbeats 2000000
/-! DI47: enumerate of a text. -/
namespace DI
open PySem PySem.Spec PyProof.Rows
open L2 hiding XE Takes Takes.imp CX XE.of_call XE.new XE.leave takes_of passes_call Sky.land MkP PMk ps_raise mk_of ps_try_as HdsOk ps_try_many pmk_own passAt takes_none5 takes0 passL mk_end pmk_oex
open L2N hiding St
/-- the signs of x, each in a new pair -/
def Ites (x : Str) : It := ⟨fun i _ => i < x.cps.size, fun i H v H' => ∃ T c, v = .ref T ∧ H T = none ∧ H' = upd H T (.tup [.int (i : Nat), .str ⟨#[c]⟩]) ∧ x.cps[i]? = some c, fun i _ => x.cps.size ≤ i⟩
def iEnumS (ta : TA) : TI := fun σ H R => ta σ H fun vs H1 => ∃ x, vs = [.str x] ∧ R (Ites x) H1
section
variable {K : PySem.W.Frag}
end
def giES : List D → Option (List D)
  | [.str x] => some (enumD (charsD x))
  | _ => none
section
variable {X : Cx} {ms : List Md} {elts : List Expr} {kk : Nat} {tpos p pos : Pos} {a : Expr} {fa : CE}
end
end DI
set_option Elab.async false
set_option autoImplicit false
set_option linter.all false
set_option maxRecDepth 100000
set_option maxHeartbeats 2000000
/-! DI48: range(a, b, c), any small step. -/
namespace DI
open PySem PySem.Spec PyProof.Rows
open L2 hiding XE Takes Takes.imp CX XE.of_call XE.new XE.leave takes_of passes_call Sky.land MkP PMk ps_raise mk_of ps_try_as HdsOk ps_try_many pmk_own passAt takes_none5 takes0 passL mk_end pmk_oex
open L2N hiding St
def giRs : List D → Option (List D)
  | [.int a, .int b, .int c] => if c ≠ 0 ∧ c.natAbs < 1073741824 ∧ Builtin.Range.small a b c = true ∧ 0 ≤ Builtin.Range.rangeSize a b c then some (rangeCD a c (Builtin.Range.rangeSize a b c).toNat) else none
  | _ => none
section
variable {X : Cx} {ms : List Md} {tg a b c : Expr} {fa fb fc : CE} {p pos : Pos}
end
end DI
set_option Elab.async false
set_option autoImplicit false
set_option linter.all false
set_option maxRecDepth 100000
set_option maxHeartbeats 2000000
/-! DI49: text * int, text[::-1]. -/
namespace DI
open PySem PySem.Spec PyProof.Rows
open L2 hiding XE Takes Takes.imp CX XE.of_call XE.new XE.leave takes_of passes_call Sky.land MkP PMk ps_raise mk_of ps_try_as HdsOk ps_try_many pmk_own passAt takes_none5 takes0 passL mk_end pmk_oex
open L2N hiding St
open Builtin Builtin.Str
def repS (a : Str) (k : Nat) : Str := ⟨(List.replicate k a.cps.toList).flatten.toArray⟩
def revS (a : Str) : Str := ⟨a.cps.toList.reverse.toArray⟩
def gMulS : Prim
  | [.str a, .int k] => if 2 ≤ k ∧ k ≤ 1000000 ∧ 0 < a.length ∧ a.length * k.toNat ≤ sizeLine then some (.str (repS a k.toNat)) else none
  | _ => none
def gRevS : Prim
  | [.str a] => if a.length ≤ sizeLine then some (.str (revS a)) else none
  | _ => none
section
variable {X : Cx}
def rRepS : R2 := fun x y H Q => ∃ a k, x = .str a ∧ y = .int k ∧ 2 ≤ k ∧ k ≤ 1000000 ∧ 0 < a.length ∧ a.length * k.toNat ≤ sizeLine ∧ Q (.str (repS a k.toNat)) H
def rRevS : V → Hp → VK → Prop := fun x H Q => ∃ z, x = .str z ∧ z.length ≤ sizeLine ∧ Q (.str (revS z)) H
def tRevS (te : TE) : TE := fun σ H Q => te σ H fun x H1 => rRevS x H1 Q
variable {ms : List Md} {m : Md} {e : Expr} {o : Opd}
end
end DI
set_option Elab.async false
set_option autoImplicit false
set_option linter.all false
set_option maxRecDepth 100000
set_option maxHeartbeats 2000000
/-! DI50: what wants a token out: text.replace of written texts. -/
namespace DI
open PySem PySem.Spec PyProof.Rows
open L2 hiding XE Takes Takes.imp CX XE.of_call XE.new XE.leave takes_of passes_call Sky.land MkP PMk ps_raise mk_of ps_try_as HdsOk ps_try_many pmk_own passAt takes_none5 takes0 passL mk_end pmk_oex
open L2N hiding St
section
variable {X : Cx} {e a b c : Expr} {es : List Expr} {te ta tb : TE} {st : Stmt} {sts sa sb : List Stmt} {pos : Pos}
/-- an expression behind which a token is out -/
def PEO (X : Cx) (e : Expr) (t : TE) : Prop := ∀ (pins : List (Addr × Obj)) (s : Shared) (σ : L2.St) (H : Hp) (Q : VK), Inv X pins σ H s → t σ H Q → wpAny (model X.prog X.w) X.A (eval e X.env) (fun v s1 => 1 ≤ s1.toks ∧ EP X pins σ Q v s1) X.xe s
def PAO (X : Cx) (es : List Expr) (t : TA) : Prop := ∀ (pos : Pos) (pins : List (Addr × Obj)) (s : Shared) (σ : L2.St) (H : Hp) (Q : List V → Hp → Prop), Inv X pins σ H s → t σ H Q → wpAny (model X.prog X.w) X.A (spliced (backTo pos (starEach es X.env))) (fun v s1 => 1 ≤ s1.toks ∧ AP X pins σ Q v s1) X.xe s
def PSO (X : Cx) (st : Stmt) (t : TS) : Prop := ∀ (pins : List (Addr × Obj)) (s : Shared) (σ : L2.St) (H : Hp) (D : Ends), Inv X pins σ H s → t D σ H → wpAny (model X.prog X.w) X.A (exec st X.env) (fun f s1 => 1 ≤ s1.toks ∧ SP X pins D f s1) X.xe s
/-! ### tests -/
def PTT (X : Cx) (e : Expr) (t : TT) : Prop := ∀ (pins : List (Addr × Obj)) (s : Shared) (σ : L2.St) (H : Hp) (Q : Bool → Hp → Prop), 1 ≤ s.toks → Inv X pins σ H s → t σ H Q → wpAny (model X.prog X.w) X.A (isTrue e X.env (eval e X.env)) (TP X pins σ Q) X.xe s
end
/-! ### the same of D -/
def gRepl (y z : Str) : Prim
  | [.str x] => if x.length + (x.length + 1) * z.length ≤ 16777216 then some (.str (Txt.replace x y z)) else none
  | _ => none
def DET (X : Cx) (ms : List Md) (m : Md) (e : Expr) (f : CE) : Prop := ∀ W, Takes X W → PET X e (tE X.K X.mg ms m f W)
def DBT (X : Cx) (ms : List Md) (e : Expr) (f : CB) : Prop := ∀ W, Takes X W → PTT X e (tB1 X.K X.mg ms f W)
structure DST (X : Cx) (xm : List Bool) (ms ms' B : List Md) (ro : Md) (st : Stmt) (f : CS) : Prop where
  nm : norm ms' = norm ms
  run : ∀ W, Takes X W → PST X st (tS X.K X.mg xm ms ms' B ro f W)
structure DSO (X : Cx) (xm : List Bool) (ms ms' B : List Md) (ro : Md) (st : Stmt) (f : CS) : Prop where
  nm : norm ms' = norm ms
  run : ∀ W, Takes X W → PSO X st (tS X.K X.mg xm ms ms' B ro f W)
structure DSsT (X : Cx) (xm : List Bool) (ms ms' B : List Md) (ro : Md) (st : List Stmt) (f : CS) : Prop where
  nm : norm ms' = norm ms
  run : ∀ W, Takes X W → PSsT X st (tS X.K X.mg xm ms ms' B ro f W)
section
variable {X : Cx} {xm : List Bool} {ms ms2 ms' B : List Md} {ro m : Md} {e a b c : Expr} {es rest : List Expr} {fo f f1 f2 : CE} {g1 g2 : CS} {t u : CB} {st : Stmt} {sts sa sb : List Stmt} {pos apos : Pos} {oa ob : Opd} {os : List Opd}
end
end DI
set_option Elab.async false
set_option autoImplicit false
set_option linter.all false
set_option maxRecDepth 100000
set_option maxHeartbeats 2000000
/-! DI51: text.replace(y, z, 1); tests behind which a token is out. -/
namespace DI
open PySem PySem.Spec PyProof.Rows
open L2 hiding XE Takes Takes.imp CX XE.of_call XE.new XE.leave takes_of passes_call Sky.land MkP PMk ps_raise mk_of ps_try_as HdsOk ps_try_many pmk_own passAt takes_none5 takes0 passL mk_end pmk_oex
open L2N hiding St
open Builtin Builtin.Str
def repl1 (x y z : Str) : Str := if ((occurrences x y 0 x.length 1).isEmpty || (y.length == 0 && z.length == 0)) = true then x else glued z (partsBetween x (occurrences x y 0 x.length 1) y.length)
section
variable {prog : Program} {w : World} {A : Around} {E : Value → Shared → Prop} {s : Shared} {x y z : Str} {t u v n : Tok} {Q : Value → Shared → Prop}
end
section
variable {X : Cx} {o e f a b c : Expr} {te tf ta tb : TE} {to : TE} {y z : Str} {j k l : Nat} {c0 c1 c2 apos pos p p' : Pos} {st : Stmt} {sts sa sb : List Stmt}
def rRepl1 (y z : Str) : V → Hp → VK → Prop := fun v H Q => ∃ x, v = .str x ∧ (x.length + (x.length + 1) * z.length ≤ 16777216 ∧ (repl1 x y z).length ≤ sizeLine) ∧ Q (.str (repl1 x y z)) H
/-! ### tests behind which a token is out -/
def PTO (X : Cx) (e : Expr) (t : TT) : Prop := ∀ (pins : List (Addr × Obj)) (s : Shared) (σ : L2.St) (H : Hp) (Q : Bool → Hp → Prop), Inv X pins σ H s → t σ H Q → wpAny (model X.prog X.w) X.A (isTrue e X.env (eval e X.env)) (fun b s1 => 1 ≤ s1.toks ∧ TP X pins σ Q b s1) X.xe s
end
/-! ### the same of D -/
def gRepl1 (y z : Str) : Prim
  | [.str x] => if x.length + (x.length + 1) * z.length ≤ 16777216 ∧ (repl1 x y z).length ≤ sizeLine then some (.str (repl1 x y z)) else none
  | _ => none
def DBO (X : Cx) (ms : List Md) (e : Expr) (f : CB) : Prop := ∀ W, Takes X W → PTO X e (tB1 X.K X.mg ms f W)
section
variable {X : Cx} {xm : List Bool} {ms ms2 ms' B : List Md} {ro m : Md} {e a b c : Expr} {es rest : List Expr} {fo f f1 f2 : CE} {g1 g2 : CS} {t u : CB} {st : Stmt} {sts sa sb : List Stmt} {pos apos : Pos} {oa ob : Opd} {os : List Opd}
end
end DI
set_option Elab.async false
set_option autoImplicit false
set_option linter.all false
set_option maxRecDepth 100000
set_option maxHeartbeats 2000000
/-! DI52: len(e): behind it a token is out. -/
namespace DI
open PySem PySem.Spec PyProof.Rows
open L2 hiding XE Takes Takes.imp CX XE.of_call XE.new XE.leave takes_of passes_call Sky.land MkP PMk ps_raise mk_of ps_try_as HdsOk ps_try_many pmk_own passAt takes_none5 takes0 passL mk_end pmk_oex
open L2N hiding St
section
variable {X : Cx} {e a b c : Expr} {es : List Expr} {t : TA} {p pos : Pos}
end
def DEO (X : Cx) (ms : List Md) (e : Expr) (f : CE) : Prop := ∀ W, Takes X W → PEO X e (tE X.K X.mg ms .sh f W)
section
variable {X : Cx} {xm : List Bool} {ms ms2 ms' B : List Md} {ro m : Md} {e a b c : Expr} {es rest : List Expr} {fo f f1 f2 : CE} {p pos : Pos} {o oa ob : Opd}
end
end DI
set_option Elab.async false
set_option autoImplicit false
set_option linter.all false
set_option maxRecDepth 100000
set_option maxHeartbeats 2000000
/-! DI53: calls within an except suite, of defs without loops (printed from DI7, DI11). -/
namespace DI
open PySem PySem.Spec PyProof.Rows
open L2 hiding XE Takes Takes.imp CX XE.of_call XE.new XE.leave takes_of passes_call Sky.land MkP PMk ps_raise mk_of ps_try_as HdsOk ps_try_many pmk_own passAt takes_none5 takes0 passL mk_end pmk_oex
open L2N hiding St
def cxQ (P : Program) (w : World) (K : PySem.W.Frag) (mg : Str → Option Value) (base : Heap) (N : List Str) (qual : Str) (scope : Scope) (f : Addr) (cd : Value) (A : Around) (outer : List PySem.Env) (s : Shared) (H : Hp) (E : XK) : Cx :=
  { cxOf (L2N.CX P w) P w K mg base N qual scope f cd A outer s H E with calm := false }
theorem inv_startQ {P : Program} {w : World} {K : PySem.W.Frag} {mg : Str → Option Value} {base : Heap} {N ps : List Str} {qual : Str} {scope : Scope} {f : Addr} {cd : Value} {A : Around} {outer : List PySem.Env} {s s1 : Shared} {H : Hp} {E : XK} {us : List Value} {vs : List V}
    (S : FnScope N ps scope) (e0 : Env0 P w K mg base A outer s H) (hl : vs.length = ps.length) (r : Vals vs us)
    (x : InCallC s s.heap.objs.size (bindL (envOfC qual scope s.heap.objs.size f cd).kindOf (ps.zip us) fun _ => none) (cellsFrom (s.heap.objs.size + 1) scope.names []) (bindC (envOfC qual scope s.heap.objs.size f cd).kindOf (ps.zip us) fun _ => none) s1) :
    Inv (cxQ P w K mg base N qual scope f cd A outer s H E) [] (L2.start N vs) H s1 := by
  have e1 : Env0 P w K mg base { A with handled := none } outer s H := ⟨e0.frames, e0.mod, e0.bs, e0.bsz, e0.funs, e0.frf, e0.hok, e0.bare⟩
  have I := inv_start (CX := L2N.CX P w) (E := E) (cd := cd) (A := { A with handled := none }) S rfl e1 hl r x
  exact ⟨⟨I.ok.mod, I.ok.kind, I.ok.glob, I.ok.blt, I.ok.above, I.ok.inj, I.ok.has, I.ok.cab, (fun z => Bool.noConfusion (show false = true from z)), I.ok.frames, I.ok.stk, I.ok.exf, I.ok.bs, I.ok.bsz, I.ok.noex, I.ok.exfs, I.ok.funs, I.ok.frf⟩, I.os, I.bare, I.base, I.loc, I.cell, I.free, I.freeC, I.pin, I.hok, I.len⟩
structure FnQ (P : Program) (w : World) (K : PySem.W.Frag) (mg : Str → Option Value) (base : Heap) (k : Nat) (f : Addr) (fd : FuncData) (ps : List Str) (sp : Sp) : Prop where
  len : ∀ vs H Q E, sp vs H Q E → vs.length = ps.length
  run : ∀ (A : Around) (outer : List PySem.Env) (s : Shared) (H : Hp) (args : Args) (us : List Value) (vs : List V) (Q : VK) (E : XK), L2H.RoomH k A → Amb A base → Env0 P w K mg base A outer s H →
    BindsTo s fd args (ps.zip us) → Vals vs us → sp vs H Q E → codeAny (model P w) A (.call (.ref f) args) (CR (L2N.CX P w) outer P w H s Q E) s
section
variable {X : Cx} {k n : Nat} {f : Addr} {fd : FuncData} {ps ks : List Str} {sp : Sp} {perm : List Nat} {dvs : List V} {x : Str} {p pos : Pos} {e : Expr} {es : List Expr} {kws : List Keyword} {t tk : TA} {W : WX}
end
section
variable {X : Cx} {ms : List Md} {k : Nat} {f : Addr} {fd : FuncData} {ps ks : List Str} {x : Str} {p pos : Pos} {e : Expr} {es : List Expr} {kws : List Keyword} {F : FnD} {kinds : List AK} {ro : Md} {perm : List Nat} {dvs : List V} {dds : List D} {os oks : List Opd}
end
section
variable {P : Program} {w : World} {K : PySem.W.Frag} {mg : Str → Option Value} {base : Heap} {x qual : Str} {params : Arguments} {body : List Stmt} {scope : Scope} {dvs : List V} {kws : List (Str × V)} {f : Addr} {fd : FuncData}
end
end DI
namespace DI
open PySem PySem.Spec PyProof.Rows
open L2 hiding XE Takes Takes.imp CX XE.of_call XE.new XE.leave takes_of passes_call Sky.land MkP PMk ps_raise mk_of ps_try_as HdsOk ps_try_many pmk_own passAt takes_none5 takes0 passL mk_end pmk_oex
open L2N hiding St
theorem roomQ {k : Nat} {A : Around} {h : Option Value} (r : Room k A) : L2H.RoomH k (A.mark h) := ⟨r.dp, r.un⟩
theorem ambQ {A : Around} {base : Heap} {h : Option Value} (am : Amb A base) : Amb (A.mark h) base := ⟨am.guards, am.low⟩
end DI
namespace L2H
open PySem PySem.Spec PyProof.Rows
theorem RoomH.units {k : Nat} {A : Around} (r : RoomH k A) : A.units + 64 < cLine := by have := r.un; omega
end L2H
set_option Elab.async false
set_option autoImplicit false
set_option linter.all false
set_option maxRecDepth 100000
set_option maxHeartbeats 2000000
/-! DI54: raise C() with the default None; a kept exception's field. -/
namespace DI
open PySem PySem.Spec PyProof.Rows
open L2 hiding XE Takes Takes.imp CX XE.of_call XE.new XE.leave takes_of passes_call Sky.land MkP PMk ps_raise mk_of ps_try_as HdsOk ps_try_many pmk_own passAt takes_none5 takes0 passL mk_end pmk_oex
open L2N hiding St
section
variable {X : Cx}
variable {xm : List Bool} {ms ms' B : List Md} {ro : Md} {x f : Str} {p p3 pos : Pos} {C fI : Addr} {fd : FuncData}
def exF : D → Str → Str → Option D
  | .exn c ns ds, c0, f => if c = c0 then (ns.zip ds).lookup f else none
  | _, _, _ => none
def cExF (c f : Str) (i : Nat) : CE := fun env => match getS env i with
  | some d => pOut (exF d c f) env
  | none => none
end
theorem XfC.of {K : PySem.W.Frag} {mg : Str → Option Value} {x f : Str} {fI : Addr} (E : ExF K mg x (He.ga K x) fI [f]) : XfC K (gAd K x) := E.F
theorem XfC.no {K : PySem.W.Frag} {mg : Str → Option Value} {x f : Str} {fI : Addr} (E : ExF K mg x (He.ga K x) fI [f]) : PySem.W.findIn K (.ref (gAd K x)) f = some none := E.no f (by simp)
/-! ### __init__ with defaults -/
abbrev initFD (st : Stmt) (q : Str) (dvs : List V) (K : PySem.W.Frag) (f : Addr) (fd : FuncData) : Prop := FunD K "__init__" q (defArgs (initOf st)) (defBody (initOf st)) (defScope (initOf st)) dvs [] f fd
/-! ### order of texts -/
def gLtS : Prim
  | [.str a, .str b] => some (.bl (decide (a.cps.toList < b.cps.toList)))
  | _ => none
def gGtS : Prim
  | [.str a, .str b] => some (.bl (decide (b.cps.toList < a.cps.toList)))
  | _ => none
end DI
set_option Elab.async false
set_option autoImplicit false
set_option linter.all false
set_option maxRecDepth 100000
set_option maxHeartbeats 2000000
/-! DI55: for part in found: .. where found is an own list of own lists that nobody looks at any more. -/
namespace DI
open PySem PySem.Spec PyProof.Rows
open L2 hiding XE Takes Takes.imp CX XE.of_call XE.new XE.leave takes_of passes_call Sky.land MkP PMk ps_raise mk_of ps_try_as HdsOk ps_try_many pmk_own passAt takes_none5 takes0 passL mk_end pmk_oex
open L2N hiding St
def forO (j : Nat) (f : CS) : List D → CS
  | [], e => some (.ok .nx, e)
  | d :: ds, e => match f (e.set j (some d)) with
    | some (.ok .nx, e2) => forO j f ds (e2.set j none)
    | _ => none
def cForO (i j : Nat) (f : CS) : CS := fun env => match getS env i with
  | some (.lst ds) => forO j f ds ((env.set i none).set j none)
  | _ => none
section
variable {X : Cx} {xm : List Bool} {ms B : List Md} {ro : Md} {sts : List Stmt} {f : CS} {pos p1 p2 : Pos} {x y : Str} {t : OT}
end
end DI
set_option Elab.async false
set_option autoImplicit false
set_option linter.all false
set_option maxRecDepth 100000
set_option maxHeartbeats 2000000
/-! DI56: for k, x in enumerate(own): .. where the list stays one's own. -/
namespace DI
open PySem PySem.Spec PyProof.Rows
open L2 hiding XE Takes Takes.imp CX XE.of_call XE.new XE.leave takes_of passes_call Sky.land MkP PMk ps_raise mk_of ps_try_as HdsOk ps_try_many pmk_own passAt takes_none5 takes0 passL mk_end pmk_oex
open L2N hiding St
open Classical in
noncomputable def forE (i : Nat) (tg : Tg) (f : CS) (L : List D) : Nat → List D → CS
  | _, [], e => some (.ok .nx, e)
  | k, d :: ds, e => match asgT tg (.tup [.int (k : Nat), d]) e with
    | none => none
    | some e1 => match f e1 with
      | some (.ok .nx, e2) => if getS e2 i = some (.lst L) then forE i tg f L (k + 1) ds e2 else none
      | some (.error z, e2) => some (.error z, e2)
      | _ => none
noncomputable def cForE (i : Nat) (tg : Tg) (f : CS) : CS := fun env => match getS env i with
  | some (.lst L) => forE i tg f L 0 L env
  | _ => none
section
variable {X : Cx} {xm : List Bool} {ms B : List Md} {ro : Md} {sts : List Stmt} {f : CS} {pos pos1 p p1 tpos : Pos} {x : Str} {elts : List Expr} {kk : Nat} {tg : Tg}
end
end DI
set_option Elab.async false
set_option autoImplicit false
set_option linter.all false
set_option maxRecDepth 100000
set_option maxHeartbeats 2000000
/-! DI57: for one in [made, start]: .. of two own instances. -/
namespace DI
open PySem PySem.Spec PyProof.Rows
open L2 hiding XE Takes Takes.imp CX XE.of_call XE.new XE.leave takes_of passes_call Sky.land MkP PMk ps_raise mk_of ps_try_as HdsOk ps_try_many pmk_own passAt takes_none5 takes0 passL mk_end pmk_oex
open L2N hiding St
def turnI (i j : Nat) (f rest : CS) : CS := fun e => match getS e i with
  | some d => (match f ((e.set i none).set j (some d)) with
    | some (.ok .nx, e1) => (match getS e1 j with
      | some d1 => rest ((e1.set j none).set i (some d1))
      | none => none)
    | _ => none)
  | none => none
def endI : CS := fun e => some (.ok .nx, e)
def cForI (i1 i2 j : Nat) (f : CS) : CS := fun e => match getS e i1, getS e i2 with
  | some _, some _ => turnI i1 j f (turnI i2 j f endI) (e.set j none)
  | _, _ => none
section
variable {K : PySem.W.Frag} {I H : Hp} {ms : List Md} {σ : L2.St} {env : Env} {fp : List Addr} {T : OT} {i j : Nat} {d : D} {v : V}
end
section
variable {X : Cx} {xm : List Bool} {ms B : List Md} {ro : Md} {sts : List Stmt} {f : CS} {pos p0 p1 p2 p3 : Pos} {x1 x2 y : Str} {T : OT} {kk : Nat}
end
end DI
set_option Elab.async false
set_option autoImplicit false
set_option linter.all false
set_option maxRecDepth 100000
set_option maxHeartbeats 2000000
/-! DI58: exceptions made as values. -/
namespace DI
open PySem PySem.Spec PyProof.Rows
open L2 hiding XE Takes Takes.imp CX XE.of_call XE.new XE.leave takes_of passes_call Sky.land MkP PMk ps_raise mk_of ps_try_as HdsOk ps_try_many pmk_own passAt takes_none5 takes0 passL mk_end pmk_oex
open L2N hiding St
section
variable {X : Cx}
end
end DI
set_option Elab.async false
set_option autoImplicit false
set_option linter.all false
set_option maxRecDepth 100000
set_option maxHeartbeats 2000000
/-! DI59: exceptions made with keywords. -/
namespace DI
section
open PySem PySem.HandSPX Builtin Builtin.ObjectAttr
variable {prog : Program} {w : World} {M : Model} {A : Around} {E : Value → Shared → Prop} {R : Result → Shared → Prop} {h : Heap} {g : Array GenState} {d : Drawn} {t : Nat} {os : OsState} {kw : List (Str × Value)}
variable {nm q : Str} {C N : Addr} {bs bm bmB : List Value} {hdct : Bool} {sn : List Str} {sub : List Value} {ab : Bool} {col : Option Bool} {dd : Option Addr} {k0 k1 k2 k3 k5 : Option Value} {B newId initId : String}
end
end DI
set_option Elab.async false
set_option autoImplicit false
set_option linter.all false
set_option maxRecDepth 100000
set_option maxHeartbeats 2000000
/-! DI60: exceptions as values: C('..'), C(a), C(a, b), C(f = a), C(g = b, f = a), C(). -/
namespace DI
open PySem PySem.Spec PyProof.Rows
open L2 hiding XE Takes Takes.imp CX XE.of_call XE.new XE.leave takes_of passes_call Sky.land MkP PMk ps_raise mk_of ps_try_as HdsOk ps_try_many pmk_own passAt takes_none5 takes0 passL mk_end pmk_oex
open L2N hiding St
def tMkK (C : Addr) (sp : Sp) (n : Nat) (perm : List Nat) (dvs : List V) (tk : TA) : L2.St → Hp → XK → Prop := fun σ H Q => tk σ H fun zs H1 => zs.length = n ∧ ∀ a, H1 a = none → sp (sel perm ([.ref a] ++ zs ++ dvs)) (upd H1 a (exo a C none))
  (fun v H2 => v = .non ∧ ∃ (d : Addr) (fs : List (Str × V)), H2 a = some (exo a C (some d)) ∧ H2 d = some (exd d fs) ∧ H1 d = none ∧ Q (.ref C) (some d) (upd (del H2 a) d (.xd fs))) (fun _ _ _ => False)
section
variable {X : Cx}
end
/-- the fields' names, the last kept first -/
def gEx (c : Str) (ns : List Str) (rev : Bool) : Prim := fun ds => if ds.length = ns.length then some (.exn c ns (if rev = true then ds.reverse else ds)) else none
section
variable {K : PySem.W.Frag} {mg : Str → Option Value} {ms : List Md} {I H : Hp} {W : WX} {σ : L2.St} {env : Env} {fp : List Addr} {c : Str} {ns : List Str}
end
section
variable {X : Cx} {ms : List Md} {x f g m : Str} {j : Nat} {p p2 pos : Pos} {fI : Addr} {fd : FuncData} {a b : Expr} {fa fb : CE} {kws : List Keyword} {oks : List Opd} {ks : List Str} {perm : List Nat} {dvs : List V}
end
end DI
set_option Elab.async false
set_option autoImplicit false
set_option linter.all false
set_option maxRecDepth 100000
set_option maxHeartbeats 2000000
/-! DI61: a field of any exception. -/
namespace DI
open PySem PySem.Spec PyProof.Rows
open L2 hiding XE Takes Takes.imp CX XE.of_call XE.new XE.leave takes_of passes_call Sky.land MkP PMk ps_raise mk_of ps_try_as HdsOk ps_try_many pmk_own passAt takes_none5 takes0 passL mk_end pmk_oex
open L2N hiding St
def gXF (c f : Str) : Prim
  | [d] => exF d c f
  | _ => none
def rXF (K : PySem.W.Frag) (C : Addr) (f : Str) : V → Hp → VK → Prop := fun y H Q => ∃ (a dd : Addr) (fs : List (Str × V)) (v : V), y = .ref a ∧ Rd H a (exT (.ref C) (some dd) a) ∧ H dd = some (.xd fs) ∧ fs.lookup f = some v ∧ Q v H
section
variable {X : Cx} {ms : List Md} {e : Expr} {fe : CE} {pos : Pos} {c f : Str}
end
theorem Ex0.ga {K : PySem.W.Frag} {mg : Str → Option Value} {x : Str} (E : Ex0 K mg x) (h : mg x = some (.ref (gAd K x))) : ∃ C, C = gAd K x ∧ mg x = some (.ref C) ∧ PySem.W.excIn K C He.veBase "ValueError.__new__" = true ∧ PySem.W.keepIn K (.ref C) = true ∧ PySem.W.subIn K (.ref C) (.type "BaseException") = some true ∧ PySem.W.typeIn K (.ref C) = some (.type "type") := by
  obtain ⟨C, e1, e2⟩ := E.ex
  rw [h] at e1
  cases e1
  exact ⟨_, rfl, h, e2⟩
end DI
set_option Elab.async false
set_option autoImplicit false
set_option linter.all false
set_option maxRecDepth 100000
set_option maxHeartbeats 2000000
/-! DI62: an own value that nobody keeps. -/
namespace DI
open PySem PySem.Spec PyProof.Rows
open L2 hiding XE Takes Takes.imp CX XE.of_call XE.new XE.leave takes_of passes_call Sky.land MkP PMk ps_raise mk_of ps_try_as HdsOk ps_try_many pmk_own passAt takes_none5 takes0 passL mk_end pmk_oex
open L2N hiding St
section
variable {X : Cx} {xm : List Bool} {ms B : List Md} {m ro : Md} {e : Expr} {fe : CE} {pos : Pos}
end
/-! ### own things as a parameter's, for one statement -/
inductive ParL : List Md → List Md → Prop
  | nil : ParL [] []
  | same {m : Md} {ms mp : List Md} : ParL ms mp → ParL (m :: ms) (m :: mp)
  | own {t : OT} {ms mp : List Md} : ParL ms mp → ParL (.os t :: ms) (.ps t :: mp)
section
variable {K : PySem.W.Frag} {I H : Hp}
theorem ParL.up : ∀ {ms mp : List Md} {σ : L2.St} {env : Env} {fp : List Addr}, ParL ms mp → Slots K I H ms σ env fp → Slots K I H mp σ env fp
  | _, _, _, _, _, .nil, .nil => .nil
  | _, _, _, _, _, .same p, .non s => .non (p.up s)
  | _, _, _, _, _, .same p, .som h s => .som h (p.up s)
  | _, _, _, _, _, .own p, .non s => .non (p.up s)
  | _, _, _, _, _, .own p, .som h s => .som h (p.up s)
theorem ParL.down : ∀ {ms mp : List Md} {σ : L2.St} {env : Env} {fp : List Addr}, ParL ms mp → Slots K I H mp σ env fp → Slots K I H ms σ env fp
  | _, _, _, _, _, .nil, .nil => .nil
  | _, _, _, _, _, .same p, .non s => .non (p.down s)
  | _, _, _, _, _, .same p, .som h s => .som h (p.down s)
  | _, _, _, _, _, .own p, .non s => .non (p.down s)
  | _, _, _, _, _, .own p, .som h s => .som h (p.down s)
theorem ParL.keep : ∀ {ms mp : List Md} {i : Nat} {t : OT}, ParL ms mp → ms[i]? = some (.ps t) → mp[i]? = some (.ps t)
  | _, _, _, _, .nil, h => by cases h
  | _, _, 0, _, .same p, h => h
  | _, _, i + 1, _, .same p, h => p.keep (i := i) (by simpa using h)
  | _, _, 0, _, .own p, h => by cases h
  | _, _, i + 1, _, .own p, h => p.keep (i := i) (by simpa using h)
theorem ParL.mask : ∀ {ms mp : List Md} {xm : List Bool} {σ : L2.St} {env : Env} {fp : List Addr}, ParL ms mp → compat xm ms = true → Slots K I H (norm mp) σ (maskB xm mp env) fp → ∃ fp', Slots K I H (norm ms) σ (maskB xm ms env) fp' ∧ fp'.Sublist fp
  | _, _, xm, σ, env, fp, .nil, hc, s => by
    cases xm <;> cases env <;> exact ⟨fp, s, .refl _⟩
  | m :: ms, _ :: mp, xm, σ, [], fp, .same p, hc, s => by
    have e1 : ∀ l, maskB xm (m :: l) [] = [] := fun l => by cases xm <;> rfl
    rw [e1] at s
    cases s
  | m :: ms, _ :: mp, [], σ, o :: env, fp, .same p, hc, s => by
    have s' : Slots K I H (nrm1 m :: norm mp) σ ((if m.par = true then o else none) :: maskB [] mp env) fp := s
    show ∃ fp', Slots K I H (nrm1 m :: norm ms) σ ((if m.par = true then o else none) :: maskB [] ms env) fp' ∧ fp'.Sublist fp
    generalize (if m.par = true then o else none) = o' at s' ⊢
    cases s' with
    | non s2 =>
      obtain ⟨f, a, b⟩ := p.mask (xm := []) (by unfold compat; rfl) s2
      exact ⟨f, .non a, b⟩
    | som h s2 =>
      obtain ⟨f, a, b⟩ := p.mask (xm := []) (by unfold compat; rfl) s2
      exact ⟨_, .som h a, b.append_left _⟩
  | m :: ms, _ :: mp, x :: xm, σ, o :: env, fp, .same p, hc, s => by
    have hc2 : ((!x || (m.isSh || m.par)) && compat xm ms) = true := hc
    rw [Bool.and_eq_true] at hc2
    have s' : Slots K I H (nrm1 m :: norm mp) σ ((if m.par = true ∨ x = true then o else none) :: maskB xm mp env) fp := s
    show ∃ fp', Slots K I H (nrm1 m :: norm ms) σ ((if m.par = true ∨ x = true then o else none) :: maskB xm ms env) fp' ∧ fp'.Sublist fp
    generalize (if m.par = true ∨ x = true then o else none) = o' at s' ⊢
    cases s' with
    | non s2 =>
      obtain ⟨f, a, b⟩ := p.mask hc2.2 s2
      exact ⟨f, .non a, b⟩
    | som h s2 =>
      obtain ⟨f, a, b⟩ := p.mask hc2.2 s2
      exact ⟨_, .som h a, b.append_left _⟩
  | .os t :: ms, _ :: mp, xm, σ, [], fp, .own p, hc, s => by
    have e1 : ∀ (m : Md) l, maskB xm (m :: l) [] = [] := fun m l => by cases xm <;> rfl
    rw [e1] at s
    cases s
  | .os t :: ms, _ :: mp, [], σ, o :: env, fp, .own p, hc, s => by
    have s' : Slots K I H (.ps t :: norm mp) σ (o :: maskB [] mp env) fp := s
    show ∃ fp', Slots K I H (.sh :: norm ms) σ (none :: maskB [] ms env) fp' ∧ fp'.Sublist fp
    cases s' with
    | non s2 =>
      obtain ⟨f, a, b⟩ := p.mask (xm := []) (by unfold compat; rfl) s2
      exact ⟨f, .non a, b⟩
    | som h s2 =>
      obtain ⟨f, a, b⟩ := p.mask (xm := []) (by unfold compat; rfl) s2
      exact ⟨f, .non a, b.trans (List.sublist_append_right _ _)⟩
  | .os t :: ms, _ :: mp, x :: xm, σ, o :: env, fp, .own p, hc, s => by
    have hc2 : ((!x || false) && compat xm ms) = true := hc
    rw [Bool.and_eq_true] at hc2
    have hx : x = false := by simpa using hc2.1
    subst hx
    have s' : Slots K I H (.ps t :: norm mp) σ (o :: maskB xm mp env) fp := s
    show ∃ fp', Slots K I H (.sh :: norm ms) σ (none :: maskB xm ms env) fp' ∧ fp'.Sublist fp
    cases s' with
    | non s2 =>
      obtain ⟨f, a, b⟩ := p.mask hc2.2 s2
      exact ⟨f, .non a, b⟩
    | som h s2 =>
      obtain ⟨f, a, b⟩ := p.mask hc2.2 s2
      exact ⟨f, .non a, b.trans (List.sublist_append_right _ _)⟩
theorem ParL.st {ms mp : List Md} {σ : L2.St} {env : Env} {fp : List Addr} (p : ParL ms mp) (s : St K ms I σ env H fp) : St K mp I σ env H fp := ⟨s.ext, s.nd, s.off, p.up s.sl⟩
theorem ParL.ts {ms mp : List Md} {σ : L2.St} {env : Env} {fp : List Addr} (p : ParL ms mp) (s : St K mp I σ env H fp) : St K ms I σ env H fp := ⟨s.ext, s.nd, s.off, p.down s.sl⟩
theorem ParL.tm {ms mp : List Md} {xm : List Bool} {σ : L2.St} {env : Env} {fp : List Addr} (p : ParL ms mp) (hc : compat xm ms = true) (s : St K (norm mp) I σ (maskB xm mp env) H fp) : ∃ fp', St K (norm ms) I σ (maskB xm ms env) H fp' ∧ fp'.Sublist fp := by
  obtain ⟨f, a, b⟩ := p.mask hc s.sl
  exact ⟨f, ⟨s.ext, s.nd.sublist b, fun q hq => s.off q (b.subset hq), a⟩, b⟩
end
section
variable {X : Cx} {xm : List Bool} {ms ms' B mp mp' Bp : List Md} {ro : Md} {st : Stmt} {f : CS}
end
end DI
set_option Elab.async false
set_option autoImplicit false
set_option linter.all false
set_option maxRecDepth 100000
set_option maxHeartbeats 2000000
/-! DI63: a value made anew is lent for the time of a call. -/
namespace DI
open PySem PySem.Spec PyProof.Rows
open L2 hiding XE Takes Takes.imp CX XE.of_call XE.new XE.leave takes_of passes_call Sky.land MkP PMk ps_raise mk_of ps_try_as HdsOk ps_try_many pmk_own passAt takes_none5 takes0 passL mk_end pmk_oex
open L2N hiding St
def popN (n : Nat) : Out D → Out D
  | some (r, e) => some (r, e.take n)
  | none => none
/-- fe's value stands in the slot n while f goes on; the slots gs are set -/
def cWith (n : Nat) (gs : List Nat) (fe f : CE) : CE := fun env => if gs.all (fun i => (getS env i).isSome) = true then (match fe env with
  | some (.ok d, e1) => popN n (f (e1 ++ [some d]))
  | some (.error z, e1) => some (.error z, e1)
  | none => none) else none
section
variable {K : PySem.W.Frag} {mg : Str → Option Value} {ms : List Md} {m : Md} {T : OT} {n : Nat} {gs : List Nat} {fe f : CE} {W : WX} {σ : L2.St} {H : Hp} {Q : VK}
end
section
variable {X : Cx} {ms : List Md} {k n : Nat} {f : Addr} {fd : FuncData} {ps : List Str} {x y y0 y2 y3 : Str} {p p0 p2 p3 pos : Pos} {ef : Expr} {F : FnD} {kinds : List AK} {ro : Md} {T : OT} {fe : CE} {c : Str} {ns : List Str} {ts : OTs}
end
end DI
set_option Elab.async false
set_option autoImplicit false
set_option linter.all false
set_option maxRecDepth 100000
set_option maxHeartbeats 2000000
/-! DI64: text * any small int. -/
namespace DI
open PySem PySem.Spec PyProof.Rows
open L2 hiding XE Takes Takes.imp CX XE.of_call XE.new XE.leave takes_of passes_call Sky.land MkP PMk ps_raise mk_of ps_try_as HdsOk ps_try_many pmk_own passAt takes_none5 takes0 passL mk_end pmk_oex
open L2N hiding St
open Builtin Builtin.Str
def gMulA : Prim
  | [.str a, .int k] => if 0 ≤ k ∧ k ≤ 1000000 ∧ 0 < a.length ∧ a.length * k.toNat ≤ sizeLine then some (.str (repS a k.toNat)) else none
  | _ => none
section
variable {X : Cx}
def rRepA : R2 := fun x y H Q => ∃ a k, x = .str a ∧ y = .int k ∧ 0 ≤ k ∧ k ≤ 1000000 ∧ 0 < a.length ∧ a.length * k.toNat ≤ sizeLine ∧ Q (.str (repS a k.toNat)) H
end
end DI
set_option Elab.async false
set_option autoImplicit false
set_option linter.all false
set_option maxRecDepth 100000
set_option maxHeartbeats 2000000
/-! DI65: own lists of own lists: made by a comprehension, x[i] = own list, x[i][j] = e, shared whole. -/
namespace DI
open PySem PySem.Spec PyProof.Rows
open L2 hiding XE Takes Takes.imp CX XE.of_call XE.new XE.leave takes_of passes_call Sky.land MkP PMk ps_raise mk_of ps_try_as HdsOk ps_try_many pmk_own passAt takes_none5 takes0 passL mk_end pmk_oex
open L2N hiding St
section
variable {K : PySem.W.Frag} {mg : Str → Option Value} {ms : List Md} {I I1 I2 H H1 H2 : Hp} {W : WX} {σ : L2.St} {env env' : Env} {fp fp1 fp2 fv g : List Addr} {t : OT}
end
section
variable {X : Cx} {xm : List Bool} {ms ms' B : List Md} {ro : Md} {sts : List Stmt} {f : CS} {t : OT}
end
/-! ### x[j] = an own list -/
def cSetO (i j : Nat) (fe : CE) : CS := fun env => mbind (fe env) fun d e1 => match getS e1 i, getS e1 j with
  | some (.lst xs), some (.int a) => match ixN xs.length a with
    | some n => some (.ok .nx, e1.set i (some (.lst (xs.set n d))))
    | none => none
  | _, _ => none
/-! ### x[j][k] = e -/
def cSetII (i j k : Nat) (fe : CE) : CS := fun env => mbind (fe env) fun d e1 => match getS e1 i, getS e1 j, getS e1 k with
  | some (.lst xs), some (.int a), some (.int b) => match ixN xs.length a with
    | some n => match xs[n]? with
      | some (.lst ys) => match ixN ys.length b with
        | some m => some (.ok .nx, e1.set i (some (.lst (xs.set n (.lst (ys.set m d))))))
        | none => none
      | _ => none
    | none => none
  | _, _, _ => none
section
variable {X : Cx} {xm : List Bool} {ms B : List Md} {ro : Md} {e : Expr} {fe : CE} {pos p : Pos} {W : WX} {t : OT}
end
section
variable {X : Cx} {xm : List Bool} {ms B : List Md} {ro : Md} {e : Expr} {fe : CE} {pos p p2 pp q1 p3 p4 : Pos} {t : OT}
end
end DI
set_option Elab.async false
set_option autoImplicit false
set_option linter.all false
set_option maxRecDepth 100000
set_option maxHeartbeats 2000000
/-! DI66: a comprehension that makes an own list of own things. -/
namespace DI
open PySem PySem.Spec PyProof.Rows
open L2 hiding XE Takes Takes.imp CX XE.of_call XE.new XE.leave takes_of passes_call Sky.land MkP PMk ps_raise mk_of ps_try_as HdsOk ps_try_many pmk_own passAt takes_none5 takes0 passL mk_end pmk_oex
open L2N hiding St
section
variable {ms : List Md} {c : CB} {f : CE} {fi : CI} {tgs : Tg} {t : OT}
end
section
variable {X : Cx} {ms : List Md} {tg iter elt : Expr} {ifs : List Expr} {c : CB} {f : CE} {fi : CI} {tgs : Tg} {pos p : Pos} {scope : Scope} {own : List (Str × Nat)} {t : OT}
end
end DI
set_option Elab.async false
set_option autoImplicit false
set_option linter.all false
set_option maxRecDepth 100000
set_option maxHeartbeats 2000000
/-! DI67: "text" + x.replace(y, z): the text gives the token. -/
namespace DI
open PySem PySem.Spec PyProof.Rows
open L2 hiding XE Takes Takes.imp CX XE.of_call XE.new XE.leave takes_of passes_call Sky.land MkP PMk ps_raise mk_of ps_try_as HdsOk ps_try_many pmk_own passAt takes_none5 takes0 passL mk_end pmk_oex
open L2N hiding St
section
variable {X : Cx} {ms : List Md} {m : Md} {b : Expr} {fb : CE} {pos : Pos} {g : Prim} {fr : Bool} {r : R2} {x : Str} {j : Nat} {p0 : Pos}
end
end DI
set_option Elab.async false
set_option autoImplicit false
set_option linter.all false
set_option maxRecDepth 100000
set_option maxHeartbeats 2000000
/-! DI68: x not in a table of the top, where x may be any text. -/
namespace DI
open PySem PySem.Spec PyProof.Rows
open L2 hiding XE Takes Takes.imp CX XE.of_call XE.new XE.leave takes_of passes_call Sky.land MkP PMk ps_raise mk_of ps_try_as HdsOk ps_try_many pmk_own passAt takes_none5 takes0 passL mk_end pmk_oex
open L2N hiding St
/-- .. and what is not in it -/
def GKn (K : PySem.W.Frag) (mg : Str → Option Value) (x : Str) (kvs : List (Str × Int)) : Prop := ∀ a, mg x = some (.ref a) → ∀ z, look kvs z = none → PySem.W.nsIn K a z = some none
def cNotInN (kvs : List (Str × Int)) (f : CE) : CE := fun env => mbind (f env) fun d e => match d with
  | .str z => some (.ok (.bl (!(look kvs z).isSome)), e)
  | _ => none
section
variable {X : Cx} {ms : List Md} {e : Expr} {f : CE} {x : Str} {kvs : List (Str × Int)} {p pos : Pos}
end
end DI
set_option Elab.async false
set_option autoImplicit false
set_option linter.all false
set_option maxRecDepth 100000
set_option maxHeartbeats 2000000
/-! DI69: defs with comprehensions, called within an except suite. -/
namespace DI
open PySem PySem.Spec PyProof.Rows
open L2 hiding XE Takes Takes.imp CX XE.of_call XE.new XE.leave takes_of passes_call Sky.land MkP PMk ps_raise mk_of ps_try_as HdsOk ps_try_many pmk_own passAt takes_none5 takes0 passL mk_end pmk_oex
open L2N hiding St
/-- the handled exception was tracked, its object known, at the entry -/
def HotQ (X : Cx) : Prop := HotH X.A X.H_0
section
variable {prog : Program} {w : World} {A : Around} {E : Value → Shared → Prop} {s : Shared}
theorem pyNext_list_end_hot {it l x1 : Addr} {i : Nat} {items : Array Value} {Q : Option Value → Shared → Prop} (hot : HotX.HotAt A x1 s.heap) (hne : x1 ≠ it)
    (hit : s.heap.IsListIter it l i) (hl : s.heap.IsList l items) (hx : items[i]? = none)
    (hQ : ∀ h', Heap.ExtBut it s.heap h' → Q none { s with heap := h' }) : wpAny (model prog w) A (pyNext (.ref it)) Q E s := by
  obtain ⟨o, ho, hc, hd⟩ := id hit
  obtain ⟨ol, hol, _, nl, hdl⟩ := hl
  obtain ⟨hh, o1, vs1, h1, d1, c1⟩ := hot
  unfold pyNext
  refine wpAny_bind (wpAny_attempt (wpAny_callSpecial?_slot (name := Str.ofString "__next__") hit.typeIs slot_listiter_next
    (wpAny_call_entry slot_listiter_next hit.typeIs entry_listiter_next ?_ (args_listiter_next _))))
  show wpAny _ _ (field (.ref it) 0 >>= _) _ _ s
  refine wpAny_bind (wpAny_field ho hd (x := .ref l) rfl ?_)
  show wpAny _ _ (if (Value.ref l == Value.none) = true then _ else _) _ _ s
  rw [if_neg (show ¬ ((Value.ref l == Value.none) = true) from Bool.false_ne_true)]
  show wpAny _ _ (field (.ref it) 1 >>= _) _ _ s
  refine wpAny_bind (wpAny_field ho hd (x := .int i 0) rfl ?_)
  show wpAny _ _ (seqItems? (.ref l) >>= _) _ _ s
  refine wpAny_bind (wpAny_seqItems hol hdl ?_)
  simp only [Int.toNat_natCast, hx]
  refine wpAny_bind (wpAny_rule (wpAny_bind (wpAny_setField ho hd (by simp) ?_)))
  show wpAny _ _ (newExc (.type "StopIteration") [] >>= _) _ _ _
  refine wpAny_bind ?_
  simp only [newExc, newTuple]
  refine wpAny_bind (wpAny_newObj_type ?_ (by size_fits))
  refine wpAny_bind (m := firstArgMember _ _) (wpAny_of_eq (a := Value.none) (by first | rfl | (simp only [firstArgMember]; rfl)) ?_)
  refine wpAny_newObj_type ?_ (by size_fits)
  have e0 : (s.heap.update it (Obj.mapFields (·.setIfInBounds 0 Value.none))).get? x1 = some o1 := by rw [Heap.get?_update_other _ _ (Ne.symm hne)]; exact h1
  refine HotX.raiseNew_hot ⟨hh, o1, vs1, Heap.get?_push_of_some _ (Heap.get?_push_of_some _ e0), d1, c1⟩ (Nat.ne_of_lt (Heap.lt_size (Heap.get?_push_of_some _ e0))) (Heap.get?_push_size _ rfl) rfl (by first | (simp; done) | (simp; omega) | (simp only [Array.size_append]; simp; omega)) ?_
  refine wpAny_bind (wpAny_isInstance (T := "StopIteration") (b := true) ⟨_, Heap.get?_update_self _ (Heap.get?_push_size _ rfl) rfl, rfl⟩ isSubtype_stop ?_)
  refine wpAny_pure (hQ _ ?_)
  refine fun b u hb e => ?_
  have e1 : (s.heap.update it (Obj.mapFields (·.setIfInBounds 0 Value.none))).get? b = some u := by rw [Heap.get?_update_other _ _ (Ne.symm hb)]; exact e
  rw [Heap.get?_update_other _ _ (Nat.ne_of_gt (Heap.lt_size (Heap.get?_push_of_some _ e1)))]
  exact Heap.get?_push_of_some _ (Heap.get?_push_of_some _ e1)
end
section
variable {X : Cx}
theorem HotQ.inv {pins : List (Addr × Obj)} {σ : L2.St} {H : Hp} {s : Shared} (c : HotQ X) (I : Inv X pins σ H s) : HotH X.A H := by
  obtain ⟨a, o, u, vs, h1, h2, h3⟩ := c
  exact ⟨a, o, u, vs, h1, I.base.frzs a o u h2, h3⟩
theorem HotH.at {pins : List (Addr × Obj)} {σ : L2.St} {H : Hp} {s : Shared} (c : HotH X.A H) (I : Inv X pins σ H s) : ∃ x1, HotX.HotAt X.A x1 s.heap ∧ H x1 ≠ none := by
  obtain ⟨a, o, u, vs, h1, h2, h3, h4⟩ := c
  exact ⟨a, ⟨h1, o, vs, (I.hok a _ h2).1, h3, h4⟩, by rw [h2]; simp⟩
end
section
variable {prog : Program} {w : World} {A : Around} {E : Value → Shared → Prop} {s : Shared}
theorem next_tuple_end_hot {it t : Addr} {i : Nat} {items : Array Value} {Q : Option Value → Shared → Prop} {x1 : Addr} (hot : HotX.HotAt A x1 s.heap) (hne : x1 ≠ it)
    (hit : IsTupIter s.heap it t i) (ht : IsTup s.heap t items) (hx : items[i]? = none)
    (hQ : ∀ h', Heap.ExtBut it s.heap h' → Q none { s with heap := h' }) : wpAny (model prog w) A (pyNext (.ref it)) Q E s := by
  obtain ⟨o, ho, hc, hd⟩ := id hit
  obtain ⟨ol, hol, _, nl, hdl⟩ := ht
  obtain ⟨hh, o1, vs1, h1, d1, c1⟩ := hot
  unfold pyNext
  refine wpAny_bind (wpAny_attempt (wpAny_callSpecial?_slot (name := Str.ofString "__next__") hit.typeIs slot_tupleiter_next
    (wpAny_call_entry slot_tupleiter_next hit.typeIs entry_tupleiter_next ?_ (args_tupleiter_next _))))
  show wpAny _ _ (field (.ref it) 0 >>= _) _ _ s
  refine wpAny_bind (wpAny_field ho hd (x := .ref t) rfl ?_)
  show wpAny _ _ (if (Value.ref t == Value.none) = true then _ else _) _ _ s
  rw [if_neg (show ¬ ((Value.ref t == Value.none) = true) from Bool.false_ne_true)]
  show wpAny _ _ (field (.ref it) 1 >>= _) _ _ s
  refine wpAny_bind (wpAny_field ho hd (x := .int i 0) rfl ?_)
  show wpAny _ _ (seqItems? (.ref t) >>= _) _ _ s
  refine wpAny_bind (wpAny_seqItems hol hdl ?_)
  simp only [Int.toNat_natCast, hx]
  refine wpAny_bind (wpAny_rule (wpAny_bind (wpAny_setField ho hd (by simp) ?_)))
  show wpAny _ _ (newExc (.type "StopIteration") [] >>= _) _ _ _
  refine wpAny_bind ?_
  simp only [newExc, newTuple]
  refine wpAny_bind (wpAny_newObj_type ?_ (by size_fits))
  refine wpAny_bind (m := firstArgMember _ _) (wpAny_of_eq (a := Value.none) (by first | rfl | (simp only [firstArgMember]; rfl)) ?_)
  refine wpAny_newObj_type ?_ (by size_fits)
  have e0 : (s.heap.update it (Obj.mapFields (·.setIfInBounds 0 Value.none))).get? x1 = some o1 := by rw [Heap.get?_update_other _ _ (Ne.symm hne)]; exact h1
  refine HotX.raiseNew_hot ⟨hh, o1, vs1, Heap.get?_push_of_some _ (Heap.get?_push_of_some _ e0), d1, c1⟩ (Nat.ne_of_lt (Heap.lt_size (Heap.get?_push_of_some _ e0))) (Heap.get?_push_size _ rfl) rfl (by first | (simp; done) | (simp; omega) | (simp only [Array.size_append]; simp; omega)) ?_
  refine wpAny_bind (wpAny_isInstance (T := "StopIteration") (b := true) ⟨_, Heap.get?_update_self _ (Heap.get?_push_size _ rfl) rfl, rfl⟩ isSubtype_stop ?_)
  refine wpAny_pure (hQ _ ?_)
  refine fun b u hb e => ?_
  have e1 : (s.heap.update it (Obj.mapFields (·.setIfInBounds 0 Value.none))).get? b = some u := by rw [Heap.get?_update_other _ _ (Ne.symm hb)]; exact e
  rw [Heap.get?_update_other _ _ (Nat.ne_of_gt (Heap.lt_size (Heap.get?_push_of_some _ e1)))]
  exact Heap.get?_push_of_some _ (Heap.get?_push_of_some _ e1)
theorem unpackItems_hot {t : Addr} {items : Array Value} {Q : List Value → Shared → Prop} {x1 : Addr} (hh : HotX.HotAt A x1 s.heap) (ht : IsTup s.heap t items)
    (hQ : ∀ h', Heap.ExtBut s.heap.objs.size s.heap h' → Q items.toList { s with heap := h' }) : wpAny (model prog w) A (unpackItems (.ref t) items.size none) Q E s := by
  have hlt : t ≠ s.heap.objs.size := by obtain ⟨o, ho, _⟩ := ht; exact Nat.ne_of_lt (Heap.lt_size ho)
  have h1s : x1 ≠ s.heap.objs.size := by obtain ⟨_, o1, _, e1, _⟩ := hh; exact Nat.ne_of_lt (Heap.lt_size e1)
  unfold unpackItems
  refine wpAny_bind ?_
  · unfold notIterableAtAll
    refine wpAny_bind (wpAny_specialOf ht.typeIs slot_tuple_iter.lookup ?_)
    refine wpAny_pure ?_
    simp only [Bool.false_eq_true, if_false]
    refine wpAny_bind (wpAny_holding (iter_tuple ht ?_))
    refine wpAny_bind (wpAny_holding (draw_tuple hlt items.size 0 _ _ ⟨_, Heap.get?_push_size _ rfl, rfl, rfl⟩ (ht.push _) (by omega) fun h₁ hit₁ hs₁ => ?_))
    have hall : List.take items.size (List.drop 0 items.toList) = items.toList := by
      rw [List.drop_zero]; exact List.take_of_length_le (by simp)
    rw [hall]
    rw [if_neg (by simp)]
    have ht₁ : IsTup h₁ t items := (ht.push _).extBut hs₁.extBut hlt
    refine wpAny_bind (wpAny_holding (next_tuple_end_hot (x1 := x1) (by obtain ⟨q1, o1, v1, e1, e2⟩ := hh; exact ⟨q1, o1, v1, hs₁.extBut _ _ h1s (Heap.get?_push_of_some _ e1), e2⟩) h1s hit₁ ht₁ (by simp) fun h₂ he₂ => ?_))
    simp only [Option.isSome_none, Bool.false_eq_true, if_false]
    refine wpAny_pure (hQ h₂ fun b o hb e => he₂ b o hb (hs₁.extBut b o hb (Heap.get?_push_of_some _ e)))
theorem unpack_hot {t : Addr} {items : Array Value} {targets : List (Bool × (Value → Sem Unit))} {Q : Unit → Shared → Prop} {x1 : Addr} (hh : HotX.HotAt A x1 s.heap) (ht : IsTup s.heap t items)
    (hn : targets.length = items.size) (hstar : targets.findIdx? (·.1) = none)
    (h : ∀ h', Heap.ExtBut s.heap.objs.size s.heap h' → wpAny (model prog w) A (assignInOrder (targets.map (·.2)) items.toList) Q E { s with heap := h' }) :
    wpAny (model prog w) A (unpack (.ref t) targets) Q E s := by
  unfold unpack
  rw [hn, hstar]
  exact wpAny_bind (wpAny_holding (unpackItems_hot hh ht h))
theorem assign_Tuple_hot {env : PySem.Env} {elts : List Expr} {k1} {pos : Pos} {t : Addr} {items : Array Value} {Q : Unit → Shared → Prop} {x1 : Addr} (hh : HotX.HotAt A x1 s.heap) (ht : IsTup s.heap t items)
    (hn : (assignEach elts env).length = items.size) (hstar : (assignEach elts env).findIdx? (·.1) = none)
    (h : ∀ h', Heap.ExtBut s.heap.objs.size s.heap h' → wpAny (model prog w) A (assignInOrder ((assignEach elts env).map (·.2)) items.toList) Q E { s with heap := h' }) :
    wpAny (model prog w) A (assign (.Tuple elts k1 pos) env (.ref t)) Q E s := by
  rw [assign_Tuple]
  exact wpAny_bind (wpAny_standAt (unpack_hot hh ht hn hstar h))
end
theorem pg_tupQ {X : Cx} {es : List Expr} {k : Nat} {pos : Pos} {t : TGs} {n : Nat} (hc : HotQ X) (h : PGs X es t)
    (hn : (assignEach es X.env).length = n := by rfl) (hst : (assignEach es X.env).findIdx? (·.1) = none := by rfl) : PG X (.Tuple es k pos) (L2.gTup X.K n t) := by
  refine ⟨fun pins s σ H v u Q I r hw => ?_⟩
  obtain ⟨a, xs, e1, hq, hl, hw⟩ := hw
  subst e1
  cases r
  obtain ⟨its, rv, ht, hz⟩ := I.tuple hq
  obtain ⟨x1, hot, _⟩ := (hc.inv I).at I
  refine assign_Tuple_hot hot ht (by simp [hn, ← hl, rv.length]) hst fun h' hx => ?_
  have I1 : Inv X pins σ H { s with heap := h' } := I.kept (t' := s.toks) fun b o e => hx b o (Nat.ne_of_lt (Heap.lt_size e)) e
  exact h.run pins _ σ H xs _ Q I1 (by simpa using rv) hw
/-- Turn, while an exception is handled -/
structure TurnQ (P : Program) (w : World) (K : PySem.W.Frag) (tg : Expr) (J : It) (fp : List Addr) (it : Addr) (tn : Nat → Heap → Prop) : Prop where
  mem : it ∈ fp
  obj : ∀ i h, tn i h → ∀ b ∈ fp, ∃ o, h.get? b = some o ∧ ∀ v, o.data ≠ .cell v
  keep : ∀ i h h', tn i h → (∀ b ∈ fp, ∀ o, h.get? b = some o → h'.get? b = some o) → tn i h'
  item : ∀ (X : Cx), X.prog = P → X.w = w → X.K = K → HotQ X → ∀ (i : Nat) (pins : List (Addr × Obj)) (s : Shared) (σ : L2.St) (H : Hp) (E : Value → Shared → Prop), Inv X pins σ H s → (∀ b ∈ fp, FpOk X pins H b) → tn i s.heap → J.go i H →
    wpAny (model P w) X.A (pyNext (.ref it)) (fun r s1 => ∃ u, r = some u ∧
      wpAny (model P w) X.A (letOwnedTupleGo tg (.ref it) u) (fun _ s2 => ∃ x H', Inv X pins σ H' s2 ∧ RelV x u ∧ J.yld i H x H' ∧ tn (i + 1) s2.heap ∧ ∀ b ∈ fp, H' b = none) E s1) E s
  done : ∀ (X : Cx), X.prog = P → X.w = w → X.K = K → HotQ X → ∀ (i : Nat) (pins : List (Addr × Obj)) (s : Shared) (σ : L2.St) (H : Hp) (E : Value → Shared → Prop), Inv X pins σ H s → (∀ b ∈ fp, FpOk X pins H b) → tn i s.heap → J.stop i H →
    wpAny (model P w) X.A (pyNext (.ref it)) (fun r s1 => r = none ∧ Inv X pins σ H s1) E s
  self : ∀ (A : Around) (i : Nat) (s : Shared) (Q : Value → Shared → Prop) (E : Value → Shared → Prop), tn i s.heap → Q (.ref it) s → wpAny (model P w) A (pyIter (.ref it)) Q E s
theorem turn_listQ {P : Program} {w : World} {K : PySem.W.Frag} {tg : Expr} (a it : Addr) : TurnQ P w K tg (Itl K a) [it] it (fun i h => h.IsListIter it a i) where
  mem := by simp
  obj := fun i h st b hb => by
    have e : b = it := by simpa using hb
    subst e
    obtain ⟨o, e, c, d⟩ := st
    exact ⟨o, e, fun v z => by rw [d] at z; cases z⟩
  keep := fun i h h' st k => st.at fun o e => k it (by simp) o e
  item := by
    intro X hP hw hK hc i pins s σ H E I hf st hg
    subst hP hw hK
    obtain ⟨xs, x, hq, hx⟩ := hg
    obtain ⟨its, rv, p, hz⟩ := I.list hq
    obtain ⟨u, hu, ru⟩ := rv.get hx
    obtain ⟨f0, f1, f2, f3, f4, f5⟩ := hf it (by simp)
    refine wpAny_pyNext_list_item st p.isList (x := u) (by simpa using hu) fun h' st' sb => ?_
    have I1 : Inv X pins σ H { s with heap := h' } := I.turned (t' := s.toks) (fun b o hb e => (sb.2 b hb).trans e) f0 f1 f3 f4 f5
    obtain ⟨o, e, c, d⟩ := id st'
    exact ⟨u, rfl, go_of (s := { s with heap := h' }) e c d (by decide) ⟨x, H, I1, ru, ⟨rfl, fun ys hy => by rw [I.list_inj hy hq]; exact hx⟩, st', fun b hb => (hf b hb).1⟩⟩
  done := by
    intro X hP hw hK hc i pins s σ H E I hf st hg
    subst hP hw hK
    obtain ⟨xs, hq, hx⟩ := hg
    obtain ⟨its, rv, p, hz⟩ := I.list hq
    obtain ⟨f0, f1, f2, f3, f4, f5⟩ := hf it (by simp)
    have hl := rv.length
    obtain ⟨x1, hot, nx⟩ := (hc.inv I).at I
    exact pyNext_list_end_hot hot (fun z => nx (by rw [z]; exact f0)) st p.isList (by simp; omega) fun h' eb => ⟨rfl, I.turned (t' := s.toks) (fun b o hb e => eb b o hb e) f0 f1 f3 f4 f5⟩
  self := fun _ _ _ _ _ st h => wpAny_pyIter_listiter st h
def PIEQ (X : Cx) (pins : List (Addr × Obj)) (σ : L2.St) (tg : Expr) (R : It → Hp → Prop) (itv : Value) (s2 : Shared) : Prop :=
  ∃ (it : Addr) (fp : List Addr) (tn : Nat → Heap → Prop) (J : It) (H' : Hp), itv = .ref it ∧ Inv X pins σ H' s2 ∧ TurnQ X.prog X.w X.K tg J fp it tn ∧ tn 0 s2.heap ∧ (∀ b ∈ fp, FpOk X pins H' b) ∧ R J H'
structure PIQ (X : Cx) (tg iter : Expr) (wi : TI) : Prop where
  run : ∀ (pins : List (Addr × Obj)) (s : Shared) (σ : L2.St) (H : Hp) (R : It → Hp → Prop), Inv X pins σ H s → wi σ H R →
    wpAny (model X.prog X.w) X.A (eval iter X.env) (fun v s1 => wpAny (model X.prog X.w) X.A (pyIter v) (PIEQ X pins σ tg R) X.xe s1) X.xe s
theorem piq_imp {X : Cx} {tg e : Expr} {t t' : TI} (h : PIQ X tg e t) (i : ∀ σ H R, t' σ H R → t σ H R) : PIQ X tg e t' := ⟨fun pins s σ H R I q => h.run pins s σ H R I (i σ H R q)⟩
theorem pi_listQ {X : Cx} {tg l : Expr} {tl : TE} (hl : PE X l tl) : PIQ X tg l (iList X.K tl) := by
  refine ⟨fun pins s σ H R I h => ?_⟩
  refine thn (hl.run pins s σ H _ I h) fun v s1 ⟨x, H1, I1, r1, q1⟩ => ?_
  obtain ⟨a, e, ⟨xs, hq⟩, q⟩ := q1
  subst e
  cases r1
  obtain ⟨its, rv, p, hz⟩ := I1.list hq
  refine wpAny_pyIter_list p.isList ?_
  refine ⟨s1.heap.objs.size, [s1.heap.objs.size], _, _, H1, rfl, I1.kept (t' := s1.toks) fun b o e => Heap.get?_push_of_some _ e, turn_listQ a _, ⟨_, Heap.get?_push_size _ rfl, rfl, rfl⟩, fun b hb => ?_, q⟩
  have e : b = s1.heap.objs.size := by simpa using hb
  subst e
  exact I1.fpOk (Nat.le_refl _) (I1.hok.fresh (Nat.le_refl _))
section
variable {X : Cx}
theorem lc_coreQ {pins : List (Addr × Obj)} {s : Shared} {σ : L2.St} {H : Hp} {Q : VK} {elt tg iter : Expr} {ifs : List Expr} {scope : Scope} {own : List (Str × Nat)} {pos pos' : Pos} {wi : TI} {g : TG} {tt : TT} {te : TE} {use : Option (Value → Sem Unit)} {Qf : Value → Shared → Prop}
    (hc : HotQ X) (hN : X.N.Nodup) (I : Inv X pins σ H s) (hi : PIQ X tg iter wi) (ok : BlkOk X.N X.env.scope scope own)
    (hg : ∀ (s : Shared) (H : Hp) (C : Addr) (cl : List (Str × Addr)) (fp : List Addr), HotQ (X.blk s H scope (compEnvC scope cl C X.env) fp) → PG (X.blk s H scope (compEnvC scope cl C X.env) fp) tg g) (ht : ∀ (s : Shared) (H : Hp) (C : Addr) (cl : List (Str × Addr)) (fp : List Addr), PTs (X.blk s H scope (compEnvC scope cl C X.env) fp) ifs tt)
    (he : ∀ (s : Shared) (H : Hp) (C : Addr) (cl : List (Str × Addr)) (fp : List Addr), PE (X.blk s H scope (compEnvC scope cl C X.env) fp) elt te) (hs : ∀ x, foldedSetIterable iter X.env x = pure x)
    (h : tLc wi g tt te (own.map (·.2)) σ H Q)
    (hRR : ∀ D C s' m H', Inv X pins σ H' s' → Q (.ref D) H' → s'.heap.Ns C m → FpOk X pins H' C → compPost (model X.prog X.w) X.A X.xe use Qf (.ref D) C (.ok .next) s') :
    wpAny (model X.prog X.w) X.A (comprehension (.ListComp elt [⟨tg, iter, ifs, 0⟩] scope pos) scope X.env pos' (newList []) false (eval iter X.env) use) Qf X.xe s := by
  have hfree : ∀ y ∈ scope.names, y.2 = .free → ∃ c, X.env.cells.lookup y.1 = some c := fun y hy e => by
    rcases ok.free y hy e with k | k
    · exact I.ok.has _ (.inl k)
    · exact I.ok.has _ (.inr k)
  refine wpAny_comprehension_free (use := use) rfl hs (closure_ok hfree) ok.kind (fun y hy e => by rw [ok.uniq y hy, e])
    (thn (hi.run pins s σ H _ I h) fun xv s1 hx => thn hx fun itv s2 h2 => ?_)
  obtain ⟨it, fp, tn, J, H2, e, I2, T, st2, f2, q⟩ := h2
  subst e
  refine wpAny_newObj_type (newEnv_comp ?_) (by show 0 ≤ sizeLine; decide)
  generalize hD : s2.heap.objs.size = D
  have hDn : H2 D = none := I2.hok.fresh (Nat.le_of_eq hD)
  obtain ⟨W, ⟨m0, w0⟩, turn⟩ := q D hDn
  -- the new list
  generalize hs3 : ({ s2 with heap := s2.heap.push { cls := .type "list", data := .seq ([] : List Value).toArray } } : Shared) = s3
  have I3 : Inv X pins σ (upd H2 D (.lst [])) s3 := by
    rw [← hs3]
    refine I2.laid (t' := s2.toks) (fun b o e => Heap.get?_push_of_some _ e) (Nat.le_of_eq hD) ⟨Nat.zero_le _, [], 0, .nil, ?_⟩
    rw [← hD]
    exact Heap.get?_push_size _ rfl
  have hotB : ∀ {scope2 : Scope} {ce2 : PySem.Env} {fp2 : List Addr}, HotQ (X.blk s3 (upd H2 D (.lst [])) scope2 ce2 fp2) := fun {_ _ _} => hc.inv I3
  have h3 : s3.heap = s2.heap.push { cls := .type "list", data := .seq ([] : List Value).toArray } := by rw [← hs3]
  have sz : ∀ b ∈ fp, b < s2.heap.objs.size := fun b hb => by
    obtain ⟨o, e, _⟩ := T.obj _ _ st2 b hb
    exact Heap.lt_size e
  have f3 : ∀ b ∈ fp, FpOk X pins (upd H2 D (.lst [])) b ∧ b < s3.heap.objs.size := fun b hb => by
    have hlt := sz b hb
    refine ⟨⟨?_, (f2 b hb).2⟩, by rw [h3, Heap.size_push]; exact Nat.lt_succ_of_lt hlt⟩
    rw [upd_ne (by rw [← hD]; exact Nat.ne_of_lt hlt)]
    exact (f2 b hb).1
  have st3 : tn 0 s3.heap := T.keep _ _ _ st2 fun b _ o e => by rw [h3]; exact Heap.get?_push_of_some _ e
  have I4 := block_start I3 ok hN f3
  have pg := hg s3 (upd H2 D (.lst [])) s3.heap.objs.size (cellsFrom (s3.heap.objs.size + 1) scope.names (cloFrom X.env.cells scope.names [])) fp hotB
  have pt := ht s3 (upd H2 D (.lst [])) s3.heap.objs.size (cellsFrom (s3.heap.objs.size + 1) scope.names (cloFrom X.env.cells scope.names [])) fp
  have pe := he s3 (upd H2 D (.lst [])) s3.heap.objs.size (cellsFrom (s3.heap.objs.size + 1) scope.names (cloFrom X.env.cells scope.names [])) fp
  show codeAny _ _ (.compStart (.ListComp elt [⟨tg, iter, ifs, 0⟩] scope pos) 0 (.ref it) (.ref D) (compEnvC scope (cellsFrom (s3.heap.objs.size + 1) scope.names (cloFrom X.env.cells scope.names [])) s3.heap.objs.size X.env)) (compPost (model X.prog X.w) X.A X.xe use Qf (.ref D) s3.heap.objs.size) { s3 with heap := pushCells (s3.heap.push { cls := .type "dict", data := .dict #[] }) scope.names }
  have nfp : ∀ b ∈ fp, (upd H2 D (.lst [])) b = none := fun b hb => (f3 b hb).1.1
  generalize hce : compEnvC scope (cellsFrom (s3.heap.objs.size + 1) scope.names (cloFrom X.env.cells scope.names [])) s3.heap.objs.size X.env = ce at I4 pg pt pe ⊢
  have cL : ce.locals = s3.heap.objs.size := by subst hce; rfl
  generalize hH3 : upd H2 D (.lst []) = H3 at I3 I4 pg pt pe w0 nfp f3
  generalize hs4 : ({ s3 with heap := pushCells (s3.heap.push { cls := .type "dict", data := .dict #[] }) scope.names } : Shared) = s4 at I4 ⊢
  have st4 : tn 0 s4.heap := T.keep _ _ _ st3 fun b _ o e => by rw [← hs4]; exact pushCells_keeps _ _ _ _ (Heap.get?_push_of_some _ e)
  have stat : ∀ {σ' : L2.St} {H' : Hp} {s' : Shared}, Inv (X.blk s3 H3 scope ce fp) [] σ' H' s' → (∀ b ∈ fp, H' b = none) → ∀ b ∈ fp, FpOk (X.blk s3 H3 scope ce fp) [] H' b := fun {σ' H' s'} I' hn b hb =>
    ⟨hn b hb, (I'.ok.exf b hb).1, I'.ok.exfs b hb, .inl hb, fun x c e => (I'.ok.exf b hb).2 x c e, fun p hp => absurd (show p ∈ ([] : List (Addr × Obj)) ++ [] from hp) (by simp)⟩
  have loop : codeAny (model X.prog X.w) X.A (.compLoop (.ListComp elt [⟨tg, iter, ifs, 0⟩] scope pos) 0 (.ref it) (.ref D) ce) (compPost (model X.prog X.w) X.A X.xe use Qf (.ref D) s3.heap.objs.size) s4 := by
    refine compLoop_any (fun n s' => ∃ i H', Inv (X.blk s3 H3 scope ce fp) [] (wipe σ (own.map (·.2))) H' s' ∧ tn i s'.heap ∧ (∀ b ∈ fp, H' b = none) ∧ W i n H') ?_ m0 ⟨0, H3, I4, st4, nfp, w0⟩
    rintro n s5 ⟨i, H5, I5, st5, n5, w5⟩
    rcases turn i n H5 w5 with ⟨stop, qq⟩ | ⟨go, Nx, hNx, step⟩
    · have td := T.done (X.blk s3 H3 scope ce fp) rfl rfl rfl (by subst hH3; exact hotB) i [] s5 _ H5 (fun _ _ => False) I5 (stat I5 n5) st5 stop
      refine thnF td fun r s6 ⟨hr, I6⟩ => ?_
      subst hr
      -- back in the def's context
      have I7 : Inv X pins σ H5 s6 := I3.call' (ch := fp) I6.os I6.base I6.hok I6.bare fun b hb => ⟨(f3 b hb).1.2.2.2.1, (f3 b hb).1.2.1, (f3 b hb).1.2.2.2.2.1, (f3 b hb).1.2.2.2.2.2⟩
      have nC : H5 s3.heap.objs.size = none := by
        have z : H5 ce.locals = none := I6.free
        rw [cL] at z
        exact z
      obtain ⟨m, hn, _⟩ := I6.loc
      have hn : s6.heap.Ns ce.locals m := hn
      rw [cL] at hn
      exact hRR D s3.heap.objs.size s6 m H5 I7 qq hn (I3.fpOk (Nat.le_refl _) nC)
    · have ti := T.item (X.blk s3 H3 scope ce fp) rfl rfl rfl (by subst hH3; exact hotB) i [] s5 _ H5 (fun _ _ => False) I5 (stat I5 n5) st5 go
      refine thnF ti fun r s6 ⟨u, hr, h6⟩ => ?_
      subst hr
      refine thnF h6 fun _ s7 ⟨x, H7, I7, r7, y7, st7, n7⟩ => ?_
      have I7' := I7.pinned (stat I7 n7) (T.obj _ _ st7)
      refine thnF (pg.run _ s7 _ H7 x u _ I7' r7 (step x H7 y7)) fun _ s8 ⟨σ8, H8, I8, hw8, q8⟩ => ?_
      refine thnF (pt.run _ s8 σ8 H8 _ I8 q8) fun b s9 ⟨H9, I9, q9⟩ => ?_
      -- the turn's end
      have fin : ∀ {s' : Shared} {H' : Hp}, Inv (X.blk s3 H3 scope ce fp) ([] ++ pinsAt fp s7.heap) σ8 H' s' → Nx H' → ∃ m, m < n ∧ ∃ i H', Inv (X.blk s3 H3 scope ce fp) [] (wipe σ (own.map (·.2))) H' s' ∧ tn i s'.heap ∧ (∀ b ∈ fp, H' b = none) ∧ W i m H' := fun {s' H'} I' nx => by
        obtain ⟨m', hm, w'⟩ := hNx H' nx
        have pin' : ∀ b ∈ fp, ∀ o, s7.heap.get? b = some o → s'.heap.get? b = some o ∧ H' b = none := fun b hb o e =>
          let z := I'.pin (b, o) (List.mem_append_right _ (List.mem_append_right _ (mem_pinsAt hb e)))
          ⟨z.1, z.2.1⟩
        have hl : (wipe σ (own.map (·.2))).length = σ8.length := by rw [← hw8, wipe_length]
        refine ⟨m', hm, i + 1, H', (I'.unpinned (pins := [])).weak hl (fun j v e => ?_), T.keep _ _ _ st7 fun b hb o e => (pin' b hb o e).1, fun b hb => ?_, w'⟩
        · rw [← hw8] at e
          exact (wipe_some e).1
        · obtain ⟨o, e, _⟩ := T.obj _ _ st7 b hb
          exact (pin' b hb o e).2
      cases b with
      | false =>
        simp only [Bool.false_eq_true, if_false] at q9 ⊢
        exact fin I9 q9
      | true =>
        simp only [if_true] at q9 ⊢
        refine thnF (pe.run _ s9 σ8 H9 _ I9 q9) fun z s10 ⟨yv, H10, I10, r10, acc, hD10, hz10, nx⟩ => ?_
        exact app_ok (X := X.blk s3 H3 scope ce fp) I10 hD10 hz10 r10 fun s11 I11 => fin I11 nx
  exact codeAny_compStart_list loop (T.self X.A 0 _ _ _ st4 loop)
/-- name = [..] on one line, the name a local -/
theorem ps_setLcQ {i : Nat} {y : Str} {py : Pos} {elt tg iter : Expr} {ifs : List Expr} {scope : Scope} {own : List (Str × Nat)} {pos spos : Pos} {wi : TI} {g : TG} {tt : TT} {te : TE} (hc : HotQ X) (hN : X.N.Nodup) (hy : X.N[i]? = some y) (hyl : X.env.scope.names.lookup y = some .local)
    (hsw : swapsWith (.ListComp elt [⟨tg, iter, ifs, 0⟩] scope pos) (some (.Name y py)) spos.line X.env = pure true) (hi : PIQ X tg iter wi) (ok : BlkOk X.N X.env.scope scope own)
    (hg : ∀ (s : Shared) (H : Hp) (C : Addr) (cl : List (Str × Addr)) (fp : List Addr), HotQ (X.blk s H scope (compEnvC scope cl C X.env) fp) → PG (X.blk s H scope (compEnvC scope cl C X.env) fp) tg g) (ht : ∀ (s : Shared) (H : Hp) (C : Addr) (cl : List (Str × Addr)) (fp : List Addr), PTs (X.blk s H scope (compEnvC scope cl C X.env) fp) ifs tt)
    (he : ∀ (s : Shared) (H : Hp) (C : Addr) (cl : List (Str × Addr)) (fp : List Addr), PE (X.blk s H scope (compEnvC scope cl C X.env) fp) elt te) (hs : ∀ x, foldedSetIterable iter X.env x = pure x := by intro _; rfl) :
    PS X (.Assign [.Name y py] (.ListComp elt [⟨tg, iter, ifs, 0⟩] scope pos) spos) (tAsg (tLc wi g tt te (own.map (·.2))) (gName i)) := by
  refine ⟨fun pins s σ H D I h => ?_⟩
  rw [exec_Assign_Name_used _ _ _ _ hsw]
  refine wpAny_bind (wpAny_standAt (wpAny_bind ?_))
  show wpAny _ X.A (do let _ ← comprehension (.ListComp elt [⟨tg, iter, ifs, 0⟩] scope pos) scope X.env (firstIterPos [⟨tg, iter, ifs, 0⟩] pos) (newList []) false (eval iter X.env) (some (assign (.Name y py) X.env))) _ _ s
  have h : tLc wi g tt te (own.map (·.2)) σ H (fun x H1 => gName i x σ H1 D.nx) := h
  refine wpAny_bind (thn (lc_coreQ (Qf := fun _ s' => SP X pins D .next s') hc hN I hi ok hg ht he hs h fun L C s' m H' I' q hn f => ?_) fun _ s' hq => wpAny_pure (wpAny_pure hq))
  show wpAny _ _ (assign (.Name y py) X.env (.ref L)) _ _ _
  refine wpAny_assign_Name (store_ok2 (v := V.ref L) I' hN hy (.inl hyl) rfl (fun s2 I2 ⟨a, sb, ha⟩ => ?_) (.inr hyl))
  obtain ⟨f0, f1, f2, f3, f4, f5⟩ := f
  have haC : C ≠ a := by
    rcases ha with z | z
    · rw [z]; exact f1
    · exact fun e => f4 y a z e.symm
  refine ⟨m, hn.sameBut sb haC, fun h3 sb3 => ?_⟩
  exact ⟨_, H', I2.turned (t' := s2.toks) (fun b o hb e => (sb3.2 b hb).trans e) f0 f1 f3 f4 f5, q⟩
end
section
variable {X : Cx} {tg iter elt a : Expr} {fa f : CE} {fi : CI} {c : CB} {ms : List Md} {ifs : List Expr} {scope : Scope} {own : List (Str × Nat)} {pos : Pos} {tgs : Tg} {m : Md}
def DItQ (X : Cx) (ms : List Md) (tg iter : Expr) (f : CI) : Prop := ∀ W, Takes X W → PIQ X tg iter (tI X.K X.mg ms f W)
theorem di_lstQ (ha : DE X ms .sh a fa) : DItQ X ms tg a (cIt giL [.tm fa]) := fun W tk => piq_imp (pi_listQ (ha W tk)) fun σ H R h => by
  have h2 := it_read (K := X.K) (r := fun vs H1 R => ∃ x, vs = [x] ∧ ∃ a, x = .ref a ∧ (∃ xs, SqL X.K H1 a xs) ∧ R (Itl X.K a) H1) rfl (fun I H vs ds items e r g R q => by
    unfold giL at g
    split at g
    · obtain ⟨v, rfl, h⟩ := reps1 r
      cases g
      cases h with
      | lst h1 h2 => exact ⟨_, rfl, _, rfl, ⟨_, SqL.of (e _ _ h1)⟩, q _ (it_lst (SqL.of h1) h2)⟩
    · obtain ⟨v, rfl, h⟩ := reps1 r
      cases g
      cases h with
      | scr h1 => exact ⟨_, rfl, _, rfl, ⟨_, e.l h1⟩, q _ (it_lst h1 (Reps.ints _))⟩
    · cases g) h
  refine tE_mono (show tE X.K X.mg ms .sh fa W σ H (fun x H1 => ∃ x', [x] = [x'] ∧ ∃ a, x' = .ref a ∧ (∃ xs, SqL X.K H1 a xs) ∧ R (Itl X.K a) H1) from h2) fun v H1 ⟨x, e, q⟩ => ?_
  cases e; exact q
theorem ds_lcQ {xm : List Bool} {B : List Md} {ro : Md} (i : Nat) {y : Str} {py spos : Pos} (hi : DItQ X ms tg iter fi) (ok : BlkOk X.N X.env.scope scope own) (hg : ∀ (s : Shared) (H : Hp) (C : Addr) (cl : List (Str × Addr)) (fp : List Addr), HotQ (X.blk s H scope (compEnvC scope cl C X.env) fp) → PG (X.blk s H scope (compEnvC scope cl C X.env) fp) tg (tgR X.K tgs))
    (ht : ∀ (s : Shared) (H : Hp) (C : Addr) (cl : List (Str × Addr)) (fp : List Addr), DTs (X.blk s H scope (compEnvC scope cl C X.env) fp) ms ifs c) (he : ∀ (s : Shared) (H : Hp) (C : Addr) (cl : List (Str × Addr)) (fp : List Addr), DE (X.blk s H scope (compEnvC scope cl C X.env) fp) ms .sh elt f)
    (hcalm : HotQ X) (hN : X.N.Nodup) (hsw : swapsWith (.ListComp elt [⟨tg, iter, ifs, 0⟩] scope pos) (some (.Name y py)) spos.line X.env = pure true) (hy : X.N[i]? = some y := by rfl) (hyl : X.env.scope.names.lookup y = some .local := by rfl) (hn : notPr ms i = true := by rfl)
    (hm : m.fl = true := by rfl) (h0 : tgOk ms tgs = true := by rfl) (hv : tgs.slots.all (fun j => decide (j ∈ own.map (·.2))) = true := by rfl) (hsh : shAll ms (own.map (·.2)) = true := by rfl) (hc : compat xm ms = true := by rfl) (hs : ∀ x, foldedSetIterable iter X.env x = pure x := by intro _; rfl) :
    DS X xm ms (ms.set i m) B ro (.Assign [.Name y py] (.ListComp elt [⟨tg, iter, ifs, 0⟩] scope pos) spos) (cAsg i (cLc fi tgs c f (own.map (·.2)))) :=
  ⟨let ⟨_, g1, g2, _⟩ := notPr_some hn; norm_set g1 g2 (Md.fl_par hm), fun W tk => ps_imp (ps_setLcQ (i := i) hcalm hN hy hyl hsw (hi W tk) ok hg (fun s H C cl fp => ht s H C cl fp _ takes0) (fun s H C cl fp => he s H C cl fp _ takes0) hs) fun D σ H h =>
    lc_read hm h0 hv hsh (asg_read hn hc h)⟩
end
/-- tE, of which more is known at the start -/
def tEJ (J : Hp → Prop) (K : PySem.W.Frag) (mg : Str → Option Value) (ms : List Md) (m : Md) (f : CE) (W : WX) : TE := fun σ H Q => ∃ I env fp, St K ms I σ env H fp ∧ J I ∧ ∃ r env', f env = some (r, env') ∧
  (∀ d, r = .ok d → ∀ v H' I' fp' fv, St K ms I' σ env' H' fp' → Step I H fp I' H' (fv ++ fp') → RepM m K I' H' v d fv → (fv ++ fp').Nodup → (∀ p ∈ fv, I' p = none) → Q v H') ∧
  (∀ e, r = .error e → Bad K mg ms I σ H fp W e env')
theorem call_readX {K : PySem.W.Frag} {mg : Str → Option Value} {ms : List Md} {W : WX} {σ : L2.St} {A : Around} {F : FnD} {kinds : List AK} {ro m : Md} {perm : List Nat} {dvs : List V} {dds : List D} {os : List Opd} {H : Hp} {Q : VK} (hm : m = ro) (ha : argsOk ms os kinds perm = true) (hn : (ixs kinds).Nodup) (hp : ∀ p ∈ perm, p < os.length + dds.length) (hd : ∀ I, Reps K I dvs dds)
    (h : tEJ (HotH A) K mg ms m (cCall F kinds ro perm dds os) W σ H Q) : tOs K mg ms W os σ H (fun vs H1 => HotH A H1 ∧ vs.length = os.length ∧ spF K mg (kinds.map AK.md) ro F (sel perm (vs ++ dvs)) H1 Q (fun c d H' => W c d σ H')) := by
  subst hm
  obtain ⟨I, env, fp, s, hj, x, env', h1, q, b⟩ := h
  refine os_then s h1 b fun ds e1 vs H1 I1 fp1 h2 s1 t1 rs => ?_
  obtain ⟨fin, f1, f2, rfl⟩ := callOut_some h2
  refine ⟨(hj.ext t1.ext).ext s1.ext, rs.length.1, call_ok s1 (args_at rs (hd I1) ha hp) hn f1 f2 (fun d hx v H' I' fp' fv s' t' => q d hx v H' I' fp' fv s' (t1.trans t')) fun e hx => (b e hx).back t1⟩
def tGX (A : Around) (sp : Sp) (n : Nat) (perm : List Nat) (dvs : List V) (W : WX) (t : TA) : TE := fun σ H Q => t σ H fun vs H1 => HotH A H1 ∧ vs.length = n ∧ sp (sel perm (vs ++ dvs)) H1 Q (fun c d H' => W c d σ H')
structure FnX (P : Program) (w : World) (K : PySem.W.Frag) (mg : Str → Option Value) (base : Heap) (k : Nat) (f : Addr) (fd : FuncData) (ps : List Str) (sp : Sp) : Prop where
  len : ∀ vs H Q E, sp vs H Q E → vs.length = ps.length
  run : ∀ (A : Around) (outer : List PySem.Env) (s : Shared) (H : Hp) (args : Args) (us : List Value) (vs : List V) (Q : VK) (E : XK), L2H.RoomH k A → Amb A base → Env0 P w K mg base A outer s H →
    BindsTo s fd args (ps.zip us) → Vals vs us → HotH A H → sp vs H Q E → codeAny (model P w) A (.call (.ref f) args) (CR (L2N.CX P w) outer P w H s Q E) s
section
variable {X : Cx} {k n : Nat} {f : Addr} {fd : FuncData} {ps ks : List Str} {sp : Sp} {perm : List Nat} {dvs : List V} {x : Str} {p pos : Pos} {e : Expr} {es : List Expr} {kws : List Keyword} {t tk : TA} {W : WX}
theorem run_x {pins : List (Addr × Obj)} {σ : L2.St} {H : Hp} {s : Shared} {Q : VK} {us ws : List Value} {vs zs : List V} (F : FnX X.prog X.w X.K X.mg X.base k f fd ps sp) (hr : L2H.RoomH k X.A) (am : Amb X.A X.base) (hb : CallB X.K fd ps n ks perm dvs)
    (tk : Takes X W) (I : Inv X pins σ H s) (hot : HotH X.A H) (r : Vals vs us) (rz : Vals zs ws) (hn : us.length = n) (hk : ws.length = ks.length) (h : sp (sel perm (vs ++ zs ++ dvs)) H Q (fun c d H' => W c d σ H')) :
    wpAny (model X.prog X.w) X.A (call (.ref f) us (ks.zip ws)) (EP X pins σ Q) X.xe s := by
  obtain ⟨dus, rd, hb⟩ := hb.ex
  have r2 : Vals (sel perm (vs ++ zs ++ dvs)) (sel perm (us ++ ws ++ dus)) := Vals.sel ((r.append rz).append rd) perm
  refine wpAny_call (codeAny_mono (F.run X.A X.stack s H ⟨us, ks.zip ws⟩ _ _ Q _ hr am I.env0 (hb s us ws I.kIn hn hk) r2 hot h) fun q s' hq => ?_)
  cases q with
  | error ev => exact tk ev s' (XE.of_call I (fun _ _ _ h => h) hq)
  | ok fl =>
    cases fl with
    | ret u => exact I.after hq
    | next => exact False.elim hq
    | brk => exact False.elim hq
    | cont => exact False.elim hq
theorem pe_x (F : FnX X.prog X.w X.K X.mg X.base k f fd ps sp) (hr : L2H.RoomH k X.A) (am : Amb X.A X.base) (hb : CallB X.K fd ps n [] perm dvs) (ht : Takes X W) (hg : Gl X x) (hm : X.mg x = some (.ref f)) (hk : PySem.W.keepIn X.K (.ref f) = true)
    (ha : PA X (e :: es) t) (hdb : (x == ("__debug__" : Str)) = false) (he : starEach (e :: es) X.env = (false, eval e X.env) :: starEach es X.env) (hpl : (backTo pos (starEach es X.env)).any (·.1) = false) :
    PE X (.Call (.Name x p) (e :: es) [] pos) (tGX X.A sp n perm dvs W t) := by
  refine ⟨fun pins s σ H Q I h => ?_⟩
  refine wpAny_Call_Name_kw (ld_glob I hg hm ?_ hdb)
  refine PySem.W.callWith_K (h₀ := X.base) I.ok.mod.kin hk (thn (ha.run pos pins s σ H _ I h) fun us s1 ⟨vs, H1, I1, r, hot, n1, q⟩ => ⟨I1.kIn, ?_⟩) he hpl
  exact run_x (ws := []) (zs := []) F hr am hb ht I1 hot r .nil (by show us.length = n; rw [← r.length]; exact n1) rfl (by rw [List.append_nil]; exact q)
end
section
variable {X : Cx} {ms : List Md} {k : Nat} {f : Addr} {fd : FuncData} {ps ks : List Str} {x : Str} {p pos : Pos} {e : Expr} {es : List Expr} {kws : List Keyword} {F : FnD} {kinds : List AK} {ro : Md} {perm : List Nat} {dvs : List V} {dds : List D} {os oks : List Opd}
theorem pe_callX {W : WX} (tk : Takes X W) (G : FnX X.prog X.w X.K X.mg X.base k f fd ps (spF X.K X.mg (kinds.map AK.md) ro F)) (hr : L2H.RoomH k X.A) (am : Amb X.A X.base) (hb : CallB X.K fd ps os.length [] perm dvs) (hd : ∀ I, Reps X.K I dvs dds) (hg : Gl X x) (hm : X.mg x = some (.ref f)) (hk : PySem.W.keepIn X.K (.ref f) = true)
    (ha : DOs X ms (e :: es) os) (h1 : argsOk ms os kinds perm = true := by rfl) (h2 : (ixs kinds).Nodup := by decide) (h3 : ∀ p ∈ perm, p < os.length + dds.length := by decide) (hdb : (x == ("__debug__" : Str)) = false := by decide)
    (he : starEach (e :: es) X.env = (false, eval e X.env) :: starEach es X.env := by rfl) (hpl : (backTo pos (starEach es X.env)).any (·.1) = false := by rfl) :
    PE X (.Call (.Name x p) (e :: es) [] pos) (tEJ (HotH X.A) X.K X.mg ms ro (cCall F kinds ro perm dds os) W) := pe_imp (pe_x G hr am hb tk hg hm hk (ha.pa tk) hdb he hpl) fun σ H Q h => call_readX rfl h1 h2 h3 hd h
theorem pe_roX {J : Hp → Prop} {W : WX} {m ro' : Md} (h : PE X e (tEJ J X.K X.mg ms m (cCall F kinds ro perm dds os) W)) (hn : noBo kinds = true := by rfl) : PE X e (tEJ J X.K X.mg ms m (cCall F kinds ro' perm dds os) W) := by
  rw [cCall_ro (ro' := ro) hn]; exact h
theorem pss_retX {J : Hp → Prop} {xm : List Bool} {ms' B : List Md} {fe : CE} {W : WX} (he : PE X e (tEJ J X.K X.mg ms ro fe W)) (hc : compat xm ms = true := by rfl) : PSs X [.Return (some e) pos] (tSJ J X.K X.mg xm ms ms' B ro (cRet fe) W) := pss_one (ps_imp (ps_ret he) fun D σ H h => by
  obtain ⟨I, env, fp, s, hj, r, env', h1, q1, q2, q3, q4, q5⟩ := h
  rcases mbind_some h1 with ⟨e, h2, rfl⟩ | ⟨d, e1, h2, h3⟩
  · exact ⟨I, env, fp, s, hj, _, _, h2, fun d z => (by cases z), fun e' z => by cases z; exact (q5 e rfl).bad hc⟩
  · cases h3
    refine ⟨I, env, fp, s, hj, _, _, h2, fun d' z v H1 I1 fp1 fv s1 t1 rv nd off => ?_, fun e' z => by cases z⟩
    cases z
    obtain ⟨fp2, s2, c2⟩ := s1.maskB (xm := []) (by unfold compat; rfl)
    obtain ⟨a1, a2, a3⟩ := List.nodup_append.mp nd
    exact q4 _ rfl v σ H1 I1 fp2 fv s2 (t1.less fun p hp => (List.mem_append.mp hp).elim (List.mem_append_left _) fun z => List.mem_append_right _ (c2 p z)) rv
      (List.nodup_append.mpr ⟨a1, s2.nd, fun x hx y hy => a3 x hx y (c2 y hy)⟩) off (Keep.refl _ _))
end
section
variable {P : Program} {w : World} {K : PySem.W.Frag} {mg : Str → Option Value} {base : Heap} {x qual : Str} {params : Arguments} {body : List Stmt} {scope : Scope} {dvs : List V} {kws : List (Str × V)} {f : Addr} {fd : FuncData}
/-- the rule of a body, from a derivation -/
theorem fn_x {N ps : List Str} {k : Nat} {pm ls ms' B : List Md} {ro : Md} {fs : CS} (F : FunD K x qual params body scope dvs kws f fd) (S : FnScope N ps scope) (hpm : pm.length = ps.length) (hn : norm pm = pm) (hro : ro.par = false) (hls : norm ls = List.replicate (N.length - ps.length) .sh)
    (hb : ∀ (cdv : Value) (A : Around) (outer : List PySem.Env) (s : Shared) (H : Hp) (E : XK), L2H.RoomH k (A.deeper (envOfC qual scope s.heap.objs.size f cdv)) → Amb (A.deeper (envOfC qual scope s.heap.objs.size f cdv)) base → HotQ (cxQ P w K mg base N qual scope f cdv A outer s H E) →
      DSs (cxQ P w K mg base N qual scope f cdv A outer s H E) [] (pm ++ ls) ms' B ro body fs) :
    FnX P w K mg base (k + 1) f fd ps (spF K mg pm ro (runF N.length pm fs)) := by
  have len : ∀ vs H Q E, spF K mg pm ro (runF N.length pm fs) vs H Q E → vs.length = ps.length := fun vs H Q E ⟨I, ds, fp, s, _⟩ => by
    have := s.sl.len
    rw [List.length_map, List.length_map] at this
    omega
  obtain ⟨oc, od, dV, kV, doc, pmv, an, cdv, ct, osl, rfl, lk, hcd, _, _⟩ := F.ex
  refine ⟨len, fun A outer s H args us vs Q E hr am e0 hbind rv hot hsp => ?_⟩
  have hl := len _ _ _ _ hsp
  have KX : K.In s.heap := e0.mod.kin.keeps fun b o e => (e0.bs b o e).1
  have lim : s.heap.NoLimit := e0.mod.nolimit.keeps fun b o e => (e0.bs b o e).1
  have hkind : ∀ y ∈ ps.zip us, scope.names.lookup y.1 = some .local ∨ (scope.names.lookup y.1 = some .cell ∧ ((cellsFrom (s.heap.objs.size + 1) scope.names []).lookup y.1).isSome = true) := fun ⟨n, v⟩ hy => by
    rcases S.par n (List.of_mem_zip hy).1 with q | q
    · exact .inl q
    · exact .inr ⟨q, PySem.W.cellsFrom_some _ _ _ (.inl q)⟩
  refine codeAny_call_function hr.depth (KX _ _ lk) rfl S.co S.gen rfl (PySem.W.codeRec_of KX hcd) (hbind _ _ _ _ ?_)
  refine wpAny_newFunctionEnv_cells S.kind hkind fun env he s1 hx => ?_
  subst he
  refine ⟨lim.keeps hx.toInCall.keep, codeAny_func ?_⟩
  have D := hb cdv A outer s H E (hr.deeper _) ⟨am.guards, am.low⟩ hot
  have lsl : ls.length = N.length - ps.length := by
    have := congrArg List.length hls
    unfold norm at this
    rw [List.length_map, List.length_replicate] at this
    exact this
  have nls : norm (pm ++ ls) = norm (pm ++ List.replicate (N.length - ps.length) .sh) := by
    rw [norm_append, norm_append, hls]
    congr 1
    unfold norm
    rw [List.map_replicate]
    rfl
  have J : Inv (cxQ P w K mg base N qual scope f cdv A outer s H E) [] (L2.start N vs) H s1 := inv_startQ S e0 hl rv hx
  -- the body's reading, from the promise
  have hq : tS K mg [] (pm ++ ls) ms' B ro fs (fun c d _ H => E c d H) { nx := fun _ H' => Q .non H', rt := Q } (L2.start N vs) H := by
    obtain ⟨I, ds, fp, st, r, fin, hF, q, b⟩ := hsp
    have hds : ds.length = ps.length := by
      have := st.sl.len
      rw [List.length_map, List.length_map] at this
      omega
    have s0 : St K (pm ++ ls) I (L2.start N vs) (ds.map some ++ List.replicate (N.length - ds.length) none) H fp := by
      refine ⟨st.ext, st.nd, st.off, ?_⟩
      have := st.sl.more (k := N.length - ps.length) (ls := ls) lsl
      unfold L2.start
      rw [hl, hds]
      exact this
    have kv : ∀ {σ' : L2.St}, Keep (pm ++ ls) (L2.start N vs) σ' → ∀ (i : Nat) (t : OT), pm[i]? = some (.ps t) → σ'[i]? = (vs.map some)[i]? := fun {σ'} kk i t hi => by
      have hlt : i < pm.length := (List.getElem?_eq_some_iff.mp hi).1
      rw [kk i t (by rw [List.getElem?_append_left hlt]; exact hi)]
      unfold L2.start
      rw [List.getElem?_append_left (by rw [List.length_map]; omega)]
    have vl : vs.length = pm.length := by omega
    unfold runF at hF
    cases hf : fs (ds.map some ++ List.replicate (N.length - ds.length) none) with
    | none => rw [hf] at hF; cases hF
    | some y =>
      obtain ⟨ry, ey⟩ := y
      rw [hf] at hF
      refine ⟨I, _, fp, s0, ry, ey, hf, fun z σ' H' I' fp' s' t' k' => ?_, fun z => ?_, fun z => ?_, fun d z v σ' H' I' fp' fv s' t' rvv nd off k' => ?_, fun e z c dd σ' H' I' fp' s' t' xx k' => ?_⟩
      · subst z
        cases hF
        have nmm := D.nm.trans nls
        obtain ⟨fp2, s2, c2⟩ := s'.maskB (xm := []) (by unfold compat; rfl)
        rw [nmm, maskB_norm nmm] at s2
        refine q _ rfl .non H' I' fp2 [] ⟨s2.ext, s2.nd, s2.off, fin_slots hn s2.sl vl (kv k')⟩ (t'.less c2) (.nl rfl .non) s2.nd fun p hp => by cases hp
      · subst z; cases hF
      · subst z; cases hF
      · subst z
        cases hF
        exact q d rfl v H' I' fp' fv ⟨s'.ext, s'.nd, s'.off, fin_slots hn (by have z := s'.sl; rw [nls, maskB_norm nls] at z; exact z) vl (kv k')⟩ t' rvv nd off
      · subst z
        cases hF
        exact b e rfl c dd H' I' fp' ⟨s'.ext, s'.nd, s'.off, fin_slots hn (by have z := s'.sl; rw [nls, maskB_norm nls] at z; exact z) vl (kv k')⟩ t' xx
  refine wpAny_mono ((D.run (fun c d _ H => E c d H) (takes_of rfl rfl rfl rfl)).run [] s1 (L2.start N vs) H _ J hq) (fun fl s' hs => ?_) fun e s' hs => hs
  have fin : ∀ {σ' : L2.St} {H' : Hp} {v : V} {u : Value}, Inv (cxQ P w K mg base N qual scope f cdv A outer s H E) [] σ' H' s' → RelV v u → Q v H' → L2.CE outer P w H s Q u s' :=
    fun {σ' H' v u} J rv q => ⟨v, H', J.os, J.bare, J.base, J.hok, rv, q⟩
  cases fl with
  | ret u =>
    obtain ⟨v, σ', H', J, rv, q⟩ := hs
    exact fin J rv q
  | next =>
    obtain ⟨σ', H', J, q⟩ := hs
    exact fin (v := V.non) (u := Value.none) J rfl q
  | brk =>
    obtain ⟨_, _, _, q⟩ := hs
    exact False.elim q
  | cont =>
    obtain ⟨_, _, _, q⟩ := hs
    exact False.elim q
end
end DI
set_option Elab.async false
set_option autoImplicit false
set_option linter.all false
set_option maxRecDepth 100000
set_option maxHeartbeats 8000000
namespace K30
open PySem PySem.Spec PyProof.Rows L2 DI
def top (i : Nat) : Stmt := PySem.Challenge.pw_hardwraps_k30_forms_errors.main.body.getD i (.Pass ⟨0, 0, 0, 0⟩)
abbrev s__law_bag : Stmt := top 45
abbrev s__law_take : Stmt := top 46
abbrev s__law_chain : Stmt := top 47
abbrev s__law_no_widths : Stmt := top 49
abbrev s_is_integer : Stmt := top 20
abbrev s_is_width : Stmt := top 21
abbrev s_is_widths : Stmt := top 22
abbrev s_require_widths : Stmt := top 23
abbrev s_border_lengths : Stmt := top 28
abbrev s_least_period_of : Stmt := top 29
abbrev s_column_of : Stmt := top 25
abbrev s_first_columns : Stmt := top 30
abbrev s_whole_period : Stmt := top 31
abbrev s_descent_of : Stmt := top 34
abbrev s_normal_of : Stmt := top 36
abbrev s_effective_of : Stmt := top 26
abbrev s_normal_form : Stmt := top 39
abbrev s__law_kind : Stmt := top 48
abbrev s_require_length : Stmt := top 24
abbrev s_period_below : Stmt := top 32
abbrev s_descent_to : Stmt := top 35
abbrev s_descent : Stmt := top 42
abbrev s_difference_of : Stmt := top 37
abbrev s_are_equal_to : Stmt := top 43
abbrev s_have_same_effect : Stmt := top 38
abbrev s_are_equal : Stmt := top 40
abbrev s_first_difference : Stmt := top 41
abbrev s__law_called : Stmt := top 50
abbrev s_law : Stmt := top 51
/-! ### the head -/
def D__law_bag : He.DefD := ⟨("_law_bag", none), "_law_bag", "_law_bag", defArgs s__law_bag, defBody s__law_bag, defScope s__law_bag, [], []⟩
def D__law_take : He.DefD := ⟨("_law_take", none), "_law_take", "_law_take", defArgs s__law_take, defBody s__law_take, defScope s__law_take, [], []⟩
def D__law_chain : He.DefD := ⟨("_law_chain", none), "_law_chain", "_law_chain", defArgs s__law_chain, defBody s__law_chain, defScope s__law_chain, [], []⟩
def D__law_no_widths : He.DefD := ⟨("_law_no_widths", none), "_law_no_widths", "_law_no_widths", defArgs s__law_no_widths, defBody s__law_no_widths, defScope s__law_no_widths, [], []⟩
def D_is_integer : He.DefD := ⟨("is_integer", none), "is_integer", "is_integer", defArgs s_is_integer, defBody s_is_integer, defScope s_is_integer, [], []⟩
def D_is_width : He.DefD := ⟨("is_width", none), "is_width", "is_width", defArgs s_is_width, defBody s_is_width, defScope s_is_width, [], []⟩
def D_is_widths : He.DefD := ⟨("is_widths", none), "is_widths", "is_widths", defArgs s_is_widths, defBody s_is_widths, defScope s_is_widths, [], []⟩
def D_require_widths : He.DefD := ⟨("require_widths", none), "require_widths", "require_widths", defArgs s_require_widths, defBody s_require_widths, defScope s_require_widths, [], []⟩
def D_border_lengths : He.DefD := ⟨("border_lengths", none), "border_lengths", "border_lengths", defArgs s_border_lengths, defBody s_border_lengths, defScope s_border_lengths, [], []⟩
def D_least_period_of : He.DefD := ⟨("least_period_of", none), "least_period_of", "least_period_of", defArgs s_least_period_of, defBody s_least_period_of, defScope s_least_period_of, [], []⟩
def D_column_of : He.DefD := ⟨("column_of", none), "column_of", "column_of", defArgs s_column_of, defBody s_column_of, defScope s_column_of, [], []⟩
def D_first_columns : He.DefD := ⟨("first_columns", none), "first_columns", "first_columns", defArgs s_first_columns, defBody s_first_columns, defScope s_first_columns, [], []⟩
def D_whole_period : He.DefD := ⟨("whole_period", none), "whole_period", "whole_period", defArgs s_whole_period, defBody s_whole_period, defScope s_whole_period, [], []⟩
def D_descent_of : He.DefD := ⟨("descent_of", none), "descent_of", "descent_of", defArgs s_descent_of, defBody s_descent_of, defScope s_descent_of, [], []⟩
def D_normal_of : He.DefD := ⟨("normal_of", none), "normal_of", "normal_of", defArgs s_normal_of, defBody s_normal_of, defScope s_normal_of, [], []⟩
def D_effective_of : He.DefD := ⟨("effective_of", none), "effective_of", "effective_of", defArgs s_effective_of, defBody s_effective_of, defScope s_effective_of, [], []⟩
def D_normal_form : He.DefD := ⟨("normal_form", none), "normal_form", "normal_form", defArgs s_normal_form, defBody s_normal_form, defScope s_normal_form, [], []⟩
def D__law_kind : He.DefD := ⟨("_law_kind", none), "_law_kind", "_law_kind", defArgs s__law_kind, defBody s__law_kind, defScope s__law_kind, [], []⟩
def D_require_length : He.DefD := ⟨("require_length", none), "require_length", "require_length", defArgs s_require_length, defBody s_require_length, defScope s_require_length, [.int 0, .int 1000000000000000000000000000000], []⟩
def D_period_below : He.DefD := ⟨("period_below", none), "period_below", "period_below", defArgs s_period_below, defBody s_period_below, defScope s_period_below, [], []⟩
def D_descent_to : He.DefD := ⟨("descent_to", none), "descent_to", "descent_to", defArgs s_descent_to, defBody s_descent_to, defScope s_descent_to, [], []⟩
def D_descent : He.DefD := ⟨("descent", none), "descent", "descent", defArgs s_descent, defBody s_descent, defScope s_descent, [], []⟩
def D_difference_of : He.DefD := ⟨("difference_of", none), "difference_of", "difference_of", defArgs s_difference_of, defBody s_difference_of, defScope s_difference_of, [], []⟩
def D_are_equal_to : He.DefD := ⟨("are_equal_to", none), "are_equal_to", "are_equal_to", defArgs s_are_equal_to, defBody s_are_equal_to, defScope s_are_equal_to, [], []⟩
def D_have_same_effect : He.DefD := ⟨("have_same_effect", none), "have_same_effect", "have_same_effect", defArgs s_have_same_effect, defBody s_have_same_effect, defScope s_have_same_effect, [], []⟩
def D_are_equal : He.DefD := ⟨("are_equal", none), "are_equal", "are_equal", defArgs s_are_equal, defBody s_are_equal, defScope s_are_equal, [], []⟩
def D_first_difference : He.DefD := ⟨("first_difference", none), "first_difference", "first_difference", defArgs s_first_difference, defBody s_first_difference, defScope s_first_difference, [], []⟩
def D__law_called : He.DefD := ⟨("_law_called", none), "_law_called", "_law_called", defArgs s__law_called, defBody s__law_called, defScope s__law_called, [], []⟩
def D_law : He.DefD := ⟨("law", none), "law", "law", defArgs s_law, defBody s_law, defScope s_law, [], []⟩
def fn : List He.DefD := [D__law_bag, D__law_take, D__law_chain, D__law_no_widths, D_is_integer, D_is_width, D_is_widths, D_require_widths, D_border_lengths, D_least_period_of, D_column_of, D_first_columns, D_whole_period, D_descent_of, D_normal_of, D_effective_of, D_normal_form, D__law_kind, D_require_length, D_period_below, D_descent_to, D_descent, D_difference_of, D_are_equal_to, D_have_same_effect, D_are_equal, D_first_difference, D__law_called, D_law]
def fa : List He.Fa := [.glo "_law_bag", .glo "_law_take", .glo "_law_chain", .glo "_law_no_widths", .glo "is_integer", .glo "is_width", .glo "is_widths", .glo "require_widths", .glo "border_lengths", .glo "least_period_of", .glo "column_of", .glo "first_columns", .glo "whole_period", .glo "descent_of", .glo "normal_of", .glo "effective_of", .glo "normal_form", .glo "_law_kind", .glo "require_length", .glo "period_below", .glo "descent_to", .glo "descent", .glo "difference_of", .glo "are_equal_to", .glo "have_same_effect", .glo "are_equal", .glo "first_difference", .glo "_law_called", .glo "law", .free "ValueError", .free "abs", .free "all", .free "bool", .free "int", .free "isinstance", .free "len", .free "list", .free "max", .free "min", .free "range", .free "repr", .free "tuple", .int "MAX_WIDTH" 10000, .glo "Conflict", .glo "InvalidCommand", .glo "InvalidIndex", .glo "InvalidLength", .glo "InvalidPeriod", .glo "InvalidPieces", .glo "InvalidPosition", .glo "InvalidText", .glo "InvalidWidths", .glo "NoWidths", .glo "NotFitting", .glo "NotWrapped", .glo "NothingToUndo", .glo "ParseError", .glo "TooMany", .glo "WrapError", .exm "Conflict" "WrapError" true, .exm "InvalidCommand" "WrapError" true, .exm "InvalidIndex" "WrapError" true, .exm "InvalidLength" "WrapError" true, .exm "InvalidPeriod" "WrapError" true, .exm "InvalidPieces" "WrapError" true, .exm "InvalidPosition" "WrapError" true, .exm "InvalidText" "WrapError" true, .exm "InvalidWidths" "WrapError" true, .exm "NoWidths" "WrapError" true, .exm "NotFitting" "WrapError" true, .exm "NotWrapped" "WrapError" true, .exm "NothingToUndo" "WrapError" true, .exm "ParseError" "WrapError" true, .exm "TooMany" "WrapError" true, .exm "WrapError" "WrapError" true, .exc "InvalidLength", .exc "InvalidWidths"]
def fb : PySem.W.Frag → Bool := fun K => exB (["InvalidLength", "InvalidWidths"] : List Str) K && (kit1B (["InvalidLength", "InvalidWidths"] : List Str) (["InvalidWidths"] : List Str) "InvalidWidths" K) && (kit1B (["InvalidLength", "InvalidWidths"] : List Str) (["InvalidLength"] : List Str) "InvalidLength" K) && (kit1B (["InvalidLength", "InvalidWidths"] : List Str) ([] : List Str) "InvalidIndex" K) && (kit1B (["InvalidLength", "InvalidWidths"] : List Str) ([] : List Str) "InvalidPieces" K) && (kit1B (["InvalidLength", "InvalidWidths"] : List Str) ([] : List Str) "NotFitting" K) && (kit1B (["InvalidLength", "InvalidWidths"] : List Str) ([] : List Str) "NotWrapped" K) && (kitTB (["InvalidLength", "InvalidWidths"] : List Str) ([] : List Str) (["Conflict", "InvalidCommand", "InvalidPeriod", "InvalidPosition", "InvalidText"] : List Str) K) && (kitTB (["InvalidLength", "InvalidWidths"] : List Str) ([] : List Str) (["NothingToUndo", "NoWidths", "ParseError", "TooMany"] : List Str) K) && (kitVB (["InvalidLength", "InvalidWidths"] : List Str) (["InvalidLength", "InvalidWidths"] : List Str) "ValueError" K)
def loose : List Str := (["WrapError", "InvalidWidths", "InvalidPosition", "InvalidLength", "InvalidIndex", "InvalidPeriod", "InvalidPieces", "InvalidText", "InvalidCommand", "NotFitting", "NoWidths", "NothingToUndo", "TooMany", "NotWrapped", "Conflict", "ParseError", "MAX_WIDTH", "MAX_LENGTH", "is_integer", "is_width"] : List Str) ++ (["is_widths", "require_widths", "require_length", "column_of", "effective_of", "border_lengths", "least_period_of", "first_columns", "whole_period", "period_below", "descent_of", "descent_to", "normal_of", "difference_of", "have_same_effect", "normal_form", "are_equal", "first_difference", "descent", "are_equal_to"] : List Str) ++ (["_law_bag", "_law_take", "_law_chain", "_law_kind", "_law_no_widths", "_law_called"] : List Str)
abbrev R : PySem.W.OpenRow := PySem.W.OpenLaw.row PySem.Challenge.rw_hardwraps_k30_forms_errors
abbrev hk : PySem.W.Hook := hookX 5 fb fa fn
def ob (s : PySem.W.SharedT) : He.AlD := obsXG 5 fb fa fn (HandSHeadRun.getT s)
theorem ob_eq (s : PySem.W.SharedT) : ob s = hk.obs s.abs := obsXG_eq (HandSHeadRun.getT_eq s)
theorem run (w : World) : HandSHeadRun.RunEq R (PySem.W.view R.prog [51]) hk ob 40000 loose w := by
  intro os
  kernel_rfl
end K30
set_option Elab.async false
set_option autoImplicit false
set_option linter.all false
set_option maxRecDepth 100000
set_option maxHeartbeats 2000000
/-! DP1: what a meaning leaves, in plain Lean: rules for simp. -/
namespace DI
open PySem PySem.Spec PyProof.Rows L2
def wP {α : Type} (x : Option α) (Q : α → Prop) : Prop := ∃ d, x = some d ∧ Q d
def wM {α : Type} (x : Out α) (Q : α → Env → Prop) : Prop := ∃ a e, x = some (.ok a, e) ∧ Q a e
def wE (f : CE) (e : Env) (Q : D → Env → Prop) : Prop := wM (f e) Q
def wB (f : CB) (e : Env) (Q : Bool → Env → Prop) : Prop := wM (f e) Q
def wO (os : List Opd) (e : Env) (Q : List D → Env → Prop) : Prop := wM (evalOs os e) Q
def wI (f : CI) (e : Env) (Q : List D → Env → Prop) : Prop := wM (f e) Q
def wS (f : CS) (e : Env) (P : Fl → Env → Prop) : Prop := wM (f e) P
def wF (F : FnD) (ds : List D) (Q : D → Env → Prop) : Prop := wM (F ds) Q
def wL (tg : Tg) (c : CB) (f : CE) (vs : List Nat) (items : List D) (e : Env) (Q : List D → Env → Prop) : Prop := wM (lcD tg c f vs items e) Q
def wIf (b : Bool) (A B : Prop) : Prop := if b = true then A else B
def seqP (q : Env → Prop) (P : Fl → Env → Prop) : Fl → Env → Prop
  | .nx, e => q e
  | r, e => P r e
def isBl (d : D) (Q : Bool → Prop) : Prop := ∃ b, d = .bl b ∧ Q b
def isIn (d : D) (Q : Int → Prop) : Prop := ∃ b, d = .int b ∧ Q b
def isLs (d : D) (Q : List D → Prop) : Prop := ∃ b, d = .lst b ∧ Q b
/-! simp goes no further than what stands ahead -/
@[simp] theorem seqP_nx {q : Env → Prop} {P : Fl → Env → Prop} {e : Env} : seqP q P .nx e = q e := rfl
@[simp] theorem seqP_bk {q : Env → Prop} {P : Fl → Env → Prop} {e : Env} : seqP q P .bk e = P .bk e := rfl
@[simp] theorem seqP_ct {q : Env → Prop} {P : Fl → Env → Prop} {e : Env} : seqP q P .ct e = P .ct e := rfl
@[simp] theorem seqP_rt {q : Env → Prop} {P : Fl → Env → Prop} {e : Env} {d : D} : seqP q P (.rt d) e = P (.rt d) e := rfl
@[simp] theorem wP_some {α : Type} {d : α} {Q : α → Prop} : wP (some d) Q = Q d := by simp [wP]
@[simp] theorem isBl_bl {b : Bool} {Q : Bool → Prop} : isBl (.bl b) Q = Q b := by simp [isBl]
@[simp] theorem isIn_int {b : Int} {Q : Int → Prop} : isIn (.int b) Q = Q b := by simp [isIn]
@[simp] theorem isLs_lst {b : List D} {Q : List D → Prop} : isLs (.lst b) Q = Q b := by simp [isLs]
@[simp] theorem wIf_true {A B : Prop} : wIf true A B = A := by simp [wIf]
@[simp] theorem wIf_false {A B : Prop} : wIf false A B = B := by simp [wIf]
theorem wIf_i {b : Bool} {A B : Prop} (h1 : b = true → A) (h2 : b = false → B) : wIf b A B := by
  cases b
  · exact h2 rfl
  · exact h1 rfl
section
variable {α β : Type} {x : Out α} {k : α → Env → Out β} {Q : β → Env → Prop} {a : α} {e : Env}
theorem wM_bind : wM (mbind x k) Q = wM x fun a e => wM (k a e) Q := by
  unfold wM
  apply propext
  constructor
  · rintro ⟨d, e', h, q⟩
    rcases mbind_some h with ⟨e, _, z⟩ | ⟨a, e1, h1, h2⟩
    · cases z
    · exact ⟨a, e1, h1, d, e', h2, q⟩
  · rintro ⟨a, e1, h1, d, e', h2, q⟩
    exact ⟨d, e', by rw [h1]; exact h2, q⟩
theorem wM_ok {Q : α → Env → Prop} : wM (some (.ok a, e)) Q = Q a e := by
  unfold wM
  apply propext
  constructor
  · rintro ⟨_, _, h, q⟩; cases h; exact q
  · intro q; exact ⟨_, _, rfl, q⟩
theorem wM_none {Q : α → Env → Prop} : wM none Q = False := by
  unfold wM
  apply propext
  constructor
  · rintro ⟨_, _, h, q⟩; cases h
  · intro q; exact q.elim
theorem wM_err {Q : α → Env → Prop} {z : Exn} : wM (some (.error z, e)) Q = False := by
  unfold wM
  apply propext
  constructor
  · rintro ⟨_, _, h, q⟩; cases h
  · intro q; exact q.elim
theorem wM_pOut {g : Option D} {Q : D → Env → Prop} : wM (pOut g e) Q = wP g fun d => Q d e := by
  cases g with
  | none => unfold pOut wP; rw [wM_none]; simp
  | some d => unfold pOut; rw [wM_ok]; simp [wP]
theorem wP_none {γ : Type} {Q : γ → Prop} : wP (none : Option γ) Q = False := by simp [wP]
theorem isBl_no {d : D} {Q : Bool → Prop} (h : ∀ b, d ≠ .bl b) : isBl d Q = False := by
  unfold isBl; apply propext; constructor
  · rintro ⟨b, z, _⟩; exact h b z
  · exact False.elim
theorem isIn_no {d : D} {Q : Int → Prop} (h : ∀ b, d ≠ .int b) : isIn d Q = False := by
  unfold isIn; apply propext; constructor
  · rintro ⟨b, z, _⟩; exact h b z
  · exact False.elim
theorem isLs_no {d : D} {Q : List D → Prop} (h : ∀ b, d ≠ .lst b) : isLs d Q = False := by
  unfold isLs; apply propext; constructor
  · rintro ⟨b, z, _⟩; exact h b z
  · exact False.elim
end
section
variable {e : Env} {Q : D → Env → Prop} {QB : Bool → Env → Prop} {QL : List D → Env → Prop} {P : Fl → Env → Prop} {f f1 f2 fa fb fc fe fx : CE} {t u : CB} {g g' : Prim} {os : List Opd} {i : Nat} {d : D} {s s1 s2 : CS}
theorem wE_var : wE (cVar i) e Q = wP (getS e i) fun d => Q d e := wM_pOut
theorem wE_K : wE (cK d) e Q = Q d e := wM_ok
theorem wO_nil : wO [] e QL = QL [] e := wM_ok
theorem wO_tm : wO (.tm f :: os) e QL = wE f e fun d e1 => wO os e1 fun ds e2 => QL (d :: ds) e2 := by
  show wM (mbind (f e) _) _ = _
  rw [wM_bind]
  unfold wE wO
  congr 1; funext d e1
  rw [wM_bind]
  congr 1; funext ds e2
  exact wM_ok
theorem wO_vr : wO (.vr i :: os) e QL = wP (getS e i) fun _ => wO os e fun ds e2 => wP (getS e2 i) fun d => QL (d :: ds) e2 := by
  show wM (match getS e i with
    | none => none
    | some _ => mbind (evalOs os e) fun ds e2 => match getS e2 i with
      | some d => some (.ok (d :: ds), e2)
      | none => none) _ = _
  cases h : getS e i with
  | none => rw [wP_none]; exact wM_none
  | some d0 =>
    rw [wP_some]
    simp only
    rw [wM_bind]
    unfold wO
    congr 1; funext ds e2
    cases h2 : getS e2 i with
    | none => rw [wP_none]; exact wM_none
    | some d => rw [wP_some]; exact wM_ok
theorem wE_prim : wE (cPrim g os) e Q = wO os e fun ds e1 => wP (g ds) fun d => Q d e1 := by
  unfold wE cPrim wO
  rw [wM_bind]
  congr 1; funext ds e1
  exact wM_pOut
theorem wB_test : wB (cTest f) e QB = wE f e fun d e1 => isBl d fun b => QB b e1 := by
  unfold wB cTest wE
  rw [wM_bind]
  congr 1; funext d e1
  cases d with
  | bl b => rw [isBl_bl]; exact wM_ok
  | _ => rw [isBl_no (by intro b h; cases h)]; exact wM_none
theorem wB_not : wB (cNot t) e QB = wB t e fun b e1 => QB (!b) e1 := by
  unfold wB cNot
  rw [wM_bind]
  congr 1; funext b e1
  exact wM_ok
theorem wB_and : wB (cAnd t u) e QB = wB t e fun b e1 => wIf b (wB u e1 QB) (QB false e1) := by
  unfold wB cAnd
  rw [wM_bind]
  congr 1; funext b e1
  cases b
  · exact wM_ok
  · rfl
theorem wB_or : wB (cOr t u) e QB = wB t e fun b e1 => wIf b (QB true e1) (wB u e1 QB) := by
  unfold wB cOr
  rw [wM_bind]
  congr 1; funext b e1
  cases b
  · rfl
  · exact wM_ok
theorem wE_andV : wE (cAndV f1 f2) e Q = wE f1 e fun d e1 => isBl d fun b => wIf b (wE f2 e1 Q) (Q (.bl false) e1) := by
  unfold wE cAndV
  rw [wM_bind]
  congr 1; funext d e1
  cases d with
  | bl b =>
    rw [isBl_bl]
    cases b
    · exact wM_ok
    · rfl
  | _ => rw [isBl_no (by intro b h; cases h)]; exact wM_none
theorem wE_orV : wE (cOrV f1 f2) e Q = wE f1 e fun d e1 => isBl d fun b => wIf b (Q (.bl true) e1) (wE f2 e1 Q) := by
  unfold wE cOrV
  rw [wM_bind]
  congr 1; funext d e1
  cases d with
  | bl b =>
    rw [isBl_bl]
    cases b
    · rfl
    · exact wM_ok
  | _ => rw [isBl_no (by intro b h; cases h)]; exact wM_none
theorem wE_notV : wE (cNotV f) e Q = wE f e fun d e1 => isBl d fun b => Q (.bl (!b)) e1 := by
  unfold wE cNotV
  rw [wM_bind]
  congr 1; funext d e1
  cases d with
  | bl b => rw [isBl_bl]; exact wM_ok
  | _ => rw [isBl_no (by intro b h; cases h)]; exact wM_none
theorem wE_if : wE (cIf t f1 f2) e Q = wB t e fun b e1 => wIf b (wE f1 e1 Q) (wE f2 e1 Q) := by
  unfold wE cIf wB
  rw [wM_bind]
  congr 1; funext b e1
  cases b <;> rfl
theorem wE_int : wE (cInt f) e Q = wE f e fun d e1 => isIn d fun b => Q (.int b) e1 := by
  unfold wE cInt
  rw [wM_bind]
  congr 1; funext d e1
  cases d with
  | int b => rw [isIn_int]; exact wM_ok
  | _ => rw [isIn_no (by intro b h; cases h)]; exact wM_none
theorem wE_chain : wE (cChain g g' fa fb fc) e Q = wE fa e fun x e1 => wE fb e1 fun y e2 => wP (g [x, y]) fun z => isBl z fun b => wIf b (wE fc e2 fun z e3 => wP (g' [y, z]) fun d => Q d e3) (Q (.bl false) e2) := by
  unfold wE cChain
  rw [wM_bind]
  congr 1; funext x e1
  rw [wM_bind]
  congr 1; funext y e2
  cases hg : g [x, y] with
  | none => rw [wP_none]; simp only [hg]; exact wM_none
  | some z =>
    rw [wP_some]
    cases z with
    | bl b =>
      rw [isBl_bl]
      cases b
      · simp only [hg]; exact wM_ok
      · simp only [hg]
        rw [wM_bind, wIf_true]
        congr 1; funext z e3
        exact wM_pOut
    | _ => rw [isBl_no (by intro b h; cases h)]; simp only [hg]; exact wM_none
theorem wM_callOut {x : Option (Except Exn D × Env)} {kinds : List AK} {ro : Md} : wM (callOut x kinds ro e) Q = wM x fun d fin => okBo kinds ro (.ok d) fin = true ∧ Q d (backE kinds fin e) := by
  cases x with
  | none => rw [wM_none]; exact wM_none
  | some y =>
    obtain ⟨r, fin⟩ := y
    cases r with
    | error z =>
      rw [wM_err]
      unfold callOut
      simp only
      split
      · exact wM_err
      · exact wM_none
    | ok d =>
      rw [wM_ok]
      unfold callOut
      simp only
      split
      · rename_i h; rw [wM_ok]; simp [h]
      · rename_i h; rw [wM_none]; simp [h]
theorem wE_call {F : FnD} {kinds : List AK} {ro : Md} {perm : List Nat} {dds : List D} : wE (cCall F kinds ro perm dds os) e Q = wO os e fun ds e1 => wF F (sel perm (ds ++ dds)) fun d fin => okBo kinds ro (.ok d) fin = true ∧ Q d (backE kinds fin e1) := by
  unfold wE cCall wO wF
  rw [wM_bind]
  congr 1; funext ds e1
  exact wM_callOut
theorem wM_lcOut {x : Out (List D)} {vs : List Nat} {e1 : Env} : wM (lcOut e1 vs x) Q = wM x fun ys e2 => ys.length ≤ sizeLine ∧ Q (.lst ys) (restoreE e1 (wipeE e2 vs) vs) := by
  cases x with
  | none => rw [wM_none]; exact wM_none
  | some y =>
    obtain ⟨r, fin⟩ := y
    cases r with
    | error z => rw [wM_err]; exact wM_none
    | ok d =>
      rw [wM_ok]
      unfold lcOut
      simp only
      split
      · rename_i h; rw [wM_ok]; simp [h]
      · rename_i h; rw [wM_none]; simp [h]
theorem wE_lc {it : CI} {tg : Tg} {c : CB} {vs : List Nat} : wE (cLc it tg c f vs) e Q = wI it e fun items e1 => wL tg c f vs items e1 fun ys e2 => ys.length ≤ sizeLine ∧ Q (.lst ys) (restoreE e1 (wipeE e2 vs) vs) := by
  unfold wE cLc wI wL
  rw [wM_bind]
  congr 1; funext ds e1
  exact wM_lcOut
theorem wM_iOut {g : Option (List D)} : wM (iOut g e) QL = wP g fun d => QL d e := by
  cases g with
  | none => rw [wP_none]; exact wM_none
  | some d => rw [wP_some]; exact wM_ok
theorem wI_it {gi : List D → Option (List D)} : wI (cIt gi os) e QL = wO os e fun ds e1 => wP (gi ds) fun items => QL items e1 := by
  unfold wI cIt wO
  rw [wM_bind]
  congr 1; funext ds e1
  exact wM_iOut
/-! statements -/
theorem wS_seq : wS (cSeq s1 s2) e P = wS s1 e (seqP (fun e1 => wS s2 e1 P) P) := by
  unfold wS cSeq
  cases h1 : s1 e with
  | none => exact wM_none.trans wM_none.symm
  | some y =>
    obtain ⟨ry, ey⟩ := y
    cases ry with
    | error x => exact wM_err.trans wM_err.symm
    | ok fl =>
      rw [wM_ok]
      cases fl with
      | nx => rfl
      | _ => exact wM_ok
theorem wS_skip : wS cSkip e P = P .nx e := wM_ok
theorem wS_brk : wS cBrk e P = P .bk e := wM_ok
theorem wS_cnt : wS cCnt e P = P .ct e := wM_ok
theorem wS_stuck : wS cStuck e P = False := wM_none
theorem wS_forget : wS (cForget i s) e P = wS s (e.set i none) P := rfl
theorem wS_asg : wS (cAsg i f) e P = wE f e fun d e1 => P .nx (e1.set i (some d)) := by
  unfold wS cAsg wE
  rw [wM_bind]
  congr 1; funext d e1
  exact wM_ok
theorem wS_drop : wS (cDrop f) e P = wE f e fun _ e1 => P .nx e1 := by
  unfold wS cDrop wE
  rw [wM_bind]
  congr 1; funext d e1
  exact wM_ok
theorem wS_ret : wS (cRet f) e P = wE f e fun d e1 => P (.rt d) e1 := by
  unfold wS cRet wE
  rw [wM_bind]
  congr 1; funext d e1
  exact wM_ok
theorem wS_retN : wS cRetN e P = P (.rt .non) e := wM_ok
theorem wS_par {j : Nat} : wS (cPar i j f1 f2) e P = wE f1 e fun d e1 => wE f2 e1 fun d2 e2 => P .nx ((e2.set i (some d)).set j (some d2)) := by
  unfold wS cPar wE
  rw [wM_bind]
  congr 1; funext d e1
  rw [wM_bind]
  congr 1; funext d2 e2
  exact wM_ok
theorem wS_unp {tg : Tg} : wS (cUnp tg f) e P = wE f e fun d e1 => wP (asgT tg d e1) fun e2 => P .nx e2 := by
  unfold wS cUnp wE
  rw [wM_bind]
  congr 1; funext d e1
  cases h : asgT tg d e1 with
  | none => rw [wP_none]; exact wM_none
  | some e2 => rw [wP_some]; exact wM_ok
theorem wS_if : wS (cIfS t s1 s2) e P = wB t e fun b e1 => wIf b (wS s1 e1 P) (wS s2 e1 P) := by
  unfold wS cIfS wB
  rw [wM_bind]
  congr 1; funext b e1
  cases b <;> rfl
theorem wS_aug : wS (cAug i g f) e P = wP (getS e i) fun d0 => wE f e fun d e1 => wP (g [d0, d]) fun d1 => P .nx (e1.set i (some d1)) := by
  unfold wS cAug wE
  cases h : getS e i with
  | none => rw [wP_none]; exact wM_none
  | some d0 =>
    rw [wP_some]
    simp only
    rw [wM_bind]
    congr 1; funext d e1
    cases h2 : g [d0, d] with
    | none => rw [wP_none]; exact wM_none
    | some d1 => rw [wP_some]; exact wM_ok
theorem wS_set : wS (cSetI i fe fx) e P = wP (getS e i) fun _ => wE fe e fun d e1 => wE fx e1 fun k e2 => isIn k fun j => wP (getS e2 i) fun l => isLs l fun xs => wP (ixN xs.length j) fun n => P .nx (e2.set i (some (.lst (xs.set n d)))) := by
  unfold wS cSetI wE
  cases h : getS e i with
  | none => rw [wP_none]; exact wM_none
  | some d0 =>
    rw [wP_some]
    simp only
    rw [wM_bind]
    congr 1; funext d e1
    rw [wM_bind]
    congr 1; funext k e2
    cases k with
    | int j =>
      rw [isIn_int]
      cases h2 : getS e2 i with
      | none => rw [wP_none]; exact wM_none
      | some l =>
        rw [wP_some]
        cases l with
        | lst xs =>
          rw [isLs_lst]
          simp only
          cases h3 : ixN xs.length j with
          | none => rw [wP_none]; exact wM_none
          | some n => rw [wP_some]; exact wM_ok
        | _ => rw [isLs_no (by intro b h; cases h)]; exact wM_none
    | _ => rw [isIn_no (by intro b h; cases h)]; exact wM_none
theorem wE_mut {gm : List D → List D → Option (D × List D)} : wE (cMut i gm os) e Q = wP (getS e i) fun l => isLs l fun _ => wO os e fun ds e1 => wP (getS e1 i) fun l => isLs l fun xs => wP (gm xs ds) fun y => Q y.1 (e1.set i (some (.lst y.2))) := by
  unfold wE cMut wO
  cases h : getS e i with
  | none => rw [wP_none]; exact wM_none
  | some d0 =>
    rw [wP_some]
    cases d0 with
    | lst xs0 =>
      rw [isLs_lst]
      simp only
      rw [wM_bind]
      congr 1; funext ds e1
      cases h2 : getS e1 i with
      | none => rw [wP_none]; exact wM_none
      | some l =>
        rw [wP_some]
        cases l with
        | lst xs =>
          rw [isLs_lst]
          simp only
          cases h3 : gm xs ds with
          | none => rw [wP_none]; exact wM_none
          | some y => rw [wP_some]; exact wM_ok
        | _ => rw [isLs_no (by intro b h; cases h)]; exact wM_none
    | _ => rw [isLs_no (by intro b h; cases h)]; exact wM_none
theorem wS_for {it : CI} {tg : Tg} : wS (cFor it tg s) e P = wI it e fun items e1 => wS (forD tg s items) e1 P := wM_bind
def runP (pm : List Md) (Q : D → Env → Prop) : Fl → Env → Prop
  | .rt d, e => Q d (finE pm e)
  | .nx, e => Q .non (finE pm e)
  | _, _ => False
@[simp] theorem runP_rt {pm : List Md} : runP pm Q (.rt d) e = Q d (finE pm e) := rfl
@[simp] theorem runP_nx {pm : List Md} : runP pm Q .nx e = Q .non (finE pm e) := rfl
@[simp] theorem wF_run {n : Nat} {pm : List Md} {ds : List D} : wF (runF n pm s) ds Q = wS s (ds.map some ++ List.replicate (n - ds.length) none) (runP pm Q) := by
  unfold wF runF wS
  cases h1 : s (ds.map some ++ List.replicate (n - ds.length) none) with
  | none => exact wM_none.trans wM_none.symm
  | some y =>
    obtain ⟨ry, ey⟩ := y
    cases ry with
    | error x => exact wM_err.trans wM_err.symm
    | ok fl =>
      rw [wM_ok]
      cases fl with
      | nx => exact wM_ok
      | rt d => exact wM_ok
      | _ => exact wM_none
/-! for simp: only where the slots are known -/
@[simp] theorem wE_var_ {o : Option D} : wE (cVar i) (o :: e) Q = wP (getS (o :: e) i) fun d => Q d (o :: e) := wE_var
@[simp] theorem wE_K_ {o : Option D} : wE (cK d) (o :: e) Q = Q d (o :: e) := wE_K
@[simp] theorem wO_nil_ {o : Option D} : wO [] (o :: e) QL = QL [] (o :: e) := wO_nil
@[simp] theorem wO_tm_ {o : Option D} : wO (.tm f :: os) (o :: e) QL = wE f (o :: e) fun d e1 => wO os e1 fun ds e2 => QL (d :: ds) e2 := wO_tm
@[simp] theorem wO_vr_ {o : Option D} : wO (.vr i :: os) (o :: e) QL = wP (getS (o :: e) i) fun _ => wO os (o :: e) fun ds e2 => wP (getS e2 i) fun d => QL (d :: ds) e2 := wO_vr
@[simp] theorem wE_prim_ {o : Option D} : wE (cPrim g os) (o :: e) Q = wO os (o :: e) fun ds e1 => wP (g ds) fun d => Q d e1 := wE_prim
@[simp] theorem wB_test_ {o : Option D} : wB (cTest f) (o :: e) QB = wE f (o :: e) fun d e1 => isBl d fun b => QB b e1 := wB_test
@[simp] theorem wB_not_ {o : Option D} : wB (cNot t) (o :: e) QB = wB t (o :: e) fun b e1 => QB (!b) e1 := wB_not
@[simp] theorem wB_and_ {o : Option D} : wB (cAnd t u) (o :: e) QB = wB t (o :: e) fun b e1 => wIf b (wB u e1 QB) (QB false e1) := wB_and
@[simp] theorem wB_or_ {o : Option D} : wB (cOr t u) (o :: e) QB = wB t (o :: e) fun b e1 => wIf b (QB true e1) (wB u e1 QB) := wB_or
@[simp] theorem wE_andV_ {o : Option D} : wE (cAndV f1 f2) (o :: e) Q = wE f1 (o :: e) fun d e1 => isBl d fun b => wIf b (wE f2 e1 Q) (Q (.bl false) e1) := wE_andV
@[simp] theorem wE_orV_ {o : Option D} : wE (cOrV f1 f2) (o :: e) Q = wE f1 (o :: e) fun d e1 => isBl d fun b => wIf b (Q (.bl true) e1) (wE f2 e1 Q) := wE_orV
@[simp] theorem wE_notV_ {o : Option D} : wE (cNotV f) (o :: e) Q = wE f (o :: e) fun d e1 => isBl d fun b => Q (.bl (!b)) e1 := wE_notV
@[simp] theorem wE_if_ {o : Option D} : wE (cIf t f1 f2) (o :: e) Q = wB t (o :: e) fun b e1 => wIf b (wE f1 e1 Q) (wE f2 e1 Q) := wE_if
@[simp] theorem wE_int_ {o : Option D} : wE (cInt f) (o :: e) Q = wE f (o :: e) fun d e1 => isIn d fun b => Q (.int b) e1 := wE_int
@[simp] theorem wE_chain_ {o : Option D} : wE (cChain g g' fa fb fc) (o :: e) Q = wE fa (o :: e) fun x e1 => wE fb e1 fun y e2 => wP (g [x, y]) fun z => isBl z fun b => wIf b (wE fc e2 fun z e3 => wP (g' [y, z]) fun d => Q d e3) (Q (.bl false) e2) := wE_chain
@[simp] theorem wE_call_ {F : FnD} {kinds : List AK} {ro : Md} {perm : List Nat} {dds : List D} {o : Option D} : wE (cCall F kinds ro perm dds os) (o :: e) Q = wO os (o :: e) fun ds e1 => wF F (sel perm (ds ++ dds)) fun d fin => okBo kinds ro (.ok d) fin = true ∧ Q d (backE kinds fin e1) := wE_call
@[simp] theorem wE_lc_ {it : CI} {tg : Tg} {c : CB} {vs : List Nat} {o : Option D} : wE (cLc it tg c f vs) (o :: e) Q = wI it (o :: e) fun items e1 => wL tg c f vs items e1 fun ys e2 => ys.length ≤ sizeLine ∧ Q (.lst ys) (restoreE e1 (wipeE e2 vs) vs) := wE_lc
@[simp] theorem wI_it_ {gi : List D → Option (List D)} {o : Option D} : wI (cIt gi os) (o :: e) QL = wO os (o :: e) fun ds e1 => wP (gi ds) fun items => QL items e1 := wI_it
@[simp] theorem wS_seq_ {o : Option D} : wS (cSeq s1 s2) (o :: e) P = wS s1 (o :: e) (seqP (fun e1 => wS s2 e1 P) P) := wS_seq
@[simp] theorem wS_skip_ {o : Option D} : wS cSkip (o :: e) P = P .nx (o :: e) := wS_skip
@[simp] theorem wS_brk_ {o : Option D} : wS cBrk (o :: e) P = P .bk (o :: e) := wS_brk
@[simp] theorem wS_cnt_ {o : Option D} : wS cCnt (o :: e) P = P .ct (o :: e) := wS_cnt
@[simp] theorem wS_stuck_ {o : Option D} : wS cStuck (o :: e) P = False := wS_stuck
@[simp] theorem wS_forget_ {o : Option D} : wS (cForget i s) (o :: e) P = wS s ((o :: e).set i none) P := wS_forget
@[simp] theorem wS_asg_ {o : Option D} : wS (cAsg i f) (o :: e) P = wE f (o :: e) fun d e1 => P .nx (e1.set i (some d)) := wS_asg
@[simp] theorem wS_drop_ {o : Option D} : wS (cDrop f) (o :: e) P = wE f (o :: e) fun _ e1 => P .nx e1 := wS_drop
@[simp] theorem wS_ret_ {o : Option D} : wS (cRet f) (o :: e) P = wE f (o :: e) fun d e1 => P (.rt d) e1 := wS_ret
@[simp] theorem wS_retN_ {o : Option D} : wS cRetN (o :: e) P = P (.rt .non) (o :: e) := wS_retN
@[simp] theorem wS_par_ {j : Nat} {o : Option D} : wS (cPar i j f1 f2) (o :: e) P = wE f1 (o :: e) fun d e1 => wE f2 e1 fun d2 e2 => P .nx ((e2.set i (some d)).set j (some d2)) := wS_par
@[simp] theorem wS_unp_ {tg : Tg} {o : Option D} : wS (cUnp tg f) (o :: e) P = wE f (o :: e) fun d e1 => wP (asgT tg d e1) fun e2 => P .nx e2 := wS_unp
@[simp] theorem wS_if_ {o : Option D} : wS (cIfS t s1 s2) (o :: e) P = wB t (o :: e) fun b e1 => wIf b (wS s1 e1 P) (wS s2 e1 P) := wS_if
@[simp] theorem wS_aug_ {o : Option D} : wS (cAug i g f) (o :: e) P = wP (getS (o :: e) i) fun d0 => wE f (o :: e) fun d e1 => wP (g [d0, d]) fun d1 => P .nx (e1.set i (some d1)) := wS_aug
@[simp] theorem wS_set_ {o : Option D} : wS (cSetI i fe fx) (o :: e) P = wP (getS (o :: e) i) fun _ => wE fe (o :: e) fun d e1 => wE fx e1 fun k e2 => isIn k fun j => wP (getS e2 i) fun l => isLs l fun xs => wP (ixN xs.length j) fun n => P .nx (e2.set i (some (.lst (xs.set n d)))) := wS_set
@[simp] theorem wE_mut_ {gm : List D → List D → Option (D × List D)} {o : Option D} : wE (cMut i gm os) (o :: e) Q = wP (getS (o :: e) i) fun l => isLs l fun _ => wO os (o :: e) fun ds e1 => wP (getS e1 i) fun l => isLs l fun xs => wP (gm xs ds) fun y => Q y.1 (e1.set i (some (.lst y.2))) := wE_mut
@[simp] theorem wS_for_ {it : CI} {tg : Tg} {o : Option D} : wS (cFor it tg s) (o :: e) P = wI it (o :: e) fun items e1 => wS (forD tg s items) e1 P := wS_for
end
end DI
set_option Elab.async false
set_option autoImplicit false
set_option linter.all false
set_option maxRecDepth 100000
set_option maxHeartbeats 2000000
/-! DP2: what prims give; slots; loops. -/
namespace DI
open PySem PySem.Spec PyProof.Rows L2
section
variable {e : Env} {Q : D → Prop} {o : Option D} {i : Nat} {a b : Int} {x y : Bool} {ds : List D}
@[simp] theorem getS_zero : getS (o :: e) 0 = o := rfl
@[simp] theorem getS_succ : getS (o :: e) (i + 1) = getS e i := rfl
@[simp] theorem wP_gAdd : wP (gAdd [.int a, .int b]) Q = Q (.int (a + b)) := wP_some
@[simp] theorem wP_gAddL {c d : List D} : wP (gAdd [.lst c, .lst d]) Q = (c.length + d.length ≤ sizeLine ∧ Q (.lst (c ++ d))) := by
  show wP (if c.length + d.length ≤ sizeLine then some (D.lst (c ++ d)) else none) Q = _
  split
  · rename_i h; rw [wP_some]; simp [h]
  · rename_i h; rw [wP_none]; simp [h]
@[simp] theorem wP_gSub : wP (gSub [.int a, .int b]) Q = Q (.int (a - b)) := wP_some
@[simp] theorem wP_gNeg : wP (gNeg [.int a]) Q = Q (.int (-a)) := wP_some
theorem wP_ite {α : Type} {c : Prop} [Decidable c] {d : α} {Q : α → Prop} : wP (if c then some d else none) Q = (c ∧ Q d) := by
  split
  · rename_i h; rw [wP_some]; simp [h]
  · rename_i h; rw [wP_none]; simp [h]
@[simp] theorem wP_gMul : wP (gMul [.int a, .int b]) Q = (okMul a b ∧ Q (.int (a * b))) := wP_ite
@[simp] theorem wP_gFdiv : wP (gFdiv [.int a, .int b]) Q = ((0 < b ∧ b.natAbs.log2 < 9000) ∧ Q (.int (a / b))) := wP_ite
@[simp] theorem wP_gMod : wP (gMod [.int a, .int b]) Q = (0 < b ∧ Q (.int (a % b))) := wP_ite
@[simp] theorem wP_gPow : wP (gPow [.int a, .int b]) Q = ((0 ≤ b ∧ (a.natAbs.log2 + 1) * b.toNat ≤ 100000000) ∧ Q (.int (a ^ b.toNat))) := wP_ite
@[simp] theorem wP_gAddI : wP (gAddI [.int a, .int b]) Q = Q (.int (a + b)) := wP_some
@[simp] theorem wP_gSubI : wP (gSubI [.int a, .int b]) Q = Q (.int (a - b)) := wP_some
@[simp] theorem wP_gModI : wP (gModI [.int a, .int b]) Q = (0 < b ∧ Q (.int (a % b))) := wP_ite
@[simp] theorem wP_gFdivI : wP (gFdivI [.int a, .int b]) Q = ((0 < b ∧ b < 1073741824) ∧ Q (.int (a / b))) := wP_ite
@[simp] theorem wP_gMulI : wP (gMulI [.int a, .int b]) Q = (((-(2 ^ 64) < a ∧ a < 2 ^ 64) ∨ (-(2 ^ 64) < b ∧ b < 2 ^ 64)) ∧ Q (.int (a * b))) := wP_ite
@[simp] theorem wP_gLt : wP (gLt [.int a, .int b]) Q = Q (.bl (decide (a < b))) := wP_some
@[simp] theorem wP_gLe : wP (gLe [.int a, .int b]) Q = Q (.bl (decide (a ≤ b))) := wP_some
@[simp] theorem wP_gGt : wP (gGt [.int a, .int b]) Q = Q (.bl (decide (b < a))) := wP_some
@[simp] theorem wP_gGe : wP (gGe [.int a, .int b]) Q = Q (.bl (decide (b ≤ a))) := wP_some
@[simp] theorem wP_gMax2 : wP (gMax2 [.int a, .int b]) Q = Q (.int (max a b)) := by
  have : (if b > a then b else a) = max a b := by rw [Int.max_def]; split <;> split <;> omega
  show wP (some (D.int (if b > a then b else a))) Q = _
  rw [this, wP_some]
@[simp] theorem wP_gMin2 : wP (gMin2 [.int a, .int b]) Q = Q (.int (min a b)) := by
  have : (if b < a then b else a) = min a b := by rw [Int.min_def]; split <;> split <;> omega
  show wP (some (D.int (if b < a then b else a))) Q = _
  rw [this, wP_some]
@[simp] theorem wP_gAbs : wP (gAbs [.int a]) Q = Q (.int a.natAbs) := by
  have : (if a < 0 then -a else a) = (a.natAbs : Int) := by split <;> omega
  show wP (some (D.int (if a < 0 then -a else a))) Q = _
  rw [this, wP_some]
@[simp] theorem wP_gLen : wP (gLen [.lst ds]) Q = Q (.int ds.length) := wP_some
@[simp] theorem wP_gLenS {ns : List Int} : wP (gLen [.scr ns]) Q = Q (.int ns.length) := wP_some
@[simp] theorem wP_gLst : wP (gLst ds) Q = (ds.length ≤ sizeLine ∧ Q (.lst ds)) := wP_ite
@[simp] theorem wP_gTup : wP (gTup ds) Q = (ds.length ≤ sizeLine ∧ Q (.tup ds)) := wP_ite
@[simp] theorem wP_gIx : wP (gIx [.lst ds, .int a]) Q = wP (atI ds a) Q := rfl
@[simp] theorem wP_gIxT : wP (gIx [.tup ds, .int a]) Q = wP (atI ds a) Q := rfl
@[simp] theorem wP_gIxS {ns : List Int} : wP (gIx [.scr ns, .int a]) Q = wP (atI ns a) fun n => Q (.int n) := by
  show wP ((atI ns a).map D.int) Q = _
  cases atI ns a with
  | none => rw [wP_none]; exact wP_none
  | some n => rw [wP_some]; exact wP_some
@[simp] theorem wP_gIsN : wP (gIs [.non, .non]) Q = Q (.bl true) := wP_some
@[simp] theorem wP_gIsB : wP (gIs [.bl x, .bl y]) Q = Q (.bl (decide (x = y))) := wP_some
@[simp] theorem wP_gIsNotB : wP (gIsNot [.bl x, .bl y]) Q = Q (.bl (!decide (x = y))) := wP_some
@[simp] theorem wP_gIsiI : wP (gIsi [.int a, .ty "int"]) Q = Q (.bl true) := wP_some
@[simp] theorem wP_gIsiB : wP (gIsi [.int a, .ty "bool"]) Q = Q (.bl false) := wP_some
@[simp] theorem wP_gIsiL : wP (gIsi [.lst ds, .ty "list"]) Q = Q (.bl true) := wP_some
end
@[simp] theorem sizeLine_num : sizeLine = 16777216 := sizeLine_eq
/-! cuts -/
theorem wE_cut {f : CE} {e : DI.Env} {Q : D → DI.Env → Prop} (R : D → DI.Env → Prop) (h : wE f e R) (k : ∀ d e', R d e' → Q d e') : wE f e Q := by
  obtain ⟨d, e', a, b⟩ := h
  exact ⟨d, e', a, k d e' b⟩
theorem wS_cut {f : CS} {e : DI.Env} {Q : Fl → DI.Env → Prop} (R : Fl → DI.Env → Prop) (h : wS f e R) (k : ∀ d e', R d e' → Q d e') : wS f e Q := by
  obtain ⟨d, e', a, b⟩ := h
  exact ⟨d, e', a, k d e' b⟩
/-! list indices -/
section
variable {α : Type} {xs : List α} {a : Int} {Q : α → Prop}
theorem ixN_nat {n k : Nat} (h : k < n) : ixN n (k : Int) = some k := by
  unfold ixN
  rw [if_pos (by omega), if_pos (by omega)]
  simp
@[simp] theorem ixN_0 {n : Nat} : ixN (n + 1) 0 = some 0 := by have := ixN_nat (n := n + 1) (k := 0) (by omega); simpa using this
@[simp] theorem ixN_1 {n : Nat} : ixN (n + 2) 1 = some 1 := by have := ixN_nat (n := n + 2) (k := 1) (by omega); simpa using this
@[simp] theorem ixN_2 {n : Nat} : ixN (n + 3) 2 = some 2 := by have := ixN_nat (n := n + 3) (k := 2) (by omega); simpa using this
theorem atI_nat {k : Nat} : atI xs (k : Int) = xs[k]? := by
  unfold atI
  by_cases h : k < xs.length
  · rw [ixN_nat h]; rfl
  · have : ixN xs.length (k : Int) = none := by
      unfold ixN
      rw [if_pos (by omega), if_neg (by omega)]
    rw [this, List.getElem?_eq_none (by omega)]
    rfl
theorem wP_atI {k : Nat} : wP (atI xs (k : Int)) Q = wP xs[k]? Q := by rw [atI_nat]
theorem wP_at {k : Int} (h0 : 0 ≤ k) : wP (atI xs k) Q = wP xs[k.toNat]? Q := by
  obtain ⟨n, rfl⟩ := Int.eq_ofNat_of_zero_le h0
  rw [wP_atI]
  rfl
@[simp] theorem atI_0 {x : α} : atI (x :: xs) 0 = some x := by have := atI_nat (xs := x :: xs) (k := 0); simpa using this
@[simp] theorem atI_1 {x y : α} : atI (x :: y :: xs) 1 = some y := by have := atI_nat (xs := x :: y :: xs) (k := 1); simpa using this
@[simp] theorem atI_2 {x y z : α} : atI (x :: y :: z :: xs) 2 = some z := by have := atI_nat (xs := x :: y :: z :: xs) (k := 2); simpa using this
@[simp] theorem atI_3 {x y z w : α} : atI (x :: y :: z :: w :: xs) 3 = some w := by have := atI_nat (xs := x :: y :: z :: w :: xs) (k := 3); simpa using this
theorem wP_get {k : Nat} (h : ∀ x, xs[k]? = some x → Q x) (hl : k < xs.length) : wP xs[k]? Q := by
  rw [List.getElem?_eq_getElem hl, wP_some]
  exact h _ (List.getElem?_eq_getElem hl)
end
/-! slots of a call -/
section
variable {o : Option D} {fin env : Env} {ks : List AK} {i : Nat} {pm : List Md} {r : Except Exn D} {ro : Md} {p : Nat} {ps : List Nat} {α : Type} {l : List α}
@[simp] theorem backE_nil : backE [] fin env = env := by unfold backE; rfl
@[simp] theorem backE_ln : backE (.ln i :: ks) (o :: fin) env = (backE ks fin env).set i o := by rw [backE]
@[simp] theorem backE_bo : backE (.bo i :: ks) (o :: fin) env = (backE ks fin env).set i (getS env i) := by rw [backE]
@[simp] theorem backE_sh : backE (.sh :: ks) (o :: fin) env = backE ks fin env := by rw [backE]
@[simp] theorem finE_nil : finE [] env = [] := by cases env <;> rfl
@[simp] theorem finE_sh : finE (.sh :: pm) (o :: env) = none :: finE pm env := rfl
@[simp] theorem finE_pr : finE (.pr :: pm) (o :: env) = o :: finE pm env := rfl
@[simp] theorem okBo_nil {ro : Md} {r : Except Exn D} : okBo [] ro r fin = true := rfl
@[simp] theorem okBo_1 : okBo [.sh] ro r fin = true := rfl
@[simp] theorem okBo_2 : okBo [.sh, .sh] ro r fin = true := rfl
@[simp] theorem okBo_3 : okBo [.sh, .sh, .sh] ro r fin = true := rfl
@[simp] theorem okBo_4 : okBo [.sh, .sh, .sh, .sh] ro r fin = true := rfl
@[simp] theorem okBo_l1 : okBo [.ln i] ro r fin = true := rfl
@[simp] theorem okBo_l2 : okBo [.ln i, .sh] ro r fin = true := rfl
@[simp] theorem okBo_l3 : okBo [.ln i, .sh, .sh] ro r fin = true := rfl
@[simp] theorem okBo_l4 : okBo [.ln i, .sh, .sh, .sh] ro r fin = true := rfl
@[simp] theorem sel_nil : sel [] l = [] := rfl
@[simp] theorem sel_1 {a : α} : sel [0] (a :: l) = [a] := rfl
@[simp] theorem sel_2 {a b : α} : sel [0, 1] (a :: b :: l) = [a, b] := rfl
@[simp] theorem sel_3 {a b c : α} : sel [0, 1, 2] (a :: b :: c :: l) = [a, b, c] := rfl
@[simp] theorem sel_4 {a b c d : α} : sel [0, 1, 2, 3] (a :: b :: c :: d :: l) = [a, b, c, d] := rfl
@[simp] theorem asg_nm {d : D} : asgT (.nm i) d env = some (env.set i (some d)) := rfl
end
/-! loops -/
def loopP (q : Env → Prop) (P : Fl → Env → Prop) : Fl → Env → Prop
  | .nx, e => q e
  | .ct, e => q e
  | .bk, e => P .nx e
  | .rt d, e => P (.rt d) e
@[simp] theorem loopP_nx {q : Env → Prop} {P : Fl → Env → Prop} {e : Env} : loopP q P .nx e = q e := rfl
@[simp] theorem loopP_ct {q : Env → Prop} {P : Fl → Env → Prop} {e : Env} : loopP q P .ct e = q e := rfl
@[simp] theorem loopP_bk {q : Env → Prop} {P : Fl → Env → Prop} {e : Env} : loopP q P .bk e = P .nx e := rfl
@[simp] theorem loopP_rt {q : Env → Prop} {P : Fl → Env → Prop} {e : Env} {d : D} : loopP q P (.rt d) e = P (.rt d) e := rfl
section
variable {tg : Tg} {body : CS} {t : CB} {P : Fl → Env → Prop} {c : CB} {f : CE} {vs : List Nat} {QL : List D → Env → Prop}
theorem wS_forD_nil {e : Env} : wS (forD tg body []) e P = P .nx e := wM_ok
theorem wS_forD_cons {d : D} {ds : List D} {e : Env} : wS (forD tg body (d :: ds)) e P = wP (asgT tg d e) fun e1 => wS body e1 (loopP (fun e2 => wS (forD tg body ds) e2 P) P) := by
  show wM (forD tg body (d :: ds) e) P = _
  rw [forD]
  cases h : asgT tg d e with
  | none => rw [wP_none]; exact wM_none
  | some e1 =>
    rw [wP_some]
    unfold wS
    cases h2 : body e1 with
    | none => simp only [h2]; exact wM_none.trans wM_none.symm
    | some y =>
      obtain ⟨r, e2⟩ := y
      cases r with
      | error z => simp only [h2]; exact wM_err.trans wM_err.symm
      | ok fl =>
        simp only [h2]
        rw [wM_ok]
        cases fl with
        | nx => rfl
        | ct => rfl
        | bk => exact wM_ok
        | rt d => exact wM_ok
/-- a for loop by what holds ahead of each turn -/
theorem for_inv (J : Nat → Env → Prop) {items : List D} {e : Env} (h0 : J 0 e) (hs : ∀ i d e, items[i]? = some d → J i e → wP (asgT tg d e) fun e1 => wS body e1 (loopP (J (i + 1)) P)) (hn : ∀ e, J items.length e → P .nx e) : wS (forD tg body items) e P := by
  suffices H : ∀ (k : Nat) (e : Env), k ≤ items.length → J k e → wS (forD tg body (items.drop k)) e P from by simpa using H 0 e (Nat.zero_le _) h0
  intro k
  induction hk : items.length - k generalizing k with
  | zero =>
    intro e hle hJ
    have : k = items.length := by omega
    subst this
    rw [List.drop_length, wS_forD_nil]
    exact hn e hJ
  | succ m ih =>
    intro e hle hJ
    have hlt : k < items.length := by omega
    rw [List.drop_eq_getElem_cons hlt, wS_forD_cons]
    obtain ⟨e1, a1, r, e', a2, a3⟩ := hs k _ e (List.getElem?_eq_getElem hlt) hJ
    refine ⟨e1, a1, r, e', a2, ?_⟩
    cases r with
    | nx => exact ih (k + 1) (by omega) e' (by omega) a3
    | ct => exact ih (k + 1) (by omega) e' (by omega) a3
    | bk => exact a3
    | rt d => exact a3
theorem wS_while_succ {n : Nat} {e : Env} : wS (whileD t body (n + 1)) e P = wB t e fun b e1 => wIf b (wS body e1 (loopP (fun e2 => wS (whileD t body n) e2 P) P)) (P .nx e1) := by
  unfold wS wB
  rw [whileD, wM_bind]
  congr 1; funext b e1
  cases b with
  | false => rw [wIf_false]; exact wM_ok
  | true =>
    rw [wIf_true]
    simp only [if_true]
    cases h2 : body e1 with
    | none => simp only [h2]; exact wM_none.trans wM_none.symm
    | some y =>
      obtain ⟨r, e2⟩ := y
      cases r with
      | error z => simp only [h2]; exact wM_err.trans wM_err.symm
      | ok fl =>
        try simp only [h2]
        rw [wM_ok]
        cases fl with
        | nx => rfl
        | ct => rfl
        | bk => exact wM_ok
        | rt d => exact wM_ok
/-- a while loop: what holds ahead of the test, with a number that falls -/
theorem while_inv (J : Nat → Env → Prop) {n m : Nat} {e : Env} (h0 : J m e) (hm : m < n) (hs : ∀ m e, J m e → wB t e fun b e1 => wIf b (wS body e1 (loopP (fun e2 => ∃ k, k < m ∧ J k e2) P)) (P .nx e1)) : wS (whileD t body n) e P := by
  induction n generalizing m e with
  | zero => omega
  | succ n ih =>
    rw [wS_while_succ]
    obtain ⟨b, e1, a1, a2⟩ := hs m e h0
    refine ⟨b, e1, a1, ?_⟩
    show wIf b _ _
    cases b with
    | false => rw [wIf_false] at a2 ⊢; exact a2
    | true =>
      rw [wIf_true] at a2 ⊢
      obtain ⟨r, e', a3, a4⟩ := a2
      refine ⟨r, e', a3, ?_⟩
      cases r with
      | nx => obtain ⟨k, h1, h2⟩ := a4; exact ih h2 (by omega)
      | ct => obtain ⟨k, h1, h2⟩ := a4; exact ih h2 (by omega)
      | bk => exact a4
      | rt d => exact a4
theorem wL_nil {e : Env} : wL tg c f vs [] e QL = QL [] e := wM_ok
theorem wL_cons {d : D} {ds : List D} {e : Env} : wL tg c f vs (d :: ds) e QL = wP (asgT tg d (wipeE e vs)) fun e1 => wB c e1 fun b e2 => wIf b (wE f e2 fun y e3 => wL tg c f vs ds e3 fun ys e4 => QL (y :: ys) e4) (wL tg c f vs ds e2 QL) := by
  unfold wL
  rw [lcD]
  cases h : asgT tg d (wipeE e vs) with
  | none => rw [wP_none]; exact wM_none
  | some e1 =>
    rw [wP_some]
    show wM (mbind _ _) _ = _
    rw [wM_bind]
    unfold wB
    congr 1; funext b e2
    cases b with
    | false => rfl
    | true =>
      rw [wIf_true]
      show wM (mbind _ _) _ = _
      rw [wM_bind]
      unfold wE
      congr 1; funext y e3
      rw [wM_bind]
      congr 1; funext ys e4
      exact wM_ok
@[simp] theorem wB_yes_ {o : Option D} {e : Env} {Q : Bool → Env → Prop} : wB cYes (o :: e) Q = Q true (o :: e) := wM_ok
/-- [f(x) for x in ..] -/
theorem lc_map (g : D → D) {items : List D} {e : Env} (h : ∀ d ∈ items, wP (asgT tg d (wipeE e vs)) fun e1 => wB c e1 fun b e2 => b = true ∧ wE f e2 fun y e3 => y = g d ∧ wipeE e3 vs = wipeE e vs)
    (q : ∀ e2, wipeE e2 vs = wipeE e vs → QL (items.map g) e2) : wL tg c f vs items e QL := by
  suffices H : ∀ (ds : List D) (e0 : Env) (R : List D → Env → Prop), (∀ d ∈ ds, d ∈ items) → wipeE e0 vs = wipeE e vs → (∀ e2, wipeE e2 vs = wipeE e vs → R (ds.map g) e2) → wL tg c f vs ds e0 R from H items e QL (fun _ h => h) rfl q
  intro ds
  induction ds with
  | nil => intro e0 R _ hw q; rw [wL_nil]; exact q e0 hw
  | cons d ds ih =>
    intro e0 R hd hw q
    rw [wL_cons, hw]
    obtain ⟨e1, a1, b, e2, a2, rfl, y, e3, a3, rfl, a4⟩ := h d (hd d List.mem_cons_self)
    refine ⟨e1, a1, true, e2, a2, ?_⟩
    show wIf true _ _
    rw [wIf_true]
    exact ⟨_, e3, a3, ih e3 _ (fun z hz => hd z (List.mem_cons_of_mem _ hz)) a4 fun e4 he4 => q e4 he4⟩
/-- [f(x) for x in .. if c] -/
theorem lc_filterMap (g : D → Option D) {items : List D} {e : Env} (h : ∀ d ∈ items, wP (asgT tg d (wipeE e vs)) fun e1 => wB c e1 fun b e2 => wIf b (wE f e2 fun y e3 => g d = some y ∧ wipeE e3 vs = wipeE e vs) (g d = none ∧ wipeE e2 vs = wipeE e vs))
    (q : ∀ e2, wipeE e2 vs = wipeE e vs → QL (items.filterMap g) e2) : wL tg c f vs items e QL := by
  suffices H : ∀ (ds : List D) (e0 : Env) (R : List D → Env → Prop), (∀ d ∈ ds, d ∈ items) → wipeE e0 vs = wipeE e vs → (∀ e2, wipeE e2 vs = wipeE e vs → R (ds.filterMap g) e2) → wL tg c f vs ds e0 R from H items e QL (fun _ h => h) rfl q
  intro ds
  induction ds with
  | nil => intro e0 R _ hw q; rw [wL_nil]; exact q e0 hw
  | cons d ds ih =>
    intro e0 R hd hw q
    rw [wL_cons, hw]
    obtain ⟨e1, a1, b, e2, a2, a3⟩ := h d (hd d List.mem_cons_self)
    refine ⟨e1, a1, b, e2, a2, ?_⟩
    show wIf b _ _
    cases b with
    | true =>
      rw [wIf_true] at a3 ⊢
      obtain ⟨y, e3, a3, a4, a5⟩ := a3
      refine ⟨y, e3, a3, ih e3 _ (fun z hz => hd z (List.mem_cons_of_mem _ hz)) a5 fun e4 he4 => ?_⟩
      have := q e4 he4
      rw [List.filterMap_cons, a4] at this
      exact this
    | false =>
      rw [wIf_false] at a3 ⊢
      refine ih e2 R (fun z hz => hd z (List.mem_cons_of_mem _ hz)) a3.2 fun e4 he4 => ?_
      have := q e4 he4
      rw [List.filterMap_cons, a3.1] at this
      exact this
@[simp] theorem wipeE_nil {o : Option D} {e : Env} : wipeE (o :: e) [] = o :: e := rfl
@[simp] theorem wipeE_cons {o : Option D} {e : Env} {v : Nat} {vs : List Nat} : wipeE (o :: e) (v :: vs) = (wipeE (o :: e) vs).set v none := rfl
@[simp] theorem restoreE_nil {e0 e : Env} {o : Option D} : restoreE e0 (o :: e) [] = o :: e := rfl
@[simp] theorem restoreE_cons {e0 e : Env} {o : Option D} {v : Nat} {vs : List Nat} : restoreE e0 (o :: e) (v :: vs) = (restoreE e0 (o :: e) vs).set v (getS e0 v) := rfl
end
end DI
set_option Elab.async false
set_option autoImplicit false
set_option linter.all false
set_option maxRecDepth 100000
set_option maxHeartbeats 2000000
/-! DP3: lists of ints; equality; repr. -/
namespace DI
open PySem PySem.Spec PyProof.Rows L2
@[simp] theorem log2_10 : Nat.log2 10 = 3 := by decide +kernel
@[simp] theorem log2_100000 : Nat.log2 100000 = 16 := by decide +kernel
@[simp] theorem lg9000 {n : Nat} (h : n < 2 ^ 64) : (n.log2 < 9000) = True := eq_true (Nat.lt_of_le_of_lt (show n.log2 ≤ 64 from by
  by_cases h0 : n = 0
  · subst h0; rw [Nat.log2_zero]; exact Nat.zero_le _
  · exact Nat.le_of_lt ((Nat.log2_lt h0).mpr h)) (by decide))
theorem log2_le {n k : Nat} (h : n < 2 ^ k) : n.log2 ≤ k := by
  by_cases h0 : n = 0
  · subst h0; rw [Nat.log2_zero]; exact Nat.zero_le _
  · exact Nat.le_of_lt ((Nat.log2_lt h0).mpr h)
theorem okMul_l {a b : Int} (h : a.natAbs < 2 ^ 64) : okMul a b := .inl (.inl h)
theorem okMul_r {a b : Int} (h : b.natAbs < 2 ^ 64) : okMul a b := .inl (.inr h)
theorem pys_ints : ∀ ns : List Int, D.pys (ns.map D.int) = some (ns.map PyData.int)
  | [] => rfl
  | n :: ns => by
    show (match (D.int n).py, D.pys (ns.map D.int) with
      | some p, some ps => some (p :: ps)
      | _, _ => none) = _
    rw [pys_ints ns]; rfl
theorem canLay_ints : ∀ ns : List Int, PyData.canLayAll0 (ns.map PyData.int) = true
  | [] => by unfold PyData.canLayAll0; rfl
  | n :: ns => by rw [List.map_cons]; unfold PyData.canLayAll0; rw [canLay_ints ns]; simp [PyData.canLay0]
theorem depth_ints : ∀ ns : List Int, PyData.depthAll (ns.map PyData.int) = 0
  | [] => by unfold PyData.depthAll; rfl
  | n :: ns => by rw [List.map_cons]; unfold PyData.depthAll; rw [depth_ints ns]; simp [PyData.depth]
theorem shaped_ints (ns : List Int) : SeqAt.shaped (.list (ns.map PyData.int)) = true := by
  unfold SeqAt.shaped PyData.canLay0 PyData.depth
  rw [canLay_ints, depth_ints]; rfl
theorem eqv_ints : ∀ ns ms : List Int, PyData.eqvAll (ns.map PyData.int) (ms.map PyData.int) = decide (ns = ms)
  | [], [] => by unfold PyData.eqvAll; rfl
  | [], m :: ms => by rw [List.map_cons, List.map_nil]; unfold PyData.eqvAll; simp
  | n :: ns, [] => by rw [List.map_cons, List.map_nil]; unfold PyData.eqvAll; simp
  | n :: ns, m :: ms => by
    rw [List.map_cons, List.map_cons]; unfold PyData.eqvAll
    rw [eqv_ints ns ms]
    unfold PyData.eqv
    rw [Bool.eq_iff_iff]
    simp
theorem eqD_ints (ns ms : List Int) : eqD (.lst (ns.map .int)) (.lst (ms.map .int)) = some (decide (ns = ms)) := by
  show eqP _ _ = _
  unfold eqP D.py
  rw [pys_ints, pys_ints]
  show (if SeqAt.shaped (.list (ns.map PyData.int)) = true ∧ SeqAt.shaped (.list (ms.map PyData.int)) = true then some (PyData.eqv (.list (ns.map PyData.int)) (.list (ms.map PyData.int))) else none) = _
  rw [if_pos ⟨shaped_ints _, shaped_ints _⟩]
  unfold PyData.eqv
  rw [eqv_ints]
section
variable {Q : D → Prop} {ns ms : List Int} {a b : Int} {x y : Str}
theorem wP_gEq {a b : D} {k : Bool} (h : eqD a b = some k) : wP (gEq [a, b]) Q = Q (.bl k) := by
  show wP ((eqD a b).map D.bl) Q = _
  rw [h]; exact wP_some
theorem wP_gNe {a b : D} {k : Bool} (h : eqD a b = some k) : wP (gNe [a, b]) Q = Q (.bl (!k)) := by
  show wP ((eqD a b).map fun k => D.bl (!k)) Q = _
  rw [h]; exact wP_some
@[simp] theorem wP_gEqI : wP (gEq [.int a, .int b]) Q = Q (.bl (decide (a = b))) := wP_gEq rfl
@[simp] theorem wP_gNeI : wP (gNe [.int a, .int b]) Q = Q (.bl (!decide (a = b))) := wP_gNe rfl
@[simp] theorem wP_gEqS : wP (gEq [.str x, .str y]) Q = Q (.bl (decide (x = y))) := wP_gEq rfl
@[simp] theorem wP_gNeS : wP (gNe [.str x, .str y]) Q = Q (.bl (!decide (x = y))) := wP_gNe rfl
@[simp] theorem wP_gEqL : wP (gEq [.lst (ns.map .int), .lst (ms.map .int)]) Q = Q (.bl (decide (ns = ms))) := wP_gEq (eqD_ints _ _)
@[simp] theorem wP_gNeL : wP (gNe [.lst (ns.map .int), .lst (ms.map .int)]) Q = Q (.bl (!decide (ns = ms))) := wP_gNe (eqD_ints _ _)
@[simp] theorem wP_gEqL0 : wP (gEq [.lst (ns.map .int), .lst []]) Q = Q (.bl (decide (ns = []))) := wP_gEq (eqD_ints _ [])
@[simp] theorem wP_gNeL0 : wP (gNe [.lst (ns.map .int), .lst []]) Q = Q (.bl (!decide (ns = []))) := wP_gNe (eqD_ints _ [])
@[simp] theorem wP_gSum : wP (gSum [.lst (ns.map .int)]) Q = Q (.int ns.sum) := by
  show wP ((intsD (ns.map D.int)).map fun ns => D.int ns.sum) Q = _
  rw [intsD_map]; exact wP_some
@[simp] theorem wP_gAll {bs : List Bool} : wP (gAll [.lst (bs.map .bl)]) Q = Q (.bl (bs.all id)) := by
  show wP ((blsD (bs.map D.bl)).map fun bs => D.bl (bs.all id)) Q = _
  rw [blsD_map]; exact wP_some
@[simp] theorem wP_gAny {bs : List Bool} : wP (gAny [.lst (bs.map .bl)]) Q = Q (.bl (bs.any id)) := by
  show wP ((blsD (bs.map D.bl)).map fun bs => D.bl (bs.any id)) Q = _
  rw [blsD_map]; exact wP_some
def cutL {α : Type} (xs : List α) (lo hi : Option Int) : List α := (xs.drop (HT.sIx xs.length 0 lo)).take (HT.sIx xs.length xs.length hi - HT.sIx xs.length 0 lo)
theorem cutD_map {f : Int → D} {lo hi : Option Int} : cutD (ns.map f) lo hi = (cutL ns lo hi).map f := by
  unfold cutD cutL
  rw [List.length_map, List.map_take, List.map_drop]
@[simp] theorem wP_gSl11 : wP (gSl11 [.lst (ns.map .int), .int a, .int b]) Q = Q (.lst ((cutL ns (some a) (some b)).map .int)) := by
  show wP (some (D.lst (cutD (ns.map D.int) (some a) (some b)))) Q = _
  rw [cutD_map]; exact wP_some
@[simp] theorem wP_gSl10 : wP (gSl10 [.lst (ns.map .int), .int a]) Q = Q (.lst ((cutL ns (some a) none).map .int)) := by
  show wP (some (D.lst (cutD (ns.map D.int) (some a) none))) Q = _
  rw [cutD_map]; exact wP_some
@[simp] theorem wP_gSl01 : wP (gSl01 [.lst (ns.map .int), .int b]) Q = Q (.lst ((cutL ns none (some b)).map .int)) := by
  show wP (some (D.lst (cutD (ns.map D.int) none (some b)))) Q = _
  rw [cutD_map]; exact wP_some
@[simp] theorem wP_giL {R : List D → Prop} {ds : List D} : wP (giL [.lst ds]) R = R ds := wP_some
@[simp] theorem wP_giLS {R : List D → Prop} : wP (giL [.scr ns]) R = R (ns.map .int) := wP_some
@[simp] theorem wP_giR1 {R : List D → Prop} : wP (giR1 [.int a]) R = ((-(2 ^ 62) ≤ a ∧ a < 2 ^ 62) ∧ R (rangeD 0 a.toNat)) := wP_ite
@[simp] theorem wP_giR2 {R : List D → Prop} : wP (giR2 [.int a, .int b]) R = (((-(2 ^ 62) ≤ a ∧ a < 2 ^ 62) ∧ -(2 ^ 62) ≤ b ∧ b < 2 ^ 62) ∧ R (rangeD a (b - a).toNat)) := wP_ite
end
theorem rangeD_get {lo : Int} {n i : Nat} {d : D} (h : (rangeD lo n)[i]? = some d) : d = .int (lo + i) ∧ i < n := by
  unfold rangeD at h
  rw [List.getElem?_map] at h
  by_cases hi : i < n
  · rw [List.getElem?_range hi] at h
    cases h
    exact ⟨rfl, hi⟩
  · rw [List.getElem?_eq_none (by simpa using hi)] at h; cases h
theorem rangeD_len {lo : Int} {n : Nat} : (rangeD lo n).length = n := by unfold rangeD; simp
theorem ints_get {ns : List Int} {i : Nat} {d : D} (h : (ns.map D.int)[i]? = some d) : ∃ n, ns[i]? = some n ∧ d = .int n := by
  rw [List.getElem?_map] at h
  cases hn : ns[i]? with
  | none => rw [hn] at h; cases h
  | some n => rw [hn] at h; cases h; exact ⟨n, rfl, rfl⟩
def onInt (f : Int → D) : D → D
  | .int v => f v
  | _ => .non
@[simp] theorem onInt_int {f : Int → D} {v : Int} : onInt f (.int v) = f v := rfl
theorem rangeD_onInt {f : Int → D} {lo : Int} {n : Nat} : (rangeD lo n).map (onInt f) = (List.range n).map fun (i : Nat) => f (lo + i) := by
  unfold rangeD
  rw [List.map_map]; rfl
theorem rangeD_map {n : Nat} {g : Int → Int} : (rangeD 0 n).map (onInt fun v => .int (g v)) = ((List.range n).map fun (i : Nat) => g i).map D.int := by
  rw [rangeD_onInt, List.map_map]
  apply List.map_congr_left
  intro i _
  simp
/-! repr of what is small -/
end DI
set_option Elab.async false
set_option autoImplicit false
set_option linter.all false
set_option maxRecDepth 100000
set_option maxHeartbeats 2000000
/-! DP4: what is small has a repr. -/
namespace DI
open PySem PySem.Spec PyProof.Rows L2
mutual
/-- ints below 10^100, signs that are signs -/
def D.sm : D → Prop
  | .non => True
  | .bl _ => True
  | .int i => i.natAbs < 10 ^ 100
  | .str x => ∀ c ∈ x.cps.toList, c < 16 ^ 8
  | .lst xs => D.sms xs
  | .tup xs => D.sms xs
  | .dic _ _ => False
  | .scr _ => False
  | .sta _ => False
  | .ty _ => False
  | .gl _ => False
  | .exn _ _ _ => False
  | .ob _ => False
def D.sms : List D → Prop
  | [] => True
  | d :: ds => d.sm ∧ D.sms ds
end
mutual
/-- as many signs at most -/
def D.wt : D → Nat
  | .non => 4
  | .bl _ => 5
  | .int _ => 101
  | .str x => 10 * x.length + 2
  | .lst xs => D.wts xs + 3
  | .tup xs => D.wts xs + 3
  | .dic _ _ => 0
  | .scr _ => 0
  | .sta _ => 0
  | .ty _ => 0
  | .gl _ => 0
  | .exn _ _ _ => 0
  | .ob _ => 0
def D.wts : List D → Nat
  | [] => 0
  | d :: ds => d.wt + 2 + D.wts ds
end
mutual
def D.dp : D → Nat
  | .lst xs => D.dps xs + 1
  | .tup xs => D.dps xs + 1
  | .non => 0
  | .bl _ => 0
  | .int _ => 0
  | .str _ => 0
  | .dic _ _ => 0
  | .scr _ => 0
  | .sta _ => 0
  | .ty _ => 0
  | .gl _ => 0
  | .exn _ _ _ => 0
  | .ob _ => 0
def D.dps : List D → Nat
  | [] => 0
  | d :: ds => max d.dp (D.dps ds)
end
mutual
theorem D.sm_py : ∀ {d : D}, d.sm → ∃ p, d.py = some p ∧ p.showable = true ∧ p.hasDict = false ∧ p.depth ≤ d.dp ∧ p.shown.length ≤ d.wt
  | .non, _ => ⟨.none, rfl, by unfold PyData.showable; rfl, by unfold PyData.hasDict; rfl, by unfold PyData.depth; exact Nat.zero_le _, by unfold PyData.shown D.wt; decide⟩
  | .bl b, _ => ⟨.bool b, rfl, by unfold PyData.showable; rfl, by unfold PyData.hasDict; rfl, by unfold PyData.depth; exact Nat.zero_le _, by unfold PyData.shown D.wt; cases b <;> decide⟩
  | .int i, h => by
    unfold D.sm at h
    refine ⟨.int i, rfl, ?_, by unfold PyData.hasDict; rfl, by unfold PyData.depth; exact Nat.zero_le _, ?_⟩
    · unfold PyData.showable
      have : i.natAbs.log2 < 1920 := Nat.lt_of_le_of_lt (log2_le (k := 400) (Nat.lt_trans h (by decide +kernel))) (by decide)
      simp [this]
    · have e := int_text_length_le10 (k := 100) (by decide) h
      have e2 : (Str.ofString (toString i)).length = (toString i).length := PySem.ofString_length _
      unfold PyData.shown D.wt
      show (Str.ofString (toString i)).length ≤ 101
      omega
  | .str x, h => by
    unfold D.sm at h
    refine ⟨.str x, rfl, by unfold PyData.showable; rfl, by unfold PyData.hasDict; rfl, by unfold PyData.depth; exact Nat.zero_le _, ?_⟩
    unfold PyData.shown D.wt
    exact StrLaws.reprText_len x h
  | .lst xs, h => by
    unfold D.sm at h
    obtain ⟨ps, h1, h2, h3, h4, h5, h6⟩ := D.sms_py h
    refine ⟨.list ps, by unfold D.py; rw [h1]; rfl, by unfold PyData.showable; exact h2, by unfold PyData.hasDict; exact h3, by unfold PyData.depth D.dp; omega, ?_⟩
    unfold PyData.shown D.wt
    have := listText_len_le (PyData.shownAll ps)
    omega
  | .tup xs, h => by
    unfold D.sm at h
    obtain ⟨ps, h1, h2, h3, h4, h5, h6⟩ := D.sms_py h
    refine ⟨.tuple ps, by unfold D.py; rw [h1]; rfl, by unfold PyData.showable; exact h2, by unfold PyData.hasDict; exact h3, by unfold PyData.depth D.dp; omega, ?_⟩
    unfold PyData.shown D.wt
    have := tupleText_len_le (PyData.shownAll ps)
    omega
  | .dic _ _, h => by unfold D.sm at h; exact h.elim
  | .scr _, h => by unfold D.sm at h; exact h.elim
  | .sta _, h => by unfold D.sm at h; exact h.elim
  | .ty _, h => by unfold D.sm at h; exact h.elim
  | .gl _, h => by unfold D.sm at h; exact h.elim
  | .exn _ _ _, h => by unfold D.sm at h; exact h.elim
  | .ob _, h => by unfold D.sm at h; exact h.elim
theorem D.sms_py : ∀ {ds : List D}, D.sms ds → ∃ ps, D.pys ds = some ps ∧ PyData.showableAll ps = true ∧ PyData.hasDictAll ps = false ∧ PyData.depthAll ps ≤ D.dps ds ∧ (PyData.shownAll ps).length = ps.length ∧ ((PyData.shownAll ps).map (·.length)).sum + 2 * (PyData.shownAll ps).length ≤ D.wts ds
  | [], _ => ⟨[], rfl, by unfold PyData.showableAll; rfl, by unfold PyData.hasDictAll; rfl, by unfold PyData.depthAll; exact Nat.zero_le _, by unfold PyData.shownAll; rfl, by unfold PyData.shownAll D.wts; simp⟩
  | d :: ds, h => by
    unfold D.sms at h
    obtain ⟨p, a1, a2, a3, a4, a5⟩ := D.sm_py h.1
    obtain ⟨ps, b1, b2, b3, b4, b5, b6⟩ := D.sms_py h.2
    refine ⟨p :: ps, by unfold D.pys; rw [a1, b1], by unfold PyData.showableAll; rw [a2, b2]; rfl, by unfold PyData.hasDictAll; rw [a3, b3]; rfl, by unfold PyData.depthAll D.dps; omega, by unfold PyData.shownAll; simp [b5], ?_⟩
    unfold PyData.shownAll D.wts
    simp only [List.map_cons, List.sum_cons, List.length_cons]
    omega
end
@[simp] theorem sm_non : D.non.sm = True := by unfold D.sm; rfl
@[simp] theorem sm_bl {b : Bool} : (D.bl b).sm = True := by unfold D.sm; rfl
@[simp] theorem sm_int {i : Int} : (D.int i).sm = (i.natAbs < 10 ^ 100) := by unfold D.sm; rfl
@[simp] theorem sm_lst {ds : List D} : (D.lst ds).sm = D.sms ds := by rw [D.sm]
@[simp] theorem sm_tup {ds : List D} : (D.tup ds).sm = D.sms ds := by rw [D.sm]
@[simp] theorem sms_nil : D.sms [] = True := by unfold D.sms; rfl
@[simp] theorem sms_cons {d : D} {ds : List D} : D.sms (d :: ds) = (d.sm ∧ D.sms ds) := by rw [D.sms]
@[simp] theorem wt_non : D.non.wt = 4 := by unfold D.wt; rfl
@[simp] theorem wt_bl {b : Bool} : (D.bl b).wt = 5 := by unfold D.wt; rfl
@[simp] theorem wt_int {i : Int} : (D.int i).wt = 101 := by unfold D.wt; rfl
@[simp] theorem wt_lst {ds : List D} : (D.lst ds).wt = D.wts ds + 3 := by rw [D.wt]
@[simp] theorem wt_tup {ds : List D} : (D.tup ds).wt = D.wts ds + 3 := by rw [D.wt]
@[simp] theorem wts_nil : D.wts [] = 0 := by unfold D.wts; rfl
@[simp] theorem wts_cons {d : D} {ds : List D} : D.wts (d :: ds) = d.wt + 2 + D.wts ds := by rw [D.wts]
@[simp] theorem dp_non : D.non.dp = 0 := by unfold D.dp; rfl
@[simp] theorem dp_bl {b : Bool} : (D.bl b).dp = 0 := by unfold D.dp; rfl
@[simp] theorem dp_int {i : Int} : (D.int i).dp = 0 := by unfold D.dp; rfl
@[simp] theorem dp_lst {ds : List D} : (D.lst ds).dp = D.dps ds + 1 := by rw [D.dp]
@[simp] theorem dp_tup {ds : List D} : (D.tup ds).dp = D.dps ds + 1 := by rw [D.dp]
@[simp] theorem dps_nil : D.dps [] = 0 := by unfold D.dps; rfl
@[simp] theorem dps_cons {d : D} {ds : List D} : D.dps (d :: ds) = max d.dp (D.dps ds) := by rw [D.dps]
end DI
set_option Elab.async false
set_option autoImplicit false
set_option linter.all false
set_option maxRecDepth 100000
set_option maxHeartbeats 2000000
/-! DP5: more prims; borrowed lists; zip, enumerate, ranges that fall. -/
namespace DI
open PySem PySem.Spec PyProof.Rows L2
section
variable {Q : D → Prop} {a b c : Int} {k : Bool} {ds es : List D} {d : D} {ns ms : List Int} {R : List D → Prop}
@[simp] theorem wP_gDivmod : wP (gDivmod [.int a, .int b]) Q = ((0 < b ∧ b < 1073741824) ∧ Q (.tup [.int (a / b), .int (a % b)])) := wP_ite
@[simp] theorem wP_gIntI : wP (gInt [.int a]) Q = Q (.int a) := wP_some
@[simp] theorem wP_gIntB : wP (gInt [.bl k]) Q = Q (.int (if k = true then 1 else 0)) := wP_some
@[simp] theorem wP_gIsNI : wP (gIs [.int a, .non]) Q = Q (.bl false) := wP_some
@[simp] theorem wP_gIsNL : wP (gIs [.lst ds, .non]) Q = Q (.bl false) := wP_some
@[simp] theorem wP_gIsNotNI : wP (gIsNot [.int a, .non]) Q = Q (.bl true) := wP_some
@[simp] theorem wP_gIsNotNN : wP (gIsNot [.non, .non]) Q = Q (.bl false) := wP_some
@[simp] theorem wP_mApp {Q : D × List D → Prop} : wP (mApp ds [d]) Q = (ds.length < sizeLine ∧ Q (.non, ds ++ [d])) := wP_ite
@[simp] theorem wP_mExt {Q : D × List D → Prop} : wP (mExt ds [.lst es]) Q = (ds.length + es.length ≤ sizeLine ∧ Q (.non, ds ++ es)) := wP_ite
@[simp] theorem wP_mIns {Q : D × List D → Prop} : wP (mIns ds [.int a, d]) Q = ((ds.length < sizeLine ∧ 0 ≤ a ∧ a < 2 ^ 63) ∧ Q (.non, ds.take a.toNat ++ [d] ++ ds.drop a.toNat)) := wP_ite
@[simp] theorem wP_mRev {Q : D × List D → Prop} : wP (mRev ds []) Q = Q (.non, ds.reverse) := wP_some
@[simp] theorem wP_giZ : wP (giZ [.lst ds, .lst es]) R = R (zipD ds es) := wP_some
@[simp] theorem wP_giE : wP (giE [.lst ds]) R = R (enumD ds) := wP_some
@[simp] theorem wP_giRm : wP (giRm [.int a, .int b, .int c]) R = (((-(2 ^ 62) ≤ a ∧ a < 2 ^ 62) ∧ (-(2 ^ 62) ≤ b ∧ b < 2 ^ 62) ∧ c = -1) ∧ R (rangeCD a (-1) (a - b).toNat)) := wP_ite
@[simp] theorem wP_gSl00 : wP (gSl00 [.lst (ns.map .int)]) Q = Q (.lst ((cutL ns none none).map .int)) := by
  show wP (some (D.lst (cutD (ns.map D.int) none none))) Q = _
  rw [cutD_map]; exact wP_some
end
theorem cutL_lo {α : Type} {xs : List α} {k : Nat} : cutL xs (some (k : Int)) none = xs.drop k := by
  unfold cutL
  rw [HT.sIx_nat, HT.sIx_none]
  by_cases h : k ≤ xs.length
  · rw [Nat.min_eq_left h, List.take_of_length_le (by simp)]
  · rw [Nat.min_eq_right (by omega), List.drop_eq_nil_of_le (Nat.le_refl _), List.drop_eq_nil_of_le (by omega)]
    simp
theorem cutL_hi {α : Type} {xs : List α} {k : Nat} : cutL xs none (some (k : Int)) = xs.take k := by
  unfold cutL
  rw [HT.sIx_nat, HT.sIx_none, List.drop_zero, Nat.sub_zero]
  by_cases h : k ≤ xs.length
  · rw [Nat.min_eq_left h]
  · rw [Nat.min_eq_right (by omega), List.take_of_length_le (Nat.le_refl _), List.take_of_length_le (by omega)]
section
variable {env fin : Env} {is : List Nat} {ds : List D} {i : Nat} {d : D} {ks : List AK} {o : Option D}
@[simp] theorem asg_tp : asgT (.tp is) (.tup ds) env = putEs is ds env := rfl
@[simp] theorem putEs_nil : putEs [] [] env = some env := rfl
@[simp] theorem putEs_cons : putEs (i :: is) (d :: ds) env = putEs is ds (env.set i (some d)) := rfl
@[simp] theorem finOk_nil : finOk [] fin = true := by cases fin <;> rfl
@[simp] theorem finOk_sh : finOk (.sh :: ks) (none :: fin) = finOk ks fin := rfl
@[simp] theorem finOk_bo : finOk (.bo i :: ks) (none :: fin) = finOk ks fin := rfl
@[simp] theorem okBo_int {i : Int} : okBo ks .sh (.ok (.int i)) fin = (noBo ks || finOk ks fin) := by
  unfold okBo
  rw [show flatR .sh (.ok (.int i)) = true from rfl, Bool.true_and]
@[simp] theorem okBo_bl {i : Bool} : okBo ks .sh (.ok (.bl i)) fin = (noBo ks || finOk ks fin) := by
  unfold okBo
  rw [show flatR .sh (.ok (.bl i)) = true from rfl, Bool.true_and]
@[simp] theorem noBo_nil : noBo [] = true := rfl
@[simp] theorem noBo_sh : noBo (.sh :: ks) = noBo ks := rfl
@[simp] theorem noBo_ln : noBo (.ln i :: ks) = noBo ks := rfl
@[simp] theorem noBo_bo : noBo (.bo i :: ks) = false := rfl
end
theorem atI_last {α : Type} {xs : List α} {x : α} : atI (xs ++ [x]) (-1) = some x := by
  unfold atI ixN
  rw [if_neg (by decide), if_pos (by simp; omega)]
  simp
  have : (-1 + ((xs.length : Int) + 1)).toNat = xs.length := by omega
  rw [this]
  simp
end DI
set_option Elab.async false
set_option autoImplicit false
set_option linter.all false
set_option maxRecDepth 100000
set_option maxHeartbeats 2000000
/-! DP6: lists that are only read; equality of what is the same. -/
namespace DI
open PySem PySem.Spec PyProof.Rows L2
section
variable {ms : List Md} {m : Md} {i : Nat} {f : CE} {e e' : Env} {o o' : Option D} {Q : D → Env → Prop}
theorem wE_bor : wE (cBor ms i f) e Q = wP (getS e i) fun l => isLs l fun ds => wE f e fun d e1 => (d.atom = true ∧ okSlots i ms e e1) ∧ Q d (e1.set i (some (.lst ds))) := by
  unfold wE cBor
  cases h : getS e i with
  | none => rw [wP_none]; exact wM_none
  | some l =>
    rw [wP_some]
    cases l with
    | lst ds =>
      rw [isLs_lst]
      simp only
      cases h2 : f e with
      | none => exact wM_none.trans wM_none.symm
      | some y =>
        obtain ⟨r, e1⟩ := y
        cases r with
        | error z => exact wM_none.trans wM_err.symm
        | ok d =>
          rw [wM_ok]
          simp only
          split
          · rename_i hc; rw [wM_ok]; simp [hc]
          · rename_i hc; rw [wM_none]; simp [hc]
    | _ => rw [isLs_no (by intro b h; cases h)]; exact wM_none
@[simp] theorem wE_bor_ : wE (cBor ms i f) (o :: e) Q = wP (getS (o :: e) i) fun l => isLs l fun ds => wE f (o :: e) fun d e1 => (d.atom = true ∧ okSlots i ms (o :: e) e1) ∧ Q d (e1.set i (some (.lst ds))) := wE_bor
@[simp] theorem okSlots_zero : okSlots 0 (m :: ms) (o :: e) (o' :: e') = okSlots.okSlots1 ms e e' := rfl
@[simp] theorem okSlots_succ : okSlots (i + 1) (m :: ms) (o :: e) (o' :: e') = (okSlot m o o' ∧ okSlots i ms e e') := rfl
@[simp] theorem okSlots1_cons : okSlots.okSlots1 (m :: ms) (o :: e) (o' :: e') = (okSlot m o o' ∧ okSlots.okSlots1 ms e e') := rfl
@[simp] theorem okSlots1_nil : okSlots.okSlots1 [] [] [] = True := rfl
@[simp] theorem okSlot_sh : okSlot .sh o o = True := by unfold okSlot; simp
@[simp] theorem okSlot_none : okSlot m o none = True := by unfold okSlot; simp
theorem okSlot_ow {d : D} (h : flatB .ow d = true) : okSlot .ow o (some d) := .inr (.inl ⟨d, rfl, h⟩)
@[simp] theorem atom_bl {b : Bool} : (D.bl b).atom = true := rfl
@[simp] theorem atom_int {b : Int} : (D.int b).atom = true := rfl
@[simp] theorem atom_str {b : Str} : (D.str b).atom = true := rfl
@[simp] theorem atom_non : D.non.atom = true := rfl
end
/-! equality of bools, None -/
section
variable {Q : D → Prop} {x y : Bool} {a : Int} {ds : List D}
theorem shaped_bl (b : Bool) : SeqAt.shaped (.bool b) = true := by unfold SeqAt.shaped PyData.canLay0 PyData.depth; rfl
theorem eqD_bl (x y : Bool) : eqD (.bl x) (.bl y) = some (decide (x = y)) := by
  show eqP (.bl x) (.bl y) = _
  unfold eqP D.py
  show (if SeqAt.shaped (.bool x) = true ∧ SeqAt.shaped (.bool y) = true then some (PyData.eqv (.bool x) (.bool y)) else none) = _
  rw [if_pos ⟨shaped_bl _, shaped_bl _⟩]
  unfold PyData.eqv
  cases x <;> cases y <;> rfl
@[simp] theorem wP_gEqB : wP (gEq [.bl x, .bl y]) Q = Q (.bl (decide (x = y))) := wP_gEq (eqD_bl _ _)
@[simp] theorem wP_gNeB : wP (gNe [.bl x, .bl y]) Q = Q (.bl (!decide (x = y))) := wP_gNe (eqD_bl _ _)
@[simp] theorem wP_gIsiIl : wP (gIsi [.int a, .ty "list"]) Q = Q (.bl false) := wP_some
@[simp] theorem wP_gIsiIt : wP (gIsi [.int a, .ty "tuple"]) Q = Q (.bl false) := wP_some
@[simp] theorem wP_gIsiIs : wP (gIsi [.int a, .ty "str"]) Q = Q (.bl false) := wP_some
@[simp] theorem wP_gIsiLt : wP (gIsi [.lst ds, .ty "tuple"]) Q = Q (.bl false) := wP_some
@[simp] theorem wP_gIsiLs : wP (gIsi [.lst ds, .ty "str"]) Q = Q (.bl false) := wP_some
@[simp] theorem wP_gIsiLb : wP (gIsi [.lst ds, .ty "bool"]) Q = Q (.bl false) := wP_some
@[simp] theorem wP_gIsiLi : wP (gIsi [.lst ds, .ty "int"]) Q = Q (.bl false) := wP_some
@[simp] theorem wP_gIsiBb : wP (gIsi [.bl x, .ty "bool"]) Q = Q (.bl true) := wP_some
@[simp] theorem wP_gIsiBi : wP (gIsi [.bl x, .ty "int"]) Q = Q (.bl true) := wP_some
@[simp] theorem wP_gIsiBl : wP (gIsi [.bl x, .ty "list"]) Q = Q (.bl false) := wP_some
@[simp] theorem wP_gIsiBt : wP (gIsi [.bl x, .ty "tuple"]) Q = Q (.bl false) := wP_some
@[simp] theorem wP_gIsiBs : wP (gIsi [.bl x, .ty "str"]) Q = Q (.bl false) := wP_some
end
end DI
namespace DI
open PySem PySem.Spec PyProof.Rows L2
@[simp] theorem wP_gRev {ns : List Int} {Q : D → Prop} : wP (gRev [.lst (ns.map .int)]) Q = Q (.lst (ns.reverse.map .int)) := by
  show wP (some (D.lst (ns.map D.int).reverse)) Q = _
  rw [← List.map_reverse]; exact wP_some
end DI
set_option Elab.async false
set_option autoImplicit false
set_option linter.all false
set_option maxRecDepth 100000
set_option maxHeartbeats 2000000
/-! DP7: more rules for simp. -/
namespace DI
open PySem PySem.Spec PyProof.Rows L2
section
variable {Q : D → Prop} {ns : List Int}
@[simp] theorem gMul_two {d : D} : wP (gMul [.lst [d], .int 2]) Q = Q (.lst [d, d]) := wP_some
@[simp] theorem gMul_three {d : D} : wP (gMul [.lst [d], .int 3]) Q = Q (.lst [d, d, d]) := wP_some
theorem cutL_hi0 {α : Type} {xs : List α} {k : Nat} : cutL xs none (some (k : Int)) = xs.take k := cutL_hi
theorem cutL_hi1 {α : Type} {xs : List α} {k : Nat} : cutL xs none (some ((k : Int) + 1)) = xs.take (k + 1) := cutL_hi (k := k + 1)
theorem cutL_lo0 {α : Type} {xs : List α} {k : Nat} : cutL xs (some (k : Int)) none = xs.drop k := cutL_lo
end
end DI
set_option Elab.async false
set_option autoImplicit false
set_option linter.all false
set_option maxRecDepth 100000
set_option maxHeartbeats 2000000
/-! DP8: a list within a list, changed in place. -/
namespace DI
open PySem PySem.Spec PyProof.Rows L2
section
variable {i k : Nat} {j : Int} {e : Env} {o : Option D} {Q : D → Env → Prop} {g : List D → List D → Option (D × List D)}
theorem wE_mutK : wE (cMutK i k g j) e Q = wP (getS e i) fun l => isLs l fun xs => wP xs[k]? fun l2 => isLs l2 fun ys => wP (g ys [.int j]) fun y => Q y.1 (e.set i (some (.lst (xs.set k (.lst y.2))))) := by
  unfold wE cMutK
  cases h : getS e i with
  | none => rw [wP_none]; exact wM_none
  | some l =>
    rw [wP_some]
    cases l with
    | lst xs =>
      rw [isLs_lst]
      simp only
      cases h2 : xs[k]? with
      | none => rw [wP_none]; exact wM_none
      | some l2 =>
        rw [wP_some]
        cases l2 with
        | lst ys =>
          rw [isLs_lst]
          simp only
          cases h3 : g ys [.int j] with
          | none => rw [wP_none]; exact wM_none
          | some y => rw [wP_some]; exact wM_ok
        | _ => rw [isLs_no (by intro b h; cases h)]; exact wM_none
    | _ => rw [isLs_no (by intro b h; cases h)]; exact wM_none
@[simp] theorem wE_mutK_ : wE (cMutK i k g j) (o :: e) Q = wP (getS (o :: e) i) fun l => isLs l fun xs => wP xs[k]? fun l2 => isLs l2 fun ys => wP (g ys [.int j]) fun y => Q y.1 ((o :: e).set i (some (.lst (xs.set k (.lst y.2))))) := wE_mutK
end
section
variable {i j l : Nat} {f1 f2 f3 : CE} {e : Env} {o : Option D} {P : Fl → Env → Prop}
theorem wS_par3 : wS (cPar3 i j l f1 f2 f3) e P = wE f1 e fun d e1 => wE f2 e1 fun d2 e2 => wE f3 e2 fun d3 e3 => P .nx (((e3.set i (some d)).set j (some d2)).set l (some d3)) := by
  unfold wS wE cPar3
  rw [wM_bind]
  congr 1; funext d e1
  rw [wM_bind]
  congr 1; funext d2 e2
  rw [wM_bind]
  congr 1; funext d3 e3
  exact wM_ok
@[simp] theorem wS_par3_ : wS (cPar3 i j l f1 f2 f3) (o :: e) P = wE f1 (o :: e) fun d e1 => wE f2 e1 fun d2 e2 => wE f3 e2 fun d3 e3 => P .nx (((e3.set i (some d)).set j (some d2)).set l (some d3)) := wS_par3
theorem wS_mov : wS (cMov i j) e P = wP (getS e j) fun d => P .nx ((e.set j none).set i (some d)) := by
  unfold wS cMov
  cases h : getS e j with
  | none => rw [wP_none]; exact wM_none
  | some d => rw [wP_some]; exact wM_ok
@[simp] theorem wS_mov_ : wS (cMov i j) (o :: e) P = wP (getS (o :: e) j) fun d => P .nx (((o :: e).set j none).set i (some d)) := wS_mov
end
section
variable {is : List Nat} {f : CE} {e : Env} {o : Option D} {P : Fl → Env → Prop}
theorem wS_unpL : wS (cUnpL is f) e P = wE f e fun d e1 => wP (putL is d e1) fun e2 => P .nx e2 := by
  unfold wS wE cUnpL
  rw [wM_bind]
  congr 1; funext d e1
  cases h : putL is d e1 with
  | none => rw [wP_none]; exact wM_none
  | some e2 => rw [wP_some]; exact wM_ok
@[simp] theorem wS_unpL_ : wS (cUnpL is f) (o :: e) P = wE f (o :: e) fun d e1 => wP (putL is d e1) fun e2 => P .nx e2 := wS_unpL
@[simp] theorem putL_two {i j : Nat} {a b : D} : putL [i, j] (.lst [a, b]) e = some ((e.set i (some a)).set j (some b)) := rfl
end
end DI
set_option Elab.async false
set_option autoImplicit false
set_option linter.all false
set_option maxRecDepth 100000
set_option maxHeartbeats 2000000
/-! DP9: decks. -/
namespace DI
open PySem PySem.Spec PyProof.Rows L2
section
variable {i j : Nat} {t : OT} {ks : List AK} {fin env e : Env} {o : Option D} {pm : List Md} {Q : D → Env → Prop} {P : Fl → Env → Prop} {fr : CS}
@[simp] theorem backE_lo : backE (.lo i t :: ks) (o :: fin) env = (backE ks fin env).set i o := by rw [backE]
@[simp] theorem noBo_lo : noBo (.lo i t :: ks) = noBo ks := rfl
@[simp] theorem finE_ps : finE (.ps t :: pm) (o :: env) = o :: finE pm env := rfl
theorem wE_take : wE (cTake j) e Q = wP (getS e j) fun d => Q d (e.set j none) := by
  unfold wE cTake
  cases h : getS e j with
  | none => rw [wP_none]; exact wM_none
  | some d => rw [wP_some]; exact wM_ok
@[simp] theorem wE_take_ : wE (cTake j) (o :: e) Q = wP (getS (o :: e) j) fun d => Q d ((o :: e).set j none) := wE_take
end
end DI
set_option Elab.async false
set_option autoImplicit false
set_option linter.all false
set_option maxRecDepth 100000
set_option maxHeartbeats 2000000
/-! DP10: what a meaning leaves that may end with an exception. -/
namespace DI
open PySem PySem.Spec PyProof.Rows L2
def wX {α : Type} (x : Out α) (Q : α → Env → Prop) (E : Exn → Env → Prop) : Prop := ∃ r e, x = some (r, e) ∧ match r with
  | .ok a => Q a e
  | .error z => E z e
section
variable {α β : Type} {x : Out α} {k : α → Env → Out β} {Q : α → Env → Prop} {Q2 : β → Env → Prop} {E : Exn → Env → Prop} {P : Fl → Env → Prop} {QD : D → Env → Prop} {e : Env} {s s1 s2 : CS} {t : CB} {f : CE} {os : List Opd}
theorem wX_of (h : wM x Q) : wX x Q E := by
  obtain ⟨a, e, h1, h2⟩ := h
  exact ⟨_, e, h1, h2⟩
theorem wX_ok {a : α} (h : Q a e) : wX (some (.ok a, e)) Q E := ⟨_, _, rfl, h⟩
theorem wX_err {z : Exn} (h : E z e) : wX (some (.error z, e)) Q E := ⟨_, _, rfl, h⟩
theorem wX_bind (h : wX x (fun a e1 => wX (k a e1) Q2 E) E) : wX (mbind x k) Q2 E := by
  obtain ⟨r, e1, rfl, h2⟩ := h
  cases r with
  | error z => exact ⟨_, _, rfl, h2⟩
  | ok a => exact h2
theorem wX_imp {Q' : α → Env → Prop} {E' : Exn → Env → Prop} (h : wX x Q E) (h1 : ∀ a e, Q a e → Q' a e) (h2 : ∀ z e, E z e → E' z e) : wX x Q' E' := by
  obtain ⟨r, e1, h3, h4⟩ := h
  refine ⟨r, e1, h3, ?_⟩
  cases r with
  | ok a => exact h1 _ _ h4
  | error z => exact h2 _ _ h4
theorem wXs_seqX (h : wX (s1 e) (seqP (fun e1 => wX (s2 e1) P E) P) E) (h2 : ∀ fl e, fl ≠ .nx → P fl e → P fl e := fun _ _ _ h => h) : wX (cSeq s1 s2 e) P E := by
  obtain ⟨r, e1, h3, h4⟩ := h
  unfold cSeq
  rw [h3]
  cases r with
  | error z => exact ⟨_, _, rfl, h4⟩
  | ok fl =>
    cases fl with
    | nx => exact h4
    | bk => exact ⟨_, _, rfl, h4⟩
    | ct => exact ⟨_, _, rfl, h4⟩
    | rt d => exact ⟨_, _, rfl, h4⟩
theorem wXs_seq (h : wS s1 e (seqP (fun e1 => wX (s2 e1) P E) P)) : wX (cSeq s1 s2 e) P E := wXs_seqX (wX_of h)
theorem wXs_if (h : wB t e fun b e1 => wIf b (wX (s1 e1) P E) (wX (s2 e1) P E)) : wX (cIfS t s1 s2 e) P E := by
  obtain ⟨b, e1, h1, h2⟩ := h
  unfold cIfS
  rw [h1]
  cases b with
  | true => exact h2
  | false => exact h2
theorem wXs_raise {c : Str} (h : E ⟨c, []⟩ e) : wX (cRaise c e) P E := wX_err h
theorem wXF_run {n : Nat} {pm : List Md} {ds : List D} (h : wX (s (ds.map some ++ List.replicate (n - ds.length) none)) (runP pm QD) (fun z e => E z (finE pm e))) : wX (runF n pm s ds) QD E := by
  obtain ⟨r, e1, h1, h2⟩ := h
  unfold runF
  rw [h1]
  cases r with
  | error z => exact ⟨_, _, rfl, h2⟩
  | ok fl =>
    cases fl with
    | nx => exact ⟨_, _, rfl, h2⟩
    | bk => exact h2.elim
    | ct => exact h2.elim
    | rt d => exact ⟨_, _, rfl, h2⟩
theorem wXe_call {F : FnD} {kinds : List AK} {ro : Md} {perm : List Nat} {dds : List D} (h : wO os e fun ds e1 => wX (F (sel perm (ds ++ dds))) (fun d fin => okBo kinds ro (.ok d) fin = true ∧ QD d (backE kinds fin e1)) (fun z fin => okBo kinds ro (.error z) fin = true ∧ E z (backE kinds fin e1))) :
    wX (cCall F kinds ro perm dds os e) QD E := by
  obtain ⟨ds, e1, h1, r, fin, h2, h3⟩ := h
  unfold cCall
  rw [h1, mbind_ok, h2]
  unfold callOut
  cases r with
  | ok d => simp only; rw [if_pos h3.1]; exact ⟨_, _, rfl, h3.2⟩
  | error z => simp only; rw [if_pos h3.1]; exact ⟨_, _, rfl, h3.2⟩
theorem wS_try {xt : List Bool} {ms : List Md} {cs : List ClM} (h : wX (s e) P fun z e1 => wM (hMean cs z (maskB xt ms e1) e1) P) : wS (cTry xt ms s cs) e P := by
  obtain ⟨r, e1, h1, h2⟩ := h
  unfold wS cTry
  rw [h1]
  cases r with
  | ok fl => exact ⟨_, _, rfl, h2⟩
  | error z => exact h2
theorem hMean_yes {c : ClM} {r : List ClM} {z : Exn} {envm env1 : Env} (h : z.cls ∈ c.yes) : hMean (c :: r) z envm env1 = suOut c.slot (c.run z (offV c.slot envm)) := by
  show (if z.cls ∈ c.yes then _ else _) = _
  rw [if_pos h]
theorem suOut_ok {o : Option Nat} {P : Fl → Env → Prop} {x : Out Fl} (h : wM x fun r e => P r (offV o e)) : wM (suOut o x) P := by
  obtain ⟨r, e1, rfl, h2⟩ := h
  exact ⟨r, _, rfl, h2⟩
end
theorem shaped_intsT (ns : List Int) : SeqAt.shaped (.tuple (ns.map PyData.int)) = true := by
  have h := shaped_ints ns
  unfold SeqAt.shaped at h ⊢
  exact h
theorem eqD_intsT (ns ms : List Int) : eqD (.tup (ns.map .int)) (.tup (ms.map .int)) = some (decide (ns = ms)) := by
  show eqP _ _ = _
  unfold eqP D.py
  rw [pys_ints, pys_ints]
  show (if SeqAt.shaped (.tuple (ns.map PyData.int)) = true ∧ SeqAt.shaped (.tuple (ms.map PyData.int)) = true then some (PyData.eqv (.tuple (ns.map PyData.int)) (.tuple (ms.map PyData.int))) else none) = _
  rw [if_pos ⟨shaped_intsT _, shaped_intsT _⟩]
  unfold PyData.eqv
  rw [eqv_ints]
@[simp] theorem wP_gEqT1 {a b : Int} {Q : D → Prop} : wP (gEq [.tup [.int a], .tup [.int b]]) Q = Q (.bl (decide (a = b))) := by
  have h := eqD_intsT [a] [b]
  simp only [List.map_cons, List.map_nil] at h
  rw [wP_gEq h]; simp
@[simp] theorem wP_gNeT1 {a b : Int} {Q : D → Prop} : wP (gNe [.tup [.int a], .tup [.int b]]) Q = Q (.bl (!decide (a = b))) := by
  have h := eqD_intsT [a] [b]
  simp only [List.map_cons, List.map_nil] at h
  rw [wP_gNe h]; simp
end DI
set_option Elab.async false
set_option autoImplicit false
set_option linter.all false
set_option maxRecDepth 100000
set_option maxHeartbeats 2000000
/-! DP11: sorted sets, count, index. -/
namespace DI
open PySem PySem.Spec PyProof.Rows L2
section
variable {Q : D → Prop} {ns : List Int} {k : Int}
@[simp] theorem wP_gSortSet : wP (gSortSet [.lst (ns.map .int)]) Q = (((dedI ns).length < 64 ∧ ns.length + 1 < 4096) ∧ Q (.lst ((sortI (dedI ns)).map .int))) := by
  simp only [gSortSet, intsD_map]
  by_cases h : (dedI ns).length < 64 ∧ ns.length + 1 < 4096
  · rw [if_pos h, wP_some]; simp [h]
  · rw [if_neg h, wP_none]; simp only [h, false_and]
@[simp] theorem wP_gCount : wP (gCount [.lst (ns.map .int), .int k]) Q = Q (.int (ns.count k : Nat)) := by
  simp only [gCount, intsD_map]
  exact wP_some
end
section
variable {f : CE} {e : Env} {o : Option D} {Q : D → Env → Prop} {it : CI} {tg : Tg} {c : CB} {vs : List Nat}
theorem wE_lst : wE (cLst f) e Q = wE f e fun d e1 => isLs d fun xs => Q (.lst xs) e1 := by
  unfold wE cLst
  rw [wM_bind]
  congr 1; funext d e1
  cases d with
  | lst xs => rw [isLs_lst]; exact wM_ok
  | _ => rw [isLs_no (by intro b h; cases h)]; exact wM_none
@[simp] theorem wE_lst_ : wE (cLst f) (o :: e) Q = wE f (o :: e) fun d e1 => isLs d fun xs => Q (.lst xs) e1 := wE_lst
def sdP (e1 : Env) (vs : List Nat) (Q : D → Env → Prop) (ys : List D) (e2 : Env) : Prop := ∃ ns : List Int, ys = ns.map .int ∧ ys.length ≤ sizeLine ∧ (dedI ns).length < 64 ∧ Q (.lst ((sortI (dedI ns)).map .int)) (restoreE e1 (wipeE e2 vs) vs)
end
end DI
set_option Elab.async false
set_option autoImplicit false
set_option linter.all false
set_option maxRecDepth 100000
set_option maxHeartbeats 2000000
/-! DP12: instances: rules for simp. -/
namespace DI
open PySem PySem.Spec PyProof.Rows L2
def isOb (d : D) (Q : List D → Prop) : Prop := ∃ b, d = .ob b ∧ Q b
@[simp] theorem isOb_ob {b : List D} {Q : List D → Prop} : isOb (.ob b) Q = Q b := by simp [isOb]
theorem isOb_no {d : D} {Q : List D → Prop} (h : ∀ b, d ≠ .ob b) : isOb d Q = False := by
  unfold isOb; apply propext; constructor
  · rintro ⟨b, z, _⟩; exact h b z
  · exact False.elim
def hdE (e : Env) (Q : D → Prop) : Prop := match e with
  | some d :: _ => Q d
  | _ => False
@[simp] theorem hdE_some {d : D} {e : Env} {Q : D → Prop} : hdE (some d :: e) Q = Q d := rfl
section
variable {e : Env} {i j : Nat} {f : CE} {os : List Opd} {Q : D → Env → Prop} {P : Fl → Env → Prop} {o : Option D}
theorem wE_fld : wE (cFld i j) e Q = wP (getS e i) fun b => isOb b fun ds => wP ds[j]? fun d => Q d e := by
  unfold wE cFld
  cases h : getS e i with
  | none => rw [wP_none]; exact wM_none
  | some d0 =>
    rw [wP_some]
    cases d0 with
    | ob ds =>
      rw [isOb_ob]
      simp only
      cases h2 : ds[j]? with
      | none => rw [wP_none]; exact wM_none
      | some d => rw [wP_some]; exact wM_ok
    | _ => rw [isOb_no (by intro b h; cases h)]; exact wM_none
theorem wS_setf : wS (cSetF i j f) e P = wE f e fun d e1 => wP (getS e1 i) fun b => isOb b fun ds => wIf (decide (j < ds.length)) (P .nx (e1.set i (some (.ob (ds.set j d))))) (j = ds.length ∧ P .nx (e1.set i (some (.ob (ds ++ [d]))))) := by
  unfold wS cSetF wE
  rw [wM_bind]
  congr 1; funext d e1
  cases h : getS e1 i with
  | none => rw [wP_none]; exact wM_none
  | some d0 =>
    rw [wP_some]
    cases d0 with
    | ob ds =>
      rw [isOb_ob]
      simp only
      by_cases h1 : j < ds.length
      · rw [if_pos h1, decide_eq_true h1, wIf_true]; exact wM_ok
      · rw [if_neg h1, decide_eq_false h1, wIf_false]
        by_cases h2 : j = ds.length
        · rw [if_pos h2, wM_ok]; simp [h2]
        · rw [if_neg h2, wM_none]; simp [h2]
    | _ => rw [isOb_no (by intro b h; cases h)]; exact wM_none
theorem wS_newf : wS (cNewF i j f) e P = wE f e fun d e1 => wP (getS e1 i) fun b => isOb b fun ds => (j = ds.length ∧ P .nx (e1.set i (some (.ob (ds ++ [d]))))) := by
  unfold wS cNewF wE
  rw [wM_bind]
  congr 1; funext d e1
  cases h : getS e1 i with
  | none => rw [wP_none]; exact wM_none
  | some d0 =>
    rw [wP_some]
    cases d0 with
    | ob ds =>
      rw [isOb_ob]
      simp only
      by_cases h2 : j = ds.length
      · rw [if_pos h2, wM_ok]; simp [h2]
      · rw [if_neg h2, wM_none]; simp [h2]
    | _ => rw [isOb_no (by intro b h; cases h)]; exact wM_none
theorem wE_appF {g : Env → Option D} : wE (cAppF i j g) e Q = wP (getS e i) fun b => isOb b fun ds => wP ds[j]? fun l => isLs l fun es => wP (g e) fun d => (es.length < sizeLine ∧ Q .non (e.set i (some (.ob (ds.set j (.lst (es ++ [d]))))))) := by
  unfold wE cAppF
  cases h : getS e i with
  | none => rw [wP_none]; exact wM_none
  | some d0 =>
    rw [wP_some]
    cases d0 with
    | ob ds =>
      rw [isOb_ob]
      simp only
      cases h2 : ds[j]? with
      | none => rw [wP_none]; exact wM_none
      | some l =>
        rw [wP_some]
        cases l with
        | lst es =>
          rw [isLs_lst]
          simp only
          cases h3 : g e with
          | none => rw [wP_none]; exact wM_none
          | some d =>
            rw [wP_some]
            simp only
            by_cases h4 : es.length < sizeLine
            · rw [if_pos h4, wM_ok]; exact propext ⟨fun q => ⟨h4, q⟩, And.right⟩
            · rw [if_neg h4, wM_none]; exact propext ⟨False.elim, fun z => h4 z.1⟩
        | _ => rw [isLs_no (by intro b h; cases h)]; exact wM_none
    | _ => rw [isOb_no (by intro b h; cases h)]; exact wM_none
theorem wE_meth : wE (cMeth i f) e Q = wP (getS e i) fun b => isOb b fun _ => wE f e Q := by
  unfold wE cMeth
  cases h : getS e i with
  | none => rw [wP_none]; exact wM_none
  | some d0 =>
    rw [wP_some]
    cases d0 with
    | ob ds => rw [isOb_ob]
    | _ => rw [isOb_no (by intro b h; cases h)]; exact wM_none
@[simp] theorem wE_fld_ : wE (cFld i j) (o :: e) Q = wP (getS (o :: e) i) fun b => isOb b fun ds => wP ds[j]? fun d => Q d (o :: e) := wE_fld
@[simp] theorem wS_setf_ : wS (cSetF i j f) (o :: e) P = wE f (o :: e) fun d e1 => wP (getS e1 i) fun b => isOb b fun ds => wIf (decide (j < ds.length)) (P .nx (e1.set i (some (.ob (ds.set j d))))) (j = ds.length ∧ P .nx (e1.set i (some (.ob (ds ++ [d]))))) := wS_setf
@[simp] theorem wS_newf_ : wS (cNewF i j f) (o :: e) P = wE f (o :: e) fun d e1 => wP (getS e1 i) fun b => isOb b fun ds => (j = ds.length ∧ P .nx (e1.set i (some (.ob (ds ++ [d]))))) := wS_newf
@[simp] theorem wE_appF_ {g : Env → Option D} : wE (cAppF i j g) (o :: e) Q = wP (getS (o :: e) i) fun b => isOb b fun ds => wP ds[j]? fun l => isLs l fun es => wP (g (o :: e)) fun d => (es.length < sizeLine ∧ Q .non ((o :: e).set i (some (.ob (ds.set j (.lst (es ++ [d]))))))) := wE_appF
@[simp] theorem wE_meth_ : wE (cMeth i f) (o :: e) Q = wP (getS (o :: e) i) fun b => isOb b fun _ => wE f (o :: e) Q := wE_meth
@[simp] theorem two_zero {x y : D} {ds : List D} : two 0 0 1 (some (.ob (x :: y :: ds)) :: e) = some (.tup [x, y]) := rfl
end
section
variable {ro : Md} {r : Except Exn D} {fin : Env} {i j : Nat} {t u : OT}
@[simp] theorem okBo_t1 : okBo [.lo i t] ro r fin = true := rfl
@[simp] theorem okBo_t2 : okBo [.lo i t, .sh] ro r fin = true := rfl
@[simp] theorem okBo_t3 : okBo [.lo i t, .sh, .sh] ro r fin = true := rfl
@[simp] theorem okBo_t4 : okBo [.lo i t, .sh, .sh, .sh] ro r fin = true := rfl
@[simp] theorem okBo_t5 : okBo [.lo i t, .sh, .sh, .sh, .sh] ro r fin = true := rfl
@[simp] theorem okBo_tt : okBo [.lo i t, .lo j u] ro r fin = true := rfl
@[simp] theorem okBo_tt3 : okBo [.lo i t, .lo j u, .sh] ro r fin = true := rfl
@[simp] theorem okBo_tt4 : okBo [.lo i t, .lo j u, .sh, .sh] ro r fin = true := rfl
end
end DI
set_option Elab.async false
set_option autoImplicit false
set_option linter.all false
set_option maxRecDepth 100000
set_option maxHeartbeats 2000000
/-! DP13: an instance's own lists, undo, len, ==: rules for simp. -/
namespace DI
open PySem PySem.Spec PyProof.Rows L2
section
variable {e : Env} {i j n1 n2 : Nat} {f fa fb : CE} {os : List Opd} {Q : D → Env → Prop} {P : Fl → Env → Prop} {o : Option D} {g : Prim} {t : OT} {F : FnD}
theorem wE_fldP : wE (cFldP i j g) e Q = wP (getS e i) fun b => isOb b fun ds => wP ds[j]? fun l => isLs l fun es => wP (g [.lst es]) fun d => Q d e := by
  unfold wE cFldP
  cases h : getS e i with
  | none => rw [wP_none]; exact wM_none
  | some d0 =>
    rw [wP_some]
    cases d0 with
    | ob ds =>
      rw [isOb_ob]
      simp only
      cases h2 : ds[j]? with
      | none => rw [wP_none]; exact wM_none
      | some l =>
        rw [wP_some]
        cases l with
        | lst es =>
          rw [isLs_lst]
          simp only
          cases h3 : g [.lst es] with
          | none => rw [wP_none]; exact wM_none
          | some d => rw [wP_some]; exact wM_ok
        | _ => rw [isLs_no (by intro b h; cases h)]; exact wM_none
    | _ => rw [isOb_no (by intro b h; cases h)]; exact wM_none
theorem wE_fldZ : wE (cFldZ i j g) e Q = wP (getS e i) fun b => isOb b fun ds => wP ds[j]? fun l => isLs l fun es => wP (g [.lst es, .lst []]) fun d => Q d e := by
  unfold wE cFldZ
  cases h : getS e i with
  | none => rw [wP_none]; exact wM_none
  | some d0 =>
    rw [wP_some]
    cases d0 with
    | ob ds =>
      rw [isOb_ob]
      simp only
      cases h2 : ds[j]? with
      | none => rw [wP_none]; exact wM_none
      | some l =>
        rw [wP_some]
        cases l with
        | lst es =>
          rw [isLs_lst]
          simp only
          cases h3 : g [.lst es, .lst []] with
          | none => rw [wP_none]; exact wM_none
          | some d => rw [wP_some]; exact wM_ok
        | _ => rw [isLs_no (by intro b h; cases h)]; exact wM_none
    | _ => rw [isOb_no (by intro b h; cases h)]; exact wM_none
theorem wE_mutF {gm : List D → List D → Option (D × List D)} : wE (cMutF i j gm) e Q = wP (getS e i) fun b => isOb b fun ds => wP ds[j]? fun l => isLs l fun es => wP (gm es []) fun r => Q r.1 (e.set i (some (.ob (ds.set j (.lst r.2))))) := by
  unfold wE cMutF
  cases h : getS e i with
  | none => rw [wP_none]; exact wM_none
  | some d0 =>
    rw [wP_some]
    cases d0 with
    | ob ds =>
      rw [isOb_ob]
      simp only
      cases h2 : ds[j]? with
      | none => rw [wP_none]; exact wM_none
      | some l =>
        rw [wP_some]
        cases l with
        | lst es =>
          rw [isLs_lst]
          simp only
          cases h3 : gm es [] with
          | none => rw [wP_none]; exact wM_none
          | some r => rw [wP_some]; exact wM_ok
        | _ => rw [isLs_no (by intro b h; cases h)]; exact wM_none
    | _ => rw [isOb_no (by intro b h; cases h)]; exact wM_none
theorem wE_isO : wE (cIsO i) e Q = wP (getS e i) fun b => isOb b fun _ => Q (.bl true) e := by
  unfold wE cIsO
  cases h : getS e i with
  | none => rw [wP_none]; exact wM_none
  | some d0 =>
    rw [wP_some]
    cases d0 with
    | ob ds => rw [isOb_ob]; exact wM_ok
    | _ => rw [isOb_no (by intro b h; cases h)]; exact wM_none
@[simp] theorem wE_fldP_ : wE (cFldP i j g) (o :: e) Q = wP (getS (o :: e) i) fun b => isOb b fun ds => wP ds[j]? fun l => isLs l fun es => wP (g [.lst es]) fun d => Q d (o :: e) := wE_fldP
@[simp] theorem wE_fldZ_ : wE (cFldZ i j g) (o :: e) Q = wP (getS (o :: e) i) fun b => isOb b fun ds => wP ds[j]? fun l => isLs l fun es => wP (g [.lst es, .lst []]) fun d => Q d (o :: e) := wE_fldZ
@[simp] theorem wE_mutF_ {gm : List D → List D → Option (D × List D)} : wE (cMutF i j gm) (o :: e) Q = wP (getS (o :: e) i) fun b => isOb b fun ds => wP ds[j]? fun l => isLs l fun es => wP (gm es []) fun r => Q r.1 ((o :: e).set i (some (.ob (ds.set j (.lst r.2))))) := wE_mutF
@[simp] theorem wE_isO_ : wE (cIsO i) (o :: e) Q = wP (getS (o :: e) i) fun b => isOb b fun _ => Q (.bl true) (o :: e) := wE_isO
end
end DI
set_option Elab.async false
set_option autoImplicit false
set_option linter.all false
set_option maxRecDepth 100000
set_option maxHeartbeats 2000000
/-! DP14: repr of data with empty dicts; displays. -/
namespace DI
open PySem PySem.Spec PyProof.Rows L2
mutual
def D.sm2 : D → Prop
  | .non => True
  | .bl _ => True
  | .int i => i.natAbs < 10 ^ 100
  | .str x => ∀ c ∈ x.cps.toList, c < 16 ^ 8
  | .lst xs => D.sms2 xs
  | .tup xs => D.sms2 xs
  | .dic ks _ => ks.isEmpty = true
  | .scr _ => False
  | .sta _ => False
  | .ty _ => False
  | .gl _ => False
  | .exn _ _ _ => False
  | .ob _ => False
def D.sms2 : List D → Prop
  | [] => True
  | d :: ds => d.sm2 ∧ D.sms2 ds
end
mutual
theorem D.sm2_py : ∀ {d : D}, d.sm2 → ∃ p, d.py2 = some p ∧ p.showable = true ∧ p.depth ≤ d.dp + 1 ∧ p.shown.length ≤ 2 * d.wt + 2
  | .non, _ => ⟨.none, rfl, by unfold PyData.showable; rfl, by unfold PyData.depth; exact Nat.zero_le _, by unfold PyData.shown D.wt; decide⟩
  | .bl b, _ => ⟨.bool b, rfl, by unfold PyData.showable; rfl, by unfold PyData.depth; exact Nat.zero_le _, by unfold PyData.shown D.wt; cases b <;> decide⟩
  | .int i, h => by
    unfold D.sm2 at h
    obtain ⟨p, h1, h2, h3, h4, h5⟩ := D.sm_py (d := .int i) (by unfold D.sm; exact h)
    cases h1
    exact ⟨.int i, rfl, h2, by omega, by omega⟩
  | .str x, h => by
    unfold D.sm2 at h
    obtain ⟨p, h1, h2, h3, h4, h5⟩ := D.sm_py (d := .str x) (by unfold D.sm; exact h)
    cases h1
    exact ⟨.str x, rfl, h2, by omega, by omega⟩
  | .lst xs, h => by
    unfold D.sm2 at h
    obtain ⟨ps, h1, h2, h4, h5, h6⟩ := D.sms2_py h
    refine ⟨.list ps, by unfold D.py2; rw [h1]; rfl, by unfold PyData.showable; exact h2, by unfold PyData.depth D.dp; omega, ?_⟩
    unfold PyData.shown D.wt
    have := listText_len_le (PyData.shownAll ps)
    omega
  | .tup xs, h => by
    unfold D.sm2 at h
    obtain ⟨ps, h1, h2, h4, h5, h6⟩ := D.sms2_py h
    refine ⟨.tuple ps, by unfold D.py2; rw [h1]; rfl, by unfold PyData.showable; exact h2, by unfold PyData.depth D.dp; omega, ?_⟩
    unfold PyData.shown D.wt
    have := tupleText_len_le (PyData.shownAll ps)
    omega
  | .dic ks _, h => by
    unfold D.sm2 at h
    refine ⟨.dict [], by unfold D.py2; rw [if_pos h], by unfold PyData.showable PyData.showableKv; rfl, by unfold PyData.depth PyData.depthKv; omega, ?_⟩
    unfold PyData.shown PyData.shownKv D.wt
    decide +kernel
  | .scr _, h => by unfold D.sm2 at h; exact h.elim
  | .sta _, h => by unfold D.sm2 at h; exact h.elim
  | .ty _, h => by unfold D.sm2 at h; exact h.elim
  | .gl _, h => by unfold D.sm2 at h; exact h.elim
  | .exn _ _ _, h => by unfold D.sm2 at h; exact h.elim
  | .ob _, h => by unfold D.sm2 at h; exact h.elim
theorem D.sms2_py : ∀ {ds : List D}, D.sms2 ds → ∃ ps, D.pys2 ds = some ps ∧ PyData.showableAll ps = true ∧ PyData.depthAll ps ≤ D.dps ds + 1 ∧ (PyData.shownAll ps).length = ps.length ∧ ((PyData.shownAll ps).map (·.length)).sum + 2 * (PyData.shownAll ps).length ≤ 2 * D.wts ds
  | [], _ => ⟨[], rfl, by unfold PyData.showableAll; rfl, by unfold PyData.depthAll; exact Nat.zero_le _, by unfold PyData.shownAll; rfl, by unfold PyData.shownAll D.wts; simp⟩
  | d :: ds, h => by
    unfold D.sms2 at h
    obtain ⟨p, a1, a2, a4, a5⟩ := D.sm2_py h.1
    obtain ⟨ps, b1, b2, b4, b5, b6⟩ := D.sms2_py h.2
    refine ⟨p :: ps, by unfold D.pys2; rw [a1, b1], by unfold PyData.showableAll; rw [a2, b2]; rfl, by unfold PyData.depthAll D.dps; omega, by unfold PyData.shownAll; simp [b5], ?_⟩
    unfold PyData.shownAll D.wts
    simp only [List.map_cons, List.sum_cons, List.length_cons]
    omega
end
theorem reprE_sm {d : D} (h : d.sm2) (hs : isSeqD d = true) (hd : d.dp ≤ 59) (hw : d.wt ≤ 8000000) : ∃ x, reprOf3 d = some x := by
  unfold reprOf3
  cases reprOf d with
  | some x => exact ⟨x, rfl⟩
  | none =>
    obtain ⟨p, h1, h2, h4, h5⟩ := D.sm2_py h
    refine ⟨p.shown, ?_⟩
    show reprOf2 d = _
    unfold reprOf2
    rw [h1]
    simp only
    rw [if_pos ⟨hs, h2, by omega, by have := sizeLine_eq; omega⟩]
theorem wP_gReprE {d : D} {x : Str} {Q : D → Prop} (h : reprOf3 d = some x) : wP (gReprE [d]) Q = Q (.str x) := by
  show wP ((reprOf3 d).map D.str) Q = _
  rw [h]; exact wP_some
theorem wP_gReprE_sm {d : D} {Q : D → Prop} (h : d.sm2) (hs : isSeqD d = true) (hd : d.dp ≤ 59) (hw : d.wt ≤ 8000000) (q : ∀ x, reprOf3 d = some x → Q (.str x)) : wP (gReprE [d]) Q := by
  obtain ⟨x, hx⟩ := reprE_sm h hs hd hw
  rw [wP_gReprE hx]
  exact q x hx
@[simp] theorem wP_gDic {Q : D → Prop} : wP (gDic []) Q = Q (.dic [] []) := wP_some
@[simp] theorem wP_gDic1 {a b : Int} {Q : D → Prop} : wP (gDic1 a b []) Q = Q (.dic [.inl a] [.int b]) := wP_some
@[simp] theorem sm2_non : D.non.sm2 = True := by unfold D.sm2; rfl
@[simp] theorem sm2_bl {b : Bool} : (D.bl b).sm2 = True := by unfold D.sm2; rfl
@[simp] theorem sm2_int {i : Int} : (D.int i).sm2 = (i.natAbs < 10 ^ 100) := by unfold D.sm2; rfl
@[simp] theorem sm2_str {x : Str} : (D.str x).sm2 = (∀ c ∈ x.cps.toList, c < 16 ^ 8) := by unfold D.sm2; rfl
@[simp] theorem sm2_lst {xs : List D} : (D.lst xs).sm2 = D.sms2 xs := by unfold D.sm2; rfl
@[simp] theorem sm2_tup {xs : List D} : (D.tup xs).sm2 = D.sms2 xs := by unfold D.sm2; rfl
@[simp] theorem sm2_dic : (D.dic [] []).sm2 = True := by unfold D.sm2; simp
theorem sms2_iff {ds : List D} : D.sms2 ds ↔ ∀ d ∈ ds, d.sm2 := by
  induction ds with
  | nil => unfold D.sms2; simp
  | cons d ds ih => unfold D.sms2; rw [ih]; simp
@[simp] theorem wP_gIsi_non_int {Q : D → Prop} : wP (gIsi [.non, .ty "int"]) Q = Q (.bl false) := wP_some
@[simp] theorem wP_gIsi_non_bool {Q : D → Prop} : wP (gIsi [.non, .ty "bool"]) Q = Q (.bl false) := wP_some
@[simp] theorem wP_gIsi_non_str {Q : D → Prop} : wP (gIsi [.non, .ty "str"]) Q = Q (.bl false) := wP_some
@[simp] theorem wP_gIsi_non_list {Q : D → Prop} : wP (gIsi [.non, .ty "list"]) Q = Q (.bl false) := wP_some
@[simp] theorem wP_gIsi_non_tuple {Q : D → Prop} : wP (gIsi [.non, .ty "tuple"]) Q = Q (.bl false) := wP_some
@[simp] theorem wP_gIsi_str_int {x : Str} {Q : D → Prop} : wP (gIsi [.str x, .ty "int"]) Q = Q (.bl false) := wP_some
@[simp] theorem wP_gIsi_str_bool {x : Str} {Q : D → Prop} : wP (gIsi [.str x, .ty "bool"]) Q = Q (.bl false) := wP_some
@[simp] theorem wP_gIsi_str_str {x : Str} {Q : D → Prop} : wP (gIsi [.str x, .ty "str"]) Q = Q (.bl true) := wP_some
@[simp] theorem wP_gIsi_str_list {x : Str} {Q : D → Prop} : wP (gIsi [.str x, .ty "list"]) Q = Q (.bl false) := wP_some
@[simp] theorem wP_gIsi_str_tuple {x : Str} {Q : D → Prop} : wP (gIsi [.str x, .ty "tuple"]) Q = Q (.bl false) := wP_some
@[simp] theorem wP_gIsi_tup_int {ds : List D} {Q : D → Prop} : wP (gIsi [.tup ds, .ty "int"]) Q = Q (.bl false) := wP_some
@[simp] theorem wP_gIsi_tup_bool {ds : List D} {Q : D → Prop} : wP (gIsi [.tup ds, .ty "bool"]) Q = Q (.bl false) := wP_some
@[simp] theorem wP_gIsi_tup_str {ds : List D} {Q : D → Prop} : wP (gIsi [.tup ds, .ty "str"]) Q = Q (.bl false) := wP_some
@[simp] theorem wP_gIsi_tup_list {ds : List D} {Q : D → Prop} : wP (gIsi [.tup ds, .ty "list"]) Q = Q (.bl false) := wP_some
@[simp] theorem wP_gIsi_tup_tuple {ds : List D} {Q : D → Prop} : wP (gIsi [.tup ds, .ty "tuple"]) Q = Q (.bl true) := wP_some
@[simp] theorem wP_gIsi_dic_int {ks : List Key} {ds : List D} {Q : D → Prop} : wP (gIsi [.dic ks ds, .ty "int"]) Q = Q (.bl false) := wP_some
@[simp] theorem wP_gIsi_dic_bool {ks : List Key} {ds : List D} {Q : D → Prop} : wP (gIsi [.dic ks ds, .ty "bool"]) Q = Q (.bl false) := wP_some
@[simp] theorem wP_gIsi_dic_str {ks : List Key} {ds : List D} {Q : D → Prop} : wP (gIsi [.dic ks ds, .ty "str"]) Q = Q (.bl false) := wP_some
@[simp] theorem wP_gIsi_dic_list {ks : List Key} {ds : List D} {Q : D → Prop} : wP (gIsi [.dic ks ds, .ty "list"]) Q = Q (.bl false) := wP_some
@[simp] theorem wP_gIsi_dic_tuple {ks : List Key} {ds : List D} {Q : D → Prop} : wP (gIsi [.dic ks ds, .ty "tuple"]) Q = Q (.bl false) := wP_some
@[simp] theorem wP_gIsi_scr_int {ns : List Int} {Q : D → Prop} : wP (gIsi [.scr ns, .ty "int"]) Q = Q (.bl false) := wP_some
@[simp] theorem wP_gIsi_scr_bool {ns : List Int} {Q : D → Prop} : wP (gIsi [.scr ns, .ty "bool"]) Q = Q (.bl false) := wP_some
@[simp] theorem wP_gIsi_scr_str {ns : List Int} {Q : D → Prop} : wP (gIsi [.scr ns, .ty "str"]) Q = Q (.bl false) := wP_some
@[simp] theorem wP_gIsi_scr_list {ns : List Int} {Q : D → Prop} : wP (gIsi [.scr ns, .ty "list"]) Q = Q (.bl true) := wP_some
@[simp] theorem wP_gIsi_scr_tuple {ns : List Int} {Q : D → Prop} : wP (gIsi [.scr ns, .ty "tuple"]) Q = Q (.bl false) := wP_some
@[simp] theorem wP_gIsi_bl_int {x : Bool} {Q : D → Prop} : wP (gIsi [.bl x, .ty "int"]) Q = Q (.bl true) := wP_some
@[simp] theorem wP_gIsi_bl_bool {x : Bool} {Q : D → Prop} : wP (gIsi [.bl x, .ty "bool"]) Q = Q (.bl true) := wP_some
@[simp] theorem wP_gIsi_bl_str {x : Bool} {Q : D → Prop} : wP (gIsi [.bl x, .ty "str"]) Q = Q (.bl false) := wP_some
@[simp] theorem wP_gIsi_bl_list {x : Bool} {Q : D → Prop} : wP (gIsi [.bl x, .ty "list"]) Q = Q (.bl false) := wP_some
@[simp] theorem wP_gIsi_bl_tuple {x : Bool} {Q : D → Prop} : wP (gIsi [.bl x, .ty "tuple"]) Q = Q (.bl false) := wP_some
@[simp] theorem wP_gIsi_int_int {a : Int} {Q : D → Prop} : wP (gIsi [.int a, .ty "int"]) Q = Q (.bl true) := wP_some
@[simp] theorem wP_gIsi_int_bool {a : Int} {Q : D → Prop} : wP (gIsi [.int a, .ty "bool"]) Q = Q (.bl false) := wP_some
@[simp] theorem wP_gIsi_int_str {a : Int} {Q : D → Prop} : wP (gIsi [.int a, .ty "str"]) Q = Q (.bl false) := wP_some
@[simp] theorem wP_gIsi_int_list {a : Int} {Q : D → Prop} : wP (gIsi [.int a, .ty "list"]) Q = Q (.bl false) := wP_some
@[simp] theorem wP_gIsi_int_tuple {a : Int} {Q : D → Prop} : wP (gIsi [.int a, .ty "tuple"]) Q = Q (.bl false) := wP_some
@[simp] theorem wP_gIsi_lst_int {ds : List D} {Q : D → Prop} : wP (gIsi [.lst ds, .ty "int"]) Q = Q (.bl false) := wP_some
@[simp] theorem wP_gIsi_lst_bool {ds : List D} {Q : D → Prop} : wP (gIsi [.lst ds, .ty "bool"]) Q = Q (.bl false) := wP_some
@[simp] theorem wP_gIsi_lst_str {ds : List D} {Q : D → Prop} : wP (gIsi [.lst ds, .ty "str"]) Q = Q (.bl false) := wP_some
@[simp] theorem wP_gIsi_lst_list {ds : List D} {Q : D → Prop} : wP (gIsi [.lst ds, .ty "list"]) Q = Q (.bl true) := wP_some
@[simp] theorem wP_gIsi_lst_tuple {ds : List D} {Q : D → Prop} : wP (gIsi [.lst ds, .ty "tuple"]) Q = Q (.bl false) := wP_some
end DI
set_option Elab.async false
set_option autoImplicit false
set_option linter.all false
set_option maxRecDepth 100000
set_option maxHeartbeats 2000000
/-! DP15: isinstance of exceptions. -/
namespace DI
open PySem PySem.Spec PyProof.Rows L2
theorem wP_gIsE {cs yes : List Str} {c : Str} {ns : List Str} {ds : List D} {Q : D → Prop} (h : cs.contains c = true) : wP (gIsE cs yes [.exn c ns ds]) Q = Q (.bl (yes.contains c)) := by
  unfold gIsE
  simp only [h, if_true]
  exact wP_some
section
variable {c : Str} {ns : List Str} {ds : List D} {Q : D → Prop}
@[simp] theorem wP_gIsEN : wP (gIs [.exn c ns ds, .non]) Q = Q (.bl false) := wP_some
@[simp] theorem wP_gIsNotEN : wP (gIsNot [.exn c ns ds, .non]) Q = Q (.bl true) := wP_some
end
end DI
set_option Elab.async false
set_option autoImplicit false
set_option linter.all false
set_option maxRecDepth 100000
set_option maxHeartbeats 2000000
/-! DP16: a call of one of several defs. -/
namespace DI
open PySem PySem.Spec PyProof.Rows L2
section
variable {tab : List (Str × FnD)} {ff : CE} {kinds : List AK} {ro : Md} {perm : List Nat} {os : List Opd} {e : Env} {Q : D → Env → Prop} {E : Exn → Env → Prop}
/-- the def is found, then called -/
theorem wX_callL {n : Str} {F : FnD} {e1 : Env} (hf : ff e = some (.ok (.gl n), e1)) (ht : tab.lookup n = some F) (h : wX (cCall F kinds ro perm [] os e1) Q E) : wX (cCallL tab ff kinds ro perm os e) Q E := by
  unfold cCallL
  rw [hf]
  show wX (match tab.lookup n with
    | some F => cCall F kinds ro perm [] os e1
    | none => none) Q E
  rw [ht]
  exact h
end
end DI
set_option Elab.async false
set_option autoImplicit false
set_option linter.all false
set_option maxRecDepth 100000
set_option maxHeartbeats 8000000
namespace LM
open PySem PySem.Spec PyProof.Rows L2 DI
/-! _law_numbers(script, k); slots: 0 script 1 k 2 cell -/
noncomputable def m__law_numbers : CS :=
  (cSeq (cAsg 2 (cIf (cTest (cPrim gLt [.tm (cVar 1), .tm (cPrim gLen [.tm (cVar 0)])])) (cPrim gIx [.tm (cVar 0), .tm (cVar 1)]) (cK (.int 0))))
  (cRet (cPrim gLst [.tm (cPrim gMax2 [.tm (cK (.int 0)), .tm (cPrim gSub [.tm (cPrim gAbs [.tm (cVar 2)]), .tm (cPrim gPow [.tm (cK (.int 10)), .tm (cK (.int 18))])])]), .tm (cPrim gMod [.tm (cPrim gAdd [.tm (cPrim gAdd [.tm (cPrim gMul [.tm (cVar 2), .tm (cK (.int 89))]), .tm (cPrim gMul [.tm (cK (.int 23)), .tm (cVar 1)])]), .tm (cK (.int 7))]), .tm (cPrim gAdd [.tm (cPrim gPow [.tm (cK (.int 10)), .tm (cK (.int 39))]), .tm (cK (.int 3))])]), .tm (cK (.int 0))])))
noncomputable def F__law_numbers : FnD := runF 3 [.sh, .sh] m__law_numbers
/-! _law_pick(numbers, bound); slots: 0 numbers 1 bound 2 digit 3 mixed -/
noncomputable def m__law_pick : CS :=
  (cSeq (cIfS (cTest (cPrim gGt [.tm (cPrim gIx [.vr 0, .tm (cK (.int 0))]), .tm (cK (.int 0))]))
    (cSeq (cAsg 2 (cPrim gMod [.tm (cPrim gIx [.vr 0, .tm (cK (.int 0))]), .tm (cVar 1)]))
    (cSeq (cSetI 0 (cPrim gFdiv [.tm (cPrim gIx [.vr 0, .tm (cK (.int 0))]), .tm (cVar 1)]) (cK (.int 0)))
    (cRet (cVar 2))))
    cSkip)
  (cSeq (cSetI 0 (cPrim gAdd [.tm (cPrim gIx [.vr 0, .tm (cK (.int 2))]), .tm (cK (.int 1))]) (cK (.int 2)))
  (cSeq (cAsg 3 (cPrim gMod [.tm (cPrim gPow [.tm (cPrim gAdd [.tm (cPrim gIx [.vr 0, .tm (cK (.int 1))]), .tm (cPrim gMul [.tm (cK (.int 179424673)), .tm (cPrim gIx [.vr 0, .tm (cK (.int 2))])])]), .tm (cK (.int 3))]), .tm (cPrim gAdd [.tm (cPrim gPow [.tm (cK (.int 10)), .tm (cK (.int 40))]), .tm (cK (.int 121))])]))
  (cSeq (cAsg 3 (cPrim gMod [.tm (cPrim gPow [.tm (cPrim gAdd [.tm (cVar 3), .tm (cPrim gMul [.tm (cK (.int 32452843)), .tm (cPrim gIx [.vr 0, .tm (cK (.int 2))])])]), .tm (cK (.int 2))]), .tm (cPrim gAdd [.tm (cPrim gPow [.tm (cK (.int 10)), .tm (cK (.int 41))]), .tm (cK (.int 37))])]))
  (cRet (cPrim gMod [.tm (cPrim gFdiv [.tm (cVar 3), .tm (cPrim gPow [.tm (cK (.int 10)), .tm (cK (.int 5))])]), .tm (cVar 1)]))))))
noncomputable def F__law_pick : FnD := runF 4 [.pr, .sh] m__law_pick
/-! _law_plan(numbers, most, wide); slots: 0 numbers 1 most 2 wide 3 found 4 turn 5 near 6 made -/
noncomputable def m__law_plan : CS :=
  (cSeq (cAsg 3 (cPrim gLst []))
  (cSeq (cFor (cIt giR1 [.tm (cCall LM.F__law_pick [.ln 0, .sh] .sh [0, 1] [] [.vr 0, .tm (cPrim gAdd [.tm (cVar 1), .tm (cK (.int 1))])])]) (.nm 4)
    (cSeq (cAsg 5 (cIf (cTest (cPrim gNe [.tm (cVar 3), .tm (cPrim gLst [])])) (cPrim gIx [.tm (cVar 3), .tm (cK (.int 0))]) (cPrim gAdd [.tm (cK (.int 2)), .tm (cCall LM.F__law_pick [.ln 0, .sh] .sh [0, 1] [] [.vr 0, .tm (cK (.int 6))])])))
    (cSeq (cAsg 6 (cPrim gLst [.tm (cPrim gAdd [.tm (cK (.int 1)), .tm (cCall LM.F__law_pick [.ln 0, .sh] .sh [0, 1] [] [.vr 0, .tm (cVar 2)])]), .tm (cPrim gMul [.tm (cVar 5), .tm (cPrim gAdd [.tm (cK (.int 1)), .tm (cCall LM.F__law_pick [.ln 0, .sh] .sh [0, 1] [] [.vr 0, .tm (cK (.int 3))])])])]))
    (cSeq (cSetI 6 (cPrim gAdd [.tm (cPrim gIx [.vr 6, .tm (cK (.int 1))]), .tm (cCall LM.F__law_pick [.ln 0, .sh] .sh [0, 1] [] [.vr 0, .tm (cPrim gAdd [.tm (cVar 5), .tm (cK (.int 1))])])]) (cK (.int 1)))
    (cSeq (cAsg 6 (cPrim gAdd [.vr 6, .tm (cPrim gLst [.tm (cPrim gAdd [.tm (cPrim gAdd [.tm (cVar 5), .tm (cPrim gSum [.tm (cPrim gSl11 [.tm (cVar 3), .tm (cInt (cK (.int 1))), .tm (cK (.int 2))])])]), .tm (cCall LM.F__law_pick [.ln 0, .sh] .sh [0, 1] [] [.vr 0, .tm (cK (.int 2))])]), .tm (cVar 5)])]))
    (cAsg 3 (cPrim gAdd [.tm (cPrim gLst [.tm (cPrim gMax2 [.tm (cK (.int 1)), .tm (cPrim gMin2 [.tm (cVar 2), .tm (cPrim gIx [.vr 6, .tm (cPrim gMod [.tm (cCall LM.F__law_pick [.ln 0, .sh] .sh [0, 1] [] [.vr 0, .tm (cK (.int 7))]), .tm (cK (.int 4))])])])])]), .tm (cVar 3)])))))))
  (cRet (cVar 3))))
noncomputable def F__law_plan : FnD := runF 7 [.pr, .sh, .sh] m__law_plan
/-! is_integer(value, low, high); slots: 0 value 1 low 2 high -/
noncomputable def m_is_integer : CS :=
  (cRet (cAndV (cPrim gIsi [.tm (cVar 0), .tm (cK (.ty "int"))]) (cAndV (cNotV (cPrim gIsi [.tm (cVar 0), .tm (cK (.ty "bool"))])) (cChain gLe gLe (cVar 1) (cVar 0) (cVar 2)))))
noncomputable def F_is_integer : FnD := runF 3 [.sh, .sh, .sh] m_is_integer
/-! is_width(value); slots: 0 value -/
noncomputable def m_is_width : CS :=
  (cRet (cCall LM.F_is_integer [.sh, .sh, .sh] .sh [0, 1, 2] [] [.tm (cVar 0), .tm (cK (.int 1)), .tm (cK (.int 10000))]))
noncomputable def F_is_width : FnD := runF 1 [.sh] m_is_width
/-! is_widths(value); slots: 0 value 1 width -/
noncomputable def m_is_widths : CS :=
  (cRet (cAndV (cPrim gIsi [.tm (cVar 0), .tm (cK (.ty "list"))]) (cPrim gAll [.tm (cLc (cIt giL [.tm (cVar 0)]) (.nm 1) cYes (cCall LM.F_is_width [.sh] .sh [0] [] [.tm (cVar 1)]) [1])])))
noncomputable def F_is_widths : FnD := runF 2 [.sh] m_is_widths
/-! require_widths(widths); slots: 0 widths -/
noncomputable def m_require_widths : CS :=
  (cIfS (cNot (cTest (cCall LM.F_is_widths [.sh] .sh [0] [] [.tm (cVar 0)])))
    cStuck
    cSkip)
noncomputable def F_require_widths : FnD := runF 1 [.sh] m_require_widths
/-! require_position(position); slots: 0 position -/
noncomputable def m_require_position : CS :=
  (cIfS (cNot (cTest (cCall LM.F_is_integer [.sh, .sh, .sh] .sh [0, 1, 2] [] [.tm (cVar 0), .tm (cK (.int 0)), .tm (cK (.int 1000000000000000000000000000000))])))
    cStuck
    cSkip)
noncomputable def F_require_position : FnD := runF 1 [.sh] m_require_position
/-! column_of(widths, position); slots: 0 widths 1 position 2 width -/
noncomputable def m_column_of : CS :=
  (cSeq (cFor (cIt giL [.tm (cVar 0)]) (.nm 2)
    (cAug 1 gModI (cVar 2)))
  (cRet (cVar 1)))
noncomputable def F_column_of : FnD := runF 3 [.sh, .sh] m_column_of
/-! column(widths, position); slots: 0 widths 1 position -/
noncomputable def m_column : CS :=
  (cSeq (cDrop (cCall LM.F_require_widths [.sh] .sh [0] [] [.tm (cVar 0)]))
  (cSeq (cDrop (cCall LM.F_require_position [.sh] .sh [0] [] [.tm (cVar 1)]))
  (cRet (cCall LM.F_column_of [.sh, .sh] .sh [0, 1] [] [.tm (cVar 0), .tm (cVar 1)]))))
noncomputable def F_column : FnD := runF 2 [.sh, .sh] m_column
/-! is_break(widths, position); slots: 0 widths 1 position -/
noncomputable def m_is_break : CS :=
  (cRet (cPrim gEq [.tm (cCall LM.F_column [.sh, .sh] .sh [0, 1] [] [.tm (cVar 0), .tm (cVar 1)]), .tm (cK (.int 0))]))
noncomputable def F_is_break : FnD := runF 2 [.sh, .sh] m_is_break
/-! last_break(widths, position); slots: 0 widths 1 position -/
noncomputable def m_last_break : CS :=
  (cRet (cPrim gSub [.tm (cVar 1), .tm (cCall LM.F_column [.sh, .sh] .sh [0, 1] [] [.tm (cVar 0), .tm (cVar 1)])]))
noncomputable def F_last_break : FnD := runF 2 [.sh, .sh] m_last_break
/-! require_length(length, least, greatest); slots: 0 length 1 least 2 greatest -/
noncomputable def m_require_length : CS :=
  (cIfS (cNot (cTest (cCall LM.F_is_integer [.sh, .sh, .sh] .sh [0, 1, 2] [] [.tm (cVar 0), .tm (cVar 1), .tm (cVar 2)])))
    cStuck
    cSkip)
noncomputable def F_require_length : FnD := runF 3 [.sh, .sh, .sh] m_require_length
/-! columns(widths, length); slots: 0 widths 1 length 2 position -/
noncomputable def m_columns : CS :=
  (cSeq (cDrop (cCall LM.F_require_widths [.sh] .sh [0] [] [.tm (cVar 0)]))
  (cSeq (cDrop (cCall LM.F_require_length [.sh, .sh, .sh] .sh [0, 1, 2] [.int 0, .int 1000000000000000000000000000000] [.tm (cVar 1), .tm (cK (.int 0)), .tm (cK (.int 1000))]))
  (cRet (cLc (cIt giR1 [.tm (cVar 1)]) (.nm 2) cYes (cCall LM.F_column_of [.sh, .sh] .sh [0, 1] [] [.tm (cVar 0), .tm (cVar 2)]) [2]))))
noncomputable def F_columns : FnD := runF 3 [.sh, .sh] m_columns
/-! effective_of(widths); slots: 0 widths 1 found 2 width -/
noncomputable def m_effective_of : CS :=
  (cSeq (cAsg 1 (cPrim gLst []))
  (cSeq (cFor (cIt giL [.tm (cVar 0)]) (.nm 2)
    (cIfS (cOr (cTest (cPrim gEq [.vr 1, .tm (cPrim gLst [])])) (cTest (cPrim gLt [.tm (cVar 2), .tm (cPrim gIx [.vr 1, .tm (cPrim gNeg [.tm (cK (.int 1))])])])))
      (cDrop (cMut 1 mApp [.tm (cVar 2)]))
      cSkip))
  (cRet (cVar 1))))
noncomputable def F_effective_of : FnD := runF 3 [.sh] m_effective_of
/-! effective(widths); slots: 0 widths -/
noncomputable def m_effective : CS :=
  (cSeq (cDrop (cCall LM.F_require_widths [.sh] .sh [0] [] [.tm (cVar 0)]))
  (cRet (cCall LM.F_effective_of [.sh] .sh [0] [] [.tm (cVar 0)])))
noncomputable def F_effective : FnD := runF 1 [.sh] m_effective
/-! count_with(widths, totals, length, size); slots: 0 widths 1 totals 2 length 3 size 4 found 5 width 6 total 7 blocks -/
noncomputable def m_count_with : CS :=
  (cSeq (cAsg 4 (cK (.int 0)))
  (cSeq (cFor (cIt giZ [.tm (cVar 0), .tm (cVar 1)]) (.tp [5, 6])
    (cSeq (cUnp (.tp [7, 2]) (cPrim gDivmod [.tm (cVar 2), .tm (cVar 5)]))
    (cAug 4 gAddI (cPrim gMul [.tm (cVar 7), .tm (cVar 6)]))))
  (cRet (cPrim gAdd [.tm (cVar 4), .tm (cPrim gInt [.tm (cAndV (cPrim gGt [.tm (cVar 2), .tm (cK (.int 0))]) (cOrV (cPrim gIs [.tm (cVar 3), .tm (cK .non)]) (cPrim gEq [.tm (cVar 2), .tm (cVar 3)])))])]))))
noncomputable def F_count_with : FnD := runF 8 [.sh, .sh, .sh, .sh] m_count_with
/-! block_totals(widths, size); slots: 0 widths 1 size 2 totals 3 index -/
noncomputable def m_block_totals : CS :=
  (cSeq (cAsg 2 (cPrim gLst []))
  (cSeq (cFor (cIt giRm [.tm (cPrim gSub [.tm (cPrim gLen [.tm (cVar 0)]), .tm (cK (.int 1))]), .tm (cPrim gNeg [.tm (cK (.int 1))]), .tm (cPrim gNeg [.tm (cK (.int 1))])]) (.nm 3)
    (cDrop (cMut 2 mIns [.tm (cK (.int 0)), .tm (cCall LM.F_count_with [.sh, .bo 2, .sh, .sh] .sh [0, 1, 2, 3] [] [.tm (cPrim gSl10 [.tm (cVar 0), .tm (cPrim gAdd [.tm (cVar 3), .tm (cK (.int 1))])]), .vr 2, .tm (cPrim gIx [.tm (cVar 0), .tm (cVar 3)]), .tm (cVar 1)])])))
  (cRet (cVar 2))))
noncomputable def F_block_totals : FnD := runF 4 [.sh, .sh] m_block_totals
/-! breaks_below(widths, length); slots: 0 widths 1 length -/
noncomputable def m_breaks_below : CS :=
  (cRet (cCall LM.F_count_with [.sh, .sh, .sh, .sh] .sh [0, 1, 2, 3] [] [.tm (cVar 0), .tm (cCall LM.F_block_totals [.sh, .sh] .sh [0, 1] [.non] [.tm (cVar 0)]), .tm (cVar 1), .tm (cK .non)]))
noncomputable def F_breaks_below : FnD := runF 2 [.sh, .sh] m_breaks_below
/-! count_pieces(widths, length); slots: 0 widths 1 length -/
noncomputable def m_count_pieces : CS :=
  (cSeq (cDrop (cCall LM.F_require_widths [.sh] .sh [0] [] [.tm (cVar 0)]))
  (cSeq (cDrop (cCall LM.F_require_length [.sh, .sh, .sh] .sh [0, 1, 2] [.int 0, .int 1000000000000000000000000000000] [.tm (cVar 1)]))
  (cRet (cCall LM.F_breaks_below [.sh, .sh] .sh [0, 1] [] [.tm (cCall LM.F_effective_of [.sh] .sh [0] [] [.tm (cVar 0)]), .tm (cVar 1)]))))
noncomputable def F_count_pieces : FnD := runF 2 [.sh, .sh] m_count_pieces
/-! _law_wrapped(plan, span); slots: 0 plan 1 span 2 found 3 most 4 shorter 5 part 6 full 7 rest -/
noncomputable def m__law_wrapped : CS :=
  (cSeq (cAsg 2 (cPrim gMul [.tm (cPrim gLst [.tm (cVar 1)]), .tm (cPrim gInt [.tm (cPrim gGt [.tm (cVar 1), .tm (cK (.int 0))])])]))
  (cSeq (cFor (cIt giL [.tm (cVar 0)]) (.nm 3)
    (cSeq (cAsg 4 (cPrim gLst []))
    (cSeq (cFor (cIt giL [.tm (cVar 2)]) (.nm 5)
      (cSeq (cUnp (.tp [6, 7]) (cPrim gDivmod [.tm (cPrim gSub [.tm (cVar 5), .tm (cK (.int 1))]), .tm (cVar 3)]))
      (cAsg 4 (cPrim gAdd [.tm (cPrim gAdd [.tm (cVar 4), .tm (cPrim gMul [.tm (cPrim gLst [.tm (cVar 3)]), .tm (cVar 6)])]), .tm (cPrim gLst [.tm (cPrim gAdd [.tm (cVar 7), .tm (cK (.int 1))])])]))))
    (cAsg 2 (cVar 4)))))
  (cRet (cVar 2))))
noncomputable def F__law_wrapped : FnD := runF 8 [.sh, .sh] m__law_wrapped
/-! break_at(widths, index); slots: 0 widths 1 index 2 position 3 width 4 total 5 blocks -/
noncomputable def m_break_at : CS :=
  (cSeq (cAsg 2 (cK (.int 0)))
  (cSeq (cFor (cIt giZ [.tm (cVar 0), .tm (cCall LM.F_block_totals [.sh, .sh] .sh [0, 1] [.non] [.tm (cVar 0)])]) (.tp [3, 4])
    (cSeq (cUnp (.tp [5, 1]) (cPrim gDivmod [.tm (cVar 1), .tm (cVar 4)]))
    (cAug 2 gAddI (cPrim gMul [.tm (cVar 5), .tm (cVar 3)]))))
  (cRet (cVar 2))))
noncomputable def F_break_at : FnD := runF 6 [.sh, .sh] m_break_at
/-! nth_break(widths, index); slots: 0 widths 1 index -/
noncomputable def m_nth_break : CS :=
  (cSeq (cDrop (cCall LM.F_require_widths [.sh] .sh [0] [] [.tm (cVar 0)]))
  (cSeq (cIfS (cOr (cNot (cTest (cCall LM.F_is_integer [.sh, .sh, .sh] .sh [0, 1, 2] [] [.tm (cVar 1), .tm (cK (.int 0)), .tm (cK (.int 1000000000000000000000000000000))]))) (cAnd (cTest (cPrim gEq [.tm (cVar 0), .tm (cPrim gLst [])])) (cTest (cPrim gGt [.tm (cVar 1), .tm (cK (.int 0))]))))
    cStuck
    cSkip)
  (cRet (cCall LM.F_break_at [.sh, .sh] .sh [0, 1] [] [.tm (cCall LM.F_effective_of [.sh] .sh [0] [] [.tm (cVar 0)]), .tm (cVar 1)]))))
noncomputable def F_nth_break : FnD := runF 2 [.sh, .sh] m_nth_break
/-! sizes_of(widths, length); slots: 0 widths 1 length 2 breaks 3 index 4 begin 5 end -/
noncomputable def m_sizes_of : CS :=
  (cSeq (cAsg 2 (cLc (cIt giR1 [.tm (cCall LM.F_breaks_below [.sh, .sh] .sh [0, 1] [] [.tm (cVar 0), .tm (cVar 1)])]) (.nm 3) cYes (cCall LM.F_break_at [.sh, .sh] .sh [0, 1] [] [.tm (cVar 0), .tm (cVar 3)]) [3]))
  (cRet (cLc (cIt giZ [.tm (cVar 2), .tm (cPrim gAdd [.tm (cPrim gSl10 [.tm (cVar 2), .tm (cK (.int 1))]), .tm (cPrim gLst [.tm (cVar 1)])])]) (.tp [4, 5]) cYes (cPrim gSub [.tm (cVar 5), .tm (cVar 4)]) [4, 5])))
noncomputable def F_sizes_of : FnD := runF 6 [.sh, .sh] m_sizes_of
/-! piece_sizes(widths, length); slots: 0 widths 1 length 2 own 3 count -/
noncomputable def m_piece_sizes : CS :=
  (cSeq (cDrop (cCall LM.F_require_widths [.sh] .sh [0] [] [.tm (cVar 0)]))
  (cSeq (cDrop (cCall LM.F_require_length [.sh, .sh, .sh] .sh [0, 1, 2] [.int 0, .int 1000000000000000000000000000000] [.tm (cVar 1)]))
  (cSeq (cAsg 2 (cCall LM.F_effective_of [.sh] .sh [0] [] [.tm (cVar 0)]))
  (cSeq (cAsg 3 (cCall LM.F_breaks_below [.sh, .sh] .sh [0, 1] [] [.tm (cVar 2), .tm (cVar 1)]))
  (cSeq (cIfS (cTest (cPrim gGt [.tm (cVar 3), .tm (cK (.int 400))]))
    cStuck
    cSkip)
  (cRet (cCall LM.F_sizes_of [.sh, .sh] .sh [0, 1] [] [.tm (cVar 2), .tm (cVar 1)])))))))
noncomputable def F_piece_sizes : FnD := runF 4 [.sh, .sh] m_piece_sizes
/-! effective(widths); slots: 0 widths -/
noncomputable def m_effective_v2 : CS :=
  (cSeq (cDrop (cCall LM.F_require_widths [.sh] .sh [0] [] [.tm (cVar 0)]))
  (cRet (cCall LM.F_effective_of [.sh] .ow [0] [] [.tm (cVar 0)])))
noncomputable def F_effective_v2 : FnD := runF 1 [.sh] m_effective_v2
/-! _law_same(found, due); slots: 0 found 1 due 2 one 3 two -/
noncomputable def m__law_same (F : FnD) : CS :=
  (cSeq (cIfS (cOr (cTest (cPrim gIsi [.tm (cVar 1), .tm (cK (.ty "list"))])) (cTest (cPrim gIsi [.tm (cVar 1), .tm (cK (.ty "tuple"))])))
    (cSeq (cIfS (cOr (cTest (cPrim gNe [.tm (cPrim gIsi [.tm (cVar 0), .tm (cK (.ty "list"))]), .tm (cPrim gIsi [.tm (cVar 1), .tm (cK (.ty "list"))])])) (cTest (cPrim gNe [.tm (cPrim gIsi [.tm (cVar 0), .tm (cK (.ty "tuple"))]), .tm (cPrim gIsi [.tm (cVar 1), .tm (cK (.ty "tuple"))])])))
      (cRet (cK (.bl false)))
      cSkip)
    (cRet (cAndV (cPrim gEq [.tm (cPrim gLen [.tm (cVar 0)]), .tm (cPrim gLen [.tm (cVar 1)])]) (cPrim gAll [.tm (cLc (cIt giZ [.tm (cVar 0), .tm (cVar 1)]) (.tp [2, 3]) cYes (cCall F [.sh, .sh] .sh [0, 1] [] [.tm (cVar 2), .tm (cVar 3)]) [2, 3])]))))
    cSkip)
  (cSeq (cIfS (cOr (cTest (cPrim gIs [.tm (cVar 1), .tm (cK .non)])) (cTest (cPrim gIs [.tm (cVar 0), .tm (cK .non)])))
    (cRet (cAndV (cPrim gIs [.tm (cVar 1), .tm (cK .non)]) (cPrim gIs [.tm (cVar 0), .tm (cK .non)])))
    cSkip)
  (cSeq (cIfS (cOr (cTest (cPrim gNe [.tm (cPrim gIsi [.tm (cVar 1), .tm (cK (.ty "bool"))]), .tm (cPrim gIsi [.tm (cVar 0), .tm (cK (.ty "bool"))])])) (cTest (cPrim gNe [.tm (cPrim gIsi [.tm (cVar 1), .tm (cK (.ty "str"))]), .tm (cPrim gIsi [.tm (cVar 0), .tm (cK (.ty "str"))])])))
    (cRet (cK (.bl false)))
    cSkip)
  (cRet (cPrim gEq [.tm (cVar 0), .tm (cVar 1)])))))
noncomputable def F__law_same : Nat → FnD
  | 0 => fun _ => none
  | n + 1 => runF 4 [.sh, .sh] (m__law_same (F__law_same n))
/-! border_lengths(values); slots: 0 values 1 found 2 end 3 border -/
noncomputable def m_border_lengths : CS :=
  (cSeq (cAsg 1 (cPrim gLst [.tm (cK (.int 0)), .tm (cK (.int 0))]))
  (cSeq (cFor (cIt giR2 [.tm (cK (.int 1)), .tm (cPrim gLen [.tm (cVar 0)])]) (.nm 2)
    (cSeq (cAsg 3 (cPrim gIx [.vr 1, .tm (cVar 2)]))
    (cSeq (whileD (cAnd (cTest (cPrim gGt [.tm (cVar 3), .tm (cK (.int 0))])) (cTest (cPrim gNe [.tm (cPrim gIx [.tm (cVar 0), .tm (cVar 3)]), .tm (cPrim gIx [.tm (cVar 0), .tm (cVar 2)])])))
      (cAsg 3 (cPrim gIx [.vr 1, .tm (cVar 3)])) (10 ^ 80))
    (cDrop (cMut 1 mApp [.tm (cPrim gAdd [.tm (cVar 3), .tm (cPrim gInt [.tm (cPrim gEq [.tm (cPrim gIx [.tm (cVar 0), .tm (cVar 3)]), .tm (cPrim gIx [.tm (cVar 0), .tm (cVar 2)])])])])])))))
  (cRet (cPrim gSl01 [.vr 1, .tm (cPrim gAdd [.tm (cPrim gLen [.tm (cVar 0)]), .tm (cK (.int 1))])]))))
noncomputable def F_border_lengths : FnD := runF 4 [.sh] m_border_lengths
/-! least_period_of(values); slots: 0 values -/
noncomputable def m_least_period_of : CS :=
  (cRet (cPrim gSub [.tm (cPrim gLen [.tm (cVar 0)]), .tm (cPrim gIx [.tm (cCall LM.F_border_lengths [.sh] .sh [0] [] [.tm (cVar 0)]), .tm (cPrim gNeg [.tm (cK (.int 1))])])]))
noncomputable def F_least_period_of : FnD := runF 1 [.sh] m_least_period_of
/-! first_columns(widths, length); slots: 0 widths 1 length 2 position -/
noncomputable def m_first_columns : CS :=
  (cRet (cLc (cIt giR1 [.tm (cVar 1)]) (.nm 2) cYes (cCall LM.F_column_of [.sh, .sh] .sh [0, 1] [] [.tm (cVar 0), .tm (cVar 2)]) [2]))
noncomputable def F_first_columns : FnD := runF 3 [.sh, .sh] m_first_columns
/-! whole_period(widths); slots: 0 widths 1 least -/
noncomputable def m_whole_period : CS :=
  (cSeq (cIfS (cTest (cPrim gEq [.tm (cVar 0), .tm (cPrim gLst [])]))
    (cRet (cK .non))
    cSkip)
  (cSeq (cAsg 1 (cCall LM.F_least_period_of [.sh] .sh [0] [] [.tm (cCall LM.F_first_columns [.sh, .sh] .sh [0, 1] [] [.tm (cVar 0), .tm (cPrim gIx [.tm (cVar 0), .tm (cK (.int 0))])])]))
  (cRet (cIf (cTest (cPrim gEq [.tm (cPrim gMod [.tm (cPrim gIx [.tm (cVar 0), .tm (cK (.int 0))]), .tm (cVar 1)]), .tm (cK (.int 0))])) (cVar 1) (cPrim gIx [.tm (cVar 0), .tm (cK (.int 0))])))))
noncomputable def F_whole_period : FnD := runF 2 [.sh] m_whole_period
/-! least_period(widths); slots: 0 widths -/
noncomputable def m_least_period : CS :=
  (cSeq (cDrop (cCall LM.F_require_widths [.sh] .sh [0] [] [.tm (cVar 0)]))
  (cRet (cCall LM.F_whole_period [.sh] .sh [0] [] [.tm (cCall LM.F_effective_of [.sh] .sh [0] [] [.tm (cVar 0)])])))
noncomputable def F_least_period : FnD := runF 1 [.sh] m_least_period
/-! overlap_of(widths, shift); slots: 0 widths 1 shift 2 whole 3 step -/
noncomputable def m_overlap_of : CS :=
  (cSeq (cAsg 2 (cCall LM.F_whole_period [.sh] .sh [0] [] [.tm (cVar 0)]))
  (cSeq (cIfS (cTest (cPrim gIs [.tm (cVar 2), .tm (cK .non)]))
    (cRet (cIf (cTest (cPrim gEq [.tm (cVar 1), .tm (cK (.int 0))])) (cK .non) (cK (.int 0))))
    cSkip)
  (cSeq (cFor (cIt giR1 [.tm (cVar 2)]) (.nm 3)
    (cIfS (cTest (cPrim gNe [.tm (cCall LM.F_column_of [.sh, .sh] .sh [0, 1] [] [.tm (cVar 0), .tm (cPrim gAdd [.tm (cVar 1), .tm (cVar 3)])]), .tm (cCall LM.F_column_of [.sh, .sh] .sh [0, 1] [] [.tm (cVar 0), .tm (cVar 3)])]))
      (cRet (cVar 3))
      cSkip))
  (cRet (cK .non)))))
noncomputable def F_overlap_of : FnD := runF 4 [.sh, .sh] m_overlap_of
/-! has_period(widths, length, period); slots: 0 widths 1 length 2 period 3 found -/
noncomputable def m_has_period : CS :=
  (cSeq (cDrop (cCall LM.F_require_widths [.sh] .sh [0] [] [.tm (cVar 0)]))
  (cSeq (cDrop (cCall LM.F_require_length [.sh, .sh, .sh] .sh [0, 1, 2] [.int 0, .int 1000000000000000000000000000000] [.tm (cVar 1)]))
  (cSeq (cIfS (cNot (cTest (cCall LM.F_is_integer [.sh, .sh, .sh] .sh [0, 1, 2] [] [.tm (cVar 2), .tm (cK (.int 1)), .tm (cK (.int 1000000000000000000000000000000))])))
    cStuck
    cSkip)
  (cSeq (cAsg 3 (cCall LM.F_overlap_of [.sh, .sh] .sh [0, 1] [] [.tm (cCall LM.F_effective_of [.sh] .sh [0] [] [.tm (cVar 0)]), .tm (cVar 2)]))
  (cRet (cOrV (cPrim gIs [.tm (cVar 3), .tm (cK .non)]) (cPrim gGe [.tm (cPrim gAdd [.tm (cVar 2), .tm (cVar 3)]), .tm (cVar 1)])))))))
noncomputable def F_has_period : FnD := runF 4 [.sh, .sh, .sh] m_has_period
/-! _law_divisor(one, two); slots: 0 one 1 two -/
noncomputable def m__law_divisor : CS :=
  (cSeq (whileD (cTest (cPrim gGt [.tm (cVar 1), .tm (cK (.int 0))]))
    (cPar 0 1 (cVar 1) (cPrim gMod [.tm (cVar 0), .tm (cVar 1)])) (10 ^ 80))
  (cRet (cVar 0)))
noncomputable def F__law_divisor : FnD := runF 2 [.sh, .sh] m__law_divisor
/-! overlap(widths, shift); slots: 0 widths 1 shift -/
noncomputable def m_overlap : CS :=
  (cSeq (cDrop (cCall LM.F_require_widths [.sh] .sh [0] [] [.tm (cVar 0)]))
  (cSeq (cDrop (cCall LM.F_require_position [.sh] .sh [0] [] [.tm (cVar 1)]))
  (cRet (cCall LM.F_overlap_of [.sh, .sh] .sh [0, 1] [] [.tm (cCall LM.F_effective_of [.sh] .sh [0] [] [.tm (cVar 0)]), .tm (cVar 1)]))))
noncomputable def F_overlap : FnD := runF 2 [.sh, .sh] m_overlap
/-! _law_bag(script, k); slots: 0 script 1 k 2 cell -/
noncomputable def m__law_bag : CS :=
  (cSeq (cAsg 2 (cIf (cTest (cPrim gLt [.tm (cVar 1), .tm (cPrim gLen [.tm (cVar 0)])])) (cPrim gIx [.tm (cVar 0), .tm (cVar 1)]) (cK (.int 0))))
  (cRet (cPrim gLst [.tm (cPrim gMax2 [.tm (cK (.int 0)), .tm (cPrim gSub [.tm (cPrim gAbs [.tm (cVar 2)]), .tm (cPrim gPow [.tm (cK (.int 10)), .tm (cK (.int 18))])])]), .tm (cPrim gAdd [.tm (cPrim gMod [.tm (cVar 2), .tm (cPrim gAdd [.tm (cPrim gPow [.tm (cK (.int 10)), .tm (cK (.int 35))]), .tm (cK (.int 7))])]), .tm (cPrim gMul [.tm (cK (.int 70793)), .tm (cVar 1)])]), .tm (cK (.int 0))])))
noncomputable def F__law_bag : FnD := runF 3 [.sh, .sh] m__law_bag
/-! _law_take(bag, many); slots: 0 bag 1 many 2 found 3 mixed -/
noncomputable def m__law_take : CS :=
  (cSeq (cIfS (cTest (cPrim gGt [.tm (cPrim gIx [.vr 0, .tm (cK (.int 0))]), .tm (cK (.int 0))]))
    (cSeq (cAsg 2 (cPrim gMod [.tm (cPrim gIx [.vr 0, .tm (cK (.int 0))]), .tm (cVar 1)]))
    (cSeq (cSetI 0 (cPrim gFdiv [.tm (cPrim gIx [.vr 0, .tm (cK (.int 0))]), .tm (cVar 1)]) (cK (.int 0)))
    (cRet (cVar 2))))
    cSkip)
  (cSeq (cSetI 0 (cPrim gAdd [.tm (cPrim gIx [.vr 0, .tm (cK (.int 2))]), .tm (cK (.int 1))]) (cK (.int 2)))
  (cSeq (cAsg 3 (cPrim gMod [.tm (cPrim gPow [.tm (cPrim gAdd [.tm (cPrim gIx [.vr 0, .tm (cK (.int 1))]), .tm (cPrim gMul [.tm (cK (.int 32452867)), .tm (cPrim gIx [.vr 0, .tm (cK (.int 2))])])]), .tm (cK (.int 3))]), .tm (cPrim gAdd [.tm (cPrim gPow [.tm (cK (.int 10)), .tm (cK (.int 39))]), .tm (cK (.int 3))])]))
  (cSeq (cAsg 3 (cPrim gMod [.tm (cPrim gPow [.tm (cPrim gAdd [.tm (cVar 3), .tm (cPrim gMul [.tm (cK (.int 49979693)), .tm (cPrim gIx [.vr 0, .tm (cK (.int 2))])])]), .tm (cK (.int 3))]), .tm (cPrim gAdd [.tm (cPrim gPow [.tm (cK (.int 10)), .tm (cK (.int 38))]), .tm (cK (.int 133))])]))
  (cRet (cPrim gMod [.tm (cPrim gFdiv [.tm (cVar 3), .tm (cK (.int 87803))]), .tm (cVar 1)]))))))
noncomputable def F__law_take : FnD := runF 4 [.pr, .sh] m__law_take
/-! _law_chain(bag, most, top); slots: 0 bag 1 most 2 top 3 found 4 style 5 k 6 last 7 below 8 part -/
noncomputable def m__law_chain : CS :=
  (cSeq (cPar 3 4 (cPrim gLst []) (cCall LM.F__law_take [.ln 0, .sh] .sh [0, 1] [] [.vr 0, .tm (cK (.int 4))]))
  (cSeq (cFor (cIt giR1 [.tm (cCall LM.F__law_take [.ln 0, .sh] .sh [0, 1] [] [.vr 0, .tm (cPrim gAdd [.tm (cVar 1), .tm (cK (.int 1))])])]) (.nm 5)
    (cSeq (cAsg 6 (cIf (cTest (cPrim gNe [.vr 3, .tm (cPrim gLst [])])) (cPrim gIx [.vr 3, .tm (cPrim gNeg [.tm (cK (.int 1))])]) (cVar 2)))
    (cSeq (cAsg 7 (cPrim gAdd [.tm (cK (.int 1)), .tm (cCall LM.F__law_take [.ln 0, .sh] .sh [0, 1] [] [.vr 0, .tm (cVar 6)])]))
    (cSeq (cAsg 8 (cPrim gSub [.tm (cPrim gAdd [.tm (cPrim gFdiv [.tm (cVar 6), .tm (cPrim gAdd [.tm (cK (.int 1)), .tm (cCall LM.F__law_take [.ln 0, .sh] .sh [0, 1] [] [.vr 0, .tm (cK (.int 4))])])]), .tm (cCall LM.F__law_take [.ln 0, .sh] .sh [0, 1] [] [.vr 0, .tm (cK (.int 3))])]), .tm (cK (.int 1))]))
    (cDrop (cMut 3 mApp [.tm (cPrim gIx [.tm (cPrim gLst [.tm (cPrim gAdd [.tm (cK (.int 1)), .tm (cCall LM.F__law_take [.ln 0, .sh] .sh [0, 1] [] [.vr 0, .tm (cVar 2)])]), .tm (cVar 7), .tm (cPrim gMin2 [.tm (cVar 2), .tm (cPrim gMax2 [.tm (cK (.int 1)), .tm (cVar 8)])]), .tm (cVar 7)]), .tm (cVar 4)])]))))))
  (cRet (cVar 3))))
noncomputable def F__law_chain : FnD := runF 9 [.pr, .sh, .sh] m__law_chain
/-! require_index(index, greatest); slots: 0 index 1 greatest -/
noncomputable def m_require_index : CS :=
  (cIfS (cNot (cTest (cCall LM.F_is_integer [.sh, .sh, .sh] .sh [0, 1, 2] [] [.tm (cVar 0), .tm (cK (.int 0)), .tm (cVar 1)])))
    cStuck
    cSkip)
noncomputable def F_require_index : FnD := runF 2 [.sh, .sh] m_require_index
/-! difference_of(widths, other); slots: 0 widths 1 other 2 position -/
noncomputable def m_difference_of : CS :=
  (cSeq (cIfS (cTest (cPrim gEq [.tm (cVar 0), .tm (cVar 1)]))
    (cRet (cK .non))
    cSkip)
  (cSeq (cIfS (cOr (cTest (cPrim gEq [.tm (cVar 0), .tm (cPrim gLst [])])) (cTest (cPrim gEq [.tm (cVar 1), .tm (cPrim gLst [])])))
    (cRet (cPrim gIx [.tm (cPrim gAdd [.tm (cVar 0), .tm (cVar 1)]), .tm (cPrim gNeg [.tm (cK (.int 1))])]))
    cSkip)
  (cSeq (cFor (cIt giR1 [.tm (cPrim gAdd [.tm (cPrim gIx [.tm (cVar 0), .tm (cK (.int 0))]), .tm (cPrim gIx [.tm (cVar 1), .tm (cK (.int 0))])])]) (.nm 2)
    (cIfS (cTest (cPrim gNe [.tm (cCall LM.F_column_of [.sh, .sh] .sh [0, 1] [] [.tm (cVar 0), .tm (cVar 2)]), .tm (cCall LM.F_column_of [.sh, .sh] .sh [0, 1] [] [.tm (cVar 1), .tm (cVar 2)])]))
      (cRet (cVar 2))
      cSkip))
  (cRet (cK .non)))))
noncomputable def F_difference_of : FnD := runF 3 [.sh, .sh] m_difference_of
/-! have_same_effect(widths, other); slots: 0 widths 1 other -/
noncomputable def m_have_same_effect : CS :=
  (cRet (cPrim gIs [.tm (cCall LM.F_difference_of [.sh, .sh] .sh [0, 1] [] [.tm (cCall LM.F_effective_of [.sh] .sh [0] [] [.tm (cVar 0)]), .tm (cCall LM.F_effective_of [.sh] .sh [0] [] [.tm (cVar 1)])]), .tm (cK .non)]))
noncomputable def F_have_same_effect : FnD := runF 2 [.sh, .sh] m_have_same_effect
/-! can_exchange(widths, index); slots: 0 widths 1 index 2 exchanged -/
noncomputable def m_can_exchange : CS :=
  (cSeq (cDrop (cCall LM.F_require_widths [.sh] .sh [0] [] [.tm (cVar 0)]))
  (cSeq (cDrop (cCall LM.F_require_index [.sh, .sh] .sh [0, 1] [] [.tm (cVar 1), .tm (cPrim gSub [.tm (cPrim gLen [.tm (cVar 0)]), .tm (cK (.int 2))])]))
  (cSeq (cAsg 2 (cPrim gAdd [.tm (cPrim gAdd [.tm (cPrim gSl01 [.tm (cVar 0), .tm (cVar 1)]), .tm (cPrim gLst [.tm (cPrim gIx [.tm (cVar 0), .tm (cPrim gAdd [.tm (cVar 1), .tm (cK (.int 1))])]), .tm (cPrim gIx [.tm (cVar 0), .tm (cVar 1)])])]), .tm (cPrim gSl10 [.tm (cVar 0), .tm (cPrim gAdd [.tm (cVar 1), .tm (cK (.int 2))])])]))
  (cRet (cCall LM.F_have_same_effect [.sh, .sh] .sh [0, 1] [] [.tm (cVar 2), .tm (cVar 0)])))))
noncomputable def F_can_exchange : FnD := runF 3 [.sh, .sh] m_can_exchange
/-! _law_broken(chain, span); slots: 0 chain 1 span 2 sizes 3 width 4 later 5 size 6 many 7 rest -/
noncomputable def m__law_broken : CS :=
  (cSeq (cAsg 2 (cPrim gMul [.tm (cPrim gLst [.tm (cVar 1)]), .tm (cPrim gInt [.tm (cPrim gGt [.tm (cVar 1), .tm (cK (.int 0))])])]))
  (cSeq (cFor (cIt giL [.tm (cVar 0)]) (.nm 3)
    (cSeq (cAsg 4 (cPrim gLst []))
    (cSeq (cFor (cIt giL [.tm (cVar 2)]) (.nm 5)
      (cSeq (cUnp (.tp [6, 7]) (cPrim gDivmod [.tm (cVar 5), .tm (cVar 3)]))
      (cDrop (cMut 4 mExt [.tm (cPrim gAdd [.tm (cPrim gMul [.tm (cPrim gLst [.tm (cVar 3)]), .tm (cVar 6)]), .tm (cPrim gMul [.tm (cPrim gLst [.tm (cVar 7)]), .tm (cPrim gInt [.tm (cPrim gGt [.tm (cVar 7), .tm (cK (.int 0))])])])])]))))
    (cSeq (cAsg 2 (cVar 4))
    (cForget 4 cSkip)))))
  (cRet (cVar 2))))
noncomputable def F__law_broken : FnD := runF 8 [.sh, .sh] m__law_broken
/-! _law_alike(found, due); slots: 0 found 1 due -/
noncomputable def m__law_alike : CS :=
  (cRet (cPrim gEq [.tm (cPrim gRepr [.tm (cVar 0)]), .tm (cPrim gRepr [.tm (cVar 1)])]))
noncomputable def F__law_alike : FnD := runF 2 [.sh, .sh] m__law_alike
/-! _law_mate(bag, chain, top); slots: 0 bag 1 chain 2 top 3 way 4 at 5 width 6 near 7 pair -/
noncomputable def m__law_mate : CS :=
  (cSeq (cPar 3 4 (cCall LM.F__law_take [.ln 0, .sh] .sh [0, 1] [] [.vr 0, .tm (cK (.int 6))]) (cCall LM.F__law_take [.ln 0, .sh] .sh [0, 1] [] [.vr 0, .tm (cPrim gAdd [.tm (cPrim gLen [.tm (cVar 1)]), .tm (cK (.int 1))])]))
  (cSeq (cAsg 5 (cPrim gAdd [.tm (cK (.int 1)), .tm (cCall LM.F__law_take [.ln 0, .sh] .sh [0, 1] [] [.vr 0, .tm (cVar 2)])]))
  (cSeq (cIfS (cOr (cTest (cPrim gEq [.tm (cVar 3), .tm (cK (.int 0))])) (cTest (cPrim gEq [.tm (cVar 1), .tm (cPrim gLst [])])))
    (cRet (cPrim gAdd [.tm (cPrim gAdd [.tm (cPrim gSl01 [.tm (cVar 1), .tm (cVar 4)]), .tm (cPrim gLst [.tm (cVar 5)])]), .tm (cPrim gSl10 [.tm (cVar 1), .tm (cVar 4)])]))
    cSkip)
  (cSeq (cAsg 4 (cPrim gMod [.tm (cVar 4), .tm (cPrim gLen [.tm (cVar 1)])]))
  (cSeq (cIfS (cTest (cPrim gEq [.tm (cVar 3), .tm (cK (.int 1))]))
    (cRet (cPrim gAdd [.tm (cPrim gSl01 [.tm (cVar 1), .tm (cVar 4)]), .tm (cPrim gSl10 [.tm (cVar 1), .tm (cPrim gAdd [.tm (cVar 4), .tm (cK (.int 1))])])]))
    cSkip)
  (cSeq (cIfS (cTest (cPrim gEq [.tm (cVar 3), .tm (cK (.int 2))]))
    (cSeq (cAsg 6 (cPrim gMax2 [.tm (cK (.int 1)), .tm (cPrim gSub [.tm (cPrim gAdd [.tm (cPrim gIx [.tm (cVar 1), .tm (cVar 4)]), .tm (cCall LM.F__law_take [.ln 0, .sh] .sh [0, 1] [] [.vr 0, .tm (cK (.int 5))])]), .tm (cK (.int 2))])]))
    (cRet (cPrim gAdd [.tm (cPrim gAdd [.tm (cPrim gSl01 [.tm (cVar 1), .tm (cVar 4)]), .tm (cPrim gLst [.tm (cPrim gMin2 [.tm (cVar 2), .tm (cVar 6)])])]), .tm (cPrim gSl10 [.tm (cVar 1), .tm (cPrim gAdd [.tm (cVar 4), .tm (cK (.int 1))])])])))
    cSkip)
  (cSeq (cIfS (cTest (cPrim gEq [.tm (cVar 3), .tm (cK (.int 3))]))
    (cSeq (cAsg 7 (cPrim gSl11 [.tm (cVar 1), .tm (cInt (cVar 4)), .tm (cPrim gAdd [.tm (cVar 4), .tm (cK (.int 2))])]))
    (cRet (cPrim gAdd [.tm (cPrim gAdd [.tm (cPrim gSl01 [.tm (cVar 1), .tm (cVar 4)]), .tm (cPrim gRev [.tm (cVar 7)])]), .tm (cPrim gSl10 [.tm (cVar 1), .tm (cPrim gAdd [.tm (cVar 4), .tm (cK (.int 2))])])])))
    cSkip)
  (cSeq (cIfS (cTest (cPrim gEq [.tm (cVar 3), .tm (cK (.int 4))]))
    (cRet (cPrim gAdd [.tm (cPrim gLst [.tm (cPrim gMin2 [.tm (cVar 2), .tm (cPrim gMul [.tm (cPrim gIx [.tm (cVar 1), .tm (cK (.int 0))]), .tm (cPrim gAdd [.tm (cK (.int 1)), .tm (cCall LM.F__law_take [.ln 0, .sh] .sh [0, 1] [] [.vr 0, .tm (cK (.int 4))])])])])]), .tm (cVar 1)]))
    cSkip)
  (cRet (cCall LM.F__law_chain [.ln 0, .sh, .sh] .sh [0, 1, 2] [] [.vr 0, .tm (cK (.int 4)), .tm (cVar 2)]))))))))))
noncomputable def F__law_mate : FnD := runF 8 [.pr, .sh, .sh] m__law_mate
/-! first_difference(widths, other); slots: 0 widths 1 other -/
noncomputable def m_first_difference : CS :=
  (cSeq (cDrop (cCall LM.F_require_widths [.sh] .sh [0] [] [.tm (cVar 0)]))
  (cSeq (cDrop (cCall LM.F_require_widths [.sh] .sh [0] [] [.tm (cVar 1)]))
  (cRet (cCall LM.F_difference_of [.sh, .sh] .sh [0, 1] [] [.tm (cCall LM.F_effective_of [.sh] .sh [0] [] [.tm (cVar 0)]), .tm (cCall LM.F_effective_of [.sh] .sh [0] [] [.tm (cVar 1)])]))))
noncomputable def F_first_difference : FnD := runF 2 [.sh, .sh] m_first_difference
/-! _law_at(chain, place); slots: 0 chain 1 place 2 width -/
noncomputable def m__law_at : CS :=
  (cSeq (cFor (cIt giL [.tm (cVar 0)]) (.nm 2)
    (cAsg 1 (cPrim gMod [.tm (cVar 1), .tm (cVar 2)])))
  (cRet (cVar 1)))
noncomputable def F__law_at : FnD := runF 3 [.sh, .sh] m__law_at
/-! descent_of(values); slots: 0 values 1 borders 2 length 3 found -/
noncomputable def m_descent_of : CS :=
  (cSeq (cAsg 1 (cCall LM.F_border_lengths [.sh] .sh [0] [] [.tm (cVar 0)]))
  (cSeq (cAsg 2 (cPrim gLen [.tm (cVar 0)]))
  (cSeq (cAsg 3 (cPrim gLst []))
  (cSeq (whileD (cTest (cPrim gGt [.tm (cPrim gIx [.tm (cVar 1), .tm (cVar 2)]), .tm (cK (.int 0))]))
    (cSeq (cAug 2 gSubI (cPrim gIx [.tm (cVar 1), .tm (cVar 2)]))
    (cDrop (cMut 3 mApp [.tm (cVar 2)]))) (10 ^ 80))
  (cRet (cVar 3))))))
noncomputable def F_descent_of : FnD := runF 4 [.sh] m_descent_of
/-! normal_of(widths); slots: 0 widths 1 least -/
noncomputable def m_normal_of : CS :=
  (cSeq (cAsg 1 (cCall LM.F_whole_period [.sh] .sh [0] [] [.tm (cVar 0)]))
  (cRet (cIf (cTest (cPrim gIs [.tm (cVar 1), .tm (cK .non)])) (cPrim gLst []) (cPrim gAdd [.tm (cPrim gLst [.tm (cVar 1)]), .tm (cCall LM.F_descent_of [.sh] .sh [0] [] [.tm (cCall LM.F_first_columns [.sh, .sh] .sh [0, 1] [] [.tm (cVar 0), .tm (cVar 1)])])]))))
noncomputable def F_normal_of : FnD := runF 2 [.sh] m_normal_of
/-! normal_form(widths); slots: 0 widths -/
noncomputable def m_normal_form : CS :=
  (cSeq (cDrop (cCall LM.F_require_widths [.sh] .sh [0] [] [.tm (cVar 0)]))
  (cRet (cCall LM.F_normal_of [.sh] .sh [0] [] [.tm (cCall LM.F_effective_of [.sh] .sh [0] [] [.tm (cVar 0)])])))
noncomputable def F_normal_form : FnD := runF 1 [.sh] m_normal_form
/-! commute(first, second); slots: 0 first 1 second -/
noncomputable def m_commute : CS :=
  (cSeq (cDrop (cCall LM.F_require_widths [.sh] .sh [0] [] [.tm (cVar 0)]))
  (cSeq (cDrop (cCall LM.F_require_widths [.sh] .sh [0] [] [.tm (cVar 1)]))
  (cRet (cCall LM.F_have_same_effect [.sh, .sh] .sh [0, 1] [] [.tm (cPrim gAdd [.tm (cVar 0), .tm (cVar 1)]), .tm (cPrim gAdd [.tm (cVar 1), .tm (cVar 0)])]))))
noncomputable def F_commute : FnD := runF 2 [.sh, .sh] m_commute
/-! harmless_widths(widths, index, limit); slots: 0 widths 1 index 2 limit 3 found 4 width -/
noncomputable def m_harmless_widths : CS :=
  (cSeq (cDrop (cCall LM.F_require_widths [.sh] .sh [0] [] [.tm (cVar 0)]))
  (cSeq (cDrop (cCall LM.F_require_index [.sh, .sh] .sh [0, 1] [] [.tm (cVar 1), .tm (cPrim gLen [.tm (cVar 0)])]))
  (cSeq (cDrop (cCall LM.F_require_length [.sh, .sh, .sh] .sh [0, 1, 2] [.int 0, .int 1000000000000000000000000000000] [.tm (cVar 2), .tm (cK (.int 0)), .tm (cK (.int 100))]))
  (cSeq (cAsg 3 (cPrim gLst []))
  (cSeq (cFor (cIt giR2 [.tm (cK (.int 1)), .tm (cPrim gAdd [.tm (cVar 2), .tm (cK (.int 1))])]) (.nm 4)
    (cIfS (cTest (cCall LM.F_have_same_effect [.sh, .sh] .sh [0, 1] [] [.tm (cPrim gAdd [.tm (cPrim gAdd [.tm (cPrim gSl01 [.tm (cVar 0), .tm (cVar 1)]), .tm (cPrim gLst [.tm (cVar 4)])]), .tm (cPrim gSl10 [.tm (cVar 0), .tm (cVar 1)])]), .tm (cVar 0)]))
      (cDrop (cMut 3 mApp [.tm (cVar 4)]))
      cSkip))
  (cRet (cVar 3)))))))
noncomputable def F_harmless_widths : FnD := runF 5 [.sh, .sh, .sh] m_harmless_widths
/-! redundant(widths); slots: 0 widths 1 index -/
noncomputable def m_redundant : CS :=
  (cSeq (cDrop (cCall LM.F_require_widths [.sh] .sh [0] [] [.tm (cVar 0)]))
  (cRet (cLc (cIt giR1 [.tm (cPrim gLen [.tm (cVar 0)])]) (.nm 1) (cTest (cCall LM.F_have_same_effect [.sh, .sh] .sh [0, 1] [] [.tm (cPrim gAdd [.tm (cPrim gSl01 [.tm (cVar 0), .tm (cVar 1)]), .tm (cPrim gSl10 [.tm (cVar 0), .tm (cPrim gAdd [.tm (cVar 1), .tm (cK (.int 1))])])]), .tm (cVar 0)])) (cVar 1) [1])))
noncomputable def F_redundant : FnD := runF 2 [.sh] m_redundant
/-! are_equal(widths, other); slots: 0 widths 1 other -/
noncomputable def m_are_equal : CS :=
  (cSeq (cDrop (cCall LM.F_require_widths [.sh] .sh [0] [] [.tm (cVar 0)]))
  (cSeq (cDrop (cCall LM.F_require_widths [.sh] .sh [0] [] [.tm (cVar 1)]))
  (cRet (cCall LM.F_have_same_effect [.sh, .sh] .sh [0, 1] [] [.tm (cVar 0), .tm (cVar 1)]))))
noncomputable def F_are_equal : FnD := runF 2 [.sh, .sh] m_are_equal
/-! _law_long(bag); slots: 0 bag 1 found 2 turn -/
noncomputable def m__law_long : CS :=
  (cSeq (cAsg 1 (cPrim gLst [.tm (cPrim gAdd [.tm (cK (.int 1)), .tm (cCall LM.F__law_take [.ln 0, .sh] .sh [0, 1] [] [.vr 0, .tm (cK (.int 4))])])]))
  (cSeq (cFor (cIt giR1 [.tm (cPrim gAdd [.tm (cK (.int 12)), .tm (cCall LM.F__law_take [.ln 0, .sh] .sh [0, 1] [] [.vr 0, .tm (cK (.int 8))])])]) (.nm 2)
    (cDrop (cMut 1 mIns [.tm (cK (.int 0)), .tm (cPrim gAdd [.tm (cPrim gAdd [.tm (cPrim gIx [.vr 1, .tm (cK (.int 0))]), .tm (cK (.int 1))]), .tm (cCall LM.F__law_take [.ln 0, .sh] .sh [0, 1] [] [.vr 0, .tm (cK (.int 4))])])])))
  (cRet (cVar 1))))
noncomputable def F__law_long : FnD := runF 3 [.pr] m__law_long
/-! _law_cols(sizes); slots: 0 sizes 1 found 2 size -/
noncomputable def m__law_cols : CS :=
  (cSeq (cAsg 1 (cPrim gLst []))
  (cSeq (cFor (cIt giL [.tm (cVar 0)]) (.nm 2)
    (cDrop (cMut 1 mExt [.tm (cPrim gLR1 [.tm (cVar 2)])])))
  (cRet (cVar 1))))
noncomputable def F__law_cols : FnD := runF 3 [.sh] m__law_cols
/-! _law_least(values); slots: 0 values 1 period -/
noncomputable def m__law_least : CS :=
  (cSeq (cFor (cIt giR2 [.tm (cK (.int 1)), .tm (cPrim gLen [.tm (cVar 0)])]) (.nm 1)
    (cIfS (cTest (cPrim gEq [.tm (cPrim gSl10 [.tm (cVar 0), .tm (cVar 1)]), .tm (cPrim gSl01 [.tm (cVar 0), .tm (cPrim gSub [.tm (cPrim gLen [.tm (cVar 0)]), .tm (cVar 1)])])]))
      (cRet (cVar 1))
      cSkip))
  (cRet (cPrim gLen [.tm (cVar 0)])))
noncomputable def F__law_least : FnD := runF 2 [.sh] m__law_least
/-! _law_falls(values); slots: 0 values 1 found 2 far -/
noncomputable def m__law_falls : CS :=
  (cSeq (cPar 1 2 (cPrim gLst []) (cPrim gLen [.tm (cVar 0)]))
  (cSeq (whileD (cAnd (cTest (cPrim gGt [.tm (cVar 2), .tm (cK (.int 0))])) (cTest (cPrim gLt [.tm (cCall LM.F__law_least [.sh] .sh [0] [] [.tm (cPrim gSl01 [.tm (cVar 0), .tm (cVar 2)])]), .tm (cVar 2)])))
    (cSeq (cAsg 2 (cCall LM.F__law_least [.sh] .sh [0] [] [.tm (cPrim gSl01 [.tm (cVar 0), .tm (cVar 2)])]))
    (cDrop (cMut 1 mApp [.tm (cVar 2)]))) (10 ^ 80))
  (cRet (cVar 1))))
noncomputable def F__law_falls : FnD := runF 3 [.sh] m__law_falls
/-! period_below(widths, length); slots: 0 widths 1 length 2 whole -/
noncomputable def m_period_below : CS :=
  (cSeq (cAsg 2 (cCall LM.F_whole_period [.sh] .sh [0] [] [.tm (cVar 0)]))
  (cSeq (cIfS (cTest (cPrim gIs [.tm (cVar 2), .tm (cK .non)]))
    (cRet (cVar 1))
    cSkip)
  (cSeq (cIfS (cTest (cPrim gGe [.tm (cVar 1), .tm (cPrim gMul [.tm (cK (.int 2)), .tm (cVar 2)])]))
    (cRet (cVar 2))
    cSkip)
  (cRet (cCall LM.F_least_period_of [.sh] .sh [0] [] [.tm (cCall LM.F_first_columns [.sh, .sh] .sh [0, 1] [] [.tm (cVar 0), .tm (cVar 1)])])))))
noncomputable def F_period_below : FnD := runF 3 [.sh, .sh] m_period_below
/-! descent_to(widths, length); slots: 0 widths 1 length 2 least -/
noncomputable def m_descent_to : CS :=
  (cSeq (cAsg 2 (cCall LM.F_period_below [.sh, .sh] .sh [0, 1] [] [.tm (cVar 0), .tm (cVar 1)]))
  (cRet (cIf (cTest (cPrim gEq [.tm (cVar 2), .tm (cVar 1)])) (cPrim gLst []) (cPrim gAdd [.tm (cPrim gLst [.tm (cVar 2)]), .tm (cCall LM.F_descent_of [.sh] .sh [0] [] [.tm (cCall LM.F_first_columns [.sh, .sh] .sh [0, 1] [] [.tm (cVar 0), .tm (cVar 2)])])]))))
noncomputable def F_descent_to : FnD := runF 3 [.sh, .sh] m_descent_to
/-! descent(widths, length); slots: 0 widths 1 length -/
noncomputable def m_descent : CS :=
  (cSeq (cDrop (cCall LM.F_require_widths [.sh] .sh [0] [] [.tm (cVar 0)]))
  (cSeq (cDrop (cCall LM.F_require_length [.sh, .sh, .sh] .sh [0, 1, 3] [.int 0, .int 1000000000000000000000000000000] [.tm (cVar 1), .tm (cK (.int 1))]))
  (cRet (cCall LM.F_descent_to [.sh, .sh] .ow [0, 1] [] [.tm (cCall LM.F_effective_of [.sh] .sh [0] [] [.tm (cVar 0)]), .tm (cVar 1)]))))
noncomputable def F_descent : FnD := runF 2 [.sh, .sh] m_descent
/-! _law_subsets(top); slots: 0 top 1 found 2 width 3 chain -/
noncomputable def m__law_subsets : CS :=
  (cSeq (cAsg 1 (cPrim gLst [.tm (cPrim gLst [])]))
  (cSeq (cFor (cIt giRm [.tm (cPrim gSub [.tm (cVar 0), .tm (cK (.int 1))]), .tm (cK (.int 0)), .tm (cPrim gNeg [.tm (cK (.int 1))])]) (.nm 2)
    (cAsg 1 (cPrim gAdd [.tm (cVar 1), .tm (cLc (cIt giL [.tm (cVar 1)]) (.nm 3) cYes (cPrim gAdd [.tm (cVar 3), .tm (cPrim gLst [.tm (cVar 2)])]) [3])])))
  (cRet (cVar 1))))
noncomputable def F__law_subsets : FnD := runF 4 [.sh] m__law_subsets
/-! are_equal_to(widths, other, length); slots: 0 widths 1 other 2 length 3 place -/
noncomputable def m_are_equal_to : CS :=
  (cSeq (cDrop (cCall LM.F_require_widths [.sh] .sh [0] [] [.tm (cVar 0)]))
  (cSeq (cDrop (cCall LM.F_require_widths [.sh] .sh [0] [] [.tm (cVar 1)]))
  (cSeq (cDrop (cCall LM.F_require_length [.sh, .sh, .sh] .sh [0, 1, 2] [.int 0, .int 1000000000000000000000000000000] [.tm (cVar 2)]))
  (cSeq (cAsg 3 (cCall LM.F_difference_of [.sh, .sh] .sh [0, 1] [] [.tm (cCall LM.F_effective_of [.sh] .sh [0] [] [.tm (cVar 0)]), .tm (cCall LM.F_effective_of [.sh] .sh [0] [] [.tm (cVar 1)])]))
  (cRet (cOrV (cPrim gIs [.tm (cVar 3), .tm (cK .non)]) (cPrim gGe [.tm (cVar 3), .tm (cVar 2)])))))))
noncomputable def F_are_equal_to : FnD := runF 4 [.sh, .sh, .sh] m_are_equal_to
/-! is_pieces(value); slots: 0 value 1 size -/
noncomputable def m_is_pieces : CS :=
  (cSeq (cIfS (cOr (cNot (cTest (cPrim gIsi [.tm (cVar 0), .tm (cK (.ty "list"))]))) (cNot (cTest (cChain gLe gLe (cK (.int 1)) (cPrim gLen [.tm (cVar 0)]) (cK (.int 400))))))
    (cRet (cK (.bl false)))
    cSkip)
  (cRet (cAndV (cPrim gAll [.tm (cLc (cIt giL [.tm (cVar 0)]) (.nm 1) cYes (cCall LM.F_is_integer [.sh, .sh, .sh] .sh [0, 1, 2] [] [.tm (cVar 1), .tm (cK (.int 1)), .tm (cK (.int 10000))]) [1])]) (cPrim gLe [.tm (cPrim gSum [.tm (cVar 0)]), .tm (cK (.int 10000))]))))
noncomputable def F_is_pieces : FnD := runF 2 [.sh] m_is_pieces
/-! require_pieces(pieces); slots: 0 pieces -/
noncomputable def m_require_pieces : CS :=
  (cIfS (cNot (cTest (cCall LM.F_is_pieces [.sh] .sh [0] [] [.tm (cVar 0)])))
    cStuck
    cSkip)
noncomputable def F_require_pieces : FnD := runF 1 [.sh] m_require_pieces
/-! columns_of(sizes); slots: 0 sizes 1 found 2 size -/
noncomputable def m_columns_of : CS :=
  (cSeq (cAsg 1 (cPrim gLst []))
  (cSeq (cFor (cIt giL [.tm (cVar 0)]) (.nm 2)
    (cDrop (cMut 1 mExt [.tm (cPrim gLR1 [.tm (cVar 2)])])))
  (cRet (cVar 1))))
noncomputable def F_columns_of : FnD := runF 3 [.sh] m_columns_of
/-! first_piece_of(values); slots: 0 values 1 zeros 2 position 3 value -/
noncomputable def m_first_piece_of : CS :=
  (cSeq (cAsg 1 (cLc (cIt giE [.tm (cVar 0)]) (.tp [2, 3]) (cAnd (cTest (cPrim gGt [.tm (cVar 2), .tm (cK (.int 0))])) (cTest (cPrim gEq [.tm (cVar 3), .tm (cK (.int 0))]))) (cVar 2) [2, 3]))
  (cRet (cIf (cTest (cPrim gNe [.tm (cVar 1), .tm (cPrim gLst [])])) (cPrim gIx [.tm (cVar 1), .tm (cK (.int 0))]) (cPrim gLen [.tm (cVar 0)]))))
noncomputable def F_first_piece_of : FnD := runF 4 [.sh] m_first_piece_of
/-! first_obstacle_of(values); slots: 0 values 1 borders 2 length -/
noncomputable def m_first_obstacle_of : CS :=
  (cSeq (cAsg 1 (cCall LM.F_border_lengths [.sh] .sh [0] [] [.tm (cVar 0)]))
  (cSeq (cFor (cIt giR2 [.tm (cPrim gAdd [.tm (cCall LM.F_first_piece_of [.sh] .sh [0] [] [.tm (cVar 0)]), .tm (cK (.int 1))]), .tm (cPrim gAdd [.tm (cPrim gLen [.tm (cVar 0)]), .tm (cK (.int 1))])]) (.nm 2)
    (cIfS (cTest (cPrim gEq [.tm (cPrim gIx [.tm (cVar 1), .tm (cVar 2)]), .tm (cK (.int 0))]))
      (cRet (cVar 2))
      cSkip))
  (cRet (cK .non))))
noncomputable def F_first_obstacle_of : FnD := runF 3 [.sh] m_first_obstacle_of
/-! shortest_widths(pieces); slots: 0 pieces 1 values 2 obstacle -/
noncomputable def m_shortest_widths : CS :=
  (cSeq (cDrop (cCall LM.F_require_pieces [.sh] .sh [0] [] [.tm (cVar 0)]))
  (cSeq (cAsg 1 (cCall LM.F_columns_of [.sh] .sh [0] [] [.tm (cVar 0)]))
  (cSeq (cAsg 2 (cCall LM.F_first_obstacle_of [.sh] .sh [0] [] [.tm (cVar 1)]))
  (cSeq (cIfS (cTest (cPrim gIsNot [.tm (cVar 2), .tm (cK .non)]))
    cStuck
    cSkip)
  (cRet (cCall LM.F_descent_of [.sh] .sh [0] [] [.tm (cVar 1)]))))))
noncomputable def F_shortest_widths : FnD := runF 3 [.sh] m_shortest_widths
/-! first_obstacle(pieces); slots: 0 pieces -/
noncomputable def m_first_obstacle : CS :=
  (cSeq (cDrop (cCall LM.F_require_pieces [.sh] .sh [0] [] [.tm (cVar 0)]))
  (cRet (cCall LM.F_first_obstacle_of [.sh] .sh [0] [] [.tm (cCall LM.F_columns_of [.sh] .sh [0] [] [.tm (cVar 0)])])))
noncomputable def F_first_obstacle : FnD := runF 1 [.sh] m_first_obstacle
/-! _law_plan(numbers, most, wide); slots: 0 numbers 1 most 2 wide 3 found 4 turn 5 near 6 made -/
noncomputable def m__law_plan_v2 : CS :=
  (cSeq (cAsg 3 (cPrim gLst []))
  (cSeq (cFor (cIt giR1 [.tm (cCall LM.F__law_pick [.ln 0, .sh] .sh [0, 1] [] [.vr 0, .tm (cPrim gAdd [.tm (cVar 1), .tm (cK (.int 1))])])]) (.nm 4)
    (cSeq (cAsg 5 (cIf (cTest (cPrim gNe [.vr 3, .tm (cPrim gLst [])])) (cPrim gIx [.vr 3, .tm (cK (.int 0))]) (cPrim gAdd [.tm (cK (.int 2)), .tm (cCall LM.F__law_pick [.ln 0, .sh] .sh [0, 1] [] [.vr 0, .tm (cK (.int 6))])])))
    (cSeq (cAsg 6 (cPrim gLst [.tm (cPrim gAdd [.tm (cK (.int 1)), .tm (cCall LM.F__law_pick [.ln 0, .sh] .sh [0, 1] [] [.vr 0, .tm (cVar 2)])]), .tm (cPrim gMul [.tm (cVar 5), .tm (cPrim gAdd [.tm (cK (.int 1)), .tm (cCall LM.F__law_pick [.ln 0, .sh] .sh [0, 1] [] [.vr 0, .tm (cK (.int 3))])])])]))
    (cSeq (cSetI 6 (cPrim gAdd [.tm (cPrim gIx [.vr 6, .tm (cK (.int 1))]), .tm (cCall LM.F__law_pick [.ln 0, .sh] .sh [0, 1] [] [.vr 0, .tm (cPrim gAdd [.tm (cVar 5), .tm (cK (.int 1))])])]) (cK (.int 1)))
    (cSeq (cAsg 6 (cPrim gAdd [.vr 6, .tm (cPrim gLst [.tm (cPrim gAdd [.tm (cPrim gAdd [.tm (cVar 5), .tm (cPrim gSum [.tm (cPrim gSl11 [.vr 3, .tm (cInt (cK (.int 1))), .tm (cK (.int 2))])])]), .tm (cCall LM.F__law_pick [.ln 0, .sh] .sh [0, 1] [] [.vr 0, .tm (cK (.int 2))])]), .tm (cVar 5)])]))
    (cAsg 3 (cPrim gAdd [.tm (cPrim gLst [.tm (cPrim gMax2 [.tm (cK (.int 1)), .tm (cPrim gMin2 [.tm (cVar 2), .tm (cPrim gIx [.vr 6, .tm (cPrim gMod [.tm (cCall LM.F__law_pick [.ln 0, .sh] .sh [0, 1] [] [.vr 0, .tm (cK (.int 7))]), .tm (cK (.int 4))])])])])]), .vr 3])))))))
  (cRet (cVar 3))))
noncomputable def F__law_plan_v2 : FnD := runF 7 [.pr, .sh, .sh] m__law_plan_v2
/-! _law_places(parts); slots: 0 parts 1 found 2 part -/
noncomputable def m__law_places : CS :=
  (cSeq (cAsg 1 (cPrim gLst []))
  (cSeq (cFor (cIt giL [.tm (cVar 0)]) (.nm 2)
    (cAsg 1 (cPrim gAdd [.tm (cVar 1), .tm (cPrim gLR1 [.tm (cVar 2)])])))
  (cRet (cVar 1))))
noncomputable def F__law_places : FnD := runF 3 [.sh] m__law_places
/-! least_period_to(widths, length); slots: 0 widths 1 length -/
noncomputable def m_least_period_to : CS :=
  (cSeq (cDrop (cCall LM.F_require_widths [.sh] .sh [0] [] [.tm (cVar 0)]))
  (cSeq (cDrop (cCall LM.F_require_length [.sh, .sh, .sh] .sh [0, 1, 3] [.int 0, .int 1000000000000000000000000000000] [.tm (cVar 1), .tm (cK (.int 1))]))
  (cRet (cCall LM.F_period_below [.sh, .sh] .sh [0, 1] [] [.tm (cCall LM.F_effective_of [.sh] .sh [0] [] [.tm (cVar 0)]), .tm (cVar 1)]))))
noncomputable def F_least_period_to : FnD := runF 2 [.sh, .sh] m_least_period_to
/-! _law_broken(chain, span); slots: 0 chain 1 span 2 sizes 3 width 4 later 5 size 6 many 7 rest -/
noncomputable def m__law_broken_v2 : CS :=
  (cSeq (cAsg 2 (cPrim gMul [.tm (cPrim gLst [.tm (cVar 1)]), .tm (cPrim gInt [.tm (cPrim gGt [.tm (cVar 1), .tm (cK (.int 0))])])]))
  (cSeq (cFor (cIt giL [.tm (cVar 0)]) (.nm 3)
    (cSeq (cAsg 4 (cPrim gLst []))
    (cSeq (cFor (cIt giL [.tm (cVar 2)]) (.nm 5)
      (cSeq (cUnp (.tp [6, 7]) (cPrim gDivmod [.tm (cVar 5), .tm (cVar 3)]))
      (cDrop (cMut 4 mExt [.tm (cPrim gAdd [.tm (cPrim gMul [.tm (cPrim gLst [.tm (cVar 3)]), .tm (cVar 6)]), .tm (cPrim gMul [.tm (cPrim gLst [.tm (cVar 7)]), .tm (cPrim gInt [.tm (cPrim gGt [.tm (cVar 7), .tm (cK (.int 0))])])])])]))))
    (cMov 2 4))))
  (cRet (cVar 2))))
noncomputable def F__law_broken_v2 : FnD := runF 8 [.sh, .sh] m__law_broken_v2
/-! _law_deck(script); slots: 0 script 1 pools 2 k 3 cell -/
noncomputable def m__law_deck : CS :=
  (cSeq (cAsg 1 (cPrim gLst []))
  (cSeq (cFor (cIt giR1 [.tm (cPrim gMax2 [.tm (cK (.int 1)), .tm (cPrim gMin2 [.tm (cK (.int 63)), .tm (cPrim gLen [.tm (cVar 0)])])])]) (.nm 2)
    (cSeq (cAsg 3 (cK (.int 0)))
    (cSeq (cIfS (cTest (cPrim gLt [.tm (cVar 2), .tm (cPrim gLen [.tm (cVar 0)])]))
      (cAsg 3 (cPrim gIx [.tm (cVar 0), .tm (cVar 2)]))
      cSkip)
    (cDrop (cMut 1 mApp [.tm (cPrim gLst [.tm (cVar 3), .tm (cPrim gInt [.tm (cPrim gGe [.tm (cVar 3), .tm (cPrim gPow [.tm (cK (.int 10)), .tm (cK (.int 18))])])]), .tm (cPrim gMul [.tm (cK (.int 29)), .tm (cVar 2)])])])))))
  (cRet (cPrim gLst [.tm (cTake 1), .tm (cK (.int 0))]))))
noncomputable def F__law_deck : FnD := runF 4 [.sh] m__law_deck
/-! _law_draw(deck, many); slots: 0 deck 1 many 2 pool 3 found 4 mixed -/
noncomputable def m__law_draw : CS :=
  (cDraw 0 2
    (cSeq (cIfS (cAnd (cTest (cPrim gEq [.tm (cPrim gIx [.vr 2, .tm (cK (.int 1))]), .tm (cK (.int 1))])) (cTest (cPrim gGt [.tm (cPrim gIx [.vr 2, .tm (cK (.int 0))]), .tm (cK (.int 0))])))
      (cSeq (cAsg 3 (cPrim gMod [.tm (cPrim gIx [.vr 2, .tm (cK (.int 0))]), .tm (cVar 1)]))
      (cSeq (cSetI 2 (cPrim gFdiv [.tm (cPrim gIx [.vr 2, .tm (cK (.int 0))]), .tm (cVar 1)]) (cK (.int 0)))
      (cRet (cVar 3))))
      cSkip)
    (cSeq (cSetI 2 (cPrim gAdd [.tm (cPrim gIx [.vr 2, .tm (cK (.int 2))]), .tm (cK (.int 1))]) (cK (.int 2)))
    (cSeq (cAsg 4 (cPrim gAdd [.tm (cPrim gMod [.tm (cPrim gIx [.vr 2, .tm (cK (.int 0))]), .tm (cK (.int 162259276829213363391578010288127))]), .tm (cPrim gMul [.tm (cK (.int 1190494759)), .tm (cPrim gIx [.vr 2, .tm (cK (.int 2))])])]))
    (cSeq (cAsg 4 (cPrim gMod [.tm (cPrim gPow [.tm (cVar 4), .tm (cK (.int 3))]), .tm (cK (.int 618970019642690137449562111))]))
    (cSeq (cAsg 4 (cPrim gMod [.tm (cPrim gPow [.tm (cPrim gAdd [.tm (cVar 4), .tm (cPrim gMul [.tm (cK (.int 49979687)), .tm (cPrim gIx [.vr 2, .tm (cK (.int 2))])])]), .tm (cK (.int 3))]), .tm (cK (.int 162259276829213363391578010288127))]))
    (cRet (cPrim gMod [.tm (cPrim gFdiv [.tm (cVar 4), .tm (cK (.int 524288))]), .tm (cVar 1)]))))))))
noncomputable def F__law_draw : FnD := runF 5 [.ps (.ls (.ls .l0)), .sh] m__law_draw
/-! _law_plan(deck, most, wide); slots: 0 deck 1 most 2 wide 3 found 4 turn 5 near 6 some -/
noncomputable def m__law_plan_v3 : CS :=
  (cSeq (cAsg 3 (cPrim gLst []))
  (cSeq (cFor (cIt giR1 [.tm (cCall LM.F__law_draw [.lo 0 (.ls (.ls .l0)), .sh] .sh [0, 1] [] [.vr 0, .tm (cPrim gAdd [.tm (cVar 1), .tm (cK (.int 1))])])]) (.nm 4)
    (cSeq (cAsg 5 (cIf (cTest (cPrim gNe [.tm (cVar 3), .tm (cPrim gLst [])])) (cPrim gIx [.tm (cVar 3), .tm (cK (.int 0))]) (cK (.int 1))))
    (cSeq (cAsg 6 (cPrim gLst [.tm (cPrim gAdd [.tm (cK (.int 1)), .tm (cCall LM.F__law_draw [.lo 0 (.ls (.ls .l0)), .sh] .sh [0, 1] [] [.vr 0, .tm (cVar 2)])]), .tm (cPrim gMul [.tm (cVar 5), .tm (cPrim gAdd [.tm (cK (.int 1)), .tm (cCall LM.F__law_draw [.lo 0 (.ls (.ls .l0)), .sh] .sh [0, 1] [] [.vr 0, .tm (cK (.int 4))])])]), .tm (cPrim gAdd [.tm (cVar 5), .tm (cCall LM.F__law_draw [.lo 0 (.ls (.ls .l0)), .sh] .sh [0, 1] [] [.vr 0, .tm (cK (.int 5))])])]))
    (cSeq (cAsg 6 (cPrim gAdd [.tm (cVar 6), .tm (cPrim gLst [.tm (cPrim gAdd [.tm (cPrim gSum [.tm (cPrim gSl01 [.tm (cVar 3), .tm (cK (.int 2))])]), .tm (cCall LM.F__law_draw [.lo 0 (.ls (.ls .l0)), .sh] .sh [0, 1] [] [.vr 0, .tm (cK (.int 2))])]), .tm (cPrim gSum [.tm (cVar 3)]), .tm (cPrim gAdd [.tm (cPrim gMul [.tm (cVar 5), .tm (cK (.int 2))]), .tm (cCall LM.F__law_draw [.lo 0 (.ls (.ls .l0)), .sh] .sh [0, 1] [] [.vr 0, .tm (cPrim gAdd [.tm (cVar 5), .tm (cK (.int 1))])])])])]))
    (cAsg 3 (cPrim gAdd [.tm (cPrim gLst [.tm (cPrim gMax2 [.tm (cK (.int 1)), .tm (cPrim gMin2 [.tm (cVar 2), .tm (cPrim gIx [.tm (cVar 6), .tm (cCall LM.F__law_draw [.lo 0 (.ls (.ls .l0)), .sh] .sh [0, 1] [] [.vr 0, .tm (cK (.int 6))])])])])]), .tm (cVar 3)]))))))
  (cRet (cVar 3))))
noncomputable def F__law_plan_v3 : FnD := runF 7 [.ps (.ls (.ls .l0)), .sh, .sh] m__law_plan_v3
/-! shortest_widths(pieces); slots: 0 pieces 1 values 2 obstacle -/
noncomputable def m_shortest_widths_v2 : CS :=
  (cSeq (cDrop (cCall LM.F_require_pieces [.sh] .sh [0] [] [.tm (cVar 0)]))
  (cSeq (cAsg 1 (cCall LM.F_columns_of [.sh] .sh [0] [] [.tm (cVar 0)]))
  (cSeq (cAsg 2 (cCall LM.F_first_obstacle_of [.sh] .sh [0] [] [.tm (cVar 1)]))
  (cSeq (cIfS (cTest (cPrim gIsNot [.tm (cVar 2), .tm (cK .non)]))
    (cRaiseF "NotWrapped" ["position"] [.tm (cVar 2)])
    cSkip)
  (cRet (cCall LM.F_descent_of [.sh] .ow [0] [] [.tm (cVar 1)]))))))
noncomputable def F_shortest_widths_v2 : FnD := runF 3 [.sh] m_shortest_widths_v2
/-! whole_lengths(widths); slots: 0 widths 1 lengths 2 index 3 width 4 length -/
noncomputable def m_whole_lengths : CS :=
  (cSeq (cAsg 1 (cLc (cIt giE [.tm (cVar 0)]) (.tp [2, 3]) cYes (cCall LM.F_column_of [.sh, .sh] .sh [0, 1] [] [.tm (cPrim gSl10 [.tm (cVar 0), .tm (cPrim gAdd [.tm (cVar 2), .tm (cK (.int 1))])]), .tm (cVar 3)]) [2, 3]))
  (cRet (cSdc (cIt giL [.tm (cVar 1)]) (.nm 4) (cTest (cPrim gGt [.tm (cVar 4), .tm (cK (.int 0))])) (cVar 4) [4])))
noncomputable def F_whole_lengths : FnD := runF 5 [.sh] m_whole_lengths
/-! piece_lengths(widths); slots: 0 widths -/
noncomputable def m_piece_lengths : CS :=
  (cSeq (cDrop (cCall LM.F_require_widths [.sh] .sh [0] [] [.tm (cVar 0)]))
  (cRet (cCall LM.F_whole_lengths [.sh] .ow [0] [] [.tm (cCall LM.F_effective_of [.sh] .sh [0] [] [.tm (cVar 0)])])))
noncomputable def F_piece_lengths : FnD := runF 1 [.sh] m_piece_lengths
/-! count_of_length(widths, length, size); slots: 0 widths 1 length 2 size 3 own -/
noncomputable def m_count_of_length : CS :=
  (cSeq (cDrop (cCall LM.F_require_widths [.sh] .sh [0] [] [.tm (cVar 0)]))
  (cSeq (cDrop (cCall LM.F_require_length [.sh, .sh, .sh] .sh [0, 1, 2] [.int 0, .int 1000000000000000000000000000000] [.tm (cVar 1)]))
  (cSeq (cDrop (cCall LM.F_require_length [.sh, .sh, .sh] .sh [0, 1, 2] [.int 0, .int 1000000000000000000000000000000] [.tm (cVar 2)]))
  (cSeq (cAsg 3 (cCall LM.F_effective_of [.sh] .sh [0] [] [.tm (cVar 0)]))
  (cRet (cCall LM.F_count_with [.sh, .sh, .sh, .sh] .sh [0, 1, 2, 3] [] [.tm (cVar 3), .tm (cCall LM.F_block_totals [.sh, .sh] .sh [0, 1] [.non] [.tm (cVar 3), .tm (cVar 2)]), .tm (cVar 1), .tm (cVar 2)]))))))
noncomputable def F_count_of_length : FnD := runF 4 [.sh, .sh, .sh] m_count_of_length
/-! Document.__init__(self, widths); slots: 0 self 1 widths 2 own -/
noncomputable def m_Document___init__ : CS :=
  (cSeq (cAsg 2 (cIf (cTest (cPrim gIsi [.tm (cVar 1), .tm (cK (.ty "tuple"))])) (cPrim gList [.tm (cVar 1)]) (cVar 1)))
  (cSeq (cDrop (cCall LM.F_require_widths [.sh] .sh [0] [] [.tm (cVar 2)]))
  (cSeq (cSetF 0 0 (cPrim gList [.tm (cVar 2)]))
  (cSeq (cSetF 0 1 (cPrim gLst []))
  (cSeq (cNewF 0 2 (cPrim gLst []))
  (cNewF 0 3 (cPrim gLst [])))))))
noncomputable def F_Document___init__ : FnD := runF 3 [.ps docT, .sh] m_Document___init__
/-! Document.carry_out(self, operation, widths, lengths); slots: 0 self 1 operation 2 widths 3 lengths -/
noncomputable def m_Document_carry_out : CS :=
  (cSeq (cDrop (cAppF 0 3 (two 0 0 1)))
  (cSeq (cDrop (cAppF 0 2 fun e => getS e 1))
  (cSeq (cSetF 0 0 (cVar 2))
  (cSetF 0 1 (cVar 3)))))
noncomputable def F_Document_carry_out : FnD := runF 4 [.ps docT, .sh, .sh, .sh] m_Document_carry_out
/-! Document.add_line(self, index, length); slots: 0 self 1 index 2 length 3 lengths -/
noncomputable def m_Document_add_line : CS :=
  (cSeq (cIfS (cNot (cTest (cCall LM.F_is_integer [.sh, .sh, .sh] .sh [0, 1, 2] [] [.tm (cVar 1), .tm (cK (.int 0)), .tm (cPrim gLen [.tm (cFld 0 1)])])))
    cStuck
    cSkip)
  (cSeq (cDrop (cCall LM.F_require_length [.sh, .sh, .sh] .sh [0, 1, 2] [.int 0, .int 1000000000000000000000000000000] [.tm (cVar 2)]))
  (cSeq (cIfS (cTest (cPrim gGe [.tm (cPrim gLen [.tm (cFld 0 1)]), .tm (cK (.int 400))]))
    cStuck
    cSkip)
  (cSeq (cAsg 3 (cPrim gAdd [.tm (cPrim gAdd [.tm (cPrim gSl01 [.tm (cFld 0 1), .tm (cVar 1)]), .tm (cPrim gLst [.tm (cVar 2)])]), .tm (cPrim gSl10 [.tm (cFld 0 1), .tm (cVar 1)])]))
  (cDrop (cMeth 0 (cCall LM.F_Document_carry_out [.lo 0 docT, .sh, .sh, .sh] .sh [0, 1, 2, 3] [] (.vr 0 :: [.tm (cPrim gTup [.tm (cK (.str "add_line")), .tm (cVar 1), .tm (cVar 2)]), .tm (cFld 0 0), .tm (cVar 3)]))))))))
noncomputable def F_Document_add_line : FnD := runF 4 [.ps docT, .sh, .sh] m_Document_add_line
/-! Document.add_width(self, index, width); slots: 0 self 1 index 2 width 3 widths -/
noncomputable def m_Document_add_width : CS :=
  (cSeq (cIfS (cNot (cTest (cCall LM.F_is_integer [.sh, .sh, .sh] .sh [0, 1, 2] [] [.tm (cVar 1), .tm (cK (.int 0)), .tm (cPrim gLen [.tm (cFld 0 0)])])))
    cStuck
    cSkip)
  (cSeq (cIfS (cOr (cNot (cTest (cCall LM.F_is_width [.sh] .sh [0] [] [.tm (cVar 2)]))) (cTest (cPrim gGe [.tm (cPrim gLen [.tm (cFld 0 0)]), .tm (cK (.int 20))])))
    cStuck
    cSkip)
  (cSeq (cAsg 3 (cPrim gAdd [.tm (cPrim gAdd [.tm (cPrim gSl01 [.tm (cFld 0 0), .tm (cVar 1)]), .tm (cPrim gLst [.tm (cVar 2)])]), .tm (cPrim gSl10 [.tm (cFld 0 0), .tm (cVar 1)])]))
  (cDrop (cMeth 0 (cCall LM.F_Document_carry_out [.lo 0 docT, .sh, .sh, .sh] .sh [0, 1, 2, 3] [] (.vr 0 :: [.tm (cPrim gTup [.tm (cK (.str "add_width")), .tm (cVar 1), .tm (cVar 2)]), .tm (cVar 3), .tm (cFld 0 1)])))))))
noncomputable def F_Document_add_width : FnD := runF 4 [.ps docT, .sh, .sh] m_Document_add_width
/-! _law_parts(plan, span); slots: 0 plan 1 span 2 found 3 most 4 shorter 5 part -/
noncomputable def m__law_parts : CS :=
  (cSeq (cAsg 2 (cPrim gMul [.tm (cPrim gLst [.tm (cVar 1)]), .tm (cPrim gInt [.tm (cPrim gGt [.tm (cVar 1), .tm (cK (.int 0))])])]))
  (cSeq (cFor (cIt giL [.tm (cVar 0)]) (.nm 3)
    (cSeq (cAsg 4 (cPrim gLst []))
    (cSeq (cFor (cIt giL [.tm (cVar 2)]) (.nm 5)
      (cSeq (cAsg 4 (cPrim gAdd [.vr 4, .tm (cPrim gMul [.tm (cPrim gLst [.tm (cVar 3)]), .tm (cPrim gFdiv [.tm (cVar 5), .tm (cVar 3)])])]))
      (cIfS (cTest (cPrim gGt [.tm (cPrim gMod [.tm (cVar 5), .tm (cVar 3)]), .tm (cK (.int 0))]))
        (cDrop (cMut 4 mApp [.tm (cPrim gMod [.tm (cVar 5), .tm (cVar 3)])]))
        cSkip)))
    (cSeq (cAsg 2 (cVar 4))
    (cForget 4 cSkip)))))
  (cRet (cVar 2))))
noncomputable def F__law_parts : FnD := runF 6 [.sh, .sh] m__law_parts
/-! Document.row_counts(self); slots: 0 self 1 own 2 length -/
noncomputable def m_Document_row_counts : CS :=
  (cSeq (cAsg 1 (cCall LM.F_effective_of [.sh] .sh [0] [] [.tm (cFld 0 0)]))
  (cRet (cLc (cIt giL [.tm (cFld 0 1)]) (.nm 2) cYes (cPrim gMax2 [.tm (cK (.int 1)), .tm (cCall LM.F_breaks_below [.sh, .sh] .sh [0, 1] [] [.tm (cVar 1), .tm (cVar 2)])]) [2])))
noncomputable def F_Document_row_counts : FnD := runF 3 [.ps docT] m_Document_row_counts
/-! Document.rows(self); slots: 0 self -/
noncomputable def m_Document_rows : CS :=
  (cRet (cPrim gSum [.tm (cMeth 0 (cCall LM.F_Document_row_counts [.lo 0 docT] .sh [0] [] (.vr 0 :: [])))]))
noncomputable def F_Document_rows : FnD := runF 1 [.ps docT] m_Document_rows
/-! Document.locate(self, row); slots: 0 self 1 row 2 counts 3 line -/
noncomputable def m_Document_locate : CS :=
  (cSeq (cAsg 2 (cMeth 0 (cCall LM.F_Document_row_counts [.lo 0 docT] .sh [0] [] (.vr 0 :: []))))
  (cSeq (cIfS (cNot (cTest (cCall LM.F_is_integer [.sh, .sh, .sh] .sh [0, 1, 2] [] [.tm (cVar 1), .tm (cK (.int 0)), .tm (cPrim gSub [.tm (cPrim gSum [.tm (cVar 2)]), .tm (cK (.int 1))])])))
    cStuck
    cSkip)
  (cSeq (cAsg 3 (cK (.int 0)))
  (cSeq (whileD (cTest (cPrim gGe [.tm (cVar 1), .tm (cPrim gIx [.tm (cVar 2), .tm (cVar 3)])]))
    (cSeq (cAug 1 gSubI (cPrim gIx [.tm (cVar 2), .tm (cVar 3)]))
    (cAug 3 gAddI (cK (.int 1)))) (10 ^ 80))
  (cRet (cPrim gTup [.tm (cVar 3), .tm (cCall LM.F_break_at [.sh, .sh] .sh [0, 1] [] [.tm (cCall LM.F_effective_of [.sh] .sh [0] [] [.tm (cFld 0 0)]), .tm (cVar 1)])]))))))
noncomputable def F_Document_locate : FnD := runF 4 [.ps docT, .sh] m_Document_locate
/-! Document.require_line(self, index); slots: 0 self 1 index -/
noncomputable def m_Document_require_line : CS :=
  (cIfS (cNot (cTest (cCall LM.F_is_integer [.sh, .sh, .sh] .sh [0, 1, 2] [] [.tm (cVar 1), .tm (cK (.int 0)), .tm (cPrim gSub [.tm (cPrim gLen [.tm (cFld 0 1)]), .tm (cK (.int 1))])])))
    cStuck
    cSkip)
noncomputable def F_Document_require_line : FnD := runF 2 [.ps docT, .sh] m_Document_require_line
/-! Document.row_of(self, line, position); slots: 0 self 1 line 2 position 3 above -/
noncomputable def m_Document_row_of : CS :=
  (cSeq (cDrop (cMeth 0 (cCall LM.F_Document_require_line [.lo 0 docT, .sh] .sh [0, 1] [] (.vr 0 :: [.tm (cVar 1)]))))
  (cSeq (cIfS (cNot (cTest (cCall LM.F_is_integer [.sh, .sh, .sh] .sh [0, 1, 2] [] [.tm (cVar 2), .tm (cK (.int 0)), .tm (cPrim gSub [.tm (cPrim gIx [.tm (cFld 0 1), .tm (cVar 1)]), .tm (cK (.int 1))])])))
    cStuck
    cSkip)
  (cSeq (cAsg 3 (cPrim gSum [.tm (cPrim gSl01 [.tm (cMeth 0 (cCall LM.F_Document_row_counts [.lo 0 docT] .sh [0] [] (.vr 0 :: []))), .tm (cVar 1)])]))
  (cRet (cPrim gSub [.tm (cPrim gAdd [.tm (cVar 3), .tm (cCall LM.F_breaks_below [.sh, .sh] .sh [0, 1] [] [.tm (cCall LM.F_effective_of [.sh] .sh [0] [] [.tm (cFld 0 0)]), .tm (cPrim gAdd [.tm (cVar 2), .tm (cK (.int 1))])])]), .tm (cK (.int 1))])))))
noncomputable def F_Document_row_of : FnD := runF 4 [.ps docT, .sh, .sh] m_Document_row_of
/-! _law_doc_rows(model); slots: 0 model 1 plan 2 spans 3 found 4 at 5 span 6 begin 7 part -/
noncomputable def m__law_doc_rows : CS :=
  (cSeq (cUnpL [1, 2] (cVar 0))
  (cSeq (cAsg 3 (cPrim gLst []))
  (cSeq (cFor (cIt giE [.tm (cVar 2)]) (.tp [4, 5])
    (cSeq (cAsg 6 (cK (.int 0)))
    (cFor (cIt giL [.tm (cIf (cTest (cPrim gGt [.tm (cVar 5), .tm (cK (.int 0))])) (cCall LM.F__law_parts [.sh, .sh] .sh [0, 1] [] [.tm (cVar 1), .tm (cVar 5)]) (cPrim gLst [.tm (cK (.int 1))]))]) (.nm 7)
      (cSeq (cDrop (cMut 3 mApp [.tm (cPrim gTup [.tm (cVar 4), .tm (cVar 6)])]))
      (cAsg 6 (cPrim gAdd [.tm (cVar 6), .tm (cVar 7)]))))))
  (cRet (cVar 3)))))
noncomputable def F__law_doc_rows : FnD := runF 8 [.sh] m__law_doc_rows
/-! Console.__init__(self); slots: 0 self -/
noncomputable def m_Console___init__ : CS :=
  (cSetF 0 0 (cPrim gLst []))
noncomputable def F_Console___init__ : FnD := runF 1 [.ps conT] m_Console___init__
/-! format_widths(widths); slots: 0 widths 1 width -/
noncomputable def m_format_widths : CS :=
  (cSeq (cDrop (cCall LM.F_require_widths [.sh] .sh [0] [] [.tm (cVar 0)]))
  (cRet (cIf (cTest (cPrim gNe [.tm (cVar 0), .tm (cPrim gLst [])])) (cPrim gJoin [.tm (cStr (cK (.str ","))), .tm (cLc (cIt giL [.tm (cVar 0)]) (.nm 1) cYes (cPrim gStrI [.tm (cVar 1)]) [1])]) (cK (.str "-")))))
noncomputable def F_format_widths : FnD := runF 2 [.sh] m_format_widths
/-! Console.answer_number(self, word, number); slots: 0 self 1 word 2 number -/
noncomputable def m_Console_answer_number : CS :=
  (cSeq (cIfS (cTest (cPrim gIs [.tm (cVar 2), .tm (cK .non)]))
    cStuck
    cSkip)
  (cSeq (cIfS (cTest (cPrim gEq [.tm (cVar 1), .tm (cK (.str "column"))]))
    (cRet (cPrim gStrI [.tm (cCall LM.F_column [.sh, .sh] .sh [0, 1] [] [.tm (cFld 0 0), .tm (cVar 2)])]))
    cSkip)
  (cSeq (cIfS (cTest (cPrim gEq [.tm (cVar 1), .tm (cK (.str "count"))]))
    (cRet (cPrim gStrI [.tm (cCall LM.F_count_pieces [.sh, .sh] .sh [0, 1] [] [.tm (cFld 0 0), .tm (cVar 2)])]))
    cSkip)
  (cRet (cPrim gStrI [.tm (cCall LM.F_nth_break [.sh, .sh] .sh [0, 1] [] [.tm (cFld 0 0), .tm (cVar 2)])])))))
noncomputable def F_Console_answer_number : FnD := runF 3 [.ps conT, .sh, .sh] m_Console_answer_number
/-! number_of(word); slots: 0 word 1 sign 2 number -/
noncomputable def m_number_of : CS :=
  (cSeq (cIfS (cOr (cNot (cTest (cChain gLe gLe (cK (.int 1)) (cPrim gLen [.tm (cVar 0)]) (cK (.int 31))))) (cTest (cPrim gNe [.tm (cLc (cIt giS [.tm (cVar 0)]) (.nm 1) (cNot (cTest (cChain gLeS gLeS (cK (.str "0")) (cVar 1) (cK (.str "9"))))) (cVar 1) [1]), .tm (cPrim gLst [])])))
    (cRet (cK .non))
    cSkip)
  (cSeq (cIfS (cAnd (cTest (cPrim gEq [.tm (cPrim gIx [.tm (cVar 0), .tm (cK (.int 0))]), .tm (cK (.str "0"))])) (cTest (cPrim gNe [.tm (cVar 0), .tm (cK (.str "0"))])))
    (cRet (cK .non))
    cSkip)
  (cSeq (cAsg 2 (cPrim gIntS [.tm (cVar 0)]))
  (cRet (cIf (cTest (cPrim gLe [.tm (cVar 2), .tm (cK (.int 1000000000000000000000000000000))])) (cVar 2) (cK .non))))))
noncomputable def F_number_of : FnD := runF 3 [.sh] m_number_of
/-! parse_widths(text); slots: 0 text 1 widths 2 part 3 index 4 width -/
noncomputable def m_parse_widths : CS :=
  (cSeq (cIfS (cNot (cTest (cPrim gIsi [.tm (cVar 0), .tm (cK (.ty "str"))])))
    cStuck
    cSkip)
  (cSeq (cIfS (cTest (cPrim gEq [.tm (cVar 0), .tm (cK (.str "-"))]))
    (cRet (cPrim gLst []))
    cSkip)
  (cSeq (cAsg 1 (cLc (cIt giL [.tm (cPrim gSplit [.tm (cStr (cVar 0)), .tm (cK (.str ","))])]) (.nm 2) cYes (cCall LM.F_number_of [.sh] .sh [0] [] [.tm (cVar 2)]) [2]))
  (cSeq (cFor (cIt giE [.tm (cVar 1)]) (.tp [3, 4])
    (cIfS (cNot (cTest (cCall LM.F_is_width [.sh] .sh [0] [] [.tm (cVar 4)])))
      cStuck
      cSkip))
  (cRet (cVar 1))))))
noncomputable def F_parse_widths : FnD := runF 5 [.sh] m_parse_widths
/-! parse_pieces(text); slots: 0 text 1 sizes 2 part 3 total 4 index 5 size -/
noncomputable def m_parse_pieces : CS :=
  (cSeq (cIfS (cNot (cTest (cPrim gIsi [.tm (cVar 0), .tm (cK (.ty "str"))])))
    cStuck
    cSkip)
  (cSeq (cAsg 1 (cLc (cIt giL [.tm (cPrim gSplit [.tm (cStr (cVar 0)), .tm (cK (.str "+"))])]) (.nm 2) cYes (cCall LM.F_number_of [.sh] .sh [0] [] [.tm (cVar 2)]) [2]))
  (cSeq (cAsg 3 (cK (.int 0)))
  (cSeq (cFor (cIt giE [.tm (cVar 1)]) (.tp [4, 5])
    (cSeq (cAug 3 gAddI (cIf (cTest (cPrim gIs [.tm (cVar 5), .tm (cK .non)])) (cK (.int 0)) (cVar 5)))
    (cIfS (cOr (cTest (cPrim gIs [.tm (cVar 5), .tm (cK .non)])) (cOr (cTest (cPrim gEq [.tm (cVar 5), .tm (cK (.int 0))])) (cOr (cTest (cPrim gGe [.tm (cVar 4), .tm (cK (.int 400))])) (cTest (cPrim gGt [.tm (cVar 3), .tm (cK (.int 10000))])))))
      cStuck
      cSkip)))
  (cRet (cVar 1))))))
noncomputable def F_parse_pieces : FnD := runF 6 [.sh] m_parse_pieces
/-! format_pieces(pieces); slots: 0 pieces 1 size -/
noncomputable def m_format_pieces : CS :=
  (cSeq (cDrop (cCall LM.F_require_pieces [.sh] .sh [0] [] [.tm (cVar 0)]))
  (cRet (cPrim gJoin [.tm (cStr (cK (.str "+"))), .tm (cLc (cIt giL [.tm (cVar 0)]) (.nm 1) cYes (cPrim gStrI [.tm (cVar 1)]) [1])])))
noncomputable def F_format_pieces : FnD := runF 2 [.sh] m_format_pieces
/-! _law_same(found, due); slots: 0 found 1 due 2 one 3 two -/
noncomputable def m__law_same_v2 (F : FnD) : CS :=
  (cSeq (cIfS (cTest (cIsi2 "list" "tuple" (cVar 1)))
    (cSeq (cIfS (cOr (cTest (cPrim gNe [.tm (cPrim gIsi [.tm (cVar 0), .tm (cK (.ty "list"))]), .tm (cPrim gIsi [.tm (cVar 1), .tm (cK (.ty "list"))])])) (cTest (cPrim gNe [.tm (cPrim gIsi [.tm (cVar 0), .tm (cK (.ty "tuple"))]), .tm (cPrim gIsi [.tm (cVar 1), .tm (cK (.ty "tuple"))])])))
      (cRet (cK (.bl false)))
      cSkip)
    (cSeq (cIfS (cTest (cPrim gNe [.tm (cPrim gLen [.tm (cVar 0)]), .tm (cPrim gLen [.tm (cVar 1)])]))
      (cRet (cK (.bl false)))
      cSkip)
    (cRet (cPrim gEq [.tm (cLc (cIt giZA [.tm (cVar 0), .tm (cVar 1)]) (.tp [2, 3]) (cNot (cTest (cCall F [.sh, .sh] .sh [0, 1] [] [.tm (cVar 2), .tm (cVar 3)]))) (cK (.int 1)) [2, 3]), .tm (cPrim gLst [])]))))
    cSkip)
  (cSeq (cIfS (cOr (cTest (cPrim gIs [.tm (cVar 1), .tm (cK .non)])) (cTest (cPrim gIs [.tm (cVar 0), .tm (cK .non)])))
    (cRet (cAndV (cPrim gIs [.tm (cVar 1), .tm (cK .non)]) (cPrim gIs [.tm (cVar 0), .tm (cK .non)])))
    cSkip)
  (cSeq (cIfS (cOr (cTest (cPrim gNe [.tm (cPrim gIsi [.tm (cVar 0), .tm (cK (.ty "bool"))]), .tm (cPrim gIsi [.tm (cVar 1), .tm (cK (.ty "bool"))])])) (cTest (cPrim gNe [.tm (cPrim gIsi [.tm (cVar 0), .tm (cK (.ty "str"))]), .tm (cPrim gIsi [.tm (cVar 1), .tm (cK (.ty "str"))])])))
    (cRet (cK (.bl false)))
    cSkip)
  (cRet (cPrim gEq [.tm (cVar 0), .tm (cVar 1)])))))
noncomputable def F__law_same_v2 : Nat → FnD
  | 0 => fun _ => none
  | n + 1 => runF 4 [.sh, .sh] (m__law_same_v2 (F__law_same_v2 n))
/-! Console.execute(self, command); slots: 0 self 1 command 2 words 3 found -/
noncomputable def m_Console_execute : CS :=
  (cSeq (cAsg 2 (cIf (cTest (cPrim gIsi [.tm (cVar 1), .tm (cK (.ty "str"))])) (cPrim gSplit [.tm (cStr (cVar 1)), .tm (cK (.str " "))]) (cPrim gLst [.tm (cK (.str ""))])))
  (cSeq (cIfS (cOr (cTest (cNotInK kv_WORD_COUNTS (cPrim gIx [.tm (cVar 2), .tm (cK (.int 0))]))) (cTest (cPrim gNe [.tm (cPrim gLen [.tm (cVar 2)]), .tm (cItemK kv_WORD_COUNTS (cPrim gIx [.tm (cVar 2), .tm (cK (.int 0))]))])))
    cStuck
    cSkip)
  (cSeq (cIfS (cTest (cPrim gInT [.tm (cPrim gIx [.tm (cVar 2), .tm (cK (.int 0))]), .tm (cK (.tup [.str "column", .str "count", .str "break"]))]))
    (cRet (cMeth 0 (cCall LM.F_Console_answer_number [.lo 0 conT, .sh, .sh] .sh [0, 1, 2] [] (.vr 0 :: [.tm (cPrim gIx [.tm (cVar 2), .tm (cK (.int 0))]), .tm (cCall LM.F_number_of [.sh] .sh [0] [] [.tm (cPrim gIx [.tm (cVar 2), .tm (cK (.int 1))])])]))))
    cSkip)
  (cSeq (cIfS (cTest (cPrim gEq [.tm (cPrim gIx [.tm (cVar 2), .tm (cK (.int 0))]), .tm (cK (.str "compare"))]))
    (cSeq (cAsg 3 (cCall LM.F_first_difference [.sh, .sh] .sh [0, 1] [] [.tm (cFld 0 0), .tm (cCall LM.F_parse_widths [.sh] .sh [0] [] [.tm (cPrim gIx [.tm (cVar 2), .tm (cK (.int 1))])])]))
    (cRet (cIf (cTest (cPrim gIs [.tm (cVar 3), .tm (cK .non)])) (cK (.str "equal")) (cPrim gStrI [.tm (cVar 3)]))))
    cSkip)
  (cSeq (cIfS (cTest (cPrim gEq [.tm (cPrim gIx [.tm (cVar 2), .tm (cK (.int 0))]), .tm (cK (.str "widths"))]))
    (cSeq (cSetF 0 0 (cCall LM.F_parse_widths [.sh] .sh [0] [] [.tm (cPrim gIx [.tm (cVar 2), .tm (cK (.int 1))])]))
    (cRet (cK (.str "ok"))))
    cSkip)
  (cSeq (cIfS (cTest (cPrim gEq [.tm (cPrim gIx [.tm (cVar 2), .tm (cK (.int 0))]), .tm (cK (.str "read"))]))
    (cSetF 0 0 (cCall LM.F_shortest_widths [.sh] .sh [0] [] [.tm (cCall LM.F_parse_pieces [.sh] .sh [0] [] [.tm (cPrim gIx [.tm (cVar 2), .tm (cK (.int 1))])])]))
    cSkip)
  (cRet (cCall LM.F_format_widths [.sh] .sh [0] [] [.tm (cIf (cTest (cPrim gEq [.tm (cPrim gIx [.tm (cVar 2), .tm (cK (.int 0))]), .tm (cK (.str "normal"))])) (cCall LM.F_normal_form [.sh] .sh [0] [] [.tm (cFld 0 0)]) (cFld 0 0))]))))))))
noncomputable def F_Console_execute : FnD := runF 4 [.ps conT, .sh] m_Console_execute
/-! _law_hand(script); slots: 0 script -/
noncomputable def m__law_hand : CS :=
  (cRet (cPrim gLst [.tm (cPrim gList [.tm (cVar 0)]), .tm (cK (.int 0)), .tm (cK (.int 0)), .tm (cK (.int 0)), .tm (cK (.int 0))]))
noncomputable def F__law_hand : FnD := runF 1 [.sh] m__law_hand
/-! _law_draw(hand, size); slots: 0 hand 1 size 2 value 3 cell 4 mixed -/
noncomputable def m__law_draw_v2 (F : FnD) : CS :=
  (cSeq (cIfS (cTest (cPrim gGt [.tm (cPrim gIx [.vr 0, .tm (cK (.int 2))]), .tm (cK (.int 0))]))
    (cSeq (cAsg 2 (cPrim gMod [.tm (cPrim gInt [.tm (cPrim gIx [.vr 0, .tm (cK (.int 2))])]), .tm (cVar 1)]))
    (cSeq (cSetI 0 (cPrim gFdiv [.tm (cPrim gIx [.vr 0, .tm (cK (.int 2))]), .tm (cVar 1)]) (cK (.int 2)))
    (cRet (cVar 2))))
    cSkip)
  (cSeq (cAsg 3 (cK (.int 0)))
  (cSeq (cIfS (cTest (cPrim gLt [.tm (cPrim gIx [.vr 0, .tm (cK (.int 1))]), .tm (cPrim gLen [.tm (cPrim gIx [.vr 0, .tm (cK (.int 0))])])]))
    (cSeq (cAsg 3 (cPrim gIx [.tm (cPrim gIx [.vr 0, .tm (cK (.int 0))]), .tm (cPrim gIx [.vr 0, .tm (cK (.int 1))])]))
    (cSetI 0 (cPrim gAdd [.tm (cPrim gIx [.vr 0, .tm (cK (.int 1))]), .tm (cK (.int 1))]) (cK (.int 1))))
    cSkip)
  (cSeq (cIfS (cTest (cPrim gGe [.tm (cPrim gAbs [.tm (cVar 3)]), .tm (cPrim gPow [.tm (cK (.int 10)), .tm (cK (.int 18))])]))
    (cSeq (cSetI 0 (cPrim gFdiv [.tm (cPrim gAbs [.tm (cVar 3)]), .tm (cVar 1)]) (cK (.int 2)))
    (cRet (cPrim gMod [.tm (cPrim gInt [.tm (cPrim gAbs [.tm (cVar 3)])]), .tm (cVar 1)])))
    cSkip)
  (cSeq (cSetI 0 (cPrim gAdd [.tm (cPrim gIx [.vr 0, .tm (cK (.int 4))]), .tm (cK (.int 1))]) (cK (.int 4)))
  (cSeq (cAsg 4 (cPrim gMod [.tm (cPrim gInt [.tm (cPrim gAdd [.tm (cPrim gAdd [.tm (cPrim gAdd [.tm (cPrim gMul [.tm (cPrim gIx [.vr 0, .tm (cK (.int 3))]), .tm (cK (.int 40014))]), .tm (cPrim gMul [.tm (cVar 3), .tm (cK (.int 69069))])]), .tm (cPrim gMul [.tm (cPrim gIx [.vr 0, .tm (cK (.int 4))]), .tm (cK (.int 22193))])]), .tm (cK (.int 7919))])]), .tm (cK (.int 2147483563))]))
  (cSeq (cAsg 4 (cPrim gMod [.tm (cPrim gInt [.tm (cPrim gAdd [.tm (cPrim gMul [.tm (cPrim gMod [.tm (cPrim gMul [.tm (cVar 4), .tm (cVar 4)]), .tm (cK (.int 2147483399))]), .tm (cVar 4)]), .tm (cVar 3)])]), .tm (cK (.int 2147483399))]))
  (cSeq (cSetI 0 (cVar 4) (cK (.int 3)))
  (cSeq (cIfS (cTest (cPrim gGt [.tm (cVar 1), .tm (cPrim gPow [.tm (cK (.int 10)), .tm (cK (.int 6))])]))
    (cRet (cPrim gMod [.tm (cPrim gInt [.tm (cPrim gAdd [.tm (cPrim gMod [.tm (cPrim gFdiv [.tm (cVar 4), .tm (cK (.int 32))]), .tm (cPrim gPow [.tm (cK (.int 10)), .tm (cK (.int 6))])]), .tm (cPrim gMul [.tm (cPrim gPow [.tm (cK (.int 10)), .tm (cK (.int 6))]), .tm (cCall F [.ln 0, .sh] .sh [0, 1] [] [.vr 0, .tm (cPrim gAdd [.tm (cPrim gFdiv [.tm (cVar 1), .tm (cPrim gPow [.tm (cK (.int 10)), .tm (cK (.int 6))])]), .tm (cK (.int 1))])])])])]), .tm (cVar 1)]))
    cSkip)
  (cRet (cPrim gMod [.tm (cPrim gFdiv [.tm (cVar 4), .tm (cK (.int 32))]), .tm (cVar 1)])))))))))))
noncomputable def F__law_draw_v2 : Nat → FnD
  | 0 => fun _ => none
  | n + 1 => runF 5 [.pr, .sh] (m__law_draw_v2 (F__law_draw_v2 n))
/-! _law_widths(hand, most, top); slots: 0 hand 1 most 2 top 3 found 4 turn -/
noncomputable def m__law_widths : CS :=
  (cSeq (cAsg 3 (cLc (cIt giR1 [.tm (cCall (LM.F__law_draw_v2 8) [.ln 0, .sh] .sh [0, 1] [] [.vr 0, .tm (cPrim gAdd [.tm (cVar 1), .tm (cK (.int 1))])])]) (.nm 4) cYes (cPrim gAdd [.tm (cK (.int 1)), .tm (cCall (LM.F__law_draw_v2 8) [.ln 0, .sh] .sh [0, 1] [] [.vr 0, .tm (cVar 2)])]) [4]))
  (cSeq (cIfS (cTest (cPrim gGt [.tm (cCall (LM.F__law_draw_v2 8) [.ln 0, .sh] .sh [0, 1] [] [.vr 0, .tm (cK (.int 3))]), .tm (cK (.int 0))]))
    (cAsg 3 (cPrim gRev [.tm (cPrim gSorted [.tm (cVar 3)])]))
    cSkip)
  (cRet (cVar 3))))
noncomputable def F__law_widths : FnD := runF 5 [.pr, .sh, .sh] m__law_widths
/-! _law_column(widths, position); slots: 0 widths 1 position 2 width -/
noncomputable def m__law_column : CS :=
  (cSeq (cFor (cIt giL [.tm (cVar 0)]) (.nm 2)
    (cAsg 1 (cPrim gMod [.tm (cPrim gInt [.tm (cVar 1)]), .tm (cVar 2)])))
  (cRet (cVar 1)))
noncomputable def F__law_column : FnD := runF 3 [.sh, .sh] m__law_column
/-! _law_sizes(widths, length); slots: 0 widths 1 length 2 found 3 position -/
noncomputable def m__law_sizes : CS :=
  (cSeq (cAsg 2 (cPrim gLst []))
  (cSeq (cFor (cIt giR1 [.tm (cVar 1)]) (.nm 3)
    (cSeq (cIfS (cTest (cPrim gEq [.tm (cCall LM.F__law_column [.sh, .sh] .sh [0, 1] [] [.tm (cVar 0), .tm (cVar 3)]), .tm (cK (.int 0))]))
      (cDrop (cMut 2 mApp [.tm (cK (.int 0))]))
      cSkip)
    (cSetI 2 (cPrim gAdd [.tm (cPrim gIx [.vr 2, .tm (cPrim gNeg [.tm (cK (.int 1))])]), .tm (cK (.int 1))]) (cPrim gNeg [.tm (cK (.int 1))]))))
  (cRet (cVar 2))))
noncomputable def F__law_sizes : FnD := runF 4 [.sh, .sh] m__law_sizes
/-! _law_period(values); slots: 0 values 1 turn -/
noncomputable def m__law_period : CS :=
  (cSeq (cFor (cIt giR2 [.tm (cK (.int 1)), .tm (cPrim gLen [.tm (cVar 0)])]) (.nm 1)
    (cIfS (cTest (cPrim gEq [.tm (cPrim gSl10 [.tm (cVar 0), .tm (cVar 1)]), .tm (cPrim gSl01 [.tm (cVar 0), .tm (cPrim gSub [.tm (cPrim gLen [.tm (cVar 0)]), .tm (cVar 1)])])]))
      (cRet (cVar 1))
      cSkip))
  (cRet (cPrim gLen [.tm (cVar 0)])))
noncomputable def F__law_period : FnD := runF 2 [.sh] m__law_period
/-! _law_falling(values); slots: 0 values 1 found -/
noncomputable def m__law_falling : CS :=
  (cSeq (cAsg 1 (cPrim gLst []))
  (cSeq (whileD (cTest (cPrim gLt [.tm (cCall LM.F__law_period [.sh] .sh [0] [] [.tm (cVar 0)]), .tm (cPrim gLen [.tm (cVar 0)])]))
    (cSeq (cDrop (cMut 1 mApp [.tm (cCall LM.F__law_period [.sh] .sh [0] [] [.tm (cVar 0)])]))
    (cAsg 0 (cPrim gSl01 [.tm (cVar 0), .tm (cPrim gIx [.vr 1, .tm (cPrim gNeg [.tm (cK (.int 1))])])]))) (10 ^ 80))
  (cRet (cVar 1))))
noncomputable def F__law_falling : FnD := runF 2 [.sh] m__law_falling
/-! _law_left(plan, spot); slots: 0 plan 1 spot 2 most -/
noncomputable def m__law_left : CS :=
  (cSeq (cFor (cIt giL [.tm (cVar 0)]) (.nm 2)
    (cAsg 1 (cPrim gMod [.tm (cVar 1), .tm (cVar 2)])))
  (cRet (cVar 1)))
noncomputable def F__law_left : FnD := runF 3 [.sh, .sh] m__law_left
/-! _law_shown(plan); slots: 0 plan 1 most -/
noncomputable def m__law_shown : CS :=
  (cRet (cIf (cTest (cPrim gNe [.tm (cVar 0), .tm (cPrim gLst [])])) (cPrim gJoin [.tm (cStr (cK (.str ","))), .tm (cLc (cIt giL [.tm (cVar 0)]) (.nm 1) cYes (cPrim gStrI [.tm (cVar 1)]) [1])]) (cK (.str "-"))))
noncomputable def F__law_shown : FnD := runF 2 [.sh] m__law_shown
/-! _law_blocks(plan, totals, span); slots: 0 plan 1 totals 2 span 3 found 4 most 5 total -/
noncomputable def m__law_blocks : CS :=
  (cSeq (cAsg 3 (cK (.int 0)))
  (cSeq (cFor (cIt giZ [.tm (cVar 0), .tm (cVar 1)]) (.tp [4, 5])
    (cSeq (cAsg 3 (cPrim gAdd [.tm (cVar 3), .tm (cPrim gMul [.tm (cPrim gFdiv [.tm (cVar 2), .tm (cVar 4)]), .tm (cVar 5)])]))
    (cAsg 2 (cPrim gMod [.tm (cVar 2), .tm (cVar 4)]))))
  (cRet (cPrim gAdd [.tm (cVar 3), .tm (cPrim gInt [.tm (cPrim gGt [.tm (cVar 2), .tm (cK (.int 0))])])]))))
noncomputable def F__law_blocks : FnD := runF 6 [.sh, .sh, .sh] m__law_blocks
/-! _law_many(plan, span); slots: 0 plan 1 span 2 totals 3 k -/
noncomputable def m__law_many : CS :=
  (cSeq (cAsg 2 (cPrim gLst []))
  (cSeq (cFor (cIt giRm [.tm (cPrim gSub [.tm (cPrim gLen [.tm (cVar 0)]), .tm (cK (.int 1))]), .tm (cPrim gNeg [.tm (cK (.int 1))]), .tm (cPrim gNeg [.tm (cK (.int 1))])]) (.nm 3)
    (cDrop (cMut 2 mIns [.tm (cK (.int 0)), .tm (cCall LM.F__law_blocks [.sh, .bo 2, .sh] .sh [0, 1, 2] [] [.tm (cPrim gSl10 [.tm (cVar 0), .tm (cPrim gAdd [.tm (cVar 3), .tm (cK (.int 1))])]), .vr 2, .tm (cPrim gIx [.tm (cVar 0), .tm (cVar 3)])])])))
  (cRet (cCall LM.F__law_blocks [.sh, .bo 2, .sh] .sh [0, 1, 2] [] [.tm (cVar 0), .vr 2, .tm (cVar 1)]))))
noncomputable def F__law_many : FnD := runF 4 [.sh, .sh] m__law_many
/-! Document.undo(self); slots: 0 self -/
noncomputable def m_Document_undo : CS :=
  (cSeq (cIfS (cTest (cFldZ 0 2 gEq))
    cStuck
    cSkip)
  (cSeq (cDrop (cMutF 0 2 mPop))
  (cPopU 0 3 0 1)))
noncomputable def F_Document_undo : FnD := runF 1 [.ps docT] m_Document_undo
/-! Document.remove_width(self, index); slots: 0 self 1 index 2 widths -/
noncomputable def m_Document_remove_width : CS :=
  (cSeq (cIfS (cNot (cTest (cCall LM.F_is_integer [.sh, .sh, .sh] .sh [0, 1, 2] [] [.tm (cVar 1), .tm (cK (.int 0)), .tm (cPrim gSub [.tm (cPrim gLen [.tm (cFld 0 0)]), .tm (cK (.int 1))])])))
    cStuck
    cSkip)
  (cSeq (cAsg 2 (cPrim gAdd [.tm (cPrim gSl01 [.tm (cFld 0 0), .tm (cVar 1)]), .tm (cPrim gSl10 [.tm (cFld 0 0), .tm (cPrim gAdd [.tm (cVar 1), .tm (cK (.int 1))])])]))
  (cDrop (cMeth 0 (cCall LM.F_Document_carry_out [.lo 0 docT, .sh, .sh, .sh] .sh [0, 1, 2, 3] [] (.vr 0 :: [.tm (cPrim gTup [.tm (cK (.str "remove_width")), .tm (cVar 1)]), .tm (cVar 2), .tm (cFld 0 1)]))))))
noncomputable def F_Document_remove_width : FnD := runF 3 [.ps docT, .sh] m_Document_remove_width
/-! Document.__eq__(self, other); slots: 0 self 1 other -/
noncomputable def m_Document___eq__ : CS :=
  (cSeq (cIfS (cNot (cTest (cIsO 1)))
    (cRet (cK (.bl false)))
    cSkip)
  (cRet (cAndV (cPrim gEq [.tm (cFld 0 1), .tm (cFld 1 1)]) (cCall LM.F_are_equal [.sh, .sh] .sh [0, 1] [] [.tm (cFld 0 0), .tm (cFld 1 0)]))))
noncomputable def F_Document___eq__ : FnD := runF 2 [.ps docT, .ps docT] m_Document___eq__
/-! _law_no_widths(bag, chain); slots: 0 bag 1 chain 2 odd 3 at 4 found -/
noncomputable def m__law_no_widths : CS :=
  (cSeq (cAsg 2 (cPrim gIx [.tm (cPrim gLst [.tm (cK (.int 0)), .tm (cPrim gNeg [.tm (cK (.int 1))]), .tm (cK (.int 10001)), .tm (cPrim gPow [.tm (cK (.int 10)), .tm (cK (.int 30))]), .tm (cK (.bl true)), .tm (cK (.bl false)), .tm (cK .non), .tm (cK (.str "3")), .tm (cPrim gLst [.tm (cK (.int 3))]), .tm (cPrim gTup [.tm (cK (.int 3))])]), .tm (cCall LM.F__law_take [.ln 0, .sh] .sh [0, 1] [] [.vr 0, .tm (cK (.int 10))])]))
  (cSeq (cAsg 3 (cCall LM.F__law_take [.ln 0, .sh] .sh [0, 1] [] [.vr 0, .tm (cPrim gAdd [.tm (cPrim gLen [.tm (cVar 1)]), .tm (cK (.int 1))])]))
  (cSeq (cAsg 4 (cPrim gLst [.tm (cPrim gAdd [.tm (cPrim gAdd [.tm (cPrim gSl01 [.tm (cVar 1), .tm (cVar 3)]), .tm (cPrim gLst [.tm (cVar 2)])]), .tm (cPrim gSl10 [.tm (cVar 1), .tm (cVar 3)])]), .tm (cPrim gAdd [.tm (cPrim gLst [.tm (cVar 2)]), .tm (cVar 1)]), .tm (cPrim gLst [.tm (cVar 2)]), .tm (cPrim gTuple [.tm (cVar 1)]), .tm (cK .non), .tm (cK (.str "")), .tm (cK (.int 5)), .tm (cPrim gDic []), .tm (cK (.str "3")), .tm (cPrim gTup [.tm (cVar 1)])]))
  (cRet (cPrim gIx [.tm (cVar 4), .tm (cCall LM.F__law_take [.ln 0, .sh] .sh [0, 1] [] [.vr 0, .tm (cK (.int 10))])])))))
noncomputable def F__law_no_widths : FnD := runF 5 [.pr, .sh] m__law_no_widths
/-! require_widths(widths); slots: 0 widths -/
noncomputable def m_require_widths_v2 : CS :=
  (cIfS (cNot (cTest (cCall LM.F_is_widths [.sh] .sh [0] [] [.tm (cVar 0)])))
    (cRaise "InvalidWidths")
    cSkip)
noncomputable def F_require_widths_v2 : FnD := runF 1 [.sh] m_require_widths_v2
/-! redundant(widths); slots: 0 widths 1 index -/
noncomputable def m_redundant_v2 : CS :=
  (cSeq (cDrop (cCall LM.F_require_widths_v2 [.sh] .sh [0] [] [.tm (cVar 0)]))
  (cRet (cLc (cIt giR1 [.tm (cPrim gLen [.tm (cVar 0)])]) (.nm 1) (cTest (cCall LM.F_have_same_effect [.sh, .sh] .sh [0, 1] [] [.tm (cPrim gAdd [.tm (cPrim gSl01 [.tm (cVar 0), .tm (cVar 1)]), .tm (cPrim gSl10 [.tm (cVar 0), .tm (cPrim gAdd [.tm (cVar 1), .tm (cK (.int 1))])])]), .tm (cVar 0)])) (cVar 1) [1])))
noncomputable def F_redundant_v2 : FnD := runF 2 [.sh] m_redundant_v2
/-! _law_kind(e); slots: 0 e 1 some 2 found 3 name 4 applies -/
noncomputable def m__law_kind : CS :=
  (cSeq (cAsg 1 (cPrim gLst [.tm (cPrim gTup [.tm (cK (.str "widths")), .tm (cPrim (gIsE (["InvalidIndex", "InvalidLength", "InvalidWidths"] : List Str) (["InvalidWidths"] : List Str)) [.tm (cVar 0)])]), .tm (cPrim gTup [.tm (cK (.str "length")), .tm (cPrim (gIsE (["InvalidIndex", "InvalidLength", "InvalidWidths"] : List Str) (["InvalidLength"] : List Str)) [.tm (cVar 0)])])]))
  (cSeq (cAsg 1 (cPrim gAdd [.vr 1, .tm (cPrim gLst [.tm (cPrim gTup [.tm (cK (.str "index")), .tm (cPrim (gIsE (["InvalidIndex", "InvalidLength", "InvalidWidths"] : List Str) (["InvalidIndex"] : List Str)) [.tm (cVar 0)])]), .tm (cPrim gTup [.tm (cK (.str "pieces")), .tm (cPrim (gIsE (["InvalidIndex", "InvalidLength", "InvalidWidths"] : List Str) ([] : List Str)) [.tm (cVar 0)])])])]))
  (cSeq (cAsg 1 (cPrim gAdd [.vr 1, .tm (cPrim gLst [.tm (cPrim gTup [.tm (cK (.str "fitting")), .tm (cPrim (gIsE (["InvalidIndex", "InvalidLength", "InvalidWidths"] : List Str) ([] : List Str)) [.tm (cVar 0)])]), .tm (cPrim gTup [.tm (cK (.str "wrapped")), .tm (cPrim (gIsE (["InvalidIndex", "InvalidLength", "InvalidWidths"] : List Str) ([] : List Str)) [.tm (cVar 0)])])])]))
  (cSeq (cDrop (cMut 1 mApp [.tm (cPrim gTup [.tm (cK (.str "odd")), .tm (cPrim (gIsE (["InvalidIndex", "InvalidLength", "InvalidWidths"] : List Str) ([] : List Str)) [.tm (cVar 0)])])]))
  (cSeq (cDrop (cMut 1 mApp [.tm (cPrim gTup [.tm (cK (.str "odd")), .tm (cPrim (gIsE (["InvalidIndex", "InvalidLength", "InvalidWidths"] : List Str) ([] : List Str)) [.tm (cVar 0)])])]))
  (cSeq (cAsg 2 (cLc (cIt giL [.tm (cVar 1)]) (.tp [3, 4]) (cTest (cVar 4)) (cVar 3) [3, 4]))
  (cRet (cIf (cAnd (cTest (cPrim gEq [.tm (cPrim gLen [.tm (cVar 2)]), .tm (cK (.int 1))])) (cTest (cPrim (gIsE (["InvalidIndex", "InvalidLength", "InvalidWidths"] : List Str) (["InvalidIndex", "InvalidLength", "InvalidWidths"] : List Str)) [.tm (cVar 0)]))) (cPrim gIx [.tm (cVar 2), .tm (cK (.int 0))]) (cK (.str "odd"))))))))))
noncomputable def F__law_kind : FnD := runF 5 [.sh] m__law_kind
/-! require_index(index, greatest); slots: 0 index 1 greatest -/
noncomputable def m_require_index_v2 : CS :=
  (cIfS (cNot (cTest (cCall LM.F_is_integer [.sh, .sh, .sh] .sh [0, 1, 2] [] [.tm (cVar 0), .tm (cK (.int 0)), .tm (cVar 1)])))
    (cRaise "InvalidIndex")
    cSkip)
noncomputable def F_require_index_v2 : FnD := runF 2 [.sh, .sh] m_require_index_v2
/-! can_exchange(widths, index); slots: 0 widths 1 index 2 exchanged -/
noncomputable def m_can_exchange_v2 : CS :=
  (cSeq (cDrop (cCall LM.F_require_widths_v2 [.sh] .sh [0] [] [.tm (cVar 0)]))
  (cSeq (cDrop (cCall LM.F_require_index_v2 [.sh, .sh] .sh [0, 1] [] [.tm (cVar 1), .tm (cPrim gSub [.tm (cPrim gLen [.tm (cVar 0)]), .tm (cK (.int 2))])]))
  (cSeq (cAsg 2 (cPrim gAdd [.tm (cPrim gAdd [.tm (cPrim gSl01 [.tm (cVar 0), .tm (cVar 1)]), .tm (cPrim gLst [.tm (cPrim gIx [.tm (cVar 0), .tm (cPrim gAdd [.tm (cVar 1), .tm (cK (.int 1))])]), .tm (cPrim gIx [.tm (cVar 0), .tm (cVar 1)])])]), .tm (cPrim gSl10 [.tm (cVar 0), .tm (cPrim gAdd [.tm (cVar 1), .tm (cK (.int 2))])])]))
  (cRet (cCall LM.F_have_same_effect [.sh, .sh] .sh [0, 1] [] [.tm (cVar 2), .tm (cVar 0)])))))
noncomputable def F_can_exchange_v2 : FnD := runF 3 [.sh, .sh] m_can_exchange_v2
/-! require_length(length, least, greatest); slots: 0 length 1 least 2 greatest -/
noncomputable def m_require_length_v2 : CS :=
  (cIfS (cNot (cTest (cCall LM.F_is_integer [.sh, .sh, .sh] .sh [0, 1, 2] [] [.tm (cVar 0), .tm (cVar 1), .tm (cVar 2)])))
    (cRaise "InvalidLength")
    cSkip)
noncomputable def F_require_length_v2 : FnD := runF 3 [.sh, .sh, .sh] m_require_length_v2
/-! harmless_widths(widths, index, limit); slots: 0 widths 1 index 2 limit 3 found 4 width -/
noncomputable def m_harmless_widths_v2 : CS :=
  (cSeq (cDrop (cCall LM.F_require_widths_v2 [.sh] .sh [0] [] [.tm (cVar 0)]))
  (cSeq (cDrop (cCall LM.F_require_index_v2 [.sh, .sh] .sh [0, 1] [] [.tm (cVar 1), .tm (cPrim gLen [.tm (cVar 0)])]))
  (cSeq (cDrop (cCall LM.F_require_length_v2 [.sh, .sh, .sh] .sh [0, 1, 2] [.int 0, .int 1000000000000000000000000000000] [.tm (cVar 2), .tm (cK (.int 0)), .tm (cK (.int 100))]))
  (cSeq (cAsg 3 (cPrim gLst []))
  (cSeq (cFor (cIt giR2 [.tm (cK (.int 1)), .tm (cPrim gAdd [.tm (cVar 2), .tm (cK (.int 1))])]) (.nm 4)
    (cIfS (cTest (cCall LM.F_have_same_effect [.sh, .sh] .sh [0, 1] [] [.tm (cPrim gAdd [.tm (cPrim gAdd [.tm (cPrim gSl01 [.tm (cVar 0), .tm (cVar 1)]), .tm (cPrim gLst [.tm (cVar 4)])]), .tm (cPrim gSl10 [.tm (cVar 0), .tm (cVar 1)])]), .tm (cVar 0)]))
      (cDrop (cMut 3 mApp [.tm (cVar 4)]))
      cSkip))
  (cRet (cVar 3)))))))
noncomputable def F_harmless_widths_v2 : FnD := runF 5 [.sh, .sh, .sh] m_harmless_widths_v2
/-! commute(first, second); slots: 0 first 1 second -/
noncomputable def m_commute_v2 : CS :=
  (cSeq (cDrop (cCall LM.F_require_widths_v2 [.sh] .sh [0] [] [.tm (cVar 0)]))
  (cSeq (cDrop (cCall LM.F_require_widths_v2 [.sh] .sh [0] [] [.tm (cVar 1)]))
  (cRet (cCall LM.F_have_same_effect [.sh, .sh] .sh [0, 1] [] [.tm (cPrim gAdd [.tm (cVar 0), .tm (cVar 1)]), .tm (cPrim gAdd [.tm (cVar 1), .tm (cVar 0)])]))))
noncomputable def F_commute_v2 : FnD := runF 2 [.sh, .sh] m_commute_v2
/-! _law_not_widths(numbers, plan); slots: 0 numbers 1 plan 2 at 3 menu 4 odd 5 entry -/
noncomputable def m__law_not_widths : CS :=
  (cSeq (cAsg 2 (cCall LM.F__law_pick [.ln 0, .sh] .sh [0, 1] [] [.vr 0, .tm (cPrim gAdd [.tm (cPrim gLen [.tm (cVar 1)]), .tm (cK (.int 1))])]))
  (cSeq (cAsg 3 (cPrim gLst [.tm (cK (.int 0)), .tm (cPrim gNeg [.tm (cK (.int 1))]), .tm (cK (.bl true)), .tm (cK (.bl false)), .tm (cK .non), .tm (cK (.str "3")), .tm (cPrim gLst [.tm (cK (.int 3))]), .tm (cPrim gTup []), .tm (cPrim gTup [.tm (cK (.int 3))]), .tm (cPrim gAdd [.tm (cPrim gPow [.tm (cK (.int 10)), .tm (cK (.int 4))]), .tm (cK (.int 1))]), .tm (cPrim gPow [.tm (cK (.int 10)), .tm (cK (.int 30))])]))
  (cSeq (cAsg 4 (cLc (cIt giL [.tm (cVar 3)]) (.nm 5) cYes (cPrim gAdd [.tm (cPrim gAdd [.tm (cPrim gSl01 [.tm (cVar 1), .tm (cVar 2)]), .tm (cPrim gLst [.tm (cVar 5)])]), .tm (cPrim gSl10 [.tm (cVar 1), .tm (cVar 2)])]) [5]))
  (cSeq (cAsg 4 (cPrim gAdd [.tm (cVar 4), .tm (cPrim gLst [.tm (cK .non), .tm (cK (.int 0)), .tm (cK (.int 5)), .tm (cK (.str "5")), .tm (cPrim gDic []), .tm (cPrim gTuple [.tm (cVar 1)]), .tm (cPrim gTup [.tm (cK (.int 5)), .tm (cK (.int 3))]), .tm (cPrim gLst [.tm (cVar 1)])])]))
  (cRet (cPrim gIx [.tm (cVar 4), .tm (cCall LM.F__law_pick [.ln 0, .sh] .sh [0, 1] [] [.vr 0, .tm (cK (.int 19))])]))))))
noncomputable def F__law_not_widths : FnD := runF 6 [.pr, .sh] m__law_not_widths
/-! _law_not_a_number(numbers, least, greatest); slots: 0 numbers 1 least 2 greatest 3 menu -/
noncomputable def m__law_not_a_number : CS :=
  (cSeq (cAsg 3 (cPrim gLst [.tm (cK .non), .tm (cK (.bl true)), .tm (cK (.bl false)), .tm (cK (.str "3")), .tm (cPrim gLst [.tm (cK (.int 3))]), .tm (cPrim gTup [.tm (cK (.int 3))]), .tm (cPrim gDic []), .tm (cK (.str "")), .tm (cPrim gSub [.tm (cVar 1), .tm (cK (.int 1))]), .tm (cPrim gAdd [.tm (cVar 2), .tm (cK (.int 1))]), .tm (cPrim gSub [.tm (cK (.int 0)), .tm (cPrim gPow [.tm (cK (.int 10)), .tm (cK (.int 30))])]), .tm (cPrim gSub [.tm (cVar 1), .tm (cK (.int 2))])]))
  (cRet (cPrim gIx [.tm (cVar 3), .tm (cCall LM.F__law_pick [.ln 0, .sh] .sh [0, 1] [] [.vr 0, .tm (cK (.int 12))])])))
noncomputable def F__law_not_a_number : FnD := runF 4 [.pr, .sh, .sh] m__law_not_a_number
/-! _law_kind(error); slots: 0 error 1 pairs 2 others 3 matches 4 word 5 yes -/
noncomputable def m__law_kind_v2 : CS :=
  (cSeq (cAsg 1 (cPrim gLst [.tm (cPrim gTup [.tm (cK (.str "widths")), .tm (cPrim (gIsE (["InvalidLength", "InvalidPeriod", "InvalidPosition", "InvalidWidths"] : List Str) (["InvalidWidths"] : List Str)) [.tm (cVar 0)])]), .tm (cPrim gTup [.tm (cK (.str "place")), .tm (cPrim (gIsE (["InvalidLength", "InvalidPeriod", "InvalidPosition", "InvalidWidths"] : List Str) (["InvalidPosition"] : List Str)) [.tm (cVar 0)])])]))
  (cSeq (cAsg 1 (cPrim gAdd [.tm (cVar 1), .tm (cPrim gLst [.tm (cPrim gTup [.tm (cK (.str "length")), .tm (cPrim (gIsE (["InvalidLength", "InvalidPeriod", "InvalidPosition", "InvalidWidths"] : List Str) (["InvalidLength"] : List Str)) [.tm (cVar 0)])]), .tm (cPrim gTup [.tm (cK (.str "index")), .tm (cPrim (gIsE (["InvalidLength", "InvalidPeriod", "InvalidPosition", "InvalidWidths"] : List Str) ([] : List Str)) [.tm (cVar 0)])])])]))
  (cSeq (cAsg 1 (cPrim gAdd [.tm (cVar 1), .tm (cPrim gLst [.tm (cPrim gTup [.tm (cK (.str "period")), .tm (cPrim (gIsE (["InvalidLength", "InvalidPeriod", "InvalidPosition", "InvalidWidths"] : List Str) (["InvalidPeriod"] : List Str)) [.tm (cVar 0)])]), .tm (cPrim gTup [.tm (cK (.str "many")), .tm (cPrim (gIsE (["InvalidLength", "InvalidPeriod", "InvalidPosition", "InvalidWidths"] : List Str) ([] : List Str)) [.tm (cVar 0)])])])]))
  (cSeq (cAsg 2 (cPrim (gIsE (["InvalidLength", "InvalidPeriod", "InvalidPosition", "InvalidWidths"] : List Str) ([] : List Str)) [.tm (cVar 0)]))
  (cSeq (cAsg 2 (cOrV (cVar 2) (cPrim (gIsE (["InvalidLength", "InvalidPeriod", "InvalidPosition", "InvalidWidths"] : List Str) ([] : List Str)) [.tm (cVar 0)])))
  (cSeq (cAsg 3 (cLc (cIt giL [.tm (cVar 1)]) (.tp [4, 5]) (cTest (cVar 5)) (cVar 4) [4, 5]))
  (cRet (cIf (cOr (cTest (cVar 2)) (cOr (cTest (cPrim gNe [.tm (cPrim gLen [.tm (cVar 3)]), .tm (cK (.int 1))])) (cNot (cTest (cPrim (gIsE (["InvalidLength", "InvalidPeriod", "InvalidPosition", "InvalidWidths"] : List Str) (["InvalidLength", "InvalidPeriod", "InvalidPosition", "InvalidWidths"] : List Str)) [.tm (cVar 0)]))))) (cK (.str "odd")) (cPrim gIx [.tm (cVar 3), .tm (cK (.int 0))])))))))))
noncomputable def F__law_kind_v2 : FnD := runF 6 [.sh] m__law_kind_v2
/-! require_position(position); slots: 0 position -/
noncomputable def m_require_position_v2 : CS :=
  (cIfS (cNot (cTest (cCall LM.F_is_integer [.sh, .sh, .sh] .sh [0, 1, 2] [] [.tm (cVar 0), .tm (cK (.int 0)), .tm (cK (.int 1000000000000000000000000000000))])))
    (cRaise "InvalidPosition")
    cSkip)
noncomputable def F_require_position_v2 : FnD := runF 1 [.sh] m_require_position_v2
/-! overlap(widths, shift); slots: 0 widths 1 shift -/
noncomputable def m_overlap_v2 : CS :=
  (cSeq (cDrop (cCall LM.F_require_widths_v2 [.sh] .sh [0] [] [.tm (cVar 0)]))
  (cSeq (cDrop (cCall LM.F_require_position_v2 [.sh] .sh [0] [] [.tm (cVar 1)]))
  (cRet (cCall LM.F_overlap_of [.sh, .sh] .sh [0, 1] [] [.tm (cCall LM.F_effective_of [.sh] .sh [0] [] [.tm (cVar 0)]), .tm (cVar 1)]))))
noncomputable def F_overlap_v2 : FnD := runF 2 [.sh, .sh] m_overlap_v2
/-! least_period(widths); slots: 0 widths -/
noncomputable def m_least_period_v2 : CS :=
  (cSeq (cDrop (cCall LM.F_require_widths_v2 [.sh] .sh [0] [] [.tm (cVar 0)]))
  (cRet (cCall LM.F_whole_period [.sh] .sh [0] [] [.tm (cCall LM.F_effective_of [.sh] .sh [0] [] [.tm (cVar 0)])])))
noncomputable def F_least_period_v2 : FnD := runF 1 [.sh] m_least_period_v2
/-! has_period(widths, length, period); slots: 0 widths 1 length 2 period 3 found -/
noncomputable def m_has_period_v2 : CS :=
  (cSeq (cDrop (cCall LM.F_require_widths_v2 [.sh] .sh [0] [] [.tm (cVar 0)]))
  (cSeq (cDrop (cCall LM.F_require_length_v2 [.sh, .sh, .sh] .sh [0, 1, 2] [.int 0, .int 1000000000000000000000000000000] [.tm (cVar 1)]))
  (cSeq (cIfS (cNot (cTest (cCall LM.F_is_integer [.sh, .sh, .sh] .sh [0, 1, 2] [] [.tm (cVar 2), .tm (cK (.int 1)), .tm (cK (.int 1000000000000000000000000000000))])))
    (cRaise "InvalidPeriod")
    cSkip)
  (cSeq (cAsg 3 (cCall LM.F_overlap_of [.sh, .sh] .sh [0, 1] [] [.tm (cCall LM.F_effective_of [.sh] .sh [0] [] [.tm (cVar 0)]), .tm (cVar 2)]))
  (cRet (cOrV (cPrim gIs [.tm (cVar 3), .tm (cK .non)]) (cPrim gGe [.tm (cPrim gAdd [.tm (cVar 2), .tm (cVar 3)]), .tm (cVar 1)])))))))
noncomputable def F_has_period_v2 : FnD := runF 4 [.sh, .sh, .sh] m_has_period_v2
/-! least_period_to(widths, length); slots: 0 widths 1 length -/
noncomputable def m_least_period_to_v2 : CS :=
  (cSeq (cDrop (cCall LM.F_require_widths_v2 [.sh] .sh [0] [] [.tm (cVar 0)]))
  (cSeq (cDrop (cCall LM.F_require_length_v2 [.sh, .sh, .sh] .sh [0, 1, 3] [.int 0, .int 1000000000000000000000000000000] [.tm (cVar 1), .tm (cK (.int 1))]))
  (cRet (cCall LM.F_period_below [.sh, .sh] .sh [0, 1] [] [.tm (cCall LM.F_effective_of [.sh] .sh [0] [] [.tm (cVar 0)]), .tm (cVar 1)]))))
noncomputable def F_least_period_to_v2 : FnD := runF 2 [.sh, .sh] m_least_period_to_v2
/-! _law_kind(error); slots: 0 error 1 pairs 2 others 3 matches 4 word 5 yes -/
noncomputable def m__law_kind_v3 : CS :=
  (cSeq (cAsg 1 (cPrim gLst [.tm (cPrim gTup [.tm (cK (.str "widths")), .tm (cPrim (gIsE (["InvalidIndex", "InvalidLength", "InvalidWidths", "TooMany"] : List Str) (["InvalidWidths"] : List Str)) [.tm (cVar 0)])]), .tm (cPrim gTup [.tm (cK (.str "place")), .tm (cPrim (gIsE (["InvalidIndex", "InvalidLength", "InvalidWidths", "TooMany"] : List Str) ([] : List Str)) [.tm (cVar 0)])])]))
  (cSeq (cAsg 1 (cPrim gAdd [.tm (cVar 1), .tm (cPrim gLst [.tm (cPrim gTup [.tm (cK (.str "length")), .tm (cPrim (gIsE (["InvalidIndex", "InvalidLength", "InvalidWidths", "TooMany"] : List Str) (["InvalidLength"] : List Str)) [.tm (cVar 0)])]), .tm (cPrim gTup [.tm (cK (.str "index")), .tm (cPrim (gIsE (["InvalidIndex", "InvalidLength", "InvalidWidths", "TooMany"] : List Str) (["InvalidIndex"] : List Str)) [.tm (cVar 0)])])])]))
  (cSeq (cAsg 1 (cPrim gAdd [.tm (cVar 1), .tm (cPrim gLst [.tm (cPrim gTup [.tm (cK (.str "period")), .tm (cPrim (gIsE (["InvalidIndex", "InvalidLength", "InvalidWidths", "TooMany"] : List Str) ([] : List Str)) [.tm (cVar 0)])]), .tm (cPrim gTup [.tm (cK (.str "many")), .tm (cPrim (gIsE (["InvalidIndex", "InvalidLength", "InvalidWidths", "TooMany"] : List Str) (["TooMany"] : List Str)) [.tm (cVar 0)])])])]))
  (cSeq (cAsg 2 (cPrim (gIsE (["InvalidIndex", "InvalidLength", "InvalidWidths", "TooMany"] : List Str) ([] : List Str)) [.tm (cVar 0)]))
  (cSeq (cAsg 2 (cOrV (cVar 2) (cPrim (gIsE (["InvalidIndex", "InvalidLength", "InvalidWidths", "TooMany"] : List Str) ([] : List Str)) [.tm (cVar 0)])))
  (cSeq (cAsg 3 (cLc (cIt giL [.tm (cVar 1)]) (.tp [4, 5]) (cTest (cVar 5)) (cVar 4) [4, 5]))
  (cRet (cIf (cOr (cTest (cVar 2)) (cOr (cTest (cPrim gNe [.tm (cPrim gLen [.tm (cVar 3)]), .tm (cK (.int 1))])) (cNot (cTest (cPrim (gIsE (["InvalidIndex", "InvalidLength", "InvalidWidths", "TooMany"] : List Str) (["InvalidIndex", "InvalidLength", "InvalidWidths", "TooMany"] : List Str)) [.tm (cVar 0)]))))) (cK (.str "odd")) (cPrim gIx [.tm (cVar 3), .tm (cK (.int 0))])))))))))
noncomputable def F__law_kind_v3 : FnD := runF 6 [.sh] m__law_kind_v3
/-! piece_lengths(widths); slots: 0 widths -/
noncomputable def m_piece_lengths_v2 : CS :=
  (cSeq (cDrop (cCall LM.F_require_widths_v2 [.sh] .sh [0] [] [.tm (cVar 0)]))
  (cRet (cCall LM.F_whole_lengths [.sh] .sh [0] [] [.tm (cCall LM.F_effective_of [.sh] .sh [0] [] [.tm (cVar 0)])])))
noncomputable def F_piece_lengths_v2 : FnD := runF 1 [.sh] m_piece_lengths_v2
/-! count_of_length(widths, length, size); slots: 0 widths 1 length 2 size 3 own -/
noncomputable def m_count_of_length_v2 : CS :=
  (cSeq (cDrop (cCall LM.F_require_widths_v2 [.sh] .sh [0] [] [.tm (cVar 0)]))
  (cSeq (cDrop (cCall LM.F_require_length_v2 [.sh, .sh, .sh] .sh [0, 1, 2] [.int 0, .int 1000000000000000000000000000000] [.tm (cVar 1)]))
  (cSeq (cDrop (cCall LM.F_require_length_v2 [.sh, .sh, .sh] .sh [0, 1, 2] [.int 0, .int 1000000000000000000000000000000] [.tm (cVar 2)]))
  (cSeq (cAsg 3 (cCall LM.F_effective_of [.sh] .sh [0] [] [.tm (cVar 0)]))
  (cRet (cCall LM.F_count_with [.sh, .sh, .sh, .sh] .sh [0, 1, 2, 3] [] [.tm (cVar 3), .tm (cCall LM.F_block_totals [.sh, .sh] .sh [0, 1] [.non] [.tm (cVar 3), .tm (cVar 2)]), .tm (cVar 1), .tm (cVar 2)]))))))
noncomputable def F_count_of_length_v2 : FnD := runF 4 [.sh, .sh, .sh] m_count_of_length_v2
/-! piece_sizes(widths, length); slots: 0 widths 1 length 2 own 3 count -/
noncomputable def m_piece_sizes_v2 : CS :=
  (cSeq (cDrop (cCall LM.F_require_widths_v2 [.sh] .sh [0] [] [.tm (cVar 0)]))
  (cSeq (cDrop (cCall LM.F_require_length_v2 [.sh, .sh, .sh] .sh [0, 1, 2] [.int 0, .int 1000000000000000000000000000000] [.tm (cVar 1)]))
  (cSeq (cAsg 2 (cCall LM.F_effective_of [.sh] .sh [0] [] [.tm (cVar 0)]))
  (cSeq (cAsg 3 (cCall LM.F_breaks_below [.sh, .sh] .sh [0, 1] [] [.tm (cVar 2), .tm (cVar 1)]))
  (cSeq (cIfS (cTest (cPrim gGt [.tm (cVar 3), .tm (cK (.int 400))]))
    (cRaiseF "TooMany" ["count"] [.tm (cVar 3)])
    cSkip)
  (cRet (cCall LM.F_sizes_of [.sh, .sh] .sh [0, 1] [] [.tm (cVar 2), .tm (cVar 1)])))))))
noncomputable def F_piece_sizes_v2 : FnD := runF 4 [.sh, .sh] m_piece_sizes_v2
/-! count_pieces(widths, length); slots: 0 widths 1 length -/
noncomputable def m_count_pieces_v2 : CS :=
  (cSeq (cDrop (cCall LM.F_require_widths_v2 [.sh] .sh [0] [] [.tm (cVar 0)]))
  (cSeq (cDrop (cCall LM.F_require_length_v2 [.sh, .sh, .sh] .sh [0, 1, 2] [.int 0, .int 1000000000000000000000000000000] [.tm (cVar 1)]))
  (cRet (cCall LM.F_breaks_below [.sh, .sh] .sh [0, 1] [] [.tm (cCall LM.F_effective_of [.sh] .sh [0] [] [.tm (cVar 0)]), .tm (cVar 1)]))))
noncomputable def F_count_pieces_v2 : FnD := runF 2 [.sh, .sh] m_count_pieces_v2
/-! nth_break(widths, index); slots: 0 widths 1 index -/
noncomputable def m_nth_break_v2 : CS :=
  (cSeq (cDrop (cCall LM.F_require_widths_v2 [.sh] .sh [0] [] [.tm (cVar 0)]))
  (cSeq (cIfS (cOr (cNot (cTest (cCall LM.F_is_integer [.sh, .sh, .sh] .sh [0, 1, 2] [] [.tm (cVar 1), .tm (cK (.int 0)), .tm (cK (.int 1000000000000000000000000000000))]))) (cAnd (cTest (cPrim gEq [.tm (cVar 0), .tm (cPrim gLst [])])) (cTest (cPrim gGt [.tm (cVar 1), .tm (cK (.int 0))]))))
    (cRaise "InvalidIndex")
    cSkip)
  (cRet (cCall LM.F_break_at [.sh, .sh] .sh [0, 1] [] [.tm (cCall LM.F_effective_of [.sh] .sh [0] [] [.tm (cVar 0)]), .tm (cVar 1)]))))
noncomputable def F_nth_break_v2 : FnD := runF 2 [.sh, .sh] m_nth_break_v2
/-! _law_all_signs(); slots: 0 first -/
noncomputable def m__law_all_signs : CS :=
  (cSeq (cAsg 0 (cK (.str ⟨#[33, 34, 35, 36, 38, 39, 40, 41, 42, 43, 44, 45, 46, 47, 48, 49, 50, 51, 52, 53, 54, 55, 56, 57, 58, 59, 60, 61, 62, 63, 64, 65, 66, 67, 68, 69, 70, 71, 72, 73, 74, 75, 76, 77, 78, 79, 80, 81, 82, 83, 84, 85, 86, 87, 88, 89, 90, 91, 92, 93, 94, 95, 96, 97, 98, 99, 100, 101, 102, 103, 104, 105, 106, 107, 108, 109, 110, 111, 112, 113, 114, 115, 116, 117, 118, 119, 120, 121, 122, 123, 124, 125, 126]⟩)))
  (cRet (cPrim gAdd [.tm (cPrim gAdd [.tm (cK (.str " ")), .tm (cVar 0)]), .tm (cK (.str ⟨#[9]⟩))])))
noncomputable def F__law_all_signs : FnD := runF 1 [.sh] m__law_all_signs
/-! require_text(text); slots: 0 text -/
noncomputable def m_require_text : CS :=
  (cIfS (cNot (cTest (cPrim gIsi [.tm (cVar 0), .tm (cK (.ty "str"))])))
    cStuck
    cSkip)
noncomputable def F_require_text : FnD := runF 1 [.sh] m_require_text
/-! wrapped_line(widths, line); slots: 0 widths 1 line 2 rows 3 position 4 character -/
noncomputable def m_wrapped_line : CS :=
  (cSeq (cAsg 2 (cPrim gLst []))
  (cSeq (cFor (cIt giES [.tm (cVar 1)]) (.tp [3, 4])
    (cIfS (cTest (cPrim gEq [.tm (cCall LM.F_column_of [.sh, .sh] .sh [0, 1] [] [.tm (cVar 0), .tm (cVar 3)]), .tm (cK (.int 0))]))
      (cDrop (cMut 2 mApp [.tm (cVar 4)]))
      (cAugL 2 (cPrim gNeg [.tm (cK (.int 1))]) (cVar 4))))
  (cRet (cIf (cTest (cPrim gNe [.tm (cVar 2), .tm (cPrim gLst [])])) (cVar 2) (cPrim gLst [.tm (cVar 1)])))))
noncomputable def F_wrapped_line : FnD := runF 5 [.sh, .sh] m_wrapped_line
/-! wrapped_text(widths, text); slots: 0 widths 1 text 2 rows 3 line -/
noncomputable def m_wrapped_text : CS :=
  (cSeq (cAsg 2 (cPrim gLst []))
  (cSeq (cFor (cIt giL [.tm (cPrim gSplit [.tm (cStr (cVar 1)), .tm (cK (.str ⟨#[10]⟩))])]) (.nm 3)
    (cDrop (cMut 2 mExt [.tm (cCall LM.F_wrapped_line [.sh, .sh] .sh [0, 1] [] [.tm (cVar 0), .tm (cVar 3)])])))
  (cRet (cPrim gJoin [.tm (cStr (cK (.str ⟨#[10]⟩))), .tm (cVar 2)]))))
noncomputable def F_wrapped_text : FnD := runF 4 [.sh, .sh] m_wrapped_text
/-! wrap_text(widths, text); slots: 0 widths 1 text -/
noncomputable def m_wrap_text : CS :=
  (cSeq (cDrop (cCall LM.F_require_widths [.sh] .sh [0] [] [.tm (cVar 0)]))
  (cSeq (cDrop (cCall LM.F_require_text [.sh] .sh [0] [] [.tm (cVar 1)]))
  (cRet (cCall LM.F_wrapped_text [.sh, .sh] .sh [0, 1] [] [.tm (cCall LM.F_effective_of [.sh] .sh [0] [] [.tm (cVar 0)]), .tm (cVar 1)]))))
noncomputable def F_wrap_text : FnD := runF 2 [.sh, .sh] m_wrap_text
/-! _law_programs(plan, page); slots: 0 plan 1 page 2 rows 3 most 4 shorter 5 row_here 6 parts 7 at -/
noncomputable def m__law_programs : CS :=
  (cSeq (cAsg 2 (cPrim gSplit [.tm (cStr (cVar 1)), .tm (cK (.str ⟨#[10]⟩))]))
  (cSeq (cFor (cIt giL [.tm (cVar 0)]) (.nm 3)
    (cSeq (cAsg 4 (cPrim gLst []))
    (cSeq (cFor (cIt giL [.tm (cVar 2)]) (.nm 5)
      (cSeq (cAsg 6 (cLc (cIt giRm [.tm (cK (.int 0)), .tm (cPrim gLen [.tm (cVar 5)]), .tm (cVar 3)]) (.nm 7) cYes (cPrim gSl11 [.tm (cVar 5), .tm (cInt (cVar 7)), .tm (cPrim gAdd [.tm (cVar 7), .tm (cVar 3)])]) [7]))
      (cDrop (cMut 4 mExt [.tm (cIf (cTest (cPrim gNe [.tm (cVar 6), .tm (cPrim gLst [])])) (cVar 6) (cPrim gLst [.tm (cVar 5)]))]))))
    (cSeq (cAsg 2 (cVar 4))
    (cForget 4 cSkip)))))
  (cRet (cPrim gJoin [.tm (cStr (cK (.str ⟨#[10]⟩))), .tm (cVar 2)]))))
noncomputable def F__law_programs : FnD := runF 8 [.sh, .sh] m__law_programs
/-! _law_line(deck, span); slots: 0 deck 1 span 2 signs 3 turn -/
noncomputable def m__law_line : CS :=
  (cSeq (cAsg 2 (cK (.str ⟨#[97, 98, 99, 100, 101, 102, 103, 104, 32, 32, 9, 126, 46, 45, 95, 48, 90]⟩)))
  (cRet (cPrim gJoin [.tm (cStr (cK (.str ""))), .tm (cLc (cIt giR1 [.tm (cVar 1)]) (.nm 3) cYes (cPrim gIx [.tm (cVar 2), .tm (cCall LM.F__law_draw [.lo 0 (.ls (.ls .l0)), .sh] .sh [0, 1] [] [.vr 0, .tm (cPrim gLen [.tm (cVar 2)])])]) [3])])))
noncomputable def F__law_line : FnD := runF 4 [.ps (.ls (.ls .l0)), .sh] m__law_line
/-! _law_page(deck, most, longest); slots: 0 deck 1 most 2 longest 3 spans 4 turn 5 span -/
noncomputable def m__law_page : CS :=
  (cSeq (cAsg 3 (cPrim gLst [.tm (cPrim gIx [.tm (cPrim gLst [.tm (cK (.int 0)), .tm (cCall LM.F__law_draw [.lo 0 (.ls (.ls .l0)), .sh] .sh [0, 1] [] [.vr 0, .tm (cPrim gAdd [.tm (cPrim gMin2 [.tm (cK (.int 9)), .tm (cVar 2)]), .tm (cK (.int 1))])]), .tm (cCall LM.F__law_draw [.lo 0 (.ls (.ls .l0)), .sh] .sh [0, 1] [] [.vr 0, .tm (cPrim gAdd [.tm (cVar 2), .tm (cK (.int 1))])])]), .tm (cCall LM.F__law_draw [.lo 0 (.ls (.ls .l0)), .sh] .sh [0, 1] [] [.vr 0, .tm (cK (.int 3))])])]))
  (cSeq (cFor (cIt giR1 [.tm (cCall LM.F__law_draw [.lo 0 (.ls (.ls .l0)), .sh] .sh [0, 1] [] [.vr 0, .tm (cVar 1)])]) (.nm 4)
    (cDrop (cMut 3 mApp [.tm (cPrim gIx [.tm (cPrim gLst [.tm (cK (.int 0)), .tm (cPrim gIx [.vr 3, .tm (cK (.int 0))]), .tm (cCall LM.F__law_draw [.lo 0 (.ls (.ls .l0)), .sh] .sh [0, 1] [] [.vr 0, .tm (cPrim gAdd [.tm (cVar 2), .tm (cK (.int 1))])]), .tm (cVar 2)]), .tm (cCall LM.F__law_draw [.lo 0 (.ls (.ls .l0)), .sh] .sh [0, 1] [] [.vr 0, .tm (cK (.int 4))])])])))
  (cRet (cPrim gJoin [.tm (cStr (cK (.str ⟨#[10]⟩))), .tm (cLc (cIt giL [.tm (cVar 3)]) (.nm 5) cYes (cCall LM.F__law_line [.lo 0 (.ls (.ls .l0)), .sh] .sh [0, 1] [] [.vr 0, .tm (cVar 5)]) [5])]))))
noncomputable def F__law_page : FnD := runF 6 [.ps (.ls (.ls .l0)), .sh, .sh] m__law_page
/-! _law_all_signs(); slots: 0 first -/
noncomputable def m__law_all_signs_v2 : CS :=
  (cSeq (cAsg 0 (cK (.str ⟨#[33, 34, 35, 36, 38, 39, 40, 41, 42, 43, 44, 45, 46, 47, 48, 49, 50, 51, 52, 53, 54, 55, 56, 57, 58, 59, 60, 61, 62, 63, 64, 65, 66, 67, 68, 69, 70, 71, 72, 73, 74, 75, 76, 77, 78, 79, 80, 81, 82, 83, 84, 85, 86, 87, 88, 89, 90, 91, 92, 93, 94, 95, 96, 97, 98, 99, 100, 101, 102, 103, 104, 105, 106, 107, 108, 109, 110, 111, 112, 113, 114, 115, 116, 117, 118, 119, 120, 121, 122, 123, 124, 125, 126]⟩)))
  (cRet (cPrim gAdd [.tm (cPrim gAdd [.tm (cK (.str " ")), .tm (cVar 0)]), .tm (cK (.str ⟨#[9]⟩))])))
noncomputable def F__law_all_signs_v2 : FnD := runF 1 [] m__law_all_signs_v2
/-! require_text(text); slots: 0 text -/
noncomputable def m_require_text_v2 : CS :=
  (cIfS (cNot (cTest (cPrim gIsi [.tm (cVar 0), .tm (cK (.ty "str"))])))
    (cRaise "InvalidText")
    cSkip)
noncomputable def F_require_text_v2 : FnD := runF 1 [.sh] m_require_text_v2
/-! wrap_text(widths, text); slots: 0 widths 1 text -/
noncomputable def m_wrap_text_v2 : CS :=
  (cSeq (cDrop (cCall LM.F_require_widths_v2 [.sh] .sh [0] [] [.tm (cVar 0)]))
  (cSeq (cDrop (cCall LM.F_require_text_v2 [.sh] .sh [0] [] [.tm (cVar 1)]))
  (cRet (cCall LM.F_wrapped_text [.sh, .sh] .sh [0, 1] [] [.tm (cCall LM.F_effective_of [.sh] .sh [0] [] [.tm (cVar 0)]), .tm (cVar 1)]))))
noncomputable def F_wrap_text_v2 : FnD := runF 2 [.sh, .sh] m_wrap_text_v2
/-! _law_word_of(e); slots: 0 e 1 words -/
noncomputable def m__law_word_of : CS :=
  (cSeq (cAsg 1 (cPrim gLst []))
  (cSeq (cIfS (cTest (cPrim (gIsE (["InvalidText", "InvalidWidths", "NoWidths"] : List Str) (["InvalidWidths"] : List Str)) [.tm (cVar 0)]))
    (cDrop (cMut 1 mApp [.tm (cK (.str "widths"))]))
    cSkip)
  (cSeq (cIfS (cTest (cPrim (gIsE (["InvalidText", "InvalidWidths", "NoWidths"] : List Str) ([] : List Str)) [.tm (cVar 0)]))
    (cDrop (cMut 1 mApp [.tm (cK (.str "position"))]))
    cSkip)
  (cSeq (cIfS (cTest (cPrim (gIsE (["InvalidText", "InvalidWidths", "NoWidths"] : List Str) ([] : List Str)) [.tm (cVar 0)]))
    (cDrop (cMut 1 mApp [.tm (cK (.str "length"))]))
    cSkip)
  (cSeq (cIfS (cTest (cPrim (gIsE (["InvalidText", "InvalidWidths", "NoWidths"] : List Str) ([] : List Str)) [.tm (cVar 0)]))
    (cDrop (cMut 1 mApp [.tm (cK (.str "index"))]))
    cSkip)
  (cSeq (cIfS (cTest (cPrim (gIsE (["InvalidText", "InvalidWidths", "NoWidths"] : List Str) (["InvalidText"] : List Str)) [.tm (cVar 0)]))
    (cDrop (cMut 1 mApp [.tm (cK (.str "text"))]))
    cSkip)
  (cSeq (cIfS (cTest (cPrim (gIsE (["InvalidText", "InvalidWidths", "NoWidths"] : List Str) ([] : List Str)) [.tm (cVar 0)]))
    (cDrop (cMut 1 mApp [.tm (cK (.str "command"))]))
    cSkip)
  (cSeq (cIfS (cTest (cPrim (gIsE (["InvalidText", "InvalidWidths", "NoWidths"] : List Str) (["NoWidths"] : List Str)) [.tm (cVar 0)]))
    (cDrop (cMut 1 mApp [.tm (cK (.str "none"))]))
    cSkip)
  (cSeq (cIfS (cTest (cPrim (gIsE (["InvalidText", "InvalidWidths", "NoWidths"] : List Str) ([] : List Str)) [.tm (cVar 0)]))
    (cDrop (cMut 1 mApp [.tm (cK (.str "undo"))]))
    cSkip)
  (cSeq (cIfS (cTest (cPrim (gIsE (["InvalidText", "InvalidWidths", "NoWidths"] : List Str) ([] : List Str)) [.tm (cVar 0)]))
    (cDrop (cMut 1 mApp [.tm (cK (.str "many"))]))
    cSkip)
  (cSeq (cIfS (cTest (cPrim (gIsE (["InvalidText", "InvalidWidths", "NoWidths"] : List Str) ([] : List Str)) [.tm (cVar 0)]))
    (cDrop (cMut 1 mApp [.tm (cK (.str "wrapped"))]))
    cSkip)
  (cSeq (cIfS (cTest (cPrim (gIsE (["InvalidText", "InvalidWidths", "NoWidths"] : List Str) ([] : List Str)) [.tm (cVar 0)]))
    (cDrop (cMut 1 mApp [.tm (cK (.str "parse"))]))
    cSkip)
  (cSeq (cIfS (cTest (cPrim (gIsE (["InvalidText", "InvalidWidths", "NoWidths"] : List Str) ([] : List Str)) [.tm (cVar 0)]))
    (cDrop (cMut 1 mApp [.tm (cK (.str "odd"))]))
    cSkip)
  (cRet (cIf (cAnd (cTest (cPrim gEq [.tm (cPrim gLen [.vr 1]), .tm (cK (.int 1))])) (cAnd (cTest (cPrim (gIsE (["InvalidText", "InvalidWidths", "NoWidths"] : List Str) (["InvalidText", "InvalidWidths", "NoWidths"] : List Str)) [.tm (cVar 0)])) (cTest (cPrim (gIsE (["InvalidText", "InvalidWidths", "NoWidths"] : List Str) (["InvalidText", "InvalidWidths", "NoWidths"] : List Str)) [.tm (cVar 0)])))) (cPrim gIx [.vr 1, .tm (cK (.int 0))]) (cK (.str "odd")))))))))))))))))
noncomputable def F__law_word_of : FnD := runF 2 [.sh] m__law_word_of
/-! sizes_of_line(line, rows); slots: 0 line 1 rows 2 sizes 3 total -/
noncomputable def m_sizes_of_line : CS :=
  (cSeq (cPar 2 3 (cPrim gLst []) (cK (.int 0)))
  (cSeq (whileD (cOr (cTest (cPrim gEq [.vr 2, .tm (cPrim gLst [])])) (cAnd (cTest (cPrim gLt [.tm (cVar 3), .tm (cPrim gLen [.tm (cVar 0)])])) (cTest (cPrim gLt [.tm (cPrim gLen [.vr 2]), .tm (cPrim gLen [.tm (cVar 1)])]))))
    (cSeq (cDrop (cMut 2 mApp [.tm (cPrim gLen [.tm (cPrim gIx [.tm (cVar 1), .tm (cPrim gLen [.vr 2])])])]))
    (cAug 3 gAddI (cPrim gIx [.vr 2, .tm (cPrim gNeg [.tm (cK (.int 1))])]))) (10 ^ 80))
  (cRet (cVar 2))))
noncomputable def F_sizes_of_line : FnD := runF 4 [.sh, .sh] m_sizes_of_line
/-! sizes_of_longest(before, after); slots: 0 before 1 after 2 rows 3 longest 4 line 5 sizes -/
noncomputable def m_sizes_of_longest : CS :=
  (cSeq (cAsg 2 (cPrim gSplit [.tm (cStr (cVar 1)), .tm (cK (.str ⟨#[10]⟩))]))
  (cSeq (cAsg 3 (cPrim gLst [.tm (cK (.int 0))]))
  (cSeq (cFor (cIt giL [.tm (cPrim gSplit [.tm (cStr (cVar 0)), .tm (cK (.str ⟨#[10]⟩))])]) (.nm 4)
    (cSeq (cIfS (cTest (cPrim gEq [.tm (cVar 2), .tm (cPrim gLst [])]))
      (cRet (cK .non))
      cSkip)
    (cSeq (cAsg 5 (cCall LM.F_sizes_of_line [.sh, .sh] .sh [0, 1] [] [.tm (cVar 4), .tm (cVar 2)]))
    (cSeq (cAsg 2 (cPrim gSl10 [.tm (cVar 2), .tm (cPrim gLen [.tm (cVar 5)])]))
    (cIfS (cTest (cPrim gGt [.tm (cPrim gSum [.tm (cVar 5)]), .tm (cPrim gSum [.tm (cVar 3)])]))
      (cAsg 3 (cVar 5))
      cSkip)))))
  (cRet (cVar 3)))))
noncomputable def F_sizes_of_longest : FnD := runF 6 [.sh, .sh] m_sizes_of_longest
/-! shortest_of(values); slots: 0 values -/
noncomputable def m_shortest_of : CS :=
  (cRet (cIf (cTest (cPrim gIs [.tm (cCall LM.F_first_obstacle_of [.sh] .sh [0] [] [.tm (cVar 0)]), .tm (cK .non)])) (cCall LM.F_descent_of [.sh] .sh [0] [] [.tm (cVar 0)]) (cK .non)))
noncomputable def F_shortest_of : FnD := runF 1 [.sh] m_shortest_of
/-! widths_between(before, after); slots: 0 before 1 after 2 sizes 3 values 4 found -/
noncomputable def m_widths_between : CS :=
  (cSeq (cDrop (cCall LM.F_require_text_v2 [.sh] .sh [0] [] [.tm (cVar 0)]))
  (cSeq (cDrop (cCall LM.F_require_text_v2 [.sh] .sh [0] [] [.tm (cVar 1)]))
  (cSeq (cAsg 2 (cCall LM.F_sizes_of_longest [.sh, .sh] .sh [0, 1] [] [.tm (cVar 0), .tm (cVar 1)]))
  (cSeq (cAsg 3 (cIf (cTest (cPrim gIs [.tm (cVar 2), .tm (cK .non)])) (cPrim gLst []) (cCall LM.F_columns_of [.sh] .sh [0] [] [.tm (cVar 2)])))
  (cSeq (cAsg 4 (cIf (cTest (cPrim gNe [.tm (cVar 3), .tm (cPrim gLst [])])) (cCall LM.F_shortest_of [.sh] .sh [0] [] [.tm (cVar 3)]) (cPrim gLst [])))
  (cSeq (cIfS (cOr (cTest (cPrim gIs [.tm (cVar 2), .tm (cK .non)])) (cOr (cTest (cPrim gIs [.tm (cVar 4), .tm (cK .non)])) (cTest (cPrim gNe [.tm (cCall LM.F_wrapped_text [.sh, .sh] .sh [0, 1] [] [.tm (cVar 4), .tm (cVar 0)]), .tm (cVar 1)]))))
    (cRaise "NoWidths")
    cSkip)
  (cRet (cVar 4))))))))
noncomputable def F_widths_between : FnD := runF 5 [.sh, .sh] m_widths_between
/-! _law_programs(plan, page); slots: 0 plan 1 page 2 rows 3 most 4 shorter 5 row_here 6 parts 7 at -/
noncomputable def m__law_programs_v2 : CS :=
  (cSeq (cAsg 2 (cPrim gSplit [.tm (cStr (cVar 1)), .tm (cK (.str ⟨#[10]⟩))]))
  (cSeq (cFor (cIt giL [.tm (cVar 0)]) (.nm 3)
    (cSeq (cAsg 4 (cPrim gLst []))
    (cSeq (cFor (cIt giL [.tm (cVar 2)]) (.nm 5)
      (cSeq (cAsg 6 (cLc (cIt giRs [.tm (cK (.int 0)), .tm (cPrim gLen [.tm (cVar 5)]), .tm (cVar 3)]) (.nm 7) cYes (cPrim gSl11 [.tm (cVar 5), .tm (cInt (cVar 7)), .tm (cPrim gAdd [.tm (cVar 7), .tm (cVar 3)])]) [7]))
      (cDrop (cMut 4 mExt [.tm (cIf (cTest (cPrim gNe [.tm (cVar 6), .tm (cPrim gLst [])])) (cVar 6) (cPrim gLst [.tm (cVar 5)]))]))))
    (cSeq (cAsg 2 (cVar 4))
    (cForget 4 cSkip)))))
  (cRet (cPrim gJoin [.tm (cStr (cK (.str ⟨#[10]⟩))), .tm (cVar 2)]))))
noncomputable def F__law_programs_v2 : FnD := runF 8 [.sh, .sh] m__law_programs_v2
/-! widths_between(before, after); slots: 0 before 1 after 2 sizes 3 values 4 found -/
noncomputable def m_widths_between_v2 : CS :=
  (cSeq (cDrop (cCall LM.F_require_text [.sh] .sh [0] [] [.tm (cVar 0)]))
  (cSeq (cDrop (cCall LM.F_require_text [.sh] .sh [0] [] [.tm (cVar 1)]))
  (cSeq (cAsg 2 (cCall LM.F_sizes_of_longest [.sh, .sh] .sh [0, 1] [] [.tm (cVar 0), .tm (cVar 1)]))
  (cSeq (cAsg 3 (cIf (cTest (cPrim gIs [.tm (cVar 2), .tm (cK .non)])) (cPrim gLst []) (cCall LM.F_columns_of [.sh] .sh [0] [] [.tm (cVar 2)])))
  (cSeq (cAsg 4 (cIf (cTest (cPrim gNe [.tm (cVar 3), .tm (cPrim gLst [])])) (cCall LM.F_shortest_of [.sh] .sh [0] [] [.tm (cVar 3)]) (cPrim gLst [])))
  (cSeq (cIfS (cOr (cTest (cPrim gIs [.tm (cVar 2), .tm (cK .non)])) (cOr (cTest (cPrim gIs [.tm (cVar 4), .tm (cK .non)])) (cTest (cPrim gNe [.tm (cCall LM.F_wrapped_text [.sh, .sh] .sh [0, 1] [] [.tm (cVar 4), .tm (cVar 0)]), .tm (cVar 1)]))))
    (cRaise "NoWidths")
    cSkip)
  (cRet (cVar 4))))))))
noncomputable def F_widths_between_v2 : FnD := runF 5 [.sh, .sh] m_widths_between_v2
/-! normal_form(widths); slots: 0 widths -/
noncomputable def m_normal_form_v2 : CS :=
  (cSeq (cDrop (cCall LM.F_require_widths_v2 [.sh] .sh [0] [] [.tm (cVar 0)]))
  (cRet (cCall LM.F_normal_of [.sh] .sh [0] [] [.tm (cCall LM.F_effective_of [.sh] .sh [0] [] [.tm (cVar 0)])])))
noncomputable def F_normal_form_v2 : FnD := runF 1 [.sh] m_normal_form_v2
/-! _law_kind(e); slots: 0 e 1 some 2 found 3 name 4 applies -/
noncomputable def m__law_kind_v4 : CS :=
  (cSeq (cAsg 1 (cPrim gLst [.tm (cPrim gTup [.tm (cK (.str "widths")), .tm (cPrim (gIsE (["InvalidLength", "InvalidWidths"] : List Str) (["InvalidWidths"] : List Str)) [.tm (cVar 0)])]), .tm (cPrim gTup [.tm (cK (.str "length")), .tm (cPrim (gIsE (["InvalidLength", "InvalidWidths"] : List Str) (["InvalidLength"] : List Str)) [.tm (cVar 0)])])]))
  (cSeq (cAsg 1 (cPrim gAdd [.vr 1, .tm (cPrim gLst [.tm (cPrim gTup [.tm (cK (.str "index")), .tm (cPrim (gIsE (["InvalidLength", "InvalidWidths"] : List Str) ([] : List Str)) [.tm (cVar 0)])]), .tm (cPrim gTup [.tm (cK (.str "pieces")), .tm (cPrim (gIsE (["InvalidLength", "InvalidWidths"] : List Str) ([] : List Str)) [.tm (cVar 0)])])])]))
  (cSeq (cAsg 1 (cPrim gAdd [.vr 1, .tm (cPrim gLst [.tm (cPrim gTup [.tm (cK (.str "fitting")), .tm (cPrim (gIsE (["InvalidLength", "InvalidWidths"] : List Str) ([] : List Str)) [.tm (cVar 0)])]), .tm (cPrim gTup [.tm (cK (.str "wrapped")), .tm (cPrim (gIsE (["InvalidLength", "InvalidWidths"] : List Str) ([] : List Str)) [.tm (cVar 0)])])])]))
  (cSeq (cDrop (cMut 1 mApp [.tm (cPrim gTup [.tm (cK (.str "odd")), .tm (cPrim (gIsE (["InvalidLength", "InvalidWidths"] : List Str) ([] : List Str)) [.tm (cVar 0)])])]))
  (cSeq (cDrop (cMut 1 mApp [.tm (cPrim gTup [.tm (cK (.str "odd")), .tm (cPrim (gIsE (["InvalidLength", "InvalidWidths"] : List Str) ([] : List Str)) [.tm (cVar 0)])])]))
  (cSeq (cAsg 2 (cLc (cIt giL [.tm (cVar 1)]) (.tp [3, 4]) (cTest (cVar 4)) (cVar 3) [3, 4]))
  (cRet (cIf (cAnd (cTest (cPrim gEq [.tm (cPrim gLen [.tm (cVar 2)]), .tm (cK (.int 1))])) (cTest (cPrim (gIsE (["InvalidLength", "InvalidWidths"] : List Str) (["InvalidLength", "InvalidWidths"] : List Str)) [.tm (cVar 0)]))) (cPrim gIx [.tm (cVar 2), .tm (cK (.int 0))]) (cK (.str "odd"))))))))))
noncomputable def F__law_kind_v4 : FnD := runF 5 [.sh] m__law_kind_v4
/-! descent(widths, length); slots: 0 widths 1 length -/
noncomputable def m_descent_v2 : CS :=
  (cSeq (cDrop (cCall LM.F_require_widths_v2 [.sh] .sh [0] [] [.tm (cVar 0)]))
  (cSeq (cDrop (cCall LM.F_require_length_v2 [.sh, .sh, .sh] .sh [0, 1, 3] [.int 0, .int 1000000000000000000000000000000] [.tm (cVar 1), .tm (cK (.int 1))]))
  (cRet (cCall LM.F_descent_to [.sh, .sh] .sh [0, 1] [] [.tm (cCall LM.F_effective_of [.sh] .sh [0] [] [.tm (cVar 0)]), .tm (cVar 1)]))))
noncomputable def F_descent_v2 : FnD := runF 2 [.sh, .sh] m_descent_v2
/-! are_equal_to(widths, other, length); slots: 0 widths 1 other 2 length 3 place -/
noncomputable def m_are_equal_to_v2 : CS :=
  (cSeq (cDrop (cCall LM.F_require_widths_v2 [.sh] .sh [0] [] [.tm (cVar 0)]))
  (cSeq (cDrop (cCall LM.F_require_widths_v2 [.sh] .sh [0] [] [.tm (cVar 1)]))
  (cSeq (cDrop (cCall LM.F_require_length_v2 [.sh, .sh, .sh] .sh [0, 1, 2] [.int 0, .int 1000000000000000000000000000000] [.tm (cVar 2)]))
  (cSeq (cAsg 3 (cCall LM.F_difference_of [.sh, .sh] .sh [0, 1] [] [.tm (cCall LM.F_effective_of [.sh] .sh [0] [] [.tm (cVar 0)]), .tm (cCall LM.F_effective_of [.sh] .sh [0] [] [.tm (cVar 1)])]))
  (cRet (cOrV (cPrim gIs [.tm (cVar 3), .tm (cK .non)]) (cPrim gGe [.tm (cVar 3), .tm (cVar 2)])))))))
noncomputable def F_are_equal_to_v2 : FnD := runF 4 [.sh, .sh, .sh] m_are_equal_to_v2
/-! are_equal(widths, other); slots: 0 widths 1 other -/
noncomputable def m_are_equal_v2 : CS :=
  (cSeq (cDrop (cCall LM.F_require_widths_v2 [.sh] .sh [0] [] [.tm (cVar 0)]))
  (cSeq (cDrop (cCall LM.F_require_widths_v2 [.sh] .sh [0] [] [.tm (cVar 1)]))
  (cRet (cCall LM.F_have_same_effect [.sh, .sh] .sh [0, 1] [] [.tm (cVar 0), .tm (cVar 1)]))))
noncomputable def F_are_equal_v2 : FnD := runF 2 [.sh, .sh] m_are_equal_v2
/-! first_difference(widths, other); slots: 0 widths 1 other -/
noncomputable def m_first_difference_v2 : CS :=
  (cSeq (cDrop (cCall LM.F_require_widths_v2 [.sh] .sh [0] [] [.tm (cVar 0)]))
  (cSeq (cDrop (cCall LM.F_require_widths_v2 [.sh] .sh [0] [] [.tm (cVar 1)]))
  (cRet (cCall LM.F_difference_of [.sh, .sh] .sh [0, 1] [] [.tm (cCall LM.F_effective_of [.sh] .sh [0] [] [.tm (cVar 0)]), .tm (cCall LM.F_effective_of [.sh] .sh [0] [] [.tm (cVar 1)])]))))
noncomputable def F_first_difference_v2 : FnD := runF 2 [.sh, .sh] m_first_difference_v2
/-! widths_between(before, after); slots: 0 before 1 after 2 sizes 3 values 4 found -/
noncomputable def m_widths_between_v3 : CS :=
  (cSeq (cDrop (cCall LM.F_require_text [.sh] .sh [0] [] [.tm (cVar 0)]))
  (cSeq (cDrop (cCall LM.F_require_text [.sh] .sh [0] [] [.tm (cVar 1)]))
  (cSeq (cAsg 2 (cCall LM.F_sizes_of_longest [.sh, .sh] .sh [0, 1] [] [.tm (cVar 0), .tm (cVar 1)]))
  (cSeq (cAsg 3 (cIf (cTest (cPrim gIs [.tm (cVar 2), .tm (cK .non)])) (cPrim gLst []) (cCall LM.F_columns_of [.sh] .sh [0] [] [.tm (cVar 2)])))
  (cSeq (cAsg 4 (cIf (cTest (cPrim gNe [.tm (cVar 3), .tm (cPrim gLst [])])) (cCall LM.F_shortest_of [.sh] .sh [0] [] [.tm (cVar 3)]) (cPrim gLst [])))
  (cSeq (cIfS (cOr (cTest (cPrim gIs [.tm (cVar 2), .tm (cK .non)])) (cOr (cTest (cPrim gIs [.tm (cVar 4), .tm (cK .non)])) (cTest (cPrim gNe [.tm (cCall LM.F_wrapped_text [.sh, .sh] .sh [0, 1] [] [.tm (cVar 4), .tm (cVar 0)]), .tm (cVar 1)]))))
    cStuck
    cSkip)
  (cRet (cVar 4))))))))
noncomputable def F_widths_between_v3 : FnD := runF 5 [.sh, .sh] m_widths_between_v3
/-! Document.__eq__(self, other); slots: 0 self 1 other -/
noncomputable def m_Document___eq___v2 : CS :=
  (cSeq (cIfS (cNot (cTest (cIsO 1)))
    (cRet (cK (.bl false)))
    cSkip)
  (cRet (cAndV (cPrim gEq [.tm (cFld 0 1), .tm (cFld 1 1)]) (cCall LM.F_are_equal_v2 [.sh, .sh] .sh [0, 1] [] [.tm (cFld 0 0), .tm (cFld 1 0)]))))
noncomputable def F_Document___eq___v2 : FnD := runF 2 [.ps docT, .ps docT] m_Document___eq___v2
/-! Document.__init__(self, widths); slots: 0 self 1 widths 2 own -/
noncomputable def m_Document___init___v2 : CS :=
  (cSeq (cAsg 2 (cIf (cTest (cPrim gIsi [.tm (cVar 1), .tm (cK (.ty "tuple"))])) (cPrim gList [.tm (cVar 1)]) (cVar 1)))
  (cSeq (cDrop (cCall LM.F_require_widths_v2 [.sh] .sh [0] [] [.tm (cVar 2)]))
  (cSeq (cSetF 0 0 (cPrim gList [.tm (cVar 2)]))
  (cSeq (cSetF 0 1 (cPrim gLst []))
  (cSeq (cNewF 0 2 (cPrim gLst []))
  (cNewF 0 3 (cPrim gLst [])))))))
noncomputable def F_Document___init___v2 : FnD := runF 3 [.ps docT, .sh] m_Document___init___v2
/-! Document.undo(self); slots: 0 self -/
noncomputable def m_Document_undo_v2 : CS :=
  (cSeq (cIfS (cTest (cFldZ 0 2 gEq))
    (cRaise "NothingToUndo")
    cSkip)
  (cSeq (cDrop (cMutF 0 2 mPop))
  (cPopU 0 3 0 1)))
noncomputable def F_Document_undo_v2 : FnD := runF 1 [.ps docT] m_Document_undo_v2
/-! Document.__len__(self); slots: 0 self -/
noncomputable def m_Document___len__ : CS :=
  (cRet (cFldP 0 2 gLen))
noncomputable def F_Document___len__ : FnD := runF 1 [.ps docT] m_Document___len__
/-! Document.locate(self, row); slots: 0 self 1 row 2 counts 3 line -/
noncomputable def m_Document_locate_v2 : CS :=
  (cSeq (cAsg 2 (cMeth 0 (cCall LM.F_Document_row_counts [.lo 0 docT] .sh [0] [] (.vr 0 :: []))))
  (cSeq (cIfS (cNot (cTest (cCall LM.F_is_integer [.sh, .sh, .sh] .sh [0, 1, 2] [] [.tm (cVar 1), .tm (cK (.int 0)), .tm (cPrim gSub [.tm (cPrim gSum [.tm (cVar 2)]), .tm (cK (.int 1))])])))
    (cRaise "InvalidIndex")
    cSkip)
  (cSeq (cAsg 3 (cK (.int 0)))
  (cSeq (whileD (cTest (cPrim gGe [.tm (cVar 1), .tm (cPrim gIx [.tm (cVar 2), .tm (cVar 3)])]))
    (cSeq (cAug 1 gSubI (cPrim gIx [.tm (cVar 2), .tm (cVar 3)]))
    (cAug 3 gAddI (cK (.int 1)))) (10 ^ 80))
  (cRet (cPrim gTup [.tm (cVar 3), .tm (cCall LM.F_break_at [.sh, .sh] .sh [0, 1] [] [.tm (cCall LM.F_effective_of [.sh] .sh [0] [] [.tm (cFld 0 0)]), .tm (cVar 1)])]))))))
noncomputable def F_Document_locate_v2 : FnD := runF 4 [.ps docT, .sh] m_Document_locate_v2
/-! Document.require_line(self, index); slots: 0 self 1 index -/
noncomputable def m_Document_require_line_v2 : CS :=
  (cIfS (cNot (cTest (cCall LM.F_is_integer [.sh, .sh, .sh] .sh [0, 1, 2] [] [.tm (cVar 1), .tm (cK (.int 0)), .tm (cPrim gSub [.tm (cPrim gLen [.tm (cFld 0 1)]), .tm (cK (.int 1))])])))
    (cRaise "InvalidIndex")
    cSkip)
noncomputable def F_Document_require_line_v2 : FnD := runF 2 [.ps docT, .sh] m_Document_require_line_v2
/-! Document.row_of(self, line, position); slots: 0 self 1 line 2 position 3 above -/
noncomputable def m_Document_row_of_v2 : CS :=
  (cSeq (cDrop (cMeth 0 (cCall LM.F_Document_require_line_v2 [.lo 0 docT, .sh] .sh [0, 1] [] (.vr 0 :: [.tm (cVar 1)]))))
  (cSeq (cIfS (cNot (cTest (cCall LM.F_is_integer [.sh, .sh, .sh] .sh [0, 1, 2] [] [.tm (cVar 2), .tm (cK (.int 0)), .tm (cPrim gSub [.tm (cPrim gIx [.tm (cFld 0 1), .tm (cVar 1)]), .tm (cK (.int 1))])])))
    (cRaise "InvalidPosition")
    cSkip)
  (cSeq (cAsg 3 (cPrim gSum [.tm (cPrim gSl01 [.tm (cMeth 0 (cCall LM.F_Document_row_counts [.lo 0 docT] .sh [0] [] (.vr 0 :: []))), .tm (cVar 1)])]))
  (cRet (cPrim gSub [.tm (cPrim gAdd [.tm (cVar 3), .tm (cCall LM.F_breaks_below [.sh, .sh] .sh [0, 1] [] [.tm (cCall LM.F_effective_of [.sh] .sh [0] [] [.tm (cFld 0 0)]), .tm (cPrim gAdd [.tm (cVar 2), .tm (cK (.int 1))])])]), .tm (cK (.int 1))])))))
noncomputable def F_Document_row_of_v2 : FnD := runF 4 [.ps docT, .sh, .sh] m_Document_row_of_v2
/-! effective(widths); slots: 0 widths -/
noncomputable def m_effective_v3 : CS :=
  (cSeq (cDrop (cCall LM.F_require_widths_v2 [.sh] .sh [0] [] [.tm (cVar 0)]))
  (cRet (cCall LM.F_effective_of [.sh] .sh [0] [] [.tm (cVar 0)])))
noncomputable def F_effective_v3 : FnD := runF 1 [.sh] m_effective_v3
/-! Document.add_line(self, index, length); slots: 0 self 1 index 2 length 3 lengths -/
noncomputable def m_Document_add_line_v2 : CS :=
  (cSeq (cIfS (cNot (cTest (cCall LM.F_is_integer [.sh, .sh, .sh] .sh [0, 1, 2] [] [.tm (cVar 1), .tm (cK (.int 0)), .tm (cPrim gLen [.tm (cFld 0 1)])])))
    (cRaise "InvalidIndex")
    cSkip)
  (cSeq (cDrop (cCall LM.F_require_length_v2 [.sh, .sh, .sh] .sh [0, 1, 2] [.int 0, .int 1000000000000000000000000000000] [.tm (cVar 2)]))
  (cSeq (cIfS (cTest (cPrim gGe [.tm (cPrim gLen [.tm (cFld 0 1)]), .tm (cK (.int 400))]))
    (cRaiseF "TooMany" ["count"] [.tm (cPrim gAdd [.tm (cPrim gLen [.tm (cFld 0 1)]), .tm (cK (.int 1))])])
    cSkip)
  (cSeq (cAsg 3 (cPrim gAdd [.tm (cPrim gAdd [.tm (cPrim gSl01 [.tm (cFld 0 1), .tm (cVar 1)]), .tm (cPrim gLst [.tm (cVar 2)])]), .tm (cPrim gSl10 [.tm (cFld 0 1), .tm (cVar 1)])]))
  (cDrop (cMeth 0 (cCall LM.F_Document_carry_out [.lo 0 docT, .sh, .sh, .sh] .sh [0, 1, 2, 3] [] (.vr 0 :: [.tm (cPrim gTup [.tm (cK (.str "add_line")), .tm (cVar 1), .tm (cVar 2)]), .tm (cFld 0 0), .tm (cVar 3)]))))))))
noncomputable def F_Document_add_line_v2 : FnD := runF 4 [.ps docT, .sh, .sh] m_Document_add_line_v2
/-! Document.current_widths(self); slots: 0 self -/
noncomputable def m_Document_current_widths : CS :=
  (cRet (cPrim gList [.tm (cFld 0 0)]))
noncomputable def F_Document_current_widths : FnD := runF 1 [.ps docT] m_Document_current_widths
/-! Document.line_lengths(self); slots: 0 self -/
noncomputable def m_Document_line_lengths : CS :=
  (cRet (cPrim gList [.tm (cFld 0 1)]))
noncomputable def F_Document_line_lengths : FnD := runF 1 [.ps docT] m_Document_line_lengths
/-! Document.log(self); slots: 0 self -/
noncomputable def m_Document_log : CS :=
  (cRet (cFldP 0 2 gList))
noncomputable def F_Document_log : FnD := runF 1 [.ps docT] m_Document_log
/-! Document.remove_width(self, index); slots: 0 self 1 index 2 widths -/
noncomputable def m_Document_remove_width_v2 : CS :=
  (cSeq (cIfS (cNot (cTest (cCall LM.F_is_integer [.sh, .sh, .sh] .sh [0, 1, 2] [] [.tm (cVar 1), .tm (cK (.int 0)), .tm (cPrim gSub [.tm (cPrim gLen [.tm (cFld 0 0)]), .tm (cK (.int 1))])])))
    (cRaise "InvalidIndex")
    cSkip)
  (cSeq (cAsg 2 (cPrim gAdd [.tm (cPrim gSl01 [.tm (cFld 0 0), .tm (cVar 1)]), .tm (cPrim gSl10 [.tm (cFld 0 0), .tm (cPrim gAdd [.tm (cVar 1), .tm (cK (.int 1))])])]))
  (cDrop (cMeth 0 (cCall LM.F_Document_carry_out [.lo 0 docT, .sh, .sh, .sh] .sh [0, 1, 2, 3] [] (.vr 0 :: [.tm (cPrim gTup [.tm (cK (.str "remove_width")), .tm (cVar 1)]), .tm (cVar 2), .tm (cFld 0 1)]))))))
noncomputable def F_Document_remove_width_v2 : FnD := runF 3 [.ps docT, .sh] m_Document_remove_width_v2
/-! Document.set_length(self, index, length); slots: 0 self 1 index 2 length 3 lengths -/
noncomputable def m_Document_set_length : CS :=
  (cSeq (cDrop (cMeth 0 (cCall LM.F_Document_require_line_v2 [.lo 0 docT, .sh] .sh [0, 1] [] (.vr 0 :: [.tm (cVar 1)]))))
  (cSeq (cDrop (cCall LM.F_require_length_v2 [.sh, .sh, .sh] .sh [0, 1, 2] [.int 0, .int 1000000000000000000000000000000] [.tm (cVar 2)]))
  (cSeq (cAsg 3 (cPrim gAdd [.tm (cPrim gAdd [.tm (cPrim gSl01 [.tm (cFld 0 1), .tm (cVar 1)]), .tm (cPrim gLst [.tm (cVar 2)])]), .tm (cPrim gSl10 [.tm (cFld 0 1), .tm (cPrim gAdd [.tm (cVar 1), .tm (cK (.int 1))])])]))
  (cDrop (cMeth 0 (cCall LM.F_Document_carry_out [.lo 0 docT, .sh, .sh, .sh] .sh [0, 1, 2, 3] [] (.vr 0 :: [.tm (cPrim gTup [.tm (cK (.str "set_length")), .tm (cVar 1), .tm (cVar 2)]), .tm (cFld 0 0), .tm (cVar 3)])))))))
noncomputable def F_Document_set_length : FnD := runF 4 [.ps docT, .sh, .sh] m_Document_set_length
/-! Document.remove_line(self, index); slots: 0 self 1 index 2 lengths -/
noncomputable def m_Document_remove_line : CS :=
  (cSeq (cDrop (cMeth 0 (cCall LM.F_Document_require_line_v2 [.lo 0 docT, .sh] .sh [0, 1] [] (.vr 0 :: [.tm (cVar 1)]))))
  (cSeq (cAsg 2 (cPrim gAdd [.tm (cPrim gSl01 [.tm (cFld 0 1), .tm (cVar 1)]), .tm (cPrim gSl10 [.tm (cFld 0 1), .tm (cPrim gAdd [.tm (cVar 1), .tm (cK (.int 1))])])]))
  (cDrop (cMeth 0 (cCall LM.F_Document_carry_out [.lo 0 docT, .sh, .sh, .sh] .sh [0, 1, 2, 3] [] (.vr 0 :: [.tm (cPrim gTup [.tm (cK (.str "remove_line")), .tm (cVar 1)]), .tm (cFld 0 0), .tm (cVar 2)]))))))
noncomputable def F_Document_remove_line : FnD := runF 3 [.ps docT, .sh] m_Document_remove_line
/-! Document.add_width(self, index, width); slots: 0 self 1 index 2 width 3 widths -/
noncomputable def m_Document_add_width_v2 : CS :=
  (cSeq (cIfS (cNot (cTest (cCall LM.F_is_integer [.sh, .sh, .sh] .sh [0, 1, 2] [] [.tm (cVar 1), .tm (cK (.int 0)), .tm (cPrim gLen [.tm (cFld 0 0)])])))
    (cRaise "InvalidIndex")
    cSkip)
  (cSeq (cIfS (cOr (cNot (cTest (cCall LM.F_is_width [.sh] .sh [0] [] [.tm (cVar 2)]))) (cTest (cPrim gGe [.tm (cPrim gLen [.tm (cFld 0 0)]), .tm (cK (.int 20))])))
    (cRaise "InvalidWidths")
    cSkip)
  (cSeq (cAsg 3 (cPrim gAdd [.tm (cPrim gAdd [.tm (cPrim gSl01 [.tm (cFld 0 0), .tm (cVar 1)]), .tm (cPrim gLst [.tm (cVar 2)])]), .tm (cPrim gSl10 [.tm (cFld 0 0), .tm (cVar 1)])]))
  (cDrop (cMeth 0 (cCall LM.F_Document_carry_out [.lo 0 docT, .sh, .sh, .sh] .sh [0, 1, 2, 3] [] (.vr 0 :: [.tm (cPrim gTup [.tm (cK (.str "add_width")), .tm (cVar 1), .tm (cVar 2)]), .tm (cVar 3), .tm (cFld 0 1)])))))))
noncomputable def F_Document_add_width_v2 : FnD := runF 4 [.ps docT, .sh, .sh] m_Document_add_width_v2
/-! parse_pieces(text); slots: 0 text 1 sizes 2 part 3 total 4 index 5 size -/
noncomputable def m_parse_pieces_v2 : CS :=
  (cSeq (cIfS (cNot (cTest (cPrim gIsi [.tm (cVar 0), .tm (cK (.ty "str"))])))
    (cRaiseF "ParseError" ["index"] [.tm (cK .non)])
    cSkip)
  (cSeq (cAsg 1 (cLc (cIt giL [.tm (cPrim gSplit [.tm (cStr (cVar 0)), .tm (cK (.str "+"))])]) (.nm 2) cYes (cCall LM.F_number_of [.sh] .sh [0] [] [.tm (cVar 2)]) [2]))
  (cSeq (cAsg 3 (cK (.int 0)))
  (cSeq (cFor (cIt giE [.tm (cVar 1)]) (.tp [4, 5])
    (cSeq (cAug 3 gAddI (cIf (cTest (cPrim gIs [.tm (cVar 5), .tm (cK .non)])) (cK (.int 0)) (cVar 5)))
    (cIfS (cOr (cTest (cPrim gIs [.tm (cVar 5), .tm (cK .non)])) (cOr (cTest (cPrim gEq [.tm (cVar 5), .tm (cK (.int 0))])) (cOr (cTest (cPrim gGe [.tm (cVar 4), .tm (cK (.int 400))])) (cTest (cPrim gGt [.tm (cVar 3), .tm (cK (.int 10000))])))))
      (cRaiseF "ParseError" ["index"] [.tm (cVar 4)])
      cSkip)))
  (cRet (cVar 1))))))
noncomputable def F_parse_pieces_v2 : FnD := runF 6 [.sh] m_parse_pieces_v2
/-! require_pieces(pieces); slots: 0 pieces -/
noncomputable def m_require_pieces_v2 : CS :=
  (cIfS (cNot (cTest (cCall LM.F_is_pieces [.sh] .sh [0] [] [.tm (cVar 0)])))
    (cRaise "InvalidPieces")
    cSkip)
noncomputable def F_require_pieces_v2 : FnD := runF 1 [.sh] m_require_pieces_v2
/-! format_pieces(pieces); slots: 0 pieces 1 size -/
noncomputable def m_format_pieces_v2 : CS :=
  (cSeq (cDrop (cCall LM.F_require_pieces_v2 [.sh] .sh [0] [] [.tm (cVar 0)]))
  (cRet (cPrim gJoin [.tm (cStr (cK (.str "+"))), .tm (cLc (cIt giL [.tm (cVar 0)]) (.nm 1) cYes (cPrim gStrI [.tm (cVar 1)]) [1])])))
noncomputable def F_format_pieces_v2 : FnD := runF 2 [.sh] m_format_pieces_v2
/-! format_widths(widths); slots: 0 widths 1 width -/
noncomputable def m_format_widths_v2 : CS :=
  (cSeq (cDrop (cCall LM.F_require_widths_v2 [.sh] .sh [0] [] [.tm (cVar 0)]))
  (cRet (cIf (cTest (cPrim gNe [.tm (cVar 0), .tm (cPrim gLst [])])) (cPrim gJoin [.tm (cStr (cK (.str ","))), .tm (cLc (cIt giL [.tm (cVar 0)]) (.nm 1) cYes (cPrim gStrI [.tm (cVar 1)]) [1])]) (cK (.str "-")))))
noncomputable def F_format_widths_v2 : FnD := runF 2 [.sh] m_format_widths_v2
/-! _law_number(word); slots: 0 word 1 sign -/
noncomputable def m__law_number : CS :=
  (cSeq (cIfS (cOr (cTest (cPrim gEq [.tm (cVar 0), .tm (cK (.str ""))])) (cOr (cTest (cPrim gGt [.tm (cPrim gLen [.tm (cVar 0)]), .tm (cK (.int 40))])) (cTest (cPrim gNe [.tm (cLc (cIt giL [.tm (cVar 0)]) (.nm 1) (cOr (cTest (cPrim gLt [.tm (cVar 1), .tm (cK (.str "0"))])) (cTest (cPrim gGt [.tm (cVar 1), .tm (cK (.str "9"))]))) (cVar 1) [1]), .tm (cPrim gLst [])]))))
    (cRet (cK .non))
    cSkip)
  (cRet (cIf (cTest (cPrim gEq [.tm (cPrim gStrI [.tm (cPrim gInt [.tm (cVar 0)])]), .tm (cVar 0)])) (cPrim gInt [.tm (cVar 0)]) (cK .non))))
noncomputable def F__law_number : FnD := runF 2 [.sh] m__law_number
/-! _law_number(word); slots: 0 word 1 sign -/
noncomputable def m__law_number_v2 : CS :=
  (cSeq (cIfS (cOr (cTest (cPrim gEq [.tm (cVar 0), .tm (cK (.str ""))])) (cOr (cTest (cPrim gGt [.tm (cPrim gLen [.tm (cVar 0)]), .tm (cK (.int 40))])) (cTest (cPrim gNe [.tm (cLc (cIt giS [.tm (cVar 0)]) (.nm 1) (cOr (cTest (cPrim gLtS [.tm (cVar 1), .tm (cK (.str "0"))])) (cTest (cPrim gGtS [.tm (cVar 1), .tm (cK (.str "9"))]))) (cVar 1) [1]), .tm (cPrim gLst [])]))))
    (cRet (cK .non))
    cSkip)
  (cRet (cIf (cTest (cPrim gEq [.tm (cPrim gStrI [.tm (cPrim gIntS [.tm (cVar 0)])]), .tm (cVar 0)])) (cPrim gIntS [.tm (cVar 0)]) (cK .non))))
noncomputable def F__law_number_v2 : FnD := runF 2 [.sh] m__law_number_v2
/-! parse_widths(text); slots: 0 text 1 widths 2 part 3 index 4 width -/
noncomputable def m_parse_widths_v2 : CS :=
  (cSeq (cIfS (cNot (cTest (cPrim gIsi [.tm (cVar 0), .tm (cK (.ty "str"))])))
    (cRaiseF "ParseError" ["index"] [.tm (cK .non)])
    cSkip)
  (cSeq (cIfS (cTest (cPrim gEq [.tm (cVar 0), .tm (cK (.str "-"))]))
    (cRet (cPrim gLst []))
    cSkip)
  (cSeq (cAsg 1 (cLc (cIt giL [.tm (cPrim gSplit [.tm (cStr (cVar 0)), .tm (cK (.str ","))])]) (.nm 2) cYes (cCall LM.F_number_of [.sh] .sh [0] [] [.tm (cVar 2)]) [2]))
  (cSeq (cFor (cIt giE [.tm (cVar 1)]) (.tp [3, 4])
    (cIfS (cNot (cTest (cCall LM.F_is_width [.sh] .sh [0] [] [.tm (cVar 4)])))
      (cRaiseF "ParseError" ["index"] [.tm (cVar 3)])
      cSkip))
  (cRet (cVar 1))))))
noncomputable def F_parse_widths_v2 : FnD := runF 5 [.sh] m_parse_widths_v2
/-! _law_word_of(e); slots: 0 e 1 words -/
noncomputable def m__law_word_of_v2 : CS :=
  (cSeq (cAsg 1 (cPrim gLst []))
  (cSeq (cIfS (cTest (cPrim (gIsE (["ParseError"] : List Str) ([] : List Str)) [.tm (cVar 0)]))
    (cDrop (cMut 1 mApp [.tm (cK (.str "widths"))]))
    cSkip)
  (cSeq (cIfS (cTest (cPrim (gIsE (["ParseError"] : List Str) ([] : List Str)) [.tm (cVar 0)]))
    (cDrop (cMut 1 mApp [.tm (cK (.str "position"))]))
    cSkip)
  (cSeq (cIfS (cTest (cPrim (gIsE (["ParseError"] : List Str) ([] : List Str)) [.tm (cVar 0)]))
    (cDrop (cMut 1 mApp [.tm (cK (.str "length"))]))
    cSkip)
  (cSeq (cIfS (cTest (cPrim (gIsE (["ParseError"] : List Str) ([] : List Str)) [.tm (cVar 0)]))
    (cDrop (cMut 1 mApp [.tm (cK (.str "index"))]))
    cSkip)
  (cSeq (cIfS (cTest (cPrim (gIsE (["ParseError"] : List Str) ([] : List Str)) [.tm (cVar 0)]))
    (cDrop (cMut 1 mApp [.tm (cK (.str "text"))]))
    cSkip)
  (cSeq (cIfS (cTest (cPrim (gIsE (["ParseError"] : List Str) ([] : List Str)) [.tm (cVar 0)]))
    (cDrop (cMut 1 mApp [.tm (cK (.str "command"))]))
    cSkip)
  (cSeq (cIfS (cTest (cPrim (gIsE (["ParseError"] : List Str) ([] : List Str)) [.tm (cVar 0)]))
    (cDrop (cMut 1 mApp [.tm (cK (.str "none"))]))
    cSkip)
  (cSeq (cIfS (cTest (cPrim (gIsE (["ParseError"] : List Str) ([] : List Str)) [.tm (cVar 0)]))
    (cDrop (cMut 1 mApp [.tm (cK (.str "undo"))]))
    cSkip)
  (cSeq (cIfS (cTest (cPrim (gIsE (["ParseError"] : List Str) ([] : List Str)) [.tm (cVar 0)]))
    (cDrop (cMut 1 mApp [.tm (cK (.str "many"))]))
    cSkip)
  (cSeq (cIfS (cTest (cPrim (gIsE (["ParseError"] : List Str) ([] : List Str)) [.tm (cVar 0)]))
    (cDrop (cMut 1 mApp [.tm (cK (.str "wrapped"))]))
    cSkip)
  (cSeq (cIfS (cTest (cPrim (gIsE (["ParseError"] : List Str) (["ParseError"] : List Str)) [.tm (cVar 0)]))
    (cDrop (cMut 1 mApp [.tm (cK (.str "parse"))]))
    cSkip)
  (cSeq (cIfS (cTest (cPrim (gIsE (["ParseError"] : List Str) ([] : List Str)) [.tm (cVar 0)]))
    (cDrop (cMut 1 mApp [.tm (cK (.str "odd"))]))
    cSkip)
  (cRet (cIf (cAnd (cTest (cPrim gEq [.tm (cPrim gLen [.vr 1]), .tm (cK (.int 1))])) (cAnd (cTest (cPrim (gIsE (["ParseError"] : List Str) (["ParseError"] : List Str)) [.tm (cVar 0)])) (cTest (cPrim (gIsE (["ParseError"] : List Str) (["ParseError"] : List Str)) [.tm (cVar 0)])))) (cPrim gIx [.vr 1, .tm (cK (.int 0))]) (cK (.str "odd")))))))))))))))))
noncomputable def F__law_word_of_v2 : FnD := runF 2 [.sh] m__law_word_of_v2
/-! parse_widths(text); slots: 0 text 1 widths 2 part 3 index 4 width -/
noncomputable def m_parse_widths_v3 : CS :=
  (cSeq (cIfS (cNot (cTest (cPrim gIsi [.tm (cVar 0), .tm (cK (.ty "str"))])))
    cStuck
    cSkip)
  (cSeq (cIfS (cTest (cPrim gEq [.tm (cVar 0), .tm (cK (.str "-"))]))
    (cRet (cPrim gLst []))
    cSkip)
  (cSeq (cAsg 1 (cLc (cIt giL [.tm (cPrim gSplit [.tm (cStr (cVar 0)), .tm (cK (.str ","))])]) (.nm 2) cYes (cCall LM.F_number_of [.sh] .sh [0] [] [.tm (cVar 2)]) [2]))
  (cSeq (cForE 1 (.tp [3, 4])
    (cIfS (cNot (cTest (cCall LM.F_is_width [.sh] .sh [0] [] [.tm (cVar 4)])))
      cStuck
      cSkip))
  (cRet (cVar 1))))))
noncomputable def F_parse_widths_v3 : FnD := runF 5 [.sh] m_parse_widths_v3
/-! parse_pieces(text); slots: 0 text 1 sizes 2 part 3 total 4 index 5 size -/
noncomputable def m_parse_pieces_v3 : CS :=
  (cSeq (cIfS (cNot (cTest (cPrim gIsi [.tm (cVar 0), .tm (cK (.ty "str"))])))
    cStuck
    cSkip)
  (cSeq (cAsg 1 (cLc (cIt giL [.tm (cPrim gSplit [.tm (cStr (cVar 0)), .tm (cK (.str "+"))])]) (.nm 2) cYes (cCall LM.F_number_of [.sh] .sh [0] [] [.tm (cVar 2)]) [2]))
  (cSeq (cAsg 3 (cK (.int 0)))
  (cSeq (cForE 1 (.tp [4, 5])
    (cSeq (cAug 3 gAddI (cIf (cTest (cPrim gIs [.tm (cVar 5), .tm (cK .non)])) (cK (.int 0)) (cVar 5)))
    (cIfS (cOr (cTest (cPrim gIs [.tm (cVar 5), .tm (cK .non)])) (cOr (cTest (cPrim gEq [.tm (cVar 5), .tm (cK (.int 0))])) (cOr (cTest (cPrim gGe [.tm (cVar 4), .tm (cK (.int 400))])) (cTest (cPrim gGt [.tm (cVar 3), .tm (cK (.int 10000))])))))
      cStuck
      cSkip)))
  (cRet (cVar 1))))))
noncomputable def F_parse_pieces_v3 : FnD := runF 6 [.sh] m_parse_pieces_v3
/-! _law_kind(error); slots: 0 error 1 pairs 2 others 3 matches 4 word 5 yes -/
noncomputable def m__law_kind_v5 : CS :=
  (cSeq (cAsg 1 (cPrim gLst [.tm (cPrim gTup [.tm (cK (.str "widths")), .tm (cPrim (gIsE (["Conflict", "InvalidCommand", "InvalidIndex", "InvalidLength", "InvalidPeriod", "InvalidPieces", "InvalidPosition", "InvalidText", "InvalidWidths", "NoWidths", "NotFitting", "NotWrapped", "NothingToUndo", "ParseError", "TooMany"] : List Str) (["InvalidWidths"] : List Str)) [.tm (cVar 0)])]), .tm (cPrim gTup [.tm (cK (.str "place")), .tm (cPrim (gIsE (["Conflict", "InvalidCommand", "InvalidIndex", "InvalidLength", "InvalidPeriod", "InvalidPieces", "InvalidPosition", "InvalidText", "InvalidWidths", "NoWidths", "NotFitting", "NotWrapped", "NothingToUndo", "ParseError", "TooMany"] : List Str) (["InvalidPosition"] : List Str)) [.tm (cVar 0)])])]))
  (cSeq (cAsg 1 (cPrim gAdd [.tm (cVar 1), .tm (cPrim gLst [.tm (cPrim gTup [.tm (cK (.str "length")), .tm (cPrim (gIsE (["Conflict", "InvalidCommand", "InvalidIndex", "InvalidLength", "InvalidPeriod", "InvalidPieces", "InvalidPosition", "InvalidText", "InvalidWidths", "NoWidths", "NotFitting", "NotWrapped", "NothingToUndo", "ParseError", "TooMany"] : List Str) (["InvalidLength"] : List Str)) [.tm (cVar 0)])]), .tm (cPrim gTup [.tm (cK (.str "index")), .tm (cPrim (gIsE (["Conflict", "InvalidCommand", "InvalidIndex", "InvalidLength", "InvalidPeriod", "InvalidPieces", "InvalidPosition", "InvalidText", "InvalidWidths", "NoWidths", "NotFitting", "NotWrapped", "NothingToUndo", "ParseError", "TooMany"] : List Str) (["InvalidIndex"] : List Str)) [.tm (cVar 0)])])])]))
  (cSeq (cAsg 1 (cPrim gAdd [.tm (cVar 1), .tm (cPrim gLst [.tm (cPrim gTup [.tm (cK (.str "period")), .tm (cPrim (gIsE (["Conflict", "InvalidCommand", "InvalidIndex", "InvalidLength", "InvalidPeriod", "InvalidPieces", "InvalidPosition", "InvalidText", "InvalidWidths", "NoWidths", "NotFitting", "NotWrapped", "NothingToUndo", "ParseError", "TooMany"] : List Str) (["InvalidPeriod"] : List Str)) [.tm (cVar 0)])]), .tm (cPrim gTup [.tm (cK (.str "many")), .tm (cPrim (gIsE (["Conflict", "InvalidCommand", "InvalidIndex", "InvalidLength", "InvalidPeriod", "InvalidPieces", "InvalidPosition", "InvalidText", "InvalidWidths", "NoWidths", "NotFitting", "NotWrapped", "NothingToUndo", "ParseError", "TooMany"] : List Str) (["TooMany"] : List Str)) [.tm (cVar 0)])])])]))
  (cSeq (cAsg 2 (cPrim (gIsE (["Conflict", "InvalidCommand", "InvalidIndex", "InvalidLength", "InvalidPeriod", "InvalidPieces", "InvalidPosition", "InvalidText", "InvalidWidths", "NoWidths", "NotFitting", "NotWrapped", "NothingToUndo", "ParseError", "TooMany"] : List Str) (["Conflict", "InvalidCommand", "InvalidPieces", "InvalidText", "NotFitting", "NothingToUndo"] : List Str)) [.tm (cVar 0)]))
  (cSeq (cAsg 2 (cOrV (cVar 2) (cPrim (gIsE (["Conflict", "InvalidCommand", "InvalidIndex", "InvalidLength", "InvalidPeriod", "InvalidPieces", "InvalidPosition", "InvalidText", "InvalidWidths", "NoWidths", "NotFitting", "NotWrapped", "NothingToUndo", "ParseError", "TooMany"] : List Str) (["NoWidths", "NotWrapped", "ParseError"] : List Str)) [.tm (cVar 0)])))
  (cSeq (cAsg 3 (cLc (cIt giL [.tm (cVar 1)]) (.tp [4, 5]) (cTest (cVar 5)) (cVar 4) [4, 5]))
  (cRet (cIf (cOr (cTest (cVar 2)) (cOr (cTest (cPrim gNe [.tm (cPrim gLen [.tm (cVar 3)]), .tm (cK (.int 1))])) (cNot (cTest (cPrim (gIsE (["Conflict", "InvalidCommand", "InvalidIndex", "InvalidLength", "InvalidPeriod", "InvalidPieces", "InvalidPosition", "InvalidText", "InvalidWidths", "NoWidths", "NotFitting", "NotWrapped", "NothingToUndo", "ParseError", "TooMany"] : List Str) (["Conflict", "InvalidCommand", "InvalidIndex", "InvalidLength", "InvalidPeriod", "InvalidPieces", "InvalidPosition", "InvalidText", "InvalidWidths", "NoWidths", "NotFitting", "NotWrapped", "NothingToUndo", "ParseError", "TooMany"] : List Str)) [.tm (cVar 0)]))))) (cK (.str "odd")) (cPrim gIx [.tm (cVar 3), .tm (cK (.int 0))])))))))))
noncomputable def F__law_kind_v5 : FnD := runF 6 [.sh] m__law_kind_v5
/-! column(widths, position); slots: 0 widths 1 position -/
noncomputable def m_column_v2 : CS :=
  (cSeq (cDrop (cCall LM.F_require_widths_v2 [.sh] .sh [0] [] [.tm (cVar 0)]))
  (cSeq (cDrop (cCall LM.F_require_position_v2 [.sh] .sh [0] [] [.tm (cVar 1)]))
  (cRet (cCall LM.F_column_of [.sh, .sh] .sh [0, 1] [] [.tm (cVar 0), .tm (cVar 1)]))))
noncomputable def F_column_v2 : FnD := runF 2 [.sh, .sh] m_column_v2
/-! is_break(widths, position); slots: 0 widths 1 position -/
noncomputable def m_is_break_v2 : CS :=
  (cRet (cPrim gEq [.tm (cCall LM.F_column_v2 [.sh, .sh] .sh [0, 1] [] [.tm (cVar 0), .tm (cVar 1)]), .tm (cK (.int 0))]))
noncomputable def F_is_break_v2 : FnD := runF 2 [.sh, .sh] m_is_break_v2
/-! last_break(widths, position); slots: 0 widths 1 position -/
noncomputable def m_last_break_v2 : CS :=
  (cRet (cPrim gSub [.tm (cVar 1), .tm (cCall LM.F_column_v2 [.sh, .sh] .sh [0, 1] [] [.tm (cVar 0), .tm (cVar 1)])]))
noncomputable def F_last_break_v2 : FnD := runF 2 [.sh, .sh] m_last_break_v2
/-! columns(widths, length); slots: 0 widths 1 length 2 position -/
noncomputable def m_columns_v2 : CS :=
  (cSeq (cDrop (cCall LM.F_require_widths_v2 [.sh] .sh [0] [] [.tm (cVar 0)]))
  (cSeq (cDrop (cCall LM.F_require_length_v2 [.sh, .sh, .sh] .sh [0, 1, 2] [.int 0, .int 1000000000000000000000000000000] [.tm (cVar 1), .tm (cK (.int 0)), .tm (cK (.int 1000))]))
  (cRet (cLc (cIt giR1 [.tm (cVar 1)]) (.nm 2) cYes (cCall LM.F_column_of [.sh, .sh] .sh [0, 1] [] [.tm (cVar 0), .tm (cVar 2)]) [2]))))
noncomputable def F_columns_v2 : FnD := runF 3 [.sh, .sh] m_columns_v2
/-! _law_word_of(e); slots: 0 e 1 words -/
noncomputable def m__law_word_of_v3 : CS :=
  (cSeq (cAsg 1 (cPrim gLst []))
  (cSeq (cIfS (cTest (cPrim (gIsE (["InvalidIndex", "InvalidLength", "InvalidPosition", "InvalidWidths", "NothingToUndo", "TooMany"] : List Str) (["InvalidWidths"] : List Str)) [.tm (cVar 0)]))
    (cDrop (cMut 1 mApp [.tm (cK (.str "widths"))]))
    cSkip)
  (cSeq (cIfS (cTest (cPrim (gIsE (["InvalidIndex", "InvalidLength", "InvalidPosition", "InvalidWidths", "NothingToUndo", "TooMany"] : List Str) (["InvalidPosition"] : List Str)) [.tm (cVar 0)]))
    (cDrop (cMut 1 mApp [.tm (cK (.str "position"))]))
    cSkip)
  (cSeq (cIfS (cTest (cPrim (gIsE (["InvalidIndex", "InvalidLength", "InvalidPosition", "InvalidWidths", "NothingToUndo", "TooMany"] : List Str) (["InvalidLength"] : List Str)) [.tm (cVar 0)]))
    (cDrop (cMut 1 mApp [.tm (cK (.str "length"))]))
    cSkip)
  (cSeq (cIfS (cTest (cPrim (gIsE (["InvalidIndex", "InvalidLength", "InvalidPosition", "InvalidWidths", "NothingToUndo", "TooMany"] : List Str) (["InvalidIndex"] : List Str)) [.tm (cVar 0)]))
    (cDrop (cMut 1 mApp [.tm (cK (.str "index"))]))
    cSkip)
  (cSeq (cIfS (cTest (cPrim (gIsE (["InvalidIndex", "InvalidLength", "InvalidPosition", "InvalidWidths", "NothingToUndo", "TooMany"] : List Str) ([] : List Str)) [.tm (cVar 0)]))
    (cDrop (cMut 1 mApp [.tm (cK (.str "text"))]))
    cSkip)
  (cSeq (cIfS (cTest (cPrim (gIsE (["InvalidIndex", "InvalidLength", "InvalidPosition", "InvalidWidths", "NothingToUndo", "TooMany"] : List Str) ([] : List Str)) [.tm (cVar 0)]))
    (cDrop (cMut 1 mApp [.tm (cK (.str "command"))]))
    cSkip)
  (cSeq (cIfS (cTest (cPrim (gIsE (["InvalidIndex", "InvalidLength", "InvalidPosition", "InvalidWidths", "NothingToUndo", "TooMany"] : List Str) ([] : List Str)) [.tm (cVar 0)]))
    (cDrop (cMut 1 mApp [.tm (cK (.str "none"))]))
    cSkip)
  (cSeq (cIfS (cTest (cPrim (gIsE (["InvalidIndex", "InvalidLength", "InvalidPosition", "InvalidWidths", "NothingToUndo", "TooMany"] : List Str) (["NothingToUndo"] : List Str)) [.tm (cVar 0)]))
    (cDrop (cMut 1 mApp [.tm (cK (.str "undo"))]))
    cSkip)
  (cSeq (cIfS (cTest (cPrim (gIsE (["InvalidIndex", "InvalidLength", "InvalidPosition", "InvalidWidths", "NothingToUndo", "TooMany"] : List Str) (["TooMany"] : List Str)) [.tm (cVar 0)]))
    (cDrop (cMut 1 mApp [.tm (cK (.str "many"))]))
    cSkip)
  (cSeq (cIfS (cTest (cPrim (gIsE (["InvalidIndex", "InvalidLength", "InvalidPosition", "InvalidWidths", "NothingToUndo", "TooMany"] : List Str) ([] : List Str)) [.tm (cVar 0)]))
    (cDrop (cMut 1 mApp [.tm (cK (.str "wrapped"))]))
    cSkip)
  (cSeq (cIfS (cTest (cPrim (gIsE (["InvalidIndex", "InvalidLength", "InvalidPosition", "InvalidWidths", "NothingToUndo", "TooMany"] : List Str) ([] : List Str)) [.tm (cVar 0)]))
    (cDrop (cMut 1 mApp [.tm (cK (.str "parse"))]))
    cSkip)
  (cSeq (cIfS (cTest (cPrim (gIsE (["InvalidIndex", "InvalidLength", "InvalidPosition", "InvalidWidths", "NothingToUndo", "TooMany"] : List Str) ([] : List Str)) [.tm (cVar 0)]))
    (cDrop (cMut 1 mApp [.tm (cK (.str "odd"))]))
    cSkip)
  (cRet (cIf (cAnd (cTest (cPrim gEq [.tm (cPrim gLen [.vr 1]), .tm (cK (.int 1))])) (cAnd (cTest (cPrim (gIsE (["InvalidIndex", "InvalidLength", "InvalidPosition", "InvalidWidths", "NothingToUndo", "TooMany"] : List Str) (["InvalidIndex", "InvalidLength", "InvalidPosition", "InvalidWidths", "NothingToUndo", "TooMany"] : List Str)) [.tm (cVar 0)])) (cTest (cPrim (gIsE (["InvalidIndex", "InvalidLength", "InvalidPosition", "InvalidWidths", "NothingToUndo", "TooMany"] : List Str) (["InvalidIndex", "InvalidLength", "InvalidPosition", "InvalidWidths", "NothingToUndo", "TooMany"] : List Str)) [.tm (cVar 0)])))) (cPrim gIx [.vr 1, .tm (cK (.int 0))]) (cK (.str "odd")))))))))))))))))
noncomputable def F__law_word_of_v3 : FnD := runF 2 [.sh] m__law_word_of_v3
/-! do_agree(one, other); slots: 0 one 1 other 2 common -/
noncomputable def m_do_agree : CS :=
  (cSeq (cAsg 2 (cPrim gMin2 [.tm (cPrim gLen [.tm (cVar 0)]), .tm (cPrim gLen [.tm (cVar 1)])]))
  (cRet (cPrim gEq [.tm (cPrim gSl01 [.tm (cVar 0), .tm (cVar 2)]), .tm (cPrim gSl01 [.tm (cVar 1), .tm (cVar 2)])])))
noncomputable def F_do_agree : FnD := runF 3 [.sh, .sh] m_do_agree
/-! shortest_for_lines(lines); slots: 0 lines 1 line 2 found 3 first 4 one 5 second 6 longest -/
noncomputable def m_shortest_for_lines : CS :=
  (cSeq (cIfS (cOr (cNot (cTest (cPrim gIsi [.tm (cVar 0), .tm (cK (.ty "list"))]))) (cNot (cTest (cChain gLe gLe (cK (.int 1)) (cPrim gLen [.tm (cVar 0)]) (cK (.int 40))))))
    cStuck
    cSkip)
  (cSeq (cFor (cIt giL [.tm (cVar 0)]) (.nm 1)
    (cDrop (cCall LM.F_require_pieces [.sh] .sh [0] [] [.tm (cVar 1)])))
  (cSeq (cAsg 2 (cLc (cIt giL [.tm (cVar 0)]) (.nm 1) cYes (cCall LM.F_columns_of [.sh] .sh [0] [] [.tm (cVar 1)]) [1]))
  (cSeq (cFor (cIt giE [.tm (cVar 2)]) (.tp [3, 4])
    (cFor (cIt giR2 [.tm (cPrim gAdd [.tm (cVar 3), .tm (cK (.int 1))]), .tm (cPrim gLen [.tm (cVar 2)])]) (.nm 5)
      (cIfS (cNot (cTest (cCall LM.F_do_agree [.sh, .sh] .sh [0, 1] [] [.tm (cVar 4), .tm (cPrim gIx [.tm (cVar 2), .tm (cVar 5)])])))
        (cRaiseF "Conflict" ["first", "second"] [.tm (cVar 3), .tm (cVar 5)])
        cSkip)))
  (cSeq (cAsg 6 (cPrim gMaxL [.tm (cLc (cIt giL [.tm (cVar 0)]) (.nm 1) cYes (cPrim gSum [.tm (cVar 1)]) [1])]))
  (cRet (cCall LM.F_shortest_widths_v2 [.sh] .ow [0] [] [.tm (cPrim gIx [.tm (cLc (cIt giL [.tm (cVar 0)]) (.nm 1) (cTest (cPrim gEq [.tm (cPrim gSum [.tm (cVar 1)]), .tm (cVar 6)])) (cVar 1) [1]), .tm (cK (.int 0))])])))))))
noncomputable def F_shortest_for_lines : FnD := runF 7 [.sh] m_shortest_for_lines
/-! Console.answer_number(self, word, number); slots: 0 self 1 word 2 number -/
noncomputable def m_Console_answer_number_v2 : CS :=
  (cSeq (cIfS (cTest (cPrim gIs [.tm (cVar 2), .tm (cK .non)]))
    (cRaise "InvalidCommand")
    cSkip)
  (cSeq (cIfS (cTest (cPrim gEq [.tm (cVar 1), .tm (cK (.str "column"))]))
    (cRet (cPrim gStrI [.tm (cCall LM.F_column_v2 [.sh, .sh] .sh [0, 1] [] [.tm (cFld 0 0), .tm (cVar 2)])]))
    cSkip)
  (cSeq (cIfS (cTest (cPrim gEq [.tm (cVar 1), .tm (cK (.str "count"))]))
    (cRet (cPrim gStrI [.tm (cCall LM.F_count_pieces_v2 [.sh, .sh] .sh [0, 1] [] [.tm (cFld 0 0), .tm (cVar 2)])]))
    cSkip)
  (cRet (cPrim gStrI [.tm (cCall LM.F_nth_break_v2 [.sh, .sh] .sh [0, 1] [] [.tm (cFld 0 0), .tm (cVar 2)])])))))
noncomputable def F_Console_answer_number_v2 : FnD := runF 3 [.ps conT, .sh, .sh] m_Console_answer_number_v2
/-! shortest_widths(pieces); slots: 0 pieces 1 values 2 obstacle -/
noncomputable def m_shortest_widths_v3 : CS :=
  (cSeq (cDrop (cCall LM.F_require_pieces_v2 [.sh] .sh [0] [] [.tm (cVar 0)]))
  (cSeq (cAsg 1 (cCall LM.F_columns_of [.sh] .sh [0] [] [.tm (cVar 0)]))
  (cSeq (cAsg 2 (cCall LM.F_first_obstacle_of [.sh] .sh [0] [] [.tm (cVar 1)]))
  (cSeq (cIfS (cTest (cPrim gIsNot [.tm (cVar 2), .tm (cK .non)]))
    (cRaiseF "NotWrapped" ["position"] [.tm (cVar 2)])
    cSkip)
  (cRet (cCall LM.F_descent_of [.sh] .sh [0] [] [.tm (cVar 1)]))))))
noncomputable def F_shortest_widths_v3 : FnD := runF 3 [.sh] m_shortest_widths_v3
/-! Console.execute(self, command); slots: 0 self 1 command 2 words 3 found -/
noncomputable def m_Console_execute_v2 : CS :=
  (cSeq (cAsg 2 (cIf (cTest (cPrim gIsi [.tm (cVar 1), .tm (cK (.ty "str"))])) (cPrim gSplit [.tm (cStr (cVar 1)), .tm (cK (.str " "))]) (cPrim gLst [.tm (cK (.str ""))])))
  (cSeq (cIfS (cOr (cTest (cNotInK kv_WORD_COUNTS (cPrim gIx [.tm (cVar 2), .tm (cK (.int 0))]))) (cTest (cPrim gNe [.tm (cPrim gLen [.tm (cVar 2)]), .tm (cItemK kv_WORD_COUNTS (cPrim gIx [.tm (cVar 2), .tm (cK (.int 0))]))])))
    (cRaise "InvalidCommand")
    cSkip)
  (cSeq (cIfS (cTest (cPrim gInT [.tm (cPrim gIx [.tm (cVar 2), .tm (cK (.int 0))]), .tm (cK (.tup [.str "column", .str "count", .str "break"]))]))
    (cRet (cMeth 0 (cCall LM.F_Console_answer_number_v2 [.lo 0 conT, .sh, .sh] .sh [0, 1, 2] [] (.vr 0 :: [.tm (cPrim gIx [.tm (cVar 2), .tm (cK (.int 0))]), .tm (cCall LM.F_number_of [.sh] .sh [0] [] [.tm (cPrim gIx [.tm (cVar 2), .tm (cK (.int 1))])])]))))
    cSkip)
  (cSeq (cIfS (cTest (cPrim gEq [.tm (cPrim gIx [.tm (cVar 2), .tm (cK (.int 0))]), .tm (cK (.str "compare"))]))
    (cSeq (cAsg 3 (cCall LM.F_first_difference_v2 [.sh, .sh] .sh [0, 1] [] [.tm (cFld 0 0), .tm (cCall LM.F_parse_widths_v2 [.sh] .sh [0] [] [.tm (cPrim gIx [.tm (cVar 2), .tm (cK (.int 1))])])]))
    (cRet (cIf (cTest (cPrim gIs [.tm (cVar 3), .tm (cK .non)])) (cK (.str "equal")) (cPrim gStrI [.tm (cVar 3)]))))
    cSkip)
  (cSeq (cIfS (cTest (cPrim gEq [.tm (cPrim gIx [.tm (cVar 2), .tm (cK (.int 0))]), .tm (cK (.str "widths"))]))
    (cSeq (cSetF 0 0 (cCall LM.F_parse_widths_v2 [.sh] .sh [0] [] [.tm (cPrim gIx [.tm (cVar 2), .tm (cK (.int 1))])]))
    (cRet (cK (.str "ok"))))
    cSkip)
  (cSeq (cIfS (cTest (cPrim gEq [.tm (cPrim gIx [.tm (cVar 2), .tm (cK (.int 0))]), .tm (cK (.str "read"))]))
    (cSetF 0 0 (cCall LM.F_shortest_widths_v3 [.sh] .sh [0] [] [.tm (cCall LM.F_parse_pieces_v2 [.sh] .sh [0] [] [.tm (cPrim gIx [.tm (cVar 2), .tm (cK (.int 1))])])]))
    cSkip)
  (cRet (cCall LM.F_format_widths_v2 [.sh] .sh [0] [] [.tm (cIf (cTest (cPrim gEq [.tm (cPrim gIx [.tm (cVar 2), .tm (cK (.int 0))]), .tm (cK (.str "normal"))])) (cCall LM.F_normal_form_v2 [.sh] .sh [0] [] [.tm (cFld 0 0)]) (cFld 0 0))]))))))))
noncomputable def F_Console_execute_v2 : FnD := runF 4 [.ps conT, .sh] m_Console_execute_v2
/-! _law_word_of(e); slots: 0 e 1 words -/
noncomputable def m__law_word_of_v4 : CS :=
  (cSeq (cAsg 1 (cPrim gLst []))
  (cSeq (cIfS (cTest (cPrim (gIsE (["InvalidCommand", "InvalidIndex", "InvalidLength", "InvalidPieces", "InvalidPosition", "InvalidWidths", "NotWrapped", "ParseError"] : List Str) (["InvalidWidths"] : List Str)) [.tm (cVar 0)]))
    (cDrop (cMut 1 mApp [.tm (cK (.str "widths"))]))
    cSkip)
  (cSeq (cIfS (cTest (cPrim (gIsE (["InvalidCommand", "InvalidIndex", "InvalidLength", "InvalidPieces", "InvalidPosition", "InvalidWidths", "NotWrapped", "ParseError"] : List Str) (["InvalidPosition"] : List Str)) [.tm (cVar 0)]))
    (cDrop (cMut 1 mApp [.tm (cK (.str "position"))]))
    cSkip)
  (cSeq (cIfS (cTest (cPrim (gIsE (["InvalidCommand", "InvalidIndex", "InvalidLength", "InvalidPieces", "InvalidPosition", "InvalidWidths", "NotWrapped", "ParseError"] : List Str) (["InvalidLength"] : List Str)) [.tm (cVar 0)]))
    (cDrop (cMut 1 mApp [.tm (cK (.str "length"))]))
    cSkip)
  (cSeq (cIfS (cTest (cPrim (gIsE (["InvalidCommand", "InvalidIndex", "InvalidLength", "InvalidPieces", "InvalidPosition", "InvalidWidths", "NotWrapped", "ParseError"] : List Str) (["InvalidIndex"] : List Str)) [.tm (cVar 0)]))
    (cDrop (cMut 1 mApp [.tm (cK (.str "index"))]))
    cSkip)
  (cSeq (cIfS (cTest (cPrim (gIsE (["InvalidCommand", "InvalidIndex", "InvalidLength", "InvalidPieces", "InvalidPosition", "InvalidWidths", "NotWrapped", "ParseError"] : List Str) ([] : List Str)) [.tm (cVar 0)]))
    (cDrop (cMut 1 mApp [.tm (cK (.str "text"))]))
    cSkip)
  (cSeq (cIfS (cTest (cPrim (gIsE (["InvalidCommand", "InvalidIndex", "InvalidLength", "InvalidPieces", "InvalidPosition", "InvalidWidths", "NotWrapped", "ParseError"] : List Str) (["InvalidCommand"] : List Str)) [.tm (cVar 0)]))
    (cDrop (cMut 1 mApp [.tm (cK (.str "command"))]))
    cSkip)
  (cSeq (cIfS (cTest (cPrim (gIsE (["InvalidCommand", "InvalidIndex", "InvalidLength", "InvalidPieces", "InvalidPosition", "InvalidWidths", "NotWrapped", "ParseError"] : List Str) ([] : List Str)) [.tm (cVar 0)]))
    (cDrop (cMut 1 mApp [.tm (cK (.str "none"))]))
    cSkip)
  (cSeq (cIfS (cTest (cPrim (gIsE (["InvalidCommand", "InvalidIndex", "InvalidLength", "InvalidPieces", "InvalidPosition", "InvalidWidths", "NotWrapped", "ParseError"] : List Str) ([] : List Str)) [.tm (cVar 0)]))
    (cDrop (cMut 1 mApp [.tm (cK (.str "undo"))]))
    cSkip)
  (cSeq (cIfS (cTest (cPrim (gIsE (["InvalidCommand", "InvalidIndex", "InvalidLength", "InvalidPieces", "InvalidPosition", "InvalidWidths", "NotWrapped", "ParseError"] : List Str) ([] : List Str)) [.tm (cVar 0)]))
    (cDrop (cMut 1 mApp [.tm (cK (.str "many"))]))
    cSkip)
  (cSeq (cIfS (cTest (cPrim (gIsE (["InvalidCommand", "InvalidIndex", "InvalidLength", "InvalidPieces", "InvalidPosition", "InvalidWidths", "NotWrapped", "ParseError"] : List Str) (["NotWrapped"] : List Str)) [.tm (cVar 0)]))
    (cDrop (cMut 1 mApp [.tm (cK (.str "wrapped"))]))
    cSkip)
  (cSeq (cIfS (cTest (cPrim (gIsE (["InvalidCommand", "InvalidIndex", "InvalidLength", "InvalidPieces", "InvalidPosition", "InvalidWidths", "NotWrapped", "ParseError"] : List Str) (["ParseError"] : List Str)) [.tm (cVar 0)]))
    (cDrop (cMut 1 mApp [.tm (cK (.str "parse"))]))
    cSkip)
  (cSeq (cIfS (cTest (cPrim (gIsE (["InvalidCommand", "InvalidIndex", "InvalidLength", "InvalidPieces", "InvalidPosition", "InvalidWidths", "NotWrapped", "ParseError"] : List Str) (["InvalidPieces"] : List Str)) [.tm (cVar 0)]))
    (cDrop (cMut 1 mApp [.tm (cK (.str "odd"))]))
    cSkip)
  (cRet (cIf (cAnd (cTest (cPrim gEq [.tm (cPrim gLen [.vr 1]), .tm (cK (.int 1))])) (cAnd (cTest (cPrim (gIsE (["InvalidCommand", "InvalidIndex", "InvalidLength", "InvalidPieces", "InvalidPosition", "InvalidWidths", "NotWrapped", "ParseError"] : List Str) (["InvalidCommand", "InvalidIndex", "InvalidLength", "InvalidPieces", "InvalidPosition", "InvalidWidths", "NotWrapped", "ParseError"] : List Str)) [.tm (cVar 0)])) (cTest (cPrim (gIsE (["InvalidCommand", "InvalidIndex", "InvalidLength", "InvalidPieces", "InvalidPosition", "InvalidWidths", "NotWrapped", "ParseError"] : List Str) (["InvalidCommand", "InvalidIndex", "InvalidLength", "InvalidPieces", "InvalidPosition", "InvalidWidths", "NotWrapped", "ParseError"] : List Str)) [.tm (cVar 0)])))) (cPrim gIx [.vr 1, .tm (cK (.int 0))]) (cK (.str "odd")))))))))))))))))
noncomputable def F__law_word_of_v4 : FnD := runF 2 [.sh] m__law_word_of_v4
/-! Console.execute(self, command); slots: 0 self 1 command 2 words 3 found -/
noncomputable def m_Console_execute_v3 : CS :=
  (cSeq (cAsg 2 (cIf (cTest (cPrim gIsi [.tm (cVar 1), .tm (cK (.ty "str"))])) (cPrim gSplit [.tm (cStr (cVar 1)), .tm (cK (.str " "))]) (cPrim gLst [.tm (cK (.str ""))])))
  (cSeq (cIfS (cOr (cTest (cNotInN kv_WORD_COUNTS (cPrim gIx [.tm (cVar 2), .tm (cK (.int 0))]))) (cTest (cPrim gNe [.tm (cPrim gLen [.tm (cVar 2)]), .tm (cItemK kv_WORD_COUNTS (cPrim gIx [.tm (cVar 2), .tm (cK (.int 0))]))])))
    (cRaise "InvalidCommand")
    cSkip)
  (cSeq (cIfS (cTest (cPrim gInT [.tm (cPrim gIx [.tm (cVar 2), .tm (cK (.int 0))]), .tm (cK (.tup [.str "column", .str "count", .str "break"]))]))
    (cRet (cMeth 0 (cCall LM.F_Console_answer_number_v2 [.lo 0 conT, .sh, .sh] .sh [0, 1, 2] [] (.vr 0 :: [.tm (cPrim gIx [.tm (cVar 2), .tm (cK (.int 0))]), .tm (cCall LM.F_number_of [.sh] .sh [0] [] [.tm (cPrim gIx [.tm (cVar 2), .tm (cK (.int 1))])])]))))
    cSkip)
  (cSeq (cIfS (cTest (cPrim gEq [.tm (cPrim gIx [.tm (cVar 2), .tm (cK (.int 0))]), .tm (cK (.str "compare"))]))
    (cSeq (cAsg 3 (cCall LM.F_first_difference_v2 [.sh, .sh] .sh [0, 1] [] [.tm (cFld 0 0), .tm (cCall LM.F_parse_widths_v2 [.sh] .sh [0] [] [.tm (cPrim gIx [.tm (cVar 2), .tm (cK (.int 1))])])]))
    (cRet (cIf (cTest (cPrim gIs [.tm (cVar 3), .tm (cK .non)])) (cK (.str "equal")) (cPrim gStrI [.tm (cVar 3)]))))
    cSkip)
  (cSeq (cIfS (cTest (cPrim gEq [.tm (cPrim gIx [.tm (cVar 2), .tm (cK (.int 0))]), .tm (cK (.str "widths"))]))
    (cSeq (cSetF 0 0 (cCall LM.F_parse_widths_v2 [.sh] .sh [0] [] [.tm (cPrim gIx [.tm (cVar 2), .tm (cK (.int 1))])]))
    (cRet (cK (.str "ok"))))
    cSkip)
  (cSeq (cIfS (cTest (cPrim gEq [.tm (cPrim gIx [.tm (cVar 2), .tm (cK (.int 0))]), .tm (cK (.str "read"))]))
    (cSetF 0 0 (cCall LM.F_shortest_widths_v3 [.sh] .sh [0] [] [.tm (cCall LM.F_parse_pieces_v2 [.sh] .sh [0] [] [.tm (cPrim gIx [.tm (cVar 2), .tm (cK (.int 1))])])]))
    cSkip)
  (cRet (cCall LM.F_format_widths_v2 [.sh] .sh [0] [] [.tm (cIf (cTest (cPrim gEq [.tm (cPrim gIx [.tm (cVar 2), .tm (cK (.int 0))]), .tm (cK (.str "normal"))])) (cCall LM.F_normal_form_v2 [.sh] .sh [0] [] [.tm (cFld 0 0)]) (cFld 0 0))]))))))))
noncomputable def F_Console_execute_v3 : FnD := runF 4 [.ps conT, .sh] m_Console_execute_v3
end LM
set_option Elab.async false
set_option autoImplicit false
set_option linter.all false
set_option maxRecDepth 100000
set_option maxHeartbeats 8000000
namespace K30
open PySem PySem.Spec PyProof.Rows L2 DI
noncomputable abbrev F__law_bag : FnD := LM.F__law_bag
noncomputable abbrev F__law_take : FnD := LM.F__law_take
noncomputable abbrev F__law_chain : FnD := LM.F__law_chain
noncomputable abbrev F__law_no_widths : FnD := LM.F__law_no_widths
noncomputable abbrev F_is_integer : FnD := LM.F_is_integer
noncomputable abbrev F_is_width : FnD := LM.F_is_width
noncomputable abbrev F_is_widths : FnD := LM.F_is_widths
noncomputable abbrev F_require_widths : FnD := LM.F_require_widths_v2
noncomputable abbrev F_border_lengths : FnD := LM.F_border_lengths
noncomputable abbrev F_least_period_of : FnD := LM.F_least_period_of
noncomputable abbrev F_column_of : FnD := LM.F_column_of
noncomputable abbrev F_first_columns : FnD := LM.F_first_columns
noncomputable abbrev F_whole_period : FnD := LM.F_whole_period
noncomputable abbrev F_descent_of : FnD := LM.F_descent_of
noncomputable abbrev F_normal_of : FnD := LM.F_normal_of
noncomputable abbrev F_effective_of : FnD := LM.F_effective_of
noncomputable abbrev F_normal_form : FnD := LM.F_normal_form_v2
noncomputable abbrev F__law_kind : FnD := LM.F__law_kind_v4
noncomputable abbrev F_require_length : FnD := LM.F_require_length_v2
noncomputable abbrev F_period_below : FnD := LM.F_period_below
noncomputable abbrev F_descent_to : FnD := LM.F_descent_to
noncomputable abbrev F_descent : FnD := LM.F_descent_v2
noncomputable abbrev F_difference_of : FnD := LM.F_difference_of
noncomputable abbrev F_are_equal_to : FnD := LM.F_are_equal_to_v2
noncomputable abbrev F_have_same_effect : FnD := LM.F_have_same_effect
noncomputable abbrev F_are_equal : FnD := LM.F_are_equal_v2
noncomputable abbrev F_first_difference : FnD := LM.F_first_difference_v2
/-! _law_called(door, chain, mate, span); slots: 0 door 1 chain 2 mate 3 span 4 e -/
noncomputable def m__law_called : CS :=
  (cSeq (cTry [true, true, true, true, false] [.sh, .sh, .sh, .sh, .sh]
    (cIfS (cTest (cPrim gEq [.tm (cVar 0), .tm (cK (.int 0))]))
      (cDrop (cCall LM.F_normal_form_v2 [.sh] .sh [0] [] [.tm (cVar 1)]))
      (cIfS (cTest (cPrim gEq [.tm (cVar 0), .tm (cK (.int 1))]))
        (cDrop (cCall LM.F_descent_v2 [.sh, .sh] .sh [0, 1] [] [.tm (cVar 1), .tm (cVar 3)]))
        (cIfS (cTest (cPrim gEq [.tm (cVar 0), .tm (cK (.int 2))]))
          (cDrop (cCall LM.F_are_equal_to_v2 [.sh, .sh, .sh] .sh [0, 1, 2] [] [.tm (cVar 1), .tm (cVar 2), .tm (cVar 3)]))
          (cDrop (cCallL [("are_equal", LM.F_are_equal_v2), ("first_difference", LM.F_first_difference_v2)] (cPrim gIx [.tm (cPrim gLst [.tm (cK (.gl "are_equal")), .tm (cK (.gl "first_difference"))]), .tm (cPrim gSub [.tm (cVar 0), .tm (cK (.int 3))])]) [.sh, .sh] .sh [0, 1] [.tm (cVar 1), .tm (cVar 2)])))))
    [⟨["Conflict", "InvalidCommand", "InvalidIndex", "InvalidLength", "InvalidPeriod", "InvalidPieces", "InvalidPosition", "InvalidText", "InvalidWidths", "NoWidths", "NotFitting", "NotWrapped", "NothingToUndo", "ParseError", "TooMany", "WrapError"], [], (some 4), (sExn 4
    (cRet (cCall LM.F__law_kind_v4 [.sh] .sh [0] [] [.tm (cVar 4)])))⟩])
  (cRet (cK (.str "returned"))))
noncomputable def F__law_called : FnD := runF 5 [.sh, .sh, .sh, .sh] m__law_called
/-! law(script); slots: 0 script 1 k 2 bag 3 chain 4 mate 5 bad 6 worse 7 span 8 odd 9 rows 10 one 11 two 12 three 13 due 14 kept 15 door -/
noncomputable def m_law : CS :=
  (cSeq (cFor (cIt giR1 [.tm (cPrim gMax2 [.tm (cK (.int 1)), .tm (cPrim gMin2 [.tm (cPrim gLen [.tm (cVar 0)]), .tm (cK (.int 8))])])]) (.nm 1)
    (cSeq (cAsg 2 (cCall LM.F__law_bag [.sh, .sh] .ow [0, 1] [] [.tm (cVar 0), .tm (cVar 1)]))
    (cSeq (cPar 3 4 (cCall LM.F__law_chain [.ln 2, .sh, .sh] .sh [0, 1, 2] [] [.vr 2, .tm (cK (.int 5)), .tm (cK (.int 30))]) (cCall LM.F__law_chain [.ln 2, .sh, .sh] .sh [0, 1, 2] [] [.vr 2, .tm (cK (.int 5)), .tm (cK (.int 30))]))
    (cSeq (cPar 5 6 (cCall LM.F__law_no_widths [.ln 2, .sh] .sh [0, 1] [] [.vr 2, .tm (cVar 3)]) (cCall LM.F__law_no_widths [.ln 2, .sh] .sh [0, 1] [] [.vr 2, .tm (cVar 4)]))
    (cSeq (cAsg 7 (cPrim gIx [.tm (cPrim gLst [.tm (cK (.int 1)), .tm (cPrim gPow [.tm (cK (.int 10)), .tm (cK (.int 30))]), .tm (cPrim gAdd [.tm (cK (.int 1)), .tm (cCall LM.F__law_take [.ln 2, .sh] .sh [0, 1] [] [.vr 2, .tm (cK (.int 50))])])]), .tm (cCall LM.F__law_take [.ln 2, .sh] .sh [0, 1] [] [.vr 2, .tm (cK (.int 3))])]))
    (cSeq (cAsg 8 (cPrim gIx [.tm (cPrim gLst [.tm (cPrim gNeg [.tm (cK (.int 1))]), .tm (cPrim gAdd [.tm (cPrim gPow [.tm (cK (.int 10)), .tm (cK (.int 30))]), .tm (cK (.int 1))]), .tm (cK (.bl true)), .tm (cK .non), .tm (cK (.str "1")), .tm (cPrim gLst [.tm (cK (.int 1))]), .tm (cPrim gTup [.tm (cK (.int 1))]), .tm (cK (.bl false))]), .tm (cCall LM.F__law_take [.ln 2, .sh] .sh [0, 1] [] [.vr 2, .tm (cK (.int 8))])]))
    (cSeq (cAsg 9 (cPrim gLst [.tm (cPrim gTup [.tm (cVar 3), .tm (cVar 4), .tm (cVar 7), .tm (cPrim gMul [.tm (cPrim gLst [.tm (cK (.str "returned"))]), .tm (cK (.int 5))])]), .tm (cPrim gTup [.tm (cVar 5), .tm (cVar 6), .tm (cVar 8), .tm (cPrim gMul [.tm (cPrim gLst [.tm (cK (.str "widths"))]), .tm (cK (.int 5))])])]))
    (cSeq (cDrop (cMut 9 mApp [.tm (cPrim gTup [.tm (cVar 3), .tm (cVar 6), .tm (cVar 8), .tm (cPrim gLst [.tm (cK (.str "returned")), .tm (cK (.str "length")), .tm (cK (.str "widths")), .tm (cK (.str "widths")), .tm (cK (.str "widths"))])])]))
    (cSeq (cDrop (cMut 9 mApp [.tm (cPrim gTup [.tm (cVar 3), .tm (cVar 4), .tm (cVar 8), .tm (cPrim gLst [.tm (cK (.str "returned")), .tm (cK (.str "length")), .tm (cK (.str "length")), .tm (cK (.str "returned")), .tm (cK (.str "returned"))])])]))
    (cSeq (cDrop (cMut 9 mApp [.tm (cPrim gTup [.tm (cVar 3), .tm (cVar 4), .tm (cK (.int 0)), .tm (cPrim gLst [.tm (cK (.str "returned")), .tm (cK (.str "length")), .tm (cK (.str "returned")), .tm (cK (.str "returned")), .tm (cK (.str "returned"))])])]))
    (cSeq (cFor (cIt giL [.tm (cVar 9)]) (.tp [10, 11, 12, 13])
      (cSeq (cAsg 14 (cPrim gReprE [.tm (cPrim gLst [.tm (cVar 10), .tm (cVar 11), .tm (cVar 12)])]))
      (cSeq (cIfS (cTest (cPrim gNe [.tm (cLc (cIt giR1 [.tm (cK (.int 5))]) (.nm 15) cYes (cCall F__law_called [.sh, .sh, .sh, .sh] .sh [0, 1, 2, 3] [] [.tm (cVar 15), .tm (cVar 10), .tm (cVar 11), .tm (cVar 12)]) [15]), .tm (cVar 13)]))
        (cRet (cK (.bl false)))
        cSkip)
      (cIfS (cTest (cPrim gNe [.tm (cPrim gReprE [.tm (cPrim gLst [.tm (cVar 10), .tm (cVar 11), .tm (cVar 12)])]), .tm (cVar 14)]))
        (cRet (cK (.bl false)))
        cSkip))))
    (cForget 9 cSkip))))))))))))
  (cRet (cK (.bl true))))
noncomputable def F_law : FnD := runF 16 [.sh] m_law
end K30
set_option Elab.async false
set_option autoImplicit false
set_option linter.all false
set_option maxRecDepth 100000
set_option maxHeartbeats 2000000
/-! LP1: what the shared defs give (the PRNG of k01..k24, widths). -/
namespace LM
open PySem PySem.Spec PyProof.Rows L2 DI
/-- the PRNG's list, with at most c draws behind it -/
def PR (c : Nat) (x : D) : Prop := ∃ a b d : Int, x = .lst [.int a, .int b, .int d] ∧ 0 ≤ a ∧ 0 ≤ b ∧ b < 10 ^ 40 ∧ 0 ≤ d ∧ d ≤ c
theorem PR.mono {c c' : Nat} {x : D} (h : PR c x) (l : c ≤ c') : PR c' x := by
  obtain ⟨a, b, d, rfl, h1, h2, h3, h4, h5⟩ := h
  exact ⟨a, b, d, rfl, h1, h2, h3, h4, by omega⟩
section
variable {Q : D → DI.Env → Prop}
theorem is_integer_int {v lo hi : Int} : wF F_is_integer [.int v, .int lo, .int hi] Q = Q (.bl (decide (lo ≤ v) && decide (v ≤ hi))) [none, none, none] := by
  unfold F_is_integer m_is_integer
  simp
  cases h : decide (lo ≤ v) <;> simp
theorem is_width_int {v : Int} : wF F_is_width [.int v] Q = Q (.bl (decide (1 ≤ v) && decide (v ≤ 10000))) [none] := by
  unfold F_is_width m_is_width
  simp [is_integer_int]
/-- widths -/
def Wd (ws : List Int) : Prop := ∀ w ∈ ws, 1 ≤ w ∧ w ≤ 10000
theorem is_widths_ints {ws : List Int} (hz : ws.length ≤ sizeLine) (q : Q (.bl (ws.all fun v => decide (1 ≤ v) && decide (v ≤ 10000))) [none]) : wF F_is_widths [.lst (ws.map .int)] Q := by
  unfold F_is_widths m_is_widths
  simp
  refine lc_map (onInt fun v => .bl (decide (1 ≤ v) && decide (v ≤ 10000))) (fun d hd => ?_) fun e2 he => ?_
  · obtain ⟨v, hv, rfl⟩ := List.mem_map.mp hd
    simp [is_width_int]
  · simp [he]
    refine ⟨by simpa using hz, ?_⟩
    have : ws.map ((onInt fun v => .bl (decide (1 ≤ v) && decide (v ≤ 10000))) ∘ D.int) = (ws.map fun v => decide (1 ≤ v) && decide (v ≤ 10000)).map D.bl := by
      rw [List.map_map]; rfl
    rw [this, wP_gAll]
    simp [List.all_map]
    exact q
/-! ### columns -/
def colOf : List Int → Int → Int
  | [], p => p
  | w :: ws, p => colOf ws (p % w)
theorem colOf_append (a b : List Int) (p : Int) : colOf (a ++ b) p = colOf b (colOf a p) := by
  induction a generalizing p with
  | nil => rfl
  | cons w a ih => exact ih _
theorem colOf_take {ws : List Int} {i : Nat} {w p : Int} (h : ws[i]? = some w) : colOf (ws.take (i + 1)) p = colOf (ws.take i) p % w := by
  rw [List.take_add_one, colOf_append, h]; rfl
theorem column_of_ok {ws : List Int} {p : Int} (h : ∀ w ∈ ws, 1 ≤ w) (q : Q (.int (colOf ws p)) [none, none]) : wF F_column_of [.lst (ws.map .int), .int p] Q := by
  unfold F_column_of m_column_of
  simp
  refine for_inv (fun i e => ∃ x, e = [some (.lst (ws.map .int)), some (.int (colOf (ws.take i) p)), x]) ⟨_, rfl⟩ (fun i d e hi ⟨x, he⟩ => ?_) fun e ⟨x, he⟩ => ?_
  · subst he
    obtain ⟨w, hw, rfl⟩ := ints_get hi
    simp
    refine ⟨by have := h w (List.mem_of_getElem? hw); omega, ?_⟩
    rw [colOf_take hw]
  · subst he
    simp
    exact q
/-! ### plans -/
end
end LM
set_option Elab.async false
set_option autoImplicit false
set_option linter.all false
set_option maxRecDepth 100000
set_option maxHeartbeats 2000000
/-! LP2: plans of k01..k23. -/
namespace LM
open PySem PySem.Spec PyProof.Rows L2 DI
section
variable {Q : D → DI.Env → Prop}
end
end LM
set_option Elab.async false
set_option autoImplicit false
set_option linter.all false
set_option maxRecDepth 100000
set_option maxHeartbeats 4000000
/-! LP3: effective widths; counting. -/
namespace LM
open PySem PySem.Spec PyProof.Rows L2 DI
/-! ### effective widths -/
def effB : Int → List Int → List Int
  | _, [] => []
  | b, w :: ws => if w < b then w :: effB w ws else effB b ws
def eff : List Int → List Int
  | [] => []
  | w :: ws => w :: effB w ws
/-- the least so far -/
def lastB : Int → List Int → Int
  | b, [] => b
  | b, w :: ws => lastB (if w < b then w else b) ws
theorem effB_append (b : Int) (us vs : List Int) : effB b (us ++ vs) = effB b us ++ effB (lastB b us) vs := by
  induction us generalizing b with
  | nil => rfl
  | cons w us ih =>
    show (if w < b then w :: effB w (us ++ vs) else effB b (us ++ vs)) = (if w < b then w :: effB w us else effB b us) ++ effB (lastB (if w < b then w else b) us) vs
    by_cases h : w < b
    · simp only [h, if_true]; rw [ih]; rfl
    · simp only [h, if_false]; rw [ih]
theorem effB_last (b : Int) : ∀ us : List Int, (b :: effB b us).getLast? = some (lastB b us)
  | [] => rfl
  | w :: us => by
    show (b :: (if w < b then w :: effB w us else effB b us)).getLast? = some (lastB (if w < b then w else b) us)
    by_cases h : w < b
    · simp only [h, if_true]
      rw [List.getLast?_cons_cons]
      exact effB_last w us
    · simp only [h, if_false]
      exact effB_last b us
theorem effB_mem {b : Int} {ws : List Int} {w : Int} (h : w ∈ effB b ws) : w ∈ ws := by
  induction ws generalizing b with
  | nil => cases h
  | cons v ws ih =>
    have h' : w ∈ (if v < b then v :: effB v ws else effB b ws) := h
    by_cases hv : v < b
    · simp only [hv, if_true] at h'
      rcases List.mem_cons.mp h' with rfl | h'
      · exact List.mem_cons_self
      · exact List.mem_cons_of_mem _ (ih h')
    · simp only [hv, if_false] at h'
      exact List.mem_cons_of_mem _ (ih h')
theorem eff_mem {ws : List Int} {w : Int} (h : w ∈ eff ws) : w ∈ ws := by
  cases ws with
  | nil => cases h
  | cons v ws =>
    rcases List.mem_cons.mp h with rfl | h
    · exact List.mem_cons_self
    · exact List.mem_cons_of_mem _ (effB_mem h)
theorem effB_len (b : Int) (ws : List Int) : (effB b ws).length ≤ ws.length := by
  induction ws generalizing b with
  | nil => exact Nat.le_refl _
  | cons v ws ih =>
    show (if v < b then v :: effB v ws else effB b ws).length ≤ ws.length + 1
    split
    · have := ih v; simp; omega
    · have := ih b; omega
theorem eff_len (ws : List Int) : (eff ws).length ≤ ws.length := by
  cases ws with
  | nil => exact Nat.le_refl _
  | cons v ws => have := effB_len v ws; show (v :: effB v ws).length ≤ _; simp; omega
theorem eff_wd {ws : List Int} (h : Wd ws) : Wd (eff ws) := fun w hw => h w (eff_mem hw)
theorem effB_col {b p : Int} {ws : List Int} (h0 : 0 ≤ p) (h : p < b) (hw : ∀ w ∈ ws, 1 ≤ w) : colOf (effB b ws) p = colOf ws p := by
  induction ws generalizing b p with
  | nil => rfl
  | cons v ws ih =>
    have hv := hw v List.mem_cons_self
    have hws : ∀ w ∈ ws, 1 ≤ w := fun w h => hw w (List.mem_cons_of_mem _ h)
    show colOf (if v < b then v :: effB v ws else effB b ws) p = colOf ws (p % v)
    by_cases hvb : v < b
    · simp only [hvb, if_true]
      exact ih (Int.emod_nonneg _ (by omega)) (Int.emod_lt_of_pos _ (by omega)) hws
    · simp only [hvb, if_false]
      rw [ih h0 h hws, Int.emod_eq_of_lt h0 (by omega)]
theorem eff_col {p : Int} {ws : List Int} (h0 : 0 ≤ p) (hw : ∀ w ∈ ws, 1 ≤ w) : colOf (eff ws) p = colOf ws p := by
  cases ws with
  | nil => rfl
  | cons v ws =>
    have hv := hw v List.mem_cons_self
    exact effB_col (Int.emod_nonneg _ (by omega)) (Int.emod_lt_of_pos _ (by omega)) fun w h => hw w (List.mem_cons_of_mem _ h)
section
variable {Q : D → DI.Env → Prop}
theorem eff_take {ws : List Int} {i : Nat} {w : Int} (h : ws[i]? = some w) : eff (ws.take (i + 1)) = (match (eff (ws.take i)).getLast? with
    | none => [w]
    | some l => if w < l then eff (ws.take i) ++ [w] else eff (ws.take i)) := by
  rw [List.take_add_one, h]
  show eff (ws.take i ++ [w]) = _
  cases hw : ws.take i with
  | nil => rfl
  | cons v vs =>
    show v :: effB v (vs ++ [w]) = (match (v :: effB v vs).getLast? with
      | none => [w]
      | some l => if w < l then (v :: effB v vs) ++ [w] else v :: effB v vs)
    rw [effB_last, effB_append]
    show v :: (effB v vs ++ (if w < lastB v vs then [w] else [])) = (if w < lastB v vs then (v :: effB v vs) ++ [w] else v :: effB v vs)
    split
    · rfl
    · simp
theorem effective_of_ok {ws : List Int} (hz : ws.length ≤ 1000000) (q : Q (.lst ((eff ws).map .int)) [none]) : wF F_effective_of [.lst (ws.map .int)] Q := by
  unfold F_effective_of m_effective_of
  simp
  refine for_inv (fun i e => ∃ x, e = [some (.lst (ws.map .int)), some (.lst ((eff (ws.take i)).map .int)), x]) ⟨_, rfl⟩ (fun i d e hi ⟨x, he⟩ => ?_) fun e ⟨x, he⟩ => ?_
  · subst he
    obtain ⟨w, hw, rfl⟩ := ints_get hi
    have hlen : (eff (ws.take i)).length < 16777216 := by
      have h1 := eff_len (ws.take i)
      rw [List.length_take] at h1
      omega
    have key := eff_take hw
    simp
    cases hg : (eff (ws.take i)).getLast? with
    | none =>
      rw [hg] at key
      have hnil := List.getLast?_eq_none_iff.mp hg
      simp [hnil, key]
    | some l =>
      rw [hg] at key
      obtain ⟨ys, hys⟩ := List.getLast?_eq_some_iff.mp hg
      have hne : eff (ws.take i) ≠ [] := by rw [hys]; simp
      simp [hne]
      rw [hys, List.map_append]
      show wP (atI (ys.map D.int ++ [D.int l]) (-1)) _
      rw [DI.atI_last]
      simp
      have key' : eff (ws.take (i + 1)) = if w < l then eff (ws.take i) ++ [w] else eff (ws.take i) := key
      rw [hys] at key' hlen
      refine wIf_i (fun h => ?_) fun h => ?_
      · have h' : w < l := of_decide_eq_true h
        rw [if_pos h'] at key'
        simp at hlen
        simp [key']
        omega
      · have h' : ¬ w < l := of_decide_eq_false h
        rw [if_neg h'] at key'
        simp [key']
  · subst he
    simp
    exact q
end
end LM
set_option Elab.async false
set_option autoImplicit false
set_option linter.all false
set_option maxRecDepth 100000
set_option maxHeartbeats 4000000
/-! LP4: the number of pieces. -/
namespace LM
open PySem PySem.Spec PyProof.Rows L2 DI
/-- pieces of a line, by the pieces of each width -/
def cw : List Int → List Int → Int → Int
  | w :: ws, t :: ts, n => n / w * t + cw ws ts (n % w)
  | _, _, n => if 0 < n then 1 else 0
def tots : List Int → List Int
  | [] => []
  | w :: ws => cw ws (tots ws) w :: tots ws
def cnt (ws : List Int) (n : Int) : Int := cw ws (tots ws) n
section
variable {Q : D → DI.Env → Prop}
end
end LM
set_option Elab.async false
set_option autoImplicit false
set_option linter.all false
set_option maxRecDepth 100000
set_option maxHeartbeats 4000000
/-! LP5: breaks by index. -/
namespace LM
open PySem PySem.Spec PyProof.Rows L2 DI
/-- the break with an index -/
def brk : List Int → List Int → Int → Int
  | w :: ws, t :: ts, n => n / t * w + brk ws ts (n % t)
  | _, _, _ => 0
def br (ws : List Int) (n : Int) : Int := brk ws (tots ws) n
section
variable {Q : D → DI.Env → Prop}
end
end LM
set_option Elab.async false
set_option autoImplicit false
set_option linter.all false
set_option maxRecDepth 100000
set_option maxHeartbeats 4000000
/-! LP6: wrapped lines. -/
namespace LM
open PySem PySem.Spec PyProof.Rows L2 DI
def chop (m p : Int) : List Int := List.replicate ((p - 1) / m).toNat m ++ [(p - 1) % m + 1]
def wrapL : List Int → List Int → List Int
  | [], l => l
  | w :: ws, l => wrapL ws (l.flatMap (chop w))
def wrp (ws : List Int) (n : Int) : List Int := wrapL ws (if 0 < n then [n] else [])
/-- pieces that are at least 1 and s together -/
def Ps (l : List Int) (s : Int) : Prop := (∀ p ∈ l, 1 ≤ p) ∧ l.sum = s
theorem Ps.len {l : List Int} {s : Int} (h : Ps l s) : (l.length : Int) ≤ s := by
  obtain ⟨h1, rfl⟩ := h
  induction l with
  | nil => simp
  | cons p l ih =>
    have := h1 p List.mem_cons_self
    have := ih fun q hq => h1 q (List.mem_cons_of_mem _ hq)
    simp only [List.length_cons, List.sum_cons]
    omega
theorem Ps.append {a b : List Int} {s u : Int} (h : Ps a s) (k : Ps b u) : Ps (a ++ b) (s + u) :=
  ⟨fun p hp => (List.mem_append.mp hp).elim (h.1 p) (k.1 p), by rw [List.sum_append, h.2, k.2]⟩
section
variable {Q : D → DI.Env → Prop}
end
end LM
set_option Elab.async false
set_option autoImplicit false
set_option linter.all false
set_option maxRecDepth 100000
set_option maxHeartbeats 4000000
/-! LP7: the sizes of the pieces; breaks as a list. -/
namespace LM
open PySem PySem.Spec PyProof.Rows L2 DI
/-- where the k-th piece ends -/
def endOf (ws : List Int) (n : Int) (k : Nat) : Int := if k + 1 < (cnt ws n).toNat then br ws ((k + 1 : Nat) : Int) else n
end LM
set_option Elab.async false
set_option autoImplicit false
set_option linter.all false
set_option maxRecDepth 100000
set_option maxHeartbeats 4000000
/-! LP8: the defs of the sizes of pieces. -/
namespace LM
open PySem PySem.Spec PyProof.Rows L2 DI
def onPair (f : Int → Int → D) : D → D
  | .tup [.int a, .int b] => f a b
  | _ => .non
@[simp] theorem onPair_int {f : Int → Int → D} {a b : Int} : onPair f (.tup [.int a, .int b]) = f a b := rfl
section
variable {Q : D → DI.Env → Prop}
end
end LM
set_option Elab.async false
set_option autoImplicit false
set_option linter.all false
set_option maxRecDepth 100000
set_option maxHeartbeats 2000000
/-! LQ1: periods of sequences; Fine and Wilf; least periods; borders; descents. -/
namespace LM
/-- p is a period of f up to n -/
def IsPer (f : Nat → Int) (n p : Nat) : Prop := 1 ≤ p ∧ ∀ x, x + p < n → f (x + p) = f x
def Per (f : Nat → Int) (p : Nat) : Prop := 1 ≤ p ∧ ∀ x, f (x + p) = f x
section
variable {f g : Nat → Int} {n m p q w : Nat}
theorem IsPer.mono (h : IsPer f n p) (l : m ≤ n) : IsPer f m p := ⟨h.1, fun x hx => h.2 x (by omega)⟩
theorem Per.isPer (h : Per f p) : IsPer f n p := ⟨h.1, fun x _ => h.2 x⟩
theorem isPer_ge (h1 : 1 ≤ p) (h : n ≤ p) : IsPer f n p := ⟨h1, fun x hx => by omega⟩
theorem IsPer.congr (h : IsPer f n p) (e : ∀ x, x < n → f x = g x) : IsPer g n p := ⟨h.1, fun x hx => by rw [← e _ hx, ← e _ (by omega)]; exact h.2 x hx⟩
theorem IsPer.mul (h : IsPer f n p) : ∀ {k : Nat} {x : Nat}, x + k * p < n → f (x + k * p) = f x
  | 0, x, _ => by simp
  | k + 1, x, hx => by
    have e : x + (k + 1) * p = (x + k * p) + p := by rw [Nat.succ_mul]; omega
    rw [e] at hx ⊢
    rw [h.2 _ hx, IsPer.mul h (by omega)]
theorem IsPer.mod (h : IsPer f n p) {x : Nat} (hx : x < n) : f x = f (x % p) := by
  have e : x = x % p + x / p * p := by rw [Nat.mul_comm]; exact (Nat.mod_add_div x p).symm
  rw [e] at hx
  have h2 := h.mul hx
  rw [← e] at h2
  exact h2
theorem Per.mod (h : Per f p) (x : Nat) : f x = f (x % p) := (h.isPer (n := x + 1)).mod (by omega)
theorem per_of_mod (hp : 1 ≤ p) (h : ∀ x, f x = f (x % p)) : Per f p := ⟨hp, fun x => by rw [h (x + p), h x, Nat.add_mod_right]⟩
theorem isPer_of_mod (hp : 1 ≤ p) (h : ∀ x, x < n → f x = f (x % p)) : IsPer f n p := ⟨hp, fun x hx => by rw [h (x + p) hx, h x (by omega), Nat.add_mod_right]⟩
/-- two periods whose sum is not more than the length -/
theorem fw : ∀ {s p q : Nat}, p + q ≤ s → IsPer f n p → IsPer f n q → p + q ≤ n → IsPer f n (Nat.gcd p q)
  | 0, p, q, hs, hp, hq, hn => by have := hp.1; omega
  | s + 1, p, q, hs, hp, hq, hn => by
    have step : ∀ {p q : Nat}, IsPer f n p → IsPer f n q → p + q ≤ n → p < q → IsPer f n (q - p) := fun {p q} hp hq hn hl => by
      refine ⟨by omega, fun x hx => ?_⟩
      by_cases h : x + q < n
      · have e : x + (q - p) + p = x + q := by omega
        have a := hp.2 (x + (q - p)) (by omega)
        rw [e] at a
        rw [← a]
        exact hq.2 x h
      · have e1 : x - p + p = x := by omega
        have a := hp.2 (x - p) (by omega)
        rw [e1] at a
        have e2 : x - p + q = x + (q - p) := by omega
        have b := hq.2 (x - p) (by omega)
        rw [e2] at b
        rw [b, a]
    have p1 := hp.1
    have q1 := hq.1
    by_cases h1 : p = q
    · subst h1; rw [Nat.gcd_self]; exact hp
    · by_cases h2 : p < q
      · have a := fw (s := s) (by omega) hp (step hp hq hn h2) (by omega)
        rw [Nat.gcd_sub_self_right (by omega)] at a
        exact a
      · have a := fw (s := s) (by omega) (step hq hp (by omega) (by omega)) hq (by omega)
        rw [Nat.gcd_sub_self_left (by omega)] at a
        exact a
/-- the full bound -/
theorem fine_wilf : ∀ {s n p q : Nat}, p + q ≤ s → IsPer f n p → IsPer f n q → p + q ≤ n + Nat.gcd p q → IsPer f n (Nat.gcd p q)
  | 0, n, p, q, hs, hp, hq, hn => by have := hp.1; omega
  | s + 1, n, p, q, hs, hp, hq, hn => by
    have step : ∀ {n p q : Nat}, p + q ≤ s + 1 → IsPer f n p → IsPer f n q → p + q ≤ n + Nat.gcd p q → p < q → IsPer f n (Nat.gcd p q) := fun {n p q} hs hp hq hn hl => by
      have p1 := hp.1
      have hg : Nat.gcd p (q - p) = Nat.gcd p q := Nat.gcd_sub_self_right (by omega)
      have hgl : Nat.gcd p q ≤ q - p := by rw [← hg]; exact Nat.gcd_le_right _ (by omega)
      have hgp : Nat.gcd p q ∣ p := Nat.gcd_dvd_left _ _
      have hg1 : 1 ≤ Nat.gcd p q := Nat.gcd_pos_of_pos_left _ (by omega)
      have a : IsPer f (n - p) (q - p) := ⟨by omega, fun x hx => by
        have e : x + (q - p) + p = x + q := by omega
        have a := hp.2 (x + (q - p)) (by omega)
        rw [e] at a
        rw [← a]
        exact hq.2 x (by omega)⟩
      have b := fine_wilf (s := s) (by omega) (hp.mono (Nat.sub_le n p)) a (by rw [hg]; omega)
      rw [hg] at b
      refine isPer_of_mod hg1 fun x hx => ?_
      rw [hp.mod hx, b.mod (x := x % p) (by have := Nat.mod_lt x (show p > 0 by omega); omega), Nat.mod_mod_of_dvd _ hgp]
    by_cases h1 : p = q
    · subst h1; rw [Nat.gcd_self]; exact hp
    · by_cases h2 : p < q
      · exact step hs hp hq hn h2
      · have a := step (p := q) (q := p) (by omega) hq hp (by rw [Nat.gcd_comm]; omega) (by omega)
        rw [Nat.gcd_comm] at a
        exact a
/-- two sequences that are equal for long enough -/
theorem fw_two (hf : Per f p) (hg : Per g q) (h : ∀ x, x + Nat.gcd p q < p + q → f x = g x) : ∀ x, f x = g x := by
  have p1 := hf.1
  have q1 := hg.1
  have g1 : 1 ≤ Nat.gcd p q := Nat.gcd_pos_of_pos_left _ (by omega)
  have gp : Nat.gcd p q ∣ p := Nat.gcd_dvd_left _ _
  have gq : Nat.gcd p q ∣ q := Nat.gcd_dvd_right _ _
  have lp := Nat.le_of_dvd (by omega) gp
  have lq := Nat.le_of_dvd (by omega) gq
  have a : IsPer f (p + q - Nat.gcd p q) q := (hg.isPer (n := p + q - Nat.gcd p q)).congr fun x hx => (h x (by omega)).symm
  have b := fine_wilf (Nat.le_refl _) (hf.isPer (n := p + q - Nat.gcd p q)) a (by omega)
  have c : IsPer g (p + q - Nat.gcd p q) (Nat.gcd p q) := b.congr fun x hx => h x (by omega)
  intro x
  have hxp := Nat.mod_lt x (show p > 0 by omega)
  have hxq := Nat.mod_lt x (show q > 0 by omega)
  have hxg := Nat.mod_lt x (show Nat.gcd p q > 0 by omega)
  rw [hf.mod x, hg.mod x, b.mod (x := x % p) (by omega), c.mod (x := x % q) (by omega), Nat.mod_mod_of_dvd _ gp, Nat.mod_mod_of_dvd _ gq]
  exact h _ (by omega)
theorem fw_two' (hf : Per f p) (hg : Per g q) (h : ∀ x, x < p + q → f x = g x) : ∀ x, f x = g x := fw_two hf hg fun x hx => h x (by omega)
end
/-! ### the least period -/
def srch (P : Nat → Bool) : Nat → Nat → Nat
  | 0, s => s
  | k + 1, s => if P s then s else srch P k (s + 1)
theorem srch_spec (P : Nat → Bool) : ∀ k s, s ≤ srch P k s ∧ srch P k s ≤ s + k ∧ (∀ i, s ≤ i → i < srch P k s → P i = false) ∧ (srch P k s < s + k → P (srch P k s) = true)
  | 0, s => ⟨Nat.le_refl _, Nat.le_refl _, fun i h1 h2 => by have : srch P 0 s = s := rfl; omega, fun h => by have : srch P 0 s = s := rfl; omega⟩
  | k + 1, s => by
    have e : srch P (k + 1) s = if P s then s else srch P k (s + 1) := rfl
    by_cases h : P s = true
    · rw [e, if_pos h]
      exact ⟨Nat.le_refl _, by omega, fun i h1 h2 => by omega, fun _ => h⟩
    · rw [e, if_neg h]
      obtain ⟨a, b, c, d⟩ := srch_spec P k (s + 1)
      refine ⟨by omega, by omega, fun i h1 h2 => ?_, fun hh => d (by omega)⟩
      by_cases hi : i = s
      · subst hi; simpa using h
      · exact c i (by omega) h2
def perB (f : Nat → Int) (n p : Nat) : Bool := (List.range (n - p)).all fun x => decide (f (x + p) = f x)
theorem perB_iff {f : Nat → Int} {n p : Nat} (hp : 1 ≤ p) : perB f n p = true ↔ IsPer f n p := by
  unfold perB IsPer
  rw [List.all_eq_true]
  constructor
  · intro h
    exact ⟨hp, fun x hx => of_decide_eq_true (h x (by rw [List.mem_range]; omega))⟩
  · intro h x hx
    rw [List.mem_range] at hx
    exact decide_eq_true (h.2 x (by omega))
/-- the least period up to n -/
def lper (f : Nat → Int) (n : Nat) : Nat := srch (perB f n) n 1
section
variable {f g : Nat → Int} {n m p q w : Nat}
theorem lper_pos : 1 ≤ lper f n := (srch_spec _ _ _).1
theorem lper_le (hn : 1 ≤ n) : lper f n ≤ n := by
  obtain ⟨a, b, c, d⟩ := srch_spec (perB f n) n 1
  by_cases h : lper f n ≤ n
  · exact h
  · have := c n hn (by unfold lper at h; omega)
    rw [(perB_iff hn).mpr (isPer_ge hn (Nat.le_refl _))] at this
    cases this
theorem lper_per : IsPer f n (lper f n) := by
  obtain ⟨a, b, c, d⟩ := srch_spec (perB f n) n 1
  by_cases hn : 1 ≤ n
  · have := lper_le (f := f) hn
    exact (perB_iff lper_pos).mp (d (by unfold lper at this; omega))
  · exact ⟨lper_pos, fun x hx => by omega⟩
theorem lper_least (h : IsPer f n q) : lper f n ≤ q := by
  obtain ⟨a, b, c, d⟩ := srch_spec (perB f n) n 1
  by_cases hq : lper f n ≤ q
  · exact hq
  · have := c q h.1 (by unfold lper at hq; omega)
    rw [(perB_iff h.1).mpr h] at this
    cases this
theorem lper_unique (h : IsPer f n p) (l : ∀ q, IsPer f n q → p ≤ q) : lper f n = p := by
  have a := lper_least h
  have b := l _ (lper_per (f := f) (n := n))
  omega
theorem lper_congr (e : ∀ x, x < n → f x = g x) : lper f n = lper g n :=
  lper_unique ((lper_per (f := g)).congr fun x hx => (e x hx).symm) fun q hq => lper_least (hq.congr e)
/-! ### borders -/
/-- the length of the longest proper border of the first n -/
def bord (f : Nat → Int) (n : Nat) : Nat := n - lper f n
theorem bord_lt (hn : 1 ≤ n) : bord f n < n := by unfold bord; have := lper_pos (f := f) (n := n); omega
theorem bord_zero : bord f 0 = 0 := by unfold bord; omega
theorem bord_one : bord f 1 = 0 := by unfold bord; have := lper_pos (f := f) (n := 1); omega
theorem lper_bord (hn : 1 ≤ n) : lper f n = n - bord f n := by unfold bord; have := lper_le (f := f) hn; omega
/-- what the search for the next border keeps: b is a border of the first n, and no longer one can be continued -/
def BI (f : Nat → Int) (n b : Nat) : Prop := b < n ∧ IsPer f n (n - b) ∧ ∀ q, q ≤ n → IsPer f (n + 1) q → n ≤ b + q
theorem BI.start (hn : 1 ≤ n) : BI f n (bord f n) := by
  refine ⟨bord_lt hn, ?_, fun q h1 h => ?_⟩
  · rw [← lper_bord hn]; exact lper_per
  · have := lper_least (h.mono (Nat.le_succ n))
    unfold bord
    omega
theorem BI.next {b : Nat} (h : BI f n b) (hb : 1 ≤ b) (hne : f b ≠ f n) : BI f n (bord f b) := by
  obtain ⟨h1, h2, h3⟩ := h
  have hlt := bord_lt (f := f) hb
  refine ⟨by omega, ⟨by omega, fun x hx => ?_⟩, fun q hq hper => ?_⟩
  · have a := h2.2 (x + (b - bord f b)) (by omega)
    have e : x + (b - bord f b) + (n - b) = x + (n - bord f b) := by omega
    rw [e] at a
    rw [a, ← lper_bord hb]
    refine (lper_per (f := f) (n := b)).2 x ?_
    rw [lper_bord hb]; omega
  · have h4 := h3 q hq hper
    by_cases he : n = b + q
    · exfalso
      have a := hper.2 b (by omega)
      rw [← he] at a
      exact hne a.symm
    · have q1 := hper.1
      have a : IsPer f b (b - (n - q)) := ⟨by omega, fun x hx => by
        have c1 := h2.2 (x + (b - (n - q))) (by omega)
        have e : x + (b - (n - q)) + (n - b) = x + q := by omega
        rw [e] at c1
        rw [← c1]
        exact hper.2 x (by omega)⟩
      have := lper_least a
      unfold bord
      omega
theorem BI.done {b : Nat} (h : BI f n b) (he : f b = f n) : bord f (n + 1) = b + 1 := by
  obtain ⟨h1, h2, h3⟩ := h
  have e : lper f (n + 1) = n - b := by
    refine lper_unique ⟨by omega, fun x hx => ?_⟩ fun q hq => ?_
    · by_cases hx2 : x + (n - b) < n
      · exact h2.2 x hx2
      · have e1 : x = b := by omega
        subst e1
        rw [show x + (n - x) = n by omega]; exact he.symm
    · by_cases hq2 : q ≤ n
      · have := h3 q hq2 hq; omega
      · omega
  unfold bord
  omega
theorem BI.none (h : BI f n 0) (he : f 0 ≠ f n) : bord f (n + 1) = 0 := by
  obtain ⟨h1, h2, h3⟩ := h
  have e : lper f (n + 1) = n + 1 := by
    refine lper_unique (isPer_ge (by omega) (Nat.le_refl _)) fun q hq => ?_
    by_cases hq2 : q ≤ n
    · have h4 := h3 q hq2 hq
      have e1 : q = n := by omega
      subst e1
      have a := hq.2 0 (by omega)
      rw [Nat.zero_add] at a
      exact absurd a.symm he
    · omega
  unfold bord
  omega
/-! ### the least period for ever, of a sequence with the period w -/
def wper (f : Nat → Int) (w : Nat) : Nat := if w % lper f w = 0 then lper f w else w
theorem per_block (hw : Per f w) (h : IsPer f w p) (d : p ∣ w) : Per f p := by
  refine per_of_mod h.1 fun x => ?_
  have w1 := hw.1
  rw [hw.mod x, h.mod (Nat.mod_lt x (show w > 0 by omega)), Nat.mod_mod_of_dvd _ d]
theorem per_gcd (hp : Per f p) (hq : Per f q) : Per f (Nat.gcd p q) := by
  have p1 := hp.1
  have h := fw (Nat.le_refl _) (hp.isPer (n := p + q)) hq.isPer (Nat.le_refl _)
  refine per_of_mod h.1 fun x => ?_
  have := Nat.mod_lt x (show p > 0 by omega)
  rw [hp.mod x, h.mod (x := x % p) (by omega), Nat.mod_mod_of_dvd _ (Nat.gcd_dvd_left p q)]
theorem wper_spec (hw : Per f w) : Per f (wper f w) ∧ wper f w ∣ w ∧ ∀ q, Per f q → wper f w ∣ q := by
  have w1 := hw.1
  have main : Per f (wper f w) ∧ wper f w ∣ w ∧ ∀ q, Per f q → q ∣ w → wper f w ≤ q := by
    unfold wper
    by_cases h : w % lper f w = 0
    · rw [if_pos h]
      have d := Nat.dvd_of_mod_eq_zero h
      exact ⟨per_block hw lper_per d, d, fun q hq _ => lper_least hq.isPer⟩
    · rw [if_neg h]
      refine ⟨hw, Nat.dvd_refl _, fun q hq dq => ?_⟩
      by_cases hqw : w ≤ q
      · exact hqw
      · exfalso
        obtain ⟨k, hk⟩ := dq
        have l1 := lper_least (n := w) hq.isPer
        have hk2 : 2 ≤ k := by
          match k, hk with
          | 0, hk => rw [Nat.mul_zero] at hk; omega
          | 1, hk => rw [Nat.mul_one] at hk; omega
          | k + 2, _ => omega
        have q2 : q * 2 ≤ q * k := Nat.mul_le_mul_left q hk2
        have a := fw (f := f) (n := w) (Nat.le_refl _) (lper_per (f := f) (n := w)) hq.isPer (by omega)
        have b := lper_least a
        have c := Nat.gcd_le_left q (show 0 < lper f w from lper_pos)
        have e : Nat.gcd (lper f w) q = lper f w := Nat.le_antisymm c b
        have d1 : lper f w ∣ q := by have := Nat.gcd_dvd_right (lper f w) q; rw [e] at this; exact this
        exact h (Nat.mod_eq_zero_of_dvd (Nat.dvd_trans d1 ⟨k, hk⟩))
  obtain ⟨a, b, c⟩ := main
  refine ⟨a, b, fun q hq => ?_⟩
  have g1 := per_gcd a hq
  have d1 : Nat.gcd (wper f w) q ∣ w := Nat.dvd_trans (Nat.gcd_dvd_left _ _) b
  have l1 := c _ g1 d1
  have l2 := Nat.gcd_le_left q (show 0 < wper f w from a.1)
  have e : Nat.gcd (wper f w) q = wper f w := Nat.le_antisymm l2 l1
  have := Nat.gcd_dvd_right (wper f w) q
  rw [e] at this
  exact this
theorem wper_le (hw : Per f w) (h : Per f q) : wper f w ≤ q := Nat.le_of_dvd h.1 ((wper_spec hw).2.2 q h)
theorem wper_unique {v : Nat} (hw : Per f w) (hv : Per g v) (e : ∀ x, f x = g x) : wper f w = wper g v := by
  have ef : f = g := funext e
  subst ef
  have a := wper_le hw (wper_spec hv).1
  have b := wper_le hv (wper_spec hw).1
  omega
/-- a period up to two least periods, or more, is one for ever -/
theorem per_long (hw : Per f w) (hn : 2 * wper f w ≤ n) (h : IsPer f n q) (hq : q ≤ wper f w) : q = wper f w := by
  obtain ⟨a, b, c⟩ := wper_spec hw
  have q1 := h.1
  have d := fw (Nat.le_refl _) h (a.isPer (n := n)) (by omega)
  have dv : Nat.gcd q (wper f w) ∣ wper f w := Nat.gcd_dvd_right _ _
  have p := per_block a (d.mono (show wper f w ≤ n by omega)) dv
  have l := wper_le hw p
  have l2 := Nat.gcd_le_left (wper f w) (show 0 < q by omega)
  omega
theorem lper_long (hw : Per f w) (hn : 2 * wper f w ≤ n) : lper f n = wper f w := by
  have a := (wper_spec hw).1
  have l := lper_least (n := n) a.isPer
  exact per_long hw hn lper_per l
/-! ### descents -/
def descF (f : Nat → Int) : Nat → Nat → List Nat
  | 0, _ => []
  | k + 1, n => if lper f n < n then lper f n :: descF f k (lper f n) else []
/-- the descent up to n -/
def desc (f : Nat → Int) (n : Nat) : List Nat := descF f n n
theorem descF_fuel : ∀ {k m n : Nat}, n ≤ k → n ≤ m → descF f k n = descF f m n
  | 0, 0, n, _, _ => rfl
  | 0, m + 1, n, h, _ => by
    have : n = 0 := by omega
    subst this
    show [] = if lper f 0 < 0 then _ else []
    rw [if_neg (Nat.not_lt_zero _)]
  | k + 1, 0, n, _, h => by
    have : n = 0 := by omega
    subst this
    show (if lper f 0 < 0 then _ else []) = []
    rw [if_neg (Nat.not_lt_zero _)]
  | k + 1, m + 1, n, h1, h2 => by
    show (if lper f n < n then lper f n :: descF f k (lper f n) else []) = if lper f n < n then lper f n :: descF f m (lper f n) else []
    by_cases h : lper f n < n
    · rw [if_pos h, if_pos h, descF_fuel (k := k) (m := m) (by omega) (by omega)]
    · rw [if_neg h, if_neg h]
theorem desc_eq (n : Nat) : desc f n = if lper f n < n then lper f n :: desc f (lper f n) else [] := by
  cases n with
  | zero => rw [if_neg (Nat.not_lt_zero _)]; rfl
  | succ n =>
    show (if lper f (n + 1) < n + 1 then lper f (n + 1) :: descF f n (lper f (n + 1)) else []) = _
    by_cases h : lper f (n + 1) < n + 1
    · rw [if_pos h, if_pos h]
      unfold desc
      rw [descF_fuel (f := f) (show lper f (n + 1) ≤ n by omega) (Nat.le_refl _)]
    · rw [if_neg h, if_neg h]
theorem desc_lt (h : lper f n < n) : desc f n = lper f n :: desc f (lper f n) := by rw [desc_eq, if_pos h]
theorem desc_nil (h : ¬ lper f n < n) : desc f n = [] := by rw [desc_eq, if_neg h]
theorem desc_congr : ∀ {n : Nat}, (∀ x, x < n → f x = g x) → desc f n = desc g n := by
  intro n
  induction n using Nat.strongRecOn with
  | ind n ih =>
    intro e
    have el := lper_congr e
    by_cases h : lper g n < n
    · rw [desc_lt h, desc_lt (by rw [el]; exact h), el, ih _ h fun x hx => e x (by omega)]
    · rw [desc_nil h, desc_nil (by rw [el]; exact h)]
theorem desc_length : ∀ {n : Nat}, (desc f n).length ≤ n := by
  intro n
  induction n using Nat.strongRecOn with
  | ind n ih =>
    by_cases h : lper f n < n
    · rw [desc_lt h, List.length_cons]
      have := ih _ h
      omega
    · rw [desc_nil h]; exact Nat.zero_le _
end
end LM
set_option Elab.async false
set_option autoImplicit false
set_option linter.all false
set_option maxRecDepth 100000
set_option maxHeartbeats 2000000
/-! LQ2: columns as sequences: periods, descents, normal forms, first differences. -/
namespace LM
open PySem PySem.Spec PyProof.Rows L2 DI
abbrev Pos1 (ws : List Int) : Prop := ∀ w ∈ ws, 1 ≤ w
theorem Wd.pos {ws : List Int} (h : Wd ws) : Pos1 ws := fun w hw => (h w hw).1
/-- the columns of the positions -/
def fcol (ws : List Int) (x : Nat) : Int := colOf ws (x : Int)
section
variable {ws vs : List Int} {w : Int} {n x : Nat}
theorem fcol_eff (h : Pos1 ws) : fcol (eff ws) = fcol ws := funext fun x => eff_col (by omega) h
theorem fcol_zero : ∀ {ws : List Int}, fcol ws 0 = 0
  | [] => rfl
  | w :: ws => by
    show colOf ws ((0 : Int) % w) = 0
    rw [Int.zero_emod]
    exact fcol_zero (ws := ws)
theorem fcol_small : ∀ {ws : List Int} {n : Nat}, (∀ w ∈ ws, (n : Int) ≤ w) → ∀ x, x < n → fcol ws x = x
  | [], n, _, x, _ => rfl
  | w :: ws, n, h, x, hx => by
    have h1 := h w List.mem_cons_self
    show colOf ws ((x : Int) % w) = x
    rw [Int.emod_eq_of_lt (by omega) (by omega)]
    exact fcol_small (fun v hv => h v (List.mem_cons_of_mem _ hv)) x hx
theorem fcol_per (hw : 1 ≤ w) : Per (fcol (w :: ws)) w.toNat := ⟨by omega, fun x => by
  show colOf ws (((x + w.toNat : Nat) : Int) % w) = colOf ws ((x : Int) % w)
  have e : ((x + w.toNat : Nat) : Int) = (x : Int) + w := by omega
  rw [e, Int.add_emod_right]⟩
theorem lper_id {f : Nat → Int} {n : Nat} (hn : 1 ≤ n) (h : ∀ x, x < n → f x = x) : lper f n = n := by
  refine lper_unique (isPer_ge hn (Nat.le_refl _)) fun q hq => ?_
  by_cases hl : q < n
  · have a := hq.2 0 (by omega)
    have b := hq.1
    rw [Nat.zero_add, h q hl, h 0 (by omega)] at a
    omega
  · omega
/-! ### lists of natural numbers as widths -/
def toI (l : List Nat) : List Int := l.map fun (x : Nat) => (x : Int)
/-! ### normal forms -/
def nfN : List Int → List Nat
  | [] => []
  | w :: ws => wper (fcol (w :: ws)) w.toNat :: desc (fcol (w :: ws)) (wper (fcol (w :: ws)) w.toNat)
/-- the normal form -/
def nf (ws : List Int) : List Int := toI (nfN ws)
theorem nf_cons : nf (w :: ws) = toI (wper (fcol (w :: ws)) w.toNat :: desc (fcol (w :: ws)) (wper (fcol (w :: ws)) w.toNat)) := rfl
theorem fcol_ne_nil (hw : 1 ≤ w) : fcol (w :: ws) ≠ fcol [] := fun h => by
  have e := congrFun h w.toNat
  have a := (fcol_per (ws := ws) hw).2 0
  rw [Nat.zero_add, fcol_zero] at a
  rw [a] at e
  have : fcol [] w.toNat = w := by show ((w.toNat : Nat) : Int) = w; omega
  omega
/-- equal in effect, equal normal forms -/
theorem nf_congr (hp : Pos1 ws) (hq : Pos1 vs) (h : fcol ws = fcol vs) : nf ws = nf vs := by
  cases ws with
  | nil => cases vs with
    | nil => rfl
    | cons v vs => exact absurd h.symm (fcol_ne_nil (hq v List.mem_cons_self))
  | cons w ws => cases vs with
    | nil => exact absurd h (fcol_ne_nil (hp w List.mem_cons_self))
    | cons v vs =>
      have e := wper_unique (fcol_per (ws := ws) (hp w List.mem_cons_self)) (fcol_per (ws := vs) (hq v List.mem_cons_self)) (congrFun h)
      rw [nf_cons, nf_cons, e, h]
theorem nf_eff (hp : Pos1 ws) : nf (eff ws) = nf ws := nf_congr (fun w hw => hp w (eff_mem hw)) hp (fcol_eff hp)
/-! ### first differences -/
def hd0 (ws : List Int) : Nat := (ws.headD 0).toNat
/-- the first position with different columns -/
def dif (ws vs : List Int) : Option Nat := (List.range (hd0 ws + hd0 vs + 1)).find? fun x => decide (fcol ws x ≠ fcol vs x)
theorem find_range {P : Nat → Bool} {n p : Nat} (h : (List.range n).find? P = some p) : p < n ∧ P p = true ∧ ∀ x, x < p → P x = false := by
  rw [List.find?_range_eq_some] at h
  obtain ⟨a, b, c⟩ := h
  exact ⟨List.mem_range.mp b, a, fun x hx => by have := c x hx; simpa using this⟩
theorem find_range_none {P : Nat → Bool} {n : Nat} (h : (List.range n).find? P = none) : ∀ x, x < n → P x = false := fun x hx => by
  rw [List.find?_range_eq_none] at h
  have := h x hx
  simpa using this
theorem dif_some {p : Nat} (h : dif ws vs = some p) : fcol ws p ≠ fcol vs p ∧ (∀ x, x < p → fcol ws x = fcol vs x) ∧ p < hd0 ws + hd0 vs + 1 := by
  obtain ⟨a, b, c⟩ := find_range h
  exact ⟨of_decide_eq_true b, fun x hx => by have := c x hx; simpa using this, a⟩
theorem dif_none (hp : Pos1 ws) (hq : Pos1 vs) (h : dif ws vs = none) : fcol ws = fcol vs := by
  have a : ∀ x, x < hd0 ws + hd0 vs + 1 → fcol ws x = fcol vs x := fun x hx => by have := find_range_none h x hx; simpa using this
  cases ws with
  | nil => cases vs with
    | nil => rfl
    | cons v vs =>
      have hv := hq v List.mem_cons_self
      have e := a v.toNat (by show v.toNat < 0 + v.toNat + 1; omega)
      have b := (fcol_per (ws := vs) hv).2 0
      rw [Nat.zero_add, fcol_zero] at b
      rw [b] at e
      have : fcol [] v.toNat = v := by show ((v.toNat : Nat) : Int) = v; omega
      omega
  | cons w ws => cases vs with
    | nil =>
      have hw := hp w List.mem_cons_self
      have e := a w.toNat (by show w.toNat < w.toNat + 0 + 1; omega)
      have b := (fcol_per (ws := ws) hw).2 0
      rw [Nat.zero_add, fcol_zero] at b
      rw [b] at e
      have : fcol [] w.toNat = w := by show ((w.toNat : Nat) : Int) = w; omega
      omega
    | cons v vs => exact funext (fw_two' (fcol_per (hp w List.mem_cons_self)) (fcol_per (hq v List.mem_cons_self)) fun x hx => a x (by show x < w.toNat + v.toNat + 1; omega))
theorem dif_self (ws : List Int) : dif ws ws = none := by
  unfold dif
  rw [List.find?_range_eq_none]
  intro x _
  simp
theorem dif_iff (hp : Pos1 ws) (hq : Pos1 vs) : dif ws vs = none ↔ fcol ws = fcol vs := ⟨dif_none hp hq, fun h => by
  unfold dif
  rw [h, List.find?_range_eq_none]
  intro x _
  simp⟩
theorem dif_unique {p : Nat} (hp : Pos1 ws) (hq : Pos1 vs) (h1 : fcol ws p ≠ fcol vs p) (h2 : ∀ x, x < p → fcol ws x = fcol vs x) : dif ws vs = some p := by
  cases h : dif ws vs with
  | none => exact absurd (congrFun (dif_none hp hq h) p) h1
  | some q =>
    obtain ⟨a, b, _⟩ := dif_some h
    have : p = q := by
      rcases Nat.lt_trichotomy p q with z | z | z
      · exact absurd (b p z) h1
      · exact z
      · exact absurd (h2 q z) a
    rw [this]
theorem dif_comm (hp : Pos1 ws) (hq : Pos1 vs) : dif vs ws = dif ws vs := by
  cases h : dif ws vs with
  | none => exact (dif_iff hq hp).mpr (dif_none hp hq h).symm
  | some p =>
    obtain ⟨a, b, _⟩ := dif_some h
    exact dif_unique hq hp (fun z => a z.symm) fun x hx => (b x hx).symm
theorem dif_eff (hp : Pos1 ws) (hq : Pos1 vs) : dif (eff ws) (eff vs) = dif ws vs := by
  have hp' : Pos1 (eff ws) := fun w hw => hp w (eff_mem hw)
  have hq' : Pos1 (eff vs) := fun w hw => hq w (eff_mem hw)
  cases h : dif ws vs with
  | none => exact (dif_iff hp' hq').mpr (by rw [fcol_eff hp, fcol_eff hq]; exact dif_none hp hq h)
  | some p =>
    obtain ⟨a, b, _⟩ := dif_some h
    exact dif_unique hp' hq' (by rw [fcol_eff hp, fcol_eff hq]; exact a) (by rw [fcol_eff hp, fcol_eff hq]; exact b)
end
end LM
set_option Elab.async false
set_option autoImplicit false
set_option linter.all false
set_option maxRecDepth 100000
set_option maxHeartbeats 2000000
/-! LQ3: pieces and columns tell one another. -/
namespace LM
open PySem PySem.Spec PyProof.Rows L2 DI
section
variable {ws vs : List Int} {n : Nat}
end
end LM
set_option Elab.async false
set_option autoImplicit false
set_option linter.all false
set_option maxRecDepth 100000
set_option maxHeartbeats 4000000
/-! LQ4: the PRNG of k25..k46, chains, broken lines. -/
namespace LM
open PySem PySem.Spec PyProof.Rows L2 DI
section
variable {Q : D → DI.Env → Prop}
theorem bag_ok {ns : List Int} {k : Int} (h0 : 0 ≤ k) (h1 : k < 2 ^ 60) (q : ∀ y, PR 0 y → Q y [none, none]) : wF F__law_bag [.scr ns, .int k] Q := by
  have fin : ∀ v : Int, Q (.lst [.int (max 0 ((v.natAbs : Int) - 1000000000000000000)), .int (v % 100000000000000000000000000000000007 + 70793 * k), .int 0]) [none, none] := fun v => by
    have a := Int.emod_nonneg v (b := 100000000000000000000000000000000007) (by decide)
    have b := Int.emod_lt_of_pos v (b := 100000000000000000000000000000000007) (by decide)
    exact q _ ⟨_, _, _, rfl, by omega, by omega, by omega, by decide, by decide⟩
  unfold F__law_bag m__law_bag
  simp
  apply wIf_i
  · intro h
    have h2 : k.toNat < ns.length := by have := of_decide_eq_true h; omega
    rw [wP_at h0]
    refine wP_get (fun v _ => ?_) h2
    simp [okMul_l, okMul_r]
    exact fin v
  · intro h
    simp [okMul_l, okMul_r]
    have := fin 0
    simpa using this
theorem take_ok {c : Nat} {n : Int} {x : D} (h : PR c x) (hc : c < 2 ^ 60) (hn : 0 < n) (hn2 : n < 10 ^ 1000) (q : ∀ r y, 0 ≤ r → r < n → PR (c + 1) y → Q (.int r) [some y, none]) : wF F__law_take [x, .int n] Q := by
  obtain ⟨a, b, d, rfl, h1, h2, h3, h4, h5⟩ := h
  unfold F__law_take m__law_take
  simp
  apply wIf_i
  · intro ha
    have hl : n.natAbs.log2 < 9000 := Nat.lt_of_le_of_lt (log2_le (k := 4000) (Nat.lt_trans (m := 10 ^ 1000) (by omega) (by decide +kernel))) (by decide)
    exact ⟨hn, ⟨hn, hl⟩, q _ _ (Int.emod_nonneg _ (by omega)) (Int.emod_lt_of_pos _ hn) ⟨_, _, _, rfl, Int.ediv_nonneg h1 (by omega), h2, h3, h4, by omega⟩⟩
  · intro _
    have hb : b + 32452867 * (d + 1) < 2 ^ 200 := by omega
    have hb0 : 0 ≤ b + 32452867 * (d + 1) := by omega
    have l1 : (b + 32452867 * (d + 1)).natAbs.log2 ≤ 200 := log2_le (by omega)
    have m0 : 0 ≤ (b + 32452867 * (d + 1)) ^ 3 % 1000000000000000000000000000000000000003 := Int.emod_nonneg _ (by decide)
    have m1 : (b + 32452867 * (d + 1)) ^ 3 % 1000000000000000000000000000000000000003 < 1000000000000000000000000000000000000003 := Int.emod_lt_of_pos _ (by decide)
    generalize (b + 32452867 * (d + 1)) ^ 3 % 1000000000000000000000000000000000000003 = M at m0 m1 ⊢
    have l2 : (M + 49979693 * (d + 1)).natAbs.log2 ≤ 200 := log2_le (by omega)
    exact ⟨okMul_l (by decide), by omega, okMul_l (by decide), by omega, hn, q _ _ (Int.emod_nonneg _ (by omega)) (Int.emod_lt_of_pos _ hn) ⟨_, _, _, rfl, h1, h2, h3, by omega, by omega⟩⟩
theorem chain_ok {c : Nat} {most top : Int} {x : D} (h : PR c x) (hc : c < 2 ^ 50) (hm : 0 ≤ most) (hm2 : most < 1000) (hw : 1 ≤ top) (hw2 : top ≤ 10 ^ 20)
    (q : ∀ (ws : List Int) y, ws.length ≤ most.toNat → (∀ w ∈ ws, 1 ≤ w ∧ w ≤ top) → PR (c + 10000) y → Q (.lst (ws.map .int)) [some y, none, none]) : wF F__law_chain [x, .int most, .int top] Q := by
  unfold F__law_chain m__law_chain
  simp
  refine take_ok h (by omega) (by omega) (by omega) fun st y hs0 hs1 hy => ?_
  simp
  refine take_ok hy (by omega) (by omega) (by omega) fun r y hr0 hr1 hy => ?_
  simp
  refine ⟨by omega, ?_⟩
  refine for_inv (fun i e => ∃ (ws : List Int) (z : D) (o5 o6 o7 o8 : Option D), e = [some z, some (.int most), some (.int top), some (.lst (ws.map .int)), some (.int st), o5, o6, o7, o8] ∧ ws.length = i ∧ (∀ w ∈ ws, 1 ≤ w ∧ w ≤ top) ∧ PR (c + 2 + 4 * i) z)
    ⟨[], y, none, none, none, none, by simp, rfl, by simp, hy⟩ (fun i d e hi hJ => ?_) fun e hJ => ?_
  · obtain ⟨ws, z, o5, o6, o7, o8, rfl, hl, hws, hz⟩ := hJ
    obtain ⟨rfl, hi2⟩ := rangeD_get hi
    have hir : (i : Int) ≤ 1000 := by omega
    simp [-wE_if_]
    refine wE_cut (fun d e' => ∃ last : Int, d = .int last ∧ 1 ≤ last ∧ last ≤ top ∧ e' = [some z, some (.int most), some (.int top), some (.lst (ws.map .int)), some (.int st), some (.int i), o6, o7, o8]) ?_ ?_
    · simp
      refine wIf_i (fun hn => ?_) fun hn => ?_
      · rcases List.eq_nil_or_concat ws with rfl | ⟨l, b, rfl⟩
        · simp at hn
        · have := hws b (by simp)
          rw [List.concat_eq_append, List.map_append]
          show wP (atI (l.map D.int ++ [D.int b]) (-1)) _
          rw [DI.atI_last]
          simp
          exact this
      · exact hw
    · rintro _ _ ⟨last, rfl, h1, h2, rfl⟩
      simp
      refine take_ok hz (by omega) (by omega) (by omega) fun r1 y1 hr10 hr11 hy1 => ?_
      simp
      refine take_ok hy1 (by omega) (by omega) (by omega) fun r2 y2 hr20 hr21 hy2 => ?_
      simp
      have hl2 : (1 + r2).natAbs.log2 < 9000 := Nat.lt_of_le_of_lt (log2_le (k := 20) (by omega)) (by decide)
      refine ⟨⟨by omega, hl2⟩, ?_⟩
      refine take_ok hy2 (by omega) (by omega) (by omega) fun r3 y3 hr30 hr31 hy3 => ?_
      simp
      refine take_ok hy3 (by omega) (by omega) (by omega) fun r4 y4 hr40 hr41 hy4 => ?_
      simp
      generalize last / (1 + r2) + r3 - 1 = part
      have e4 : ([D.int (1 + r4), D.int (1 + r1), D.int (min top (max 1 part)), D.int (1 + r1)] : List D) = [1 + r4, 1 + r1, min top (max 1 part), 1 + r1].map D.int := rfl
      rw [e4, wP_at hs0]
      refine wP_get (fun d hd => ?_) (by simp; omega)
      obtain ⟨v, hv, rfl⟩ := ints_get hd
      have hv2 := List.mem_of_getElem? hv
      simp at hv2
      refine ⟨by omega, ws ++ [v], y4, ⟨rfl, by simp⟩, by simp [hl], fun u hu => ?_, hy4.mono (by omega)⟩
      rcases List.mem_append.mp hu with hu | hu
      · exact hws u hu
      · simp at hu; subst hu; omega
  · obtain ⟨ws, z, o5, o6, o7, o8, rfl, hl, hws, hz⟩ := hJ
    rw [rangeD_len] at hl hz
    simp
    exact q ws z (by omega) hws (hz.mono (by omega))
end
end LM
set_option Elab.async false
set_option autoImplicit false
set_option linter.all false
set_option maxRecDepth 100000
set_option maxHeartbeats 4000000
/-! LQ5: borders, periods, descents, normal forms, differences: what the program's defs give. -/
namespace LM
open PySem PySem.Spec PyProof.Rows L2 DI
def nthI (vs : List Int) (i : Nat) : Int := vs.getD i 0
theorem nthI_get {vs : List Int} {i : Nat} (h : i < vs.length) : vs[i]? = some (nthI vs i) := by
  unfold nthI
  rw [List.getD_eq_getElem?_getD, List.getElem?_eq_getElem h]
  rfl
/-- the borders of all beginnings -/
def bords (f : Nat → Int) (n : Nat) : List Int := (List.range n).map fun (i : Nat) => ((bord f i : Nat) : Int)
theorem bords_get {f : Nat → Int} {n i : Nat} (h : i < n) : (bords f n)[i]? = some ((bord f i : Nat) : Int) := by
  unfold bords
  rw [List.getElem?_map, List.getElem?_range h]; rfl
theorem bords_succ (f : Nat → Int) (n : Nat) : bords f (n + 1) = bords f n ++ [((bord f n : Nat) : Int)] := by
  unfold bords
  rw [List.range_succ, List.map_append]; rfl
theorem bords_len (f : Nat → Int) (n : Nat) : (bords f n).length = n := by unfold bords; simp
theorem bords_two (f : Nat → Int) : bords f 2 = [0, 0] := by
  unfold bords
  show [((bord f 0 : Nat) : Int), ((bord f 1 : Nat) : Int)] = [0, 0]
  rw [bord_zero, bord_one]; rfl
section
variable {Q : D → DI.Env → Prop}
theorem wP_atM {α : Type} {f : Int → α} {vs : List Int} {i : Nat} {v : Int} {R : α → Prop} (h : vs[i]? = some v) (q : R (f v)) : wP (atI (vs.map f) (i : Int)) R := by
  rw [wP_atI, List.getElem?_map, h]
  simpa using q
theorem border_lengths_ok {vs : List Int} (hz : vs.length ≤ 1000000) (q : Q (.lst ((bords (nthI vs) (vs.length + 1)).map .int)) [none]) : wF F_border_lengths [.lst (vs.map .int)] Q := by
  unfold F_border_lengths m_border_lengths
  simp
  refine ⟨by omega, ?_⟩
  have e0 : ([D.int 0, D.int 0] : List D) = (bords (nthI vs) 2).map .int := by rw [bords_two]; rfl
  rw [e0]
  refine for_inv (fun i e => ∃ o2 o3, e = [some (.lst (vs.map .int)), some (.lst ((bords (nthI vs) (i + 2)).map .int)), o2, o3]) ⟨none, none, rfl⟩ (fun i d e hi hJ => ?_) fun e hJ => ?_
  · obtain ⟨o2, o3, rfl⟩ := hJ
    obtain ⟨rfl, hi2⟩ := rangeD_get hi
    have hlt : i + 1 < vs.length := by omega
    have e1 : (1 : Int) + (i : Int) = ((i + 1 : Nat) : Int) := by omega
    rw [e1]
    simp 
    have e2 : ((i : Int) + 1) = ((i + 1 : Nat) : Int) := rfl
    rw [e2]
    refine wP_atM (bords_get (by omega)) ?_
    refine wS_cut (fun r e => r = .nx ∧ ∃ b : Nat, BI (nthI vs) (i + 1) b ∧ (b = 0 ∨ nthI vs b = nthI vs (i + 1)) ∧ e = [some (.lst (vs.map .int)), some (.lst ((bords (nthI vs) (i + 2)).map .int)), some (.int ((i + 1 : Nat) : Int)), some (.int b)]) ?_ ?_
    · refine while_inv (fun m e => ∃ b : Nat, b = m ∧ BI (nthI vs) (i + 1) b ∧ e = [some (.lst (vs.map .int)), some (.lst ((bords (nthI vs) (i + 2)).map .int)), some (.int ((i + 1 : Nat) : Int)), some (.int b)]) (m := bord (nthI vs) (i + 1)) ⟨_, rfl, BI.start (by omega), by simp⟩ ?_ fun m e hJ => ?_
      · have := bord_lt (f := nthI vs) (n := i + 1) (by omega)
        have : (10 : Nat) ^ 80 = 10 ^ 80 := rfl
        omega
      · obtain ⟨b, rfl, hB, rfl⟩ := hJ
        simp
        refine wIf_i (fun hb => ?_) fun hb => ?_
        · have hb' : 0 < b := by simpa using hb
          refine wP_atM (nthI_get (by have := hB.1; omega)) ?_
          refine wP_atM (nthI_get hlt) ?_
          simp
          refine wIf_i (fun hne => ?_) fun hne => ?_
          · have hne' : nthI vs b ≠ nthI vs (i + 1) := by simpa using hne
            refine wP_atM (bords_get (by have := hB.1; omega)) ?_
            simp
            exact ⟨bord (nthI vs) b, bord_lt hb', hB.next hb' hne', rfl⟩
          · have heq : nthI vs b = nthI vs (i + 1) := by simpa using hne
            exact ⟨b, hB, .inr heq, rfl⟩
        · have hb' : b = 0 := by simpa using hb
          subst hb'
          exact ⟨0, hB, .inl rfl, rfl⟩
    · rintro _ _ ⟨rfl, b, hB, hor, rfl⟩
      simp
      refine wP_atM (nthI_get (by have := hB.1; omega)) ?_
      refine wP_atM (nthI_get hlt) ?_
      simp
      refine ⟨by rw [bords_len]; omega, ?_⟩
      rw [bords_succ _ (i + 2)]
      have key : bord (nthI vs) (i + 2) = b + if nthI vs b = nthI vs (i + 1) then 1 else 0 := by
        by_cases z : nthI vs b = nthI vs (i + 1)
        · rw [if_pos z]; exact hB.done z
        · rw [if_neg z]
          have hb0 := hor.resolve_right z
          subst hb0
          exact hB.none z
      rw [key]
      simp
      split <;> omega
  · obtain ⟨o2, o3, rfl⟩ := hJ
    rw [rangeD_len]
    simp
    rw [cutL_hi1]
    have e4 : (bords (nthI vs) (vs.length - 1 + 2)).take (vs.length + 1) = bords (nthI vs) (vs.length + 1) := by
      unfold bords
      rw [← List.map_take, List.take_range]
      congr 2
      omega
    rw [e4]
    exact q
theorem bords_last {f : Nat → Int} {n : Nat} : (bords f (n + 1)).map D.int = (bords f n).map D.int ++ [.int ((bord f n : Nat) : Int)] := by rw [bords_succ, List.map_append]; rfl
theorem least_period_of_ok {vs : List Int} (hz : vs.length ≤ 1000000) (h1 : 1 ≤ vs.length) (q : Q (.int ((lper (nthI vs) vs.length : Nat) : Int)) [none]) : wF F_least_period_of [.lst (vs.map .int)] Q := by
  unfold F_least_period_of m_least_period_of
  simp
  refine border_lengths_ok hz ?_
  simp
  rw [bords_last, DI.atI_last]
  simp
  have a := lper_bord (f := nthI vs) h1
  have b := bord_lt (f := nthI vs) h1
  have e : (vs.length : Int) - ((bord (nthI vs) vs.length : Nat) : Int) = ((lper (nthI vs) vs.length : Nat) : Int) := by omega
  rw [e]
  exact q
/-- the first columns -/
def cols (ws : List Int) (n : Nat) : List Int := (List.range n).map fun (i : Nat) => fcol ws i
theorem cols_len (ws : List Int) (n : Nat) : (cols ws n).length = n := by unfold cols; simp
theorem cols_get {ws : List Int} {n i : Nat} (h : i < n) : (cols ws n)[i]? = some (fcol ws i) := by
  unfold cols
  rw [List.getElem?_map, List.getElem?_range h]; rfl
theorem cols_nth {ws : List Int} {n : Nat} : ∀ x, x < n → nthI (cols ws n) x = fcol ws x := fun x h => by
  have a := nthI_get (vs := cols ws n) (i := x) (by rw [cols_len]; exact h)
  rw [cols_get h] at a
  exact (Option.some.inj a).symm
theorem first_columns_ok {ws : List Int} {n : Int} (hw : Pos1 ws) (h0 : 0 ≤ n) (h1 : n ≤ 1000000) (q : Q (.lst ((cols ws n.toNat).map .int)) [none, none]) : wF F_first_columns [.lst (ws.map .int), .int n] Q := by
  unfold F_first_columns m_first_columns
  simp
  refine ⟨by omega, lc_map (onInt fun v => .int (colOf ws v)) (fun d hd => ?_) fun e2 he => ?_⟩
  · unfold rangeD at hd
    obtain ⟨v, hv, rfl⟩ := List.mem_map.mp hd
    simp
    refine column_of_ok hw ?_
    simp
  · rw [rangeD_map]
    simp [he]
    refine ⟨by omega, ?_⟩
    have e : (cols ws n.toNat).map D.int = List.map (D.int ∘ fun (i : Nat) => colOf ws ↑i) (List.range n.toNat) := by unfold cols; rw [List.map_map]; rfl
    rw [← e]
    exact q
/-- a natural number or None -/
def optD : Option Nat → D
  | none => .non
  | some p => .int p
@[simp] theorem optD_none : optD none = .non := rfl
@[simp] theorem optD_some {p : Nat} : optD (some p) = .int p := rfl
theorem wP_gIsOpt {o : Option Nat} {R : D → Prop} : wP (gIs [optD o, .non]) R = R (.bl o.isNone) := by
  cases o <;> exact wP_some
/-- the least period for ever -/
def wpO : List Int → Option Nat
  | [] => none
  | w :: ws => some (wper (fcol (w :: ws)) w.toNat)
theorem whole_period_ok {ws : List Int} (hw : Wd ws) (q : Q (optD (wpO ws)) [none]) : wF F_whole_period [.lst (ws.map .int)] Q := by
  unfold F_whole_period m_whole_period
  simp
  refine wIf_i (fun h => ?_) fun h => ?_
  · have h' : ws = [] := by simpa using h
    subst h'
    exact q
  · cases ws with
    | nil => simp at h
    | cons w ws =>
      have hw1 := hw w List.mem_cons_self
      simp
      refine first_columns_ok (ws := w :: ws) hw.pos (by omega) (by omega) ?_
      simp
      refine least_period_of_ok (by rw [cols_len]; omega) (by rw [cols_len]; omega) ?_
      rw [cols_len, lper_congr cols_nth]
      have l1 := lper_pos (f := fcol (w :: ws)) (n := w.toNat)
      simp
      refine ⟨by omega, ?_⟩
      have q' : Q (.int ((wper (fcol (w :: ws)) w.toNat : Nat) : Int)) [none] := q
      unfold wper at q'
      have em : (w % ((lper (fcol (w :: ws)) w.toNat : Nat) : Int)) = ((w.toNat % lper (fcol (w :: ws)) w.toNat : Nat) : Int) := by
        have : w = ((w.toNat : Nat) : Int) := by omega
        rw [this]; rfl
      rw [em]
      refine wIf_i (fun h => ?_) fun h => ?_
      · have h' : w.toNat % lper (fcol (w :: ws)) w.toNat = 0 := by have := of_decide_eq_true h; omega
        rw [if_pos h'] at q'
        exact q'
      · have h' : ¬ w.toNat % lper (fcol (w :: ws)) w.toNat = 0 := by have := of_decide_eq_false h; omega
        rw [if_neg h'] at q'
        have e : ((w.toNat : Nat) : Int) = w := by omega
        rw [e] at q'
        exact q'
theorem desc_step {f : Nat → Int} {n m : Nat} {l : List Nat} (h : l ++ desc f m = desc f n) (hb : 0 < bord f m) : l ++ [m - bord f m] ++ desc f (m - bord f m) = desc f n ∧ m - bord f m < m := by
  have h1 : 1 ≤ m := by
    cases m with
    | zero => rw [bord_zero] at hb; omega
    | succ m => omega
  have e := lper_bord (f := f) h1
  rw [← e, List.append_assoc]
  have hl : lper f m < m := by omega
  rw [desc_lt hl] at h
  exact ⟨h, hl⟩
theorem desc_stop {f : Nat → Int} {m : Nat} (hb : ¬ 0 < bord f m) : desc f m = [] := by
  refine desc_nil ?_
  cases m with
  | zero => omega
  | succ m => have := lper_bord (f := f) (n := m + 1) (by omega); omega
theorem descent_of_ok {vs : List Int} (hz : vs.length ≤ 1000000) (q : Q (.lst ((toI (desc (nthI vs) vs.length)).map .int)) [none]) : wF F_descent_of [.lst (vs.map .int)] Q := by
  unfold F_descent_of m_descent_of
  simp
  refine border_lengths_ok hz ?_
  simp
  refine while_inv (fun m e => m ≤ vs.length ∧ ∃ l : List Nat, l ++ desc (nthI vs) m = desc (nthI vs) vs.length ∧ l.length + m ≤ vs.length ∧ e = [some (.lst (vs.map .int)), some (.lst ((bords (nthI vs) (vs.length + 1)).map .int)), some (.int (m : Int)), some (.lst ((toI l).map .int))]) (m := vs.length) ⟨Nat.le_refl _, [], rfl, by simp, rfl⟩ ?_ fun m e hJ => ?_
  · have : (10 : Nat) ^ 80 = 10 ^ 80 := rfl
    omega
  · obtain ⟨hm, l, hl, hlen, rfl⟩ := hJ
    simp
    refine wP_atM (bords_get (by omega)) ?_
    simp
    refine wIf_i (fun h => ?_) fun h => ?_
    · have hb : 0 < bord (nthI vs) m := by simpa using h
      obtain ⟨a, b⟩ := desc_step hl hb
      have b2 : bord (nthI vs) m < m := bord_lt (by omega)
      refine wP_atM (bords_get (by omega)) ?_
      simp
      refine ⟨by unfold toI; simp; omega, m - bord (nthI vs) m, b, by omega, l ++ [m - bord (nthI vs) m], a, by simp; omega, by omega, ?_⟩
      unfold toI
      simp
      omega
    · have hb : ¬ 0 < bord (nthI vs) m := by simpa using h
      rw [desc_stop hb, List.append_nil] at hl
      rw [hl]
      exact q
theorem wper_le_w {ws : List Int} {w : Int} (hw : 1 ≤ w) : wper (fcol (w :: ws)) w.toNat ≤ w.toNat := Nat.le_of_dvd (by omega) (wper_spec (fcol_per hw)).2.1
theorem normal_of_ok {ws : List Int} (hw : Wd ws) (q : Q (.lst ((nf ws).map .int)) [none]) : wF F_normal_of [.lst (ws.map .int)] Q := by
  unfold F_normal_of m_normal_of
  simp
  refine whole_period_ok hw ?_
  simp
  rw [wP_gIsOpt]
  cases ws with
  | nil =>
    simp [wpO]
    exact q
  | cons w ws =>
    have hw1 := hw w List.mem_cons_self
    have hl := wper_le_w (ws := ws) hw1.1
    simp [wpO]
    refine first_columns_ok (ws := w :: ws) hw.pos (by omega) (by omega) ?_
    simp
    refine descent_of_ok (by rw [cols_len]; omega) ?_
    rw [cols_len, desc_congr cols_nth]
    simp
    refine ⟨?_, q⟩
    have := desc_length (f := fcol (w :: ws)) (n := wper (fcol (w :: ws)) w.toNat)
    unfold toI
    simp
    omega
end
end LM
set_option Elab.async false
set_option autoImplicit false
set_option linter.all false
set_option maxRecDepth 100000
set_option maxHeartbeats 4000000
/-! LQ6: differences, and the defs over them. -/
namespace LM
open PySem PySem.Spec PyProof.Rows L2 DI
theorem effB_lt {b : Int} : ∀ {ws : List Int} {w : Int}, w ∈ effB b ws → w < b
  | [], _, h => by cases h
  | v :: ws, w, h => by
    have h' : w ∈ (if v < b then v :: effB v ws else effB b ws) := h
    by_cases hv : v < b
    · rw [if_pos hv] at h'
      rcases List.mem_cons.mp h' with rfl | h'
      · exact hv
      · have := effB_lt h'; omega
    · rw [if_neg hv] at h'
      exact effB_lt h'
theorem effB_sorted : ∀ {ws : List Int} {b : Int}, (effB b ws).Pairwise (· > ·)
  | [], _ => .nil
  | v :: ws, b => by
    show (if v < b then v :: effB v ws else effB b ws).Pairwise (· > ·)
    by_cases hv : v < b
    · rw [if_pos hv, List.pairwise_cons]
      exact ⟨fun w hw => effB_lt hw, effB_sorted⟩
    · rw [if_neg hv]; exact effB_sorted
theorem eff_sorted {ws : List Int} : (eff ws).Pairwise (· > ·) := by
  cases ws with
  | nil => exact .nil
  | cons v ws => exact List.pairwise_cons.mpr ⟨fun w hw => effB_lt hw, effB_sorted⟩
theorem sorted_last {l : List Int} {b : Int} (h : (l ++ [b]).Pairwise (· > ·)) : ∀ w ∈ l ++ [b], b ≤ w := fun w hw => by
  rw [List.pairwise_append] at h
  rcases List.mem_append.mp hw with z | z
  · have := h.2.2 w z b (by simp); omega
  · simp at z; omega
theorem dif_nil_last {l : List Int} {b : Int} (hp : Pos1 (l ++ [b])) (h : ∀ w ∈ l ++ [b], b ≤ w) : dif (l ++ [b]) [] = some b.toNat := by
  have b1 := hp b (by simp)
  refine dif_unique hp (fun w hw => by cases hw) ?_ fun x hx => ?_
  · have e1 : fcol [] b.toNat = b := by show ((b.toNat : Nat) : Int) = b; omega
    have e2 : fcol (l ++ [b]) b.toNat < b := by
      show colOf (l ++ [b]) _ < b
      rw [colOf_append]
      exact Int.emod_lt_of_pos _ (by omega)
    omega
  · exact fcol_small (n := b.toNat) (fun w hw => by have := h w hw; omega) x hx
section
variable {Q : D → DI.Env → Prop}
theorem difference_of_ok {us vs : List Int} (hu : Wd us) (hv : Wd vs) (su : us.Pairwise (· > ·)) (sv : vs.Pairwise (· > ·)) (hz1 : us.length ≤ 1000000) (hz2 : vs.length ≤ 1000000) (q : Q (optD (dif us vs)) [none, none]) : wF F_difference_of [.lst (us.map .int), .lst (vs.map .int)] Q := by
  unfold F_difference_of m_difference_of
  simp
  refine wIf_i (fun h => ?_) fun h => ?_
  · have h' : us = vs := of_decide_eq_true h
    subst h'
    rw [dif_self] at q
    exact q
  · have hne : us ≠ vs := of_decide_eq_false h
    have last : ∀ {l : List Int} {b : Int}, (l ++ [b]).Pairwise (· > ·) → Wd (l ++ [b]) → dif (l ++ [b]) [] = some b.toNat := fun s w => dif_nil_last w.pos (sorted_last s)
    have fin : ∀ {l : List Int} {b : Int}, Wd (l ++ [b]) → Q (optD (some b.toNat)) [none, none] → wP (atI ((l ++ [b]).map D.int) (-1)) fun d => Q d [none, none] := fun {l b} w z => by
      have b1 := w b (by simp)
      rw [List.map_append]
      show wP (atI (l.map D.int ++ [D.int b]) (-1)) _
      rw [DI.atI_last]
      have e : ((b.toNat : Nat) : Int) = b := by omega
      have z' : Q (.int ((b.toNat : Nat) : Int)) [none, none] := z
      rw [e] at z'
      simpa using z'
    refine wIf_i (fun h2 => ?_) fun h2 => ?_
    · have h2' : us = [] := of_decide_eq_true h2
      subst h2'
      simp
      refine ⟨by omega, ?_⟩
      rcases List.eq_nil_or_concat vs with rfl | ⟨l, b, rfl⟩
      · exact absurd rfl hne
      · rw [List.concat_eq_append] at *
        rw [dif_comm hv.pos (fun w hw => by cases hw), last sv hv] at q
        exact fin hv q
    · have hu0 : us ≠ [] := of_decide_eq_false h2
      refine wIf_i (fun h3 => ?_) fun h3 => ?_
      · have h3' : vs = [] := of_decide_eq_true h3
        subst h3'
        simp
        refine ⟨by omega, ?_⟩
        rcases List.eq_nil_or_concat us with rfl | ⟨l, b, rfl⟩
        · exact absurd rfl hu0
        · rw [List.concat_eq_append] at *
          rw [last su hu] at q
          exact fin hu q
      · have hv0 : vs ≠ [] := of_decide_eq_false h3
        cases us with
        | nil => exact absurd rfl hu0
        | cons u us => cases vs with
          | nil => exact absurd rfl hv0
          | cons v vs =>
            have hu1 := hu u List.mem_cons_self
            have hv1 := hv v List.mem_cons_self
            simp
            refine ⟨by omega, ?_⟩
            refine for_inv (fun i e => ∃ o2, (∀ x, x < i → fcol (u :: us) x = fcol (v :: vs) x) ∧ e = [some (.lst ((u :: us).map .int)), some (.lst ((v :: vs).map .int)), o2]) ⟨none, fun x hx => absurd hx (Nat.not_lt_zero _), rfl⟩ (fun i d e hi hJ => ?_) fun e hJ => ?_
            · obtain ⟨o2, hJ, rfl⟩ := hJ
              obtain ⟨rfl, hi2⟩ := rangeD_get hi
              simp
              refine column_of_ok (ws := u :: us) hu.pos ?_
              simp
              refine column_of_ok (ws := v :: vs) hv.pos ?_
              simp
              refine wIf_i (fun hd => ?_) fun hd => ?_
              · have hd' : fcol (u :: us) i ≠ fcol (v :: vs) i := by simpa [fcol] using hd
                rw [dif_unique hu.pos hv.pos hd' hJ] at q
                exact q
              · have hd' : fcol (u :: us) i = fcol (v :: vs) i := by simpa [fcol] using hd
                intro x hx
                by_cases hxi : x = i
                · subst hxi; exact hd'
                · exact hJ x (by omega)
            · obtain ⟨o2, hJ, rfl⟩ := hJ
              rw [rangeD_len] at hJ
              have e := funext (fw_two' (fcol_per (ws := us) hu1.1) (fcol_per (ws := vs) hv1.1) fun x hx => hJ x (by omega))
              rw [(dif_iff hu.pos hv.pos).mpr e] at q
              simp
              exact q
theorem difference_eff_ok {us vs : List Int} (hu : Wd us) (hv : Wd vs) (hz1 : us.length ≤ 1000000) (hz2 : vs.length ≤ 1000000) (q : Q (optD (dif us vs)) [none, none]) : wF F_difference_of [.lst ((eff us).map .int), .lst ((eff vs).map .int)] Q := by
  refine difference_of_ok (eff_wd hu) (eff_wd hv) eff_sorted eff_sorted (Nat.le_trans (eff_len us) hz1) (Nat.le_trans (eff_len vs) hz2) ?_
  rw [dif_eff hu.pos hv.pos]
  exact q
theorem have_same_effect_ok {us vs : List Int} (hu : Wd us) (hv : Wd vs) (hz1 : us.length ≤ 1000000) (hz2 : vs.length ≤ 1000000) (q : Q (.bl (dif us vs).isNone) [none, none]) : wF F_have_same_effect [.lst (us.map .int), .lst (vs.map .int)] Q := by
  unfold F_have_same_effect m_have_same_effect
  simp
  refine effective_of_ok hz1 ?_
  simp
  refine effective_of_ok hz2 ?_
  simp
  refine difference_eff_ok hu hv hz1 hz2 ?_
  simp
  rw [wP_gIsOpt]
  exact q
/-- the list without the entry at i, with one more there, with two neighbours exchanged -/
def cutAt (ws : List Int) (i : Nat) : List Int := ws.take i ++ ws.drop (i + 1)
def putAt (ws : List Int) (i : Nat) (w : Int) : List Int := ws.take i ++ [w] ++ ws.drop i
def swapAt (ws : List Int) (i : Nat) : List Int := ws.take i ++ ((ws.drop i).take 2).reverse ++ ws.drop (i + 2)
end
end LM
set_option Elab.async false
set_option autoImplicit false
set_option linter.all false
set_option maxRecDepth 100000
set_option maxHeartbeats 4000000
/-! LQ7: the law's own helpers of k25..k46. -/
namespace LM
open PySem PySem.Spec PyProof.Rows L2 DI
section
variable {Q : D → DI.Env → Prop}
end
end LM
set_option Elab.async false
set_option autoImplicit false
set_option linter.all false
set_option maxRecDepth 100000
set_option maxHeartbeats 4000000
/-! LQ8: redundant and harmless widths. -/
namespace LM
open PySem PySem.Spec PyProof.Rows L2 DI
theorem inD_ints (a : Int) (ns : List Int) : inD (.int a) (ns.map .int) = some (decide (a ∈ ns)) := by
  unfold inD
  rw [pys_ints]
  show (if SeqAt.shaped (.int a) = true ∧ SeqAt.shaped (.list (ns.map PyData.int)) = true then _ else _) = _
  rw [if_pos ⟨by unfold SeqAt.shaped PyData.canLay0 PyData.depth; rfl, shaped_ints ns⟩]
  congr 1
  induction ns with
  | nil => rfl
  | cons n r ih =>
    have e : PyData.eqv (.int n) (.int a) = decide (n = a) := by unfold PyData.eqv; rfl
    rw [List.map_cons, List.any_cons, ih, e, Bool.eq_iff_iff, Bool.or_eq_true, decide_eq_true_iff, decide_eq_true_iff, decide_eq_true_iff, List.mem_cons]
    exact or_congr_left ⟨Eq.symm, Eq.symm⟩
section
variable {R : D → Prop} {a : Int} {ns : List Int}
@[simp] theorem wP_gInI : wP (gIn [.int a, .lst (ns.map .int)]) R = R (.bl (decide (a ∈ ns))) := by
  show wP ((inD (.int a) (ns.map .int)).map .bl) R = _
  rw [inD_ints]
  exact wP_some
@[simp] theorem wP_gNotInI : wP (gNotIn [.int a, .lst (ns.map .int)]) R = R (.bl (!decide (a ∈ ns))) := by
  show wP ((inD (.int a) (ns.map .int)).map fun b => .bl (!b)) R = _
  rw [inD_ints]
  exact wP_some
end
def onIntO (f : Int → Option D) : D → Option D
  | .int v => f v
  | _ => none
/-- the indices of the redundant widths -/
def rdn (ws : List Int) : List Int := ((List.range ws.length).filter fun i => (dif (cutAt ws i) ws).isNone).map fun (i : Nat) => (i : Int)
/-- the harmless widths up to n -/
def hml (ws : List Int) (s n : Nat) : List Int := ((List.range n).map fun (i : Nat) => ((i : Int) + 1)).filter fun w => (dif (putAt ws s w) ws).isNone
section
variable {Q : D → DI.Env → Prop}
end
end LM
set_option Elab.async false
set_option autoImplicit false
set_option linter.all false
set_option maxRecDepth 100000
set_option maxHeartbeats 4000000
/-! LQ9: two equal lists told; one's own slots. -/
namespace LM
open PySem PySem.Spec PyProof.Rows L2 DI
section
variable {Q : D → DI.Env → Prop}
theorem PR.slot {c : Nat} {x : D} {o : Option D} (h : PR c x) : okSlot .ow o (some x) := by
  obtain ⟨a, b, d, rfl, _⟩ := h
  exact okSlot_ow rfl
end
end LM
set_option Elab.async false
set_option autoImplicit false
set_option linter.all false
set_option maxRecDepth 100000
set_option maxHeartbeats 4000000
/-! LQ10: columns of pieces, least periods, falls, descents up to a length. -/
namespace LM
open PySem PySem.Spec PyProof.Rows L2 DI
/-! ### columns of pieces -/
def rgI (n : Nat) : List Int := (List.range n).map fun (i : Nat) => (i : Int)
def colsL (ss : List Int) : List Int := ss.flatMap fun s => rgI s.toNat
section
variable {Q : D → DI.Env → Prop}
/-! ### the least period of a list -/
end
end LM
set_option Elab.async false
set_option autoImplicit false
set_option linter.all false
set_option maxRecDepth 100000
set_option maxHeartbeats 4000000
/-! LQ11: descents up to a length; equal up to a length. -/
namespace LM
open PySem PySem.Spec PyProof.Rows L2 DI
theorem cols_falls {ws : List Int} {n : Nat} : desc (nthI (cols ws n)) (cols ws n).length = desc (fcol ws) n := by
  rw [cols_len]
  exact desc_congr fun x hx => cols_nth x hx
theorem cols_least {ws : List Int} {n : Nat} : lper (nthI (cols ws n)) (cols ws n).length = lper (fcol ws) n := by
  rw [cols_len]
  exact lper_congr fun x hx => cols_nth x hx
theorem lper_w {w : Int} {ws : List Int} {n : Nat} (hw : 1 ≤ w) : lper (fcol (w :: ws)) n ≤ w.toNat := lper_least (fcol_per hw).isPer
theorem toI_len {l : List Nat} : (toI l).length = l.length := by unfold toI; simp
section
variable {Q : D → DI.Env → Prop}
theorem period_below_ok {ws : List Int} (hw : Wd ws) {n : Nat} (hn : 1 ≤ n) (q : Q (.int ((lper (fcol ws) n : Nat) : Int)) [none, none]) : wF F_period_below [.lst (ws.map .int), .int (n : Int)] Q := by
  unfold F_period_below m_period_below
  simp
  refine whole_period_ok hw ?_
  simp
  cases ws with
  | nil =>
    have e : lper (fcol []) n = n := lper_id hn fun x hx => rfl
    rw [e] at q
    simp [wpO]
    exact q
  | cons w ws =>
    have hw1 := hw w List.mem_cons_self
    have hle := wper_le_w (ws := ws) hw1.1
    have hper := fcol_per (ws := ws) hw1.1
    simp [wpO]
    refine ⟨okMul_l (by decide), ?_⟩
    refine wIf_i (fun h => ?_) fun h => ?_
    · have h' := of_decide_eq_true h
      rw [lper_long (n := n) hper (by omega)] at q
      exact q
    · have h' := of_decide_eq_false h
      have e : D.int w :: List.map D.int ws = (w :: ws).map .int := rfl
      rw [e]
      refine first_columns_ok hw.pos (by omega) (by omega) ?_
      simp
      refine least_period_of_ok (by rw [cols_len]; omega) (by rw [cols_len]; omega) ?_
      rw [cols_least]
      exact q
theorem descent_to_ok {ws : List Int} (hw : Wd ws) {n : Nat} (hn : 1 ≤ n) (q : Q (.lst ((toI (desc (fcol ws) n)).map .int)) [none, none]) : wF F_descent_to [.lst (ws.map .int), .int (n : Int)] Q := by
  unfold F_descent_to m_descent_to
  simp
  refine period_below_ok hw hn ?_
  simp
  refine wIf_i (fun h => ?_) fun h => ?_
  · have h' : lper (fcol ws) n = n := by
      have := of_decide_eq_true h
      omega
    rw [desc_nil (by omega)] at q
    exact q
  · have h' : lper (fcol ws) n ≠ n := by
      have := of_decide_eq_false h
      omega
    have hlt : lper (fcol ws) n < n := by have := lper_le (f := fcol ws) hn; omega
    have hb : lper (fcol ws) n ≤ 10000 := by
      cases ws with
      | nil => exact absurd (lper_id hn fun x hx => rfl) h'
      | cons w ws =>
        have hw1 := hw w List.mem_cons_self
        have := lper_w (ws := ws) (n := n) hw1.1
        omega
    refine first_columns_ok hw.pos (by omega) (by omega) ?_
    rw [Int.toNat_natCast]
    simp
    refine descent_of_ok (by rw [cols_len]; omega) ?_
    rw [cols_falls]
    rw [desc_lt hlt] at q
    have hl := desc_length (f := fcol ws) (n := lper (fcol ws) n)
    simp
    refine ⟨by rw [toI_len]; omega, ?_⟩
    exact q
end
end LM
set_option Elab.async false
set_option autoImplicit false
set_option linter.all false
set_option maxRecDepth 100000
set_option maxHeartbeats 4000000
/-! LQ12: pieces read back. -/
namespace LM
open PySem PySem.Spec PyProof.Rows L2 DI
/-- pieces as they may be read -/
def Pcs (ss : List Int) : Prop := (∀ s ∈ ss, 1 ≤ s ∧ s ≤ 10000) ∧ 1 ≤ ss.length ∧ ss.length ≤ 400 ∧ ss.sum ≤ 10000
def onPairO (f : Int → Int → Option D) : D → Option D
  | .tup [.int i, .int v] => f i v
  | _ => none
section
variable {Q : D → DI.Env → Prop}
end
end LM
set_option Elab.async false
set_option autoImplicit false
set_option linter.all false
set_option maxRecDepth 100000
set_option maxHeartbeats 4000000
/-! LQ13: lists of lists of ints; all falling lists below a width. -/
namespace LM
open PySem PySem.Spec PyProof.Rows L2 DI
abbrev lstI (l : List Int) : D := .lst (l.map .int)
/-! ### falling lists -/
/-- the falling lists with widths from top - i to top - 1 -/
def subs (top : Int) : Nat → List (List Int)
  | 0 => [[]]
  | i + 1 => subs top i ++ (subs top i).map fun c => c ++ [top - 1 - (i : Int)]
section
variable {Q : D → DI.Env → Prop}
def onLstT (f : List D → D) : D → D
  | .lst l => f l
  | d => d
end
end LM
set_option Elab.async false
set_option autoImplicit false
set_option linter.all false
set_option maxRecDepth 100000
set_option maxHeartbeats 4000000
/-! LQ14: any pieces: their columns, the first obstacle. -/
namespace LM
open PySem PySem.Spec PyProof.Rows L2 DI
section
variable {Q : D → DI.Env → Prop}
end
/-! ### the columns of any pieces -/
/-- f is i up to the first piece r, and 0 there -/
def Fst (f : Nat → Int) (r n : Nat) : Prop := 1 ≤ r ∧ r ≤ n ∧ (∀ x, x < r → f x = x) ∧ (r < n → f r = 0)
/-- the obstacle -/
def Obs (f : Nat → Int) (r n : Nat) : Option Nat → Prop
  | none => ∀ m, r < m → m ≤ n → bord f m ≠ 0
  | some m => r < m ∧ m ≤ n ∧ bord f m = 0 ∧ ∀ k, r < k → k < m → bord f k ≠ 0
section
variable {Q : D → DI.Env → Prop}
end
end LM
set_option Elab.async false
set_option autoImplicit false
set_option linter.all false
set_option maxRecDepth 100000
set_option maxHeartbeats 4000000
/-! LQ15: pieces and their columns. -/
namespace LM
open PySem PySem.Spec PyProof.Rows L2 DI
/-! ### pieces up to a length -/
def firstL : List Int → Int → List Int
  | [], _ => []
  | s :: r, n => (if 0 < n then [min s n] else []) ++ firstL r (n - s)
/-! ### widths that have an effect below a length -/
section
variable {Q : D → DI.Env → Prop}
end
end LM
set_option Elab.async false
set_option autoImplicit false
set_option linter.all false
set_option maxRecDepth 100000
set_option maxHeartbeats 4000000
/-! LR1: the deck of k47..k66. -/
namespace LM
open PySem PySem.Spec PyProof.Rows L2 DI
def poolD (p : Int × Int × Int) : D := .lst [.int p.1, .int p.2.1, .int p.2.2]
/-- a deck from which at most c cards were drawn -/
def DK (c : Nat) (x : D) : Prop := ∃ (ps : List (Int × Int × Int)) (n : Int), x = .lst [.lst (ps.map poolD), .int n] ∧ 1 ≤ ps.length ∧ 0 ≤ n ∧ n ≤ c ∧ ∀ p ∈ ps, 0 ≤ p.2.2 ∧ p.2.2 ≤ 2000 + c
theorem DK.mono {c c' : Nat} {x : D} (h : DK c x) (l : c ≤ c') : DK c' x := by
  obtain ⟨ps, n, rfl, h1, h2, h3, h4⟩ := h
  exact ⟨ps, n, rfl, h1, h2, by omega, fun p hp => by have := h4 p hp; omega⟩
section
variable {Q : D → DI.Env → Prop}
end
end LM
set_option Elab.async false
set_option autoImplicit false
set_option linter.all false
set_option maxRecDepth 100000
set_option maxHeartbeats 4000000
/-! LR2: plans drawn from a deck. -/
namespace LM
open PySem PySem.Spec PyProof.Rows L2 DI
section
variable {Q : D → DI.Env → Prop}
end
end LM
set_option Elab.async false
set_option autoImplicit false
set_option linter.all false
set_option maxRecDepth 100000
set_option maxHeartbeats 4000000
/-! LT1: Document's methods. -/
namespace LM
open PySem PySem.Spec PyProof.Rows L2 DI
def docD (ws ls : List Int) (o p : List D) : D := .ob [.lst (ws.map .int), .lst (ls.map .int), .lst o, .lst p]
def rowN (ws : List Int) (n : Int) : Int := max 1 (cnt ws n)
def rowsOf (ws ls : List Int) : List Int := ls.map (rowN ws)
@[simp] theorem isOb_doc {ws ls : List Int} {o p : List D} {k : List D → Prop} : isOb (docD ws ls o p) k = k [.lst (ws.map .int), .lst (ls.map .int), .lst o, .lst p] := isOb_ob
@[simp] theorem wP_gListL {xs : List D} {Q : D → Prop} : wP (gList [.lst xs]) Q = Q (.lst xs) := wP_some
@[simp] theorem wP_gListT {xs : List D} {Q : D → Prop} : wP (gList [.tup xs]) Q = Q (.lst xs) := wP_some
@[simp] theorem wP_gNeT2 {a b c d : Int} {Q : D → Prop} : wP (gNe [.tup [.int a, .int b], .tup [.int c, .int d]]) Q = Q (.bl (!decide (a = c ∧ b = d))) := by
  exact wP_gNe (k := decide (a = c ∧ b = d)) ((eqD_intsT [a, b] [c, d]).trans (by simp))
@[simp] theorem wP_gEqT2 {a b c d : Int} {Q : D → Prop} : wP (gEq [.tup [.int a, .int b], .tup [.int c, .int d]]) Q = Q (.bl (decide (a = c ∧ b = d))) := by
  exact wP_gEq (k := decide (a = c ∧ b = d)) ((eqD_intsT [a, b] [c, d]).trans (by simp))
def Nn (ls : List Int) : Prop := ∀ n ∈ ls, 0 ≤ n ∧ n ≤ 10 ^ 31
section
variable {Q : D → DI.Env → Prop} {ws ls : List Int} {o p : List D}
end
end LM
set_option Elab.async false
set_option autoImplicit false
set_option linter.all false
set_option maxRecDepth 100000
set_option maxHeartbeats 4000000
/-! LS2: the lengths of pieces, and how often each occurs. -/
namespace LM
open PySem PySem.Spec PyProof.Rows L2 DI
/-! ### how often a length occurs -/
def cwL (L : Int) : List Int → List Int → Int → Int
  | w :: ws, t :: ts, n => n / w * t + cwL L ws ts (n % w)
  | _, _, n => if 0 < n ∧ n = L then 1 else 0
def totsL (L : Int) : List Int → List Int
  | [] => []
  | w :: ws => cwL L ws (totsL L ws) w :: totsL L ws
def cntL (L : Int) (ws : List Int) (n : Int) : Int := cwL L ws (totsL L ws) n
/-! ### which lengths occur -/
def lens : List Int → List Int
  | [] => []
  | w :: ws => colOf ws w :: lens ws
/-- the lengths that pieces have -/
def plens (ws : List Int) : List Int := sortI (dedI ((lens (eff ws)).filter fun x => decide (0 < x)))
section
variable {Q : D → DI.Env → Prop}
def onPairI (f : Int → Int → D) : D → D
  | .tup [.int i, .int v] => f i v
  | _ => .non
def keepP : D → Option D
  | .int v => if v > 0 then some (.int v) else none
  | _ => none
end
end LM
set_option Elab.async false
set_option autoImplicit false
set_option linter.all false
set_option maxRecDepth 100000
set_option maxHeartbeats 4000000
/-! LS3: values compared by _law_same; lengths of pieces as the laws find them. -/
namespace LM
open PySem PySem.Spec PyProof.Rows L2 DI
section
variable {Q : D → DI.Env → Prop}
/-- lists of ints, and lists of them -/
inductive Sm : Nat → D → Prop
  | int (n : Nat) (a : Int) : Sm n (.int a)
  | lst {n : Nat} {ds : List D} : ds.length ≤ 1000000 → (∀ d ∈ ds, Sm n d) → Sm (n + 1) (.lst ds)
end
end LM
set_option Elab.async false
set_option autoImplicit false
set_option linter.all false
set_option maxRecDepth 100000
set_option maxHeartbeats 4000000
/-! LT2: rows of documents; values compared. -/
namespace DI
open PySem PySem.Spec PyProof.Rows L2
section
variable {n1 n2 : String} {f : CE} {e : Env} {Q : D → Env → Prop} {o : Option D}
theorem wE_isi2 : wE (cIsi2 n1 n2 f) e Q = wE f e fun d e1 => wP (isTy2 n1 n2 d) fun r => Q r e1 := by
  unfold wE cIsi2
  rw [wM_bind]
  congr 1; funext d e1
  cases h : isTy2 n1 n2 d with
  | none => rw [wP_none]; exact wM_none
  | some r => rw [wP_some]; exact wM_ok
@[simp] theorem wE_isi2_ : wE (cIsi2 n1 n2 f) (o :: e) Q = wE f (o :: e) fun d e1 => wP (isTy2 n1 n2 d) fun r => Q r e1 := wE_isi2
@[simp] theorem wP_gIsiSl {a : Str} {Q : D → Prop} : wP (gIsi [.str a, .ty "list"]) Q = Q (.bl false) := wP_some
@[simp] theorem wP_gIsiSt {a : Str} {Q : D → Prop} : wP (gIsi [.str a, .ty "tuple"]) Q = Q (.bl false) := wP_some
@[simp] theorem wP_gIsiSb {a : Str} {Q : D → Prop} : wP (gIsi [.str a, .ty "bool"]) Q = Q (.bl false) := wP_some
@[simp] theorem wP_gIsiSi {a : Str} {Q : D → Prop} : wP (gIsi [.str a, .ty "int"]) Q = Q (.bl false) := wP_some
@[simp] theorem wP_gIsiSs {a : Str} {Q : D → Prop} : wP (gIsi [.str a, .ty "str"]) Q = Q (.bl true) := wP_some
@[simp] theorem wP_gIsiTl {a : List D} {Q : D → Prop} : wP (gIsi [.tup a, .ty "list"]) Q = Q (.bl false) := wP_some
@[simp] theorem wP_gIsiTt {a : List D} {Q : D → Prop} : wP (gIsi [.tup a, .ty "tuple"]) Q = Q (.bl true) := wP_some
@[simp] theorem wP_giZAl {a b : List D} {Q : List D → Prop} : wP (giZA [.lst a, .lst b]) Q = Q (zipD a b) := wP_some
@[simp] theorem wP_giZAt {a b : List D} {Q : List D → Prop} : wP (giZA [.tup a, .tup b]) Q = Q (zipD a b) := wP_some
@[simp] theorem wP_gLenT {a : List D} {Q : D → Prop} : wP (gLen [.tup a]) Q = Q (.int a.length) := wP_some
@[simp] theorem wP_gIsSn {a : Str} {Q : D → Prop} : wP (gIs [.str a, .non]) Q = Q (.bl false) := wP_some
@[simp] theorem isTy2_int {a : Int} : isTy2 "list" "tuple" (.int a) = some (.bl false) := rfl
@[simp] theorem isTy2_non : isTy2 "list" "tuple" .non = some (.bl false) := rfl
@[simp] theorem isTy2_str {a : Str} : isTy2 "list" "tuple" (.str a) = some (.bl false) := rfl
@[simp] theorem isTy2_bl {a : Bool} : isTy2 "list" "tuple" (.bl a) = some (.bl false) := rfl
@[simp] theorem isTy2_lst {a : List D} : isTy2 "list" "tuple" (.lst a) = some (.bl true) := rfl
@[simp] theorem isTy2_tup {a : List D} : isTy2 "list" "tuple" (.tup a) = some (.bl true) := rfl
end
end DI
namespace LM
open PySem PySem.Spec PyProof.Rows L2 DI
section
variable {Q : D → DI.Env → Prop} {ws ls : List Int} {o p : List D}
/-- ints, lists and tuples of them -/
inductive Sn : Nat → D → Prop
  | int (n : Nat) (a : Int) : Sn n (.int a)
  | str (n : Nat) (a : Str) : Sn n (.str a)
  | lst {n : Nat} {ds : List D} : ds.length ≤ 1000000 → (∀ d ∈ ds, Sn n d) → Sn (n + 1) (.lst ds)
  | tup {n : Nat} {ds : List D} : ds.length ≤ 1000000 → (∀ d ∈ ds, Sn n d) → Sn (n + 1) (.tup ds)
theorem Sn.mono {n m : Nat} {d : D} (h : Sn n d) (l : n ≤ m) : Sn m d := by
  induction h generalizing m with
  | int n a => exact .int m a
  | str n a => exact .str m a
  | lst hz _ ih => cases m with
    | zero => omega
    | succ m => exact .lst hz fun d hd => ih d hd (by omega)
  | tup hz _ ih => cases m with
    | zero => omega
    | succ m => exact .tup hz fun d hd => ih d hd (by omega)
end
end LM
set_option Elab.async false
set_option autoImplicit false
set_option linter.all false
set_option maxRecDepth 100000
set_option maxHeartbeats 4000000
/-! LT3: texts: numbers written and read. -/
namespace DI
open PySem PySem.Spec PyProof.Rows L2
section
variable {Q : D → Prop} {a b : Str} {f : CE} {e : Env} {QE : D → Env → Prop} {o : Option D} {kvs : List (Str × Int)}
theorem wE_str : wE (cStr f) e QE = wE f e fun d e1 => ∃ s, d = .str s ∧ QE (.str s) e1 := by
  unfold wE cStr
  rw [wM_bind]
  congr 1; funext d e1
  cases d with
  | str s =>
    rw [wM_ok]
    apply propext
    exact ⟨fun h => ⟨s, rfl, h⟩, fun ⟨_, h1, h2⟩ => by cases h1; exact h2⟩
  | _ =>
    rw [wM_none]
    apply propext
    exact ⟨False.elim, fun ⟨_, h1, _⟩ => by cases h1⟩
@[simp] theorem wE_str_ : wE (cStr f) (o :: e) QE = wE f (o :: e) fun d e1 => ∃ s, d = .str s ∧ QE (.str s) e1 := wE_str
@[simp] theorem ex_str {P : Str → Prop} : (∃ s, D.str a = .str s ∧ P s) = P a := by
  apply propext
  exact ⟨fun ⟨_, h1, h2⟩ => by cases h1; exact h2, fun h => ⟨a, rfl, h⟩⟩
@[simp] theorem wP_gLeS : wP (gLeS [.str a, .str b]) Q = Q (.bl (!decide (b.cps.toList < a.cps.toList))) := wP_some
theorem wE_notInK : wE (cNotInK kvs f) e QE = wE f e fun d e1 => ∃ s, d = .str s ∧ wP (look kvs s) fun _ => QE (.bl false) e1 := by
  unfold wE cNotInK
  rw [wM_bind]
  congr 1; funext d e1
  cases d with
  | str s =>
    apply propext
    constructor
    · intro h
      cases hl : look kvs s with
      | none => simp only [hl] at h; rw [wM_none] at h; exact h.elim
      | some i => simp only [hl] at h; rw [wM_ok] at h; exact ⟨s, rfl, i, hl, h⟩
    · rintro ⟨_, h1, i, h2, h3⟩
      cases h1
      simp only [h2]
      rw [wM_ok]; exact h3
  | _ =>
    rw [wM_none]
    apply propext
    exact ⟨False.elim, fun ⟨_, h1, _⟩ => by cases h1⟩
theorem wE_itemK : wE (cItemK kvs f) e QE = wE f e fun d e1 => ∃ s, d = .str s ∧ wP (look kvs s) fun i => QE (.int i) e1 := by
  unfold wE cItemK
  rw [wM_bind]
  congr 1; funext d e1
  cases d with
  | str s =>
    apply propext
    constructor
    · intro h
      cases hl : look kvs s with
      | none => simp only [hl] at h; rw [wM_none] at h; exact h.elim
      | some i => simp only [hl] at h; rw [wM_ok] at h; exact ⟨s, rfl, i, hl, h⟩
    · rintro ⟨_, h1, i, h2, h3⟩
      cases h1
      simp only [h2]
      rw [wM_ok]; exact h3
  | _ =>
    rw [wM_none]
    apply propext
    exact ⟨False.elim, fun ⟨_, h1, _⟩ => by cases h1⟩
@[simp] theorem wE_notInK_ : wE (cNotInK kvs f) (o :: e) QE = wE f (o :: e) fun d e1 => ∃ s, d = .str s ∧ wP (look kvs s) fun _ => QE (.bl false) e1 := wE_notInK
@[simp] theorem wE_itemK_ : wE (cItemK kvs f) (o :: e) QE = wE f (o :: e) fun d e1 => ∃ s, d = .str s ∧ wP (look kvs s) fun i => QE (.int i) e1 := wE_itemK
@[simp] theorem wP_giS {Q : List D → Prop} : wP (giS [.str a]) Q = Q (charsD a) := wP_some
end
end DI
namespace LM
open PySem PySem.Spec PyProof.Rows L2 DI TL
def nS (i : Int) : Str := Str.ofString (toString i)
section
variable {Q : D → DI.Env → Prop}
/-! ### lists of numbers -/
def fmtL (y : Str) (ws : List Int) : Str := Txt.join y (ws.map nS)
/-- a list of widths, written -/
def fmtW (ws : List Int) : Str := if ws = [] then "-" else fmtL "," ws
/-! ### pieces, written -/
end
end LM
set_option Elab.async false
set_option autoImplicit false
set_option linter.all false
set_option maxRecDepth 100000
set_option maxHeartbeats 4000000
/-! LT4: Console. -/
namespace DI
open PySem PySem.Spec PyProof.Rows L2
section
variable {Q : D → Prop} {a b : Str}
@[simp] theorem wP_look {kvs : List (Str × Int)} {i : Int} {R : Int → Prop} (h : look kvs a = some i) : wP (look kvs a) R = R i := by rw [h]; exact wP_some
theorem pys_strs : ∀ ns : List Str, D.pys (ns.map D.str) = some (ns.map PyData.str)
  | [] => rfl
  | n :: ns => by
    show (match (D.str n).py, D.pys (ns.map D.str) with
      | some p, some ps => some (p :: ps)
      | _, _ => none) = _
    rw [pys_strs ns]; rfl
theorem canLay_strs : ∀ {ns : List Str}, (∀ s ∈ ns, PyData.strOk s = true) → PyData.canLayAll0 (ns.map PyData.str) = true
  | [], _ => by unfold PyData.canLayAll0; rfl
  | n :: ns, h => by rw [List.map_cons]; unfold PyData.canLayAll0; rw [canLay_strs fun s hs => h s (List.mem_cons_of_mem _ hs)]; simp [PyData.canLay0]; exact h n List.mem_cons_self
theorem depth_strs : ∀ ns : List Str, PyData.depthAll (ns.map PyData.str) = 0
  | [] => by unfold PyData.depthAll; rfl
  | n :: ns => by rw [List.map_cons]; unfold PyData.depthAll; rw [depth_strs ns]; simp [PyData.depth]
theorem shaped_strs {ns : List Str} (h : ∀ s ∈ ns, PyData.strOk s = true) : SeqAt.shaped (.list (ns.map PyData.str)) = true := by
  unfold SeqAt.shaped PyData.canLay0 PyData.depth
  rw [canLay_strs h, depth_strs]; rfl
theorem eqv_strs : ∀ ns ms : List Str, PyData.eqvAll (ns.map PyData.str) (ms.map PyData.str) = decide (ns = ms)
  | [], [] => by unfold PyData.eqvAll; rfl
  | [], m :: ms => by rw [List.map_cons, List.map_nil]; unfold PyData.eqvAll; simp
  | n :: ns, [] => by rw [List.map_cons, List.map_nil]; unfold PyData.eqvAll; simp
  | n :: ns, m :: ms => by
    rw [List.map_cons, List.map_cons]; unfold PyData.eqvAll
    rw [eqv_strs ns ms]
    unfold PyData.eqv
    rw [Bool.eq_iff_iff]
    simp
theorem eqD_strs {ns ms : List Str} (h1 : ∀ s ∈ ns, PyData.strOk s = true) (h2 : ∀ s ∈ ms, PyData.strOk s = true) : eqD (.lst (ns.map .str)) (.lst (ms.map .str)) = some (decide (ns = ms)) := by
  show eqP _ _ = _
  unfold eqP D.py
  rw [pys_strs, pys_strs]
  show (if SeqAt.shaped (.list (ns.map PyData.str)) = true ∧ SeqAt.shaped (.list (ms.map PyData.str)) = true then some (PyData.eqv (.list (ns.map PyData.str)) (.list (ms.map PyData.str))) else none) = _
  rw [if_pos ⟨shaped_strs h1, shaped_strs h2⟩]
  unfold PyData.eqv
  rw [eqv_strs]
theorem wP_inT {ds : List D} {k : Bool} (h : gInT [.str a, .tup ds] = some (.bl k)) : wP (gInT [.str a, .tup ds]) Q = Q (.bl k) := by rw [h]; exact wP_some
@[simp] theorem ne_show_compare : decide (Str.ofString "show" = Str.ofString "compare") = false := by decide +kernel
@[simp] theorem ne_show_widths : decide (Str.ofString "show" = Str.ofString "widths") = false := by decide +kernel
@[simp] theorem ne_show_read : decide (Str.ofString "show" = Str.ofString "read") = false := by decide +kernel
@[simp] theorem ne_show_normal : decide (Str.ofString "show" = Str.ofString "normal") = false := by decide +kernel
@[simp] theorem ne_show_column : decide (Str.ofString "show" = Str.ofString "column") = false := by decide +kernel
@[simp] theorem ne_show_count : decide (Str.ofString "show" = Str.ofString "count") = false := by decide +kernel
@[simp] theorem ne_normal_compare : decide (Str.ofString "normal" = Str.ofString "compare") = false := by decide +kernel
@[simp] theorem ne_normal_widths : decide (Str.ofString "normal" = Str.ofString "widths") = false := by decide +kernel
@[simp] theorem ne_normal_read : decide (Str.ofString "normal" = Str.ofString "read") = false := by decide +kernel
@[simp] theorem ne_normal_column : decide (Str.ofString "normal" = Str.ofString "column") = false := by decide +kernel
@[simp] theorem ne_normal_count : decide (Str.ofString "normal" = Str.ofString "count") = false := by decide +kernel
@[simp] theorem ne_widths_compare : decide (Str.ofString "widths" = Str.ofString "compare") = false := by decide +kernel
@[simp] theorem ne_widths_read : decide (Str.ofString "widths" = Str.ofString "read") = false := by decide +kernel
@[simp] theorem ne_widths_normal : decide (Str.ofString "widths" = Str.ofString "normal") = false := by decide +kernel
@[simp] theorem ne_widths_column : decide (Str.ofString "widths" = Str.ofString "column") = false := by decide +kernel
@[simp] theorem ne_widths_count : decide (Str.ofString "widths" = Str.ofString "count") = false := by decide +kernel
@[simp] theorem ne_column_compare : decide (Str.ofString "column" = Str.ofString "compare") = false := by decide +kernel
@[simp] theorem ne_column_widths : decide (Str.ofString "column" = Str.ofString "widths") = false := by decide +kernel
@[simp] theorem ne_column_read : decide (Str.ofString "column" = Str.ofString "read") = false := by decide +kernel
@[simp] theorem ne_column_normal : decide (Str.ofString "column" = Str.ofString "normal") = false := by decide +kernel
@[simp] theorem ne_column_count : decide (Str.ofString "column" = Str.ofString "count") = false := by decide +kernel
@[simp] theorem ne_count_compare : decide (Str.ofString "count" = Str.ofString "compare") = false := by decide +kernel
@[simp] theorem ne_count_widths : decide (Str.ofString "count" = Str.ofString "widths") = false := by decide +kernel
@[simp] theorem ne_count_read : decide (Str.ofString "count" = Str.ofString "read") = false := by decide +kernel
@[simp] theorem ne_count_normal : decide (Str.ofString "count" = Str.ofString "normal") = false := by decide +kernel
@[simp] theorem ne_count_column : decide (Str.ofString "count" = Str.ofString "column") = false := by decide +kernel
@[simp] theorem ne_break_compare : decide (Str.ofString "break" = Str.ofString "compare") = false := by decide +kernel
@[simp] theorem ne_break_widths : decide (Str.ofString "break" = Str.ofString "widths") = false := by decide +kernel
@[simp] theorem ne_break_read : decide (Str.ofString "break" = Str.ofString "read") = false := by decide +kernel
@[simp] theorem ne_break_normal : decide (Str.ofString "break" = Str.ofString "normal") = false := by decide +kernel
@[simp] theorem ne_break_column : decide (Str.ofString "break" = Str.ofString "column") = false := by decide +kernel
@[simp] theorem ne_break_count : decide (Str.ofString "break" = Str.ofString "count") = false := by decide +kernel
@[simp] theorem ne_compare_widths : decide (Str.ofString "compare" = Str.ofString "widths") = false := by decide +kernel
@[simp] theorem ne_compare_read : decide (Str.ofString "compare" = Str.ofString "read") = false := by decide +kernel
@[simp] theorem ne_compare_normal : decide (Str.ofString "compare" = Str.ofString "normal") = false := by decide +kernel
@[simp] theorem ne_compare_column : decide (Str.ofString "compare" = Str.ofString "column") = false := by decide +kernel
@[simp] theorem ne_compare_count : decide (Str.ofString "compare" = Str.ofString "count") = false := by decide +kernel
@[simp] theorem ne_read_compare : decide (Str.ofString "read" = Str.ofString "compare") = false := by decide +kernel
@[simp] theorem ne_read_widths : decide (Str.ofString "read" = Str.ofString "widths") = false := by decide +kernel
@[simp] theorem ne_read_normal : decide (Str.ofString "read" = Str.ofString "normal") = false := by decide +kernel
@[simp] theorem ne_read_column : decide (Str.ofString "read" = Str.ofString "column") = false := by decide +kernel
@[simp] theorem ne_read_count : decide (Str.ofString "read" = Str.ofString "count") = false := by decide +kernel
@[simp] theorem look_show {R : Int → Prop} : wP (look kv_WORD_COUNTS (Str.ofString "show")) R = R 1 := wP_look (by decide +kernel)
@[simp] theorem look_normal {R : Int → Prop} : wP (look kv_WORD_COUNTS (Str.ofString "normal")) R = R 1 := wP_look (by decide +kernel)
@[simp] theorem look_widths {R : Int → Prop} : wP (look kv_WORD_COUNTS (Str.ofString "widths")) R = R 2 := wP_look (by decide +kernel)
@[simp] theorem look_column {R : Int → Prop} : wP (look kv_WORD_COUNTS (Str.ofString "column")) R = R 2 := wP_look (by decide +kernel)
@[simp] theorem look_count {R : Int → Prop} : wP (look kv_WORD_COUNTS (Str.ofString "count")) R = R 2 := wP_look (by decide +kernel)
@[simp] theorem look_break {R : Int → Prop} : wP (look kv_WORD_COUNTS (Str.ofString "break")) R = R 2 := wP_look (by decide +kernel)
@[simp] theorem look_compare {R : Int → Prop} : wP (look kv_WORD_COUNTS (Str.ofString "compare")) R = R 2 := wP_look (by decide +kernel)
@[simp] theorem look_read {R : Int → Prop} : wP (look kv_WORD_COUNTS (Str.ofString "read")) R = R 2 := wP_look (by decide +kernel)
@[simp] theorem num_show {R : D → Prop} : wP (gInT [D.str (Str.ofString "show"), D.tup [D.str (Str.ofString "column"), D.str (Str.ofString "count"), D.str (Str.ofString "break")]]) R = R (.bl false) := wP_inT (by rfl)
@[simp] theorem num_normal {R : D → Prop} : wP (gInT [D.str (Str.ofString "normal"), D.tup [D.str (Str.ofString "column"), D.str (Str.ofString "count"), D.str (Str.ofString "break")]]) R = R (.bl false) := wP_inT (by rfl)
@[simp] theorem num_widths {R : D → Prop} : wP (gInT [D.str (Str.ofString "widths"), D.tup [D.str (Str.ofString "column"), D.str (Str.ofString "count"), D.str (Str.ofString "break")]]) R = R (.bl false) := wP_inT (by rfl)
@[simp] theorem num_column {R : D → Prop} : wP (gInT [D.str (Str.ofString "column"), D.tup [D.str (Str.ofString "column"), D.str (Str.ofString "count"), D.str (Str.ofString "break")]]) R = R (.bl true) := wP_inT (by rfl)
@[simp] theorem num_count {R : D → Prop} : wP (gInT [D.str (Str.ofString "count"), D.tup [D.str (Str.ofString "column"), D.str (Str.ofString "count"), D.str (Str.ofString "break")]]) R = R (.bl true) := wP_inT (by rfl)
@[simp] theorem num_break {R : D → Prop} : wP (gInT [D.str (Str.ofString "break"), D.tup [D.str (Str.ofString "column"), D.str (Str.ofString "count"), D.str (Str.ofString "break")]]) R = R (.bl true) := wP_inT (by rfl)
@[simp] theorem num_compare {R : D → Prop} : wP (gInT [D.str (Str.ofString "compare"), D.tup [D.str (Str.ofString "column"), D.str (Str.ofString "count"), D.str (Str.ofString "break")]]) R = R (.bl false) := wP_inT (by rfl)
@[simp] theorem num_read {R : D → Prop} : wP (gInT [D.str (Str.ofString "read"), D.tup [D.str (Str.ofString "column"), D.str (Str.ofString "count"), D.str (Str.ofString "break")]]) R = R (.bl false) := wP_inT (by rfl)
end
end DI
namespace LM
open PySem PySem.Spec PyProof.Rows L2 DI TL
def conD (ws : List Int) : D := .ob [.lst (ws.map .int)]
@[simp] theorem isOb_con {ws : List Int} {k : List D → Prop} : isOb (conD ws) k = k [.lst (ws.map .int)] := isOb_ob
section
variable {Q : D → DI.Env → Prop} {ws : List Int}
def difS (us vs : List Int) : Str := match dif us vs with
  | none => Str.ofString "equal"
  | some p => nS p
end
end LM
set_option Elab.async false
set_option autoImplicit false
set_option linter.all false
set_option maxRecDepth 100000
set_option maxHeartbeats 4000000
/-! LU1: helpers of the laws over consoles. -/
namespace LM
open PySem PySem.Spec PyProof.Rows L2 DI TL
section
variable {Q : D → DI.Env → Prop} {ws ls : List Int} {o p : List D}
end
section
variable {Q : D → DI.Env → Prop}
@[simp] theorem wP_gEq00 {R : D → Prop} : wP (gEq [.lst [], .lst []]) R = R (.bl true) := wP_gEq (by decide +kernel)
@[simp] theorem wP_gNe00 {R : D → Prop} : wP (gNe [.lst [], .lst []]) R = R (.bl false) := wP_gNe (k := true) (by decide +kernel)
theorem pick_d {xs : List D} {r : Int} {R : D → Prop} (h0 : 0 ≤ r) (h1 : r < xs.length) (q : ∀ v, v ∈ xs → R v) : wP (atI xs r) R := by
  rw [wP_at h0]
  exact wP_get (fun d hd => q d (List.mem_of_getElem? hd)) (by omega)
def rg1 (lo : Int) (n : Nat) : List Int := (List.range n).map fun (i : Nat) => lo + (i : Int)
end
end LM
set_option Elab.async false
set_option autoImplicit false
set_option linter.all false
set_option maxRecDepth 100000
set_option maxHeartbeats 4000000
/-! LU2: the hand of k67..k71; lines that grow. -/
namespace LM
open PySem PySem.Spec PyProof.Rows L2 DI TL
def HD (x : D) : Prop := ∃ (ns : List Int) (p r s t : Int), x = .lst [.lst (ns.map .int), .int p, .int r, .int s, .int t] ∧ 0 ≤ p
section
variable {Q : D → DI.Env → Prop}
@[simp] theorem wP_gListS {ns : List Int} {R : D → Prop} : wP (gList [.scr ns]) R = R (.lst (ns.map .int)) := wP_some
@[simp] theorem atI_4 {x y z w v : D} {xs : List D} : atI (x :: y :: z :: w :: v :: xs) 4 = some v := by have := atI_nat (xs := x :: y :: z :: w :: v :: xs) (k := 4); simpa using this
@[simp] theorem ixN_3 {n : Nat} : ixN (n + 4) 3 = some 3 := by have := ixN_nat (n := n + 4) (k := 3) (by omega); simpa using this
@[simp] theorem ixN_4 {n : Nat} : ixN (n + 5) 4 = some 4 := by have := ixN_nat (n := n + 5) (k := 4) (by omega); simpa using this
end
end LM
set_option Elab.async false
set_option autoImplicit false
set_option linter.all false
set_option maxRecDepth 100000
set_option maxHeartbeats 4000000
/-! LU3: overlaps, periods up to a length. -/
namespace LM
open PySem PySem.Spec PyProof.Rows L2 DI
def OvS (f : Nat → Int) (s : Nat) : Option Nat → Prop
  | none => ∀ x, f (s + x) = f x
  | some t => (∀ x, x < t → f (s + x) = f x) ∧ f (s + t) ≠ f t
section
variable {Q : D → DI.Env → Prop} {ws : List Int}
end
end LM
set_option Elab.async false
set_option autoImplicit false
set_option linter.all false
set_option maxRecDepth 100000
set_option maxHeartbeats 4000000
/-! LU4: documents compared, undone; are_equal_to. -/
namespace LM
open PySem PySem.Spec PyProof.Rows L2 DI
section
variable {Q : D → DI.Env → Prop} {ws ls us ms : List Int} {o p o' p' : List D}
def okP (k : Nat) (d : D) : Prop := ∃ q, d.py = some q ∧ q.canLay0 = true ∧ q.depth ≤ k
end
end LM
set_option Elab.async false
set_option autoImplicit false
set_option linter.all false
set_option maxRecDepth 100000
set_option maxHeartbeats 4000000
/-! LU5: documents whose widths change; what they tell. -/
namespace LM
open PySem PySem.Spec PyProof.Rows L2 DI
section
variable {Q : D → DI.Env → Prop} {ws ls us ms : List Int} {o p o' p' : List D}
/-- what locate tells of the row r -/
def locF (ws : List Int) : List Int → Int → Nat × Int
  | [], _ => (0, 0)
  | n :: ls, r => if r < rowN ws n then (0, br ws r) else ((locF ws ls (r - rowN ws n)).1 + 1, (locF ws ls (r - rowN ws n)).2)
end
end LM
set_option Elab.async false
set_option autoImplicit false
set_option linter.all false
set_option maxRecDepth 100000
set_option maxHeartbeats 4000000
/-! LU6: what is no list of widths, no integer. -/
namespace LM
open PySem PySem.Spec PyProof.Rows L2 DI
def isIn (lo hi : Int) : D → Bool
  | .int v => decide (lo ≤ v) && decide (v ≤ hi)
  | _ => false
def isWs : D → Bool
  | .lst xs => xs.all (isIn 1 10000)
  | _ => false
def Ty (d : D) : Prop := d.tyName.isSome = true
theorem Ty.of_sm2 {d : D} (h : d.sm2) : Ty d := by
  cases d <;> first | rfl | (unfold D.sm2 at h; exact h.elim)
section
variable {Q : D → DI.Env → Prop}
theorem is_integer_any {d : D} {lo hi : Int} (h : Ty d) : wF F_is_integer [d, .int lo, .int hi] Q = Q (.bl (isIn lo hi d)) [none, none, none] := by
  cases d with
  | int v => exact is_integer_int
  | non => unfold F_is_integer m_is_integer; simp [isIn]
  | bl b => unfold F_is_integer m_is_integer; simp [isIn]
  | str b => unfold F_is_integer m_is_integer; simp [isIn]
  | lst b => unfold F_is_integer m_is_integer; simp [isIn]
  | tup b => unfold F_is_integer m_is_integer; simp [isIn]
  | dic a b => unfold F_is_integer m_is_integer; simp [isIn]
  | scr b => unfold F_is_integer m_is_integer; simp [isIn]
  | _ => cases h
theorem is_width_any {d : D} (h : Ty d) : wF F_is_width [d] Q = Q (.bl (isIn 1 10000 d)) [none] := by
  unfold F_is_width m_is_width
  simp [is_integer_any h]
theorem is_widths_any {d : D} (ht : Ty d) (hs : ∀ ns, d ≠ .scr ns) (h : ∀ xs, d = .lst xs → xs.length ≤ 16777216 ∧ ∀ x ∈ xs, Ty x) (q : Q (.bl (isWs d)) [none]) : wF F_is_widths [d] Q := by
  unfold F_is_widths m_is_widths
  cases d with
  | lst xs =>
    obtain ⟨hz, hx⟩ := h xs rfl
    simp
    refine lc_map (fun x => .bl (isIn 1 10000 x)) (fun d hd => ?_) fun e2 he => ?_
    · simp [is_width_any (hx d hd)]
    · simp [he]
      refine ⟨by omega, ?_⟩
      have e : xs.map (fun x => D.bl (isIn 1 10000 x)) = (xs.map (isIn 1 10000)).map D.bl := by rw [List.map_map]; rfl
      rw [e, wP_gAll]
      simp [List.all_map]
      exact q
  | non => simp; exact q
  | bl b => simp; exact q
  | int b => simp; exact q
  | str b => simp; exact q
  | tup b => simp; exact q
  | dic a b => simp; exact q
  | scr b => exact absurd rfl (hs b)
  | _ => cases ht
end
end LM
set_option Elab.async false
set_option autoImplicit false
set_option linter.all false
set_option maxRecDepth 100000
set_option maxHeartbeats 400000
/-! LU7: defs whose requirements raise. -/
namespace LM
open PySem PySem.Spec PyProof.Rows L2 DI
section
variable {Q : D → DI.Env → Prop} {E : Exn → DI.Env → Prop} {ws ls : List Int}
theorem require_widths2_ok {ws : List Int} (hz : ws.length ≤ 1000000) (h : Wd ws) (q : Q .non [none]) : wF F_require_widths_v2 [.lst (ws.map .int)] Q := by
  unfold F_require_widths_v2 m_require_widths_v2
  simp
  refine is_widths_ints (by simp; omega) ?_
  have : (ws.all fun v => decide (1 ≤ v) && decide (v ≤ 10000)) = true := by
    rw [List.all_eq_true]
    intro v hv
    have := h v hv
    simp [this]
  rw [this]
  simpa using q
/-- the list without the entry at i, with one more there, with two neighbours exchanged -/
theorem require_length2_ok {p lo hi : Int} (h0 : lo ≤ p) (h1 : p ≤ hi) (q : Q .non [none, none, none]) : wF F_require_length_v2 [.int p, .int lo, .int hi] Q := by
  unfold F_require_length_v2 m_require_length_v2
  simp [is_integer_int, h0, h1]
  exact q
/-! ### columns -/
end
section
variable {Q : D → DI.Env → Prop} {E : Exn → DI.Env → Prop} {ws : List Int}
/-- data that is_widths can be asked of -/
def Wt (d : D) : Prop := Ty d ∧ (∀ ns, d ≠ .scr ns) ∧ ∀ xs, d = .lst xs → xs.length ≤ 16777216 ∧ ∀ x ∈ xs, Ty x
theorem require_widths_bad {d : D} (h : Wt d) (hw : isWs d = false) (q : E ⟨"InvalidWidths", []⟩ [none]) : wX (F_require_widths_v2 [d]) Q E := by
  unfold F_require_widths_v2 m_require_widths_v2
  refine wXF_run (wXs_if ?_)
  simp
  refine is_widths_any h.1 h.2.1 h.2.2 ?_
  rw [hw]
  simp
  refine wXs_raise ?_
  exact q
theorem require_length_bad {d : D} {lo hi : Int} (h : Ty d) (hn : isIn lo hi d = false) (q : E ⟨"InvalidLength", []⟩ [none, none, none]) : wX (F_require_length_v2 [d, .int lo, .int hi]) Q E := by
  unfold F_require_length_v2 m_require_length_v2
  refine wXF_run (wXs_if ?_)
  simp
  rw [is_integer_any h, hn]
  simp
  refine wXs_raise ?_
  exact q
theorem wXs_drop {P : Fl → DI.Env → Prop} {f : CE} {e : DI.Env} (h : wX (f e) (fun _ e1 => P .nx e1) E) : wX (cDrop f e) P E := by
  unfold cDrop
  exact wX_bind (wX_imp h (fun d e1 h => wX_ok h) fun _ _ h => h)
section
variable {d a b : D}
end
end
end LM
set_option Elab.async false
set_option autoImplicit false
set_option linter.all false
set_option maxRecDepth 100000
set_option maxHeartbeats 2000000
/-! LW1: values that are no widths (k30, k36); what a def called gives, by classes. -/
namespace LW
open PySem PySem.Spec PyProof.Rows L2 DI LM
section
variable {Q : D → DI.Env → Prop}
def EnW (x : D) : Prop := x.sm2 ∧ x.dp ≤ 5 ∧ x.wt ≤ 5000
theorem wts_le {B : Nat} : ∀ {xs : List D}, (∀ x ∈ xs, x.wt ≤ B) → D.wts xs ≤ (B + 2) * xs.length
  | [], _ => by unfold D.wts; omega
  | x :: xs, h => by
    unfold D.wts
    have h1 := h x List.mem_cons_self
    have h2 := wts_le (xs := xs) fun y hy => h y (List.mem_cons_of_mem _ hy)
    rw [List.length_cons, Nat.mul_add, Nat.mul_one]
    omega
theorem dps_le {B : Nat} : ∀ {xs : List D}, (∀ x ∈ xs, x.dp ≤ B) → D.dps xs ≤ B
  | [], _ => by unfold D.dps; omega
  | x :: xs, h => by
    unfold D.dps
    have h1 := h x List.mem_cons_self
    have h2 := dps_le (xs := xs) fun y hy => h y (List.mem_cons_of_mem _ hy)
    omega
/-- small entries -/
def SmW (x : D) : Prop := x.sm2 ∧ x.dp ≤ 1 ∧ x.wt ≤ 110
theorem sm_int {v : Int} (h : -10 ^ 50 ≤ v ∧ v ≤ 10 ^ 50) : SmW (.int v) := ⟨by rw [sm2_int]; omega, by unfold D.dp; omega, by unfold D.wt; omega⟩
theorem SmW.en {x : D} (h : SmW x) : EnW x := ⟨h.1, by have := h.2.1; omega, by have := h.2.2; omega⟩
theorem en_lst {xs : List D} (hl : xs.length ≤ 10) (h : ∀ x ∈ xs, SmW x) : EnW (.lst xs) ∧ EnW (.tup xs) := by
  have h1 := wts_le (B := 110) fun x hm => (h x hm).2.2
  have h2 := dps_le (B := 1) fun x hm => (h x hm).2.1
  have h3 : D.sms2 xs := sms2_iff.mpr fun x hm => (h x hm).1
  have h4 : (110 + 2) * xs.length ≤ 112 * 10 := Nat.mul_le_mul_left _ hl
  exact ⟨⟨by rw [sm2_lst]; exact h3, by unfold D.dp; omega, by unfold D.wt; omega⟩, ⟨by rw [sm2_tup]; exact h3, by unfold D.dp; omega, by unfold D.wt; omega⟩⟩
theorem sm_bl {b : Bool} : SmW (.bl b) := ⟨sm2_bl.symm ▸ trivial, by unfold D.dp; omega, by unfold D.wt; omega⟩
theorem sm_non : SmW .non := ⟨sm2_non.symm ▸ trivial, by unfold D.dp; omega, by unfold D.wt; omega⟩
theorem sm_dic : SmW (.dic [] []) := ⟨sm2_dic.symm ▸ trivial, by unfold D.dp; omega, by unfold D.wt; omega⟩
theorem sm_str {x : String} (h : ∀ c ∈ (Str.ofString x).cps.toList, c < 16 ^ 8) (h2 : (Str.ofString x).length ≤ 2) : SmW (.str x) := ⟨by rw [sm2_str]; exact h, by unfold D.dp; omega, by unfold D.wt; omega⟩
theorem sm_l3 : SmW (.lst [.int 3]) := ⟨by rw [sm2_lst, sms2_iff]; intro x hx; simp at hx; subst hx; rw [sm2_int]; omega, by decide +kernel, by decide +kernel⟩
theorem sm_t3 : SmW (.tup [.int 3]) := ⟨by rw [sm2_tup, sms2_iff]; intro x hx; simp at hx; subst hx; rw [sm2_int]; omega, by decide +kernel, by decide +kernel⟩
theorem wP_gTupleL {ds : List D} {R : D → Prop} : wP (gTuple [.lst ds]) R = R (.tup ds) := wP_some
def NoWs (d : D) : Prop := Wt d ∧ isWs d = false ∧ EnW d
theorem noWs_of {d : D} (h1 : EnW d) (h2 : isWs d = false) (h3 : ∀ xs, d = .lst xs → xs.length ≤ 16777216 ∧ ∀ x ∈ xs, Ty x) : NoWs d :=
  ⟨⟨Ty.of_sm2 h1.1, fun ns e => by subst e; have := h1.1; unfold D.sm2 at this; exact this, h3⟩, h2, h1⟩
theorem smW_ws {ws : List Int} (hw : Wd ws) : ∀ x ∈ ws.map D.int, SmW x := fun x hx => by
  obtain ⟨v, hv, rfl⟩ := List.mem_map.mp hx
  have := hw v hv
  exact sm_int (by omega)
theorem put_bad {xs ys : List D} {x : D} (h : SmW x) (hn : isIn 1 10000 x = false) (hx : ∀ z ∈ xs, SmW z) (hy : ∀ z ∈ ys, SmW z) (hl : xs.length + ys.length ≤ 9) : NoWs (.lst (xs ++ x :: ys)) := by
  have hA : ∀ z ∈ xs ++ x :: ys, SmW z := fun z hz => by
    rcases List.mem_append.mp hz with h1 | h1
    · exact hx z h1
    · rcases List.mem_cons.mp h1 with rfl | h1
      · exact h
      · exact hy z h1
  refine noWs_of (en_lst (by simp; omega) hA).1 ?_ fun xs e => ?_
  · show List.all _ _ = false
    rw [List.all_eq_false]
    exact ⟨x, by simp, by rw [hn]; simp⟩
  · cases e
    exact ⟨by simp; omega, fun z hz => Ty.of_sm2 (hA z hz).1⟩
theorem no_widths_ok {c : Nat} {x : D} {ws : List Int} (hx : PR c x) (hc : c < 2 ^ 50) (hl : ws.length ≤ 9) (hw : Wd ws) (q : ∀ y d, PR (c + 10) y → NoWs d → Q d [some y, none]) : wF F__law_no_widths [x, .lst (ws.map .int)] Q := by
  have hS := smW_ws hw
  unfold F__law_no_widths m__law_no_widths
  simp
  refine take_ok hx (by omega) (by omega) (by omega) fun a y a0 a1 hy => ?_
  simp
  refine pick_d a0 (by simp only [List.length_cons, List.length_nil]; omega) fun o ho => ?_
  have hO : SmW o ∧ isIn 1 10000 o = false := by
    simp only [List.mem_cons, List.not_mem_nil, or_false] at ho
    rcases ho with rfl | rfl | rfl | rfl | rfl | rfl | rfl | rfl | rfl | rfl
    · exact ⟨sm_int (by omega), by decide⟩
    · exact ⟨sm_int (by omega), by decide⟩
    · exact ⟨sm_int (by omega), by decide⟩
    · exact ⟨sm_int (by omega), by decide⟩
    · exact ⟨sm_bl, rfl⟩
    · exact ⟨sm_bl, rfl⟩
    · exact ⟨sm_non, rfl⟩
    · exact ⟨sm_str (by decide +kernel) (by decide +kernel), rfl⟩
    · exact ⟨sm_l3, rfl⟩
    · exact ⟨sm_t3, rfl⟩
  refine take_ok hy (by omega) (by omega) (by omega) fun s y s0 s1 hy => ?_
  obtain ⟨n, rfl⟩ : ∃ n : Nat, s = n := ⟨s.toNat, by omega⟩
  simp [-List.map_take, -List.map_drop]
  simp only [cutL_hi0, cutL_lo0]
  have l1 : (ws.take n).length ≤ ws.length := by rw [List.length_take]; omega
  have l2 : (ws.take n).length + (ws.drop n).length = ws.length := by rw [List.length_take, List.length_drop]; omega
  refine ⟨by omega, by omega, by omega, ?_⟩
  rw [wP_gTupleL]
  refine take_ok hy (by omega) (by omega) (by omega) fun u y u0 u1 hy => ?_
  simp [-List.map_take, -List.map_drop]
  refine pick_d u0 (by simp only [List.length_cons, List.length_nil]; omega) fun d hd => ?_
  refine q y d (hy.mono (by omega)) ?_
  have hT : ∀ z ∈ (ws.take n).map D.int, SmW z := fun z hz => by
    obtain ⟨v, hv, rfl⟩ := List.mem_map.mp hz
    exact hS _ (List.mem_map.mpr ⟨v, List.mem_of_mem_take hv, rfl⟩)
  have hD : ∀ z ∈ (ws.drop n).map D.int, SmW z := fun z hz => by
    obtain ⟨v, hv, rfl⟩ := List.mem_map.mp hz
    exact hS _ (List.mem_map.mpr ⟨v, List.mem_of_mem_drop hv, rfl⟩)
  have nl : ∀ x, SmW x → isWs x = false → (∀ xs, x ≠ .lst xs) → NoWs x := fun x h1 h2 h3 => noWs_of h1.en h2 fun xs e => absurd e (h3 xs)
  simp only [List.mem_cons, List.not_mem_nil, or_false] at hd
  rcases hd with rfl | rfl | rfl | rfl | rfl | rfl | rfl | rfl | rfl | rfl
  · exact put_bad hO.1 hO.2 hT hD (by simp; omega)
  · exact put_bad (xs := []) hO.1 hO.2 (fun z hz => by cases hz) hS (by simp; omega)
  · exact put_bad (xs := []) (ys := []) hO.1 hO.2 (fun z hz => by cases hz) (fun z hz => by cases hz) (by simp)
  · exact noWs_of (en_lst (by simp; omega) hS).2 rfl (by intro xs e; cases e)
  · exact nl _ sm_non rfl (by intro xs e; cases e)
  · exact nl _ (sm_str (by decide +kernel) (by decide +kernel)) rfl (by intro xs e; cases e)
  · exact nl _ (sm_int (by omega)) rfl (by intro xs e; cases e)
  · exact nl _ sm_dic rfl (by intro xs e; cases e)
  · exact nl _ (sm_str (by decide +kernel) (by decide +kernel)) rfl (by intro xs e; cases e)
  · have h1 := wts_le (B := 110) fun x hm => (hS x hm).2.2
    have h2 := dps_le (B := 1) fun x hm => (hS x hm).2.1
    have h3 : D.sms2 (ws.map .int) := sms2_iff.mpr fun x hm => (hS x hm).1
    have h4 : (110 + 2) * (ws.map D.int).length ≤ 112 * 9 := Nat.mul_le_mul_left _ (by simp; omega)
    refine noWs_of ⟨by rw [sm2_tup, sms2_iff]; intro x hx; rw [List.mem_singleton.mp hx, sm2_lst]; exact h3, ?_, ?_⟩ rfl fun xs e => by cases e
    · simp only [D.dp, D.dps]; omega
    · simp only [D.wt, D.wts]; omega
end
end LW
set_option Elab.async false
set_option autoImplicit false
set_option linter.all false
set_option maxRecDepth 100000
set_option maxHeartbeats 2000000
namespace K30
open PySem PySem.Spec PyProof.Rows L2 DI LM LW
section
variable {Q : D → DI.Env → Prop} {E : Exn → DI.Env → Prop} {ws us vs : List Int} {d a b : D}
theorem normal_form2_ok {ws : List Int} (hz : ws.length ≤ 1000000) (hw : Wd ws) (q : Q (.lst ((nf ws).map .int)) [none]) : wF F_normal_form_v2 [.lst (ws.map .int)] Q := by
  unfold F_normal_form_v2 m_normal_form_v2
  simp
  refine require_widths2_ok hz hw ?_
  simp
  refine effective_of_ok hz ?_
  simp
  refine normal_of_ok (eff_wd hw) ?_
  rw [nf_eff hw.pos]
  simpa using q
theorem descent2_ok {ws : List Int} (hz : ws.length ≤ 1000000) (hw : Wd ws) {n : Nat} (hn : 1 ≤ n) (hn2 : n ≤ 10 ^ 30) (q : Q (.lst ((toI (desc (fcol ws) n)).map .int)) [none, none]) : wF F_descent_v2 [.lst (ws.map .int), .int n] Q := by
  unfold F_descent_v2 m_descent_v2
  simp
  refine require_widths2_ok hz hw ?_
  simp
  refine require_length2_ok (by omega) (by omega) ?_
  simp
  refine effective_of_ok hz ?_
  simp
  refine descent_to_ok (eff_wd hw) hn ?_
  rw [fcol_eff hw.pos]
  exact q
theorem are_equal_to2_ok {n : Int} (hu : Wd us) (hv : Wd vs) (hz1 : us.length ≤ 1000000) (hz2 : vs.length ≤ 1000000) (h0 : 0 ≤ n) (h1 : n ≤ 10 ^ 30) (q : ∀ b, Q (.bl b) [none, none, none]) : wF F_are_equal_to_v2 [.lst (us.map .int), .lst (vs.map .int), .int n] Q := by
  unfold F_are_equal_to_v2 m_are_equal_to_v2
  simp
  refine require_widths2_ok hz1 hu ?_
  simp
  refine require_widths2_ok hz2 hv ?_
  simp
  refine require_length2_ok h0 (by omega) ?_
  simp
  refine effective_of_ok hz1 ?_
  simp
  refine effective_of_ok hz2 ?_
  simp
  refine difference_eff_ok hu hv hz1 hz2 ?_
  simp
  rw [wP_gIsOpt]
  cases h : dif us vs with
  | none => simpa using q true
  | some k => simpa using q _
theorem are_equal2_ok (hu : Wd us) (hv : Wd vs) (hz1 : us.length ≤ 1000000) (hz2 : vs.length ≤ 1000000) (q : Q (.bl (dif us vs).isNone) [none, none]) : wF F_are_equal_v2 [.lst (us.map .int), .lst (vs.map .int)] Q := by
  unfold F_are_equal_v2 m_are_equal_v2
  simp
  refine require_widths2_ok hz1 hu ?_
  simp
  refine require_widths2_ok hz2 hv ?_
  simp
  refine have_same_effect_ok hu hv hz1 hz2 ?_
  simpa using q
theorem first_difference2_ok (hu : Wd us) (hv : Wd vs) (hz1 : us.length ≤ 1000000) (hz2 : vs.length ≤ 1000000) (q : Q (optD (dif us vs)) [none, none]) : wF F_first_difference_v2 [.lst (us.map .int), .lst (vs.map .int)] Q := by
  unfold F_first_difference_v2 m_first_difference_v2
  simp
  refine require_widths2_ok hz1 hu ?_
  simp
  refine require_widths2_ok hz2 hv ?_
  simp
  refine effective_of_ok hz1 ?_
  simp
  refine effective_of_ok hz2 ?_
  simp
  refine difference_eff_ok hu hv hz1 hz2 ?_
  simp
  exact q
theorem normal_bad1 (h : Wt d) (hw : isWs d = false) (q : E ⟨"InvalidWidths", []⟩ [none]) : wX (F_normal_form_v2 [d]) Q E := by
  unfold F_normal_form_v2 m_normal_form_v2
  refine wXF_run (wXs_seqX (wXs_drop (wXe_call ?_)))
  simp
  refine require_widths_bad h hw ?_
  simp
  exact q
theorem descent_bad1 (h : Wt d) (hw : isWs d = false) (q : E ⟨"InvalidWidths", []⟩ [none, none]) : wX (F_descent_v2 [d, a]) Q E := by
  unfold F_descent_v2 m_descent_v2
  refine wXF_run (wXs_seqX (wXs_drop (wXe_call ?_)))
  simp
  refine require_widths_bad h hw ?_
  simp
  exact q
theorem descent_bad2 (hz : us.length ≤ 1000000) (hu : Wd us) (h : Ty a) (hn : isIn 1 1000000000000000000000000000000 a = false) (q : E ⟨"InvalidLength", []⟩ [none, none]) : wX (F_descent_v2 [.lst (us.map .int), a]) Q E := by
  unfold F_descent_v2 m_descent_v2
  refine wXF_run (wXs_seq ?_)
  simp
  refine require_widths2_ok hz hu ?_
  simp
  refine wXs_seqX (wXs_drop (wXe_call ?_))
  simp
  refine require_length_bad h hn ?_
  simp
  exact q
theorem to_bad1 (h : Wt d) (hw : isWs d = false) (q : E ⟨"InvalidWidths", []⟩ [none, none, none]) : wX (F_are_equal_to_v2 [d, b, a]) Q E := by
  unfold F_are_equal_to_v2 m_are_equal_to_v2
  refine wXF_run (wXs_seqX (wXs_drop (wXe_call ?_)))
  simp
  refine require_widths_bad h hw ?_
  simp
  exact q
theorem to_bad2 (hz : us.length ≤ 1000000) (hu : Wd us) (h : Wt d) (hw : isWs d = false) (q : E ⟨"InvalidWidths", []⟩ [none, none, none]) : wX (F_are_equal_to_v2 [.lst (us.map .int), d, a]) Q E := by
  unfold F_are_equal_to_v2 m_are_equal_to_v2
  refine wXF_run (wXs_seq ?_)
  simp
  refine require_widths2_ok hz hu ?_
  simp
  refine wXs_seqX (wXs_drop (wXe_call ?_))
  simp
  refine require_widths_bad h hw ?_
  simp
  exact q
theorem to_bad3 (hz : us.length ≤ 1000000) (hu : Wd us) (hz2 : vs.length ≤ 1000000) (hv : Wd vs) (h : Ty a) (hn : isIn 0 1000000000000000000000000000000 a = false) (q : E ⟨"InvalidLength", []⟩ [none, none, none]) : wX (F_are_equal_to_v2 [.lst (us.map .int), .lst (vs.map .int), a]) Q E := by
  unfold F_are_equal_to_v2 m_are_equal_to_v2
  refine wXF_run (wXs_seq ?_)
  simp
  refine require_widths2_ok hz hu ?_
  simp
  refine wXs_seq ?_
  simp
  refine require_widths2_ok hz2 hv ?_
  simp
  refine wXs_seqX (wXs_drop (wXe_call ?_))
  simp
  refine require_length_bad h hn ?_
  simp
  exact q
theorem equal_bad1 (h : Wt d) (hw : isWs d = false) (q : E ⟨"InvalidWidths", []⟩ [none, none]) : wX (F_are_equal_v2 [d, b]) Q E := by
  unfold F_are_equal_v2 m_are_equal_v2
  refine wXF_run (wXs_seqX (wXs_drop (wXe_call ?_)))
  simp
  refine require_widths_bad h hw ?_
  simp
  exact q
theorem equal_bad2 (hz : us.length ≤ 1000000) (hu : Wd us) (h : Wt d) (hw : isWs d = false) (q : E ⟨"InvalidWidths", []⟩ [none, none]) : wX (F_are_equal_v2 [.lst (us.map .int), d]) Q E := by
  unfold F_are_equal_v2 m_are_equal_v2
  refine wXF_run (wXs_seq ?_)
  simp
  refine require_widths2_ok hz hu ?_
  simp
  refine wXs_seqX (wXs_drop (wXe_call ?_))
  simp
  refine require_widths_bad h hw ?_
  simp
  exact q
theorem first_bad1 (h : Wt d) (hw : isWs d = false) (q : E ⟨"InvalidWidths", []⟩ [none, none]) : wX (F_first_difference_v2 [d, b]) Q E := by
  unfold F_first_difference_v2 m_first_difference_v2
  refine wXF_run (wXs_seqX (wXs_drop (wXe_call ?_)))
  simp
  refine require_widths_bad h hw ?_
  simp
  exact q
theorem first_bad2 (hz : us.length ≤ 1000000) (hu : Wd us) (h : Wt d) (hw : isWs d = false) (q : E ⟨"InvalidWidths", []⟩ [none, none]) : wX (F_first_difference_v2 [.lst (us.map .int), d]) Q E := by
  unfold F_first_difference_v2 m_first_difference_v2
  refine wXF_run (wXs_seq ?_)
  simp
  refine require_widths2_ok hz hu ?_
  simp
  refine wXs_seqX (wXs_drop (wXe_call ?_))
  simp
  refine require_widths_bad h hw ?_
  simp
  exact q
def wordOf (c : Str) : Option Str := if c = "InvalidWidths" then some "widths" else if c = "InvalidLength" then some "length" else none
def keepY : D → Option D
  | .tup [.str s, .bl true] => some (.str s)
  | _ => none
theorem gE {cs yes : List Str} {c : Str} {ns : List Str} {ds : List D} {R : D → Prop} {b : Bool} (h : cs.contains c = true) (h2 : yes.contains c = b) : wP (gIsE cs yes [.exn c ns ds]) R = R (.bl b) := by
  rw [wP_gIsE h, h2]
def csL : List Str := ["InvalidLength", "InvalidWidths"]
theorem kind_core {c w : Str} {ns : List Str} {ds : List D} {b1 b2 : Bool} (hc : csL.contains c = true) (h1 : (["InvalidWidths"] : List Str).contains c = b1) (h2 : (["InvalidLength"] : List Str).contains c = b2)
    (hw : [D.tup [.str "widths", .bl b1], .tup [.str "length", .bl b2], .tup [.str "index", .bl false], .tup [.str "pieces", .bl false], .tup [.str "fitting", .bl false], .tup [.str "wrapped", .bl false], .tup [.str "odd", .bl false], .tup [.str "odd", .bl false]].filterMap keepY = [.str w]) (q : Q (.str w) [none]) : wF LM.F__law_kind_v4 [.exn c ns ds] Q := by
  unfold csL at hc
  unfold LM.F__law_kind_v4 LM.m__law_kind_v4
  simp
  rw [gE hc h1, gE hc h2]
  rw [gE (b := false) hc rfl, gE (b := false) hc rfl]
  rw [gE (b := false) hc rfl, gE (b := false) hc rfl]
  rw [gE (b := false) hc rfl]
  rw [gE (b := false) hc rfl]
  refine lc_filterMap keepY (fun d hd => ?_) fun e2 he => ?_
  · obtain ⟨s, b, rfl⟩ : ∃ s b, d = .tup [.str s, .bl b] := by
      simp only [List.mem_cons, List.not_mem_nil, or_false] at hd
      rcases hd with rfl | rfl | rfl | rfl | rfl | rfl | rfl | rfl <;> exact ⟨_, _, rfl⟩
    simp
    cases b <;> simp [keepY]
  · rw [hw, he]
    simp
    rw [gE (b := true) hc hc]
    simp
    exact q
theorem kind_ok {c w : Str} {ns : List Str} {ds : List D} (h : wordOf c = some w) (q : Q (.str w) [none]) : wF LM.F__law_kind_v4 [.exn c ns ds] Q := by
  unfold wordOf at h
  split at h
  · rename_i hc
    subst hc; cases h
    exact kind_core (b1 := true) (b2 := false) (by decide +kernel) (by decide +kernel) (by decide +kernel) rfl q
  · split at h
    · rename_i hc
      subst hc; cases h
      exact kind_core (b1 := false) (b2 := true) (by decide +kernel) (by decide +kernel) (by decide +kernel) rfl q
    · cases h
/-- what the def called gives: nothing raised, or an exception of that class -/
def Gives (n : Nat) (x : Out D) (R : Option Str) : Prop := wX x (fun _ e => R = none ∧ e = List.replicate n none) (fun z e => ∃ c, R = some c ∧ z = ⟨c, []⟩ ∧ e = List.replicate n none)
theorem gives_ok {n : Nat} {x : Out D} (h : wM x fun _ e => e = List.replicate n none) : Gives n x none := wX_of (by obtain ⟨a, e, h1, h2⟩ := h; exact ⟨a, e, h1, rfl, h2⟩)
def Does (w : Int) (a b s : D) (R : Option Str) : Prop := if w = 0 then Gives 1 (LM.F_normal_form_v2 [a]) R else if w = 1 then Gives 2 (LM.F_descent_v2 [a, s]) R else if w = 2 then Gives 3 (LM.F_are_equal_to_v2 [a, b, s]) R else if w = 3 then Gives 2 (LM.F_are_equal_v2 [a, b]) R else Gives 2 (LM.F_first_difference_v2 [a, b]) R
def told : Option Str → Str
  | none => "returned"
  | some c => (wordOf c).getD ""
theorem called_ok {w : Int} {a b s : D} {R : Option Str} (hw5 : 0 ≤ w ∧ w < 5) (h : Does w a b s R) (hR : ∀ c, R = some c → (wordOf c).isSome = true) (q : Q (.str (told R)) [none, none, none, none]) : wF F__law_called [.int w, a, b, s] Q := by
  unfold F__law_called m__law_called
  simp
  refine wS_try ?_
  have fin : ∀ z e1, (∃ c, R = some c ∧ z = (⟨c, []⟩ : Exn) ∧ e1 = [some (.int w), some a, some b, some s, none]) → wM
      (hMean [⟨["Conflict", "InvalidCommand", "InvalidIndex", "InvalidLength", "InvalidPeriod", "InvalidPieces", "InvalidPosition", "InvalidText", "InvalidWidths", "NoWidths", "NotFitting", "NotWrapped", "NothingToUndo", "ParseError", "TooMany", "WrapError"], [], some 4, sExn 4 (cRet (cCall F__law_kind_v4 [AK.sh] Md.sh [0] [] [Opd.tm (cVar 4)]))⟩]
        z (maskB [true, true, true, true, false] [Md.sh, Md.sh, Md.sh, Md.sh, Md.sh] e1) e1)
      (seqP (fun e1 => wS (cRet (cK (.str "returned"))) e1 (runP [Md.sh, Md.sh, Md.sh, Md.sh] Q)) (runP [Md.sh, Md.sh, Md.sh, Md.sh] Q)) := by
    rintro _ _ ⟨c, rfl, rfl, rfl⟩
    have hc := hR c rfl
    obtain ⟨v, hv⟩ := Option.isSome_iff_exists.mp hc
    rw [hMean_yes (by
      unfold wordOf at hv
      split at hv
      · rename_i h; subst h; decide +kernel
      · split at hv
        · rename_i h; subst h; decide +kernel
        · cases hv)]
    refine suOut_ok ?_
    show wS (cRet (cCall F__law_kind_v4 [AK.sh] Md.sh [0] [] [Opd.tm (cVar 4)])) [some (.int w), some a, some b, some s, some (.exn c [] [])] _
    simp
    refine kind_ok hv ?_
    simp [offV]
    have e : told (some c) = v := by show (wordOf c).getD _ = v; rw [hv]; rfl
    rw [e] at q
    exact q
  unfold Does at h
  refine wXs_if ?_
  simp
  refine wIf_i (fun h0 => ?_) fun h0 => ?_
  · rw [if_pos (of_decide_eq_true h0)] at h
    refine wXs_drop (wXe_call ?_)
    simp
    refine wX_imp h (fun _ e1 h1 => ?_) fun z e1 h1 => ?_
    · obtain ⟨rfl, rfl⟩ := h1
      simp
      exact q
    · obtain ⟨c, r1, r2, rfl⟩ := h1
      simp
      exact fin z _ ⟨c, r1, r2, rfl⟩
  rw [if_neg (of_decide_eq_false h0)] at h
  refine wXs_if ?_
  simp
  refine wIf_i (fun h0 => ?_) fun h0 => ?_
  · rw [if_pos (of_decide_eq_true h0)] at h
    refine wXs_drop (wXe_call ?_)
    simp
    refine wX_imp h (fun _ e1 h1 => ?_) fun z e1 h1 => ?_
    · obtain ⟨rfl, rfl⟩ := h1
      simp
      exact q
    · obtain ⟨c, r1, r2, rfl⟩ := h1
      simp
      exact fin z _ ⟨c, r1, r2, rfl⟩
  rw [if_neg (of_decide_eq_false h0)] at h
  refine wXs_if ?_
  simp
  refine wIf_i (fun h0 => ?_) fun h0 => ?_
  · rw [if_pos (of_decide_eq_true h0)] at h
    refine wXs_drop (wXe_call ?_)
    simp
    refine wX_imp h (fun _ e1 h1 => ?_) fun z e1 h1 => ?_
    · obtain ⟨rfl, rfl⟩ := h1
      simp
      exact q
    · obtain ⟨c, r1, r2, rfl⟩ := h1
      simp
      exact fin z _ ⟨c, r1, r2, rfl⟩
  rw [if_neg (of_decide_eq_false h0)] at h
  have h34 : w = 3 ∨ w = 4 := by
    have := of_decide_eq_false h0
    have := of_decide_eq_false ‹decide (w = 0) = false›
    have := of_decide_eq_false ‹decide (w = 1) = false›
    omega
  rcases h34 with hw | hw
  · rw [if_pos hw] at h
    subst hw
    refine wXs_drop (wX_callL (n := "are_equal") (F := LM.F_are_equal_v2) rfl rfl (wXe_call ?_))
    simp
    refine wX_imp h (fun _ e1 h1 => ?_) fun z e1 h1 => ?_
    · obtain ⟨rfl, rfl⟩ := h1
      simp
      exact q
    · obtain ⟨c, r1, r2, rfl⟩ := h1
      simp
      exact fin z _ ⟨c, r1, r2, rfl⟩
  · rw [if_neg (by omega)] at h
    subst hw
    refine wXs_drop (wX_callL (n := "first_difference") (F := LM.F_first_difference_v2) rfl rfl (wXe_call ?_))
    simp
    refine wX_imp h (fun _ e1 h1 => ?_) fun z e1 h1 => ?_
    · obtain ⟨rfl, rfl⟩ := h1
      simp
      exact q
    · obtain ⟨c, r1, r2, rfl⟩ := h1
      simp
      exact fin z _ ⟨c, r1, r2, rfl⟩
end
theorem gMul_five {d : D} {Q : D → Prop} : wP (gMul [.lst [d], .int 5]) Q = Q (.lst [d, d, d, d, d]) := wP_some
theorem told_str (r : Option Str) : PyData.strOk (told r) = true := by
  cases r with
  | none => decide +kernel
  | some c =>
    show PyData.strOk ((wordOf c).getD "") = true
    unfold wordOf
    split
    · decide +kernel
    · split <;> decide +kernel
theorem eq_s5 {a b c d f : Str} (h1 : PyData.strOk a = true) (h2 : PyData.strOk b = true) (h3 : PyData.strOk c = true) (h4 : PyData.strOk d = true) (h5 : PyData.strOk f = true) : eqD (.lst [.str a, .str b, .str c, .str d, .str f]) (.lst [.str a, .str b, .str c, .str d, .str f]) = some true := by
  have h : ∀ s ∈ [a, b, c, d, f], PyData.strOk s = true := fun s hs => by
    simp only [List.mem_cons, List.not_mem_nil, or_false] at hs
    rcases hs with rfl | rfl | rfl | rfl | rfl <;> assumption
  have := eqD_strs (ns := [a, b, c, d, f]) (ms := [a, b, c, d, f]) h h
  simpa using this
def gR (R : Int → Option Str) : D → D
  | .int w => .str (told (R w))
  | _ => .non
def RowOk (t : D) : Prop := ∃ (a b s : D) (R : Int → Option Str) (v0 v1 v2 v3 v4 : Str), t = .tup [a, b, s, .lst [.str v0, .str v1, .str v2, .str v3, .str v4]] ∧ (told (R 0) = v0 ∧ told (R 1) = v1 ∧ told (R 2) = v2 ∧ told (R 3) = v3 ∧ told (R 4) = v4) ∧
  (Does 0 a b s (R 0) ∧ Does 1 a b s (R 1) ∧ Does 2 a b s (R 2) ∧ Does 3 a b s (R 3) ∧ Does 4 a b s (R 4)) ∧ (∀ w c, R w = some c → (wordOf c).isSome = true) ∧ EnW a ∧ EnW b ∧ EnW s
def pickR (r0 r1 r2 r3 r4 : Option Str) (w : Int) : Option Str := if w = 0 then r0 else if w = 1 then r1 else if w = 2 then r2 else if w = 3 then r3 else r4
def okR (r : Option Str) : Prop := ∀ c, r = some c → (wordOf c).isSome = true
theorem okR_none : okR none := fun c e => by cases e
theorem okR_some {c : Str} (h : (wordOf c).isSome = true) : okR (some c) := fun c' e => by cases e; exact h
theorem row_ok {a b s : D} {r0 r1 r2 r3 r4 : Option Str} {v0 v1 v2 v3 v4 : Str} (d0 : Does 0 a b s r0) (d1 : Does 1 a b s r1) (d2 : Does 2 a b s r2) (d3 : Does 3 a b s r3) (d4 : Does 4 a b s r4) (k0 : okR r0) (k1 : okR r1) (k2 : okR r2) (k3 : okR r3) (k4 : okR r4)
    (t0 : told r0 = v0) (t1 : told r1 = v1) (t2 : told r2 = v2) (t3 : told r3 = v3) (t4 : told r4 = v4) (ea : EnW a) (eb : EnW b) (es : EnW s) : RowOk (.tup [a, b, s, .lst [.str v0, .str v1, .str v2, .str v3, .str v4]]) :=
  ⟨a, b, s, pickR r0 r1 r2 r3 r4, v0, v1, v2, v3, v4, rfl, ⟨t0, t1, t2, t3, t4⟩, ⟨d0, d1, d2, d3, d4⟩, fun w => by unfold pickR; split; exact k0; split; exact k1; split; exact k2; split; exact k3; exact k4, ea, eb, es⟩
section
variable {ws vs : List Int} {a b s : D}
theorem d0w (h : NoWs a) : Does 0 a b s (some "InvalidWidths") := by
  unfold Does; rw [if_pos rfl]; exact normal_bad1 h.1 h.2.1 ⟨_, rfl, rfl, rfl⟩
theorem d1w (h : NoWs a) : Does 1 a b s (some "InvalidWidths") := by
  unfold Does; rw [if_neg (by decide), if_pos rfl]; exact descent_bad1 h.1 h.2.1 ⟨_, rfl, rfl, rfl⟩
theorem d2w (h : NoWs a) : Does 2 a b s (some "InvalidWidths") := by
  unfold Does; rw [if_neg (by decide), if_neg (by decide), if_pos rfl]; exact to_bad1 h.1 h.2.1 ⟨_, rfl, rfl, rfl⟩
theorem d3w (h : NoWs a) : Does 3 a b s (some "InvalidWidths") := by
  unfold Does; rw [if_neg (by decide), if_neg (by decide), if_neg (by decide), if_pos rfl]; exact equal_bad1 h.1 h.2.1 ⟨_, rfl, rfl, rfl⟩
theorem d4w (h : NoWs a) : Does 4 a b s (some "InvalidWidths") := by
  unfold Does; rw [if_neg (by decide), if_neg (by decide), if_neg (by decide), if_neg (by decide)]; exact first_bad1 h.1 h.2.1 ⟨_, rfl, rfl, rfl⟩
theorem d0g (hz : ws.length ≤ 7) (hw : Wd ws) : Does 0 (.lst (ws.map .int)) b s none := by
  unfold Does; rw [if_pos rfl]; exact gives_ok (normal_form2_ok (by omega) hw rfl)
theorem d1l (hz : ws.length ≤ 7) (hw : Wd ws) (h : Ty s) (hn : isIn 1 1000000000000000000000000000000 s = false) : Does 1 (.lst (ws.map .int)) b s (some "InvalidLength") := by
  unfold Does; rw [if_neg (by decide), if_pos rfl]; exact descent_bad2 (by omega) hw h hn ⟨_, rfl, rfl, rfl⟩
theorem d1g {i : Int} (hz : ws.length ≤ 7) (hw : Wd ws) (h0 : 1 ≤ i) (h1 : i ≤ 10 ^ 30) : Does 1 (.lst (ws.map .int)) b (.int i) none := by
  obtain ⟨n, rfl⟩ : ∃ n : Nat, i = n := ⟨i.toNat, by omega⟩
  unfold Does; rw [if_neg (by decide), if_pos rfl]; exact gives_ok (descent2_ok (by omega) hw (by omega) (by omega) rfl)
theorem d2b (hz : ws.length ≤ 7) (hw : Wd ws) (h : NoWs b) : Does 2 (.lst (ws.map .int)) b s (some "InvalidWidths") := by
  unfold Does; rw [if_neg (by decide), if_neg (by decide), if_pos rfl]; exact to_bad2 (by omega) hw h.1 h.2.1 ⟨_, rfl, rfl, rfl⟩
theorem d2l (hz : ws.length ≤ 7) (hw : Wd ws) (hz2 : vs.length ≤ 7) (hv : Wd vs) (h : Ty s) (hn : isIn 0 1000000000000000000000000000000 s = false) : Does 2 (.lst (ws.map .int)) (.lst (vs.map .int)) s (some "InvalidLength") := by
  unfold Does; rw [if_neg (by decide), if_neg (by decide), if_pos rfl]; exact to_bad3 (by omega) hw (by omega) hv h hn ⟨_, rfl, rfl, rfl⟩
theorem d2g {i : Int} (hz : ws.length ≤ 7) (hw : Wd ws) (hz2 : vs.length ≤ 7) (hv : Wd vs) (h0 : 0 ≤ i) (h1 : i ≤ 10 ^ 30) : Does 2 (.lst (ws.map .int)) (.lst (vs.map .int)) (.int i) none := by
  unfold Does; rw [if_neg (by decide), if_neg (by decide), if_pos rfl]; exact gives_ok (are_equal_to2_ok hw hv (by omega) (by omega) h0 h1 fun _ => rfl)
theorem d3b (hz : ws.length ≤ 7) (hw : Wd ws) (h : NoWs b) : Does 3 (.lst (ws.map .int)) b s (some "InvalidWidths") := by
  unfold Does; rw [if_neg (by decide), if_neg (by decide), if_neg (by decide), if_pos rfl]; exact equal_bad2 (by omega) hw h.1 h.2.1 ⟨_, rfl, rfl, rfl⟩
theorem d3g (hz : ws.length ≤ 7) (hw : Wd ws) (hz2 : vs.length ≤ 7) (hv : Wd vs) : Does 3 (.lst (ws.map .int)) (.lst (vs.map .int)) s none := by
  unfold Does; rw [if_neg (by decide), if_neg (by decide), if_neg (by decide), if_pos rfl]; exact gives_ok (are_equal2_ok hw hv (by omega) (by omega) rfl)
theorem d4b (hz : ws.length ≤ 7) (hw : Wd ws) (h : NoWs b) : Does 4 (.lst (ws.map .int)) b s (some "InvalidWidths") := by
  unfold Does; rw [if_neg (by decide), if_neg (by decide), if_neg (by decide), if_neg (by decide)]; exact first_bad2 (by omega) hw h.1 h.2.1 ⟨_, rfl, rfl, rfl⟩
theorem d4g (hz : ws.length ≤ 7) (hw : Wd ws) (hz2 : vs.length ≤ 7) (hv : Wd vs) : Does 4 (.lst (ws.map .int)) (.lst (vs.map .int)) s none := by
  unfold Does; rw [if_neg (by decide), if_neg (by decide), if_neg (by decide), if_neg (by decide)]; exact gives_ok (first_difference2_ok hw hv (by omega) (by omega) rfl)
end
theorem law_true (ns : List Int) (hl : ns.length ≤ 63) : wF F_law [.scr ns] (fun d _ => d = .bl true) := by
  unfold F_law m_law
  simp
  refine ⟨by omega, ?_⟩
  refine for_inv (fun _ e => ∃ o1 o2 o3 o4 o5 o6 o7 o8 o9 o10 o11 o12 o13 o14 o15 : Option D, e = [some (.scr ns), o1, o2, o3, o4, o5, o6, o7, o8, o9, o10, o11, o12, o13, o14, o15]) ⟨_, _, _, _, _, _, _, _, _, _, _, _, _, _, _, rfl⟩ (fun i d e hi hJ => ?_) fun e hJ => ?_
  · obtain ⟨o1, o2, o3, o4, o5, o6, o7, o8, o9, o10, o11, o12, o13, o14, o15, rfl⟩ := hJ
    obtain ⟨rfl, hi2⟩ := rangeD_get hi
    simp
    refine bag_ok (by omega) (by omega) fun y hy => ?_
    simp
    refine chain_ok hy (by omega) (by omega) (by omega) (by omega) (by omega) fun ws y hwl hws hy => ?_
    have l7 : ws.length ≤ 7 := by have : ws.length ≤ 5 := hwl; omega
    have hW : Wd ws := fun w hw => by have := hws w hw; omega
    simp
    refine chain_ok hy (by omega) (by omega) (by omega) (by omega) (by omega) fun vs y hvl hvs hy => ?_
    have v7 : vs.length ≤ 7 := by have : vs.length ≤ 5 := hvl; omega
    have hV : Wd vs := fun w hw => by have := hvs w hw; omega
    simp
    refine no_widths_ok hy (by omega) (by omega) hW fun y bad hy hbad => ?_
    simp
    refine no_widths_ok hy (by omega) (by omega) hV fun y worse hy hworse => ?_
    simp
    refine take_ok hy (by omega) (by omega) (by omega) fun u y u0 u1 hy => ?_
    simp
    refine take_ok hy (by omega) (by omega) (by omega) fun u' y u0' u1' hy => ?_
    simp
    refine pick_d u0' (by simp only [List.length_cons, List.length_nil]; omega) fun sp hsp => ?_
    obtain ⟨span, rfl, p1, p2⟩ : ∃ p : Int, sp = .int p ∧ 1 ≤ p ∧ p ≤ 10 ^ 30 := by
      simp only [List.mem_cons, List.not_mem_nil, or_false] at hsp
      rcases hsp with rfl | rfl | rfl
      · exact ⟨_, rfl, by omega, by omega⟩
      · exact ⟨_, rfl, by omega, by omega⟩
      · exact ⟨_, rfl, by omega, by omega⟩
    refine take_ok hy (by omega) (by omega) (by omega) fun u y u0 u1 hy => ?_
    simp
    refine pick_d u0 (by simp only [List.length_cons, List.length_nil]; omega) fun odd hodd => ?_
    rw [gMul_five, gMul_five]
    have hO : EnW odd ∧ Ty odd ∧ isIn 0 1000000000000000000000000000000 odd = false ∧ isIn 1 1000000000000000000000000000000 odd = false := by
      simp only [List.mem_cons, List.not_mem_nil, or_false] at hodd
      have l1 : SmW (.lst [.int 1]) := ⟨by rw [sm2_lst, sms2_iff]; intro x hx; simp at hx; subst hx; rw [sm2_int]; omega, by decide +kernel, by decide +kernel⟩
      have t1 : SmW (.tup [.int 1]) := ⟨by rw [sm2_tup, sms2_iff]; intro x hx; simp at hx; subst hx; rw [sm2_int]; omega, by decide +kernel, by decide +kernel⟩
      rcases hodd with rfl | rfl | rfl | rfl | rfl | rfl | rfl | rfl
      · exact ⟨(sm_int (by omega)).en, rfl, rfl, rfl⟩
      · exact ⟨(sm_int (by omega)).en, rfl, rfl, rfl⟩
      · exact ⟨sm_bl.en, rfl, rfl, rfl⟩
      · exact ⟨sm_non.en, rfl, rfl, rfl⟩
      · exact ⟨(sm_str (by decide +kernel) (by decide +kernel)).en, rfl, rfl, rfl⟩
      · exact ⟨l1.en, rfl, rfl, rfl⟩
      · exact ⟨t1.en, rfl, rfl, rfl⟩
      · exact ⟨sm_bl.en, rfl, rfl, rfl⟩
    have eW : EnW (.lst (ws.map .int)) := (en_lst (by simp; omega) (smW_ws hW)).1
    have eV : EnW (.lst (vs.map .int)) := (en_lst (by simp; omega) (smW_ws hV)).1
    have ei : ∀ v : Int, (-10 ^ 50 ≤ v ∧ v ≤ 10 ^ 50) → EnW (.int v) := fun v h => (sm_int h).en
    have kw : okR (some "InvalidWidths") := okR_some rfl
    have kl : okR (some "InvalidLength") := okR_some rfl
    have kn := okR_none
    refine for_inv (fun k e => ∃ (o10 o11 o12 o13 o14 o15 : Option D), ∃ o9 : D, e = [some (.scr ns), some (.int i), some y, some (.lst (ws.map .int)), some (.lst (vs.map .int)), some bad, some worse, some (.int span), some odd, some o9, o10, o11, o12, o13, o14, o15]) ⟨_, _, _, _, _, _, _, rfl⟩ (fun k d e hk hJ => ?_) fun e hJ => ?_
    · obtain ⟨o10, o11, o12, o13, o14, o15, o9, rfl⟩ := hJ
      have hm := List.mem_of_getElem? hk
      have hR : RowOk d := by
        simp only [List.mem_cons, List.not_mem_nil, or_false] at hm
        rcases hm with rfl | rfl | rfl | rfl | rfl
        · exact row_ok (d0g l7 hW) (d1g l7 hW p1 p2) (d2g l7 hW v7 hV (by omega) p2) (d3g l7 hW v7 hV) (d4g l7 hW v7 hV) kn kn kn kn kn rfl rfl rfl rfl rfl eW eV (ei _ (by omega))
        · exact row_ok (d0w hbad) (d1w hbad) (d2w hbad) (d3w hbad) (d4w hbad) kw kw kw kw kw rfl rfl rfl rfl rfl hbad.2.2 hworse.2.2 hO.1
        · exact row_ok (d0g l7 hW) (d1l l7 hW hO.2.1 hO.2.2.2) (d2b l7 hW hworse) (d3b l7 hW hworse) (d4b l7 hW hworse) kn kl kw kw kw rfl rfl rfl rfl rfl eW hworse.2.2 hO.1
        · exact row_ok (d0g l7 hW) (d1l l7 hW hO.2.1 hO.2.2.2) (d2l l7 hW v7 hV hO.2.1 hO.2.2.1) (d3g l7 hW v7 hV) (d4g l7 hW v7 hV) kn kl kl kn kn rfl rfl rfl rfl rfl eW eV hO.1
        · exact row_ok (d0g l7 hW) (d1l l7 hW rfl rfl) (d2g l7 hW v7 hV (by omega) (by omega)) (d3g l7 hW v7 hV) (d4g l7 hW v7 hV) kn kl kn kn kn rfl rfl rfl rfl rfl eW eV (ei _ (by omega))
      obtain ⟨a, b, s, R, v0, v1, v2, v3, v4, rfl, ⟨t0, t1, t2, t3, t4⟩, ⟨g0, g1, g2, g3, g4⟩, hRs, ea, eb, es⟩ := hR
      have hk2 : (D.lst [a, b, s]).sm2 ∧ isSeqD (D.lst [a, b, s]) = true ∧ (D.lst [a, b, s]).dp ≤ 59 ∧ (D.lst [a, b, s]).wt ≤ 8000000 := by
        obtain ⟨x1, x2, x3⟩ := ea
        obtain ⟨y1, y2, y3⟩ := eb
        obtain ⟨z1, z2, z3⟩ := es
        refine ⟨by rw [sm2_lst, sms2_iff]; intro x hx; simp at hx; rcases hx with rfl | rfl | rfl <;> assumption, rfl, ?_, ?_⟩
        · simp only [D.dp, D.dps]; omega
        · simp only [D.wt, D.wts]; omega
      obtain ⟨k1, k2, k3, k4⟩ := hk2
      simp
      refine wP_gReprE_sm k1 k2 k3 k4 fun x hx => ?_
      refine lc_map (gR R) (fun d hd => ?_) fun e2 he => ?_
      · have hd' : d = .int 0 ∨ d = .int 1 ∨ d = .int 2 ∨ d = .int 3 ∨ d = .int 4 := by
          have : d ∈ [D.int 0, D.int 1, D.int 2, D.int 3, D.int 4] := hd
          simpa using this
        rcases hd' with rfl | rfl | rfl | rfl | rfl
        · simp
          exact called_ok (by omega) g0 (hRs _) (by simp; rfl)
        · simp
          exact called_ok (by omega) g1 (hRs _) (by simp; rfl)
        · simp
          exact called_ok (by omega) g2 (hRs _) (by simp; rfl)
        · simp
          exact called_ok (by omega) g3 (hRs _) (by simp; rfl)
        · simp
          exact called_ok (by omega) g4 (hRs _) (by simp; rfl)
      · rw [he]
        have em : (rangeD 0 5).map (gR R) = [.str v0, .str v1, .str v2, .str v3, .str v4] := by
          rw [← t0, ← t1, ← t2, ← t3, ← t4]; rfl
        rw [em]
        simp
        rw [wP_gNe (eq_s5 (t0 ▸ told_str _) (t1 ▸ told_str _) (t2 ▸ told_str _) (t3 ▸ told_str _) (t4 ▸ told_str _))]
        simp
        rw [wP_gReprE hx]
        simp
    · obtain ⟨o10, o11, o12, o13, o14, o15, o9, rfl⟩ := hJ
      simp
  · obtain ⟨o1, o2, o3, o4, o5, o6, o7, o8, o9, o10, o11, o12, o13, o14, o15, rfl⟩ := hJ
    simp
theorem law_holds (ns : List Int) (hl : ns.length ≤ 63) : ∃ fin, F_law [.scr ns] = some (.ok (.bl true), fin) := by
  obtain ⟨d, fin, h, rfl⟩ := law_true ns hl
  exact ⟨fin, h⟩
end K30
set_option Elab.async false
set_option autoImplicit false
set_option linter.all false
set_option maxRecDepth 100000
set_option maxHeartbeats 8000000
namespace K30
open PySem PySem.Spec PyProof.Rows L2 DI
/-- what is known of the module -/
structure Say (K : PySem.W.Frag) (mg : Str → Option Value) where
  a__law_bag : Addr
  d__law_bag : FuncData
  F__law_bag : defF s__law_bag [] K "_law_bag" a__law_bag d__law_bag
  g__law_bag : mg "_law_bag" = some (.ref a__law_bag)
  a__law_take : Addr
  d__law_take : FuncData
  F__law_take : defF s__law_take [] K "_law_take" a__law_take d__law_take
  g__law_take : mg "_law_take" = some (.ref a__law_take)
  a__law_chain : Addr
  d__law_chain : FuncData
  F__law_chain : defF s__law_chain [] K "_law_chain" a__law_chain d__law_chain
  g__law_chain : mg "_law_chain" = some (.ref a__law_chain)
  a__law_no_widths : Addr
  d__law_no_widths : FuncData
  F__law_no_widths : defF s__law_no_widths [] K "_law_no_widths" a__law_no_widths d__law_no_widths
  g__law_no_widths : mg "_law_no_widths" = some (.ref a__law_no_widths)
  a_is_integer : Addr
  d_is_integer : FuncData
  F_is_integer : defF s_is_integer [] K "is_integer" a_is_integer d_is_integer
  g_is_integer : mg "is_integer" = some (.ref a_is_integer)
  a_is_width : Addr
  d_is_width : FuncData
  F_is_width : defF s_is_width [] K "is_width" a_is_width d_is_width
  g_is_width : mg "is_width" = some (.ref a_is_width)
  a_is_widths : Addr
  d_is_widths : FuncData
  F_is_widths : defF s_is_widths [] K "is_widths" a_is_widths d_is_widths
  g_is_widths : mg "is_widths" = some (.ref a_is_widths)
  a_require_widths : Addr
  d_require_widths : FuncData
  F_require_widths : defF s_require_widths [] K "require_widths" a_require_widths d_require_widths
  g_require_widths : mg "require_widths" = some (.ref a_require_widths)
  a_border_lengths : Addr
  d_border_lengths : FuncData
  F_border_lengths : defF s_border_lengths [] K "border_lengths" a_border_lengths d_border_lengths
  g_border_lengths : mg "border_lengths" = some (.ref a_border_lengths)
  a_least_period_of : Addr
  d_least_period_of : FuncData
  F_least_period_of : defF s_least_period_of [] K "least_period_of" a_least_period_of d_least_period_of
  g_least_period_of : mg "least_period_of" = some (.ref a_least_period_of)
  a_column_of : Addr
  d_column_of : FuncData
  F_column_of : defF s_column_of [] K "column_of" a_column_of d_column_of
  g_column_of : mg "column_of" = some (.ref a_column_of)
  a_first_columns : Addr
  d_first_columns : FuncData
  F_first_columns : defF s_first_columns [] K "first_columns" a_first_columns d_first_columns
  g_first_columns : mg "first_columns" = some (.ref a_first_columns)
  a_whole_period : Addr
  d_whole_period : FuncData
  F_whole_period : defF s_whole_period [] K "whole_period" a_whole_period d_whole_period
  g_whole_period : mg "whole_period" = some (.ref a_whole_period)
  a_descent_of : Addr
  d_descent_of : FuncData
  F_descent_of : defF s_descent_of [] K "descent_of" a_descent_of d_descent_of
  g_descent_of : mg "descent_of" = some (.ref a_descent_of)
  a_normal_of : Addr
  d_normal_of : FuncData
  F_normal_of : defF s_normal_of [] K "normal_of" a_normal_of d_normal_of
  g_normal_of : mg "normal_of" = some (.ref a_normal_of)
  a_effective_of : Addr
  d_effective_of : FuncData
  F_effective_of : defF s_effective_of [] K "effective_of" a_effective_of d_effective_of
  g_effective_of : mg "effective_of" = some (.ref a_effective_of)
  a_normal_form : Addr
  d_normal_form : FuncData
  F_normal_form : defF s_normal_form [] K "normal_form" a_normal_form d_normal_form
  g_normal_form : mg "normal_form" = some (.ref a_normal_form)
  a__law_kind : Addr
  d__law_kind : FuncData
  F__law_kind : defF s__law_kind [] K "_law_kind" a__law_kind d__law_kind
  g__law_kind : mg "_law_kind" = some (.ref a__law_kind)
  a_require_length : Addr
  d_require_length : FuncData
  F_require_length : defF s_require_length [V.int 0, V.int 1000000000000000000000000000000] K "require_length" a_require_length d_require_length
  g_require_length : mg "require_length" = some (.ref a_require_length)
  a_period_below : Addr
  d_period_below : FuncData
  F_period_below : defF s_period_below [] K "period_below" a_period_below d_period_below
  g_period_below : mg "period_below" = some (.ref a_period_below)
  a_descent_to : Addr
  d_descent_to : FuncData
  F_descent_to : defF s_descent_to [] K "descent_to" a_descent_to d_descent_to
  g_descent_to : mg "descent_to" = some (.ref a_descent_to)
  a_descent : Addr
  d_descent : FuncData
  F_descent : defF s_descent [] K "descent" a_descent d_descent
  g_descent : mg "descent" = some (.ref a_descent)
  a_difference_of : Addr
  d_difference_of : FuncData
  F_difference_of : defF s_difference_of [] K "difference_of" a_difference_of d_difference_of
  g_difference_of : mg "difference_of" = some (.ref a_difference_of)
  a_are_equal_to : Addr
  d_are_equal_to : FuncData
  F_are_equal_to : defF s_are_equal_to [] K "are_equal_to" a_are_equal_to d_are_equal_to
  g_are_equal_to : mg "are_equal_to" = some (.ref a_are_equal_to)
  a_have_same_effect : Addr
  d_have_same_effect : FuncData
  F_have_same_effect : defF s_have_same_effect [] K "have_same_effect" a_have_same_effect d_have_same_effect
  g_have_same_effect : mg "have_same_effect" = some (.ref a_have_same_effect)
  a_are_equal : Addr
  d_are_equal : FuncData
  F_are_equal : defF s_are_equal [] K "are_equal" a_are_equal d_are_equal
  g_are_equal : mg "are_equal" = some (.ref a_are_equal)
  a_first_difference : Addr
  d_first_difference : FuncData
  F_first_difference : defF s_first_difference [] K "first_difference" a_first_difference d_first_difference
  g_first_difference : mg "first_difference" = some (.ref a_first_difference)
  a__law_called : Addr
  d__law_called : FuncData
  F__law_called : defF s__law_called [] K "_law_called" a__law_called d__law_called
  g__law_called : mg "_law_called" = some (.ref a__law_called)
  a_law : Addr
  d_law : FuncData
  F_law : defF s_law [] K "law" a_law d_law
  g_Conflict : mg "Conflict" = some (.ref (He.ga K "Conflict"))
  g_InvalidCommand : mg "InvalidCommand" = some (.ref (He.ga K "InvalidCommand"))
  g_InvalidIndex : mg "InvalidIndex" = some (.ref (He.ga K "InvalidIndex"))
  g_InvalidLength : mg "InvalidLength" = some (.ref (He.ga K "InvalidLength"))
  g_InvalidPeriod : mg "InvalidPeriod" = some (.ref (He.ga K "InvalidPeriod"))
  g_InvalidPieces : mg "InvalidPieces" = some (.ref (He.ga K "InvalidPieces"))
  g_InvalidPosition : mg "InvalidPosition" = some (.ref (He.ga K "InvalidPosition"))
  g_InvalidText : mg "InvalidText" = some (.ref (He.ga K "InvalidText"))
  g_InvalidWidths : mg "InvalidWidths" = some (.ref (He.ga K "InvalidWidths"))
  g_NoWidths : mg "NoWidths" = some (.ref (He.ga K "NoWidths"))
  g_NotFitting : mg "NotFitting" = some (.ref (He.ga K "NotFitting"))
  g_NotWrapped : mg "NotWrapped" = some (.ref (He.ga K "NotWrapped"))
  g_NothingToUndo : mg "NothingToUndo" = some (.ref (He.ga K "NothingToUndo"))
  g_ParseError : mg "ParseError" = some (.ref (He.ga K "ParseError"))
  g_TooMany : mg "TooMany" = some (.ref (He.ga K "TooMany"))
  g_WrapError : mg "WrapError" = some (.ref (He.ga K "WrapError"))
  m_Conflict_WrapError : PySem.W.exmOne K (.ref (He.ga K "Conflict")) (.ref (He.ga K "WrapError")) = some true
  m_InvalidCommand_WrapError : PySem.W.exmOne K (.ref (He.ga K "InvalidCommand")) (.ref (He.ga K "WrapError")) = some true
  m_InvalidIndex_WrapError : PySem.W.exmOne K (.ref (He.ga K "InvalidIndex")) (.ref (He.ga K "WrapError")) = some true
  m_InvalidLength_WrapError : PySem.W.exmOne K (.ref (He.ga K "InvalidLength")) (.ref (He.ga K "WrapError")) = some true
  m_InvalidPeriod_WrapError : PySem.W.exmOne K (.ref (He.ga K "InvalidPeriod")) (.ref (He.ga K "WrapError")) = some true
  m_InvalidPieces_WrapError : PySem.W.exmOne K (.ref (He.ga K "InvalidPieces")) (.ref (He.ga K "WrapError")) = some true
  m_InvalidPosition_WrapError : PySem.W.exmOne K (.ref (He.ga K "InvalidPosition")) (.ref (He.ga K "WrapError")) = some true
  m_InvalidText_WrapError : PySem.W.exmOne K (.ref (He.ga K "InvalidText")) (.ref (He.ga K "WrapError")) = some true
  m_InvalidWidths_WrapError : PySem.W.exmOne K (.ref (He.ga K "InvalidWidths")) (.ref (He.ga K "WrapError")) = some true
  m_NoWidths_WrapError : PySem.W.exmOne K (.ref (He.ga K "NoWidths")) (.ref (He.ga K "WrapError")) = some true
  m_NotFitting_WrapError : PySem.W.exmOne K (.ref (He.ga K "NotFitting")) (.ref (He.ga K "WrapError")) = some true
  m_NotWrapped_WrapError : PySem.W.exmOne K (.ref (He.ga K "NotWrapped")) (.ref (He.ga K "WrapError")) = some true
  m_NothingToUndo_WrapError : PySem.W.exmOne K (.ref (He.ga K "NothingToUndo")) (.ref (He.ga K "WrapError")) = some true
  m_ParseError_WrapError : PySem.W.exmOne K (.ref (He.ga K "ParseError")) (.ref (He.ga K "WrapError")) = some true
  m_TooMany_WrapError : PySem.W.exmOne K (.ref (He.ga K "TooMany")) (.ref (He.ga K "WrapError")) = some true
  m_WrapError_WrapError : PySem.W.exmOne K (.ref (He.ga K "WrapError")) (.ref (He.ga K "WrapError")) = some true
  x_InvalidLength : Ex0 K mg "InvalidLength"
  x_InvalidWidths : Ex0 K mg "InvalidWidths"
  ga_are_equal : a_are_equal = gAd K "are_equal"
  ga_first_difference : a_first_difference = gAd K "first_difference"
  ex_cs : exB (["InvalidLength", "InvalidWidths"] : List Str) K = true
  ki_0 : kit1B (["InvalidLength", "InvalidWidths"] : List Str) (["InvalidWidths"] : List Str) "InvalidWidths" K = true
  ki_1 : kit1B (["InvalidLength", "InvalidWidths"] : List Str) (["InvalidLength"] : List Str) "InvalidLength" K = true
  ki_2 : kit1B (["InvalidLength", "InvalidWidths"] : List Str) ([] : List Str) "InvalidIndex" K = true
  ki_3 : kit1B (["InvalidLength", "InvalidWidths"] : List Str) ([] : List Str) "InvalidPieces" K = true
  ki_4 : kit1B (["InvalidLength", "InvalidWidths"] : List Str) ([] : List Str) "NotFitting" K = true
  ki_5 : kit1B (["InvalidLength", "InvalidWidths"] : List Str) ([] : List Str) "NotWrapped" K = true
  ki_6 : kitTB (["InvalidLength", "InvalidWidths"] : List Str) ([] : List Str) (["Conflict", "InvalidCommand", "InvalidPeriod", "InvalidPosition", "InvalidText"] : List Str) K = true
  ki_7 : kitTB (["InvalidLength", "InvalidWidths"] : List Str) ([] : List Str) (["NothingToUndo", "NoWidths", "ParseError", "TooMany"] : List Str) K = true
  ki_8 : kitVB (["InvalidLength", "InvalidWidths"] : List Str) (["InvalidLength", "InvalidWidths"] : List Str) "ValueError" K = true
  n_ValueError : mg "ValueError" = none
  n_abs : mg "abs" = none
  n_all : mg "all" = none
  n_bool : mg "bool" = none
  n_int : mg "int" = none
  n_isinstance : mg "isinstance" = none
  n_len : mg "len" = none
  n_list : mg "list" = none
  n_max : mg "max" = none
  n_min : mg "min" = none
  n_range : mg "range" = none
  n_repr : mg "repr" = none
  n_tuple : mg "tuple" = none
  i_MAX_WIDTH : ∃ t, mg "MAX_WIDTH" = some (.int 10000 t)
theorem boot_abs : bootBuiltins "abs" = some (.builtin "abs") := by decide +kernel
theorem boot_all : bootBuiltins "all" = some (.builtin "all") := by decide +kernel
theorem boot_bool : bootBuiltins "bool" = some (.type "bool") := by decide +kernel
theorem boot_int : bootBuiltins "int" = some (.type "int") := by decide +kernel
theorem boot_isinstance : bootBuiltins "isinstance" = some (.builtin "isinstance") := by decide +kernel
theorem boot_len : bootBuiltins "len" = some (.builtin "len") := by decide +kernel
theorem boot_list : bootBuiltins "list" = some (.type "list") := by decide +kernel
theorem boot_max : bootBuiltins "max" = some (.builtin "max") := by decide +kernel
theorem boot_min : bootBuiltins "min" = some (.builtin "min") := by decide +kernel
theorem boot_repr : bootBuiltins "repr" = some (.builtin "repr") := by decide +kernel
theorem boot_tuple : bootBuiltins "tuple" = some (.type "tuple") := by decide +kernel
section
variable {P : Program} {w : World} {K : PySem.W.Frag} {mg : Str → Option Value} {base : Heap}
theorem sc__law_bag : FnScope ["script", "k", "cell"] ["script", "k"] (defScope s__law_bag) := ⟨rfl, rfl, rfl, by decide +kernel, rfl, by decide +kernel, by decide +kernel⟩
theorem g__law_bag (c : Say K mg) : FnG P w K mg base 1 c.a__law_bag c.d__law_bag ["script", "k"] (spF K mg [.sh, .sh] .ow F__law_bag) :=
  fn_g (N := ["script", "k", "cell"]) (ms' := [.sh, .sh, .sh]) (B := []) (ls := [.sh]) c.F__law_bag sc__law_bag rfl rfl (by decide) rfl fun cdv A outer s H E hr am => by
    have hN : (["script", "k", "cell"] : List Str).Nodup := sc__law_bag.nd
    exact (
      (dss_cons (ms2 := [.sh, .sh, .sh]) (ds_asg (m := .sh) 2 (de_if (dt_cmp L2.op_lt gLt_ok (do_tm (de_var 1)) (do_tm (de_callB L2.call_len gLen_ok rfl c.n_len boot_len (dos_cons (do_tm (de_var 0)) dos_nil)))) (de_ix L2.ix_seq gIx_ok (do_tm (de_var 0)) (do_tm (de_var 1))) de_int) hN)
      (dss_one (ds_ret (de_lst (dos_cons (do_tm (de_callB (L2.call_max2 rfl) gMax2_ok rfl c.n_max boot_max (dos_cons (do_tm de_int) (dos_cons (do_tm (de_bin L2.op_sub gSub_ok (do_tm (de_callB L2.call_abs gAbs_ok rfl c.n_abs boot_abs (dos_cons (do_tm (de_var 2)) dos_nil))) (do_tm (de_bin DI.op_powW gPow_ok (do_tm de_int) (do_tm de_int))))) dos_nil)))) (dos_cons (do_tm (de_bin DI.op_addD gAdd_ok (do_tm (de_bin L2.op_mod gMod_ok (do_tm (de_var 2)) (do_tm (de_bin DI.op_addD gAdd_ok (do_tm (de_bin DI.op_powW gPow_ok (do_tm de_int) (do_tm de_int))) (do_tm de_int))))) (do_tm (de_bin DI.op_mulD gMul_ok (do_tm de_int) (do_tm (de_var 1)))))) (dos_cons (do_tm de_int) dos_nil))))))))
theorem sc__law_take : FnScope ["bag", "many", "found", "mixed"] ["bag", "many"] (defScope s__law_take) := ⟨rfl, rfl, rfl, by decide +kernel, rfl, by decide +kernel, by decide +kernel⟩
theorem g__law_take (c : Say K mg) : FnG P w K mg base 1 c.a__law_take c.d__law_take ["bag", "many"] (spF K mg [.pr, .sh] .sh F__law_take) :=
  fn_g (N := ["bag", "many", "found", "mixed"]) (ms' := [.pr, .sh, .sh, .sh]) (B := []) (ls := [.sh, .sh]) c.F__law_take sc__law_take rfl rfl (by decide) rfl fun cdv A outer s H E hr am => by
    have hN : (["bag", "many", "found", "mixed"] : List Str).Nodup := sc__law_take.nd
    exact (
      (dss_cons (ms2 := [.pr, .sh, .sh, .sh]) (ds_if (dt_cmp L2.op_gt gGt_ok (do_tm (de_ix L2.ix_seq gIx_ok (do_vr 0) (do_tm de_int))) (do_tm de_int))
        (dss_cons (ms2 := [.pr, .sh, .sh, .sh]) (ds_asg (m := .sh) 2 (de_bin L2.op_mod gMod_ok (do_tm (de_ix L2.ix_seq gIx_ok (do_vr 0) (do_tm de_int))) (do_tm (de_var 1))) hN)
        (dss_cons (ms2 := [.pr, .sh, .sh, .sh]) (ds_set 0 (de_bin L2.op_fdivW gFdiv_ok (do_tm (de_ix L2.ix_seq gIx_ok (do_vr 0) (do_tm de_int))) (do_tm (de_var 1))) de_int)
        (dss_one (ds_ret (de_var 2)))))
        dss_nil)
      (dss_cons (ms2 := [.pr, .sh, .sh, .sh]) (ds_set 0 (de_bin DI.op_addD gAdd_ok (do_tm (de_ix L2.ix_seq gIx_ok (do_vr 0) (do_tm de_int))) (do_tm de_int)) de_int)
      (dss_cons (ms2 := [.pr, .sh, .sh, .sh]) (ds_asg (m := .sh) 3 (de_bin L2.op_mod gMod_ok (do_tm (de_bin DI.op_powW gPow_ok (do_tm (de_bin DI.op_addD gAdd_ok (do_tm (de_ix L2.ix_seq gIx_ok (do_vr 0) (do_tm de_int))) (do_tm (de_bin DI.op_mulD gMul_ok (do_tm de_int) (do_tm (de_ix L2.ix_seq gIx_ok (do_vr 0) (do_tm de_int))))))) (do_tm de_int))) (do_tm (de_bin DI.op_addD gAdd_ok (do_tm (de_bin DI.op_powW gPow_ok (do_tm de_int) (do_tm de_int))) (do_tm de_int)))) hN)
      (dss_cons (ms2 := [.pr, .sh, .sh, .sh]) (ds_asg (m := .sh) 3 (de_bin L2.op_mod gMod_ok (do_tm (de_bin DI.op_powW gPow_ok (do_tm (de_bin DI.op_addD gAdd_ok (do_tm (de_var 3)) (do_tm (de_bin DI.op_mulD gMul_ok (do_tm de_int) (do_tm (de_ix L2.ix_seq gIx_ok (do_vr 0) (do_tm de_int))))))) (do_tm de_int))) (do_tm (de_bin DI.op_addD gAdd_ok (do_tm (de_bin DI.op_powW gPow_ok (do_tm de_int) (do_tm de_int))) (do_tm de_int)))) hN)
      (dss_one (ds_ret (de_bin L2.op_mod gMod_ok (do_tm (de_bin L2.op_fdivW gFdiv_ok (do_tm (de_var 3)) (do_tm de_int))) (do_tm (de_var 1))))))))))
theorem sc__law_chain : FnScope ["bag", "most", "top", "found", "style", "k", "last", "below", "part"] ["bag", "most", "top"] (defScope s__law_chain) := ⟨rfl, rfl, rfl, by decide +kernel, rfl, by decide +kernel, by decide +kernel⟩
theorem g__law_chain (c : Say K mg) : FnG P w K mg base 2 c.a__law_chain c.d__law_chain ["bag", "most", "top"] (spF K mg [.pr, .sh, .sh] .sh F__law_chain) :=
  fn_g (N := ["bag", "most", "top", "found", "style", "k", "last", "below", "part"]) (ms' := [.pr, .sh, .sh, .sh, .sh, .sh, .sh, .sh, .sh]) (B := []) (ls := [.ow, .sh, .sh, .sh, .sh, .sh]) c.F__law_chain sc__law_chain rfl rfl (by decide) rfl fun cdv A outer s H E hr am => by
    have hN : (["bag", "most", "top", "found", "style", "k", "last", "below", "part"] : List Str).Nodup := sc__law_chain.nd
    exact (
      (dss_cons (ms2 := [.pr, .sh, .sh, .ow, .sh, .sh, .sh, .sh, .sh]) (ds_par (m1 := .ow) (m2 := .sh) 3 4 (de_lst dos_nil) (de_ro (de_call (kinds := [.ln 0, .sh]) (g__law_take c) (hr.mono (by decide)) am (cb_0 c.F__law_take 2 [] [0, 1] fun _ _ _ _ _ _ us ws h1 h2 => match us, ws, h1, h2 with | [u0, u1], [], _, _ => rfl) (fun _ => .nil) rfl c.g__law_take c.F__law_take.kp (dos_cons (do_vr 0) (dos_cons (do_tm de_int) dos_nil)))) hN rfl)
      (dss_cons (ms2 := [.pr, .sh, .sh, .ow, .sh, .sh, .sh, .sh, .sh]) (ds_for (di_r1 rfl c.n_range (dos_cons (do_tm (de_ro (de_call (kinds := [.ln 0, .sh]) (g__law_take c) (hr.mono (by decide)) am (cb_0 c.F__law_take 2 [] [0, 1] fun _ _ _ _ _ _ us ws h1 h2 => match us, ws, h1, h2 with | [u0, u1], [], _, _ => rfl) (fun _ => .nil) rfl c.g__law_take c.F__law_take.kp (dos_cons (do_vr 0) (dos_cons (do_tm (de_bin DI.op_addD gAdd_ok (do_tm (de_var 1)) (do_tm de_int))) dos_nil))))) dos_nil)) (pg_nm 5 hN)
        (dss_cons (ms2 := [.pr, .sh, .sh, .ow, .sh, .sh, .sh, .sh, .sh]) (ds_asg (m := .sh) 6 (de_if (dt_cmp (DI.op_neX hr.units) gNe_ok (do_vr 3) (do_tm (de_lst dos_nil))) (de_ix L2.ix_seq gIx_ok (do_vr 3) (do_tm (de_un L2.un_neg gNeg_ok (do_tm de_int)))) (de_var 2)) hN)
        (dss_cons (ms2 := [.pr, .sh, .sh, .ow, .sh, .sh, .sh, .sh, .sh]) (ds_asg (m := .sh) 7 (de_bin DI.op_addD gAdd_ok (do_tm de_int) (do_tm (de_ro (de_call (kinds := [.ln 0, .sh]) (g__law_take c) (hr.mono (by decide)) am (cb_0 c.F__law_take 2 [] [0, 1] fun _ _ _ _ _ _ us ws h1 h2 => match us, ws, h1, h2 with | [u0, u1], [], _, _ => rfl) (fun _ => .nil) rfl c.g__law_take c.F__law_take.kp (dos_cons (do_vr 0) (dos_cons (do_tm (de_var 6)) dos_nil)))))) hN)
        (dss_cons (ms2 := [.pr, .sh, .sh, .ow, .sh, .sh, .sh, .sh, .sh]) (ds_asg (m := .sh) 8 (de_bin L2.op_sub gSub_ok (do_tm (de_bin DI.op_addD gAdd_ok (do_tm (de_bin L2.op_fdivW gFdiv_ok (do_tm (de_var 6)) (do_tm (de_bin DI.op_addD gAdd_ok (do_tm de_int) (do_tm (de_ro (de_call (kinds := [.ln 0, .sh]) (g__law_take c) (hr.mono (by decide)) am (cb_0 c.F__law_take 2 [] [0, 1] fun _ _ _ _ _ _ us ws h1 h2 => match us, ws, h1, h2 with | [u0, u1], [], _, _ => rfl) (fun _ => .nil) rfl c.g__law_take c.F__law_take.kp (dos_cons (do_vr 0) (dos_cons (do_tm de_int) dos_nil))))))))) (do_tm (de_ro (de_call (kinds := [.ln 0, .sh]) (g__law_take c) (hr.mono (by decide)) am (cb_0 c.F__law_take 2 [] [0, 1] fun _ _ _ _ _ _ us ws h1 h2 => match us, ws, h1, h2 with | [u0, u1], [], _, _ => rfl) (fun _ => .nil) rfl c.g__law_take c.F__law_take.kp (dos_cons (do_vr 0) (dos_cons (do_tm de_int) dos_nil))))))) (do_tm de_int)) hN)
        (dss_one (ds_expr (de_mut 3 PySem.F.slot_list_append rfl L2.mt_append mApp_ok (dos_cons (do_tm (de_ix L2.ix_seq gIx_ok (do_tm (de_lst (dos_cons (do_tm (de_bin DI.op_addD gAdd_ok (do_tm de_int) (do_tm (de_ro (de_call (kinds := [.ln 0, .sh]) (g__law_take c) (hr.mono (by decide)) am (cb_0 c.F__law_take 2 [] [0, 1] fun _ _ _ _ _ _ us ws h1 h2 => match us, ws, h1, h2 with | [u0, u1], [], _, _ => rfl) (fun _ => .nil) rfl c.g__law_take c.F__law_take.kp (dos_cons (do_vr 0) (dos_cons (do_tm (de_var 2)) dos_nil))))))) (dos_cons (do_tm (de_var 7)) (dos_cons (do_tm (de_callB (L2.call_min2 rfl) gMin2_ok rfl c.n_min boot_min (dos_cons (do_tm (de_var 2)) (dos_cons (do_tm (de_callB (L2.call_max2 rfl) gMax2_ok rfl c.n_max boot_max (dos_cons (do_tm de_int) (dos_cons (do_tm (de_var 8)) dos_nil)))) dos_nil)))) (dos_cons (do_tm (de_var 7)) dos_nil)))))) (do_tm (de_var 4)))) dos_nil))))))) (passes_of rfl) rfl)
      (dss_share 3 rfl (dss_one (ds_ret (de_var 3)))))))
theorem sc__law_no_widths : FnScope ["bag", "chain", "odd", "at", "found"] ["bag", "chain"] (defScope s__law_no_widths) := ⟨rfl, rfl, rfl, by decide +kernel, rfl, by decide +kernel, by decide +kernel⟩
theorem g__law_no_widths (c : Say K mg) : FnG P w K mg base 2 c.a__law_no_widths c.d__law_no_widths ["bag", "chain"] (spF K mg [.pr, .sh] .sh F__law_no_widths) :=
  fn_g (N := ["bag", "chain", "odd", "at", "found"]) (ms' := [.pr, .sh, .sh, .sh, .sh]) (B := []) (ls := [.sh, .sh, .sh]) c.F__law_no_widths sc__law_no_widths rfl rfl (by decide) rfl fun cdv A outer s H E hr am => by
    have hN : (["bag", "chain", "odd", "at", "found"] : List Str).Nodup := sc__law_no_widths.nd
    exact (
      (dss_cons (ms2 := [.pr, .sh, .sh, .sh, .sh]) (ds_asg (m := .sh) 2 (de_ix L2.ix_seq gIx_ok (do_tm (de_lst (dos_cons (do_tm de_int) (dos_cons (do_tm (de_un L2.un_neg gNeg_ok (do_tm de_int))) (dos_cons (do_tm de_int) (dos_cons (do_tm (de_bin DI.op_powW gPow_ok (do_tm de_int) (do_tm de_int))) (dos_cons (do_tm de_bl) (dos_cons (do_tm de_bl) (dos_cons (do_tm de_non) (dos_cons (do_tm de_str) (dos_cons (do_tm (de_lst (dos_cons (do_tm de_int) dos_nil))) (dos_cons (do_tm (de_tup (dos_cons (do_tm de_int) dos_nil))) dos_nil)))))))))))) (do_tm (de_ro (de_call (kinds := [.ln 0, .sh]) (g__law_take c) (hr.mono (by decide)) am (cb_0 c.F__law_take 2 [] [0, 1] fun _ _ _ _ _ _ us ws h1 h2 => match us, ws, h1, h2 with | [u0, u1], [], _, _ => rfl) (fun _ => .nil) rfl c.g__law_take c.F__law_take.kp (dos_cons (do_vr 0) (dos_cons (do_tm de_int) dos_nil)))))) hN)
      (dss_cons (ms2 := [.pr, .sh, .sh, .sh, .sh]) (ds_asg (m := .sh) 3 (de_ro (de_call (kinds := [.ln 0, .sh]) (g__law_take c) (hr.mono (by decide)) am (cb_0 c.F__law_take 2 [] [0, 1] fun _ _ _ _ _ _ us ws h1 h2 => match us, ws, h1, h2 with | [u0, u1], [], _, _ => rfl) (fun _ => .nil) rfl c.g__law_take c.F__law_take.kp (dos_cons (do_vr 0) (dos_cons (do_tm (de_bin DI.op_addD gAdd_ok (do_tm (de_callB L2.call_len gLen_ok rfl c.n_len boot_len (dos_cons (do_tm (de_var 1)) dos_nil))) (do_tm de_int))) dos_nil)))) hN)
      (dss_cons (ms2 := [.pr, .sh, .sh, .sh, .sh]) (ds_asg (m := .sh) 4 (de_lst (dos_cons (do_tm (de_bin DI.op_addD gAdd_ok (do_tm (de_bin DI.op_addD gAdd_ok (do_tm (de_sl01 (do_tm (de_var 1)) (do_tm (de_var 3)))) (do_tm (de_lst (dos_cons (do_tm (de_var 2)) dos_nil))))) (do_tm (de_sl10 (do_tm (de_var 1)) (do_tm (de_var 3)))))) (dos_cons (do_tm (de_bin DI.op_addD gAdd_ok (do_tm (de_lst (dos_cons (do_tm (de_var 2)) dos_nil))) (do_tm (de_var 1)))) (dos_cons (do_tm (de_lst (dos_cons (do_tm (de_var 2)) dos_nil))) (dos_cons (do_tm (de_callTy L2.call_tuple_of gTuple_ok rfl c.n_tuple boot_tuple (dos_cons (do_tm (de_var 1)) dos_nil))) (dos_cons (do_tm de_non) (dos_cons (do_tm de_str) (dos_cons (do_tm de_int) (dos_cons (do_tm de_dic0) (dos_cons (do_tm de_str) (dos_cons (do_tm (de_tup (dos_cons (do_tm (de_var 1)) dos_nil))) dos_nil))))))))))) hN)
      (dss_one (ds_ret (de_ix L2.ix_seq gIx_ok (do_tm (de_var 4)) (do_tm (de_ro (de_call (kinds := [.ln 0, .sh]) (g__law_take c) (hr.mono (by decide)) am (cb_0 c.F__law_take 2 [] [0, 1] fun _ _ _ _ _ _ us ws h1 h2 => match us, ws, h1, h2 with | [u0, u1], [], _, _ => rfl) (fun _ => .nil) rfl c.g__law_take c.F__law_take.kp (dos_cons (do_vr 0) (dos_cons (do_tm de_int) dos_nil))))))))))))
theorem sc_is_integer : FnScope ["value", "low", "high"] ["value", "low", "high"] (defScope s_is_integer) := ⟨rfl, rfl, rfl, by decide +kernel, rfl, by decide +kernel, by decide +kernel⟩
theorem g_is_integer (c : Say K mg) : FnG P w K mg base 1 c.a_is_integer c.d_is_integer ["value", "low", "high"] (spF K mg [.sh, .sh, .sh] .sh F_is_integer) :=
  fn_g (N := ["value", "low", "high"]) (ms' := [.sh, .sh, .sh]) (B := []) (ls := []) c.F_is_integer sc_is_integer rfl rfl (by decide) rfl fun cdv A outer s H E hr am => by
    have hN : (["value", "low", "high"] : List Str).Nodup := sc_is_integer.nd
    exact (
      (dss_one (ds_ret (de_and (de_callB L2.call_isi gIsi_ok rfl c.n_isinstance boot_isinstance (dos_cons (do_tm (de_var 0)) (dos_cons (do_tm (de_ty rfl c.n_int boot_int)) dos_nil))) (de_and (de_not (de_callB L2.call_isi gIsi_ok rfl c.n_isinstance boot_isinstance (dos_cons (do_tm (de_var 0)) (dos_cons (do_tm (de_ty rfl c.n_bool boot_bool)) dos_nil)))) (de_one (de_chain L2.op_le L2.op_le gLe_ok gLe_ok (de_var 1) (de_var 0) (de_var 2))))))))
theorem sc_is_width : FnScope ["value"] ["value"] (defScope s_is_width) := ⟨rfl, rfl, rfl, by decide +kernel, rfl, by decide +kernel, by decide +kernel⟩
theorem g_is_width (c : Say K mg) : FnG P w K mg base 2 c.a_is_width c.d_is_width ["value"] (spF K mg [.sh] .sh F_is_width) :=
  fn_g (N := ["value"]) (ms' := [.sh]) (B := []) (ls := []) c.F_is_width sc_is_width rfl rfl (by decide) rfl fun cdv A outer s H E hr am => by
    have hN : (["value"] : List Str).Nodup := sc_is_width.nd
    exact (
      (dss_one (ds_ret (de_ro (de_call (kinds := [.sh, .sh, .sh]) (g_is_integer c) (hr.mono (by decide)) am (cb_0 c.F_is_integer 3 [] [0, 1, 2] fun _ _ _ _ _ _ us ws h1 h2 => match us, ws, h1, h2 with | [u0, u1, u2], [], _, _ => rfl) (fun _ => .nil) rfl c.g_is_integer c.F_is_integer.kp (dos_cons (do_tm (de_var 0)) (dos_cons (do_tm de_int) (dos_cons (do_tm (de_gInt rfl c.i_MAX_WIDTH)) dos_nil))))))))
theorem sc_is_widths : FnScope ["value", "width"] ["value"] (defScope s_is_widths) := ⟨rfl, rfl, rfl, by decide +kernel, rfl, by decide +kernel, by decide +kernel⟩
theorem g_is_widths (c : Say K mg) : FnG P w K mg base 3 c.a_is_widths c.d_is_widths ["value"] (spF K mg [.sh] .sh F_is_widths) :=
  fn_g (N := ["value", "width"]) (ms' := [.sh, .sh]) (B := []) (ls := [.sh]) c.F_is_widths sc_is_widths rfl rfl (by decide) rfl fun cdv A outer s H E hr am => by
    have hN : (["value", "width"] : List Str).Nodup := sc_is_widths.nd
    exact (
      (dss_one (ds_ret (de_and (de_callB L2.call_isi gIsi_ok rfl c.n_isinstance boot_isinstance (dos_cons (do_tm (de_var 0)) (dos_cons (do_tm (de_ty rfl c.n_list boot_list)) dos_nil))) (de_one (de_callB (L2.cr_all rfl) gAll_ok rfl c.n_all boot_all (dos_cons (do_tm (de_lc (own := [("width", 1)]) (di_lst (de_var 0)) (blkOk_by (N := ["value", "width"]) (sc := defScope s_is_widths) (by decide +kernel)) (fun _ _ _ _ _ => (pg_nm 1 hN)) (fun _ _ _ _ _ => dts_nil) (fun _ _ _ _ _ => (de_ro (de_call (kinds := [.sh]) (g_is_width c) (hr.mono (by decide)) am (cb_0 c.F_is_width 1 [] [0] fun _ _ _ _ _ _ us ws h1 h2 => match us, ws, h1, h2 with | [u0], [], _, _ => rfl) (fun _ => .nil) rfl c.g_is_width c.F_is_width.kp (dos_cons (do_tm (de_var 1)) dos_nil)))) rfl hN)) dos_nil)))))))
theorem sc_require_widths : FnScope ["widths"] ["widths"] (defScope s_require_widths) := ⟨rfl, rfl, rfl, by decide +kernel, rfl, by decide +kernel, by decide +kernel⟩
theorem g_require_widths (c : Say K mg) : FnG P w K mg base 4 c.a_require_widths c.d_require_widths ["widths"] (spF K mg [.sh] .sh F_require_widths) :=
  fn_g (N := ["widths"]) (ms' := [.sh]) (B := []) (ls := []) c.F_require_widths sc_require_widths rfl rfl (by decide) rfl fun cdv A outer s H E hr am => by
    have hN : (["widths"] : List Str).Nodup := sc_require_widths.nd
    exact (
      (dss_one (ds_if (dt_not (dt_val (de_ro (de_call (kinds := [.sh]) (g_is_widths c) (hr.mono (by decide)) am (cb_0 c.F_is_widths 1 [] [0] fun _ _ _ _ _ _ us ws h1 h2 => match us, ws, h1, h2 with | [u0], [], _, _ => rfl) (fun _ => .nil) rfl c.g_is_widths c.F_is_widths.kp (dos_cons (do_tm (de_var 0)) dos_nil)))))
        (dss_one (ds_raise rfl c.x_InvalidWidths rfl rfl))
        dss_nil)))
theorem sc_border_lengths : FnScope ["values", "found", "end", "border"] ["values"] (defScope s_border_lengths) := ⟨rfl, rfl, rfl, by decide +kernel, rfl, by decide +kernel, by decide +kernel⟩
theorem g_border_lengths (c : Say K mg) : FnG P w K mg base 1 c.a_border_lengths c.d_border_lengths ["values"] (spF K mg [.sh] .sh F_border_lengths) :=
  fn_g (N := ["values", "found", "end", "border"]) (ms' := [.sh, .ow, .sh, .sh]) (B := []) (ls := [.ow, .sh, .sh]) c.F_border_lengths sc_border_lengths rfl rfl (by decide) rfl fun cdv A outer s H E hr am => by
    have hN : (["values", "found", "end", "border"] : List Str).Nodup := sc_border_lengths.nd
    exact (
      (dss_cons (ms2 := [.sh, .ow, .sh, .sh]) (ds_asg (m := .ow) 1 (de_lst (dos_cons (do_tm de_int) (dos_cons (do_tm de_int) dos_nil))) hN)
      (dss_cons (ms2 := [.sh, .ow, .sh, .sh]) (ds_for (di_r2 rfl c.n_range (dos_cons (do_tm de_int) (dos_cons (do_tm (de_callB L2.call_len gLen_ok rfl c.n_len boot_len (dos_cons (do_tm (de_var 0)) dos_nil))) dos_nil))) (pg_nm 2 hN)
        (dss_cons (ms2 := [.sh, .ow, .sh, .sh]) (ds_asg (m := .sh) 3 (de_ix L2.ix_seq gIx_ok (do_vr 1) (do_tm (de_var 2))) hN)
        (dss_cons (ms2 := [.sh, .ow, .sh, .sh]) (ds_while (10 ^ 80) (dw_pt (dw_and (dt_cmp L2.op_gt gGt_ok (do_tm (de_var 3)) (do_tm de_int)) (dw_and1 (dt_cmp (DI.op_neX hr.units) gNe_ok (do_tm (de_ix L2.ix_seq gIx_ok (do_tm (de_var 0)) (do_tm (de_var 3)))) (do_tm (de_ix L2.ix_seq gIx_ok (do_tm (de_var 0)) (do_tm (de_var 2))))))))
          (dss_one (ds_asg (m := .sh) 3 (de_ix L2.ix_seq gIx_ok (do_vr 1) (do_tm (de_var 3))) hN)) (passes_of rfl))
        (dss_one (ds_expr (de_mut 1 PySem.F.slot_list_append rfl L2.mt_append mApp_ok (dos_cons (do_tm (de_bin DI.op_addD gAdd_ok (do_tm (de_var 3)) (do_tm (de_callTy L2.call_int1 gInt_ok rfl c.n_int boot_int (dos_cons (do_tm (de_cmp (DI.op_eqX hr.units) gEq_ok (do_tm (de_ix L2.ix_seq gIx_ok (do_tm (de_var 0)) (do_tm (de_var 3)))) (do_tm (de_ix L2.ix_seq gIx_ok (do_tm (de_var 0)) (do_tm (de_var 2)))))) dos_nil))))) dos_nil)))))) (passes_of rfl) rfl)
      (dss_one (ds_ret (de_sl01 (do_vr 1) (do_tm (de_bin DI.op_addD gAdd_ok (do_tm (de_callB L2.call_len gLen_ok rfl c.n_len boot_len (dos_cons (do_tm (de_var 0)) dos_nil))) (do_tm de_int)))))))))
theorem sc_least_period_of : FnScope ["values"] ["values"] (defScope s_least_period_of) := ⟨rfl, rfl, rfl, by decide +kernel, rfl, by decide +kernel, by decide +kernel⟩
theorem g_least_period_of (c : Say K mg) : FnG P w K mg base 2 c.a_least_period_of c.d_least_period_of ["values"] (spF K mg [.sh] .sh F_least_period_of) :=
  fn_g (N := ["values"]) (ms' := [.sh]) (B := []) (ls := []) c.F_least_period_of sc_least_period_of rfl rfl (by decide) rfl fun cdv A outer s H E hr am => by
    have hN : (["values"] : List Str).Nodup := sc_least_period_of.nd
    exact (
      (dss_one (ds_ret (de_bin L2.op_sub gSub_ok (do_tm (de_callB L2.call_len gLen_ok rfl c.n_len boot_len (dos_cons (do_tm (de_var 0)) dos_nil))) (do_tm (de_ix L2.ix_seq gIx_ok (do_tm (de_ro (de_call (kinds := [.sh]) (g_border_lengths c) (hr.mono (by decide)) am (cb_0 c.F_border_lengths 1 [] [0] fun _ _ _ _ _ _ us ws h1 h2 => match us, ws, h1, h2 with | [u0], [], _, _ => rfl) (fun _ => .nil) rfl c.g_border_lengths c.F_border_lengths.kp (dos_cons (do_tm (de_var 0)) dos_nil)))) (do_tm (de_un L2.un_neg gNeg_ok (do_tm de_int)))))))))
theorem sc_column_of : FnScope ["widths", "position", "width"] ["widths", "position"] (defScope s_column_of) := ⟨rfl, rfl, rfl, by decide +kernel, rfl, by decide +kernel, by decide +kernel⟩
theorem g_column_of (c : Say K mg) : FnG P w K mg base 1 c.a_column_of c.d_column_of ["widths", "position"] (spF K mg [.sh, .sh] .sh F_column_of) :=
  fn_g (N := ["widths", "position", "width"]) (ms' := [.sh, .sh, .sh]) (B := []) (ls := [.sh]) c.F_column_of sc_column_of rfl rfl (by decide) rfl fun cdv A outer s H E hr am => by
    have hN : (["widths", "position", "width"] : List Str).Nodup := sc_column_of.nd
    exact (
      (dss_cons (ms2 := [.sh, .sh, .sh]) (ds_for (di_lst (de_var 0)) (pg_nm 2 hN)
        (dss_one (ds_aug 1 L2.iop_mod gModI_ok (de_var 2) hN)) (passes_of rfl) rfl)
      (dss_one (ds_ret (de_var 1)))))
theorem sc_first_columns : FnScope ["widths", "length", "position"] ["widths", "length"] (defScope s_first_columns) := ⟨rfl, rfl, rfl, by decide +kernel, rfl, by decide +kernel, by decide +kernel⟩
theorem g_first_columns (c : Say K mg) : FnG P w K mg base 2 c.a_first_columns c.d_first_columns ["widths", "length"] (spF K mg [.sh, .sh] .sh F_first_columns) :=
  fn_g (N := ["widths", "length", "position"]) (ms' := [.sh, .sh, .sh]) (B := []) (ls := [.sh]) c.F_first_columns sc_first_columns rfl rfl (by decide) rfl fun cdv A outer s H E hr am => by
    have hN : (["widths", "length", "position"] : List Str).Nodup := sc_first_columns.nd
    exact (
      (dss_one (ds_ret (de_lc (own := [("position", 2)]) (di_r1 rfl c.n_range (dos_cons (do_tm (de_var 1)) dos_nil)) (blkOk_by (N := ["widths", "length", "position"]) (sc := defScope s_first_columns) (by decide +kernel)) (fun _ _ _ _ _ => (pg_nm 2 hN)) (fun _ _ _ _ _ => dts_nil) (fun _ _ _ _ _ => (de_ro (de_call (kinds := [.sh, .sh]) (g_column_of c) (hr.mono (by decide)) am (cb_0 c.F_column_of 2 [] [0, 1] fun _ _ _ _ _ _ us ws h1 h2 => match us, ws, h1, h2 with | [u0, u1], [], _, _ => rfl) (fun _ => .nil) rfl c.g_column_of c.F_column_of.kp (dos_cons (do_tm (de_var 0)) (dos_cons (do_tm (de_var 2)) dos_nil))))) rfl hN))))
theorem sc_whole_period : FnScope ["widths", "least"] ["widths"] (defScope s_whole_period) := ⟨rfl, rfl, rfl, by decide +kernel, rfl, by decide +kernel, by decide +kernel⟩
theorem g_whole_period (c : Say K mg) : FnG P w K mg base 3 c.a_whole_period c.d_whole_period ["widths"] (spF K mg [.sh] .sh F_whole_period) :=
  fn_g (N := ["widths", "least"]) (ms' := [.sh, .sh]) (B := []) (ls := [.sh]) c.F_whole_period sc_whole_period rfl rfl (by decide) rfl fun cdv A outer s H E hr am => by
    have hN : (["widths", "least"] : List Str).Nodup := sc_whole_period.nd
    exact (
      (dss_cons (ms2 := [.sh, .sh]) (ds_if (dt_cmp (DI.op_eqX hr.units) gEq_ok (do_tm (de_var 0)) (do_tm (de_lst dos_nil)))
        (dss_one (ds_ret de_non))
        dss_nil)
      (dss_cons (ms2 := [.sh, .sh]) (ds_asg (m := .sh) 1 (de_ro (de_call (kinds := [.sh]) (g_least_period_of c) (hr.mono (by decide)) am (cb_0 c.F_least_period_of 1 [] [0] fun _ _ _ _ _ _ us ws h1 h2 => match us, ws, h1, h2 with | [u0], [], _, _ => rfl) (fun _ => .nil) rfl c.g_least_period_of c.F_least_period_of.kp (dos_cons (do_tm (de_ro (de_call (kinds := [.sh, .sh]) (g_first_columns c) (hr.mono (by decide)) am (cb_0 c.F_first_columns 2 [] [0, 1] fun _ _ _ _ _ _ us ws h1 h2 => match us, ws, h1, h2 with | [u0, u1], [], _, _ => rfl) (fun _ => .nil) rfl c.g_first_columns c.F_first_columns.kp (dos_cons (do_tm (de_var 0)) (dos_cons (do_tm (de_ix L2.ix_seq gIx_ok (do_tm (de_var 0)) (do_tm de_int))) dos_nil))))) dos_nil))) hN)
      (dss_one (ds_ret (de_if (dt_cmp (DI.op_eqX hr.units) gEq_ok (do_tm (de_bin L2.op_mod gMod_ok (do_tm (de_ix L2.ix_seq gIx_ok (do_tm (de_var 0)) (do_tm de_int))) (do_tm (de_var 1)))) (do_tm de_int)) (de_var 1) (de_ix L2.ix_seq gIx_ok (do_tm (de_var 0)) (do_tm de_int))))))))
theorem sc_descent_of : FnScope ["values", "borders", "length", "found"] ["values"] (defScope s_descent_of) := ⟨rfl, rfl, rfl, by decide +kernel, rfl, by decide +kernel, by decide +kernel⟩
theorem g_descent_of (c : Say K mg) : FnG P w K mg base 2 c.a_descent_of c.d_descent_of ["values"] (spF K mg [.sh] .sh F_descent_of) :=
  fn_g (N := ["values", "borders", "length", "found"]) (ms' := [.sh, .sh, .sh, .sh]) (B := []) (ls := [.sh, .sh, .ow]) c.F_descent_of sc_descent_of rfl rfl (by decide) rfl fun cdv A outer s H E hr am => by
    have hN : (["values", "borders", "length", "found"] : List Str).Nodup := sc_descent_of.nd
    exact (
      (dss_cons (ms2 := [.sh, .sh, .sh, .ow]) (ds_asg (m := .sh) 1 (de_ro (de_call (kinds := [.sh]) (g_border_lengths c) (hr.mono (by decide)) am (cb_0 c.F_border_lengths 1 [] [0] fun _ _ _ _ _ _ us ws h1 h2 => match us, ws, h1, h2 with | [u0], [], _, _ => rfl) (fun _ => .nil) rfl c.g_border_lengths c.F_border_lengths.kp (dos_cons (do_tm (de_var 0)) dos_nil))) hN)
      (dss_cons (ms2 := [.sh, .sh, .sh, .ow]) (ds_asg (m := .sh) 2 (de_callB L2.call_len gLen_ok rfl c.n_len boot_len (dos_cons (do_tm (de_var 0)) dos_nil)) hN)
      (dss_cons (ms2 := [.sh, .sh, .sh, .ow]) (ds_asg (m := .ow) 3 (de_lst dos_nil) hN)
      (dss_cons (ms2 := [.sh, .sh, .sh, .ow]) (ds_while (10 ^ 80) (dt_cmp L2.op_gt gGt_ok (do_tm (de_ix L2.ix_seq gIx_ok (do_tm (de_var 1)) (do_tm (de_var 2)))) (do_tm de_int))
        (dss_cons (ms2 := [.sh, .sh, .sh, .ow]) (ds_aug 2 L2.iop_sub gSubI_ok (de_ix L2.ix_seq gIx_ok (do_tm (de_var 1)) (do_tm (de_var 2))) hN)
        (dss_one (ds_expr (de_mut 3 PySem.F.slot_list_append rfl L2.mt_append mApp_ok (dos_cons (do_tm (de_var 2)) dos_nil))))) (passes_of rfl))
      (dss_share 3 rfl (dss_one (ds_ret (de_var 3)))))))))
theorem sc_normal_of : FnScope ["widths", "least"] ["widths"] (defScope s_normal_of) := ⟨rfl, rfl, rfl, by decide +kernel, rfl, by decide +kernel, by decide +kernel⟩
theorem g_normal_of (c : Say K mg) : FnG P w K mg base 4 c.a_normal_of c.d_normal_of ["widths"] (spF K mg [.sh] .sh F_normal_of) :=
  fn_g (N := ["widths", "least"]) (ms' := [.sh, .sh]) (B := []) (ls := [.sh]) c.F_normal_of sc_normal_of rfl rfl (by decide) rfl fun cdv A outer s H E hr am => by
    have hN : (["widths", "least"] : List Str).Nodup := sc_normal_of.nd
    exact (
      (dss_cons (ms2 := [.sh, .sh]) (ds_asg (m := .sh) 1 (de_ro (de_call (kinds := [.sh]) (g_whole_period c) (hr.mono (by decide)) am (cb_0 c.F_whole_period 1 [] [0] fun _ _ _ _ _ _ us ws h1 h2 => match us, ws, h1, h2 with | [u0], [], _, _ => rfl) (fun _ => .nil) rfl c.g_whole_period c.F_whole_period.kp (dos_cons (do_tm (de_var 0)) dos_nil))) hN)
      (dss_one (ds_ret (de_if (dt_cmp DI.op_isD gIs_ok (do_tm (de_var 1)) (do_tm de_non)) (de_lst dos_nil) (de_bin DI.op_addD gAdd_ok (do_tm (de_lst (dos_cons (do_tm (de_var 1)) dos_nil))) (do_tm (de_ro (de_call (kinds := [.sh]) (g_descent_of c) (hr.mono (by decide)) am (cb_0 c.F_descent_of 1 [] [0] fun _ _ _ _ _ _ us ws h1 h2 => match us, ws, h1, h2 with | [u0], [], _, _ => rfl) (fun _ => .nil) rfl c.g_descent_of c.F_descent_of.kp (dos_cons (do_tm (de_ro (de_call (kinds := [.sh, .sh]) (g_first_columns c) (hr.mono (by decide)) am (cb_0 c.F_first_columns 2 [] [0, 1] fun _ _ _ _ _ _ us ws h1 h2 => match us, ws, h1, h2 with | [u0, u1], [], _, _ => rfl) (fun _ => .nil) rfl c.g_first_columns c.F_first_columns.kp (dos_cons (do_tm (de_var 0)) (dos_cons (do_tm (de_var 1)) dos_nil))))) dos_nil))))))))))
theorem sc_effective_of : FnScope ["widths", "found", "width"] ["widths"] (defScope s_effective_of) := ⟨rfl, rfl, rfl, by decide +kernel, rfl, by decide +kernel, by decide +kernel⟩
theorem g_effective_of (c : Say K mg) : FnG P w K mg base 1 c.a_effective_of c.d_effective_of ["widths"] (spF K mg [.sh] .sh F_effective_of) :=
  fn_g (N := ["widths", "found", "width"]) (ms' := [.sh, .sh, .sh]) (B := []) (ls := [.ow, .sh]) c.F_effective_of sc_effective_of rfl rfl (by decide) rfl fun cdv A outer s H E hr am => by
    have hN : (["widths", "found", "width"] : List Str).Nodup := sc_effective_of.nd
    exact (
      (dss_cons (ms2 := [.sh, .ow, .sh]) (ds_asg (m := .ow) 1 (de_lst dos_nil) hN)
      (dss_cons (ms2 := [.sh, .ow, .sh]) (ds_for (di_lst (de_var 0)) (pg_nm 2 hN)
        (dss_one (ds_if (dw_pt (dw_or (dt_cmp (DI.op_eqX hr.units) gEq_ok (do_vr 1) (do_tm (de_lst dos_nil))) (dw_or1 (dt_cmp L2.op_lt gLt_ok (do_tm (de_var 2)) (do_tm (de_ix L2.ix_seq gIx_ok (do_vr 1) (do_tm (de_un L2.un_neg gNeg_ok (do_tm de_int)))))))))
          (dss_one (ds_expr (de_mut 1 PySem.F.slot_list_append rfl L2.mt_append mApp_ok (dos_cons (do_tm (de_var 2)) dos_nil))))
          dss_nil)) (passes_of rfl) rfl)
      (dss_share 1 rfl (dss_one (ds_ret (de_var 1)))))))
theorem sc_normal_form : FnScope ["widths"] ["widths"] (defScope s_normal_form) := ⟨rfl, rfl, rfl, by decide +kernel, rfl, by decide +kernel, by decide +kernel⟩
theorem g_normal_form (c : Say K mg) : FnG P w K mg base 5 c.a_normal_form c.d_normal_form ["widths"] (spF K mg [.sh] .sh F_normal_form) :=
  fn_g (N := ["widths"]) (ms' := [.sh]) (B := []) (ls := []) c.F_normal_form sc_normal_form rfl rfl (by decide) rfl fun cdv A outer s H E hr am => by
    have hN : (["widths"] : List Str).Nodup := sc_normal_form.nd
    exact (
      (dss_cons (ms2 := [.sh]) (ds_expr (de_ro (de_call (kinds := [.sh]) (g_require_widths c) (hr.mono (by decide)) am (cb_0 c.F_require_widths 1 [] [0] fun _ _ _ _ _ _ us ws h1 h2 => match us, ws, h1, h2 with | [u0], [], _, _ => rfl) (fun _ => .nil) rfl c.g_require_widths c.F_require_widths.kp (dos_cons (do_tm (de_var 0)) dos_nil))))
      (dss_one (ds_ret (de_ro (de_call (kinds := [.sh]) (g_normal_of c) (hr.mono (by decide)) am (cb_0 c.F_normal_of 1 [] [0] fun _ _ _ _ _ _ us ws h1 h2 => match us, ws, h1, h2 with | [u0], [], _, _ => rfl) (fun _ => .nil) rfl c.g_normal_of c.F_normal_of.kp (dos_cons (do_tm (de_ro (de_call (kinds := [.sh]) (g_effective_of c) (hr.mono (by decide)) am (cb_0 c.F_effective_of 1 [] [0] fun _ _ _ _ _ _ us ws h1 h2 => match us, ws, h1, h2 with | [u0], [], _, _ => rfl) (fun _ => .nil) rfl c.g_effective_of c.F_effective_of.kp (dos_cons (do_tm (de_var 0)) dos_nil)))) dos_nil)))))))
theorem sc__law_kind : FnScope ["e", "some", "found", "name", "applies"] ["e"] (defScope s__law_kind) := ⟨rfl, rfl, rfl, by decide +kernel, rfl, by decide +kernel, by decide +kernel⟩
theorem x__law_kind (c : Say K mg) : FnX P w K mg base 1 c.a__law_kind c.d__law_kind ["e"] (spF K mg [.sh] .sh F__law_kind) :=
  fn_x (N := ["e", "some", "found", "name", "applies"]) (ms' := [.sh, .sh, .sh, .sh, .sh]) (B := []) (ls := [.ow, .sh, .sh, .sh]) c.F__law_kind sc__law_kind rfl rfl (by decide) rfl fun cdv A outer s H E hr am hot => by
    have hN : (["e", "some", "found", "name", "applies"] : List Str).Nodup := sc__law_kind.nd
    exact (
      (dss_cons (ms2 := [.sh, .ow, .sh, .sh, .sh]) (ds_asg (m := .ow) 1 (de_lst (dos_cons (do_tm (de_tup (dos_cons (do_tm de_str) (dos_cons (do_tm (de_isE1 (cs := (["InvalidLength", "InvalidWidths"] : List Str)) (yes := (["InvalidWidths"] : List Str)) c.ex_cs c.ki_0 rfl c.g_InvalidWidths rfl c.n_isinstance (do_tm (de_var 0)))) dos_nil)))) (dos_cons (do_tm (de_tup (dos_cons (do_tm de_str) (dos_cons (do_tm (de_isE1 (cs := (["InvalidLength", "InvalidWidths"] : List Str)) (yes := (["InvalidLength"] : List Str)) c.ex_cs c.ki_1 rfl c.g_InvalidLength rfl c.n_isinstance (do_tm (de_var 0)))) dos_nil)))) dos_nil))) hN)
      (dss_cons (ms2 := [.sh, .ow, .sh, .sh, .sh]) (ds_asg (m := .ow) 1 (de_bin DI.op_addD gAdd_ok (do_vr 1) (do_tm (de_lst (dos_cons (do_tm (de_tup (dos_cons (do_tm de_str) (dos_cons (do_tm (de_isE1 (cs := (["InvalidLength", "InvalidWidths"] : List Str)) (yes := ([] : List Str)) c.ex_cs c.ki_2 rfl c.g_InvalidIndex rfl c.n_isinstance (do_tm (de_var 0)))) dos_nil)))) (dos_cons (do_tm (de_tup (dos_cons (do_tm de_str) (dos_cons (do_tm (de_isE1 (cs := (["InvalidLength", "InvalidWidths"] : List Str)) (yes := ([] : List Str)) c.ex_cs c.ki_3 rfl c.g_InvalidPieces rfl c.n_isinstance (do_tm (de_var 0)))) dos_nil)))) dos_nil))))) hN)
      (dss_cons (ms2 := [.sh, .ow, .sh, .sh, .sh]) (ds_asg (m := .ow) 1 (de_bin DI.op_addD gAdd_ok (do_vr 1) (do_tm (de_lst (dos_cons (do_tm (de_tup (dos_cons (do_tm de_str) (dos_cons (do_tm (de_isE1 (cs := (["InvalidLength", "InvalidWidths"] : List Str)) (yes := ([] : List Str)) c.ex_cs c.ki_4 rfl c.g_NotFitting rfl c.n_isinstance (do_tm (de_var 0)))) dos_nil)))) (dos_cons (do_tm (de_tup (dos_cons (do_tm de_str) (dos_cons (do_tm (de_isE1 (cs := (["InvalidLength", "InvalidWidths"] : List Str)) (yes := ([] : List Str)) c.ex_cs c.ki_5 rfl c.g_NotWrapped rfl c.n_isinstance (do_tm (de_var 0)))) dos_nil)))) dos_nil))))) hN)
      (dss_cons (ms2 := [.sh, .ow, .sh, .sh, .sh]) (ds_expr (de_mut 1 PySem.F.slot_list_append rfl L2.mt_append mApp_ok (dos_cons (do_tm (de_tup (dos_cons (do_tm de_str) (dos_cons (do_tm (de_isET (Cs := (["Conflict", "InvalidCommand", "InvalidPeriod", "InvalidPosition", "InvalidText"] : List Str)) (cs := (["InvalidLength", "InvalidWidths"] : List Str)) (yes := ([] : List Str)) c.ex_cs c.ki_6 (pa_cons (pe_glob (v := .ref (gAd K "Conflict")) rfl c.g_Conflict rfl) (pa_cons (pe_glob (v := .ref (gAd K "InvalidCommand")) rfl c.g_InvalidCommand rfl) (pa_cons (pe_glob (v := .ref (gAd K "InvalidPeriod")) rfl c.g_InvalidPeriod rfl) (pa_cons (pe_glob (v := .ref (gAd K "InvalidPosition")) rfl c.g_InvalidPosition rfl) (pa_cons (pe_glob (v := .ref (gAd K "InvalidText")) rfl c.g_InvalidText rfl) pa_nil rfl) rfl) rfl) rfl) rfl) rfl c.n_isinstance (do_tm (de_var 0)))) dos_nil)))) dos_nil)))
      (dss_cons (ms2 := [.sh, .ow, .sh, .sh, .sh]) (ds_expr (de_mut 1 PySem.F.slot_list_append rfl L2.mt_append mApp_ok (dos_cons (do_tm (de_tup (dos_cons (do_tm de_str) (dos_cons (do_tm (de_isET (Cs := (["NothingToUndo", "NoWidths", "ParseError", "TooMany"] : List Str)) (cs := (["InvalidLength", "InvalidWidths"] : List Str)) (yes := ([] : List Str)) c.ex_cs c.ki_7 (pa_cons (pe_glob (v := .ref (gAd K "NothingToUndo")) rfl c.g_NothingToUndo rfl) (pa_cons (pe_glob (v := .ref (gAd K "NoWidths")) rfl c.g_NoWidths rfl) (pa_cons (pe_glob (v := .ref (gAd K "ParseError")) rfl c.g_ParseError rfl) (pa_cons (pe_glob (v := .ref (gAd K "TooMany")) rfl c.g_TooMany rfl) pa_nil rfl) rfl) rfl) rfl) rfl c.n_isinstance (do_tm (de_var 0)))) dos_nil)))) dos_nil)))
      (dss_share 1 rfl (dss_cons (ms2 := [.sh, .sh, .sh, .sh, .sh]) (ds_lcQ (m := .sh) (own := [("name", 3), ("applies", 4)]) 2 (di_lstQ (de_var 1)) (blkOk_by (N := ["e", "some", "found", "name", "applies"]) (sc := defScope s__law_kind) (by decide +kernel)) (fun _ _ _ _ _ hq => (DI.pg_tupQ hq (L2.pgs_cons (L2.pg_name (i := 3) hN rfl (by first | exact .inl rfl | exact .inr rfl) (by first | exact .inl rfl | exact .inr rfl)) (L2.pgs_cons (L2.pg_name (i := 4) hN rfl (by first | exact .inl rfl | exact .inr rfl) (by first | exact .inl rfl | exact .inr rfl)) L2.pgs_nil)))) (fun _ _ _ _ _ => (dts_one (dt_val (de_var 4)))) (fun _ _ _ _ _ => (de_var 3)) hot hN (L2.sw_true rfl rfl rfl (by decide +kernel)))
      (dss_one (ds_ret (de_if (dw_pt (dw_and (dt_cmp (DI.op_eqX hr.units) gEq_ok (do_tm (de_callB L2.call_len gLen_ok rfl c.n_len boot_len (dos_cons (do_tm (de_var 2)) dos_nil))) (do_tm de_int)) (dw_and1 (dt_val (de_isEV (n := "ValueError") (cs := (["InvalidLength", "InvalidWidths"] : List Str)) (yes := (["InvalidLength", "InvalidWidths"] : List Str)) c.ex_cs c.ki_8 rfl c.n_ValueError (by decide +kernel) rfl c.n_isinstance (do_tm (de_var 0))))))) (de_ix L2.ix_seq gIx_ok (do_tm (de_var 2)) (do_tm de_int)) de_str)))))))))))
theorem g__law_kind (c : Say K mg) : FnG P w K mg base 1 c.a__law_kind c.d__law_kind ["e"] (spF K mg [.sh] .sh F__law_kind) :=
  fn_g (N := ["e", "some", "found", "name", "applies"]) (ms' := [.sh, .sh, .sh, .sh, .sh]) (B := []) (ls := [.ow, .sh, .sh, .sh]) c.F__law_kind sc__law_kind rfl rfl (by decide) rfl fun cdv A outer s H E hr am => by
    have hN : (["e", "some", "found", "name", "applies"] : List Str).Nodup := sc__law_kind.nd
    exact (
      (dss_cons (ms2 := [.sh, .ow, .sh, .sh, .sh]) (ds_asg (m := .ow) 1 (de_lst (dos_cons (do_tm (de_tup (dos_cons (do_tm de_str) (dos_cons (do_tm (de_isE1 (cs := (["InvalidLength", "InvalidWidths"] : List Str)) (yes := (["InvalidWidths"] : List Str)) c.ex_cs c.ki_0 rfl c.g_InvalidWidths rfl c.n_isinstance (do_tm (de_var 0)))) dos_nil)))) (dos_cons (do_tm (de_tup (dos_cons (do_tm de_str) (dos_cons (do_tm (de_isE1 (cs := (["InvalidLength", "InvalidWidths"] : List Str)) (yes := (["InvalidLength"] : List Str)) c.ex_cs c.ki_1 rfl c.g_InvalidLength rfl c.n_isinstance (do_tm (de_var 0)))) dos_nil)))) dos_nil))) hN)
      (dss_cons (ms2 := [.sh, .ow, .sh, .sh, .sh]) (ds_asg (m := .ow) 1 (de_bin DI.op_addD gAdd_ok (do_vr 1) (do_tm (de_lst (dos_cons (do_tm (de_tup (dos_cons (do_tm de_str) (dos_cons (do_tm (de_isE1 (cs := (["InvalidLength", "InvalidWidths"] : List Str)) (yes := ([] : List Str)) c.ex_cs c.ki_2 rfl c.g_InvalidIndex rfl c.n_isinstance (do_tm (de_var 0)))) dos_nil)))) (dos_cons (do_tm (de_tup (dos_cons (do_tm de_str) (dos_cons (do_tm (de_isE1 (cs := (["InvalidLength", "InvalidWidths"] : List Str)) (yes := ([] : List Str)) c.ex_cs c.ki_3 rfl c.g_InvalidPieces rfl c.n_isinstance (do_tm (de_var 0)))) dos_nil)))) dos_nil))))) hN)
      (dss_cons (ms2 := [.sh, .ow, .sh, .sh, .sh]) (ds_asg (m := .ow) 1 (de_bin DI.op_addD gAdd_ok (do_vr 1) (do_tm (de_lst (dos_cons (do_tm (de_tup (dos_cons (do_tm de_str) (dos_cons (do_tm (de_isE1 (cs := (["InvalidLength", "InvalidWidths"] : List Str)) (yes := ([] : List Str)) c.ex_cs c.ki_4 rfl c.g_NotFitting rfl c.n_isinstance (do_tm (de_var 0)))) dos_nil)))) (dos_cons (do_tm (de_tup (dos_cons (do_tm de_str) (dos_cons (do_tm (de_isE1 (cs := (["InvalidLength", "InvalidWidths"] : List Str)) (yes := ([] : List Str)) c.ex_cs c.ki_5 rfl c.g_NotWrapped rfl c.n_isinstance (do_tm (de_var 0)))) dos_nil)))) dos_nil))))) hN)
      (dss_cons (ms2 := [.sh, .ow, .sh, .sh, .sh]) (ds_expr (de_mut 1 PySem.F.slot_list_append rfl L2.mt_append mApp_ok (dos_cons (do_tm (de_tup (dos_cons (do_tm de_str) (dos_cons (do_tm (de_isET (Cs := (["Conflict", "InvalidCommand", "InvalidPeriod", "InvalidPosition", "InvalidText"] : List Str)) (cs := (["InvalidLength", "InvalidWidths"] : List Str)) (yes := ([] : List Str)) c.ex_cs c.ki_6 (pa_cons (pe_glob (v := .ref (gAd K "Conflict")) rfl c.g_Conflict rfl) (pa_cons (pe_glob (v := .ref (gAd K "InvalidCommand")) rfl c.g_InvalidCommand rfl) (pa_cons (pe_glob (v := .ref (gAd K "InvalidPeriod")) rfl c.g_InvalidPeriod rfl) (pa_cons (pe_glob (v := .ref (gAd K "InvalidPosition")) rfl c.g_InvalidPosition rfl) (pa_cons (pe_glob (v := .ref (gAd K "InvalidText")) rfl c.g_InvalidText rfl) pa_nil rfl) rfl) rfl) rfl) rfl) rfl c.n_isinstance (do_tm (de_var 0)))) dos_nil)))) dos_nil)))
      (dss_cons (ms2 := [.sh, .ow, .sh, .sh, .sh]) (ds_expr (de_mut 1 PySem.F.slot_list_append rfl L2.mt_append mApp_ok (dos_cons (do_tm (de_tup (dos_cons (do_tm de_str) (dos_cons (do_tm (de_isET (Cs := (["NothingToUndo", "NoWidths", "ParseError", "TooMany"] : List Str)) (cs := (["InvalidLength", "InvalidWidths"] : List Str)) (yes := ([] : List Str)) c.ex_cs c.ki_7 (pa_cons (pe_glob (v := .ref (gAd K "NothingToUndo")) rfl c.g_NothingToUndo rfl) (pa_cons (pe_glob (v := .ref (gAd K "NoWidths")) rfl c.g_NoWidths rfl) (pa_cons (pe_glob (v := .ref (gAd K "ParseError")) rfl c.g_ParseError rfl) (pa_cons (pe_glob (v := .ref (gAd K "TooMany")) rfl c.g_TooMany rfl) pa_nil rfl) rfl) rfl) rfl) rfl c.n_isinstance (do_tm (de_var 0)))) dos_nil)))) dos_nil)))
      (dss_share 1 rfl (dss_cons (ms2 := [.sh, .sh, .sh, .sh, .sh]) (ds_lc (m := .sh) (own := [("name", 3), ("applies", 4)]) 2 (di_lst (de_var 1)) (blkOk_by (N := ["e", "some", "found", "name", "applies"]) (sc := defScope s__law_kind) (by decide +kernel)) (fun _ _ _ _ _ => (L2.pg_tup rfl (L2.pgs_cons (L2.pg_name (i := 3) hN rfl (by first | exact .inl rfl | exact .inr rfl) (by first | exact .inl rfl | exact .inr rfl)) (L2.pgs_cons (L2.pg_name (i := 4) hN rfl (by first | exact .inl rfl | exact .inr rfl) (by first | exact .inl rfl | exact .inr rfl)) L2.pgs_nil)))) (fun _ _ _ _ _ => (dts_one (dt_val (de_var 4)))) (fun _ _ _ _ _ => (de_var 3)) rfl hN (L2.sw_true rfl rfl rfl (by decide +kernel)))
      (dss_one (ds_ret (de_if (dw_pt (dw_and (dt_cmp (DI.op_eqX hr.units) gEq_ok (do_tm (de_callB L2.call_len gLen_ok rfl c.n_len boot_len (dos_cons (do_tm (de_var 2)) dos_nil))) (do_tm de_int)) (dw_and1 (dt_val (de_isEV (n := "ValueError") (cs := (["InvalidLength", "InvalidWidths"] : List Str)) (yes := (["InvalidLength", "InvalidWidths"] : List Str)) c.ex_cs c.ki_8 rfl c.n_ValueError (by decide +kernel) rfl c.n_isinstance (do_tm (de_var 0))))))) (de_ix L2.ix_seq gIx_ok (do_tm (de_var 2)) (do_tm de_int)) de_str)))))))))))
theorem sc_require_length : FnScope ["length", "least", "greatest"] ["length", "least", "greatest"] (defScope s_require_length) := ⟨rfl, rfl, rfl, by decide +kernel, rfl, by decide +kernel, by decide +kernel⟩
theorem g_require_length (c : Say K mg) : FnG P w K mg base 3 c.a_require_length c.d_require_length ["length", "least", "greatest"] (spF K mg [.sh, .sh, .sh] .sh F_require_length) :=
  fn_g (N := ["length", "least", "greatest"]) (ms' := [.sh, .sh, .sh]) (B := []) (ls := []) c.F_require_length sc_require_length rfl rfl (by decide) rfl fun cdv A outer s H E hr am => by
    have hN : (["length", "least", "greatest"] : List Str).Nodup := sc_require_length.nd
    exact (
      (dss_one (ds_if (dt_not (dt_val (de_ro (de_call (kinds := [.sh, .sh, .sh]) (g_is_integer c) (hr.mono (by decide)) am (cb_0 c.F_is_integer 3 [] [0, 1, 2] fun _ _ _ _ _ _ us ws h1 h2 => match us, ws, h1, h2 with | [u0, u1, u2], [], _, _ => rfl) (fun _ => .nil) rfl c.g_is_integer c.F_is_integer.kp (dos_cons (do_tm (de_var 0)) (dos_cons (do_tm (de_var 1)) (dos_cons (do_tm (de_var 2)) dos_nil)))))))
        (dss_one (ds_raise rfl c.x_InvalidLength rfl rfl))
        dss_nil)))
theorem sc_period_below : FnScope ["widths", "length", "whole"] ["widths", "length"] (defScope s_period_below) := ⟨rfl, rfl, rfl, by decide +kernel, rfl, by decide +kernel, by decide +kernel⟩
theorem g_period_below (c : Say K mg) : FnG P w K mg base 4 c.a_period_below c.d_period_below ["widths", "length"] (spF K mg [.sh, .sh] .sh F_period_below) :=
  fn_g (N := ["widths", "length", "whole"]) (ms' := [.sh, .sh, .sh]) (B := []) (ls := [.sh]) c.F_period_below sc_period_below rfl rfl (by decide) rfl fun cdv A outer s H E hr am => by
    have hN : (["widths", "length", "whole"] : List Str).Nodup := sc_period_below.nd
    exact (
      (dss_cons (ms2 := [.sh, .sh, .sh]) (ds_asg (m := .sh) 2 (de_ro (de_call (kinds := [.sh]) (g_whole_period c) (hr.mono (by decide)) am (cb_0 c.F_whole_period 1 [] [0] fun _ _ _ _ _ _ us ws h1 h2 => match us, ws, h1, h2 with | [u0], [], _, _ => rfl) (fun _ => .nil) rfl c.g_whole_period c.F_whole_period.kp (dos_cons (do_tm (de_var 0)) dos_nil))) hN)
      (dss_cons (ms2 := [.sh, .sh, .sh]) (ds_if (dt_cmp DI.op_isD gIs_ok (do_tm (de_var 2)) (do_tm de_non))
        (dss_one (ds_ret (de_var 1)))
        dss_nil)
      (dss_cons (ms2 := [.sh, .sh, .sh]) (ds_if (dt_cmp L2.op_ge gGe_ok (do_tm (de_var 1)) (do_tm (de_bin DI.op_mulD gMul_ok (do_tm de_int) (do_tm (de_var 2)))))
        (dss_one (ds_ret (de_var 2)))
        dss_nil)
      (dss_one (ds_ret (de_ro (de_call (kinds := [.sh]) (g_least_period_of c) (hr.mono (by decide)) am (cb_0 c.F_least_period_of 1 [] [0] fun _ _ _ _ _ _ us ws h1 h2 => match us, ws, h1, h2 with | [u0], [], _, _ => rfl) (fun _ => .nil) rfl c.g_least_period_of c.F_least_period_of.kp (dos_cons (do_tm (de_ro (de_call (kinds := [.sh, .sh]) (g_first_columns c) (hr.mono (by decide)) am (cb_0 c.F_first_columns 2 [] [0, 1] fun _ _ _ _ _ _ us ws h1 h2 => match us, ws, h1, h2 with | [u0, u1], [], _, _ => rfl) (fun _ => .nil) rfl c.g_first_columns c.F_first_columns.kp (dos_cons (do_tm (de_var 0)) (dos_cons (do_tm (de_var 1)) dos_nil))))) dos_nil)))))))))
theorem sc_descent_to : FnScope ["widths", "length", "least"] ["widths", "length"] (defScope s_descent_to) := ⟨rfl, rfl, rfl, by decide +kernel, rfl, by decide +kernel, by decide +kernel⟩
theorem g_descent_to (c : Say K mg) : FnG P w K mg base 5 c.a_descent_to c.d_descent_to ["widths", "length"] (spF K mg [.sh, .sh] .sh F_descent_to) :=
  fn_g (N := ["widths", "length", "least"]) (ms' := [.sh, .sh, .sh]) (B := []) (ls := [.sh]) c.F_descent_to sc_descent_to rfl rfl (by decide) rfl fun cdv A outer s H E hr am => by
    have hN : (["widths", "length", "least"] : List Str).Nodup := sc_descent_to.nd
    exact (
      (dss_cons (ms2 := [.sh, .sh, .sh]) (ds_asg (m := .sh) 2 (de_ro (de_call (kinds := [.sh, .sh]) (g_period_below c) (hr.mono (by decide)) am (cb_0 c.F_period_below 2 [] [0, 1] fun _ _ _ _ _ _ us ws h1 h2 => match us, ws, h1, h2 with | [u0, u1], [], _, _ => rfl) (fun _ => .nil) rfl c.g_period_below c.F_period_below.kp (dos_cons (do_tm (de_var 0)) (dos_cons (do_tm (de_var 1)) dos_nil)))) hN)
      (dss_one (ds_ret (de_if (dt_cmp (DI.op_eqX hr.units) gEq_ok (do_tm (de_var 2)) (do_tm (de_var 1))) (de_lst dos_nil) (de_bin DI.op_addD gAdd_ok (do_tm (de_lst (dos_cons (do_tm (de_var 2)) dos_nil))) (do_tm (de_ro (de_call (kinds := [.sh]) (g_descent_of c) (hr.mono (by decide)) am (cb_0 c.F_descent_of 1 [] [0] fun _ _ _ _ _ _ us ws h1 h2 => match us, ws, h1, h2 with | [u0], [], _, _ => rfl) (fun _ => .nil) rfl c.g_descent_of c.F_descent_of.kp (dos_cons (do_tm (de_ro (de_call (kinds := [.sh, .sh]) (g_first_columns c) (hr.mono (by decide)) am (cb_0 c.F_first_columns 2 [] [0, 1] fun _ _ _ _ _ _ us ws h1 h2 => match us, ws, h1, h2 with | [u0, u1], [], _, _ => rfl) (fun _ => .nil) rfl c.g_first_columns c.F_first_columns.kp (dos_cons (do_tm (de_var 0)) (dos_cons (do_tm (de_var 2)) dos_nil))))) dos_nil))))))))))
theorem sc_descent : FnScope ["widths", "length"] ["widths", "length"] (defScope s_descent) := ⟨rfl, rfl, rfl, by decide +kernel, rfl, by decide +kernel, by decide +kernel⟩
theorem g_descent (c : Say K mg) : FnG P w K mg base 6 c.a_descent c.d_descent ["widths", "length"] (spF K mg [.sh, .sh] .sh F_descent) :=
  fn_g (N := ["widths", "length"]) (ms' := [.sh, .sh]) (B := []) (ls := []) c.F_descent sc_descent rfl rfl (by decide) rfl fun cdv A outer s H E hr am => by
    have hN : (["widths", "length"] : List Str).Nodup := sc_descent.nd
    exact (
      (dss_cons (ms2 := [.sh, .sh]) (ds_expr (de_ro (de_call (kinds := [.sh]) (g_require_widths c) (hr.mono (by decide)) am (cb_0 c.F_require_widths 1 [] [0] fun _ _ _ _ _ _ us ws h1 h2 => match us, ws, h1, h2 with | [u0], [], _, _ => rfl) (fun _ => .nil) rfl c.g_require_widths c.F_require_widths.kp (dos_cons (do_tm (de_var 0)) dos_nil))))
      (dss_cons (ms2 := [.sh, .sh]) (ds_expr (de_ro (de_call (kinds := [.sh, .sh, .sh]) (g_require_length c) (hr.mono (by decide)) am (cb_d c.F_require_length 2 [] [0, 1, 3] (by decide) fun _ _ _ _ _ _ _ us ws its h1 h2 h3 => match us, ws, its, h1, h2, h3 with | [u0, u1], [], [d0, d1], _, _, _ => ⟨_, rfl, rfl⟩) (fun _ => (.cons (.int _) (.cons (.int _) .nil))) rfl c.g_require_length c.F_require_length.kp (dos_cons (do_tm (de_var 1)) (dos_cons (do_tm de_int) dos_nil)))))
      (dss_one (ds_ret (de_ro (de_call (kinds := [.sh, .sh]) (g_descent_to c) (hr.mono (by decide)) am (cb_0 c.F_descent_to 2 [] [0, 1] fun _ _ _ _ _ _ us ws h1 h2 => match us, ws, h1, h2 with | [u0, u1], [], _, _ => rfl) (fun _ => .nil) rfl c.g_descent_to c.F_descent_to.kp (dos_cons (do_tm (de_ro (de_call (kinds := [.sh]) (g_effective_of c) (hr.mono (by decide)) am (cb_0 c.F_effective_of 1 [] [0] fun _ _ _ _ _ _ us ws h1 h2 => match us, ws, h1, h2 with | [u0], [], _, _ => rfl) (fun _ => .nil) rfl c.g_effective_of c.F_effective_of.kp (dos_cons (do_tm (de_var 0)) dos_nil)))) (dos_cons (do_tm (de_var 1)) dos_nil)))))))))
theorem sc_difference_of : FnScope ["widths", "other", "position"] ["widths", "other"] (defScope s_difference_of) := ⟨rfl, rfl, rfl, by decide +kernel, rfl, by decide +kernel, by decide +kernel⟩
theorem g_difference_of (c : Say K mg) : FnG P w K mg base 2 c.a_difference_of c.d_difference_of ["widths", "other"] (spF K mg [.sh, .sh] .sh F_difference_of) :=
  fn_g (N := ["widths", "other", "position"]) (ms' := [.sh, .sh, .sh]) (B := []) (ls := [.sh]) c.F_difference_of sc_difference_of rfl rfl (by decide) rfl fun cdv A outer s H E hr am => by
    have hN : (["widths", "other", "position"] : List Str).Nodup := sc_difference_of.nd
    exact (
      (dss_cons (ms2 := [.sh, .sh, .sh]) (ds_if (dt_cmp (DI.op_eqX hr.units) gEq_ok (do_tm (de_var 0)) (do_tm (de_var 1)))
        (dss_one (ds_ret de_non))
        dss_nil)
      (dss_cons (ms2 := [.sh, .sh, .sh]) (ds_if (dw_pt (dw_or (dt_cmp (DI.op_eqX hr.units) gEq_ok (do_tm (de_var 0)) (do_tm (de_lst dos_nil))) (dw_or1 (dt_cmp (DI.op_eqX hr.units) gEq_ok (do_tm (de_var 1)) (do_tm (de_lst dos_nil))))))
        (dss_one (ds_ret (de_ix L2.ix_seq gIx_ok (do_tm (de_bin DI.op_addD gAdd_ok (do_tm (de_var 0)) (do_tm (de_var 1)))) (do_tm (de_un L2.un_neg gNeg_ok (do_tm de_int))))))
        dss_nil)
      (dss_cons (ms2 := [.sh, .sh, .sh]) (ds_for (di_r1 rfl c.n_range (dos_cons (do_tm (de_bin DI.op_addD gAdd_ok (do_tm (de_ix L2.ix_seq gIx_ok (do_tm (de_var 0)) (do_tm de_int))) (do_tm (de_ix L2.ix_seq gIx_ok (do_tm (de_var 1)) (do_tm de_int))))) dos_nil)) (pg_nm 2 hN)
        (dss_one (ds_if (dt_cmp (DI.op_neX hr.units) gNe_ok (do_tm (de_ro (de_call (kinds := [.sh, .sh]) (g_column_of c) (hr.mono (by decide)) am (cb_0 c.F_column_of 2 [] [0, 1] fun _ _ _ _ _ _ us ws h1 h2 => match us, ws, h1, h2 with | [u0, u1], [], _, _ => rfl) (fun _ => .nil) rfl c.g_column_of c.F_column_of.kp (dos_cons (do_tm (de_var 0)) (dos_cons (do_tm (de_var 2)) dos_nil))))) (do_tm (de_ro (de_call (kinds := [.sh, .sh]) (g_column_of c) (hr.mono (by decide)) am (cb_0 c.F_column_of 2 [] [0, 1] fun _ _ _ _ _ _ us ws h1 h2 => match us, ws, h1, h2 with | [u0, u1], [], _, _ => rfl) (fun _ => .nil) rfl c.g_column_of c.F_column_of.kp (dos_cons (do_tm (de_var 1)) (dos_cons (do_tm (de_var 2)) dos_nil))))))
          (dss_one (ds_ret (de_var 2)))
          dss_nil)) (passes_of rfl) rfl)
      (dss_one (ds_ret de_non))))))
theorem sc_are_equal_to : FnScope ["widths", "other", "length", "place"] ["widths", "other", "length"] (defScope s_are_equal_to) := ⟨rfl, rfl, rfl, by decide +kernel, rfl, by decide +kernel, by decide +kernel⟩
theorem g_are_equal_to (c : Say K mg) : FnG P w K mg base 5 c.a_are_equal_to c.d_are_equal_to ["widths", "other", "length"] (spF K mg [.sh, .sh, .sh] .sh F_are_equal_to) :=
  fn_g (N := ["widths", "other", "length", "place"]) (ms' := [.sh, .sh, .sh, .sh]) (B := []) (ls := [.sh]) c.F_are_equal_to sc_are_equal_to rfl rfl (by decide) rfl fun cdv A outer s H E hr am => by
    have hN : (["widths", "other", "length", "place"] : List Str).Nodup := sc_are_equal_to.nd
    exact (
      (dss_cons (ms2 := [.sh, .sh, .sh, .sh]) (ds_expr (de_ro (de_call (kinds := [.sh]) (g_require_widths c) (hr.mono (by decide)) am (cb_0 c.F_require_widths 1 [] [0] fun _ _ _ _ _ _ us ws h1 h2 => match us, ws, h1, h2 with | [u0], [], _, _ => rfl) (fun _ => .nil) rfl c.g_require_widths c.F_require_widths.kp (dos_cons (do_tm (de_var 0)) dos_nil))))
      (dss_cons (ms2 := [.sh, .sh, .sh, .sh]) (ds_expr (de_ro (de_call (kinds := [.sh]) (g_require_widths c) (hr.mono (by decide)) am (cb_0 c.F_require_widths 1 [] [0] fun _ _ _ _ _ _ us ws h1 h2 => match us, ws, h1, h2 with | [u0], [], _, _ => rfl) (fun _ => .nil) rfl c.g_require_widths c.F_require_widths.kp (dos_cons (do_tm (de_var 1)) dos_nil))))
      (dss_cons (ms2 := [.sh, .sh, .sh, .sh]) (ds_expr (de_ro (de_call (kinds := [.sh, .sh, .sh]) (g_require_length c) (hr.mono (by decide)) am (cb_d c.F_require_length 1 [] [0, 1, 2] (by decide) fun _ _ _ _ _ _ _ us ws its h1 h2 h3 => match us, ws, its, h1, h2, h3 with | [u0], [], [d0, d1], _, _, _ => ⟨_, rfl, rfl⟩) (fun _ => (.cons (.int _) (.cons (.int _) .nil))) rfl c.g_require_length c.F_require_length.kp (dos_cons (do_tm (de_var 2)) dos_nil))))
      (dss_cons (ms2 := [.sh, .sh, .sh, .sh]) (ds_asg (m := .sh) 3 (de_ro (de_call (kinds := [.sh, .sh]) (g_difference_of c) (hr.mono (by decide)) am (cb_0 c.F_difference_of 2 [] [0, 1] fun _ _ _ _ _ _ us ws h1 h2 => match us, ws, h1, h2 with | [u0, u1], [], _, _ => rfl) (fun _ => .nil) rfl c.g_difference_of c.F_difference_of.kp (dos_cons (do_tm (de_ro (de_call (kinds := [.sh]) (g_effective_of c) (hr.mono (by decide)) am (cb_0 c.F_effective_of 1 [] [0] fun _ _ _ _ _ _ us ws h1 h2 => match us, ws, h1, h2 with | [u0], [], _, _ => rfl) (fun _ => .nil) rfl c.g_effective_of c.F_effective_of.kp (dos_cons (do_tm (de_var 0)) dos_nil)))) (dos_cons (do_tm (de_ro (de_call (kinds := [.sh]) (g_effective_of c) (hr.mono (by decide)) am (cb_0 c.F_effective_of 1 [] [0] fun _ _ _ _ _ _ us ws h1 h2 => match us, ws, h1, h2 with | [u0], [], _, _ => rfl) (fun _ => .nil) rfl c.g_effective_of c.F_effective_of.kp (dos_cons (do_tm (de_var 1)) dos_nil)))) dos_nil)))) hN)
      (dss_one (ds_ret (de_or (de_cmp DI.op_isD gIs_ok (do_tm (de_var 3)) (do_tm de_non)) (de_one (de_cmp L2.op_ge gGe_ok (do_tm (de_var 3)) (do_tm (de_var 2))))))))))))
theorem sc_have_same_effect : FnScope ["widths", "other"] ["widths", "other"] (defScope s_have_same_effect) := ⟨rfl, rfl, rfl, by decide +kernel, rfl, by decide +kernel, by decide +kernel⟩
theorem g_have_same_effect (c : Say K mg) : FnG P w K mg base 3 c.a_have_same_effect c.d_have_same_effect ["widths", "other"] (spF K mg [.sh, .sh] .sh F_have_same_effect) :=
  fn_g (N := ["widths", "other"]) (ms' := [.sh, .sh]) (B := []) (ls := []) c.F_have_same_effect sc_have_same_effect rfl rfl (by decide) rfl fun cdv A outer s H E hr am => by
    have hN : (["widths", "other"] : List Str).Nodup := sc_have_same_effect.nd
    exact (
      (dss_one (ds_ret (de_cmp DI.op_isD gIs_ok (do_tm (de_ro (de_call (kinds := [.sh, .sh]) (g_difference_of c) (hr.mono (by decide)) am (cb_0 c.F_difference_of 2 [] [0, 1] fun _ _ _ _ _ _ us ws h1 h2 => match us, ws, h1, h2 with | [u0, u1], [], _, _ => rfl) (fun _ => .nil) rfl c.g_difference_of c.F_difference_of.kp (dos_cons (do_tm (de_ro (de_call (kinds := [.sh]) (g_effective_of c) (hr.mono (by decide)) am (cb_0 c.F_effective_of 1 [] [0] fun _ _ _ _ _ _ us ws h1 h2 => match us, ws, h1, h2 with | [u0], [], _, _ => rfl) (fun _ => .nil) rfl c.g_effective_of c.F_effective_of.kp (dos_cons (do_tm (de_var 0)) dos_nil)))) (dos_cons (do_tm (de_ro (de_call (kinds := [.sh]) (g_effective_of c) (hr.mono (by decide)) am (cb_0 c.F_effective_of 1 [] [0] fun _ _ _ _ _ _ us ws h1 h2 => match us, ws, h1, h2 with | [u0], [], _, _ => rfl) (fun _ => .nil) rfl c.g_effective_of c.F_effective_of.kp (dos_cons (do_tm (de_var 1)) dos_nil)))) dos_nil))))) (do_tm de_non)))))
theorem sc_are_equal : FnScope ["widths", "other"] ["widths", "other"] (defScope s_are_equal) := ⟨rfl, rfl, rfl, by decide +kernel, rfl, by decide +kernel, by decide +kernel⟩
theorem g_are_equal (c : Say K mg) : FnG P w K mg base 5 c.a_are_equal c.d_are_equal ["widths", "other"] (spF K mg [.sh, .sh] .sh F_are_equal) :=
  fn_g (N := ["widths", "other"]) (ms' := [.sh, .sh]) (B := []) (ls := []) c.F_are_equal sc_are_equal rfl rfl (by decide) rfl fun cdv A outer s H E hr am => by
    have hN : (["widths", "other"] : List Str).Nodup := sc_are_equal.nd
    exact (
      (dss_cons (ms2 := [.sh, .sh]) (ds_expr (de_ro (de_call (kinds := [.sh]) (g_require_widths c) (hr.mono (by decide)) am (cb_0 c.F_require_widths 1 [] [0] fun _ _ _ _ _ _ us ws h1 h2 => match us, ws, h1, h2 with | [u0], [], _, _ => rfl) (fun _ => .nil) rfl c.g_require_widths c.F_require_widths.kp (dos_cons (do_tm (de_var 0)) dos_nil))))
      (dss_cons (ms2 := [.sh, .sh]) (ds_expr (de_ro (de_call (kinds := [.sh]) (g_require_widths c) (hr.mono (by decide)) am (cb_0 c.F_require_widths 1 [] [0] fun _ _ _ _ _ _ us ws h1 h2 => match us, ws, h1, h2 with | [u0], [], _, _ => rfl) (fun _ => .nil) rfl c.g_require_widths c.F_require_widths.kp (dos_cons (do_tm (de_var 1)) dos_nil))))
      (dss_one (ds_ret (de_ro (de_call (kinds := [.sh, .sh]) (g_have_same_effect c) (hr.mono (by decide)) am (cb_0 c.F_have_same_effect 2 [] [0, 1] fun _ _ _ _ _ _ us ws h1 h2 => match us, ws, h1, h2 with | [u0, u1], [], _, _ => rfl) (fun _ => .nil) rfl c.g_have_same_effect c.F_have_same_effect.kp (dos_cons (do_tm (de_var 0)) (dos_cons (do_tm (de_var 1)) dos_nil)))))))))
theorem sc_first_difference : FnScope ["widths", "other"] ["widths", "other"] (defScope s_first_difference) := ⟨rfl, rfl, rfl, by decide +kernel, rfl, by decide +kernel, by decide +kernel⟩
theorem g_first_difference (c : Say K mg) : FnG P w K mg base 5 c.a_first_difference c.d_first_difference ["widths", "other"] (spF K mg [.sh, .sh] .sh F_first_difference) :=
  fn_g (N := ["widths", "other"]) (ms' := [.sh, .sh]) (B := []) (ls := []) c.F_first_difference sc_first_difference rfl rfl (by decide) rfl fun cdv A outer s H E hr am => by
    have hN : (["widths", "other"] : List Str).Nodup := sc_first_difference.nd
    exact (
      (dss_cons (ms2 := [.sh, .sh]) (ds_expr (de_ro (de_call (kinds := [.sh]) (g_require_widths c) (hr.mono (by decide)) am (cb_0 c.F_require_widths 1 [] [0] fun _ _ _ _ _ _ us ws h1 h2 => match us, ws, h1, h2 with | [u0], [], _, _ => rfl) (fun _ => .nil) rfl c.g_require_widths c.F_require_widths.kp (dos_cons (do_tm (de_var 0)) dos_nil))))
      (dss_cons (ms2 := [.sh, .sh]) (ds_expr (de_ro (de_call (kinds := [.sh]) (g_require_widths c) (hr.mono (by decide)) am (cb_0 c.F_require_widths 1 [] [0] fun _ _ _ _ _ _ us ws h1 h2 => match us, ws, h1, h2 with | [u0], [], _, _ => rfl) (fun _ => .nil) rfl c.g_require_widths c.F_require_widths.kp (dos_cons (do_tm (de_var 1)) dos_nil))))
      (dss_one (ds_ret (de_ro (de_call (kinds := [.sh, .sh]) (g_difference_of c) (hr.mono (by decide)) am (cb_0 c.F_difference_of 2 [] [0, 1] fun _ _ _ _ _ _ us ws h1 h2 => match us, ws, h1, h2 with | [u0, u1], [], _, _ => rfl) (fun _ => .nil) rfl c.g_difference_of c.F_difference_of.kp (dos_cons (do_tm (de_ro (de_call (kinds := [.sh]) (g_effective_of c) (hr.mono (by decide)) am (cb_0 c.F_effective_of 1 [] [0] fun _ _ _ _ _ _ us ws h1 h2 => match us, ws, h1, h2 with | [u0], [], _, _ => rfl) (fun _ => .nil) rfl c.g_effective_of c.F_effective_of.kp (dos_cons (do_tm (de_var 0)) dos_nil)))) (dos_cons (do_tm (de_ro (de_call (kinds := [.sh]) (g_effective_of c) (hr.mono (by decide)) am (cb_0 c.F_effective_of 1 [] [0] fun _ _ _ _ _ _ us ws h1 h2 => match us, ws, h1, h2 with | [u0], [], _, _ => rfl) (fun _ => .nil) rfl c.g_effective_of c.F_effective_of.kp (dos_cons (do_tm (de_var 1)) dos_nil)))) dos_nil)))))))))
theorem sc__law_called : FnScope ["door", "chain", "mate", "span", "e"] ["door", "chain", "mate", "span"] (defScope s__law_called) := ⟨rfl, rfl, rfl, by decide +kernel, rfl, by decide +kernel, by decide +kernel⟩
theorem g__law_called (c : Say K mg) : FnG P w K mg base 7 c.a__law_called c.d__law_called ["door", "chain", "mate", "span"] (spF K mg [.sh, .sh, .sh, .sh] .sh F__law_called) :=
  fn_g (N := ["door", "chain", "mate", "span", "e"]) (ms' := [.sh, .sh, .sh, .sh, .sh]) (B := []) (ls := [.sh]) c.F__law_called sc__law_called rfl rfl (by decide) rfl fun cdv A outer s H E hr am => by
    have hN : (["door", "chain", "mate", "span", "e"] : List Str).Nodup := sc__law_called.nd
    exact (
      (dss_cons (ms2 := [.sh, .sh, .sh, .sh, .sh]) (ds_try (ms' := [.sh, .sh, .sh, .sh, .sh]) [true, true, true, true, false] rfl (fun _ _ =>
        (dss_one (ds_if (dt_cmp (DI.op_eqX hr.units) gEq_ok (do_tm (de_var 0)) (do_tm de_int))
          (dss_one (ds_expr (de_ro (de_call (kinds := [.sh]) (g_normal_form c) (hr.mono (by decide)) am (cb_0 c.F_normal_form 1 [] [0] fun _ _ _ _ _ _ us ws h1 h2 => match us, ws, h1, h2 with | [u0], [], _, _ => rfl) (fun _ => .nil) rfl c.g_normal_form c.F_normal_form.kp (dos_cons (do_tm (de_var 1)) dos_nil)))))
          (dss_one (ds_if (dt_cmp (DI.op_eqX hr.units) gEq_ok (do_tm (de_var 0)) (do_tm de_int))
            (dss_one (ds_expr (de_ro (de_call (kinds := [.sh, .sh]) (g_descent c) (hr.mono (by decide)) am (cb_0 c.F_descent 2 [] [0, 1] fun _ _ _ _ _ _ us ws h1 h2 => match us, ws, h1, h2 with | [u0, u1], [], _, _ => rfl) (fun _ => .nil) rfl c.g_descent c.F_descent.kp (dos_cons (do_tm (de_var 1)) (dos_cons (do_tm (de_var 3)) dos_nil))))))
            (dss_one (ds_if (dt_cmp (DI.op_eqX hr.units) gEq_ok (do_tm (de_var 0)) (do_tm de_int))
              (dss_one (ds_expr (de_ro (de_call (kinds := [.sh, .sh, .sh]) (g_are_equal_to c) (hr.mono (by decide)) am (cb_0 c.F_are_equal_to 3 [] [0, 1, 2] fun _ _ _ _ _ _ us ws h1 h2 => match us, ws, h1, h2 with | [u0, u1, u2], [], _, _ => rfl) (fun _ => .nil) rfl c.g_are_equal_to c.F_are_equal_to.kp (dos_cons (do_tm (de_var 1)) (dos_cons (do_tm (de_var 2)) (dos_cons (do_tm (de_var 3)) dos_nil)))))))
              (dss_one (ds_expr (de_callL (kinds := [.sh, .sh]) (perm := [0, 1]) (de_ix L2.ix_seq gIx_ok (do_tm (de_lst (dos_cons (do_tm (de_gl rfl c.g_are_equal c.ga_are_equal)) (dos_cons (do_tm (de_gl rfl c.g_first_difference c.ga_first_difference)) dos_nil)))) (do_tm (de_bin L2.op_sub gSub_ok (do_tm (de_var 0)) (do_tm de_int)))) (al_cons ⟨_, _, _, _, c.ga_are_equal, (g_are_equal c), hr.mono (by decide), (cb_0 c.F_are_equal 2 [] [0, 1] fun _ _ _ _ _ _ us ws h1 h2 => match us, ws, h1, h2 with | [u0, u1], [], _, _ => rfl), c.F_are_equal.kp⟩ (al_cons ⟨_, _, _, _, c.ga_first_difference, (g_first_difference c), hr.mono (by decide), (cb_0 c.F_first_difference 2 [] [0, 1] fun _ _ _ _ _ _ us ws h1 h2 => match us, ws, h1, h2 with | [u0, u1], [], _, _ => rfl), c.F_first_difference.kp⟩ al_nil)) am (dos_cons (do_tm (de_var 1)) (dos_cons (do_tm (de_var 2)) dos_nil))))))))))))
        (.namedH hN (i := 4) rfl rfl rfl rfl ⟨rfl, by decide, .inl c.g_WrapError⟩ (am_cons ⟨c.g_Conflict, c.m_Conflict_WrapError⟩ (am_cons ⟨c.g_InvalidCommand, c.m_InvalidCommand_WrapError⟩ (am_cons ⟨c.g_InvalidIndex, c.m_InvalidIndex_WrapError⟩ (am_cons ⟨c.g_InvalidLength, c.m_InvalidLength_WrapError⟩ (am_cons ⟨c.g_InvalidPeriod, c.m_InvalidPeriod_WrapError⟩ (am_cons ⟨c.g_InvalidPieces, c.m_InvalidPieces_WrapError⟩ (am_cons ⟨c.g_InvalidPosition, c.m_InvalidPosition_WrapError⟩ (am_cons ⟨c.g_InvalidText, c.m_InvalidText_WrapError⟩ (am_cons ⟨c.g_InvalidWidths, c.m_InvalidWidths_WrapError⟩ (am_cons ⟨c.g_NoWidths, c.m_NoWidths_WrapError⟩ (am_cons ⟨c.g_NotFitting, c.m_NotFitting_WrapError⟩ (am_cons ⟨c.g_NotWrapped, c.m_NotWrapped_WrapError⟩ (am_cons ⟨c.g_NothingToUndo, c.m_NothingToUndo_WrapError⟩ (am_cons ⟨c.g_ParseError, c.m_ParseError_WrapError⟩ (am_cons ⟨c.g_TooMany, c.m_TooMany_WrapError⟩ (am_cons ⟨c.g_WrapError, c.m_WrapError_WrapError⟩ am_nil)))))))))))))))) am_nil rfl (fun _ _ =>
        (pss_retX (pe_roX (pe_callX L2N.takes_none5 (kinds := [.sh]) (x__law_kind c) (roomQ (hr.mono (by decide))) (ambQ am) (cb_0 c.F__law_kind 1 [] [0] fun _ _ _ _ _ _ us ws h1 h2 => match us, ws, h1, h2 with | [u0], [], _, _ => rfl) (fun _ => .nil) rfl c.g__law_kind c.F__law_kind.kp (dos_cons (do_tm (de_var 4)) dos_nil))))) .nil))
      (dss_one (ds_ret de_str))))
theorem sc_law : FnScope ["script", "k", "bag", "chain", "mate", "bad", "worse", "span", "odd", "rows", "one", "two", "three", "due", "kept", "door"] ["script"] (defScope s_law) := ⟨rfl, rfl, rfl, by decide +kernel, rfl, by decide +kernel, by decide +kernel⟩
theorem g_law (c : Say K mg) : FnG P w K mg base 8 c.a_law c.d_law ["script"] (spF K mg [.sh] .sh F_law) :=
  fn_g (N := ["script", "k", "bag", "chain", "mate", "bad", "worse", "span", "odd", "rows", "one", "two", "three", "due", "kept", "door"]) (ms' := [.sh, .sh, .ow, .sh, .sh, .sh, .sh, .sh, .sh, .ow, .sh, .sh, .sh, .sh, .sh, .sh]) (B := []) (ls := [.sh, .ow, .sh, .sh, .sh, .sh, .sh, .sh, .ow, .sh, .sh, .sh, .sh, .sh, .sh]) c.F_law sc_law rfl rfl (by decide) rfl fun cdv A outer s H E hr am => by
    have hN : (["script", "k", "bag", "chain", "mate", "bad", "worse", "span", "odd", "rows", "one", "two", "three", "due", "kept", "door"] : List Str).Nodup := sc_law.nd
    exact (
      (dss_cons (ms2 := [.sh, .sh, .ow, .sh, .sh, .sh, .sh, .sh, .sh, .ow, .sh, .sh, .sh, .sh, .sh, .sh]) (ds_for (di_r1 rfl c.n_range (dos_cons (do_tm (de_callB (L2.call_max2 rfl) gMax2_ok rfl c.n_max boot_max (dos_cons (do_tm de_int) (dos_cons (do_tm (de_callB (L2.call_min2 rfl) gMin2_ok rfl c.n_min boot_min (dos_cons (do_tm (de_callB L2.call_len gLen_ok rfl c.n_len boot_len (dos_cons (do_tm (de_var 0)) dos_nil))) (dos_cons (do_tm de_int) dos_nil)))) dos_nil)))) dos_nil)) (pg_nm 1 hN)
        (dss_cons (ms2 := [.sh, .sh, .ow, .sh, .sh, .sh, .sh, .sh, .sh, .ow, .sh, .sh, .sh, .sh, .sh, .sh]) (ds_asg (m := .ow) 2 (de_ro (de_call (kinds := [.sh, .sh]) (g__law_bag c) (hr.mono (by decide)) am (cb_0 c.F__law_bag 2 [] [0, 1] fun _ _ _ _ _ _ us ws h1 h2 => match us, ws, h1, h2 with | [u0, u1], [], _, _ => rfl) (fun _ => .nil) rfl c.g__law_bag c.F__law_bag.kp (dos_cons (do_tm (de_var 0)) (dos_cons (do_tm (de_var 1)) dos_nil)))) hN)
        (dss_cons (ms2 := [.sh, .sh, .ow, .sh, .sh, .sh, .sh, .sh, .sh, .ow, .sh, .sh, .sh, .sh, .sh, .sh]) (ds_par (m1 := .sh) (m2 := .sh) 3 4 (de_ro (de_call (kinds := [.ln 2, .sh, .sh]) (g__law_chain c) (hr.mono (by decide)) am (cb_0 c.F__law_chain 3 [] [0, 1, 2] fun _ _ _ _ _ _ us ws h1 h2 => match us, ws, h1, h2 with | [u0, u1, u2], [], _, _ => rfl) (fun _ => .nil) rfl c.g__law_chain c.F__law_chain.kp (dos_cons (do_vr 2) (dos_cons (do_tm de_int) (dos_cons (do_tm de_int) dos_nil))))) (de_ro (de_call (kinds := [.ln 2, .sh, .sh]) (g__law_chain c) (hr.mono (by decide)) am (cb_0 c.F__law_chain 3 [] [0, 1, 2] fun _ _ _ _ _ _ us ws h1 h2 => match us, ws, h1, h2 with | [u0, u1, u2], [], _, _ => rfl) (fun _ => .nil) rfl c.g__law_chain c.F__law_chain.kp (dos_cons (do_vr 2) (dos_cons (do_tm de_int) (dos_cons (do_tm de_int) dos_nil))))) hN rfl)
        (dss_cons (ms2 := [.sh, .sh, .ow, .sh, .sh, .sh, .sh, .sh, .sh, .ow, .sh, .sh, .sh, .sh, .sh, .sh]) (ds_par (m1 := .sh) (m2 := .sh) 5 6 (de_ro (de_call (kinds := [.ln 2, .sh]) (g__law_no_widths c) (hr.mono (by decide)) am (cb_0 c.F__law_no_widths 2 [] [0, 1] fun _ _ _ _ _ _ us ws h1 h2 => match us, ws, h1, h2 with | [u0, u1], [], _, _ => rfl) (fun _ => .nil) rfl c.g__law_no_widths c.F__law_no_widths.kp (dos_cons (do_vr 2) (dos_cons (do_tm (de_var 3)) dos_nil)))) (de_ro (de_call (kinds := [.ln 2, .sh]) (g__law_no_widths c) (hr.mono (by decide)) am (cb_0 c.F__law_no_widths 2 [] [0, 1] fun _ _ _ _ _ _ us ws h1 h2 => match us, ws, h1, h2 with | [u0, u1], [], _, _ => rfl) (fun _ => .nil) rfl c.g__law_no_widths c.F__law_no_widths.kp (dos_cons (do_vr 2) (dos_cons (do_tm (de_var 4)) dos_nil)))) hN rfl)
        (dss_cons (ms2 := [.sh, .sh, .ow, .sh, .sh, .sh, .sh, .sh, .sh, .ow, .sh, .sh, .sh, .sh, .sh, .sh]) (ds_asg (m := .sh) 7 (de_ix L2.ix_seq gIx_ok (do_tm (de_lst (dos_cons (do_tm de_int) (dos_cons (do_tm (de_bin DI.op_powW gPow_ok (do_tm de_int) (do_tm de_int))) (dos_cons (do_tm (de_bin DI.op_addD gAdd_ok (do_tm de_int) (do_tm (de_ro (de_call (kinds := [.ln 2, .sh]) (g__law_take c) (hr.mono (by decide)) am (cb_0 c.F__law_take 2 [] [0, 1] fun _ _ _ _ _ _ us ws h1 h2 => match us, ws, h1, h2 with | [u0, u1], [], _, _ => rfl) (fun _ => .nil) rfl c.g__law_take c.F__law_take.kp (dos_cons (do_vr 2) (dos_cons (do_tm de_int) dos_nil))))))) dos_nil))))) (do_tm (de_ro (de_call (kinds := [.ln 2, .sh]) (g__law_take c) (hr.mono (by decide)) am (cb_0 c.F__law_take 2 [] [0, 1] fun _ _ _ _ _ _ us ws h1 h2 => match us, ws, h1, h2 with | [u0, u1], [], _, _ => rfl) (fun _ => .nil) rfl c.g__law_take c.F__law_take.kp (dos_cons (do_vr 2) (dos_cons (do_tm de_int) dos_nil)))))) hN)
        (dss_cons (ms2 := [.sh, .sh, .ow, .sh, .sh, .sh, .sh, .sh, .sh, .ow, .sh, .sh, .sh, .sh, .sh, .sh]) (ds_asg (m := .sh) 8 (de_ix L2.ix_seq gIx_ok (do_tm (de_lst (dos_cons (do_tm (de_un L2.un_neg gNeg_ok (do_tm de_int))) (dos_cons (do_tm (de_bin DI.op_addD gAdd_ok (do_tm (de_bin DI.op_powW gPow_ok (do_tm de_int) (do_tm de_int))) (do_tm de_int))) (dos_cons (do_tm de_bl) (dos_cons (do_tm de_non) (dos_cons (do_tm de_str) (dos_cons (do_tm (de_lst (dos_cons (do_tm de_int) dos_nil))) (dos_cons (do_tm (de_tup (dos_cons (do_tm de_int) dos_nil))) (dos_cons (do_tm de_bl) dos_nil)))))))))) (do_tm (de_ro (de_call (kinds := [.ln 2, .sh]) (g__law_take c) (hr.mono (by decide)) am (cb_0 c.F__law_take 2 [] [0, 1] fun _ _ _ _ _ _ us ws h1 h2 => match us, ws, h1, h2 with | [u0, u1], [], _, _ => rfl) (fun _ => .nil) rfl c.g__law_take c.F__law_take.kp (dos_cons (do_vr 2) (dos_cons (do_tm de_int) dos_nil)))))) hN)
        (dss_cons (ms2 := [.sh, .sh, .ow, .sh, .sh, .sh, .sh, .sh, .sh, .ow, .sh, .sh, .sh, .sh, .sh, .sh]) (ds_asg (m := .ow) 9 (de_lst (dos_cons (do_tm (de_tup (dos_cons (do_tm (de_var 3)) (dos_cons (do_tm (de_var 4)) (dos_cons (do_tm (de_var 7)) (dos_cons (do_tm (de_bin DI.op_mulD gMul_ok (do_tm (de_lst (dos_cons (do_tm de_str) dos_nil))) (do_tm de_int))) dos_nil)))))) (dos_cons (do_tm (de_tup (dos_cons (do_tm (de_var 5)) (dos_cons (do_tm (de_var 6)) (dos_cons (do_tm (de_var 8)) (dos_cons (do_tm (de_bin DI.op_mulD gMul_ok (do_tm (de_lst (dos_cons (do_tm de_str) dos_nil))) (do_tm de_int))) dos_nil)))))) dos_nil))) hN)
        (dss_cons (ms2 := [.sh, .sh, .ow, .sh, .sh, .sh, .sh, .sh, .sh, .ow, .sh, .sh, .sh, .sh, .sh, .sh]) (ds_expr (de_mut 9 PySem.F.slot_list_append rfl L2.mt_append mApp_ok (dos_cons (do_tm (de_tup (dos_cons (do_tm (de_var 3)) (dos_cons (do_tm (de_var 6)) (dos_cons (do_tm (de_var 8)) (dos_cons (do_tm (de_lst (dos_cons (do_tm de_str) (dos_cons (do_tm de_str) (dos_cons (do_tm de_str) (dos_cons (do_tm de_str) (dos_cons (do_tm de_str) dos_nil))))))) dos_nil)))))) dos_nil)))
        (dss_cons (ms2 := [.sh, .sh, .ow, .sh, .sh, .sh, .sh, .sh, .sh, .ow, .sh, .sh, .sh, .sh, .sh, .sh]) (ds_expr (de_mut 9 PySem.F.slot_list_append rfl L2.mt_append mApp_ok (dos_cons (do_tm (de_tup (dos_cons (do_tm (de_var 3)) (dos_cons (do_tm (de_var 4)) (dos_cons (do_tm (de_var 8)) (dos_cons (do_tm (de_lst (dos_cons (do_tm de_str) (dos_cons (do_tm de_str) (dos_cons (do_tm de_str) (dos_cons (do_tm de_str) (dos_cons (do_tm de_str) dos_nil))))))) dos_nil)))))) dos_nil)))
        (dss_cons (ms2 := [.sh, .sh, .ow, .sh, .sh, .sh, .sh, .sh, .sh, .ow, .sh, .sh, .sh, .sh, .sh, .sh]) (ds_expr (de_mut 9 PySem.F.slot_list_append rfl L2.mt_append mApp_ok (dos_cons (do_tm (de_tup (dos_cons (do_tm (de_var 3)) (dos_cons (do_tm (de_var 4)) (dos_cons (do_tm de_int) (dos_cons (do_tm (de_lst (dos_cons (do_tm de_str) (dos_cons (do_tm de_str) (dos_cons (do_tm de_str) (dos_cons (do_tm de_str) (dos_cons (do_tm de_str) dos_nil))))))) dos_nil)))))) dos_nil)))
        (dss_share 9 rfl (dss_cons (ms2 := [.sh, .sh, .ow, .sh, .sh, .sh, .sh, .sh, .sh, .sh, .sh, .sh, .sh, .sh, .sh, .sh]) (ds_for (di_lst (de_var 9)) (L2.pg_tup rfl (L2.pgs_cons (L2.pg_name (i := 10) hN rfl (by first | exact .inl rfl | exact .inr rfl) (by first | exact .inl rfl | exact .inr rfl)) (L2.pgs_cons (L2.pg_name (i := 11) hN rfl (by first | exact .inl rfl | exact .inr rfl) (by first | exact .inl rfl | exact .inr rfl)) (L2.pgs_cons (L2.pg_name (i := 12) hN rfl (by first | exact .inl rfl | exact .inr rfl) (by first | exact .inl rfl | exact .inr rfl)) (L2.pgs_cons (L2.pg_name (i := 13) hN rfl (by first | exact .inl rfl | exact .inr rfl) (by first | exact .inl rfl | exact .inr rfl)) L2.pgs_nil)))))
          (dss_cons (ms2 := [.sh, .sh, .ow, .sh, .sh, .sh, .sh, .sh, .sh, .sh, .sh, .sh, .sh, .sh, .sh, .sh]) (ds_asg (m := .sh) 14 (de_callB (call_repr3 am.guards hr.units) gReprE_ok rfl c.n_repr boot_repr (dos_cons (do_tm (de_lst (dos_cons (do_tm (de_var 10)) (dos_cons (do_tm (de_var 11)) (dos_cons (do_tm (de_var 12)) dos_nil))))) dos_nil)) hN)
          (dss_cons (ms2 := [.sh, .sh, .ow, .sh, .sh, .sh, .sh, .sh, .sh, .sh, .sh, .sh, .sh, .sh, .sh, .sh]) (ds_if (dt_cmp (DI.op_neX hr.units) gNe_ok (do_tm (de_lc (own := [("door", 15)]) (di_r1 rfl c.n_range (dos_cons (do_tm de_int) dos_nil)) (blkOk_by (N := ["script", "k", "bag", "chain", "mate", "bad", "worse", "span", "odd", "rows", "one", "two", "three", "due", "kept", "door"]) (sc := defScope s_law) (by decide +kernel)) (fun _ _ _ _ _ => (pg_nm 15 hN)) (fun _ _ _ _ _ => dts_nil) (fun _ _ _ _ _ => (de_ro (de_call (kinds := [.sh, .sh, .sh, .sh]) (g__law_called c) (hr.mono (by decide)) am (cb_0 c.F__law_called 4 [] [0, 1, 2, 3] fun _ _ _ _ _ _ us ws h1 h2 => match us, ws, h1, h2 with | [u0, u1, u2, u3], [], _, _ => rfl) (fun _ => .nil) rfl c.g__law_called c.F__law_called.kp (dos_cons (do_tm (de_var 15)) (dos_cons (do_tm (de_var 10)) (dos_cons (do_tm (de_var 11)) (dos_cons (do_tm (de_var 12)) dos_nil))))))) rfl hN)) (do_tm (de_var 13)))
            (dss_one (ds_ret de_bl))
            dss_nil)
          (dss_one (ds_if (dt_cmp (DI.op_neX hr.units) gNe_ok (do_tm (de_callB (call_repr3 am.guards hr.units) gReprE_ok rfl c.n_repr boot_repr (dos_cons (do_tm (de_lst (dos_cons (do_tm (de_var 10)) (dos_cons (do_tm (de_var 11)) (dos_cons (do_tm (de_var 12)) dos_nil))))) dos_nil))) (do_tm (de_var 14)))
            (dss_one (ds_ret de_bl))
            dss_nil)))) (passes_of rfl) rfl)
        (dss_forget 9 .ow rfl (by decide) rfl dss_nil)))))))))))) (passes_of rfl) rfl)
      (dss_one (ds_ret de_bl))))
end
theorem facts {K : PySem.W.Frag} {h : Heap} {mg : Str → Option Value} {f : Addr} (X : K.In h) (G : h.Ns mainGlobals mg) (hfa : mg ("law" : Str) = some (.ref f)) (c0 : SaysX fb fa fn K) :
    ∃ y : Say K mg, y.a_law = f := by
  obtain ⟨c, cx⟩ := c0.d
  obtain ⟨d__law_bag, F__law_bag⟩ := c.def_ 0 (d := D__law_bag) rfl
  obtain ⟨d__law_take, F__law_take⟩ := c.def_ 1 (d := D__law_take) rfl
  obtain ⟨d__law_chain, F__law_chain⟩ := c.def_ 2 (d := D__law_chain) rfl
  obtain ⟨d__law_no_widths, F__law_no_widths⟩ := c.def_ 3 (d := D__law_no_widths) rfl
  obtain ⟨d_is_integer, F_is_integer⟩ := c.def_ 4 (d := D_is_integer) rfl
  obtain ⟨d_is_width, F_is_width⟩ := c.def_ 5 (d := D_is_width) rfl
  obtain ⟨d_is_widths, F_is_widths⟩ := c.def_ 6 (d := D_is_widths) rfl
  obtain ⟨d_require_widths, F_require_widths⟩ := c.def_ 7 (d := D_require_widths) rfl
  obtain ⟨d_border_lengths, F_border_lengths⟩ := c.def_ 8 (d := D_border_lengths) rfl
  obtain ⟨d_least_period_of, F_least_period_of⟩ := c.def_ 9 (d := D_least_period_of) rfl
  obtain ⟨d_column_of, F_column_of⟩ := c.def_ 10 (d := D_column_of) rfl
  obtain ⟨d_first_columns, F_first_columns⟩ := c.def_ 11 (d := D_first_columns) rfl
  obtain ⟨d_whole_period, F_whole_period⟩ := c.def_ 12 (d := D_whole_period) rfl
  obtain ⟨d_descent_of, F_descent_of⟩ := c.def_ 13 (d := D_descent_of) rfl
  obtain ⟨d_normal_of, F_normal_of⟩ := c.def_ 14 (d := D_normal_of) rfl
  obtain ⟨d_effective_of, F_effective_of⟩ := c.def_ 15 (d := D_effective_of) rfl
  obtain ⟨d_normal_form, F_normal_form⟩ := c.def_ 16 (d := D_normal_form) rfl
  obtain ⟨d__law_kind, F__law_kind⟩ := c.def_ 17 (d := D__law_kind) rfl
  obtain ⟨d_require_length, F_require_length⟩ := c.def_ 18 (d := D_require_length) rfl
  obtain ⟨d_period_below, F_period_below⟩ := c.def_ 19 (d := D_period_below) rfl
  obtain ⟨d_descent_to, F_descent_to⟩ := c.def_ 20 (d := D_descent_to) rfl
  obtain ⟨d_descent, F_descent⟩ := c.def_ 21 (d := D_descent) rfl
  obtain ⟨d_difference_of, F_difference_of⟩ := c.def_ 22 (d := D_difference_of) rfl
  obtain ⟨d_are_equal_to, F_are_equal_to⟩ := c.def_ 23 (d := D_are_equal_to) rfl
  obtain ⟨d_have_same_effect, F_have_same_effect⟩ := c.def_ 24 (d := D_have_same_effect) rfl
  obtain ⟨d_are_equal, F_are_equal⟩ := c.def_ 25 (d := D_are_equal) rfl
  obtain ⟨d_first_difference, F_first_difference⟩ := c.def_ 26 (d := D_first_difference) rfl
  obtain ⟨d__law_called, F__law_called⟩ := c.def_ 27 (d := D__law_called) rfl
  obtain ⟨d_law, F_law⟩ := c.def_ 28 (d := D_law) rfl
  have cx2 : (exB (["InvalidLength", "InvalidWidths"] : List Str) K && (kit1B (["InvalidLength", "InvalidWidths"] : List Str) (["InvalidWidths"] : List Str) "InvalidWidths" K) && (kit1B (["InvalidLength", "InvalidWidths"] : List Str) (["InvalidLength"] : List Str) "InvalidLength" K) && (kit1B (["InvalidLength", "InvalidWidths"] : List Str) ([] : List Str) "InvalidIndex" K) && (kit1B (["InvalidLength", "InvalidWidths"] : List Str) ([] : List Str) "InvalidPieces" K) && (kit1B (["InvalidLength", "InvalidWidths"] : List Str) ([] : List Str) "NotFitting" K) && (kit1B (["InvalidLength", "InvalidWidths"] : List Str) ([] : List Str) "NotWrapped" K) && (kitTB (["InvalidLength", "InvalidWidths"] : List Str) ([] : List Str) (["Conflict", "InvalidCommand", "InvalidPeriod", "InvalidPosition", "InvalidText"] : List Str) K) && (kitTB (["InvalidLength", "InvalidWidths"] : List Str) ([] : List Str) (["NothingToUndo", "NoWidths", "ParseError", "TooMany"] : List Str) K) && (kitVB (["InvalidLength", "InvalidWidths"] : List Str) (["InvalidLength", "InvalidWidths"] : List Str) "ValueError" K)) = true := cx
  simp only [Bool.and_eq_true] at cx2
  obtain ⟨⟨⟨⟨⟨⟨⟨⟨⟨tex, tk_0⟩, tk_1⟩, tk_2⟩, tk_3⟩, tk_4⟩, tk_5⟩, tk_6⟩, tk_7⟩, tk_8⟩ := cx2
  have e := hfa.symm.trans (He.glo_ok X G (c.fact 28 (f := .glo "law") rfl))
  cases e
  exact ⟨{
    a__law_bag := _, d__law_bag := d__law_bag, F__law_bag := F__law_bag,
    g__law_bag := He.glo_ok X G (c.fact 0 (f := .glo "_law_bag") rfl),
    a__law_take := _, d__law_take := d__law_take, F__law_take := F__law_take,
    g__law_take := He.glo_ok X G (c.fact 1 (f := .glo "_law_take") rfl),
    a__law_chain := _, d__law_chain := d__law_chain, F__law_chain := F__law_chain,
    g__law_chain := He.glo_ok X G (c.fact 2 (f := .glo "_law_chain") rfl),
    a__law_no_widths := _, d__law_no_widths := d__law_no_widths, F__law_no_widths := F__law_no_widths,
    g__law_no_widths := He.glo_ok X G (c.fact 3 (f := .glo "_law_no_widths") rfl),
    a_is_integer := _, d_is_integer := d_is_integer, F_is_integer := F_is_integer,
    g_is_integer := He.glo_ok X G (c.fact 4 (f := .glo "is_integer") rfl),
    a_is_width := _, d_is_width := d_is_width, F_is_width := F_is_width,
    g_is_width := He.glo_ok X G (c.fact 5 (f := .glo "is_width") rfl),
    a_is_widths := _, d_is_widths := d_is_widths, F_is_widths := F_is_widths,
    g_is_widths := He.glo_ok X G (c.fact 6 (f := .glo "is_widths") rfl),
    a_require_widths := _, d_require_widths := d_require_widths, F_require_widths := F_require_widths,
    g_require_widths := He.glo_ok X G (c.fact 7 (f := .glo "require_widths") rfl),
    a_border_lengths := _, d_border_lengths := d_border_lengths, F_border_lengths := F_border_lengths,
    g_border_lengths := He.glo_ok X G (c.fact 8 (f := .glo "border_lengths") rfl),
    a_least_period_of := _, d_least_period_of := d_least_period_of, F_least_period_of := F_least_period_of,
    g_least_period_of := He.glo_ok X G (c.fact 9 (f := .glo "least_period_of") rfl),
    a_column_of := _, d_column_of := d_column_of, F_column_of := F_column_of,
    g_column_of := He.glo_ok X G (c.fact 10 (f := .glo "column_of") rfl),
    a_first_columns := _, d_first_columns := d_first_columns, F_first_columns := F_first_columns,
    g_first_columns := He.glo_ok X G (c.fact 11 (f := .glo "first_columns") rfl),
    a_whole_period := _, d_whole_period := d_whole_period, F_whole_period := F_whole_period,
    g_whole_period := He.glo_ok X G (c.fact 12 (f := .glo "whole_period") rfl),
    a_descent_of := _, d_descent_of := d_descent_of, F_descent_of := F_descent_of,
    g_descent_of := He.glo_ok X G (c.fact 13 (f := .glo "descent_of") rfl),
    a_normal_of := _, d_normal_of := d_normal_of, F_normal_of := F_normal_of,
    g_normal_of := He.glo_ok X G (c.fact 14 (f := .glo "normal_of") rfl),
    a_effective_of := _, d_effective_of := d_effective_of, F_effective_of := F_effective_of,
    g_effective_of := He.glo_ok X G (c.fact 15 (f := .glo "effective_of") rfl),
    a_normal_form := _, d_normal_form := d_normal_form, F_normal_form := F_normal_form,
    g_normal_form := He.glo_ok X G (c.fact 16 (f := .glo "normal_form") rfl),
    a__law_kind := _, d__law_kind := d__law_kind, F__law_kind := F__law_kind,
    g__law_kind := He.glo_ok X G (c.fact 17 (f := .glo "_law_kind") rfl),
    a_require_length := _, d_require_length := d_require_length, F_require_length := F_require_length,
    g_require_length := He.glo_ok X G (c.fact 18 (f := .glo "require_length") rfl),
    a_period_below := _, d_period_below := d_period_below, F_period_below := F_period_below,
    g_period_below := He.glo_ok X G (c.fact 19 (f := .glo "period_below") rfl),
    a_descent_to := _, d_descent_to := d_descent_to, F_descent_to := F_descent_to,
    g_descent_to := He.glo_ok X G (c.fact 20 (f := .glo "descent_to") rfl),
    a_descent := _, d_descent := d_descent, F_descent := F_descent,
    g_descent := He.glo_ok X G (c.fact 21 (f := .glo "descent") rfl),
    a_difference_of := _, d_difference_of := d_difference_of, F_difference_of := F_difference_of,
    g_difference_of := He.glo_ok X G (c.fact 22 (f := .glo "difference_of") rfl),
    a_are_equal_to := _, d_are_equal_to := d_are_equal_to, F_are_equal_to := F_are_equal_to,
    g_are_equal_to := He.glo_ok X G (c.fact 23 (f := .glo "are_equal_to") rfl),
    a_have_same_effect := _, d_have_same_effect := d_have_same_effect, F_have_same_effect := F_have_same_effect,
    g_have_same_effect := He.glo_ok X G (c.fact 24 (f := .glo "have_same_effect") rfl),
    a_are_equal := _, d_are_equal := d_are_equal, F_are_equal := F_are_equal,
    g_are_equal := He.glo_ok X G (c.fact 25 (f := .glo "are_equal") rfl),
    a_first_difference := _, d_first_difference := d_first_difference, F_first_difference := F_first_difference,
    g_first_difference := He.glo_ok X G (c.fact 26 (f := .glo "first_difference") rfl),
    a__law_called := _, d__law_called := d__law_called, F__law_called := F__law_called,
    g__law_called := He.glo_ok X G (c.fact 27 (f := .glo "_law_called") rfl),
    a_law := _, d_law := d_law, F_law := F_law,
    n_ValueError := He.free_ok X G (c.fact 29 (f := .free "ValueError") rfl),
    n_abs := He.free_ok X G (c.fact 30 (f := .free "abs") rfl),
    n_all := He.free_ok X G (c.fact 31 (f := .free "all") rfl),
    n_bool := He.free_ok X G (c.fact 32 (f := .free "bool") rfl),
    n_int := He.free_ok X G (c.fact 33 (f := .free "int") rfl),
    n_isinstance := He.free_ok X G (c.fact 34 (f := .free "isinstance") rfl),
    n_len := He.free_ok X G (c.fact 35 (f := .free "len") rfl),
    n_list := He.free_ok X G (c.fact 36 (f := .free "list") rfl),
    n_max := He.free_ok X G (c.fact 37 (f := .free "max") rfl),
    n_min := He.free_ok X G (c.fact 38 (f := .free "min") rfl),
    n_range := He.free_ok X G (c.fact 39 (f := .free "range") rfl),
    n_repr := He.free_ok X G (c.fact 40 (f := .free "repr") rfl),
    n_tuple := He.free_ok X G (c.fact 41 (f := .free "tuple") rfl),
    i_MAX_WIDTH := He.int_ok X G (c.fact 42 (f := .int "MAX_WIDTH" 10000) rfl),
    g_Conflict := He.glo_ok X G (c.fact 43 (f := .glo "Conflict") rfl),
    g_InvalidCommand := He.glo_ok X G (c.fact 44 (f := .glo "InvalidCommand") rfl),
    g_InvalidIndex := He.glo_ok X G (c.fact 45 (f := .glo "InvalidIndex") rfl),
    g_InvalidLength := He.glo_ok X G (c.fact 46 (f := .glo "InvalidLength") rfl),
    g_InvalidPeriod := He.glo_ok X G (c.fact 47 (f := .glo "InvalidPeriod") rfl),
    g_InvalidPieces := He.glo_ok X G (c.fact 48 (f := .glo "InvalidPieces") rfl),
    g_InvalidPosition := He.glo_ok X G (c.fact 49 (f := .glo "InvalidPosition") rfl),
    g_InvalidText := He.glo_ok X G (c.fact 50 (f := .glo "InvalidText") rfl),
    g_InvalidWidths := He.glo_ok X G (c.fact 51 (f := .glo "InvalidWidths") rfl),
    g_NoWidths := He.glo_ok X G (c.fact 52 (f := .glo "NoWidths") rfl),
    g_NotFitting := He.glo_ok X G (c.fact 53 (f := .glo "NotFitting") rfl),
    g_NotWrapped := He.glo_ok X G (c.fact 54 (f := .glo "NotWrapped") rfl),
    g_NothingToUndo := He.glo_ok X G (c.fact 55 (f := .glo "NothingToUndo") rfl),
    g_ParseError := He.glo_ok X G (c.fact 56 (f := .glo "ParseError") rfl),
    g_TooMany := He.glo_ok X G (c.fact 57 (f := .glo "TooMany") rfl),
    g_WrapError := He.glo_ok X G (c.fact 58 (f := .glo "WrapError") rfl),
    m_Conflict_WrapError := He.exm_ok (c.fact 59 (f := .exm "Conflict" "WrapError" true) rfl),
    m_InvalidCommand_WrapError := He.exm_ok (c.fact 60 (f := .exm "InvalidCommand" "WrapError" true) rfl),
    m_InvalidIndex_WrapError := He.exm_ok (c.fact 61 (f := .exm "InvalidIndex" "WrapError" true) rfl),
    m_InvalidLength_WrapError := He.exm_ok (c.fact 62 (f := .exm "InvalidLength" "WrapError" true) rfl),
    m_InvalidPeriod_WrapError := He.exm_ok (c.fact 63 (f := .exm "InvalidPeriod" "WrapError" true) rfl),
    m_InvalidPieces_WrapError := He.exm_ok (c.fact 64 (f := .exm "InvalidPieces" "WrapError" true) rfl),
    m_InvalidPosition_WrapError := He.exm_ok (c.fact 65 (f := .exm "InvalidPosition" "WrapError" true) rfl),
    m_InvalidText_WrapError := He.exm_ok (c.fact 66 (f := .exm "InvalidText" "WrapError" true) rfl),
    m_InvalidWidths_WrapError := He.exm_ok (c.fact 67 (f := .exm "InvalidWidths" "WrapError" true) rfl),
    m_NoWidths_WrapError := He.exm_ok (c.fact 68 (f := .exm "NoWidths" "WrapError" true) rfl),
    m_NotFitting_WrapError := He.exm_ok (c.fact 69 (f := .exm "NotFitting" "WrapError" true) rfl),
    m_NotWrapped_WrapError := He.exm_ok (c.fact 70 (f := .exm "NotWrapped" "WrapError" true) rfl),
    m_NothingToUndo_WrapError := He.exm_ok (c.fact 71 (f := .exm "NothingToUndo" "WrapError" true) rfl),
    m_ParseError_WrapError := He.exm_ok (c.fact 72 (f := .exm "ParseError" "WrapError" true) rfl),
    m_TooMany_WrapError := He.exm_ok (c.fact 73 (f := .exm "TooMany" "WrapError" true) rfl),
    m_WrapError_WrapError := He.exm_ok (c.fact 74 (f := .exm "WrapError" "WrapError" true) rfl),
    x_InvalidLength := ex0_ok X G (c.fact 46 (f := .glo "InvalidLength") rfl) (c.fact 75 (f := .exc "InvalidLength") rfl),
    x_InvalidWidths := ex0_ok X G (c.fact 51 (f := .glo "InvalidWidths") rfl) (c.fact 76 (f := .exc "InvalidWidths") rfl),
    ga_are_equal := rfl,
    ga_first_difference := rfl,
    ex_cs := tex,
    ki_0 := tk_0,
    ki_1 := tk_1,
    ki_2 := tk_2,
    ki_3 := tk_3,
    ki_4 := tk_4,
    ki_5 := tk_5,
    ki_6 := tk_6,
    ki_7 := tk_7,
    ki_8 := tk_8 }, rfl⟩
open PySem.W PySem.Calls in
theorem holds (hm : ∀ ns : List Int, ns.length ≤ 63 → ∃ fin, F_law [.scr ns] = some (.ok (.bl true), fin)) : PySem.Challenge.rw_hardwraps_k30_forms_errors.Holds := by
  w_on; o_law
  refine HandSHeadRun.head_any (r := OpenLaw.row PySem.Challenge.rw_hardwraps_k30_forms_errors) (q := view (OpenLaw.row PySem.Challenge.rw_hardwraps_k30_forms_errors).prog [51]) (H := hk) (ob := ob) (M := 40000) (loose := loose) (d := HandSHeadRun.topDef (OpenLaw.row PySem.Challenge.rw_hardwraps_k30_forms_errors).prog 51) (kwd := []) ob_eq
    (by kernel_rfl) (fun s => by kernel_rfl) run (by kernel_rfl) (by kernel_rfl) (by kernel_rfl) (by rfl) (by first | assumption | decide +kernel) (by decide +kernel) ⟨rfl, rfl, rfl, rfl, rfl, by decide +kernel⟩ ?hw ?hc
  case hw => w_witness2
  case hc =>
    refine walk_end (l := PySem.Challenge.rw_hardwraps_k30_forms_errors) (n := 63) (k := 8) (x := "script") F_law rfl (by decide) (by kernel_rfl) ⟨rfl, by decide, by decide⟩ hm ?F
    intro w mg fa h Y G hmg0
    obtain ⟨K, KX, c⟩ := Y
    have hmg : mg ("law" : PySem.Str) = some (.ref fa) := by
      have e : (HandSHeadRun.topDef (OpenLaw.row PySem.Challenge.rw_hardwraps_k30_forms_errors).prog 51).name = ("law" : PySem.Str) := by kernel_rfl
      rw [← e]
      exact hmg0
    obtain ⟨y, rfl⟩ := facts KX G hmg c
    have b := FunD.bindsA (ps := ["script"]) y.F_law fun _ _ _ _ _ _ us hl => match us, hl with | [_], _ => rfl
    exact ⟨K, y.d_law, KX, fun s v => b s [v] rfl, fun base _ _ => g_law y⟩
end K30
theorem PySem.Challenge.cw_hardwraps_k30_forms_errors_holds : PySem.Challenge.rw_hardwraps_k30_forms_errors.Holds := by
  exact K30.holds K30.law_holds
