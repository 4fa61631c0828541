import PyProof.Rows.All
import Wide.All
import OpenK.AllK
import Wide.FinOn
import KE.GoesMore
import HandS.Iter
import HandS.ForMost
import HandS.TupAny
import HandS.TupLe
import HandS.Zip
import HandS.TupSets
import HandS.Style
import HandS.Deep
import HandS.IsInst
import HandS.Gcd
import HandS.Conv
import KE.KMathGC
import HandS.SortInts
import PySem.Challenge.RW_holescounted_k30_whole_cascades
set_option Elab.async false
set_option linter.all false
set_option maxRecDepth 100000
set_option maxHeartbeats 4000000
namespace Ev
open PySem PySem.Spec PyProof.Rows L2
open AutoSeq1 (wpAny_loadPart')

theorem meets_enum_newT (l : Addr) (items : Array Value) (n : Nat) (dct : Option Addr) (sl : Array (Option Value)) :
    Meets (Builtin.«enumerate.__new__» ⟨[.type "enumerate", .ref l], []⟩) (fun _ R s => s.heap.get? l = some { cls := .type "tuple", dict := dct, data := .seq items n, slots := sl } ∧
      R (.ok (.ret (.ref (s.heap.push { cls := .type "tuple_iterator", data := .fields #[.ref l, .int 0 0] }).objs.size)))
        { s with heap := (s.heap.push { cls := .type "tuple_iterator", data := .fields #[.ref l, .int 0 0] }).push { cls := .type "enumerate", data := .fields #[.none, .bool false, .ref s.heap.objs.size, rawInt 0, .none, .none] } }) :=
  .of_wp fun prog w A R s h => by
    obtain ⟨hp, g, d, tk, os⟩ := s; obtain ⟨hl, h⟩ := h
    have hsub := sub_enumerate
    have hL : Heap.IsTuple (Shared.heap ⟨hp, g, d, tk, os⟩) l items := ⟨_, hl, rfl, n, rfl⟩
    wp_walk using wpAny_loadPart' hl
    refine wpAny_stack_any fun st => wpAny_pure ?_
    split
    · rename_i c _ _ _ _ _
      cases (c == Value.type "enumerate")
      · wp_walk using wpAny_loadPart' hl, wpAny_pyIter_tuple hL
        exact ⟨_, rfl, h⟩
      · wp_walk using wpAny_loadPart' hl, wpAny_pyIter_tuple hL
        exact ⟨_, rfl, h⟩
    · wp_walk using wpAny_loadPart' hl, wpAny_pyIter_tuple hL
      exact ⟨_, rfl, h⟩
section
variable {prog : Program} {w : World} {A : Around} {E : Value → Shared → Prop} {s : Shared}
theorem call_enum_tuple {l : Addr} {items : Array Value} {Q : Value → Shared → Prop} (hL : s.heap.IsTuple l items)
    (h : ∀ h', IsEnum h' (s.heap.objs.size + 1) s.heap.objs.size 0 .none → h'.IsTupleIter s.heap.objs.size l 0 → h'.objs.size = s.heap.objs.size + 2 →
      (∀ b o, s.heap.get? b = some o → h'.get? b = some o) → Q (.ref (s.heap.objs.size + 1)) { s with heap := h' }) :
    wpAny (model prog w) A (call (.type "enumerate") [.ref l]) Q E s := by
  obtain ⟨⟨c, dct, dt, sl⟩, hl, hc, n, hd⟩ := hL
  replace hc : c = .type "tuple" := hc
  replace hd : dt = .seq items n := hd
  subst hc hd
  refine callType_new F.called_enumerate (by decide) (F.typeCall_enumerate_1 _) (F.newCall_enumerate_1 _) (fun obj => F.args_object_init_2 obj _) F.entry_enumerate_new
    (meets_enum_newT l items n dct sl) ⟨hl, ?_⟩
  have hz : (s.heap.push { cls := .type "tuple_iterator", data := .fields #[.ref l, .int 0 0] }).objs.size = s.heap.objs.size + 1 := Heap.size_push ..
  show _ ∧ _
  rw [hz]
  have he : IsEnum ((s.heap.push { cls := .type "tuple_iterator", data := .fields #[.ref l, .int 0 0] }).push
      { cls := .type "enumerate", data := .fields #[.none, .bool false, .ref s.heap.objs.size, rawInt 0, .none, .none] }) (s.heap.objs.size + 1) s.heap.objs.size 0 .none := by
    have := Heap.get?_push_size (s.heap.push { cls := .type "tuple_iterator", data := .fields #[.ref l, .int 0 0] })
      (o := { cls := .type "enumerate", data := .fields #[.none, .bool false, .ref s.heap.objs.size, rawInt 0, .none, .none] }) rfl
    rw [hz] at this; exact this
  refine ⟨⟨_, he, rfl⟩, h _ he ⟨_, Heap.get?_push_of_some _ (Heap.get?_push_size _ rfl), rfl, rfl⟩ (by rw [Heap.size_push, hz]) fun b o x => Heap.get?_push_of_some _ (Heap.get?_push_of_some _ x)⟩
theorem enumT_end {e it l : Addr} {i : Nat} {items : Array Value} {old : Value} {Q : Option Value → Shared → Prop} (hh : A.handled = none)
    (he : IsEnum s.heap e it i old) (hit : s.heap.IsTupleIter it l i) (hl : s.heap.IsTuple l items) (hx : items[i]? = none)
    (hQ : ∀ h', Heap.ExtBut it s.heap h' → Q none { s with heap := h' }) : wpAny (model prog w) A (pyNext (.ref e)) Q E s := by
  have hT : s.TypeIs (.ref e) "enumerate" := ⟨_, he, rfl⟩
  unfold pyNext
  refine wpAny_bind (wpAny_attempt (wpAny_callSpecial?_slot (name := Str.ofString "__next__") hT F.slot_enumerate_next
    (wpAny_call_entry F.slot_enumerate_next hT F.entry_enumerate_next ?_ (F.args_enumerate_next_1 _))))
  show wpAny _ _ (field (.ref e) 2 >>= _) _ _ _
  refine wpAny_bind (wpAny_field he rfl (x := .ref it) rfl ?_)
  refine wpAny_bind (wpAny_nextOf_tuple_end hh hit hl hx fun h' x he' hx' => ?_)
  obtain ⟨o, ho, hc⟩ := hx'
  refine wpAny_bind (wpAny_isInstance (T := "StopIteration") (b := true) ⟨o, ho, hc⟩ isSubtype_stop ?_)
  exact wpAny_pure (hQ _ he')
end
/-- the tuple at a as it stands at each turn, each item in a new pair -/
def IteT (K : PySem.W.Frag) (a : Addr) : It :=
  ⟨fun i H => ∃ (xs : List V) (x : V), SqT K H a xs ∧ xs[i]? = some x, fun i H v H' => ∃ T x, v = .ref T ∧ H T = none ∧ H' = upd H T (.tup [.int (i : Nat), x]) ∧ ∀ xs, SqT K H a xs → xs[i]? = some x, fun i H => ∃ xs : List V, SqT K H a xs ∧ xs.length ≤ i⟩
theorem turn_enumT {P : Program} {w : World} {K : PySem.W.Frag} {elts : List Expr} {kk : Nat} {tpos : Pos} (a e it : Addr) :
    Turn P w K (.Tuple elts kk tpos) (IteT K a) [e, it] e (fun i h => (∃ old, IsEnum h e it ((i : Nat) : Int) old) ∧ h.IsTupleIter it a i ∧ e ≠ it) where
  mem := by simp
  obj := fun i h st b hb => by
    obtain ⟨⟨old, he⟩, ⟨o, ho, hc, hd⟩, _⟩ := st
    have e' : b = e ∨ b = it := by simpa using hb
    rcases e' with z | z
    · rw [z]; exact ⟨_, he, fun v q => nomatch q⟩
    · rw [z]; exact ⟨o, ho, fun v q => by rw [hd] at q; cases q⟩
  keep := fun i h h' st k => let ⟨⟨old, he⟩, hi, hne⟩ := st; ⟨⟨old, k e (by simp) _ he⟩, hi.at fun o q => k it (by simp) o q, hne⟩
  item := by
    intro X hP hw hK hc i pins s σ H E I hf st hg
    subst hP hw hK
    obtain ⟨⟨old, he⟩, hit, hne⟩ := st
    obtain ⟨xs, x, hq, hx⟩ := hg
    obtain ⟨its, rv, p, hz⟩ := I.tuple hq
    obtain ⟨u, hu, ru⟩ := rv.get hx
    have hel : e < s.heap.objs.size := Heap.lt_size he
    have hil : it < s.heap.objs.size := by obtain ⟨_, q, _⟩ := hit; exact Heap.lt_size q
    have hea : a ≠ e := fun z => by
      subst z
      obtain ⟨o, h1, h2, _⟩ := p
      have h3 : s.heap.get? a = some _ := he
      rw [h1] at h3
      cases h3
      have h2 : Value.type "enumerate" = Value.type "tuple" := h2
      exact absurd h2 (by decide)
    have hta : a ≠ it := fun z => by
      subst z
      obtain ⟨o, h1, h2, _⟩ := p
      obtain ⟨o', h3, h4, _⟩ := hit
      rw [h1] at h3
      cases h3
      rw [h2] at h4
      exact absurd h4 (by decide)
    have hlt : i < its.toArray.size := by
      have : i < its.length := (List.getElem?_eq_some_iff.mp hu).1
      simpa using this
    have hh : X.A.in1.handled = none := I.ok.hd hc
    refine wpAny_pyNext_enum_itemD (Draws.tuple (prog := X.prog) (w := X.w) hh it a hta its.toArray) he ⟨hit, p⟩ hlt hne (fun z => by
      have : e = it ∨ e = a := by simpa using z
      rcases this with z | z
      · exact hne z
      · exact hea z.symm) fun u' h' tk hu' ho hst hT hsz hk => ?_
    have eu : u' = u := by
      have h1 : its[i]? = some u' := by simpa using hu'
      rw [hu] at h1
      exact (Option.some.inj h1).symm
    subst eu
    refine ⟨_, rfl, wpAny_letOwnedTupleGo_enum (s := { s with heap := h', toks := tk + 1 }) ho fun h'' he' sb => ?_⟩
    have hT2 : h''.get? s.heap.objs.size = some { cls := .type "tuple", data := .seq #[.int i tk, u'] } := (sb.2 _ (Nat.ne_of_gt hel)).trans hT
    have new : ObjOk X.prog X.w (upd H s.heap.objs.size (.tup [.int (i : Nat), x])) h'' s.heap.objs.size (.tup [.int (i : Nat), x]) :=
      ⟨by show 2 ≤ sizeLine; decide, [.int i tk, u'], .cons ⟨_, rfl⟩ (.cons ru .nil), ⟨_, hT2, rfl, _, rfl⟩⟩
    have I1 : Inv X pins σ (upd H s.heap.objs.size (.tup [.int (i : Nat), x])) { s with heap := h'', toks := tk + 1 } :=
      I.turnedNew (ch := [e, it]) (fun b ob hb q => (sb.2 b (fun z => hb (by simp [z]))).trans (hk b ob (fun z => hb (by simp [z])) (fun z => hb (by simp [z])) q)) hf (Nat.le_refl _) new
    refine ⟨.ref s.heap.objs.size, _, I1, rfl, ⟨_, x, rfl, I.hok.fresh (Nat.le_refl _), rfl, fun ys hy => by rw [I.tuple_inj hy hq]; exact hx⟩, ⟨⟨u', ?_⟩, hst.1.at fun o q => (sb.2 it (Ne.symm hne)).trans q, hne⟩, fun b hb => ?_⟩
    · have e1 : ((i + 1 : Nat) : Int) = (i : Int) + 1 := by omega
      rw [e1]; exact he'
    · have hb' : b < s.heap.objs.size := by
        have e' : b = e ∨ b = it := by simpa using hb
        rcases e' with z | z
        · rw [z]; exact hel
        · rw [z]; exact hil
      rw [upd_ne (Nat.ne_of_lt hb')]
      exact (hf b hb).1
  done := by
    intro X hP hw hK hc i pins s σ H E I hf st hg
    subst hP hw hK
    obtain ⟨⟨old, he⟩, hit, hne⟩ := st
    obtain ⟨xs, hq, hx⟩ := hg
    obtain ⟨its, rv, p, hz⟩ := I.tuple hq
    obtain ⟨f0, f1, f2, f3, f4, f5⟩ := hf it (by simp)
    have hl := rv.length
    exact enumT_end (I.ok.hd hc) he hit p (by simp; omega) fun h' eb => ⟨rfl, I.turned (t' := s.toks) (fun b o hb q => eb b o hb q) f0 f1 f3 f4 f5⟩
  self := fun A i s Q E st h => let ⟨⟨_, he⟩, _⟩ := st; wpAny_pyIter_enum he h
/-- enumerate of a list or a tuple -/
def iEnumA (K : PySem.W.Frag) (ta : TA) : TI := fun σ H R => ta σ H fun vs H1 => ∃ a xs, vs = [.ref a] ∧ ((SqL K H1 a xs ∧ R (Ite K a) H1) ∨ (SqT K H1 a xs ∧ R (IteT K a) H1))
theorem pi_enumA {X : Cx} {e : Expr} {ta : TA} {p pos tpos : Pos} {elts : List Expr} {kk : Nat} (hg : Gl X "enumerate") (hm : X.mg "enumerate" = none) (ha : PA X [e] ta) (hs : starEach [e] X.env = [(false, eval e X.env)]) :
    PI X (.Tuple elts kk tpos) (.Call (.Name "enumerate" p) [e] [] pos) (iEnumA X.K ta) := by
  refine ⟨fun pins s σ H R I h => ?_⟩
  refine Call_ (ld_blt I hg hm boot_enumerate (PyProof.Rows.callWith_type1 (thn (ha.run pos pins s σ H _ I h) fun us s1 ⟨vs, H1, I1, r1, q1⟩ => ?_) hs rfl))
  obtain ⟨a, xs, ex, q⟩ := q1
  subst ex
  cases r1 with
  | cons r rr =>
    cases rr
    cases r
    have fp : ∀ b, b ∈ [s1.heap.objs.size + 1, s1.heap.objs.size] → FpOk X pins H1 b := fun b hb => by
      have e' : b = s1.heap.objs.size + 1 ∨ b = s1.heap.objs.size := by simpa using hb
      have hle : s1.heap.objs.size ≤ b := by
        rcases e' with z | z
        · rw [z]; exact Nat.le_add_right _ _
        · rw [z]; exact Nat.le_refl _
      exact I1.fpOk hle (I1.hok.fresh hle)
    rcases q with ⟨hq, q⟩ | ⟨hq, q⟩
    · obtain ⟨its, rv, p', hz⟩ := I1.list hq
      refine call_enumerate_list p'.isList fun h' he hit hsz hk => wpAny_pyIter_enum he ?_
      have I2 : Inv X pins σ H1 { s1 with heap := h' } := I1.kept (t' := s1.toks) hk
      exact ⟨s1.heap.objs.size + 1, [s1.heap.objs.size + 1, s1.heap.objs.size], _, _, H1, rfl, I2, turn_enum a (s1.heap.objs.size + 1) s1.heap.objs.size, ⟨⟨.none, he⟩, hit, Nat.succ_ne_self _⟩, fp, q⟩
    · obtain ⟨its, rv, p', hz⟩ := I1.tuple hq
      refine call_enum_tuple (show s1.heap.IsTuple a its.toArray from p') fun h' he hit hsz hk => wpAny_pyIter_enum he ?_
      have I2 : Inv X pins σ H1 { s1 with heap := h' } := I1.kept (t' := s1.toks) hk
      exact ⟨s1.heap.objs.size + 1, [s1.heap.objs.size + 1, s1.heap.objs.size], _, _, H1, rfl, I2, turn_enumT a (s1.heap.objs.size + 1) s1.heap.objs.size, ⟨⟨.none, he⟩, hit, Nat.succ_ne_self _⟩, fp, q⟩
end Ev
namespace Ev
open PySem PySem.Spec PyProof.Rows L2

abbrev D := PyData
inductive Cl where
  | val (d : PyData)
  | own (fix lent : Bool) (l : List PyData)
abbrev En := List (Option Cl)
inductive Rs where
  | val (d : PyData)
  | new (l : List PyData)
inductive Opd where
  | d (d : PyData)
  | bor (i : Nat)
def Rs.dat : Rs → PyData
  | .val d => d
  | .new l => .list l

def Le (F H : Hp) : Prop := ∀ a o, F a = some o → H a = some o
theorem Le.refl {F : Hp} : Le F F := fun _ _ h => h
theorem Le.trans {F G H : Hp} (a : Le F G) (b : Le G H) : Le F H := fun p o h => b p o (a p o h)
theorem Le.rd {F H : Hp} {a : Addr} {u : HO} (le : Le F H) (r : Rd F a u) : Rd H a u := by
  rcases r with r | ⟨o, r⟩
  · exact .inl (le _ _ r)
  · exact .inr ⟨o, le _ _ r⟩
theorem Le.sqL {F H : Hp} {K : PySem.W.Frag} {a : Addr} {xs : List V} (le : Le F H) (r : SqL K F a xs) : SqL K H a xs := by
  rcases r with r | r
  · exact .inl (le.rd r)
  · exact .inr r
theorem Le.sqT {F H : Hp} {K : PySem.W.Frag} {a : Addr} {xs : List V} (le : Le F H) (r : SqT K F a xs) : SqT K H a xs := by
  rcases r with r | r
  · exact .inl (le.rd r)
  · exact .inr r
theorem Le.upd {F : Hp} {p : Addr} {o : HO} (h : F p = none) : Le F (upd F p o) := fun a u e => by
  rw [upd_ne (ne_of_none e h)]; exact e
/-- a list that is read alone -/
abbrev ro (ds : List PyData) : PyData := .dict [(.none, .list ds)]
mutual
inductive Rp (K : PySem.W.Frag) (F : Hp) : V → PyData → Prop
  | non : Rp K F .non .none
  | bl (b : Bool) : Rp K F (.bl b) (.bool b)
  | int (i : Int) : Rp K F (.int i) (.int i)
  | str (x : Str) : Rp K F (.str x) (.str x)
  | lst {a : Addr} {xs : List V} {ds : List PyData} : F a = some (.lst xs) → RpAll K F xs ds → Rp K F (.ref a) (.list ds)
  | tup {a : Addr} {xs : List V} {ds : List PyData} : SqT K F a xs → RpAll K F xs ds → Rp K F (.ref a) (.tuple ds)
  | rol {a : Addr} {xs : List V} {ds : List PyData} : SqL K F a xs → RpAll K F xs ds → Rp K F (.ref a) (ro ds)
inductive RpAll (K : PySem.W.Frag) (F : Hp) : List V → List PyData → Prop
  | nil : RpAll K F [] []
  | cons {v : V} {vs : List V} {d : PyData} {ds : List PyData} : Rp K F v d → RpAll K F vs ds → RpAll K F (v :: vs) (d :: ds)
end
section
variable {K : PySem.W.Frag} {F H : Hp}
mutual
theorem Rp.mono (le : Le F H) : ∀ {v : V} {d : PyData}, Rp K F v d → Rp K H v d
  | _, _, .non => .non
  | _, _, .bl b => .bl b
  | _, _, .int i => .int i
  | _, _, .str x => .str x
  | _, _, .lst h r => .lst (le _ _ h) (RpAll.mono le r)
  | _, _, .tup h r => .tup (le.sqT h) (RpAll.mono le r)
  | _, _, .rol h r => .rol (le.sqL h) (RpAll.mono le r)
theorem RpAll.mono (le : Le F H) : ∀ {vs : List V} {ds : List PyData}, RpAll K F vs ds → RpAll K H vs ds
  | _, _, .nil => .nil
  | _, _, .cons r t => .cons (Rp.mono le r) (RpAll.mono le t)
end
mutual
theorem Rp.dp : ∀ {v : V} {d : PyData}, Rp K F v d → d.canLay0 = true → Dp K F v d
  | _, _, .non, _ => .non
  | _, _, .bl b, _ => .bl b
  | _, _, .int i, _ => .int i
  | _, _, .str x, _ => .str x
  | _, _, .lst h r, z => .lst (.inl (.inl h)) (RpAll.dp r (by simpa [PyData.canLay0] using z))
  | _, _, .tup h r, z => .tup h (RpAll.dp r (by simpa [PyData.canLay0] using z))
  | _, _, .rol h r, z => by simp [PyData.canLay0] at z
theorem RpAll.dp : ∀ {vs : List V} {ds : List PyData}, RpAll K F vs ds → PyData.canLayAll0 ds = true → DpAll K F vs ds
  | _, _, .nil, _ => .nil
  | _, _, .cons (d := d) (ds := ds) r t, z => by
    have z' : d.canLay0 = true ∧ PyData.canLayAll0 ds = true := by simpa [PyData.canLayAll0] using z
    exact .cons (Rp.dp r z'.1) (RpAll.dp t z'.2)
end
theorem RpAll.length : ∀ {vs : List V} {ds : List PyData}, RpAll K F vs ds → vs.length = ds.length
  | _, _, .nil => rfl
  | _, _, .cons _ t => by simp [RpAll.length t]
theorem RpAll.get : ∀ {vs : List V} {ds : List PyData} {i : Nat} {d : PyData}, RpAll K F vs ds → ds[i]? = some d → ∃ v, vs[i]? = some v ∧ Rp K F v d
  | _, _, _, _, .nil, e => by simp at e
  | _, _, 0, _, .cons r _, e => by simp at e; subst e; exact ⟨_, rfl, r⟩
  | _, _, i + 1, _, .cons _ t, e => by
    obtain ⟨v, h1, h2⟩ := RpAll.get (i := i) t (by simpa using e)
    exact ⟨v, by simpa using h1, h2⟩
theorem RpAll.getV : ∀ {vs : List V} {ds : List PyData} {i : Nat} {v : V}, RpAll K F vs ds → vs[i]? = some v → ∃ d, ds[i]? = some d ∧ Rp K F v d
  | _, _, _, _, .nil, e => by simp at e
  | _, _, 0, _, .cons r _, e => by simp at e; subst e; exact ⟨_, rfl, r⟩
  | _, _, i + 1, _, .cons _ t, e => by
    obtain ⟨v, h1, h2⟩ := RpAll.getV (i := i) t (by simpa using e)
    exact ⟨v, by simpa using h1, h2⟩
theorem RpAll.append : ∀ {vs ws : List V} {ds es : List PyData}, RpAll K F vs ds → RpAll K F ws es → RpAll K F (vs ++ ws) (ds ++ es)
  | _, _, _, _, .nil, s => s
  | _, _, _, _, .cons r t, s => .cons r (RpAll.append t s)
theorem RpAll.take : ∀ {vs : List V} {ds : List PyData} (n : Nat), RpAll K F vs ds → RpAll K F (vs.take n) (ds.take n)
  | _, _, 0, _ => by simpa using RpAll.nil
  | _, _, _ + 1, .nil => by simpa using RpAll.nil
  | _, _, n + 1, .cons r t => by simpa using RpAll.cons r (RpAll.take n t)
theorem RpAll.drop : ∀ {vs : List V} {ds : List PyData} (n : Nat), RpAll K F vs ds → RpAll K F (vs.drop n) (ds.drop n)
  | _, _, 0, r => by simpa using r
  | _, _, _ + 1, .nil => by simpa using RpAll.nil
  | _, _, n + 1, .cons _ t => by simpa using RpAll.drop n t
theorem RpAll.set : ∀ {vs : List V} {ds : List PyData} (i : Nat) {v : V} {d : PyData}, RpAll K F vs ds → Rp K F v d → RpAll K F (vs.set i v) (ds.set i d)
  | _, _, _, _, _, .nil, _ => by simpa using RpAll.nil
  | _, _, 0, _, _, .cons _ t, q => by simpa using RpAll.cons q t
  | _, _, i + 1, _, _, .cons r t, q => by simpa using RpAll.cons r (RpAll.set i t q)
theorem RpAll.replicate {v : V} {d : PyData} (r : Rp K F v d) : ∀ n : Nat, RpAll K F (List.replicate n v) (List.replicate n d)
  | 0 => .nil
  | n + 1 => by simpa [List.replicate_succ] using RpAll.cons r (RpAll.replicate r n)
theorem Rp.int_inv {v : V} {i : Int} (r : Rp K F v (.int i)) : v = .int i := by cases r; rfl
theorem Rp.bool_inv {v : V} {b : Bool} (r : Rp K F v (.bool b)) : v = .bl b := by cases r; rfl
theorem Rp.str_inv {v : V} {b : Str} (r : Rp K F v (.str b)) : v = .str b := by cases r; rfl
theorem Rp.none_inv {v : V} (r : Rp K F v .none) : v = .non := by cases r; rfl
theorem Rp.list_inv {v : V} {ds : List PyData} (r : Rp K F v (.list ds)) : ∃ a xs, v = .ref a ∧ F a = some (.lst xs) ∧ RpAll K F xs ds := by
  cases r with | lst h r => exact ⟨_, _, rfl, h, r⟩
theorem Rp.tup_inv {v : V} {ds : List PyData} (r : Rp K F v (.tuple ds)) : ∃ a xs, v = .ref a ∧ SqT K F a xs ∧ RpAll K F xs ds := by
  cases r with | tup h r => exact ⟨_, _, rfl, h, r⟩
theorem Rp.ro_inv {v : V} {ds : List PyData} (r : Rp K F v (ro ds)) : ∃ a xs, v = .ref a ∧ SqL K F a xs ∧ RpAll K F xs ds := by
  cases r with | rol h r => exact ⟨_, _, rfl, h, r⟩
/-- the ints of a list of ints -/
def ints? : List PyData → Option (List Int)
  | [] => some []
  | .int i :: r => match ints? r with | some s => some (i :: s) | none => none
  | _ :: _ => none
theorem ints_map : ∀ {ds : List PyData} {ns : List Int} {xs : List V}, ints? ds = some ns → RpAll K F xs ds → xs = ns.map V.int
  | [], ns, _, h, .nil => by simp [ints?] at h; subst h; rfl
  | .int i :: r, ns, _, h, .cons q t => by
    simp only [ints?] at h
    cases e : ints? r with
    | none => rw [e] at h; cases h
    | some s =>
      rw [e] at h; cases h
      cases q
      rw [List.map_cons, ints_map e t]
  | .none :: _, _, _, h, _ => by simp [ints?] at h
  | .bool _ :: _, _, _, h, _ => by simp [ints?] at h
  | .str _ :: _, _, _, h, _ => by simp [ints?] at h
  | .list _ :: _, _, _, h, _ => by simp [ints?] at h
  | .tuple _ :: _, _, _, h, _ => by simp [ints?] at h
  | .dict _ :: _, _, _, h, _ => by simp [ints?] at h
def bools? : List PyData → Option (List Bool)
  | [] => some []
  | .bool i :: r => match bools? r with | some s => some (i :: s) | none => none
  | _ :: _ => none
theorem bools_map : ∀ {ds : List PyData} {ns : List Bool} {xs : List V}, bools? ds = some ns → RpAll K F xs ds → xs = ns.map V.bl
  | [], ns, _, h, .nil => by simp [bools?] at h; subst h; rfl
  | .bool i :: r, ns, _, h, .cons q t => by
    simp only [bools?] at h
    cases e : bools? r with
    | none => rw [e] at h; cases h
    | some s =>
      rw [e] at h; cases h
      cases q
      rw [List.map_cons, bools_map e t]
  | .none :: _, _, _, h, _ => by simp [bools?] at h
  | .int _ :: _, _, _, h, _ => by simp [bools?] at h
  | .str _ :: _, _, _, h, _ => by simp [bools?] at h
  | .list _ :: _, _, _, h, _ => by simp [bools?] at h
  | .tuple _ :: _, _, _, h, _ => by simp [bools?] at h
  | .dict _ :: _, _, _, h, _ => by simp [bools?] at h
theorem RpAll.ints : ∀ ns : List Int, RpAll K F (ns.map V.int) (ns.map PyData.int)
  | [] => .nil
  | n :: r => .cons (.int n) (RpAll.ints r)
end
end Ev
namespace Ev
open PySem PySem.Spec PyProof.Rows L2

/-- what a stretch of a run may lean on -/
structure Bs where
  F0 : Hp
  fr : Addr → Prop
  kp : Hp
  fx : Nat → Option Addr
  ln : Nat → Option (Addr × Bool × List PyData)

structure Sit (K : PySem.W.Frag) (B : Bs) (F : Hp) (σ : L2.St) (H : Hp) (ρ : En) : Prop where
  le : Le F H
  leF : Le B.F0 F
  newF : ∀ a o, F a = some o → B.F0 a = some o ∨ B.fr a
  fresh : ∀ a, H a = none → B.fr a
  kept : ∀ a o, B.kp a = some o → H a = some o
  len : ρ.length = σ.length
  val : ∀ (i : Nat) (d : PyData), ρ[i]? = some (some (Cl.val d)) → ∃ v, σ[i]? = some (some v) ∧ Rp K F v d
  own : ∀ (i : Nat) (f e : Bool) (l : List PyData), ρ[i]? = some (some (Cl.own f e l)) → ∃ p xs, σ[i]? = some (some (V.ref p)) ∧ H p = some (.lst xs) ∧ F p = none ∧ RpAll K F xs l ∧ B.kp p = none ∧ (f = false → B.fr p)
  inj : ∀ (i j : Nat) (f e : Bool) (l : List PyData) (f' e' : Bool) (l' : List PyData) (p : Addr), ρ[i]? = some (some (Cl.own f e l)) → ρ[j]? = some (some (Cl.own f' e' l')) → σ[i]? = some (some (V.ref p)) → σ[j]? = some (some (V.ref p)) → i = j
  fixd : ∀ (i : Nat) (p : Addr), B.fx i = some p → σ[i]? = some (some (V.ref p)) ∧ ∃ e l, ρ[i]? = some (some (Cl.own true e l))
  lntd : ∀ (i : Nat) (p : Addr) (f : Bool) (l : List PyData), B.ln i = some (p, f, l) → σ[i]? = some (some (V.ref p)) ∧ ρ[i]? = some (some (Cl.own f true l))

def ResOk (K : PySem.W.Frag) (B : Bs) (F : Hp) (σ : L2.St) (H : Hp) (ρ : En) (v : V) : Rs → Prop
  | .val d => Rp K F v d
  | .new l => ∃ p xs, v = .ref p ∧ H p = some (.lst xs) ∧ F p = none ∧ RpAll K F xs l ∧ B.kp p = none ∧ B.fr p ∧ ∀ (i : Nat) (f e : Bool) (l' : List PyData), ρ[i]? = some (some (Cl.own f e l')) → σ[i]? ≠ some (some (V.ref p))
/-- a value that is read: data, or a list that a name owns -/
def RpB (K : PySem.W.Frag) (F H : Hp) (v : V) (d : PyData) : Prop := Rp K F v d ∨ ∃ p xs l, v = .ref p ∧ d = .list l ∧ H p = some (.lst xs) ∧ RpAll K F xs l ∧ F p = none
theorem RpB.rp {K : PySem.W.Frag} {F H : Hp} {v : V} {d : PyData} (le : Le F H) (r : RpB K F H v d) : Rp K H v d := by
  rcases r with r | ⟨p, xs, l, rfl, rfl, h, r, _⟩
  · exact r.mono le
  · exact .lst h (r.mono le)
/-- the items of a list that is read, by the staying part -/
theorem RpB.list {K : PySem.W.Frag} {F H : Hp} {v : V} {ds : List PyData} (le : Le F H) (r : RpB K F H v (.list ds)) : ∃ a xs, v = .ref a ∧ H a = some (.lst xs) ∧ RpAll K F xs ds := by
  rcases r with r | ⟨p, xs, l, rfl, e, h, r, _⟩
  · obtain ⟨a, xs, rfl, h, r⟩ := r.list_inv
    exact ⟨a, xs, rfl, le _ _ h, r⟩
  · cases e
    exact ⟨p, xs, rfl, h, r⟩
theorem RpB.tup {K : PySem.W.Frag} {F H : Hp} {v : V} {ds : List PyData} (le : Le F H) (r : RpB K F H v (.tuple ds)) : ∃ a xs, v = .ref a ∧ SqT K H a xs ∧ RpAll K F xs ds := by
  rcases r with r | ⟨p, xs, l, _, e, _⟩
  · obtain ⟨a, xs, rfl, h, r⟩ := r.tup_inv
    exact ⟨a, xs, rfl, le.sqT h, r⟩
  · cases e
theorem RpB.ro {K : PySem.W.Frag} {F H : Hp} {v : V} {ds : List PyData} (le : Le F H) (r : RpB K F H v (Ev.ro ds)) : ∃ a xs, v = .ref a ∧ SqL K H a xs ∧ RpAll K F xs ds := by
  rcases r with r | ⟨p, xs, l, _, e, _⟩
  · obtain ⟨a, xs, rfl, h, r⟩ := r.ro_inv
    exact ⟨a, xs, rfl, le.sqL h, r⟩
  · cases e
theorem RpB.int {K : PySem.W.Frag} {F H : Hp} {v : V} {i : Int} (r : RpB K F H v (.int i)) : v = .int i := by
  rcases r with r | ⟨p, xs, l, _, e, _⟩
  · exact r.int_inv
  · cases e
theorem RpB.bool {K : PySem.W.Frag} {F H : Hp} {v : V} {i : Bool} (r : RpB K F H v (.bool i)) : v = .bl i := by
  rcases r with r | ⟨p, xs, l, _, e, _⟩
  · exact r.bool_inv
  · cases e
theorem RpB.str {K : PySem.W.Frag} {F H : Hp} {v : V} {i : Str} (r : RpB K F H v (.str i)) : v = .str i := by
  rcases r with r | ⟨p, xs, l, _, e, _⟩
  · exact r.str_inv
  · cases e
theorem RpB.none {K : PySem.W.Frag} {F H : Hp} {v : V} (r : RpB K F H v .none) : v = .non := by
  rcases r with r | ⟨p, xs, l, _, e, _⟩
  · exact r.none_inv
  · cases e

section
variable {K : PySem.W.Frag} {B : Bs} {F F' H H' : Hp} {σ : L2.St} {ρ : En} {p : Addr} {o : HO} {v : V}
/-- a new object that stays -/
theorem Sit.both (S : Sit K B F σ H ρ) (hp : H p = none) (o : HO) : Sit K B (upd F p o) σ (upd H p o) ρ := by
  have fp : F p = none := by
    cases e : F p with
    | none => rfl
    | some u => have := S.le _ _ e; rw [hp] at this; cases this
  have lf : Le F (upd F p o) := Le.upd fp
  refine ⟨fun a u e => ?_, S.leF.trans lf, fun a u e => ?_, fun a e => ?_, fun a u e => ?_, S.len, fun i d e => ?_, fun i f e' l e => ?_, S.inj, S.fixd, S.lntd⟩
  · by_cases h : a = p
    · subst h; rw [upd_same] at e ⊢; exact e
    · rw [upd_ne h] at e ⊢; exact S.le _ _ e
  · by_cases h : a = p
    · subst h; exact .inr (S.fresh _ hp)
    · rw [upd_ne h] at e; exact S.newF _ _ e
  · by_cases h : a = p
    · subst h; exact S.fresh _ hp
    · rw [upd_ne h] at e; exact S.fresh _ e
  · have q := S.kept _ _ e
    rw [upd_ne (ne_of_none q hp)]; exact q
  · obtain ⟨v, h1, h2⟩ := S.val i d e
    exact ⟨v, h1, h2.mono lf⟩
  · obtain ⟨q, xs, h1, h2, h3, h4, h5, h6⟩ := S.own i f e' l e
    have hq : q ≠ p := ne_of_none h2 hp
    exact ⟨q, xs, h1, by rw [upd_ne hq]; exact h2, by rw [upd_ne hq]; exact h3, h4.mono lf, h5, h6⟩
theorem Sit.fnone (S : Sit K B F σ H ρ) (hp : H p = none) : F p = none := by
  cases e : F p with
  | none => rfl
  | some u => have := S.le _ _ e; rw [hp] at this; cases this
theorem Sit.knone (S : Sit K B F σ H ρ) (hp : H p = none) : B.kp p = none := by
  cases e : B.kp p with
  | none => rfl
  | some u => have := S.kept _ _ e; rw [hp] at this; cases this
/-- a new object that is one's own -/
theorem Sit.grow (S : Sit K B F σ H ρ) (hp : H p = none) (o : HO) : Sit K B F σ (upd H p o) ρ := by
  refine ⟨fun a u e => ?_, S.leF, S.newF, fun a e => ?_, fun a u e => ?_, S.len, S.val, fun i f e' l e => ?_, S.inj, S.fixd, S.lntd⟩
  · have q := S.le _ _ e
    rw [upd_ne (ne_of_none q hp)]; exact q
  · by_cases h : a = p
    · subst h; exact S.fresh _ hp
    · rw [upd_ne h] at e; exact S.fresh _ e
  · have q := S.kept _ _ e
    rw [upd_ne (ne_of_none q hp)]; exact q
  · obtain ⟨q, xs, h1, h2, h3, h4, h5, h6⟩ := S.own i f e' l e
    exact ⟨q, xs, h1, by rw [upd_ne (ne_of_none h2 hp)]; exact h2, h3, h4, h5, h6⟩
theorem Sit.newOk (S : Sit K B F σ H ρ) (hp : H p = none) {xs : List V} {l : List PyData} (r : RpAll K F xs l) : ResOk K B F σ (upd H p (.lst xs)) ρ (.ref p) (.new l) := by
  refine ⟨p, xs, rfl, upd_same, S.fnone hp, r, S.knone hp, S.fresh _ hp, fun i f e l' h q => ?_⟩
  obtain ⟨q', xs', h1, h2, _⟩ := S.own i f e l' h
  rw [q] at h1; cases h1
  rw [hp] at h2; cases h2
/-- an own list is let go: it stays from now on -/
theorem Sit.freeze (S : Sit K B F σ H ρ) {r : Rs} (h : ResOk K B F σ H ρ v r) : ∃ F', Le F F' ∧ Sit K B F' σ H ρ ∧ Rp K F' v r.dat := by
  cases r with
  | val d => exact ⟨F, Le.refl, S, h⟩
  | new l =>
    obtain ⟨p, xs, rfl, hp, fp, r, kp, fr, ow⟩ := h
    have lf : Le F (upd F p (.lst xs)) := Le.upd fp
    refine ⟨upd F p (.lst xs), lf, ⟨fun a u e => ?_, S.leF.trans lf, fun a u e => ?_, S.fresh, S.kept, S.len, fun i d e => ?_, fun i f e' l e => ?_, S.inj, S.fixd, S.lntd⟩, .lst upd_same (r.mono lf)⟩
    · by_cases h : a = p
      · subst h; rw [upd_same] at e; cases e; exact hp
      · rw [upd_ne h] at e; exact S.le _ _ e
    · by_cases h : a = p
      · subst h; exact .inr fr
      · rw [upd_ne h] at e; exact S.newF _ _ e
    · obtain ⟨v, h1, h2⟩ := S.val i d e
      exact ⟨v, h1, h2.mono lf⟩
    · obtain ⟨q, ys, h1, h2, h3, h4, h5, h6⟩ := S.own i f e' l e
      have hq : q ≠ p := fun z => ow i f e' l e (z ▸ h1)
      exact ⟨q, ys, h1, h2, by rw [upd_ne hq]; exact h3, h4.mono lf, h5, h6⟩
/-- the slot of an own list becomes data -/
theorem Sit.letGo (S : Sit K B F σ H ρ) {i : Nat} {l : List PyData} (h : ρ[i]? = some (some (Cl.own false false l))) :
    ∃ F' v, Le F F' ∧ σ[i]? = some (some v) ∧ Sit K B F' σ H (ρ.set i (some (Cl.val (.list l)))) ∧ Rp K F' v (.list l) := by
  obtain ⟨p, xs, h1, h2, h3, h4, h5, h6⟩ := S.own i _ _ _ h
  have lf : Le F (upd F p (.lst xs)) := Le.upd h3
  have hlt : i < ρ.length := (List.getElem?_eq_some_iff.mp h).1
  have rr : Rp K (upd F p (.lst xs)) (.ref p) (.list l) := .lst upd_same (h4.mono lf)
  have gs : ∀ {j : Nat} {c : Cl}, (ρ.set i (some (Cl.val (.list l))))[j]? = some (some c) → (j = i ∧ c = .val (.list l)) ∨ (j ≠ i ∧ ρ[j]? = some (some c)) := fun {j c} e => by
    by_cases hj : i = j
    · subst hj; rw [List.getElem?_set_self hlt] at e; cases e; exact .inl ⟨rfl, rfl⟩
    · rw [List.getElem?_set_ne hj] at e; exact .inr ⟨fun z => hj z.symm, e⟩
  refine ⟨upd F p (.lst xs), .ref p, lf, h1, ⟨fun a u e => ?_, S.leF.trans lf, fun a u e => ?_, S.fresh, S.kept, by rw [List.length_set]; exact S.len, fun j d e => ?_, fun j f e' l' e => ?_, fun j k f e l1 f' e' l2 q a b c d => ?_, fun j q e => ?_, fun j q f l' e => ?_⟩, rr⟩
  · by_cases h : a = p
    · subst h; rw [upd_same] at e; cases e; exact h2
    · rw [upd_ne h] at e; exact S.le _ _ e
  · by_cases h : a = p
    · subst h; exact .inr (h6 rfl)
    · rw [upd_ne h] at e; exact S.newF _ _ e
  · rcases gs e with ⟨ej, e2⟩ | ⟨_, e2⟩
    · cases e2; subst ej; exact ⟨_, h1, rr⟩
    · obtain ⟨v, q1, q2⟩ := S.val j d e2
      exact ⟨v, q1, q2.mono lf⟩
  · rcases gs e with ⟨_, e⟩ | ⟨hj, e⟩
    · cases e
    · obtain ⟨q, ys, q1, q2, q3, q4, q5, q6⟩ := S.own j f e' l' e
      have hq : q ≠ p := fun z => by
        subst z
        exact hj (S.inj j i _ _ _ _ _ _ q e h q1 h1)
      exact ⟨q, ys, q1, q2, by rw [upd_ne hq]; exact q3, q4.mono lf, q5, q6⟩
  · rcases gs a with ⟨_, a⟩ | ⟨_, a⟩
    · cases a
    · rcases gs b with ⟨_, b⟩ | ⟨_, b⟩
      · cases b
      · exact S.inj _ _ _ _ _ _ _ _ _ a b c d
  · obtain ⟨q1, e1, l1, q2⟩ := S.fixd j q e
    have hj : i ≠ j := fun z => by subst z; rw [h] at q2; cases q2
    exact ⟨q1, e1, l1, by rw [List.getElem?_set_ne hj]; exact q2⟩
  · obtain ⟨q1, q2⟩ := S.lntd j q f l' e
    have hj : i ≠ j := fun z => by subst z; rw [h] at q2; cases q2
    exact ⟨q1, by rw [List.getElem?_set_ne hj]; exact q2⟩
/-- the content of an own list is changed in place -/
theorem Sit.change (S : Sit K B F σ H ρ) {i : Nat} {f0 : Bool} {l l' : List PyData} {xs' : List V} (h : ρ[i]? = some (some (Cl.own f0 false l))) (hp : σ[i]? = some (some (V.ref p))) (r : RpAll K F xs' l') :
    Sit K B F σ (upd H p (.lst xs')) (ρ.set i (some (Cl.own f0 false l'))) := by
  obtain ⟨p', xs, h1, h2, h3, h4, h5, h6⟩ := S.own i _ _ _ h
  rw [hp] at h1; cases h1
  have hlt : i < ρ.length := (List.getElem?_eq_some_iff.mp h).1
  have gs : ∀ {j : Nat} {c : Cl}, (ρ.set i (some (Cl.own f0 false l')))[j]? = some (some c) → (j = i ∧ c = .own f0 false l') ∨ (j ≠ i ∧ ρ[j]? = some (some c)) := fun {j c} e => by
    by_cases hj : i = j
    · subst hj; rw [List.getElem?_set_self hlt] at e; cases e; exact .inl ⟨rfl, rfl⟩
    · rw [List.getElem?_set_ne hj] at e; exact .inr ⟨fun z => hj z.symm, e⟩
  refine ⟨fun a u e => ?_, S.leF, S.newF, fun a e => ?_, fun a u e => ?_, by rw [List.length_set]; exact S.len, fun j d e => ?_, fun j f1 e' l1 e => ?_, fun j k f1 e l1 f' e' l2 q a b c d => ?_, fun j q e => ?_, fun j q f1 l1 e => ?_⟩
  · have hq : a ≠ p := fun z => by subst z; rw [h3] at e; cases e
    rw [upd_ne hq]; exact S.le _ _ e
  · by_cases hq : a = p
    · subst hq; rw [upd_same] at e; cases e
    · rw [upd_ne hq] at e; exact S.fresh _ e
  · have hq : a ≠ p := fun z => by subst z; rw [h5] at e; cases e
    rw [upd_ne hq]; exact S.kept _ _ e
  · rcases gs e with ⟨_, e⟩ | ⟨_, e⟩
    · cases e
    · exact S.val j d e
  · rcases gs e with ⟨ej, e2⟩ | ⟨hj, e2⟩
    · cases e2; subst ej; exact ⟨p, xs', hp, upd_same, h3, r, h5, h6⟩
    · obtain ⟨q, ys, q1, q2, q3, q4, q5, q6⟩ := S.own j f1 e' l1 e2
      have hq : q ≠ p := fun z => by
        subst z
        exact hj (S.inj j i _ _ _ _ _ _ q e2 h q1 hp)
      exact ⟨q, ys, q1, by rw [upd_ne hq]; exact q2, q3, q4, q5, q6⟩
  · have own' : ∀ {j : Nat} {f e : Bool} {l : List PyData}, (ρ.set i (some (Cl.own f0 false l')))[j]? = some (some (Cl.own f e l)) → ∃ (f e : Bool) (l : List PyData), ρ[j]? = some (some (Cl.own f e l)) := @fun j f e l z => by
      rcases gs z with ⟨rfl, _⟩ | ⟨_, z⟩
      · exact ⟨_, _, _, h⟩
      · exact ⟨_, _, _, z⟩
    obtain ⟨_, _, _, a'⟩ := own' a
    obtain ⟨_, _, _, b'⟩ := own' b
    exact S.inj _ _ _ _ _ _ _ _ _ a' b' c d
  · obtain ⟨q1, e1, l1, q2⟩ := S.fixd j q e
    refine ⟨q1, ?_⟩
    by_cases hj : i = j
    · subst hj; rw [h] at q2; cases q2; exact ⟨false, l', List.getElem?_set_self hlt⟩
    · exact ⟨e1, l1, by rw [List.getElem?_set_ne hj]; exact q2⟩
  · obtain ⟨q1, q2⟩ := S.lntd j q f1 l1 e
    have hj : i ≠ j := fun z => by subst z; rw [h] at q2; cases q2
    exact ⟨q1, by rw [List.getElem?_set_ne hj]; exact q2⟩
end
end Ev
namespace Ev
open PySem PySem.Spec PyProof.Rows L2

inductive BOp | add | sub | mul | fdiv | mod | pow
inductive COp | lt | le | gt | ge | eq | ne | is | isNot | isin | notIn
inductive Ty | int | bool | str | tuple | list
inductive Blt | len | abs | int | sum | tuple | list | max | min | all | any | comb | gcd | sorted | lenset
mutual
inductive Ex
  | var (i : Nat)
  | con (d : PyData)
  | glb (x : Str) (d : PyData)
  | bin (o : BOp) (a b : Ex)
  | neg (a : Ex)
  | cmp (o : COp) (a b : Ex)
  | chn (o o' : COp) (a b c : Ex)
  | and (a b : Ex)
  | or (a b : Ex)
  | not (a : Ex)
  | ite (c a b : Ex)
  | idx (a b : Ex)
  | slc (a : Ex) (lo hi : Exs)
  | tup (es : Exs)
  | lst (es : Exs)
  | call (f : Nat) (io : Option Nat) (es : Exs)
  | blt (b : Blt) (es : Exs)
  | isi (a : Ex) (t : Ty)
  | lens (a : Ex)
  | lc (s : Src) (tg vs : List Nat) (ifs : Exs) (e : Ex)
inductive Exs
  | nil
  | cons (e : Ex) (r : Exs)
inductive Src
  | seq (a : Ex)
  | rng (a : Ex)
  | rng2 (a b : Ex)
  | enm (a : Ex)
  | zip (a b : Ex)
end
mutual
inductive Sm
  | ret (e : Ex)
  | asg (i : Nat) (e : Ex)
  | par (i j : Nat) (a b : Ex)
  | par3 (i j k : Nat) (a b c : Ex)
  | unp (is : List Nat) (e : Ex)
  | sto (i : Nat) (k e : Ex)
  | app (i : Nat) (e : Ex)
  | drop (e : Ex)
  | ife (c : Ex) (a b : Sms)
  | whl (c : Ex) (a : Sms)
  | fr (s : Src) (tg : List Nat) (a : Sms)
  | pass
  | brk
  | cnt
  | rse
inductive Sms
  | nil
  | cons (s : Sm) (r : Sms)
end

def lim : Nat := 16777216
def i64 (i : Int) : Bool := decide (-(2 ^ 64) < i ∧ i < 2 ^ 64)
def binD : BOp → PyData → PyData → Option Rs
  | .add, .int i, .int j => some (.val (.int (i + j)))
  | .add, .list a, .list b => if a.length + b.length ≤ lim then some (.new (a ++ b)) else none
  | .add, .tuple a, .tuple b => if a.length + b.length ≤ lim then some (.val (.tuple (a ++ b))) else none
  | .sub, .int i, .int j => some (.val (.int (i - j)))
  | .mul, .int i, .int j => if i64 i || i64 j then some (.val (.int (i * j))) else none
  | .fdiv, .int i, .int j => if 0 < j ∧ j < 1073741824 then some (.val (.int (i / j))) else none
  | .mod, .int i, .int j => if 0 < j then some (.val (.int (i % j))) else none
  | .pow, .int i, .int j => if 0 ≤ j ∧ j ≤ 1000000 ∧ i.natAbs < 2 ^ 64 then some (.val (.int (i ^ j.toNat))) else none
  | _, _, _ => none
def shp (d : PyData) : Bool := SeqAt.shaped d
def eqD : PyData → PyData → Option Bool
  | .int i, .int j => some (i == j)
  | .bool i, .bool j => some (i == j)
  | .none, .none => some true
  | a, b => if shp a && shp b then some (PyData.eqv a b) else none
def isNon : PyData → Bool
  | .none => true
  | _ => false
def inD : PyData → PyData → Option Bool
  | d, .list ds => if shp d && shp (.list ds) then some (ds.any fun z => PyData.eqv z d) else none
  | d, .tuple ds => if shp d && shp (.tuple ds) then some (ds.any fun z => PyData.eqv z d) else none
  | _, _ => none
def cmpD : COp → PyData → PyData → Option Bool
  | .lt, .int i, .int j => some (decide (i < j))
  | .le, .int i, .int j => some (decide (i ≤ j))
  | .gt, .int i, .int j => some (decide (j < i))
  | .ge, .int i, .int j => some (decide (j ≤ i))
  | .eq, a, b => eqD a b
  | .ne, a, b => (eqD a b).map not
  | .is, a, .none => some (isNon a)
  | .isNot, a, .none => some (!isNon a)
  | .isin, a, b => inD a b
  | .notIn, a, b => (inD a b).map not
  | _, _, _ => none
def truD : PyData → Option Bool
  | .none => some false
  | .bool b => some b
  | .int i => some (i != 0)
  | .list l => some (!l.isEmpty)
  | .tuple l => some (!l.isEmpty)
  | _ => none
def idxD : PyData → PyData → Option PyData
  | .list l, .int i => atI l i
  | .tuple l, .int i => atI l i
  | _, _ => none
def cutD (xs : List PyData) (lo hi : Option Int) : List PyData := (xs.drop (HT.sIx xs.length 0 lo)).take (HT.sIx xs.length xs.length hi - HT.sIx xs.length 0 lo)
def slcD : PyData → Option Int → Option Int → Option Rs
  | .list l, lo, hi => some (.new (cutD l lo hi))
  | .tuple l, lo, hi => some (.val (.tuple (cutD l lo hi)))
  | _, _, _ => none
/-- the greatest, the least of some ints -/
def maxL : List Int → Int
  | [] => 0
  | [a] => a
  | a :: r => max a (maxL r)
def minL : List Int → Int
  | [] => 0
  | [a] => a
  | a :: r => min a (minL r)
def insI (a : Int) : List Int → List Int
  | [] => [a]
  | b :: r => if a ≤ b then a :: b :: r else b :: insI a r
def srtI : List Int → List Int
  | [] => []
  | a :: r => insI a (srtI r)
def isiD : Ty → PyData → Option Bool
  | .int, .int _ => some true
  | .int, .bool _ => some true
  | .int, .none => some false
  | .int, .str _ => some false
  | .int, .list _ => some false
  | .int, .tuple _ => some false
  | .bool, .bool _ => some true
  | .bool, .int _ => some false
  | .bool, .none => some false
  | .bool, .str _ => some false
  | .bool, .list _ => some false
  | .bool, .tuple _ => some false
  | .str, .str _ => some true
  | .str, .int _ => some false
  | .str, .bool _ => some false
  | .str, .none => some false
  | .str, .list _ => some false
  | .str, .tuple _ => some false
  | .tuple, .tuple _ => some true
  | .tuple, .int _ => some false
  | .tuple, .bool _ => some false
  | .tuple, .none => some false
  | .tuple, .list _ => some false
  | .tuple, .str _ => some false
  | .list, .list _ => some true
  | .list, .int _ => some false
  | .list, .bool _ => some false
  | .list, .none => some false
  | .list, .tuple _ => some false
  | .list, .str _ => some false
  | _, .dict _ => none
def intsOf (f : List Int → Option PyData) (l : List PyData) : Option Rs :=
  match ints? l with
  | some ns => (f ns).map Rs.val
  | none => none
def distD : List PyData → List PyData
  | [] => []
  | a :: r => if r.any fun z => PyData.eqv z a then distD r else a :: distD r
def tupsI? : List PyData → Option (List (List Int))
  | [] => some []
  | .tuple l :: r => match ints? l, tupsI? r with | some s, some t => some (s :: t) | _, _ => none
  | _ :: _ => none
def bltD : Blt → List PyData → Option Rs
  | .len, [.list l] => some (.val (.int (l.length : Nat)))
  | .len, [.tuple l] => some (.val (.int (l.length : Nat)))
  | .abs, [.int i] => some (.val (.int (if i < 0 then -i else i)))
  | .int, [.int i] => some (.val (.int i))
  | .sum, [.list l] => intsOf (fun ns => some (.int ns.sum)) l
  | .max, [.list l] => intsOf (fun ns => if ns.isEmpty then none else some (.int (maxL ns))) l
  | .min, [.list l] => intsOf (fun ns => if ns.isEmpty then none else some (.int (minL ns))) l
  | .max, [.int i, .int j] => some (.val (.int (if j > i then j else i)))
  | .min, [.int i, .int j] => some (.val (.int (if j < i then j else i)))
  | .sorted, [.list l] => match ints? l with | some ns => some (.new ((srtI ns).map PyData.int)) | none => none
  | .tuple, [.list l] => some (.val (.tuple l))
  | .tuple, [.tuple l] => some (.val (.tuple l))
  | .list, [.list l] => some (.new l)
  | .list, [.tuple l] => some (.new l)
  | .list, [.dict [(.none, .list l)]] => some (.new l)
  | .all, [.list l] => match bools? l with | some bs => some (.val (.bool (bs.all id))) | none => none
  | .any, [.list l] => match bools? l with | some bs => some (.val (.bool (bs.any id))) | none => none
  | .comb, [.int a, .int b] => if 0 ≤ a ∧ 0 ≤ b ∧ a < 2 ^ 64 ∧ b ≤ 9000 then some (.val (.int (PySem.W.mcComb a b))) else none
  | .gcd, [.int a, .int b] => some (.val (.int ((Nat.gcd a.natAbs b.natAbs : Nat) : Int)))
  | _, _ => none

def distT : List (List Int) → List (List Int)
  | [] => []
  | a :: r => if r.contains a then distT r else a :: distT r
def lensD : PyData → Option Rs
  | .list l => (match tupsI? l with | some ts => if l.length < 64 then some (.val (.int ((distT ts).length : Nat))) else none | none => none)
  | _ => none

abbrev Ev1 := En → Option (Rs × En)
abbrev EvO := En → Option (Opd × En)
abbrev EvB := En → Option (Bool × En)
abbrev CF := Nat → Option Nat → List PyData → Option (Rs × List PyData)
structure E2 where
  e : Ev1
  t : EvB
def opdV (i : Nat) : EvO := fun ρ => match ρ[i]? with
  | some (some (.own _ _ _)) => some (.bor i, ρ)
  | some (some (.val d)) => some (.d d, ρ)
  | _ => none
def opdE (m : Ev1) : EvO := fun ρ => match m ρ with
  | some (r, ρ') => some (.d r.dat, ρ')
  | none => none
def opd : Ex → Ev1 → EvO
  | .var i, _ => opdV i
  | _, m => opdE m
def rsv (ρ : En) : Opd → Option PyData
  | .d d => some d
  | .bor i => match ρ[i]? with | some (some (.own _ _ l)) => some (.list l) | _ => none
def rsvs (ρ : En) : List Opd → Option (List PyData)
  | [] => some []
  | o :: r => match rsv ρ o, rsvs ρ r with | some d, some ds => some (d :: ds) | _, _ => none
/-- several operands, from the left -/
def seqO : List EvO → En → Option (List Opd × En)
  | [], ρ => some ([], ρ)
  | m :: r, ρ => match m ρ with
    | some (o, ρ1) => (match seqO r ρ1 with | some (os, ρ2) => some (o :: os, ρ2) | none => none)
    | none => none
/-- a built-in thing over operands -/
def app1 (ms : List EvO) (g : List PyData → Option Rs) : Ev1 := fun ρ => match seqO ms ρ with
  | some (os, ρ1) => (match rsvs ρ1 os with
    | some ds => (match g ds with | some r => some (r, ρ1) | none => none)
    | none => none)
  | none => none
def g1 (f : PyData → Option Rs) : List PyData → Option Rs
  | [a] => f a
  | _ => none
def g2 (f : PyData → PyData → Option Rs) : List PyData → Option Rs
  | [a, b] => f a b
  | _ => none
def rb (o : Option Bool) : Option Rs := o.map fun b => Rs.val (.bool b)
def rd (o : Option PyData) : Option Rs := o.map Rs.val
def varE (i : Nat) : Ev1 := fun ρ => match ρ[i]? with
  | some (some (.val d)) => some (.val d, ρ)
  | some (some (.own false false l)) => some (.val (.list l), ρ.set i (some (.val (.list l))))
  | _ => none
/-- a test by the truth of a value -/
def tstO (m : EvO) : EvB := fun ρ => match m ρ with
  | some (o, ρ1) => (match rsv ρ1 o with
    | some d => (match truD d with | some b => some (b, ρ1) | none => none)
    | none => none)
  | none => none
def andT (a b : EvB) : EvB := fun ρ => match a ρ with
  | some (true, ρ1) => b ρ1
  | some (false, ρ1) => some (false, ρ1)
  | none => none
def orT (a b : EvB) : EvB := fun ρ => match a ρ with
  | some (true, ρ1) => some (true, ρ1)
  | some (false, ρ1) => b ρ1
  | none => none
def notT (a : EvB) : EvB := fun ρ => match a ρ with
  | some (b, ρ1) => some (!b, ρ1)
  | none => none
def andE (a b : Ev1) : Ev1 := fun ρ => match a ρ with
  | some (.val (.bool true), ρ1) => b ρ1
  | some (.val (.bool false), ρ1) => some (.val (.bool false), ρ1)
  | _ => none
def orE (a b : Ev1) : Ev1 := fun ρ => match a ρ with
  | some (.val (.bool true), ρ1) => some (.val (.bool true), ρ1)
  | some (.val (.bool false), ρ1) => b ρ1
  | _ => none
def notE (a : Ev1) : Ev1 := fun ρ => match a ρ with
  | some (.val (.bool b), ρ1) => some (.val (.bool (!b)), ρ1)
  | _ => none
def iteE (c : EvB) (a b : Ev1) : Ev1 := fun ρ => match c ρ with
  | some (true, ρ1) => a ρ1
  | some (false, ρ1) => b ρ1
  | none => none
/-- a < b < c: the last one is asked only if the first holds -/
def chnE (o o' : COp) (a b c : EvO) : Ev1 := fun ρ => match a ρ with
  | some (x, ρ1) => (match b ρ1 with
    | some (y, ρ2) => (match rsv ρ2 x, rsv ρ2 y with
      | some d, some e => (match cmpD o d e with
        | some true => (match c ρ2 with
          | some (z, ρ3) => (match rsv ρ3 y, rsv ρ3 z with
            | some e', some f => (match cmpD o' e' f with | some k => some (.val (.bool k), ρ3) | none => none)
            | _, _ => none)
          | none => none)
        | some false => some (.val (.bool false), ρ2)
        | none => none)
      | _, _ => none)
    | none => none)
  | none => none
/-- the parts of a slice -/
def partO : List EvO → En → Option (Option Int × En)
  | [], ρ => some (none, ρ)
  | m :: _, ρ => match m ρ with | some (.d (.int i), ρ1) => some (some i, ρ1) | _ => none
def slcE (a : EvO) (lo hi : List EvO) : Ev1 := fun ρ => match a ρ with
  | some (x, ρ1) => (match partO lo ρ1 with
    | some (l, ρ2) => (match partO hi ρ2 with
      | some (h, ρ3) => (match rsv ρ3 x with
        | some d => (match slcD d l h with | some r => some (r, ρ3) | none => none)
        | none => none)
      | none => none)
    | none => none)
  | none => none
def tupG (ds : List PyData) : Option Rs := if ds.length ≤ lim then some (.val (.tuple ds)) else none
def lstG (ds : List PyData) : Option Rs := if ds.length ≤ lim then some (.new ds) else none
def scalD : PyData → Bool
  | .none => true
  | .bool _ => true
  | .int _ => true
  | .str _ => true
  | _ => false
def scalR : Rs → Bool
  | .val d => scalD d
  | .new _ => false
/-- the slots that are lent to a call, but for the one at the place io -/
def borsO : Nat → Option Nat → List Opd → List Nat
  | _, _, [] => []
  | k, io, .bor i :: r => if io = some k then borsO (k + 1) io r else i :: borsO (k + 1) io r
  | k, io, .d _ :: r => borsO (k + 1) io r
def freezeAll : List Nat → En → Option En
  | [], ρ => some ρ
  | i :: is, ρ => match ρ[i]? with
    | some (some (.own false false l)) => freezeAll is (ρ.set i (some (.val (.list l))))
    | some (some (.val _)) => freezeAll is ρ
    | _ => none
/-- the slot that is given to be changed -/
def ioSlot (ρ : En) (os : List Opd) : Option Nat → Option (Option (Nat × Bool))
  | none => some none
  | some j => match os[j]? with
    | some (.bor i) => (match ρ[i]? with | some (some (.own f false _)) => some (some (i, f)) | _ => none)
    | _ => none
def ioPut (ρ : En) (out : List PyData) : Option (Nat × Bool) → En
  | none => ρ
  | some (i, f) => ρ.set i (some (.own f false out))
def callE (cf : CF) (f : Nat) (io : Option Nat) (ms : List EvO) : Ev1 := fun ρ => match seqO ms ρ with
  | some (os, ρ1) => (match rsvs ρ1 os, ioSlot ρ1 os io with
    | some ds, some sl => if (borsO 0 io os).all (fun i => decide (sl.map (·.1) ≠ some i)) then (match cf f io ds with
      | some (r, out) => if scalR r && out.all scalD then some (r, ioPut ρ1 out sl) else
        (match freezeAll (borsO 0 io os) ρ1 with | some ρ2 => some (r, ioPut ρ2 out sl) | none => none)
      | none => none) else none
    | _, _ => none)
  | none => none
/-- the names of a target take their values -/
def setV (i : Nat) (c : Cl) (ρ : En) : Option En := match ρ[i]? with
  | some none => some (ρ.set i (some c))
  | some (some (.val _)) => some (ρ.set i (some c))
  | some (some (.own false false _)) => some (ρ.set i (some c))
  | _ => none
def setVs : List Nat → List PyData → En → Option En
  | [], [], ρ => some ρ
  | i :: is, d :: ds, ρ => (match setV i (.val d) ρ with | some ρ1 => setVs is ds ρ1 | none => none)
  | _, _, _ => none
def bindT (tg : List Nat) (d : PyData) (ρ : En) : Option En := match tg with
  | [i] => setV i (.val d) ρ
  | is => (match d with
    | .tuple ds => if ds.length = is.length then setVs is ds ρ else none
    | _ => none)
/-- what a loop walks: the items, the name that is lent meanwhile -/
def rngD (i j : Int) : List PyData := (List.range (j - i).toNat).map fun k => PyData.int (i + (k : Nat))
def small62 (i : Int) : Bool := decide (-(2 ^ 62) ≤ i ∧ i < 2 ^ 62)
def enmD (i : Nat) : List PyData → List PyData
  | [] => []
  | d :: r => .tuple [.int (i : Nat), d] :: enmD (i + 1) r
def zipD : List PyData → List PyData → List PyData
  | a :: r, b :: s => .tuple [a, b] :: zipD r s
  | _, _ => []
/-- a name that was lent is one's own again -/
def unlendE (i : Nat) (e : Bool) (ρ : En) : En := match ρ[i]? with
  | some (some (.own f _ l)) => ρ.set i (some (.own f e l))
  | _ => ρ
abbrev EvS := En → Option (List PyData × En × Option (Nat × Bool))
def srcSeq (m : EvO) : EvS := fun ρ => match m ρ with
  | some (.d (.list l), ρ1) => some (l, ρ1, none)
  | some (.d (.tuple l), ρ1) => some (l, ρ1, none)
  | some (.bor i, ρ1) => (match ρ1[i]? with
    | some (some (.own f e l)) => some (l, ρ1.set i (some (.own f true l)), some (i, e))
    | _ => none)
  | _ => none
def srcG (ms : List EvO) (g : List PyData → Option (List PyData)) : EvS := fun ρ => match seqO ms ρ with
  | some (os, ρ1) => (match os with
    | [.d a] => (match g [a] with | some l => some (l, ρ1, none) | none => none)
    | [.d a, .d b] => (match g [a, b] with | some l => some (l, ρ1, none) | none => none)
    | _ => none)
  | none => none
def gRng : List PyData → Option (List PyData)
  | [.int j] => if small62 j then some (rngD 0 j) else none
  | [.int i, .int j] => if small62 i && small62 j then some (rngD i j) else none
  | _ => none
def gEnm : List PyData → Option (List PyData)
  | [.list l] => some (enmD 0 l)
  | [.tuple l] => some (enmD 0 l)
  | _ => none
def gZip : List PyData → Option (List PyData)
  | [.list a, .list b] => some (zipD a b)
  | [.tuple a, .tuple b] => some (zipD a b)
  | _ => none
/-- the slots of a comprehension's names forgotten -/
def wipeE (ρ : En) : List Nat → En
  | [] => ρ
  | v :: vs => (wipeE ρ vs).set v none
def restE (was : En) (ρ : En) : List Nat → En
  | [] => ρ
  | v :: vs => (restE was ρ vs).set v ((was[v]?).getD none)
def freeV (ρ : En) (v : Nat) : Bool := match ρ[v]? with
  | some (some (.own _ _ _)) => false
  | some _ => true
  | none => false
def allT : List EvB → EvB
  | [] => fun ρ => some (true, ρ)
  | [m] => m
  | _ => fun _ => none
def lcGo (tg vs : List Nat) (ifs : EvB) (e : Ev1) : List PyData → En → Option (List PyData × En)
  | [], ρ => some ([], ρ)
  | d :: ds, ρ => (match bindT tg d ρ with
    | some ρ1 => (match ifs ρ1 with
      | some (true, ρ2) => (match e ρ2 with
        | some (r, ρ3) => (match lcGo tg vs ifs e ds (wipeE ρ3 vs) with | some (l, ρ4) => some (r.dat :: l, ρ4) | none => none)
        | none => none)
      | some (false, ρ2) => lcGo tg vs ifs e ds (wipeE ρ2 vs)
      | none => none)
    | none => none)
def backE (o : Option (Nat × Bool)) (ρ : En) : En := match o with
  | none => ρ
  | some (i, e) => unlendE i e ρ
def lcE (s : EvS) (tg vs : List Nat) (ifs : EvB) (e : Ev1) : Ev1 := fun ρ => match s ρ with
  | some (l, ρ1, o) => if l.length ≤ lim && vs.all (freeV ρ1) && tg.all (fun i => vs.contains i) && !(o.any fun i => vs.contains i.1) then (match lcGo tg vs ifs e l (wipeE ρ1 vs) with
    | some (r, ρ2) => some (.new r, backE o (restE ρ1 ρ2 vs))
    | none => none) else none
  | none => none
section
variable (cf : CF)
mutual
def ev : Ex → E2
  | .var i => ⟨varE i, tstO (opdV i)⟩
  | .con d => dflt fun ρ => some (.val d, ρ)
  | .glb _ d => dflt fun ρ => some (.val d, ρ)
  | .bin o a b => dflt (app1 [opd a (ev a).e, opd b (ev b).e] (g2 (binD o)))
  | .neg a => dflt (app1 [opd a (ev a).e] (g1 fun d => match d with | .int i => some (.val (.int (-i))) | _ => none))
  | .cmp o a b => dflt (app1 [opd a (ev a).e, opd b (ev b).e] (g2 fun d e => rb (cmpD o d e)))
  | .chn o o' a b c => dflt (chnE o o' (opd a (ev a).e) (opd b (ev b).e) (opd c (ev c).e))
  | .and a b => ⟨andE (ev a).e (ev b).e, andT (ev a).t (ev b).t⟩
  | .or a b => ⟨orE (ev a).e (ev b).e, orT (ev a).t (ev b).t⟩
  | .not a => ⟨notE (ev a).e, notT (ev a).t⟩
  | .ite c a b => dflt (iteE (ev c).t (ev a).e (ev b).e)
  | .idx a b => dflt (app1 [opd a (ev a).e, opd b (ev b).e] (g2 fun d e => rd (idxD d e)))
  | .slc a lo hi => dflt (slcE (opd a (ev a).e) (evs lo) (evs hi))
  | .tup es => dflt (app1 (evf es) tupG)
  | .lst es => dflt (app1 (evf es) lstG)
  | .call f io es => dflt (callE cf f io (evs es))
  | .blt b es => dflt (app1 (evs es) (bltD b))
  | .lens a => dflt (app1 [opd a (ev a).e] (g1 lensD))
  | .isi a t => dflt (app1 [opd a (ev a).e] (g1 fun d => rb (isiD t d)))
  | .lc s tg vs ifs e => dflt (lcE (evSrc s) tg vs (allT (evts ifs)) (ev e).e)
where dflt (m : Ev1) : E2 := ⟨m, tstO (opdE m)⟩
def evs : Exs → List EvO
  | .nil => []
  | .cons e r => opd e (ev e).e :: evs r
def evf : Exs → List EvO
  | .nil => []
  | .cons e r => opdE (ev e).e :: evf r
def evts : Exs → List EvB
  | .nil => []
  | .cons e r => (ev e).t :: evts r
def evSrc : Src → EvS
  | .seq a => srcSeq (opd a (ev a).e)
  | .rng a => srcG [opdE (ev a).e] gRng
  | .rng2 a b => srcG [opdE (ev a).e, opdE (ev b).e] gRng
  | .enm a => srcG [opdE (ev a).e] gEnm
  | .zip a b => srcG [opdE (ev a).e, opdE (ev b).e] gZip
end
end

inductive SR where
  | nx (ρ : En)
  | rt (r : Rs) (ρ : En)
  | bk (ρ : En)
  | ct (ρ : En)
abbrev EvM := En → Option SR
def Rs.cl : Rs → Cl
  | .val d => .val d
  | .new l => .own false false l
def fuel : Nat := 1099511627776
def retM (e : Ev1) : EvM := fun ρ => match e ρ with | some (r, ρ1) => some (.rt r ρ1) | none => none
def asgM (i : Nat) (e : Ev1) : EvM := fun ρ => match e ρ with
  | some (r, ρ1) => (match setV i r.cl ρ1 with | some ρ2 => some (.nx ρ2) | none => none)
  | none => none
def parM (i j : Nat) (a b : Ev1) : EvM := fun ρ => match a ρ with
  | some (r, ρ1) => (match b ρ1 with
    | some (s, ρ2) => (match setV i (.val r.dat) ρ2 with
      | some ρ3 => (match setV j (.val s.dat) ρ3 with | some ρ4 => some (.nx ρ4) | none => none)
      | none => none)
    | none => none)
  | none => none
def par3M (i j k : Nat) (a b c : Ev1) : EvM := fun ρ => match a ρ with
  | some (r, ρ1) => (match b ρ1 with
    | some (s, ρ2) => (match c ρ2 with
      | some (t, ρ3) => (match setV i (.val r.dat) ρ3 with
        | some ρ4 => (match setV j (.val s.dat) ρ4 with
          | some ρ5 => (match setV k (.val t.dat) ρ5 with | some ρ6 => some (.nx ρ6) | none => none)
          | none => none)
        | none => none)
      | none => none)
    | none => none)
  | none => none
def unpM (is : List Nat) (e : Ev1) : EvM := fun ρ => match e ρ with
  | some (.val (.tuple ds), ρ1) => if ds.length = is.length then (match setVs is ds ρ1 with | some ρ2 => some (.nx ρ2) | none => none) else none
  | _ => none
def stoM (i : Nat) (k e : Ev1) : EvM := fun ρ => match e ρ with
  | some (r, ρ1) => (match ρ1[i]? with
    | some (some (.own _ _ _)) => (match k ρ1 with
      | some (.val (.int n), ρ2) => (match ρ2[i]? with
        | some (some (.own f false l)) => (match ixN l.length n with | some j => some (.nx (ρ2.set i (some (.own f false (l.set j r.dat))))) | none => none)
        | _ => none)
      | _ => none)
    | _ => none)
  | none => none
def appM (i : Nat) (e : Ev1) : EvM := fun ρ => match ρ[i]? with
  | some (some (.own _ _ _)) => (match e ρ with
    | some (r, ρ1) => (match ρ1[i]? with
      | some (some (.own f false l)) => if l.length < lim then some (.nx (ρ1.set i (some (.own f false (l ++ [r.dat]))))) else none
      | _ => none)
    | none => none)
  | _ => none
def dropM (e : Ev1) : EvM := fun ρ => match e ρ with | some (_, ρ1) => some (.nx ρ1) | none => none
def ifM (c : EvB) (a b : EvM) : EvM := fun ρ => match c ρ with
  | some (true, ρ1) => a ρ1
  | some (false, ρ1) => b ρ1
  | none => none
def whlM (c : EvB) (a : EvM) : Nat → EvM
  | 0 => fun _ => none
  | n + 1 => fun ρ => match c ρ with
    | some (true, ρ1) => (match a ρ1 with
      | some (.nx ρ2) => whlM c a n ρ2
      | some (.ct ρ2) => whlM c a n ρ2
      | some (.bk ρ2) => some (.nx ρ2)
      | some (.rt r ρ2) => some (.rt r ρ2)
      | none => none)
    | some (false, ρ1) => some (.nx ρ1)
    | none => none
def frGo (tg : List Nat) (a : EvM) : List PyData → EvM
  | [] => fun ρ => some (.nx ρ)
  | d :: ds => fun ρ => match bindT tg d ρ with
    | some ρ1 => (match a ρ1 with
      | some (.nx ρ2) => frGo tg a ds ρ2
      | some (.ct ρ2) => frGo tg a ds ρ2
      | some (.bk ρ2) => some (.nx ρ2)
      | some (.rt r ρ2) => some (.rt r ρ2)
      | none => none)
    | none => none
def frM (s : EvS) (tg : List Nat) (a : EvM) : EvM := fun ρ => match s ρ with
  | some (l, ρ1, o) => (match frGo tg a l ρ1 with
    | some (.nx ρ2) => some (.nx (backE o ρ2))
    | some (.rt r ρ2) => some (.rt r ρ2)
    | _ => none)
  | none => none
def seqM (a b : EvM) : EvM := fun ρ => match a ρ with
  | some (.nx ρ1) => b ρ1
  | r => r
section
variable (cf : CF)
mutual
def ex : Sm → EvM
  | .ret e => retM (ev cf e).e
  | .asg i e => asgM i (ev cf e).e
  | .par i j a b => parM i j (ev cf a).e (ev cf b).e
  | .par3 i j k a b c => par3M i j k (ev cf a).e (ev cf b).e (ev cf c).e
  | .unp is e => unpM is (ev cf e).e
  | .sto i k e => stoM i (ev cf k).e (ev cf e).e
  | .app i e => appM i (ev cf e).e
  | .drop e => dropM (ev cf e).e
  | .ife c a b => ifM (ev cf c).t (exs a) (exs b)
  | .whl c a => whlM (ev cf c).t (exs a) fuel
  | .fr s tg a => frM (evSrc cf s) tg (exs a)
  | .pass => fun ρ => some (.nx ρ)
  | .brk => fun ρ => some (.bk ρ)
  | .cnt => fun ρ => some (.ct ρ)
  | .rse => fun _ => none
def exs : Sms → EvM
  | .nil => fun ρ => some (.nx ρ)
  | .cons s r => seqM (ex s) (exs r)
end
end
/-- a def: how many parameters, how many names, the body -/
structure Df where
  np : Nat
  n : Nat
  body : Sms
def entry (n : Nat) (io : Option Nat) (ds : List PyData) : Option En := match io with
  | none => some (ds.map (fun d => some (Cl.val d)) ++ List.replicate (n - ds.length) none)
  | some j => (match ds[j]? with
    | some (.list l) => some ((ds.map (fun d => some (Cl.val d))).set j (some (.own true false l)) ++ List.replicate (n - ds.length) none)
    | _ => none)
def outOf (ρ : En) : Option Nat → Option (List PyData)
  | none => some []
  | some j => (match ρ[j]? with | some (some (.own true _ l)) => some l | _ => none)
def runD (cf : CF) (d : Df) (io : Option Nat) (ds : List PyData) : Option (Rs × List PyData) :=
  if ds.length = d.np then (match entry d.n io ds with
    | some ρ0 => (match exs cf d.body ρ0 with
      | some (.rt r ρ) => (match outOf ρ io with | some l => some (r, l) | none => none)
      | some (.nx ρ) => (match outOf ρ io with | some l => some (.val .none, l) | none => none)
      | _ => none)
    | none => none) else none
def calls (FT : List Df) : Nat → CF
  | 0 => fun _ _ _ => none
  | k + 1 => fun f io ds => match FT[f]? with | some d => runD (calls FT k) d io ds | none => none
end Ev
namespace Ev
open PySem PySem.Spec PyProof.Rows L2

def dE (K : PySem.W.Frag) (B : Bs) (m : Ev1) : TE := fun σ H Q => ∃ F ρ r ρ', Sit K B F σ H ρ ∧ m ρ = some (r, ρ') ∧ ∀ v F' H', Le F F' → Sit K B F' σ H' ρ' → ResOk K B F' σ H' ρ' v r → Q v H'
def OpOk (K : PySem.W.Frag) (F : Hp) (σ : L2.St) (v : V) : Opd → Prop
  | .d d => Rp K F v d
  | .bor i => σ[i]? = some (some v)
def dO (K : PySem.W.Frag) (B : Bs) (m : EvO) : TE := fun σ H Q => ∃ F ρ o ρ', Sit K B F σ H ρ ∧ m ρ = some (o, ρ') ∧ ∀ v F' H', Le F F' → Sit K B F' σ H' ρ' → OpOk K F' σ v o → Q v H'
def dB (K : PySem.W.Frag) (B : Bs) (m : EvB) : TT := fun σ H Q => ∃ F ρ b ρ', Sit K B F σ H ρ ∧ m ρ = some (b, ρ') ∧ ∀ F' H', Le F F' → Sit K B F' σ H' ρ' → Q b H'
def OpsOk (K : PySem.W.Frag) (F : Hp) (σ : L2.St) : List V → List Opd → Prop
  | [], [] => True
  | v :: vs, o :: os => OpOk K F σ v o ∧ OpsOk K F σ vs os
  | _, _ => False
def dOs (K : PySem.W.Frag) (B : Bs) (ms : List EvO) : TA := fun σ H Q => ∃ F ρ os ρ', Sit K B F σ H ρ ∧ seqO ms ρ = some (os, ρ') ∧ ∀ vs F' H', Le F F' → Sit K B F' σ H' ρ' → OpsOk K F' σ vs os → Q vs H'
section
variable {X : Cx} {K : PySem.W.Frag} {B : Bs} {e : Expr} {es : List Expr}
theorem PEm {t t' : TE} (h : PE X e t) (w : ∀ σ H Q, t' σ H Q → t σ H Q) : PE X e t' := ⟨fun pins s σ H Q I q => h.run pins s σ H Q I (w σ H Q q)⟩
theorem PTm {t t' : TT} (h : PT X e t) (w : ∀ σ H Q, t' σ H Q → t σ H Q) : PT X e t' := ⟨fun pins s σ H Q I q => h.run pins s σ H Q I (w σ H Q q)⟩
theorem PWm {t t' : TT} (h : PW X e t) (w : ∀ σ H Q, t' σ H Q → t σ H Q) : PW X e t' := ⟨fun wh pins s σ H Q I q => h.run wh pins s σ H Q I (w σ H Q q)⟩
theorem PAm {t t' : TA} (h : PA X es t) (w : ∀ σ H Q, t' σ H Q → t σ H Q) : PA X es t' := ⟨fun pos pins s σ H Q I q => h.run pos pins s σ H Q I (w σ H Q q)⟩
theorem OpOk.mono {F F' : Hp} {σ : L2.St} {v : V} {o : Opd} (le : Le F F') (h : OpOk K F σ v o) : OpOk K F' σ v o := by
  cases o with
  | d d => exact Rp.mono le h
  | bor i => exact h
theorem OpsOk.mono {F F' : Hp} {σ : L2.St} (le : Le F F') : ∀ {vs : List V} {os : List Opd}, OpsOk K F σ vs os → OpsOk K F' σ vs os
  | [], [], _ => trivial
  | _ :: _, _ :: _, ⟨h, t⟩ => ⟨h.mono le, OpsOk.mono le t⟩
  | [], _ :: _, h => h.elim
  | _ :: _, [], h => h.elim
/-- what an operand is, where it is read -/
theorem rsv_ok {F H : Hp} {σ : L2.St} {ρ : En} {v : V} {o : Opd} {d : PyData} (S : Sit K B F σ H ρ) (h : OpOk K F σ v o) (e : rsv ρ o = some d) : RpB K F H v d := by
  cases o with
  | d d' => simp only [rsv, Option.some.injEq] at e; subst e; exact .inl h
  | bor i =>
    simp only [rsv] at e
    split at e
    · rename_i f e' l q
      cases e
      obtain ⟨p, xs, h1, h2, h3, h4, _⟩ := S.own i _ _ _ q
      have h' : σ[i]? = some (some v) := h
      rw [h1] at h'; cases h'
      exact .inr ⟨p, xs, l, rfl, rfl, h2, h4, h3⟩
    · cases e
def RpBs (K : PySem.W.Frag) (F H : Hp) : List V → List PyData → Prop
  | [], [] => True
  | v :: vs, d :: ds => RpB K F H v d ∧ RpBs K F H vs ds
  | _, _ => False
theorem rsvs_ok {F H : Hp} {σ : L2.St} {ρ : En} (S : Sit K B F σ H ρ) : ∀ {vs : List V} {os : List Opd} {ds : List PyData}, OpsOk K F σ vs os → rsvs ρ os = some ds → RpBs K F H vs ds
  | [], [], ds, _, e => by simp only [rsvs, Option.some.injEq] at e; subst e; trivial
  | v :: vs, o :: os, ds, ⟨h, t⟩, e => by
    simp only [rsvs] at e
    split at e
    · rename_i d ds' e1 e2
      cases e
      exact ⟨rsv_ok S h e1, rsvs_ok S t e2⟩
    · cases e
  | [], _ :: _, _, h, _ => h.elim
  | _ :: _, [], _, h, _ => h.elim

theorem dO_E {m : Ev1} (h : PE X e (dE X.K B m)) : PE X e (dO X.K B (opdE m)) := PEm h fun σ H Q q => by
  obtain ⟨F, ρ, o, ρ', S, hm, q⟩ := q
  simp only [opdE] at hm
  split at hm
  · rename_i r ρ1 e1
    cases hm
    refine ⟨F, ρ, r, _, S, e1, fun v F' H' le S' ro => ?_⟩
    obtain ⟨F2, le2, S2, rp⟩ := S'.freeze ro
    exact q v F2 H' (le.trans le2) S2 rp
  · cases hm
theorem dO_V {i : Nat} (h : PE X e (tVar i)) : PE X e (dO X.K B (opdV i)) := PEm h fun σ H Q q => by
  obtain ⟨F, ρ, o, ρ', S, hm, q⟩ := q
  simp only [opdV] at hm
  split at hm
  · rename_i f e1 l e2
    cases hm
    obtain ⟨p, xs, h1, h2, h3, h4, _⟩ := S.own i _ _ _ e2
    exact ⟨_, h1, q _ F H Le.refl S h1⟩
  · rename_i d e2
    cases hm
    obtain ⟨v, h1, h2⟩ := S.val i _ e2
    exact ⟨_, h1, q _ F H Le.refl S h2⟩
  · cases hm
theorem dE_V {i : Nat} (h : PE X e (tVar i)) : PE X e (dE X.K B (varE i)) := PEm h fun σ H Q q => by
  obtain ⟨F, ρ, o, ρ', S, hm, q⟩ := q
  simp only [varE] at hm
  split at hm
  · rename_i d e2
    cases hm
    obtain ⟨v, h1, h2⟩ := S.val i _ e2
    exact ⟨_, h1, q _ F H Le.refl S h2⟩
  · rename_i l e2
    cases hm
    obtain ⟨F', v, le, h1, S', rp⟩ := S.letGo e2
    exact ⟨_, h1, q _ F' H le S' rp⟩
  · cases hm
theorem dE_C {v : V} {d : PyData} (h : PE X e (tC v)) (r : ∀ F, Rp X.K F v d) : PE X e (dE X.K B fun ρ => some (.val d, ρ)) := PEm h fun σ H Q q => by
  obtain ⟨F, ρ, o, ρ', S, hm, q⟩ := q
  cases hm
  exact q _ F H Le.refl S (r F)
/-- a module's thing in the written part -/
theorem dE_G {v : V} {d : PyData} (h : PE X e (tC v)) (r : Rp X.K (fun _ => none) v d) : PE X e (dE X.K B fun ρ => some (.val d, ρ)) :=
  dE_C h fun F => r.mono fun _ _ z => by cases z

theorem dOs_nil : PA X [] (dOs X.K B []) := PAm pa_nil fun σ H Q q => by
  obtain ⟨F, ρ, o, ρ', S, hm, q⟩ := q
  simp only [seqO, Option.some.injEq, Prod.mk.injEq] at hm
  obtain ⟨rfl, rfl⟩ := hm
  exact q [] F H Le.refl S trivial
theorem dOs_cons {m : EvO} {ms : List EvO} (h : PE X e (dO X.K B m)) (t : PA X es (dOs X.K B ms)) (hs : starEach (e :: es) X.env = (false, eval e X.env) :: starEach es X.env) : PA X (e :: es) (dOs X.K B (m :: ms)) :=
  PAm (pa_cons h t hs) fun σ H Q q => by
    obtain ⟨F, ρ, o, ρ', S, hm, q⟩ := q
    simp only [seqO] at hm
    split at hm
    · rename_i o1 ρ1 e1
      split at hm
      · rename_i os ρ2 e2
        cases hm
        refine ⟨F, ρ, o1, ρ1, S, e1, fun v F1 H1 le1 S1 k1 => ?_⟩
        refine ⟨F1, ρ1, os, _, S1, e2, fun vs F2 H2 le2 S2 k2 => ?_⟩
        exact q (v :: vs) F2 H2 (le1.trans le2) S2 ⟨k1.mono le2, k2⟩
      · cases hm
    · cases hm

def Ext (F H F' H' : Hp) : Prop := (F' = F ∧ H' = H) ∨ ∃ p o, H p = none ∧ F' = upd F p o ∧ H' = upd H p o
def Out (K : PySem.W.Frag) (F H : Hp) (r : Rs) (Q : VK) : Prop := match r with
  | .val d => ∀ v F' H', Ext F H F' H' → Rp K F' v d → Q v H'
  | .new l => ∀ p xs, H p = none → RpAll K F xs l → Q (.ref p) (upd H p (.lst xs))
theorem Out.val0 {F H : Hp} {d : PyData} {Q : VK} {v : V} (h : Out K F H (.val d) Q) (r : Rp K F v d) : Q v H := h v F H (.inl ⟨rfl, rfl⟩) r
theorem Sit.fnone' {F H : Hp} (le : Le F H) {p : Addr} (hp : H p = none) : F p = none := by
  cases e : F p with
  | none => rfl
  | some u => have := le _ _ e; rw [hp] at this; cases this
/-- a new tuple -/
theorem Out.tup {F H : Hp} {ds : List PyData} {Q : VK} {xs : List V} {p : Addr} (h : Out K F H (.val (.tuple ds)) Q) (le : Le F H) (hp : H p = none) (r : RpAll K F xs ds) : Q (.ref p) (upd H p (.tup xs)) :=
  h _ _ _ (.inr ⟨p, .tup xs, hp, rfl, rfl⟩) (.tup (.inl (.inl upd_same)) (r.mono (Le.upd (Sit.fnone' le hp))))
theorem Sit.out {F H : Hp} {σ : L2.St} {ρ : En} {r : Rs} {Q : VK} (S : Sit K B F σ H ρ) (h : ∀ v F' H', Le F F' → Sit K B F' σ H' ρ → ResOk K B F' σ H' ρ v r → Q v H') : Out K F H r Q := by
  cases r with
  | val d =>
    intro v F' H' x rp
    rcases x with ⟨rfl, rfl⟩ | ⟨p, o, hp, rfl, rfl⟩
    · exact h v _ _ Le.refl S rp
    · exact h v _ _ (Le.upd (S.fnone hp)) (S.both hp o) rp
  | new l =>
    intro p xs hp r
    exact h _ F _ Le.refl (S.grow hp _) (S.newOk hp r)
def R1Ok (K : PySem.W.Frag) (r : V → Hp → VK → Prop) (g : PyData → Option Rs) : Prop := ∀ F H x d res Q, Le F H → RpB K F H x d → g d = some res → Out K F H res Q → r x H Q
def R2Ok (K : PySem.W.Frag) (r : R2) (g : PyData → PyData → Option Rs) : Prop := ∀ F H x y d e res Q, Le F H → RpB K F H x d → RpB K F H y e → g d e = some res → Out K F H res Q → r x y H Q
def RAOk (K : PySem.W.Frag) (r : List V → Hp → VK → Prop) (g : List PyData → Option Rs) : Prop := ∀ F H xs ds res Q, Le F H → RpBs K F H xs ds → g ds = some res → Out K F H res Q → r xs H Q
theorem app_inv {ms : List EvO} {g : List PyData → Option Rs} {ρ ρ' : En} {r : Rs} (h : app1 ms g ρ = some (r, ρ')) : ∃ os ds, seqO ms ρ = some (os, ρ') ∧ rsvs ρ' os = some ds ∧ g ds = some r := by
  simp only [app1] at h
  split at h
  · rename_i os ρ1 e1
    split at h
    · rename_i ds e2
      split at h
      · rename_i r' e3
        cases h
        exact ⟨os, ds, e1, e2, e3⟩
      · cases h
    · cases h
  · cases h
theorem seq1_inv {m : EvO} {ρ ρ' : En} {os : List Opd} (h : seqO [m] ρ = some (os, ρ')) : ∃ o, os = [o] ∧ m ρ = some (o, ρ') := by
  simp only [seqO] at h
  split at h
  · rename_i o ρ1 e1
    cases h
    exact ⟨o, rfl, e1⟩
  · cases h
theorem seq2_inv {m n : EvO} {ρ ρ' : En} {os : List Opd} (h : seqO [m, n] ρ = some (os, ρ')) : ∃ o p ρ1, os = [o, p] ∧ m ρ = some (o, ρ1) ∧ n ρ1 = some (p, ρ') := by
  simp only [seqO] at h
  split at h
  · rename_i o ρ1 e1
    split at h
    · rename_i os' ρ2 e2
      cases h
      split at e2
      · rename_i p ρ3 e3
        cases e2
        exact ⟨o, p, ρ1, rfl, e1, e3⟩
      · cases e2
    · cases h
  · cases h
theorem rsvs1_inv {ρ : En} {o : Opd} {ds : List PyData} (h : rsvs ρ [o] = some ds) : ∃ d, ds = [d] ∧ rsv ρ o = some d := by
  simp only [rsvs] at h
  split at h
  · rename_i d ds' e1 e2
    cases h; cases e2
    exact ⟨d, rfl, e1⟩
  · cases h
theorem rsvs2_inv {ρ : En} {o p : Opd} {ds : List PyData} (h : rsvs ρ [o, p] = some ds) : ∃ d e, ds = [d, e] ∧ rsv ρ o = some d ∧ rsv ρ p = some e := by
  simp only [rsvs] at h
  split at h
  · rename_i d ds' e1 e2
    cases h
    split at e2
    · rename_i e es e3 e4
      cases e2; cases e4
      exact ⟨d, e, rfl, e1, e3⟩
    · cases e2
  · cases h
theorem app1_r {m : EvO} {g : PyData → Option Rs} {r : V → Hp → VK → Prop} (hr : R1Ok K r g) {σ : L2.St} {H : Hp} {Q : VK} (q : dE K B (app1 [m] (g1 g)) σ H Q) : tUn r (dO K B m) σ H Q := by
  obtain ⟨F, ρ, res, ρ', S, hm, q⟩ := q
  obtain ⟨os, ds, e1, e2, e3⟩ := app_inv hm
  obtain ⟨o, rfl, h1⟩ := seq1_inv e1
  obtain ⟨d, rfl, h2⟩ := rsvs1_inv e2
  refine ⟨F, ρ, o, ρ', S, h1, fun v F1 H1 le1 S1 k1 => ?_⟩
  exact hr F1 H1 v d res Q S1.le (rsv_ok S1 k1 h2) e3 (S1.out fun v F' H' le2 S2 ro => q v F' H' (le1.trans le2) S2 ro)
theorem app2_r {m n : EvO} {g : PyData → PyData → Option Rs} {r : R2} (hr : R2Ok K r g) {σ : L2.St} {H : Hp} {Q : VK} (q : dE K B (app1 [m, n] (g2 g)) σ H Q) : tOp r (dO K B m) (dO K B n) σ H Q := by
  obtain ⟨F, ρ, res, ρ', S, hm, q⟩ := q
  obtain ⟨os, ds, e1, e2, e3⟩ := app_inv hm
  obtain ⟨o, p, ρ1, rfl, h1, h2⟩ := seq2_inv e1
  obtain ⟨d, e, rfl, h3, h4⟩ := rsvs2_inv e2
  refine ⟨F, ρ, o, ρ1, S, h1, fun v F1 H1 le1 S1 k1 => ?_⟩
  refine ⟨F1, ρ1, p, ρ', S1, h2, fun w F2 H2 le2 S2 k2 => ?_⟩
  exact hr F2 H2 v w d e res Q S2.le (rsv_ok S2 (k1.mono le2) h3) (rsv_ok S2 k2 h4) e3 (S2.out fun v F' H' le3 S3 ro => q v F' H' ((le1.trans le2).trans le3) S3 ro)
theorem appA_r {ms : List EvO} {g : List PyData → Option Rs} {r : List V → Hp → VK → Prop} (hr : RAOk K r g) {σ : L2.St} {H : Hp} {Q : VK} (q : dE K B (app1 ms g) σ H Q) : tCB r (dOs K B ms) σ H Q := by
  obtain ⟨F, ρ, res, ρ', S, hm, q⟩ := q
  obtain ⟨os, ds, e1, e2, e3⟩ := app_inv hm
  refine ⟨F, ρ, os, ρ', S, e1, fun vs F1 H1 le1 S1 k1 => ?_⟩
  exact hr F1 H1 vs ds res Q S1.le (rsvs_ok S1 k1 e2) e3 (S1.out fun v F' H' le2 S2 ro => q v F' H' (le1.trans le2) S2 ro)
end
end Ev
namespace Ev
open PySem PySem.Spec PyProof.Rows L2
theorem lim_eq : lim = sizeLine := sizeLine_eq.symm
theorem RpB.rpT {K : PySem.W.Frag} {F H : Hp} {v : V} {ds : List PyData} (r : RpB K F H v (.tuple ds)) : Rp K F v (.tuple ds) := by
  rcases r with r | ⟨p, xs, l, _, e, _⟩
  · exact r
  · cases e
theorem RpAll.nil_of {K : PySem.W.Frag} {F : Hp} {ds : List PyData} (r : RpAll K F [] ds) : ds = [] := by cases r; rfl
section
variable {X : Cx} {K : PySem.W.Frag}

def rBin (K : PySem.W.Frag) : BOp → R2
  | .add => fun x y H Q => rI0 (fun i j => .int (i + j)) x y H Q ∨ rCat x y H Q ∨ rCatA K x y H Q
  | .sub => rI0 fun i j => .int (i - j)
  | .mul => rI CMul fun i j => .int (i * j)
  | .fdiv => rI CDiv fun i j => .int (i / j)
  | .mod => rI (fun _ j => 0 < j) fun i j => .int (i % j)
  | .pow => rI CPow fun i j => .int (i ^ j.toNat)
def opOf : BOp → Operator
  | .add => .Add
  | .sub => .Sub
  | .mul => .Mult
  | .fdiv => .FloorDiv
  | .mod => .Mod
  | .pow => .Pow
theorem bin_op (o : BOp) : OpR X (binaryOp (opOf o)) (rBin X.K o) := by
  cases o with
  | add => exact op_add.or (op_cat.or op_catA)
  | sub => exact op_sub
  | mul => exact op_mul
  | fdiv => exact op_fdiv
  | mod => exact op_mod
  | pow => exact op_pow
theorem bin_r (o : BOp) : R2Ok K (rBin K o) (binD o) := by
  intro F H x y d e res Q le hx hy hg out
  cases o with
  | add =>
    cases d <;> cases e <;> simp only [binD] at hg <;> first | cases hg | skip
    · cases hx.int; cases hy.int
      exact .inl ⟨_, _, rfl, rfl, out.val0 (.int _)⟩
    · split at hg
      · rename_i a b hl
        cases hg
        obtain ⟨p, xs, rfl, hp, rp⟩ := hx.list le
        obtain ⟨q, ys, rfl, hq, rq⟩ := hy.list le
        refine .inr (.inl ⟨p, q, xs, ys, rfl, rfl, hp, hq, ?_, fun t ht => out t _ ht (rp.append rq)⟩)
        rw [rp.length, rq.length, ← lim_eq]; exact hl
      · cases hg
    · split at hg
      · rename_i a b hl
        cases hg
        obtain ⟨p, xs, rfl, hp, rp⟩ := hx.tup le
        obtain ⟨q, ys, rfl, hq, rq⟩ := hy.tup le
        refine .inr (.inr ⟨p, q, xs, ys, rfl, rfl, hp, hq, ?_, fun e => ?_, fun _ e => ?_, fun _ _ t ht => out.tup le ht (rp.append rq)⟩)
        · rw [rp.length, rq.length, ← lim_eq]; exact hl
        · subst e
          rw [rp.nil_of] at out
          exact out.val0 hy.rpT
        · subst e
          rw [rq.nil_of, List.append_nil] at out
          exact out.val0 hx.rpT
      · cases hg
  | sub =>
    cases d <;> cases e <;> simp only [binD] at hg <;> first | cases hg | skip
    cases hx.int; cases hy.int
    exact ⟨_, _, rfl, rfl, out.val0 (.int _)⟩
  | mul =>
    cases d <;> cases e <;> simp only [binD] at hg <;> first | cases hg | skip
    cases hx.int; cases hy.int
    split at hg
    · rename_i i j h
      cases hg
      refine ⟨_, _, rfl, rfl, ?_, out.val0 (.int _)⟩
      rcases Bool.or_eq_true_iff.mp h with h | h
      · exact .inl (of_decide_eq_true h)
      · exact .inr (of_decide_eq_true h)
    · cases hg
  | fdiv =>
    cases d <;> cases e <;> simp only [binD] at hg <;> first | cases hg | skip
    cases hx.int; cases hy.int
    split at hg
    · rename_i h
      cases hg
      exact ⟨_, _, rfl, rfl, h, out.val0 (.int _)⟩
    · cases hg
  | mod =>
    cases d <;> cases e <;> simp only [binD] at hg <;> first | cases hg | skip
    cases hx.int; cases hy.int
    split at hg
    · rename_i h
      cases hg
      exact ⟨_, _, rfl, rfl, h, out.val0 (.int _)⟩
    · cases hg
  | pow =>
    cases d <;> cases e <;> simp only [binD] at hg <;> first | cases hg | skip
    cases hx.int; cases hy.int
    split at hg
    · rename_i h
      cases hg
      exact ⟨_, _, rfl, rfl, h, out.val0 (.int _)⟩
    · cases hg

def rInT (K : PySem.W.Frag) : R2 := fun x y H Q => ∃ d ds, Dp K H x d ∧ Dp K H y (.tuple ds) ∧ SeqAt.shaped d = true ∧ SeqAt.shaped (.tuple ds) = true ∧ Q (.bl (ds.any fun z => PyData.eqv z d)) H
def rNotInT (K : PySem.W.Frag) : R2 := fun x y H Q => ∃ d ds, Dp K H x d ∧ Dp K H y (.tuple ds) ∧ SeqAt.shaped d = true ∧ SeqAt.shaped (.tuple ds) = true ∧ Q (.bl (!ds.any fun z => PyData.eqv z d)) H
theorem op_inT (hu : X.A.units + 65 < cLine) : OpR X (compareOp .In) (rInT X.K) := by
  intro pins s σ H x y v u Q I rx ry h
  obtain ⟨d, ds, hd, he, sd, se, q⟩ := h
  obtain ⟨as, r1⟩ := Dp.reads I d x v hd rx
  obtain ⟨bs, r2⟩ := Dp.reads I (.tuple ds) y u he ry
  exact SeqAt.in_tuple_reads r2 r1 (SeqAt.canLay_of_shaped se) (SeqAt.canLay_of_shaped sd) (room_in_shaped sd hu) ⟨.bl _, H, I, rfl, q⟩
theorem op_notInT (hu : X.A.units + 65 < cLine) : OpR X (compareOp .NotIn) (rNotInT X.K) := by
  intro pins s σ H x y v u Q I rx ry h
  obtain ⟨d, ds, hd, he, sd, se, q⟩ := h
  obtain ⟨as, r1⟩ := Dp.reads I d x v hd rx
  obtain ⟨bs, r2⟩ := Dp.reads I (.tuple ds) y u he ry
  exact SeqAt.notIn_tuple_reads r2 r1 (SeqAt.canLay_of_shaped se) (SeqAt.canLay_of_shaped sd) (room_in_shaped sd hu) ⟨.bl _, H, I, rfl, q⟩
def cmpOf : COp → CmpOp
  | .lt => .Lt
  | .le => .LtE
  | .gt => .Gt
  | .ge => .GtE
  | .eq => .Eq
  | .ne => .NotEq
  | .is => .Is
  | .isNot => .IsNot
  | .isin => .In
  | .notIn => .NotIn
def rCmp (K : PySem.W.Frag) : COp → R2
  | .lt => rI0 fun i j => .bl (decide (i < j))
  | .le => rI0 fun i j => .bl (decide (i ≤ j))
  | .gt => rI0 fun i j => .bl (decide (j < i))
  | .ge => rI0 fun i j => .bl (decide (j ≤ i))
  | .eq => rEqD K
  | .ne => rNeD K
  | .is => fun x y H Q => y = .non ∧ Q (.bl (decide (x = .non))) H
  | .isNot => fun x y H Q => y = .non ∧ Q (.bl (!decide (x = .non))) H
  | .isin => fun x y H Q => rInD K x y H Q ∨ rInT K x y H Q
  | .notIn => fun x y H Q => rNotInD K x y H Q ∨ rNotInT K x y H Q
theorem cmp_op (hu : X.A.units + 65 < cLine) (o : COp) : OpR X (compareOp (cmpOf o)) (rCmp X.K o) := by
  have hu' : X.A.units + 64 < cLine := by omega
  cases o with
  | lt => exact op_lt
  | le => exact op_le
  | gt => exact op_gt
  | ge => exact op_ge
  | eq => exact op_eqD hu'
  | ne => exact op_neD hu'
  | is => exact op_isN
  | isNot => exact op_notN
  | isin => exact (op_inD hu).or (op_inT hu)
  | notIn => exact (op_notInD hu).or (op_notInT hu)
theorem shp_dp {F H : Hp} {x : V} {d : PyData} (le : Le F H) (hx : RpB K F H x d) (s : shp d = true) : Dp K H x d := (hx.rp le).dp (SeqAt.canLay_of_shaped s)
theorem shp_int (i : Int) : shp (.int i) = true := by simp [shp, SeqAt.shaped, PyData.canLay0, PyData.depth]
theorem shp_bool (i : Bool) : shp (.bool i) = true := by simp [shp, SeqAt.shaped, PyData.canLay0, PyData.depth]
theorem shp_none : shp .none = true := by simp [shp, SeqAt.shaped, PyData.canLay0, PyData.depth]
/-- eqD is Python's ==, on what has a bounded depth -/
theorem eqD_ok {d e : PyData} {b : Bool} (h : eqD d e = some b) : shp d = true ∧ shp e = true ∧ PyData.eqv d e = b := by
  unfold eqD at h
  split at h
  · cases h; exact ⟨shp_int _, shp_int _, by simp [PyData.eqv]⟩
  · cases h; exact ⟨shp_bool _, shp_bool _, by simp [PyData.eqv]⟩
  · cases h; exact ⟨shp_none, shp_none, by simp [PyData.eqv]⟩
  · split at h
    · rename_i q
      cases h
      have q := Bool.and_eq_true_iff.mp q
      exact ⟨q.1, q.2, rfl⟩
    · cases h
theorem isNon_dec {F H : Hp} {x : V} {d : PyData} (hx : RpB K F H x d) : decide (x = .non) = isNon d := by
  rcases hx with hx | ⟨p, xs, l, rfl, rfl, _⟩
  · cases hx <;> rfl
  · rfl
theorem cmp_r (o : COp) : R2Ok K (rCmp K o) (fun d e => rb (cmpD o d e)) := by
  intro F H x y d e res Q le hx hy hg out
  have hg : rb (cmpD o d e) = some res := hg
  cases hc : cmpD o d e with
  | none => rw [hc] at hg; cases hg
  | some b =>
    rw [hc] at hg
    cases hg
    have q : Q (.bl b) H := out.val0 (.bl b)
    cases o with
    | lt =>
      cases d <;> cases e <;> simp only [cmpD] at hc <;> first | cases hc | skip
      cases hx.int; cases hy.int
      exact ⟨_, _, rfl, rfl, q⟩
    | le =>
      cases d <;> cases e <;> simp only [cmpD] at hc <;> first | cases hc | skip
      cases hx.int; cases hy.int
      exact ⟨_, _, rfl, rfl, q⟩
    | gt =>
      cases d <;> cases e <;> simp only [cmpD] at hc <;> first | cases hc | skip
      cases hx.int; cases hy.int
      exact ⟨_, _, rfl, rfl, q⟩
    | ge =>
      cases d <;> cases e <;> simp only [cmpD] at hc <;> first | cases hc | skip
      cases hx.int; cases hy.int
      exact ⟨_, _, rfl, rfl, q⟩
    | eq =>
      obtain ⟨s1, s2, h⟩ := eqD_ok (show eqD d e = some b by cases d <;> cases e <;> simpa only [cmpD] using hc)
      exact ⟨d, e, shp_dp le hx s1, shp_dp le hy s2, s1, s2, by rw [h]; exact q⟩
    | ne =>
      have hc : (eqD d e).map not = some b := by cases d <;> cases e <;> simpa only [cmpD] using hc
      cases h0 : eqD d e with
      | none => rw [h0] at hc; cases hc
      | some c =>
        rw [h0] at hc
        cases hc
        obtain ⟨s1, s2, h⟩ := eqD_ok h0
        exact ⟨d, e, shp_dp le hx s1, shp_dp le hy s2, s1, s2, by rw [h]; exact q⟩
    | is =>
      cases e <;> simp only [cmpD] at hc <;> first | cases hc | skip
      exact ⟨hy.none, by rw [isNon_dec hx]; exact q⟩
    | isNot =>
      cases e <;> simp only [cmpD] at hc <;> first | cases hc | skip
      exact ⟨hy.none, by rw [isNon_dec hx]; exact q⟩
    | isin =>
      have hc : inD d e = some b := by cases e <;> simpa only [cmpD] using hc
      cases e <;> simp only [inD] at hc <;> first | cases hc | skip
      · split at hc
        · rename_i s
          cases hc
          have s := Bool.and_eq_true_iff.mp s
          exact .inl ⟨d, _, shp_dp le hx s.1, shp_dp le hy s.2, s.1, s.2, q⟩
        · cases hc
      · split at hc
        · rename_i s
          cases hc
          have s := Bool.and_eq_true_iff.mp s
          exact .inr ⟨d, _, shp_dp le hx s.1, shp_dp le hy s.2, s.1, s.2, q⟩
        · cases hc
    | notIn =>
      have hc : (inD d e).map not = some b := by cases e <;> simpa only [cmpD] using hc
      cases e <;> simp only [inD, Option.map] at hc <;> first | cases hc | skip
      · split at hc
        · rename_i s
          split at s
          · rename_i s'
            cases s; cases hc
            have s := Bool.and_eq_true_iff.mp s'
            exact .inl ⟨d, _, shp_dp le hx s.1, shp_dp le hy s.2, s.1, s.2, q⟩
          · cases s
        · cases hc
      · split at hc
        · rename_i s
          split at s
          · rename_i s'
            cases s; cases hc
            have s := Bool.and_eq_true_iff.mp s'
            exact .inr ⟨d, _, shp_dp le hx s.1, shp_dp le hy s.2, s.1, s.2, q⟩
          · cases s
        · cases hc
end
end Ev
namespace Ev
open PySem PySem.Spec PyProof.Rows L2
section
variable {X : Cx} {K : PySem.W.Frag}

theorem neg_r : R1Ok K (rU fun i => .int (-i)) (fun d => match d with | .int i => some (.val (.int (-i))) | _ => none) := by
  intro F H x d res Q le hx hg out
  cases d <;> first | cases hg | skip
  cases hx.int
  exact ⟨_, rfl, out.val0 (.int _)⟩

theorem atI_rp {F : Hp} {xs : List V} {ds : List PyData} {i : Int} {d : PyData} (r : RpAll K F xs ds) (h : atI ds i = some d) : ∃ v, atI xs i = some v ∧ Rp K F v d := by
  unfold atI at h ⊢
  rw [r.length]
  cases e : ixN ds.length i with
  | none => rw [e] at h; cases h
  | some j =>
    rw [e] at h
    exact r.get (show ds[j]? = some d from h)
def rIdx (K : PySem.W.Frag) : R2 := fun x y H Q => rIxL K x y H Q ∨ rIxT K x y H Q
theorem idx_ix : IxR X (rIdx X.K) := ix_list.or ix_tup
theorem idx_r : R2Ok K (rIdx K) (fun d e => Ev.rd (idxD d e)) := by
  intro F H x y d e res Q le hx hy hg out
  have hg : Ev.rd (idxD d e) = some res := hg
  cases hc : idxD d e with
  | none => rw [hc] at hg; cases hg
  | some b =>
    rw [hc] at hg
    cases hg
    cases d <;> cases e <;> simp only [idxD] at hc <;> first | cases hc | skip
    · obtain ⟨a, xs, rfl, h, r⟩ := hx.list le
      cases hy.int
      obtain ⟨v, h1, h2⟩ := atI_rp r hc
      exact .inl ⟨a, xs, _, v, rfl, rfl, SqL.of h, h1, out.val0 h2⟩
    · obtain ⟨a, xs, rfl, h, r⟩ := hx.tup le
      cases hy.int
      obtain ⟨v, h1, h2⟩ := atI_rp r hc
      exact .inr ⟨a, xs, _, v, rfl, rfl, h, h1, out.val0 h2⟩

theorem cut_rp {F : Hp} {xs : List V} {ds : List PyData} {lo hi : Option Int} (r : RpAll K F xs ds) : RpAll K F (cutV xs lo hi) (cutD ds lo hi) := by
  unfold cutV cutD
  rw [r.length]
  exact (r.drop _).take _
theorem cutD_all {ds : List PyData} {lo hi : Option Int} (h1 : HT.sIx ds.length 0 lo = 0) (h2 : HT.sIx ds.length ds.length hi = ds.length) : cutD ds lo hi = ds := by
  unfold cutD
  rw [h1, h2]
  simp
def rSlc (K : PySem.W.Frag) : V → Option Int → Option Int → Hp → VK → Prop := fun x lo hi H Q => rSlL K x lo hi H Q ∨ rSlA K x lo hi H Q
theorem slc_sl : SlR X (rSlc X.K) := sl_list.or sl_tupA
theorem slc_r {F H : Hp} {x : V} {d : PyData} {lo hi : Option Int} {res : Rs} {Q : VK} (le : Le F H) (hx : RpB K F H x d) (hg : slcD d lo hi = some res) (out : Out K F H res Q) : rSlc K x lo hi H Q := by
  cases d <;> simp only [slcD] at hg <;> first | cases hg | skip
  · obtain ⟨a, xs, rfl, h, r⟩ := hx.list le
    exact .inl ⟨a, xs, rfl, SqL.of h, fun p hp => out p _ hp (cut_rp r)⟩
  · obtain ⟨a, xs, rfl, h, r⟩ := hx.tup le
    refine .inr ⟨a, xs, rfl, h, fun ⟨h1, h2⟩ => ?_, fun _ p hp => out.tup le hp (cut_rp r)⟩
    rw [r.length] at h1 h2
    rw [cutD_all h1 h2] at out
    exact out.val0 hx.rpT

theorem RpB.rpF {F H : Hp} {v : V} {d : PyData} (r : RpB K F H v d) (h : ∀ l, d ≠ .list l) : Rp K F v d := by
  rcases r with r | ⟨p, xs, l, _, e, _⟩
  · exact r
  · exact absurd e (h l)
/-- operands that are data -/
def RpsF (K : PySem.W.Frag) (F : Hp) : List V → List PyData → Prop := RpAll K F
theorem rsD {F : Hp} {σ : L2.St} {ρ : En} : ∀ {vs : List V} {os : List Opd} {ds : List PyData}, OpsOk K F σ vs os → (∀ o ∈ os, ∃ d, o = .d d) → rsvs ρ os = some ds → RpAll K F vs ds
  | [], [], ds, _, _, e => by simp only [rsvs, Option.some.injEq] at e; subst e; exact .nil
  | v :: vs, o :: os, ds, ⟨h, t⟩, w, e => by
    simp only [rsvs] at e
    split at e
    · rename_i d ds' e1 e2
      cases e
      obtain ⟨d', rfl⟩ := w o List.mem_cons_self
      simp only [rsv, Option.some.injEq] at e1
      subst e1
      exact .cons h (rsD t (fun o ho => w o (List.mem_cons_of_mem _ ho)) e2)
    · cases e
  | [], _ :: _, _, h, _, _ => h.elim
  | _ :: _, [], _, h, _, _ => h.elim
end
end Ev
namespace Ev
open PySem PySem.Spec PyProof.Rows L2
section
variable {X : Cx} {K : PySem.W.Frag}

def AllE : List EvO → Prop
  | [] => True
  | m :: r => (∃ n, m = opdE n) ∧ AllE r
theorem seqE_d : ∀ {ms : List EvO} {ρ ρ' : En} {os : List Opd}, AllE ms → seqO ms ρ = some (os, ρ') → ∀ o ∈ os, ∃ d, o = .d d
  | [], ρ, ρ', os, _, h => by
    simp only [seqO, Option.some.injEq, Prod.mk.injEq] at h
    obtain ⟨rfl, rfl⟩ := h
    intro o ho; cases ho
  | m :: r, ρ, ρ', os, ⟨⟨n, e⟩, a⟩, h => by
    subst e
    simp only [seqO] at h
    split at h
    · rename_i o1 ρ1 e1
      split at h
      · rename_i os2 ρ2 e2
        cases h
        intro o ho
        rcases List.mem_cons.mp ho with rfl | ho
        · simp only [opdE] at e1
          split at e1
          · cases e1; exact ⟨_, rfl⟩
          · cases e1
        · exact seqE_d a e2 o ho
      · cases h
    · cases h
theorem tup_r {B : Bs} {ms : List EvO} (a : AllE ms) {σ : L2.St} {H : Hp} {Q : VK} (q : dE K B (app1 ms tupG) σ H Q) : tTup (dOs K B ms) σ H Q := by
  obtain ⟨F, ρ, res, ρ', S, hm, q⟩ := q
  obtain ⟨os, ds, e1, e2, e3⟩ := app_inv hm
  refine ⟨F, ρ, os, ρ', S, e1, fun vs F1 H1 le1 S1 k1 => ?_⟩
  have r := rsD k1 (seqE_d a e1) e2
  simp only [tupG] at e3
  split at e3
  · rename_i hl
    cases e3
    refine ⟨by rw [r.length, ← lim_eq]; exact hl, fun p hp => ?_⟩
    have fp := S1.fnone hp
    exact q _ _ _ (le1.trans (Le.upd fp)) (S1.both hp _) (Rp.tup (.inl (.inl upd_same)) (r.mono (Le.upd fp)))
  · cases e3
theorem lst_r {B : Bs} {ms : List EvO} (a : AllE ms) {σ : L2.St} {H : Hp} {Q : VK} (q : dE K B (app1 ms lstG) σ H Q) : tLst (dOs K B ms) σ H Q := by
  obtain ⟨F, ρ, res, ρ', S, hm, q⟩ := q
  obtain ⟨os, ds, e1, e2, e3⟩ := app_inv hm
  refine ⟨F, ρ, os, ρ', S, e1, fun vs F1 H1 le1 S1 k1 => ?_⟩
  have r := rsD k1 (seqE_d a e1) e2
  simp only [lstG] at e3
  split at e3
  · rename_i hl
    cases e3
    refine ⟨by rw [r.length, ← lim_eq]; exact hl, fun p hp => ?_⟩
    exact q _ _ _ le1 (S1.grow hp _) (S1.newOk hp r)
  · cases e3

theorem truD_ok {F H : Hp} {x : V} {d : PyData} {b : Bool} (le : Le F H) (hx : RpB K F H x d) (h : truD d = some b) : TruV K x H b := by
  cases d <;> simp only [truD] at h <;> first | cases h | skip
  · cases hx.none; rfl
  · cases hx.bool; rfl
  · cases hx.int; rfl
  · obtain ⟨a, xs, rfl, hp, r⟩ := hx.list le
    refine .inl ⟨xs, SqL.of hp, ?_⟩
    have := r.length
    cases xs <;> cases r <;> rfl
  · obtain ⟨a, xs, rfl, hp, r⟩ := hx.tup le
    refine .inr (.inl ⟨xs, hp, ?_⟩)
    cases xs <;> cases r <;> rfl

theorem rps1 {F H : Hp} {xs : List V} {d : PyData} (h : RpBs K F H xs [d]) : ∃ x, xs = [x] ∧ RpB K F H x d := by
  match xs, h with
  | [x], h => exact ⟨x, rfl, h.1⟩
theorem rps2 {F H : Hp} {xs : List V} {d e : PyData} (h : RpBs K F H xs [d, e]) : ∃ x y, xs = [x, y] ∧ RpB K F H x d ∧ RpB K F H y e := by
  match xs, h with
  | [x, y], h => exact ⟨x, y, rfl, h.1, h.2.1⟩
theorem maxL_ge : ∀ {ns : List Int} {n : Int}, n ∈ ns → n ≤ maxL ns
  | [a], n, h => by simp at h; subst h; exact Int.le_refl _
  | a :: b :: r, n, h => by
    have ih := @maxL_ge (b :: r)
    show n ≤ max a (maxL (b :: r))
    rcases List.mem_cons.mp h with rfl | h
    · exact Int.le_max_left _ _
    · exact Int.le_trans (ih h) (Int.le_max_right _ _)
theorem maxL_mem : ∀ {ns : List Int}, ns ≠ [] → maxL ns ∈ ns
  | [], h => absurd rfl h
  | [a], _ => by simp [maxL]
  | a :: b :: r, _ => by
    have ih := @maxL_mem (b :: r) (by simp)
    show max a (maxL (b :: r)) ∈ _
    by_cases h : a ≤ maxL (b :: r)
    · rw [Int.max_eq_right h]; exact List.mem_cons_of_mem _ ih
    · rw [Int.max_eq_left (by omega)]; exact List.mem_cons_self
theorem minL_le : ∀ {ns : List Int} {n : Int}, n ∈ ns → minL ns ≤ n
  | [a], n, h => by simp at h; subst h; exact Int.le_refl _
  | a :: b :: r, n, h => by
    have ih := @minL_le (b :: r)
    show min a (minL (b :: r)) ≤ n
    rcases List.mem_cons.mp h with rfl | h
    · exact Int.min_le_left _ _
    · exact Int.le_trans (Int.min_le_right _ _) (ih h)
theorem minL_mem : ∀ {ns : List Int}, ns ≠ [] → minL ns ∈ ns
  | [], h => absurd rfl h
  | [a], _ => by simp [minL]
  | a :: b :: r, _ => by
    have ih := @minL_mem (b :: r) (by simp)
    show min a (minL (b :: r)) ∈ _
    by_cases h : a ≤ minL (b :: r)
    · rw [Int.min_eq_left h]; exact List.mem_cons_self
    · rw [Int.min_eq_right (by omega)]; exact List.mem_cons_of_mem _ ih
theorem insI_perm (a : Int) : ∀ l : List Int, (insI a l).Perm (a :: l)
  | [] => .refl _
  | b :: r => by
    unfold insI
    split
    · exact .refl _
    · exact ((insI_perm a r).cons b).trans (.swap a b r)
theorem srtI_perm : ∀ l : List Int, (srtI l).Perm l
  | [] => .refl _
  | a :: r => (insI_perm a (srtI r)).trans ((srtI_perm r).cons a)
theorem insI_sorted (a : Int) : ∀ {l : List Int}, l.Pairwise (· ≤ ·) → (insI a l).Pairwise (· ≤ ·)
  | [], _ => by simp [insI]
  | b :: r, h => by
    have hb := List.pairwise_cons.mp h
    unfold insI
    split
    · rename_i hab
      refine List.pairwise_cons.mpr ⟨fun y hy => ?_, h⟩
      rcases List.mem_cons.mp hy with rfl | hy
      · exact hab
      · exact Int.le_trans hab (hb.1 y hy)
    · rename_i hab
      refine List.pairwise_cons.mpr ⟨fun y hy => ?_, insI_sorted a hb.2⟩
      rcases List.mem_cons.mp ((insI_perm a r).mem_iff.mp hy) with rfl | hy
      · omega
      · exact hb.1 y hy
theorem srtI_sorted : ∀ l : List Int, (srtI l).Pairwise (· ≤ ·)
  | [] => .nil
  | a :: r => insI_sorted a (srtI_sorted r)
theorem srt_eq {a b : List Int} (hp : a.Perm b) (ha : a.Pairwise (· ≤ ·)) : a = srtI b :=
  PySem.W.ksm_same (hp.trans (srtI_perm b).symm) ha (srtI_sorted b)

def nameB : Blt → Str
  | .len => "len"
  | .abs => "abs"
  | .int => "int"
  | .sum => "sum"
  | .tuple => "tuple"
  | .list => "list"
  | .max => "max"
  | .min => "min"
  | .all => "all"
  | .any => "any"
  | .comb => "comb"
  | .gcd => "gcd"
  | .sorted => "sorted"
  | .lenset => "len"
def rMax2 (K : PySem.W.Frag) : List V → Hp → VK → Prop := fun xs H Q => (∃ i j, xs = [.int i, .int j] ∧ Q (.int (if j > i then j else i)) H) ∨ rMax K xs H Q
def rMin2 (K : PySem.W.Frag) : List V → Hp → VK → Prop := fun xs H Q => (∃ i j, xs = [.int i, .int j] ∧ Q (.int (if j < i then j else i)) H) ∨ rMin K xs H Q
def rComb : List V → Hp → VK → Prop := fun vs H Q => ∃ a b : Int, vs = [.int a, .int b] ∧ (0 ≤ a ∧ 0 ≤ b ∧ a < 2 ^ 64 ∧ b ≤ 9000) ∧ Q (.int (PySem.W.mcComb a b)) H
theorem cr_comb : CallR X (.builtin "math.comb") rComb := by
  intro pins s σ H vs us Q I r h
  obtain ⟨a, b, rfl, ⟨h1, h2, h3, h4⟩, q⟩ := h
  obtain ⟨t, u, rfl⟩ := Vals.int2 r
  exact PySem.W.mc_comb h1 h2 h3 (.inl h4) fun _ => ⟨.int _, H, I.tok _, ⟨_, rfl⟩, q⟩
def rListR (K : PySem.W.Frag) : List V → Hp → VK → Prop := fun xs H Q => ∃ p ys, xs = [.ref p] ∧ (SqL K H p ys ∨ SqT K H p ys) ∧ ∀ l, H l = none → Q (.ref l) (upd H l (.lst ys))
def rTupR (K : PySem.W.Frag) : List V → Hp → VK → Prop := fun xs H Q => ∃ p ys, xs = [.ref p] ∧ ((SqL K H p ys ∧ ∀ l, H l = none → Q (.ref l) (upd H l (.tup ys))) ∨ (SqT K H p ys ∧ Q (.ref p) H))
def rLenR (K : PySem.W.Frag) : List V → Hp → VK → Prop := fun xs H Q => ∃ p ys, xs = [.ref p] ∧ (SqL K H p ys ∨ SqT K H p ys) ∧ Q (.int ys.length) H
def rAbsR : List V → Hp → VK → Prop := fun xs H Q => ∃ i, xs = [.int i] ∧ Q (.int (if i < 0 then -i else i)) H
def rIntR : List V → Hp → VK → Prop := fun xs H Q => (∃ i, xs = [.int i] ∧ Q (.int i) H) ∨ ∃ k, xs = [.bl k] ∧ Q (.int (if k then 1 else 0)) H
def rNoR : List V → Hp → VK → Prop := fun _ _ _ => False
def rBlt (K : PySem.W.Frag) : Blt → List V → Hp → VK → Prop
  | .len => rLenR K
  | .abs => rAbsR
  | .int => rIntR
  | .sum => rSum K
  | .tuple => rTupR K
  | .list => rListR K
  | .max => rMax2 K
  | .min => rMin2 K
  | .all => rAll K
  | .any => rAny K
  | .comb => rComb
  | .gcd => rGcd
  | .sorted => rSortedI K
  | .lenset => rNoR
theorem intsOf_inv {f : List Int → Option PyData} {l : List PyData} {r : Rs} (h : intsOf f l = some r) : ∃ ns d, ints? l = some ns ∧ f ns = some d ∧ r = .val d := by
  unfold intsOf at h
  split at h
  · rename_i ns e
    cases h2 : f ns with
    | none => rw [h2] at h; cases h
    | some d => rw [h2] at h; cases h; exact ⟨ns, d, e, h2, rfl⟩
  · cases h
theorem blt_r (b : Blt) : RAOk K (rBlt K b) (bltD b) := by
  intro F H xs ds res Q le hx hg out
  unfold bltD at hg
  split at hg <;> first | cases hg | skip
  · obtain ⟨x, rfl, h⟩ := rps1 hx
    obtain ⟨a, ys, rfl, hp, r⟩ := h.list le
    exact ⟨a, ys, rfl, .inl (SqL.of hp), by rw [r.length]; exact out.val0 (.int _)⟩
  · obtain ⟨x, rfl, h⟩ := rps1 hx
    obtain ⟨a, ys, rfl, hp, r⟩ := h.tup le
    exact ⟨a, ys, rfl, .inr hp, by rw [r.length]; exact out.val0 (.int _)⟩
  · obtain ⟨x, rfl, h⟩ := rps1 hx
    cases h.int
    exact ⟨_, rfl, out.val0 (.int _)⟩
  · obtain ⟨x, rfl, h⟩ := rps1 hx
    cases h.int
    exact .inl ⟨_, rfl, out.val0 (.int _)⟩
  · obtain ⟨x, rfl, h⟩ := rps1 hx
    obtain ⟨a, ys, rfl, hp, r⟩ := h.list le
    obtain ⟨ns, d, e1, e2, rfl⟩ := intsOf_inv hg
    cases e2
    rw [ints_map e1 r] at hp
    exact ⟨a, ns, rfl, SqL.of hp, out.val0 (.int _)⟩
  · obtain ⟨x, rfl, h⟩ := rps1 hx
    obtain ⟨a, ys, rfl, hp, r⟩ := h.list le
    obtain ⟨ns, d, e1, e2, rfl⟩ := intsOf_inv hg
    split at e2
    · cases e2
    · rename_i ne
      cases e2
      rw [ints_map e1 r] at hp
      have hne : ns ≠ [] := fun z => ne (by rw [z]; rfl)
      refine .inr ⟨a, ns, rfl, SqL.of hp, List.length_pos_iff.mpr hne, fun m hm hle => ?_⟩
      have : m = maxL ns := Int.le_antisymm (maxL_ge hm) (hle _ (maxL_mem hne))
      subst this
      exact out.val0 (.int _)
  · obtain ⟨x, rfl, h⟩ := rps1 hx
    obtain ⟨a, ys, rfl, hp, r⟩ := h.list le
    obtain ⟨ns, d, e1, e2, rfl⟩ := intsOf_inv hg
    split at e2
    · cases e2
    · rename_i ne
      cases e2
      rw [ints_map e1 r] at hp
      have hne : ns ≠ [] := fun z => ne (by rw [z]; rfl)
      refine .inr ⟨a, ns, rfl, SqL.of hp, List.length_pos_iff.mpr hne, fun m hm hle => ?_⟩
      have : m = minL ns := Int.le_antisymm (hle _ (minL_mem hne)) (minL_le hm)
      subst this
      exact out.val0 (.int _)
  · obtain ⟨x, y, rfl, h, h'⟩ := rps2 hx
    cases h.int; cases h'.int
    exact .inl ⟨_, _, rfl, out.val0 (.int _)⟩
  · obtain ⟨x, y, rfl, h, h'⟩ := rps2 hx
    cases h.int; cases h'.int
    exact .inl ⟨_, _, rfl, out.val0 (.int _)⟩
  · obtain ⟨x, rfl, h⟩ := rps1 hx
    obtain ⟨a, ys, rfl, hp, r⟩ := h.list le
    split at hg
    · rename_i ns e1
      cases hg
      rw [ints_map e1 r] at hp
      refine ⟨a, ns, rfl, SqL.of hp, fun ns' p h1 h2 h3 => ?_⟩
      rw [srt_eq h1 h2]
      exact out p _ h3 (RpAll.ints _)
    · cases hg
  · obtain ⟨x, rfl, h⟩ := rps1 hx
    obtain ⟨a, ys, rfl, hp, r⟩ := h.list le
    exact ⟨a, ys, rfl, .inl ⟨SqL.of hp, fun l hl => out.tup le hl r⟩⟩
  · obtain ⟨x, rfl, h⟩ := rps1 hx
    obtain ⟨a, ys, rfl, hp, r⟩ := h.tup le
    exact ⟨a, ys, rfl, .inr ⟨hp, out.val0 h.rpT⟩⟩
  · obtain ⟨x, rfl, h⟩ := rps1 hx
    obtain ⟨a, ys, rfl, hp, r⟩ := h.list le
    exact ⟨a, ys, rfl, .inl (SqL.of hp), fun l hl => out l _ hl r⟩
  · obtain ⟨x, rfl, h⟩ := rps1 hx
    obtain ⟨a, ys, rfl, hp, r⟩ := h.tup le
    exact ⟨a, ys, rfl, .inr hp, fun l hl => out l _ hl r⟩
  · obtain ⟨x, rfl, h⟩ := rps1 hx
    obtain ⟨a, ys, rfl, hp, r⟩ := h.ro le
    exact ⟨a, ys, rfl, .inl hp, fun l hl => out l _ hl r⟩
  · obtain ⟨x, rfl, h⟩ := rps1 hx
    obtain ⟨a, ys, rfl, hp, r⟩ := h.list le
    split at hg
    · rename_i ns e1
      cases hg
      rw [bools_map e1 r] at hp
      exact ⟨a, ns, rfl, SqL.of hp, out.val0 (.bl _)⟩
    · cases hg
  · obtain ⟨x, rfl, h⟩ := rps1 hx
    obtain ⟨a, ys, rfl, hp, r⟩ := h.list le
    split at hg
    · rename_i ns e1
      cases hg
      rw [bools_map e1 r] at hp
      exact ⟨a, ns, rfl, SqL.of hp, out.val0 (.bl _)⟩
    · cases hg
  · obtain ⟨x, y, rfl, h, h'⟩ := rps2 hx
    cases h.int; cases h'.int
    split at hg
    · rename_i c
      cases hg
      exact ⟨_, _, rfl, c, out.val0 (.int _)⟩
    · cases hg
  · obtain ⟨x, y, rfl, h, h'⟩ := rps2 hx
    cases h.int; cases h'.int
    exact ⟨_, _, rfl, out.val0 (.int _)⟩

def nameT : Ty → String
  | .int => "int"
  | .bool => "bool"
  | .str => "str"
  | .tuple => "tuple"
  | .list => "list"
def tyD : PyData → String
  | .none => "NoneType"
  | .bool _ => "bool"
  | .int _ => "int"
  | .str _ => "str"
  | .list _ => "list"
  | .tuple _ => "tuple"
  | .dict _ => "dict"
theorem tyX_of {F H : Hp} {x : V} {d : PyData} (le : Le F H) (hx : RpB K F H x d) (h : ∀ l, d ≠ .dict l) : TyX K H x (.type (tyD d)) := by
  cases d with
  | none => cases hx.none; exact .base .non
  | bool b => cases hx.bool; exact .base (.bl b)
  | int i => cases hx.int; exact .base (.int i)
  | str z => cases hx.str; exact .base (.str z)
  | list l =>
    obtain ⟨a, xs, rfl, hp, r⟩ := hx.list le
    exact .base (.lst hp)
  | tuple l =>
    obtain ⟨a, xs, rfl, hp, r⟩ := hx.tup le
    rcases hp with (hp | ⟨o, hp⟩) | ⟨o, its, n, hk, hc, _⟩
    · exact .base (.tup hp)
    · exact .fTuple hp
    · exact .kTuple hk hc
  | dict l => exact absurd rfl (h l)
theorem isi_ok {t : Ty} {d : PyData} {b : Bool} (h : isiD t d = some b) : (∀ l, d ≠ .dict l) ∧ kitB (tyD d) (nameT t) = some b := by
  cases t <;> cases d <;> simp only [isiD] at h <;> first | cases h | skip
  all_goals exact ⟨fun l z => (by cases z), (by show kitB _ _ = _; simp only [tyD, nameT]; decide +kernel)⟩
theorem isi_r (t : Ty) {F H : Hp} {x : V} {d : PyData} {b : Bool} {Q : VK} (le : Le F H) (hx : RpB K F H x d) (h : isiD t d = some b) (q : Q (.bl b) H) : rIsi K [x, .ty (nameT t)] H Q := by
  obtain ⟨h1, h2⟩ := isi_ok h
  exact ⟨x, .ty (nameT t), _, _, b, rfl, .ty _, tyX_of le hx h1, kit_ty h2, q⟩
end
end Ev
namespace Ev
open PySem PySem.Spec PyProof.Rows L2
section
variable {X : Cx} {K : PySem.W.Frag} {B : Bs}

theorem dB_O {m : EvO} {σ : L2.St} {H : Hp} {Q : Bool → Hp → Prop} (q : dB K B (tstO m) σ H Q) : dO K B m σ H fun x H1 => ∃ k, TruV K x H1 k ∧ Q k H1 := by
  obtain ⟨F, ρ, b, ρ', S, hm, q⟩ := q
  simp only [tstO] at hm
  split at hm
  · rename_i o ρ1 e1
    split at hm
    · rename_i d e2
      split at hm
      · rename_i b' e3
        cases hm
        exact ⟨F, ρ, o, _, S, e1, fun v F1 H1 le1 S1 k1 => ⟨b, truD_ok S1.le (rsv_ok S1 k1 e2) e3, q F1 H1 le1 S1⟩⟩
      · cases hm
    · cases hm
  · cases hm
theorem and_t {a b : EvB} {σ : L2.St} {H : Hp} {Q : Bool → Hp → Prop} (q : dB K B (andT a b) σ H Q) : tAnd (dB K B a) (dB K B b) σ H Q := by
  obtain ⟨F, ρ, r, ρ', S, hm, q⟩ := q
  simp only [andT] at hm
  split at hm
  · rename_i ρ1 e1
    refine ⟨F, ρ, true, ρ1, S, e1, fun F1 H1 le1 S1 => ?_⟩
    refine iteT ?_
    exact ⟨F1, ρ1, r, ρ', S1, hm, fun F2 H2 le2 S2 => q F2 H2 (le1.trans le2) S2⟩
  · rename_i ρ1 e1
    cases hm
    refine ⟨F, ρ, false, _, S, e1, fun F1 H1 le1 S1 => ?_⟩
    refine iteF ?_
    exact q F1 H1 le1 S1
  · cases hm
theorem or_t {a b : EvB} {σ : L2.St} {H : Hp} {Q : Bool → Hp → Prop} (q : dB K B (orT a b) σ H Q) : tOr (dB K B a) (dB K B b) σ H Q := by
  obtain ⟨F, ρ, r, ρ', S, hm, q⟩ := q
  simp only [orT] at hm
  split at hm
  · rename_i ρ1 e1
    cases hm
    refine ⟨F, ρ, true, _, S, e1, fun F1 H1 le1 S1 => ?_⟩
    refine iteT ?_
    exact q F1 H1 le1 S1
  · rename_i ρ1 e1
    refine ⟨F, ρ, false, ρ1, S, e1, fun F1 H1 le1 S1 => ?_⟩
    refine iteF ?_
    exact ⟨F1, ρ1, r, ρ', S1, hm, fun F2 H2 le2 S2 => q F2 H2 (le1.trans le2) S2⟩
  · cases hm
theorem not_t {a : EvB} {σ : L2.St} {H : Hp} {Q : Bool → Hp → Prop} (q : dB K B (notT a) σ H Q) : tNot (dB K B a) σ H Q := by
  obtain ⟨F, ρ, r, ρ', S, hm, q⟩ := q
  simp only [notT] at hm
  split at hm
  · rename_i b ρ1 e1
    cases hm
    exact ⟨F, ρ, b, _, S, e1, fun F1 H1 le1 S1 => q F1 H1 le1 S1⟩
  · cases hm
theorem and_e {a b : Ev1} {σ : L2.St} {H : Hp} {Q : VK} (q : dE K B (andE a b) σ H Q) : tAndV (dE K B a) (dE K B b) σ H Q := by
  obtain ⟨F, ρ, r, ρ', S, hm, q⟩ := q
  simp only [andE] at hm
  split at hm
  · rename_i ρ1 e1
    refine ⟨F, ρ, _, ρ1, S, e1, fun v F1 H1 le1 S1 k1 => ?_⟩
    cases Rp.bool_inv k1
    refine ⟨true, rfl, ?_⟩
    refine iteT ?_
    exact ⟨F1, ρ1, r, ρ', S1, hm, fun v F2 H2 le2 S2 => q v F2 H2 (le1.trans le2) S2⟩
  · rename_i ρ1 e1
    cases hm
    refine ⟨F, ρ, _, _, S, e1, fun v F1 H1 le1 S1 k1 => ?_⟩
    cases Rp.bool_inv k1
    refine ⟨false, rfl, ?_⟩
    refine iteF ?_
    exact q _ F1 H1 le1 S1 (Rp.bl false)
  · cases hm
theorem or_e {a b : Ev1} {σ : L2.St} {H : Hp} {Q : VK} (q : dE K B (orE a b) σ H Q) : tOrV (dE K B a) (dE K B b) σ H Q := by
  obtain ⟨F, ρ, r, ρ', S, hm, q⟩ := q
  simp only [orE] at hm
  split at hm
  · rename_i ρ1 e1
    cases hm
    refine ⟨F, ρ, _, _, S, e1, fun v F1 H1 le1 S1 k1 => ?_⟩
    cases Rp.bool_inv k1
    refine ⟨true, rfl, ?_⟩
    refine iteT ?_
    exact q _ F1 H1 le1 S1 (Rp.bl true)
  · rename_i ρ1 e1
    refine ⟨F, ρ, _, ρ1, S, e1, fun v F1 H1 le1 S1 k1 => ?_⟩
    cases Rp.bool_inv k1
    refine ⟨false, rfl, ?_⟩
    refine iteF ?_
    exact ⟨F1, ρ1, r, ρ', S1, hm, fun v F2 H2 le2 S2 => q v F2 H2 (le1.trans le2) S2⟩
  · cases hm
theorem not_e {a : Ev1} {σ : L2.St} {H : Hp} {Q : VK} (q : dE K B (notE a) σ H Q) : tNotV (dE K B a) σ H Q := by
  obtain ⟨F, ρ, r, ρ', S, hm, q⟩ := q
  simp only [notE] at hm
  split at hm
  · rename_i b ρ1 e1
    cases hm
    refine ⟨F, ρ, _, _, S, e1, fun v F1 H1 le1 S1 k1 => ?_⟩
    cases Rp.bool_inv k1
    exact ⟨b, rfl, q _ F1 H1 le1 S1 (Rp.bl _)⟩
  · cases hm
theorem ite_e {c : EvB} {a b : Ev1} {σ : L2.St} {H : Hp} {Q : VK} (q : dE K B (iteE c a b) σ H Q) : tIf (dB K B c) (dE K B a) (dE K B b) σ H Q := by
  obtain ⟨F, ρ, r, ρ', S, hm, q⟩ := q
  simp only [iteE] at hm
  split at hm
  · rename_i ρ1 e1
    refine ⟨F, ρ, true, ρ1, S, e1, fun F1 H1 le1 S1 => ?_⟩
    refine iteT ?_
    exact ⟨F1, ρ1, r, ρ', S1, hm, fun v F2 H2 le2 S2 => q v F2 H2 (le1.trans le2) S2⟩
  · rename_i ρ1 e1
    refine ⟨F, ρ, false, ρ1, S, e1, fun F1 H1 le1 S1 => ?_⟩
    refine iteF ?_
    exact ⟨F1, ρ1, r, ρ', S1, hm, fun v F2 H2 le2 S2 => q v F2 H2 (le1.trans le2) S2⟩
  · cases hm
/-- an expression in the place of a bool -/
theorem chn_e {o o' : COp} {a b c : EvO} {σ : L2.St} {H : Hp} {Q : VK} (q : dE K B (chnE o o' a b c) σ H Q) : tChain (rCmp K o) (rCmp K o') (dO K B a) (dO K B b) (dO K B c) σ H Q := by
  obtain ⟨F, ρ, r, ρ', S, hm, q⟩ := q
  simp only [chnE] at hm
  split at hm
  case h_2 => cases hm
  rename_i x ρ1 e1
  split at hm
  case h_2 => cases hm
  rename_i y ρ2 e2
  split at hm
  case h_2 => cases hm
  rename_i d e e3 e4
  refine ⟨F, ρ, x, ρ1, S, e1, fun v F1 H1 le1 S1 k1 => ?_⟩
  refine ⟨F1, ρ1, y, ρ2, S1, e2, fun w F2 H2 le2 S2 k2 => ?_⟩
  have rx := rsv_ok S2 (k1.mono le2) e3
  have ry := rsv_ok S2 k2 e4
  split at hm
  · rename_i e5
    refine cmp_r o F2 H2 v w d e (.val (.bool true)) _ S2.le rx ry (by show rb (cmpD o d e) = _; rw [e5]; rfl) (S2.out fun u F3 H3 le3 S3 k3 => ?_)
    cases Rp.bool_inv k3
    refine ⟨true, rfl, ?_⟩
    refine iteT ?_
    split at hm
    case h_2 => cases hm
    rename_i z ρ3 e6
    split at hm
    case h_2 => cases hm
    rename_i e' f e7 e8
    split at hm
    case h_2 => cases hm
    rename_i k e9
    cases hm
    refine ⟨F3, ρ2, z, _, S3, e6, fun t F4 H4 le4 S4 k4 => ?_⟩
    refine cmp_r o' F4 H4 w t e' f (.val (.bool k)) _ S4.le (rsv_ok S4 ((k2.mono le3).mono le4) e7) (rsv_ok S4 k4 e8) (by show rb (cmpD o' e' f) = _; rw [e9]; rfl) (S4.out fun u F5 H5 le5 S5 k5 => ?_)
    exact q u F5 H5 ((((le1.trans le2).trans le3).trans le4).trans le5) S5 k5
  · rename_i e5
    cases hm
    refine cmp_r o F2 H2 v w d e (.val (.bool false)) _ S2.le rx ry (by show rb (cmpD o d e) = _; rw [e5]; rfl) (S2.out fun u F3 H3 le3 S3 k3 => ?_)
    cases Rp.bool_inv k3
    refine ⟨false, rfl, ?_⟩
    refine iteF ?_
    exact q _ F3 H3 ((le1.trans le2).trans le3) S3 (Rp.bl false)
  · cases hm

def dP (K : PySem.W.Frag) (B : Bs) (ms : List EvO) : TO := fun σ H Q => ∃ F ρ o ρ', Sit K B F σ H ρ ∧ partO ms ρ = some (o, ρ') ∧ ∀ F' H', Le F F' → Sit K B F' σ H' ρ' → Q o H'
theorem POm {e : Option Expr} {t t' : TO} (h : PO X e t) (w : ∀ σ H Q, t' σ H Q → t σ H Q) : PO X e t' := ⟨fun pins s σ H Q I q => h.run pins s σ H Q I (w σ H Q q)⟩
theorem dP_none : PO X none (dP X.K B []) := POm po_none fun σ H Q q => by
  obtain ⟨F, ρ, o, ρ', S, hm, q⟩ := q
  simp only [partO, Option.some.injEq, Prod.mk.injEq] at hm
  obtain ⟨rfl, rfl⟩ := hm
  exact q F H Le.refl S
theorem dP_some {e : Expr} {m : EvO} (h : PE X e (dO X.K B m)) : PO X (some e) (dP X.K B [m]) := POm (po_some h) fun σ H Q q => by
  obtain ⟨F, ρ, o, ρ', S, hm, q⟩ := q
  simp only [partO] at hm
  split at hm
  · rename_i i ρ1 e1
    cases hm
    refine ⟨F, ρ, _, _, S, e1, fun v F1 H1 le1 S1 k1 => ?_⟩
    exact ⟨i, Rp.int_inv k1, q F1 H1 le1 S1⟩
  · cases hm
theorem slc_e {a : EvO} {lo hi : List EvO} {σ : L2.St} {H : Hp} {Q : VK} (q : dE K B (slcE a lo hi) σ H Q) : tSl (rSlc K) (dO K B a) (dP K B lo) (dP K B hi) σ H Q := by
  obtain ⟨F, ρ, r, ρ', S, hm, q⟩ := q
  simp only [slcE] at hm
  split at hm
  case h_2 => cases hm
  rename_i x ρ1 e1
  split at hm
  case h_2 => cases hm
  rename_i l ρ2 e2
  split at hm
  case h_2 => cases hm
  rename_i h ρ3 e3
  split at hm
  case h_2 => cases hm
  rename_i d e4
  split at hm
  case h_2 => cases hm
  rename_i r' e5
  cases hm
  refine ⟨F, ρ, x, ρ1, S, e1, fun v F1 H1 le1 S1 k1 => ?_⟩
  refine ⟨F1, ρ1, l, ρ2, S1, e2, fun F2 H2 le2 S2 => ?_⟩
  refine ⟨F2, ρ2, h, _, S2, e3, fun F3 H3 le3 S3 => ?_⟩
  refine slc_r S3.le (rsv_ok S3 ((k1.mono le2).mono le3) e4) e5 (S3.out fun u F4 H4 le4 S4 k4 => ?_)
  exact q u F4 H4 (((le1.trans le2).trans le3).trans le4) S4 k4

theorem isi_e {m : EvO} {t : Ty} {σ : L2.St} {H : Hp} {Q : VK} (q : dE K B (app1 [m] (g1 fun d => rb (isiD t d))) σ H Q) : tCB (rIsi K) (tCons (dO K B m) (tCons (tC (.ty (nameT t))) tNil)) σ H Q := by
  obtain ⟨F, ρ, res, ρ', S, hm, q⟩ := q
  obtain ⟨os, ds, e1, e2, e3⟩ := app_inv hm
  obtain ⟨o, rfl, h1⟩ := seq1_inv e1
  obtain ⟨d, rfl, h2⟩ := rsvs1_inv e2
  have e3 : rb (isiD t d) = some res := e3
  cases h3 : isiD t d with
  | none => rw [h3] at e3; cases e3
  | some b =>
    rw [h3] at e3
    cases e3
    refine ⟨F, ρ, o, ρ', S, h1, fun v F1 H1 le1 S1 k1 => ?_⟩
    exact isi_r t S1.le (rsv_ok S1 k1 h2) h3 (q _ F1 H1 le1 S1 (Rp.bl b))
end
theorem distT_mem {x : List Int} : ∀ {l : List (List Int)}, x ∈ distT l ↔ x ∈ l
  | [] => Iff.rfl
  | a :: r => by
    unfold distT
    split
    · rename_i h
      rw [distT_mem, List.mem_cons]
      refine ⟨.inr, fun z => z.elim (fun e => ?_) id⟩
      subst e
      simpa using h
    · rw [List.mem_cons, List.mem_cons, distT_mem]
theorem distT_nodup : ∀ (l : List (List Int)), (distT l).Nodup
  | [] => List.nodup_nil
  | a :: r => by
    unfold distT
    split
    · exact distT_nodup r
    · rename_i h
      refine List.nodup_cons.mpr ⟨fun z => h ?_, distT_nodup r⟩
      rw [distT_mem] at z
      simpa using z
theorem nodup_le : ∀ {a b : List (List Int)}, a.Nodup → (∀ x ∈ a, x ∈ b) → a.length ≤ b.length
  | [], _, _, _ => Nat.zero_le _
  | x :: r, b, h, hs => by
    obtain ⟨h1, h2⟩ := List.nodup_cons.mp h
    have hx : x ∈ b := hs x List.mem_cons_self
    have q := nodup_le (a := r) (b := b.erase x) h2 fun y hy => (List.mem_erase_of_ne (fun e => h1 (by rw [← e]; exact hy))).mpr (hs y (List.mem_cons_of_mem _ hy))
    rw [List.length_erase_of_mem hx] at q
    have := List.length_pos_of_mem hx
    rw [List.length_cons]
    omega
theorem tups_rp {K : PySem.W.Frag} {F : Hp} : ∀ {xs : List V} {ds : List PyData} {ts : List (List Int)}, RpAll K F xs ds → tupsI? ds = some ts → ∃ ks : List (Addr × List Int), xs = ks.map (fun p => V.ref p.1) ∧ ks.map (·.2) = ts ∧ ∀ p ∈ ks, SqT K F p.1 (p.2.map V.int)
  | _, _, ts, .nil, h => by
    cases h
    exact ⟨[], rfl, rfl, fun p hp => by cases hp⟩
  | _, _, ts, .cons (d := d) r t, h => by
    cases d <;> simp only [tupsI?] at h <;> first | cases h | skip
    split at h
    · rename_i s t' e1 e2
      cases h
      obtain ⟨ks, rfl, rfl, h3⟩ := tups_rp t e2
      obtain ⟨a, ys, rfl, h4, h5⟩ := r.tup_inv
      have e : ys = s.map V.int := ints_map e1 h5
      subst e
      refine ⟨(a, s) :: ks, rfl, rfl, fun p hp => ?_⟩
      rcases List.mem_cons.mp hp with rfl | hp
      · exact h4
      · exact h3 p hp
    · cases h
section
variable {X : Cx} {K : PySem.W.Frag} {B : Bs}
def rLens (K : PySem.W.Frag) : V → Hp → VK → Prop := fun x H Q => ∃ (l : Addr) (ks : List (Addr × List Int)), x = V.ref l ∧ SqL K H l (ks.map fun p => V.ref p.1) ∧ (∀ p ∈ ks, SqT K H p.1 (p.2.map V.int)) ∧ ks.length < 64 ∧ Q (.int (distT (ks.map (·.2))).length) H
theorem pe_lens {a : Expr} {ta : TE} {p p2 q pos : Pos} (hc : X.calm = true) (hu : X.A.units + 65 < cLine) (hg : Gl X "len") (hm : X.mg "len" = none) (hg2 : Gl X "set") (hm2 : X.mg "set" = none) (ha : PE X a ta)
    (na : starEach [a] X.env = (false, eval a X.env) :: starEach [] X.env := by rfl) : PE X (.Call (.Name "len" p) [.Call (.Name "set" p2) [a] [] q] [] pos) (tUn (rLens X.K) ta) := by
  refine ⟨fun pins s σ H Q I h => ?_⟩
  refine Call_ (ld_blt I hg hm PySem.boot_len ?_)
  refine PyProof.Rows.callWith_builtin1 (PyProof.Rows.args_cons ?_ rfl) rfl rfl
  refine Call_ (ld_blt I hg2 hm2 PyProof.Rows.boot_set ?_)
  refine PyProof.Rows.callWith_type1 (PyProof.Rows.args_cons (thn (ha.run pins s σ H _ I h) fun v s1 ⟨x, H1, I1, r1, q1⟩ => PyProof.Rows.args_nil ?_) na) na rfl
  obtain ⟨l, ks, rfl, hq, hk, hf, q1⟩ := q1
  cases r1
  obtain ⟨its, rv, pl, hz⟩ := I1.list hq
  refine call_set_tups (P := X.prog) (w := X.w) ks (I1.ok.hd hc) pl.isList (by simpa using refs_of_vals rv) (fun p hp => I1.isT (hk p hp)) hf (by omega) fun h' tk L es ep t R g k => ?_
  refine PyProof.Rows.args_nil ?_
  have I2 : Inv X pins σ H1 { s1 with heap := h', toks := tk } := I1.kept fun b o e => k b o e
  obtain ⟨o, ho, hex, hd⟩ := R.ob
  have hs : es.size = L.length := by
    have h := congrArg List.length R.rows
    unfold rowsOf at h
    rw [Array.length_toList, List.length_map] at h
    exact h
  have hl : L.length = (distT (ks.map (·.2))).length := by
    have c1 := nodup_le R.nd (b := distT (ks.map (·.2))) fun x hx => by
      obtain ⟨p, hp, rfl⟩ := List.mem_map.mp hx
      exact distT_mem.mpr (List.mem_map_of_mem (List.mem_of_mem_take (g.sub p hp)))
    have c2 := nodup_le (distT_nodup (ks.map (·.2))) (b := L.map (·.2)) fun x hx => by
      obtain ⟨p, hp, rfl⟩ := List.mem_map.mp (distT_mem.mp hx)
      exact g.all p (by rw [List.take_length]; exact hp)
    rw [List.length_map] at c1 c2
    omega
  rw [← hl] at q1
  have hll : L.length < 64 := R.few
  exact call_len_set ho hex hd (SetTR.fits (s := { s1 with heap := h', toks := tk }) R) (by rw [hs]; omega) ⟨.int L.length, H1, I2.tok _, ⟨_, by rw [hs]⟩, q1⟩
theorem lens_r : R1Ok K (rLens K) lensD := by
  intro F H x d res Q le hx hg out
  cases d <;> simp only [lensD] at hg <;> first | cases hg | skip
  split at hg
  · rename_i ts e1
    split at hg
    · rename_i hl
      cases hg
      obtain ⟨a, xs, rfl, h, r⟩ := hx.list le
      obtain ⟨ks, rfl, rfl, h3⟩ := tups_rp r e1
      refine ⟨a, ks, rfl, SqL.of h, fun p hp => le.sqT (h3 p hp), ?_, out.val0 (.int _)⟩
      have := r.length
      rw [List.length_map] at this
      omega
    · cases hg
  · cases hg
end
end Ev
namespace Ev
open PySem PySem.Spec PyProof.Rows L2

def RetOk (K : PySem.W.Frag) (F H H0 : Hp) (v : V) : Rs → Prop
  | .val d => Rp K F v d
  | .new l => ∃ p xs, v = .ref p ∧ H p = some (.lst xs) ∧ F p = none ∧ RpAll K F xs l ∧ H0 p = none
structure CallIn (K : PySem.W.Frag) (F H : Hp) (io : Option Nat) (vs : List V) (ds : List PyData) : Prop where
  le : Le F H
  len : vs.length = ds.length
  arg : ∀ (i : Nat) (v : V) (d : PyData), vs[i]? = some v → ds[i]? = some d → io ≠ some i → Rp K F v d
  ior : ∀ (j : Nat), io = some j → ∃ p xs l, vs[j]? = some (V.ref p) ∧ ds[j]? = some (.list l) ∧ H p = some (.lst xs) ∧ F p = none ∧ RpAll K F xs l
structure CallOut (K : PySem.W.Frag) (F H F' H' : Hp) (io : Option Nat) (vs : List V) (r : Rs) (out : List PyData) (v : V) : Prop where
  leF : Le F F'
  le : Le F' H'
  newF : ∀ a o, F' a = some o → F a = some o ∨ H a = none
  old : ∀ a o, H a = some o → (∀ j, io = some j → vs[j]? ≠ some (V.ref a)) → H' a = some o
  ior : ∀ (j : Nat), io = some j → ∃ p xs, vs[j]? = some (V.ref p) ∧ H' p = some (.lst xs) ∧ F' p = none ∧ RpAll K F' xs out
  ret : RetOk K F' H' H v r
def spD (K : PySem.W.Frag) (n : Nat) (g : Option Nat → List PyData → Option (Rs × List PyData)) : Sp := fun vs H Q _ => ∃ F io ds r out, vs.length = n ∧ CallIn K F H io vs ds ∧ g io ds = some (r, out) ∧
  ∀ v F' H', CallOut K F H F' H' io vs r out v → Q v H'

section
variable {X : Cx} {K : PySem.W.Frag} {B : Bs} {F F' H H' : Hp} {σ : L2.St} {ρ : En} {v : V}

theorem freeze_val : ∀ {is : List Nat} {ρ ρ' : En} {i : Nat} {d : PyData}, freezeAll is ρ = some ρ' → ρ[i]? = some (some (Cl.val d)) → ρ'[i]? = some (some (Cl.val d))
  | [], ρ, ρ', i, d, h, e => by simp only [freezeAll, Option.some.injEq] at h; subst h; exact e
  | j :: is, ρ, ρ', i, d, h, e => by
    simp only [freezeAll] at h
    split at h
    · rename_i l e1
      refine freeze_val h ?_
      have hj : j ≠ i := fun z => by subst z; rw [e1] at e; cases e
      rw [List.getElem?_set_ne hj]; exact e
    · exact freeze_val h e
    · cases h
theorem freeze_at : ∀ {is : List Nat} {ρ ρ' : En} {i : Nat} {d : PyData}, freezeAll is ρ = some ρ' → i ∈ is → rsv ρ (.bor i) = some d → ρ'[i]? = some (some (Cl.val d))
  | [], ρ, ρ', i, d, h, hi, e => by cases hi
  | j :: is, ρ, ρ', i, d, h, hi, e => by
    simp only [freezeAll] at h
    split at h
    · rename_i l e1
      have hlt : j < ρ.length := (List.getElem?_eq_some_iff.mp e1).1
      by_cases hj : j = i
      · subst hj
        simp only [rsv, e1, Option.some.injEq] at e
        subst e
        exact freeze_val h (List.getElem?_set_self hlt)
      · refine freeze_at h ((List.mem_cons.mp hi).resolve_left fun z => hj z.symm) ?_
        simp only [rsv] at e ⊢
        rw [List.getElem?_set_ne hj]; exact e
    · rename_i d' e1
      by_cases hj : j = i
      · subst hj
        simp only [rsv, e1] at e
        cases e
      · exact freeze_at h ((List.mem_cons.mp hi).resolve_left fun z => hj z.symm) e
    · cases h
theorem freeze_other : ∀ {is : List Nat} {ρ ρ' : En} {i : Nat}, freezeAll is ρ = some ρ' → i ∉ is → ρ'[i]? = ρ[i]?
  | [], ρ, ρ', i, h, hi => by simp only [freezeAll, Option.some.injEq] at h; subst h; rfl
  | j :: is, ρ, ρ', i, h, hi => by
    have hj : j ≠ i := fun z => hi (by rw [z]; exact List.mem_cons_self)
    have hr : i ∉ is := fun z => hi (List.mem_cons_of_mem _ z)
    simp only [freezeAll] at h
    split at h
    · rw [freeze_other h hr, List.getElem?_set_ne hj]
    · exact freeze_other h hr
    · cases h
theorem Sit.freezeAll : ∀ {is : List Nat} {F : Hp} {ρ ρ' : En}, Sit K B F σ H ρ → Ev.freezeAll is ρ = some ρ' → ∃ F', Le F F' ∧ Sit K B F' σ H ρ'
  | [], F, ρ, ρ', S, h => by simp only [Ev.freezeAll, Option.some.injEq] at h; subst h; exact ⟨F, Le.refl, S⟩
  | j :: is, F, ρ, ρ', S, h => by
    simp only [Ev.freezeAll] at h
    split at h
    · rename_i l e1
      obtain ⟨F1, _, le1, _, S1, _⟩ := S.letGo e1
      obtain ⟨F2, le2, S2⟩ := Sit.freezeAll S1 h
      exact ⟨F2, le1.trans le2, S2⟩
    · exact Sit.freezeAll S h
    · cases h

theorem rp_scal {d : PyData} (r : Rp K F v d) (h : scalD d = true) (G : Hp) : Rp K G v d := by
  cases r with
  | non => exact .non
  | bl b => exact .bl b
  | int i => exact .int i
  | str x => exact .str x
  | lst _ _ => cases h
  | tup _ _ => cases h
  | rol _ _ => cases h
theorem rps_scal : ∀ {vs : List V} {ds : List PyData}, RpAll K F vs ds → ds.all scalD = true → ∀ G, RpAll K G vs ds
  | _, _, .nil, _, _ => .nil
  | _, _, .cons r t, h, G => by
    rw [List.all_cons, Bool.and_eq_true] at h
    exact .cons (rp_scal r h.1 G) (rps_scal t h.2 G)
/-- the situation behind a call that changed no slot's object -/
theorem Sit.called (S : Sit K B F σ H ρ) (leF : Le F F') (le : Le F' H') (newF : ∀ a o, F' a = some o → F a = some o ∨ H a = none) (old : ∀ a o, H a = some o → H' a = some o) : Sit K B F' σ H' ρ := by
  refine ⟨le, S.leF.trans leF, fun a o e => ?_, fun a e => ?_, fun a o e => old _ _ (S.kept _ _ e), S.len, fun i d e => ?_, fun i f e' l e => ?_, S.inj, S.fixd, S.lntd⟩
  · rcases newF a o e with h | h
    · exact S.newF _ _ h
    · exact .inr (S.fresh _ h)
  · refine S.fresh a ?_
    cases q : H a with
    | none => rfl
    | some o => rw [old _ _ q] at e; cases e
  · obtain ⟨v, h1, h2⟩ := S.val i d e
    exact ⟨v, h1, h2.mono leF⟩
  · obtain ⟨p, xs, h1, h2, h3, h4, h5, h6⟩ := S.own i f e' l e
    refine ⟨p, xs, h1, old _ _ h2, ?_, h4.mono leF, h5, h6⟩
    cases q : F' p with
    | none => rfl
    | some o =>
      rcases newF p o q with h | h
      · rw [h3] at h; cases h
      · rw [h2] at h; cases h
/-- .. that changed the list of one slot -/
theorem Sit.calledIo (S : Sit K B F σ H ρ) {i : Nat} {f : Bool} {l out : List PyData} {p : Addr} {xs' : List V} (hi : ρ[i]? = some (some (Cl.own f false l))) (hp : σ[i]? = some (some (V.ref p)))
    (leF : Le F F') (le : Le F' H') (newF : ∀ a o, F' a = some o → F a = some o ∨ H a = none) (old : ∀ a o, H a = some o → a ≠ p → H' a = some o) (hx : H' p = some (.lst xs')) (fp : F' p = none) (rx : RpAll K F' xs' out) :
    Sit K B F' σ H' (ρ.set i (some (.own f false out))) := by
  obtain ⟨p', xs, h1, h2, h3, h4, h5, h6⟩ := S.own i _ _ _ hi
  rw [hp] at h1; cases h1
  have hlt : i < ρ.length := (List.getElem?_eq_some_iff.mp hi).1
  have gs : ∀ {j : Nat} {c : Cl}, (ρ.set i (some (Cl.own f false out)))[j]? = some (some c) → (j = i ∧ c = .own f false out) ∨ (j ≠ i ∧ ρ[j]? = some (some c)) := fun {j c} e => by
    by_cases hj : i = j
    · subst hj; rw [List.getElem?_set_self hlt] at e; cases e; exact .inl ⟨rfl, rfl⟩
    · rw [List.getElem?_set_ne hj] at e; exact .inr ⟨fun z => hj z.symm, e⟩
  refine ⟨le, S.leF.trans leF, fun a o e => ?_, fun a e => ?_, fun a o e => ?_, by rw [List.length_set]; exact S.len, fun j d e => ?_, fun j f1 e' l1 e => ?_, fun j k f1 e l1 f' e' l2 q a b c d => ?_, fun j q e => ?_, fun j q f1 l1 e => ?_⟩
  · rcases newF a o e with h | h
    · exact S.newF _ _ h
    · exact .inr (S.fresh _ h)
  · refine S.fresh a ?_
    cases q : H a with
    | none => rfl
    | some o =>
      by_cases ha : a = p
      · subst ha; rw [hx] at e; cases e
      · rw [old _ _ q ha] at e; cases e
  · have ha : a ≠ p := fun z => by subst z; rw [h5] at e; cases e
    exact old _ _ (S.kept _ _ e) ha
  · rcases gs e with ⟨_, e⟩ | ⟨_, e⟩
    · cases e
    · obtain ⟨v, q1, q2⟩ := S.val j d e
      exact ⟨v, q1, q2.mono leF⟩
  · rcases gs e with ⟨ej, e2⟩ | ⟨hj, e2⟩
    · cases e2; subst ej; exact ⟨p, xs', hp, hx, fp, rx, h5, h6⟩
    · obtain ⟨q, ys, q1, q2, q3, q4, q5, q6⟩ := S.own j f1 e' l1 e2
      have hq : q ≠ p := fun z => by
        subst z
        exact hj (S.inj j i _ _ _ _ _ _ q e2 hi q1 hp)
      refine ⟨q, ys, q1, old _ _ q2 hq, ?_, q4.mono leF, q5, q6⟩
      cases z : F' q with
      | none => rfl
      | some o =>
        rcases newF q o z with h | h
        · rw [q3] at h; cases h
        · rw [q2] at h; cases h
  · have own' : ∀ {j : Nat} {f1 e : Bool} {l : List PyData}, (ρ.set i (some (Cl.own f false out)))[j]? = some (some (Cl.own f1 e l)) → ∃ (f e : Bool) (l : List PyData), ρ[j]? = some (some (Cl.own f e l)) := @fun j f1 e l z => by
      rcases gs z with ⟨ej, _⟩ | ⟨_, z⟩
      · subst ej; exact ⟨_, _, _, hi⟩
      · exact ⟨_, _, _, z⟩
    obtain ⟨_, _, _, a'⟩ := own' a
    obtain ⟨_, _, _, b'⟩ := own' b
    exact S.inj _ _ _ _ _ _ _ _ _ a' b' c d
  · obtain ⟨q1, e1, l1, q2⟩ := S.fixd j q e
    refine ⟨q1, ?_⟩
    by_cases hj : i = j
    · subst hj; rw [hi] at q2; cases q2; exact ⟨false, out, List.getElem?_set_self hlt⟩
    · exact ⟨e1, l1, by rw [List.getElem?_set_ne hj]; exact q2⟩
  · obtain ⟨q1, q2⟩ := S.lntd j q f1 l1 e
    have hj : i ≠ j := fun z => by subst z; rw [hi] at q2; cases q2
    exact ⟨q1, by rw [List.getElem?_set_ne hj]; exact q2⟩
theorem ret_res (S : Sit K B F σ H ρ) {ρ' : En} {r : Rs} (S' : Sit K B F' σ H' ρ') (h : RetOk K F' H' H v r) (own : ∀ (i : Nat) (f e : Bool) (l : List PyData), ρ'[i]? = some (some (Cl.own f e l)) → ∃ (f e : Bool) (l : List PyData), ρ[i]? = some (some (Cl.own f e l))) : ResOk K B F' σ H' ρ' v r := by
  cases r with
  | val d => exact h
  | new l =>
    obtain ⟨p, xs, rfl, h1, h2, h3, h4⟩ := h
    refine ⟨p, xs, rfl, h1, h2, h3, S.knone h4, S.fresh _ h4, fun i f e l' q z => ?_⟩
    obtain ⟨f1, e1, l1, q'⟩ := own i f e l' q
    obtain ⟨p', ys, q1, q2, _⟩ := S.own i _ _ _ q'
    rw [z] at q1; cases q1
    rw [h4] at q2; cases q2

theorem ops_len : ∀ {vs : List V} {os : List Opd}, OpsOk K F σ vs os → vs.length = os.length
  | [], [], _ => rfl
  | _ :: _, _ :: _, ⟨_, t⟩ => by simp [ops_len t]
  | [], _ :: _, h => h.elim
  | _ :: _, [], h => h.elim
theorem ops_get : ∀ {vs : List V} {os : List Opd} {i : Nat} {v : V}, OpsOk K F σ vs os → vs[i]? = some v → ∃ o, os[i]? = some o ∧ OpOk K F σ v o
  | _ :: _, o :: _, 0, v, ⟨h, _⟩, e => by simp at e; subst e; exact ⟨o, rfl, h⟩
  | _ :: vs, _ :: os, i + 1, v, ⟨_, t⟩, e => by
    obtain ⟨o, h1, h2⟩ := ops_get (i := i) t (by simpa using e)
    exact ⟨o, by simpa using h1, h2⟩
  | [], [], i, v, _, e => by simp at e
  | [], _ :: _, _, _, h, _ => h.elim
  | _ :: _, [], _, _, h, _ => h.elim
theorem rsvs_len : ∀ {os : List Opd} {ds : List PyData}, rsvs ρ os = some ds → os.length = ds.length
  | [], ds, e => by simp only [rsvs, Option.some.injEq] at e; subst e; rfl
  | o :: os, ds, e => by
    simp only [rsvs] at e
    split at e
    · rename_i d ds' e1 e2
      cases e
      simp [rsvs_len e2]
    · cases e
theorem rsvs_get : ∀ {os : List Opd} {ds : List PyData} {i : Nat} {o : Opd}, rsvs ρ os = some ds → os[i]? = some o → ∃ d, ds[i]? = some d ∧ rsv ρ o = some d
  | [], ds, i, o, e, h => by simp at h
  | o :: os, ds, i, o', e, h => by
    simp only [rsvs] at e
    split at e
    · rename_i d ds' e1 e2
      cases e
      cases i with
      | zero => simp at h; subst h; exact ⟨d, rfl, e1⟩
      | succ i =>
        obtain ⟨d', h1, h2⟩ := rsvs_get (i := i) e2 (by simpa using h)
        exact ⟨d', by simpa using h1, h2⟩
    · cases e
theorem mem_bors : ∀ {os : List Opd} {k : Nat} {io : Option Nat} {i j : Nat}, os[j]? = some (.bor i) → io ≠ some (k + j) → i ∈ borsO k io os
  | [], _, _, _, _, h, _ => by simp at h
  | .bor i' :: r, k, io, i, 0, h, n => by
    simp at h
    subst h
    simp only [borsO]
    rw [if_neg (by simpa using n)]
    exact List.mem_cons_self
  | .d _ :: r, k, io, i, 0, h, n => by simp at h
  | .bor i' :: r, k, io, i, j + 1, h, n => by
    simp only [borsO]
    have ih := mem_bors (os := r) (k := k + 1) (io := io) (i := i) (j := j) (by simpa using h) (by rw [Nat.add_assoc, Nat.add_comm 1 j]; exact n)
    split
    · exact ih
    · exact List.mem_cons_of_mem _ ih
  | .d _ :: r, k, io, i, j + 1, h, n => by
    simp only [borsO]
    exact mem_bors (os := r) (k := k + 1) (io := io) (i := i) (j := j) (by simpa using h) (by rw [Nat.add_assoc, Nat.add_comm 1 j]; exact n)
theorem ioSlot_inv {os : List Opd} {io : Option Nat} {sl : Option (Nat × Bool)} (h : ioSlot ρ os io = some sl) :
    (io = none ∧ sl = none) ∨ ∃ j i f l, io = some j ∧ sl = some (i, f) ∧ os[j]? = some (.bor i) ∧ ρ[i]? = some (some (Cl.own f false l)) := by
  cases io with
  | none => simp only [ioSlot, Option.some.injEq] at h; subst h; exact .inl ⟨rfl, rfl⟩
  | some j =>
    simp only [ioSlot] at h
    split at h
    · rename_i i e1
      split at h
      · rename_i f l e2
        cases h
        exact .inr ⟨j, i, f, l, rfl, rfl, e1, e2⟩
      · cases h
    · cases h
open Classical in
/-- the part that stays, with the lists of some slots -/
noncomputable def withSlots (F H : Hp) (σ : L2.St) (is : List Nat) : Hp := fun a => if ∃ i ∈ is, σ[i]? = some (some (V.ref a)) then H a else F a
theorem ws_le {is : List Nat} (le : Le F H) : Le F (withSlots F H σ is) := fun a o e => by
  unfold withSlots; split
  · exact le _ _ e
  · exact e
theorem ws_leH {is : List Nat} (le : Le F H) : Le (withSlots F H σ is) H := fun a o e => by
  unfold withSlots at e; split at e
  · exact e
  · exact le _ _ e
theorem ws_at {is : List Nat} {i : Nat} {p : Addr} (hi : i ∈ is) (hp : σ[i]? = some (some (V.ref p))) : withSlots F H σ is p = H p := by
  unfold withSlots; rw [if_pos ⟨i, hi, hp⟩]
theorem seq_len : ∀ {ms : List EvO} {ρ ρ' : En} {os : List Opd}, seqO ms ρ = some (os, ρ') → os.length = ms.length
  | [], ρ, ρ', os, h => by simp only [seqO, Option.some.injEq, Prod.mk.injEq] at h; rw [← h.1]; rfl
  | m :: r, ρ, ρ', os, h => by
    simp only [seqO] at h
    split at h
    · split at h
      · rename_i os' ρ2 e2
        cases h
        simp [seq_len e2]
      · cases h
    · cases h
theorem of_bors : ∀ {os : List Opd} {k : Nat} {io : Option Nat} {i : Nat}, i ∈ borsO k io os → ∃ j : Nat, os[j]? = some (Opd.bor i)
  | [], _, _, _, h => by cases h
  | .bor i' :: r, k, io, i, h => by
    simp only [borsO] at h
    split at h
    · obtain ⟨j, q⟩ := of_bors h
      exact ⟨j + 1, by simpa using q⟩
    · rcases List.mem_cons.mp h with rfl | h
      · exact ⟨0, rfl⟩
      · obtain ⟨j, q⟩ := of_bors h
        exact ⟨j + 1, by simpa using q⟩
  | .d _ :: r, k, io, i, h => by
    simp only [borsO] at h
    obtain ⟨j, q⟩ := of_bors h
    exact ⟨j + 1, by simpa using q⟩
/-- the arguments of a call, read in a part G that stays -/
theorem callIn_of {G : Hp} {os : List Opd} {vs : List V} {ds : List PyData} {io : Option Nat} {sl : Option (Nat × Bool)} (S : Sit K B F σ H ρ) (k : OpsOk K F σ vs os) (e2 : rsvs ρ os = some ds) (e3 : ioSlot ρ os io = some sl)
    (leF : Le F G) (le : Le G H) (hbor : ∀ (i : Nat) (v : V) (d : PyData), i ∈ borsO 0 io os → σ[i]? = some (some v) → rsv ρ (.bor i) = some d → Rp K G v d)
    (hio : ∀ (i : Nat) (f : Bool) (p : Addr), sl = some (i, f) → σ[i]? = some (some (V.ref p)) → G p = none) : CallIn K G H io vs ds := by
  have hvl := ops_len k
  have hdl := rsvs_len e2
  refine ⟨le, by rw [hvl, hdl], fun i v d hv hd hi => ?_, fun j hj => ?_⟩
  · obtain ⟨o, ho, ko⟩ := ops_get k hv
    obtain ⟨d', h1, h2⟩ := rsvs_get e2 ho
    rw [hd] at h1; cases h1
    cases o with
    | d d' => exact (show Rp K F v d by simp only [rsv, Option.some.injEq] at h2; subst h2; exact ko).mono leF
    | bor i' => exact hbor i' v d (mem_bors ho (by rw [Nat.zero_add]; exact hi)) ko h2
  · rcases ioSlot_inv e3 with ⟨rfl, _⟩ | ⟨j', i, f, l, rfl, rfl, h1, h2⟩
    · cases hj
    · cases hj
      obtain ⟨p, xs, q1, q2, q3, q4, _⟩ := S.own i _ _ _ h2
      have hjl : j < vs.length := by rw [hvl]; exact (List.getElem?_eq_some_iff.mp h1).1
      obtain ⟨o, ho, ko⟩ := ops_get k (List.getElem?_eq_getElem hjl)
      rw [h1] at ho; cases ho
      have ko : σ[i]? = some (some vs[j]) := ko
      rw [q1] at ko
      obtain ⟨d', h3, h4⟩ := rsvs_get e2 h1
      simp only [rsv, h2, Option.some.injEq] at h4
      subst h4
      exact ⟨p, xs, l, by rw [List.getElem?_eq_getElem hjl]; exact (Option.some.inj ko).symm, h3, q2, hio i f p rfl q1, q4.mono leF⟩
theorem put_own {out : List PyData} {sl : Option (Nat × Bool)} {io : Option Nat} {os : List Opd} (e3 : ioSlot ρ os io = some sl) {ρ2 : En} (same : ∀ (i : Nat) (f : Bool), sl = some (i, f) → ρ2[i]? = ρ[i]?) :
    ∀ (i : Nat) (f e : Bool) (l : List PyData), (ioPut ρ2 out sl)[i]? = some (some (Cl.own f e l)) → ∃ (f e : Bool) (l : List PyData), ρ2[i]? = some (some (Cl.own f e l)) := by
  intro i f e l h
  rcases ioSlot_inv e3 with ⟨rfl, rfl⟩ | ⟨j', i', f', l', rfl, rfl, h1, h2⟩
  · exact ⟨f, e, l, h⟩
  · have h : (ρ2.set i' (some (Cl.own f' false out)))[i]? = some (some (Cl.own f e l)) := h
    by_cases hi : i' = i
    · subst hi; exact ⟨f', false, l', by rw [same i' f' rfl]; exact h2⟩
    · rw [List.getElem?_set_ne hi] at h; exact ⟨f, e, l, h⟩
theorem call_e {cf : CF} {f n : Nat} {io : Option Nat} {ms : List EvO} (hn : ms.length = n) {E : XK} {Q : VK} (q : dE K B (callE cf f io ms) σ H Q) : tCall (spD K n (cf f)) [] E (dOs K B ms) σ H Q := by
  obtain ⟨F, ρ, r, ρ', S, hm, q⟩ := q
  simp only [callE] at hm
  split at hm
  case h_2 => cases hm
  rename_i os ρ1 e1
  split at hm
  case h_2 => cases hm
  rename_i ds sl e2 e3
  split at hm
  case isFalse => cases hm
  rename_i hb
  split at hm
  case h_2 => cases hm
  rename_i r' out e4
  have hno : os.length = n := by rw [seq_len e1, hn]
  have hb' : ∀ i ∈ borsO 0 io os, sl.map (·.1) ≠ some i := fun i hi => of_decide_eq_true (List.all_eq_true.mp hb i hi)
  refine ⟨F, ρ, os, ρ1, S, e1, fun vs F1 H1 le1 S1 k1 => ?_⟩
  have hvl := ops_len k1
  show spD K n (cf f) (vs ++ []) H1 Q E
  rw [List.append_nil]
  split at hm
  · -- a scalar comes back: what was lent stays one's own
    rename_i hs
    cases hm
    have hs := Bool.and_eq_true_iff.mp hs
    have inn : CallIn K (withSlots F1 H1 σ (borsO 0 io os)) H1 io vs ds := by
      refine callIn_of S1 k1 e2 e3 (ws_le S1.le) (ws_leH S1.le) (fun i v d hi hv hd => ?_) (fun i f p hsl hp => ?_)
      · rcases rsv_ok S1 (show OpOk K F1 σ v (.bor i) from hv) hd with r | ⟨p, xs, l, rfl, rfl, hp, r, _⟩
        · exact r.mono (ws_le S1.le)
        · exact .lst (by rw [ws_at hi hv]; exact hp) (r.mono (ws_le S1.le))
      · subst hsl
        rcases ioSlot_inv e3 with ⟨_, z⟩ | ⟨j', i', f', l', _, z, h1, h2⟩
        · cases z
        · cases z
          obtain ⟨p', xs, q1, q2, q3, q4, _⟩ := S1.own i _ _ _ h2
          rw [hp] at q1; cases q1
          unfold withSlots
          rw [if_neg]
          · exact q3
          · rintro ⟨i2, hi2, z⟩
            have hne : i2 ≠ i := fun e => hb' i2 hi2 (by rw [e]; rfl)
            obtain ⟨j2, hj2⟩ := of_bors hi2
            obtain ⟨d2, _, h4⟩ := rsvs_get e2 hj2
            simp only [rsv] at h4
            split at h4
            · rename_i f2 e5 l2 h5
              exact hne (S1.inj _ _ _ _ _ _ _ _ _ h5 h2 z hp)
            · cases h4
    refine ⟨_, io, ds, r, out, by rw [hvl, hno], inn, e4, fun v F' H' co => ?_⟩
    have rv : ∃ d, r = .val d ∧ scalD d = true := by
      cases r with
      | val d => exact ⟨d, rfl, hs.1⟩
      | new l => cases hs.1
    obtain ⟨d, rfl, hd⟩ := rv
    have rr : ResOk K B F1 σ H' (ioPut ρ1 out sl) v (.val d) := rp_scal (show Rp K F' v d from co.ret) hd F1
    rcases ioSlot_inv e3 with ⟨rfl, rfl⟩ | ⟨j, i, f, l, rfl, rfl, h1, h2⟩
    · have old : ∀ a o, H1 a = some o → H' a = some o := fun a o e => co.old a o e fun j z => by cases z
      exact q v F1 H' le1 (S1.called Le.refl (fun a o e => old a o (S1.le a o e)) (fun a o e => .inl e) old) rr
    · obtain ⟨p, xs, q1, q2, q3, q4⟩ := co.ior j rfl
      obtain ⟨p0, xs0, l0, z1, z2, z3, z4, z5⟩ := inn.ior j rfl
      rw [q1] at z1; cases z1
      have hjl : j < vs.length := by rw [hvl]; exact (List.getElem?_eq_some_iff.mp h1).1
      obtain ⟨o, ho, ko⟩ := ops_get k1 q1
      rw [h1] at ho; cases ho
      have ko : σ[i]? = some (some (V.ref p)) := ko
      have old : ∀ a o, H1 a = some o → a ≠ p → H' a = some o := fun a o e ha => co.old a o e fun j' z => by
        cases z
        rw [q1]
        intro w; cases w; exact ha rfl
      have f1p : F1 p = none := by
        obtain ⟨p', xs', y1, y2, y3, _⟩ := S1.own i _ _ _ h2
        rw [ko] at y1; cases y1; exact y3
      exact q v F1 H' le1 (S1.calledIo h2 ko Le.refl (fun a o e => old a o (S1.le a o e) fun z => by subst z; rw [f1p] at e; cases e) (fun a o e => .inl e) old q2 f1p (rps_scal q4 hs.2 F1)) rr
  · -- what was lent is let go
    split at hm
    case h_2 => cases hm
    rename_i ρ2 e5
    cases hm
    obtain ⟨F2, le2, S2⟩ := S1.freezeAll e5
    have same : ∀ (i : Nat) (f : Bool), sl = some (i, f) → ρ2[i]? = ρ1[i]? := fun i f z => freeze_other e5 fun hi => hb' i hi (by rw [z]; rfl)
    have inn : CallIn K F2 H1 io vs ds := by
      refine callIn_of S1 k1 e2 e3 le2 S2.le (fun i v d hi hv hd => ?_) (fun i f p hsl hp => ?_)
      · obtain ⟨v', h1, h2⟩ := S2.val i d (freeze_at e5 hi hd)
        rw [hv] at h1; cases h1
        exact h2
      · rcases ioSlot_inv e3 with ⟨_, z⟩ | ⟨j', i', f', l', _, z, h1, h2⟩
        · rw [hsl] at z; cases z
        · rw [hsl] at z; cases z
          have h2' : ρ2[i]? = some (some (Cl.own f false l')) := by rw [same i f hsl]; exact h2
          obtain ⟨p', xs, q1, q2, q3, q4, _⟩ := S2.own i _ _ _ h2'
          rw [hp] at q1; cases q1
          exact q3
    refine ⟨_, io, ds, r, out, by rw [hvl, hno], inn, e4, fun v F' H' co => ?_⟩
    rcases ioSlot_inv e3 with ⟨rfl, rfl⟩ | ⟨j, i, f, l, rfl, rfl, h1, h2⟩
    · have old : ∀ a o, H1 a = some o → H' a = some o := fun a o e => co.old a o e fun j z => by cases z
      have S3 := S2.called co.leF co.le co.newF old
      exact q v F' H' ((le1.trans le2).trans co.leF) S3 (ret_res S2 S3 co.ret fun i f e l h => ⟨f, e, l, h⟩)
    · obtain ⟨p, xs, q1, q2, q3, q4⟩ := co.ior j rfl
      obtain ⟨o, ho, ko⟩ := ops_get k1 q1
      rw [h1] at ho; cases ho
      have ko : σ[i]? = some (some (V.ref p)) := ko
      have old : ∀ a o, H1 a = some o → a ≠ p → H' a = some o := fun a o e ha => co.old a o e fun j' z => by
        cases z
        rw [q1]
        intro w; cases w; exact ha rfl
      have h2' : ρ2[i]? = some (some (Cl.own f false l)) := by rw [same i f rfl]; exact h2
      have S3 := S2.calledIo h2' ko co.leF co.le co.newF old q2 q3 q4
      exact q v F' H' ((le1.trans le2).trans co.leF) S3 (ret_res S2 S3 co.ret (put_own e3 same))
end
end Ev
namespace Ev
open PySem PySem.Spec PyProof.Rows L2

section
variable {X : Cx} {K : PySem.W.Frag} {B : Bs} {F F' H H' : Hp} {σ : L2.St} {ρ : En} {v : V}
theorem Sit.ext (S : Sit K B F σ H ρ) (x : Ext F H F' H') : Le F F' ∧ Sit K B F' σ H' ρ := by
  rcases x with ⟨rfl, rfl⟩ | ⟨p, o, hp, rfl, rfl⟩
  · exact ⟨Le.refl, S⟩
  · exact ⟨Le.upd (S.fnone hp), S.both hp o⟩

def FreeV (ρ : En) (i : Nat) : Prop := ρ[i]? = some none ∨ (∃ d, ρ[i]? = some (some (Cl.val d))) ∨ ∃ l, ρ[i]? = some (some (Cl.own false false l))
theorem setV_inv {i : Nat} {c : Cl} {ρ' : En} (h : setV i c ρ = some ρ') : FreeV ρ i ∧ ρ' = ρ.set i (some c) := by
  unfold setV at h
  split at h
  · cases h; exact ⟨.inl (by assumption), rfl⟩
  · cases h; exact ⟨.inr (.inl ⟨_, by assumption⟩), rfl⟩
  · cases h; exact ⟨.inr (.inr ⟨_, by assumption⟩), rfl⟩
  · cases h
theorem FreeV.lt {i : Nat} (h : FreeV ρ i) : i < ρ.length := by
  rcases h with h | ⟨_, h⟩ | ⟨_, h⟩ <;> exact (List.getElem?_eq_some_iff.mp h).1
theorem FreeV.nofix {i : Nat} {e : Bool} {l : List PyData} (h : FreeV ρ i) : ρ[i]? ≠ some (some (Cl.own true e l)) := by
  intro z
  rcases h with h | ⟨_, h⟩ | ⟨_, h⟩ <;> rw [h] at z <;> cases z
theorem FreeV.nolent {i : Nat} {f : Bool} {l : List PyData} (h : FreeV ρ i) : ρ[i]? ≠ some (some (Cl.own f true l)) := by
  intro z
  rcases h with h | ⟨_, h⟩ | ⟨_, h⟩ <;> rw [h] at z <;> cases z
theorem Sit.store (S : Sit K B F σ H ρ) {i : Nat} (hf : FreeV ρ i) {r : Rs} (h : ResOk K B F σ H ρ v r) : Sit K B F (σ.set i (some v)) H (ρ.set i (some r.cl)) := by
  have hlt := hf.lt
  have hσ : i < σ.length := by rw [← S.len]; exact hlt
  have gs : ∀ {j : Nat} {c : Cl}, (ρ.set i (some r.cl))[j]? = some (some c) → (j = i ∧ c = r.cl) ∨ (j ≠ i ∧ ρ[j]? = some (some c)) := fun {j c} e => by
    by_cases hj : i = j
    · subst hj; rw [List.getElem?_set_self hlt] at e; cases e; exact .inl ⟨rfl, rfl⟩
    · rw [List.getElem?_set_ne hj] at e; exact .inr ⟨fun z => hj z.symm, e⟩
  have vs : (σ.set i (some v))[i]? = some (some v) := List.getElem?_set_self hσ
  have vn : ∀ {j : Nat}, j ≠ i → (σ.set i (some v))[j]? = σ[j]? := fun {j} hj => List.getElem?_set_ne fun z => hj z.symm
  refine ⟨S.le, S.leF, S.newF, S.fresh, S.kept, by rw [List.length_set, List.length_set]; exact S.len, fun j d e => ?_, fun j f e' l e => ?_, fun j k f e l1 f' e' l2 q a b c d => ?_, fun j q e => ?_, fun j q f l e => ?_⟩
  · rcases gs e with ⟨ej, e2⟩ | ⟨hj, e2⟩
    · cases r with
      | val d' => cases e2; subst ej; exact ⟨v, vs, h⟩
      | new l => cases e2
    · obtain ⟨w, q1, q2⟩ := S.val j d e2
      exact ⟨w, by rw [vn hj]; exact q1, q2⟩
  · rcases gs e with ⟨ej, e2⟩ | ⟨hj, e2⟩
    · cases r with
      | val d' => cases e2
      | new l' =>
        cases e2; subst ej
        obtain ⟨p, xs, rfl, h1, h2, h3, h4, h5, _⟩ := h
        exact ⟨p, xs, vs, h1, h2, h3, h4, fun _ => h5⟩
    · obtain ⟨q, ys, q1, q2⟩ := S.own j f e' l e2
      exact ⟨q, ys, by rw [vn hj]; exact q1, q2⟩
  · rcases gs a with ⟨ej, a2⟩ | ⟨hj, a2⟩
    · rcases gs b with ⟨ek, b2⟩ | ⟨hk, b2⟩
      · rw [ej, ek]
      · cases r with
        | val d' => cases a2
        | new l' =>
          subst ej
          obtain ⟨p, xs, rfl, h1, h2, h3, h4, h5, h6⟩ := h
          rw [vs] at c; cases c
          rw [vn hk] at d
          exact absurd d (h6 k _ _ _ b2)
    · rcases gs b with ⟨ek, b2⟩ | ⟨hk, b2⟩
      · cases r with
        | val d' => cases b2
        | new l' =>
          subst ek
          obtain ⟨p, xs, rfl, h1, h2, h3, h4, h5, h6⟩ := h
          rw [vs] at d; cases d
          rw [vn hj] at c
          exact absurd c (h6 j _ _ _ a2)
      · rw [vn hj] at c
        rw [vn hk] at d
        exact S.inj _ _ _ _ _ _ _ _ _ a2 b2 c d
  · obtain ⟨q1, e1, l1, q2⟩ := S.fixd j q e
    have hj : j ≠ i := fun z => by subst z; exact hf.nofix q2
    exact ⟨by rw [vn hj]; exact q1, e1, l1, by rw [List.getElem?_set_ne (Ne.symm hj)]; exact q2⟩
  · obtain ⟨q1, q2⟩ := S.lntd j q f l e
    have hj : j ≠ i := fun z => by subst z; exact hf.nolent q2
    exact ⟨by rw [vn hj]; exact q1, by rw [List.getElem?_set_ne (Ne.symm hj)]; exact q2⟩

def dG (K : PySem.W.Frag) (B : Bs) (tg : List Nat) : TG := fun v σ H Q => ∃ F ρ d ρ', Sit K B F σ H ρ ∧ Rp K F v d ∧ bindT tg d ρ = some ρ' ∧ ∀ σ', Sit K B F σ' H ρ' → (∀ j, j ∉ tg → σ'[j]? = σ[j]?) → σ'.length = σ.length → Q σ' H
def dGs (K : PySem.W.Frag) (B : Bs) (is : List Nat) : TGs := fun vs σ H Q => ∃ F ρ ds ρ', Sit K B F σ H ρ ∧ RpAll K F vs ds ∧ setVs is ds ρ = some ρ' ∧ ∀ σ', Sit K B F σ' H ρ' → (∀ j, j ∉ is → σ'[j]? = σ[j]?) → σ'.length = σ.length → Q σ' H
theorem PGm {e : Expr} {t t' : TG} (h : PG X e t) (w : ∀ v σ H Q, t' v σ H Q → t v σ H Q) : PG X e t' := ⟨fun pins s σ H v u Q I r q => h.run pins s σ H v u Q I r (w v σ H Q q)⟩
theorem PGsm {es : List Expr} {t t' : TGs} (h : PGs X es t) (w : ∀ v σ H Q, t' v σ H Q → t v σ H Q) : PGs X es t' := ⟨fun pins s σ H v u Q I r q => h.run pins s σ H v u Q I r (w v σ H Q q)⟩
theorem dG_one {e : Expr} {i : Nat} (h : PG X e (gName i)) : PG X e (dG X.K B [i]) := PGm h fun v σ H Q q => by
  obtain ⟨F, ρ, d, ρ', S, r, hb, q⟩ := q
  obtain ⟨hf, rfl⟩ := setV_inv (show setV i (.val d) ρ = some ρ' from hb)
  refine q _ (S.store hf (r := .val d) r) (fun j hj => ?_) (List.length_set ..)
  exact List.getElem?_set_ne fun z => hj (by rw [z]; exact List.mem_cons_self)
theorem dGs_nil : PGs X [] (dGs X.K B []) := PGsm pgs_nil fun vs σ H Q q => by
  obtain ⟨F, ρ, ds, ρ', S, r, hb, q⟩ := q
  cases ds with
  | nil => simp only [setVs, Option.some.injEq] at hb; subst hb; cases r; exact ⟨rfl, q σ S (fun _ _ => rfl) rfl⟩
  | cons d ds => simp only [setVs] at hb; cases hb
theorem dGs_cons {e : Expr} {es : List Expr} {i : Nat} {is : List Nat} (h : PG X e (gName i)) (t : PGs X es (dGs X.K B is)) (hs : (assignEach (e :: es) X.env).map (·.2) = assign e X.env :: (assignEach es X.env).map (·.2)) : PGs X (e :: es) (dGs X.K B (i :: is)) :=
  PGsm (pgs_cons h t hs) fun vs σ H Q q => by
    obtain ⟨F, ρ, ds, ρ', S, r, hb, q⟩ := q
    cases ds with
    | nil => simp only [setVs] at hb; cases hb
    | cons d ds =>
      simp only [setVs] at hb
      split at hb
      · rename_i ρ1 e1
        obtain ⟨hf, rfl⟩ := setV_inv e1
        cases r with
        | cons r rr =>
          refine ⟨_, _, rfl, ?_⟩
          refine ⟨F, _, ds, ρ', S.store hf (r := .val d) r, rr, hb, fun σ' S' h1 h2 => ?_⟩
          refine q σ' S' (fun j hj => ?_) (by rw [h2, List.length_set])
          rw [h1 j fun z => hj (List.mem_cons_of_mem _ z)]
          exact List.getElem?_set_ne fun z => hj (by rw [z]; exact List.mem_cons_self)
      · cases hb
theorem bindT_tup {is : List Nat} {d : PyData} {ρ ρ' : En} (hl : is.length ≠ 1) (hb : bindT is d ρ = some ρ') : ∃ ds, d = .tuple ds ∧ ds.length = is.length ∧ setVs is ds ρ = some ρ' := by
  have go : (match (generalizing := false) d with | .tuple ds => if ds.length = is.length then setVs is ds ρ else none | _ => none) = some ρ' := by
    match is, hl with
    | [], _ => exact hb
    | _ :: _ :: _, _ => exact hb
  cases d with
  | tuple ds =>
    have go : (if ds.length = is.length then setVs is ds ρ else none) = some ρ' := go
    split at go
    · exact ⟨ds, rfl, by assumption, go⟩
    · cases go
  | _ => cases go
theorem dG_tup {e : Expr} {is : List Nat} (h : PG X e (gTup X.K is.length (dGs X.K B is))) (hl : is.length ≠ 1) : PG X e (dG X.K B is) := PGm h fun v σ H Q q => by
  obtain ⟨F, ρ, d, ρ', S, r, hb, q⟩ := q
  obtain ⟨ds, rfl, e1, hb⟩ := bindT_tup hl hb
  obtain ⟨a, xs, rfl, h1, h2⟩ := r.tup_inv
  exact ⟨a, xs, rfl, S.le.sqT h1, by rw [h2.length, e1], F, ρ, ds, ρ', S, h2, hb, q⟩

def lendB (B : Bs) (i : Nat) (p : Addr) (f : Bool) (l : List PyData) : Bs := { B with ln := fun j => if j = i then some (p, f, l) else B.ln j }
theorem Sit.lend (S : Sit K B F σ H ρ) {i : Nat} {f e : Bool} {l : List PyData} (h : ρ[i]? = some (some (Cl.own f e l))) : ∃ p, σ[i]? = some (some (V.ref p)) ∧ Sit K (lendB B i p f l) F σ H (ρ.set i (some (.own f true l))) := by
  obtain ⟨p, xs, h1, h2⟩ := S.own i _ _ _ h
  have hlt : i < ρ.length := (List.getElem?_eq_some_iff.mp h).1
  have gs : ∀ {j : Nat} {c : Cl}, (ρ.set i (some (Cl.own f true l)))[j]? = some (some c) → (j = i ∧ c = .own f true l) ∨ (j ≠ i ∧ ρ[j]? = some (some c)) := fun {j c} e => by
    by_cases hj : i = j
    · subst hj; rw [List.getElem?_set_self hlt] at e; cases e; exact .inl ⟨rfl, rfl⟩
    · rw [List.getElem?_set_ne hj] at e; exact .inr ⟨fun z => hj z.symm, e⟩
  refine ⟨p, h1, S.le, S.leF, S.newF, S.fresh, S.kept, by rw [List.length_set]; exact S.len, fun j d z => ?_, fun j f1 e' l1 z => ?_, fun j k f1 e1 l1 f' e' l2 q a b c d => ?_, fun j q z => ?_, fun j q f1 l1 z => ?_⟩
  · rcases gs z with ⟨_, z⟩ | ⟨_, z⟩
    · cases z
    · exact S.val j d z
  · rcases gs z with ⟨ej, z⟩ | ⟨_, z⟩
    · cases z; subst ej; exact ⟨p, xs, h1, h2⟩
    · exact S.own j _ _ _ z
  · have own' : ∀ {j : Nat} {f1 e : Bool} {l1 : List PyData}, (ρ.set i (some (Cl.own f true l)))[j]? = some (some (Cl.own f1 e l1)) → ∃ (f e : Bool) (l : List PyData), ρ[j]? = some (some (Cl.own f e l)) := @fun j f1 e l z => by
      rcases gs z with ⟨ej, _⟩ | ⟨_, z⟩
      · subst ej; exact ⟨_, _, _, h⟩
      · exact ⟨_, _, _, z⟩
    obtain ⟨_, _, _, a'⟩ := own' a
    obtain ⟨_, _, _, b'⟩ := own' b
    exact S.inj _ _ _ _ _ _ _ _ _ a' b' c d
  · obtain ⟨q1, e1, l1, q2⟩ := S.fixd j q z
    refine ⟨q1, ?_⟩
    by_cases hj : i = j
    · subst hj; rw [h] at q2; cases q2; exact ⟨true, l, List.getElem?_set_self hlt⟩
    · exact ⟨e1, l1, by rw [List.getElem?_set_ne hj]; exact q2⟩
  · have z : (if j = i then some (p, f, l) else B.ln j) = some (q, f1, l1) := z
    split at z
    · rename_i hj
      cases z
      subst hj
      exact ⟨h1, List.getElem?_set_self hlt⟩
    · rename_i hj
      obtain ⟨q1, q2⟩ := S.lntd j q f1 l1 z
      exact ⟨q1, by rw [List.getElem?_set_ne (Ne.symm hj)]; exact q2⟩
theorem Sit.unlend {i : Nat} {f e : Bool} {l : List PyData} {p : Addr} (hB : ∀ q f' l', B.ln i = some (q, f', l') → q = p ∧ f' = f ∧ l' = l ∧ e = true) (S : Sit K (lendB B i p f l) F σ H ρ) : Sit K B F σ H (unlendE i e ρ) := by
  obtain ⟨h1, h⟩ := S.lntd i p f l (by show (if i = i then some (p, f, l) else B.ln i) = _; rw [if_pos rfl])
  have hlt : i < ρ.length := (List.getElem?_eq_some_iff.mp h).1
  have eu : unlendE i e ρ = ρ.set i (some (.own f e l)) := by unfold unlendE; rw [h]
  rw [eu]
  have gs : ∀ {j : Nat} {c : Cl}, (ρ.set i (some (Cl.own f e l)))[j]? = some (some c) → (j = i ∧ c = .own f e l) ∨ (j ≠ i ∧ ρ[j]? = some (some c)) := fun {j c} e => by
    by_cases hj : i = j
    · subst hj; rw [List.getElem?_set_self hlt] at e; cases e; exact .inl ⟨rfl, rfl⟩
    · rw [List.getElem?_set_ne hj] at e; exact .inr ⟨fun z => hj z.symm, e⟩
  refine ⟨S.le, S.leF, S.newF, S.fresh, S.kept, by rw [List.length_set]; exact S.len, fun j d z => ?_, fun j f1 e' l1 z => ?_, fun j k f1 e1 l1 f' e' l2 q a b c d => ?_, fun j q z => ?_, fun j q f1 l1 z => ?_⟩
  · rcases gs z with ⟨_, z⟩ | ⟨_, z⟩
    · cases z
    · exact S.val j d z
  · rcases gs z with ⟨ej, z⟩ | ⟨_, z⟩
    · cases z; subst ej; exact S.own _ _ _ _ h
    · exact S.own j _ _ _ z
  · have own' : ∀ {j : Nat} {f1 e1 : Bool} {l1 : List PyData}, (ρ.set i (some (Cl.own f e l)))[j]? = some (some (Cl.own f1 e1 l1)) → ∃ (f e : Bool) (l : List PyData), ρ[j]? = some (some (Cl.own f e l)) := @fun j f1 e l z => by
      rcases gs z with ⟨ej, _⟩ | ⟨_, z⟩
      · subst ej; exact ⟨_, _, _, h⟩
      · exact ⟨_, _, _, z⟩
    obtain ⟨_, _, _, a'⟩ := own' a
    obtain ⟨_, _, _, b'⟩ := own' b
    exact S.inj _ _ _ _ _ _ _ _ _ a' b' c d
  · obtain ⟨q1, e1, l1, q2⟩ := S.fixd j q z
    refine ⟨q1, ?_⟩
    by_cases hj : i = j
    · subst hj; rw [h] at q2; cases q2; exact ⟨e, l, List.getElem?_set_self hlt⟩
    · exact ⟨e1, l1, by rw [List.getElem?_set_ne hj]; exact q2⟩
  · by_cases hj : j = i
    · subst hj
      obtain ⟨rfl, rfl, rfl, rfl⟩ := hB q f1 l1 z
      exact ⟨h1, List.getElem?_set_self hlt⟩
    · obtain ⟨q1, q2⟩ := S.lntd j q f1 l1 (by show (if j = i then some (p, f, l) else B.ln j) = _; rw [if_neg hj]; exact z)
      exact ⟨q1, by rw [List.getElem?_set_ne (Ne.symm hj)]; exact q2⟩
/-- lent, or not -/
inductive LentTo (B : Bs) : Bs → Option (Nat × Bool) → Prop
  | no : LentTo B B none
  | yes (i : Nat) (e : Bool) (p : Addr) (f : Bool) (l : List PyData) (h : ∀ q f' l', B.ln i = some (q, f', l') → q = p ∧ f' = f ∧ l' = l ∧ e = true) : LentTo B (lendB B i p f l) (some (i, e))
theorem LentTo.back {B' : Bs} {o : Option (Nat × Bool)} (h : LentTo B B' o) (S : Sit K B' F σ H ρ) : Sit K B F σ H (backE o ρ) := by
  cases h with
  | no => exact S
  | yes i e p f l h => exact S.unlend h
theorem LentTo.weak {B' : Bs} {o : Option (Nat × Bool)} (h : LentTo B B' o) (S : Sit K B' F σ H ρ) (hl : ∀ i q f l, B.ln i = some (q, f, l) → B'.ln i = some (q, f, l)) : Sit K B F σ H ρ := by
  cases h with
  | no => exact S
  | yes i e p f l h => exact ⟨S.le, S.leF, S.newF, S.fresh, S.kept, S.len, S.val, S.own, S.inj, S.fixd, fun j q f' l' z => S.lntd j q f' l' (hl j q f' l' z)⟩
theorem LentTo.keeps {B' : Bs} {o : Option (Nat × Bool)} (h : LentTo B B' o) : ∀ i q f l, B.ln i = some (q, f, l) → B'.ln i = some (q, f, l) := by
  cases h with
  | no => exact fun _ _ _ _ z => z
  | yes i e p f l h =>
    intro j q f' l' z
    show (if j = i then some (p, f, l) else B.ln j) = _
    by_cases hj : j = i
    · subst hj
      obtain ⟨rfl, rfl, rfl, _⟩ := h q f' l' z
      rw [if_pos rfl]
    · rw [if_neg hj]; exact z
theorem LentTo.kp {B' : Bs} {o : Option (Nat × Bool)} (h : LentTo B B' o) : B'.kp = B.kp ∧ B'.fr = B.fr ∧ B'.F0 = B.F0 ∧ B'.fx = B.fx := by
  cases h <;> exact ⟨rfl, rfl, rfl, rfl⟩

def Walks (K : PySem.W.Frag) (B : Bs) (J : It) (l : List PyData) (F0 : Hp) : Prop := ∀ (B2 : Bs), B2.ln = B.ln → ∀ (F : Hp) (σ : L2.St) (H : Hp) (ρ : En), Le F0 F → Sit K B2 F σ H ρ → J.stop l.length H ∧
  ∀ (i : Nat) (d : PyData), l[i]? = some d → J.go i H ∧ ∀ x H', J.yld i H x H' → ∃ F', Ext F H F' H' ∧ Rp K F' x d
def dI (K : PySem.W.Frag) (B : Bs) (s : EvS) : TI := fun σ H R => ∃ F ρ l ρ' o, Sit K B F σ H ρ ∧ s ρ = some (l, ρ', o) ∧ ∀ J F' H' B', Le F F' → LentTo B B' o → Sit K B' F' σ H' ρ' → Walks K B' J l F' → R J H'
theorem PIm {tg it : Expr} {t t' : TI} (h : PI X tg it t) (w : ∀ σ H R, t' σ H R → t σ H R) : PI X tg it t' := ⟨fun pins s σ H R I q => h.run pins s σ H R I (w σ H R q)⟩
theorem walks_list {B' : Bs} {a : Addr} {xs : List V} {l : List PyData} (h : SqL K F a xs) (r : RpAll K F xs l) : Walks K B' (Itl K a) l F := by
  intro B2 eB F2 σ H ρ le S
  have hq := S.le.sqL (le.sqL h)
  refine ⟨⟨xs, hq, Nat.le_of_eq r.length⟩, fun i d hd => ?_⟩
  obtain ⟨v, hv, rv⟩ := r.get hd
  refine ⟨⟨xs, v, hq, hv⟩, fun x H' y => ?_⟩
  obtain ⟨rfl, y⟩ := y
  have := y xs hq
  rw [hv] at this; cases this
  exact ⟨F2, .inl ⟨rfl, rfl⟩, rv.mono le⟩
theorem walks_tup {B' : Bs} {a : Addr} {xs : List V} {l : List PyData} (h : SqT K F a xs) (r : RpAll K F xs l) : Walks K B' (Itt K a) l F := by
  intro B2 eB F2 σ H ρ le S
  have hq := S.le.sqT (le.sqT h)
  refine ⟨⟨xs, hq, Nat.le_of_eq r.length⟩, fun i d hd => ?_⟩
  obtain ⟨v, hv, rv⟩ := r.get hd
  refine ⟨⟨xs, v, hq, hv⟩, fun x H' y => ?_⟩
  obtain ⟨rfl, y⟩ := y
  have := y xs hq
  rw [hv] at this; cases this
  exact ⟨F2, .inl ⟨rfl, rfl⟩, rv.mono le⟩
theorem walks_lent {i : Nat} {p : Addr} {f : Bool} {l : List PyData} : Walks K (lendB B i p f l) (Itl K p) l F := by
  intro B2 eB F2 σ H ρ le S
  obtain ⟨h1, h⟩ := S.lntd i p f l (by rw [eB]; show (if i = i then some (p, f, l) else B.ln i) = _; rw [if_pos rfl])
  obtain ⟨p', xs, q1, q2, q3, r, _⟩ := S.own i _ _ _ h
  rw [h1] at q1; cases q1
  refine ⟨⟨xs, SqL.of q2, Nat.le_of_eq r.length⟩, fun i d hd => ?_⟩
  obtain ⟨v, hv, rv⟩ := r.get hd
  refine ⟨⟨xs, v, SqL.of q2, hv⟩, fun x H' y => ?_⟩
  obtain ⟨rfl, y⟩ := y
  have := y xs (SqL.of q2)
  rw [hv] at this; cases this
  exact ⟨F2, .inl ⟨rfl, rfl⟩, rv⟩
theorem walks_rng {B' : Bs} {i j : Int} : Walks K B' (Itr i (j - i).toNat) (rngD i j) F := by
  intro B2 eB F2 σ H ρ le S
  have hl : (rngD i j).length = (j - i).toNat := by unfold rngD; rw [List.length_map, List.length_range]
  refine ⟨Nat.le_of_eq hl.symm, fun k d hd => ?_⟩
  have hk : k < (j - i).toNat := by rw [← hl]; exact (List.getElem?_eq_some_iff.mp hd).1
  refine ⟨hk, fun x H' y => ?_⟩
  obtain ⟨rfl, rfl⟩ := y
  have e : d = PyData.int (i + (k : Nat)) := by
    unfold rngD at hd
    rw [List.getElem?_map, List.getElem?_range hk] at hd
    exact (Option.some.inj hd).symm
  subst e
  exact ⟨F2, .inl ⟨rfl, rfl⟩, .int _⟩
theorem enmD_get : ∀ {l : List PyData} {n k : Nat} {d : PyData}, (enmD n l)[k]? = some d → ∃ e, l[k]? = some e ∧ d = .tuple [.int ((n + k : Nat) : Int), e]
  | [], n, k, d, h => by simp [enmD] at h
  | a :: r, n, 0, d, h => by simp [enmD] at h; subst h; exact ⟨a, rfl, rfl⟩
  | a :: r, n, k + 1, d, h => by
    obtain ⟨e, h1, h2⟩ := enmD_get (l := r) (n := n + 1) (k := k) (by simpa [enmD] using h)
    exact ⟨e, by simpa using h1, by rw [h2, Nat.add_assoc, Nat.add_comm 1 k]⟩
theorem enmD_len : ∀ {l : List PyData} {n : Nat}, (enmD n l).length = l.length
  | [], _ => rfl
  | _ :: r, n => by simp [enmD, enmD_len (l := r)]
theorem walks_enm {B' : Bs} {a : Addr} {xs : List V} {l : List PyData} (h : SqL K F a xs) (r : RpAll K F xs l) : Walks K B' (Ite K a) (enmD 0 l) F := by
  intro B2 eB F2 σ H ρ le S
  have hq := S.le.sqL (le.sqL h)
  refine ⟨⟨xs, hq, by rw [enmD_len]; exact Nat.le_of_eq r.length⟩, fun i d hd => ?_⟩
  obtain ⟨e, he, rfl⟩ := enmD_get hd
  obtain ⟨v, hv, rv⟩ := r.get he
  refine ⟨⟨xs, v, hq, hv⟩, fun x H' y => ?_⟩
  obtain ⟨T, x', rfl, hT, rfl, y⟩ := y
  have := y xs hq
  rw [hv] at this; cases this
  refine ⟨upd F2 T (.tup [.int (i : Nat), v]), .inr ⟨T, _, hT, rfl, rfl⟩, .tup (.inl (.inl upd_same)) (.cons (by rw [Nat.zero_add]; exact .int _) (.cons (rv.mono (le.trans (Le.upd (S.fnone hT)))) .nil))⟩
theorem zipD_get : ∀ {l m : List PyData} {k : Nat} {d : PyData}, (zipD l m)[k]? = some d → ∃ a b, l[k]? = some a ∧ m[k]? = some b ∧ d = .tuple [a, b]
  | a :: r, b :: s, 0, d, h => by simp [zipD] at h; subst h; exact ⟨a, b, rfl, rfl, rfl⟩
  | a :: r, b :: s, k + 1, d, h => by
    obtain ⟨x, y, h1, h2, h3⟩ := zipD_get (l := r) (m := s) (k := k) (by simpa [zipD] using h)
    exact ⟨x, y, by simpa using h1, by simpa using h2, h3⟩
  | [], m, k, d, h => by simp [zipD] at h
  | a :: r, [], k, d, h => by simp [zipD] at h
theorem zipD_len : ∀ {l m : List PyData}, (zipD l m).length = min l.length m.length
  | a :: r, b :: s => by simp [zipD, zipD_len (l := r) (m := s)]
  | [], m => by simp [zipD]
  | a :: r, [] => by simp [zipD]
theorem walks_enmT {B' : Bs} {a : Addr} {xs : List V} {l : List PyData} (h : SqT K F a xs) (r : RpAll K F xs l) : Walks K B' (IteT K a) (enmD 0 l) F := by
  intro B2 eB F2 σ H ρ le S
  have hq := S.le.sqT (le.sqT h)
  refine ⟨⟨xs, hq, by rw [enmD_len]; exact Nat.le_of_eq r.length⟩, fun i d hd => ?_⟩
  obtain ⟨e, he, rfl⟩ := enmD_get hd
  obtain ⟨v, hv, rv⟩ := r.get he
  refine ⟨⟨xs, v, hq, hv⟩, fun x H' y => ?_⟩
  obtain ⟨T, x', rfl, hT, rfl, y⟩ := y
  have := y xs hq
  rw [hv] at this; cases this
  refine ⟨upd F2 T (.tup [.int (i : Nat), v]), .inr ⟨T, _, hT, rfl, rfl⟩, .tup (.inl (.inl upd_same)) (.cons (by rw [Nat.zero_add]; exact .int _) (.cons (rv.mono (le.trans (Le.upd (S.fnone hT)))) .nil))⟩
theorem walks_zipL {B' : Bs} {a b : Addr} {xs ys : List V} {l m : List PyData} (h : SqL K F a xs) (r : RpAll K F xs l) (h' : SqL K F b ys) (r' : RpAll K F ys m) : Walks K B' (Itz K a b) (zipD l m) F := by
  intro B2 eB F2 σ H ρ le S
  have hq := S.le.sqL (le.sqL h)
  have hq' := S.le.sqL (le.sqL h')
  refine ⟨⟨xs, ys, hq, hq', by rw [zipD_len, r.length, r'.length]; omega⟩, fun i d hd => ?_⟩
  obtain ⟨e, e', he, he', rfl⟩ := zipD_get hd
  obtain ⟨v, hv, rv⟩ := r.get he
  obtain ⟨v', hv', rv'⟩ := r'.get he'
  refine ⟨⟨xs, ys, v, v', hq, hq', hv, hv'⟩, fun x H' y => ?_⟩
  obtain ⟨T, x1, x2, rfl, hT, rfl, y1, y2⟩ := y
  have q1 := y1 xs hq
  have q2 := y2 ys hq'
  rw [hv] at q1; cases q1
  rw [hv'] at q2; cases q2
  have lf := le.trans (Le.upd (o := .tup [v, v']) (S.fnone hT))
  exact ⟨upd F2 T (.tup [v, v']), .inr ⟨T, _, hT, rfl, rfl⟩, .tup (.inl (.inl upd_same)) (.cons (rv.mono lf) (.cons (rv'.mono lf) .nil))⟩
theorem walks_zipT {B' : Bs} {a b : Addr} {xs ys : List V} {l m : List PyData} (h : SqT K F a xs) (r : RpAll K F xs l) (h' : SqT K F b ys) (r' : RpAll K F ys m) : Walks K B' (RZ.ItzT K a b) (zipD l m) F := by
  intro B2 eB F2 σ H ρ le S
  have hq := S.le.sqT (le.sqT h)
  have hq' := S.le.sqT (le.sqT h')
  refine ⟨⟨xs, ys, hq, hq', by rw [zipD_len, r.length, r'.length]; omega⟩, fun i d hd => ?_⟩
  obtain ⟨e, e', he, he', rfl⟩ := zipD_get hd
  obtain ⟨v, hv, rv⟩ := r.get he
  obtain ⟨v', hv', rv'⟩ := r'.get he'
  refine ⟨⟨xs, ys, v, v', hq, hq', hv, hv'⟩, fun x H' y => ?_⟩
  obtain ⟨T, x1, x2, rfl, hT, rfl, y1, y2⟩ := y
  have q1 := y1 xs hq
  have q2 := y2 ys hq'
  rw [hv] at q1; cases q1
  rw [hv'] at q2; cases q2
  have lf := le.trans (Le.upd (o := .tup [v, v']) (S.fnone hT))
  exact ⟨upd F2 T (.tup [v, v']), .inr ⟨T, _, hT, rfl, rfl⟩, .tup (.inl (.inl upd_same)) (.cons (rv.mono lf) (.cons (rv'.mono lf) .nil))⟩

/-- a list or a tuple, walked -/
def iSeq (K : PySem.W.Frag) (tl : TE) : TI := fun σ H R => tl σ H fun x H1 => ∃ a, x = .ref a ∧ (((∃ xs, SqL K H1 a xs) ∧ R (Itl K a) H1) ∨ ((∃ xs, SqT K H1 a xs) ∧ R (Itt K a) H1))
theorem pi_seq {tg l : Expr} {tl : TE} (hl : PE X l tl) : PI X tg l (iSeq X.K tl) := by
  refine ⟨fun pins s σ H R I h => ?_⟩
  refine thn (hl.run pins s σ H _ I h) fun v s1 ⟨x, H1, I1, r1, q1⟩ => ?_
  obtain ⟨a, e, q1⟩ := q1
  subst e
  cases r1
  rcases q1 with ⟨⟨xs, hq⟩, q⟩ | ⟨⟨xs, hq⟩, q⟩
  · obtain ⟨its, rv, p, hz⟩ := I1.list hq
    refine wpAny_pyIter_list p.isList ?_
    refine ⟨s1.heap.objs.size, [s1.heap.objs.size], _, _, H1, rfl, I1.kept (t' := s1.toks) fun b o e => Heap.get?_push_of_some _ e, turn_list a _, ⟨_, Heap.get?_push_size _ rfl, rfl, rfl⟩, fun b hb => ?_, q⟩
    have e : b = s1.heap.objs.size := by simpa using hb
    subst e
    exact I1.fpOk (Nat.le_refl _) (I1.hok.fresh (Nat.le_refl _))
  · obtain ⟨its, rv, p, hz⟩ := I1.tuple hq
    refine wpAny_pyIter_tuple (show s1.heap.IsTuple a its.toArray from p) ?_
    refine ⟨s1.heap.objs.size, [s1.heap.objs.size], _, _, H1, rfl, I1.kept (t' := s1.toks) fun b o e => Heap.get?_push_of_some _ e, turn_tuple a _, ⟨_, Heap.get?_push_size _ rfl, rfl, rfl⟩, fun b hb => ?_, q⟩
    have e : b = s1.heap.objs.size := by simpa using hb
    subst e
    exact I1.fpOk (Nat.le_refl _) (I1.hok.fresh (Nat.le_refl _))
theorem dI_seq {tg e : Expr} {m : EvO} (h : PE X e (dO X.K B m)) : PI X tg e (dI X.K B (srcSeq m)) := PIm (pi_seq h) fun σ H R q => by
  obtain ⟨F, ρ, l, ρ', o, S, hm, q⟩ := q
  simp only [srcSeq] at hm
  split at hm
  · rename_i l' ρ1 e1
    cases hm
    refine ⟨F, ρ, _, _, S, e1, fun v F1 H1 le1 S1 k1 => ?_⟩
    obtain ⟨a, xs, rfl, hp, r⟩ := Rp.list_inv k1
    exact ⟨a, rfl, .inl ⟨⟨xs, S1.le.sqL (SqL.of hp)⟩, q _ F1 H1 B le1 .no S1 (walks_list (SqL.of hp) r)⟩⟩
  · rename_i l' ρ1 e1
    cases hm
    refine ⟨F, ρ, _, _, S, e1, fun v F1 H1 le1 S1 k1 => ?_⟩
    obtain ⟨a, xs, rfl, hp, r⟩ := Rp.tup_inv k1
    exact ⟨a, rfl, .inr ⟨⟨xs, S1.le.sqT hp⟩, q _ F1 H1 B le1 .no S1 (walks_tup hp r)⟩⟩
  · rename_i i ρ1 e1
    split at hm
    · rename_i f e l' e2
      cases hm
      refine ⟨F, ρ, _, _, S, e1, fun v F1 H1 le1 S1 k1 => ?_⟩
      obtain ⟨p, hp, S2⟩ := S1.lend e2
      have k1 : σ[i]? = some (some v) := k1
      rw [hp] at k1; cases k1
      obtain ⟨p', xs, q1, q2, _⟩ := S1.own i _ _ _ e2
      rw [hp] at q1; cases q1
      refine ⟨p, rfl, .inl ⟨⟨xs, SqL.of q2⟩, q _ F1 H1 (lendB B i p f l) le1 (.yes i e p f l fun q' f' l'' z => ?_) S2 walks_lent⟩⟩
      obtain ⟨w1, w2⟩ := S1.lntd i q' f' l'' z
      rw [hp] at w1; cases w1
      rw [e2] at w2; cases w2
      exact ⟨rfl, rfl, rfl, rfl⟩
    · cases hm
  · cases hm
theorem srcG_inv {ms : List EvO} {g : List PyData → Option (List PyData)} {ρ ρ' : En} {l : List PyData} {o : Option (Nat × Bool)} (h : srcG ms g ρ = some (l, ρ', o)) : o = none ∧ ((∃ a, seqO ms ρ = some ([.d a], ρ') ∧ g [a] = some l) ∨ ∃ a b, seqO ms ρ = some ([.d a, .d b], ρ') ∧ g [a, b] = some l) := by
  simp only [srcG] at h
  split at h
  · rename_i os ρ1 e1
    split at h
    · rename_i a
      split at h
      · rename_i l' e2
        cases h
        exact ⟨rfl, .inl ⟨a, e1, e2⟩⟩
      · cases h
    · rename_i a b
      split at h
      · rename_i l' e2
        cases h
        exact ⟨rfl, .inr ⟨a, b, e1, e2⟩⟩
      · cases h
    · cases h
  · cases h
theorem ops1 {vs : List V} {a : PyData} (h : OpsOk K F σ vs [.d a]) : ∃ v, vs = [v] ∧ Rp K F v a := by
  match vs, h with
  | [v], h => exact ⟨v, rfl, h.1⟩
theorem ops2 {vs : List V} {a b : PyData} (h : OpsOk K F σ vs [.d a, .d b]) : ∃ v w, vs = [v, w] ∧ Rp K F v a ∧ Rp K F w b := by
  match vs, h with
  | [v, w], h => exact ⟨v, w, rfl, h.1, h.2.1⟩
theorem ops3 {vs : List V} {a b c : PyData} (h : OpsOk K F σ vs [.d a, .d b, .d c]) : ∃ u v w, vs = [u, v, w] ∧ Rp K F u a ∧ Rp K F v b ∧ Rp K F w c := by
  match vs, h with
  | [u, v, w], h => exact ⟨u, v, w, rfl, h.1, h.2.1, h.2.2.1⟩
theorem small62_ok {i : Int} (h : small62 i = true) : -(2 ^ 62) ≤ i ∧ i < 2 ^ 62 := of_decide_eq_true h
theorem seqO_len1 {m : EvO} {ρ ρ' : En} {a b : Opd} (h : seqO [m] ρ = some ([a, b], ρ')) : False := by
  have := seq_len h
  simp at this
theorem seqO_len2 {m n : EvO} {ρ ρ' : En} {a : Opd} (h : seqO [m, n] ρ = some ([a], ρ')) : False := by
  have := seq_len h
  simp at this
theorem dI_rng {tg e : Expr} {m : EvO} {p pos : Pos} (hg : Gl X "range") (hm : X.mg "range" = none) (h : PA X [e] (dOs X.K B [m])) (hs : starEach [e] X.env = [(false, eval e X.env)]) : PI X tg (.Call (.Name "range" p) [e] [] pos) (dI X.K B (srcG [m] gRng)) := PIm (pi_range1 hg hm h hs) fun σ H R q => by
  obtain ⟨F, ρ, l, ρ', o, S, hm, q⟩ := q
  obtain ⟨rfl, ⟨a, e1, e2⟩ | ⟨a, b, e1, _⟩⟩ := srcG_inv hm
  · unfold gRng at e2
    split at e2 <;> first | cases e2 | skip
    · rename_i j z
      cases z
      split at e2
      · rename_i hj
        cases e2
        refine ⟨F, ρ, _, _, S, e1, fun vs F1 H1 le1 S1 k1 => ?_⟩
        obtain ⟨v, rfl, r⟩ := ops1 k1
        cases r.int_inv
        have w := walks_rng (K := X.K) (B' := B) (F := F1) (i := 0) (j := j)
        rw [Int.sub_zero] at w
        exact ⟨j, rfl, (small62_ok hj).1, (small62_ok hj).2, q _ F1 H1 B le1 .no S1 w⟩
      · cases e2
    · rename_i z; cases z
  · exact (seqO_len1 e1).elim
theorem dI_rng2 {tg e e' : Expr} {m n : EvO} {p pos : Pos} (hg : Gl X "range") (hm : X.mg "range" = none) (h : PA X [e, e'] (dOs X.K B [m, n])) (hs : starEach [e, e'] X.env = [(false, eval e X.env), (false, eval e' X.env)]) (hs2 : starEach [e'] X.env = [(false, eval e' X.env)]) :
    PI X tg (.Call (.Name "range" p) [e, e'] [] pos) (dI X.K B (srcG [m, n] gRng)) := PIm (pi_range2 hg hm h hs hs2) fun σ H R q => by
  obtain ⟨F, ρ, l, ρ', o, S, hm, q⟩ := q
  obtain ⟨rfl, ⟨a, e1, _⟩ | ⟨a, b, e1, e2⟩⟩ := srcG_inv hm
  · exact (seqO_len2 e1).elim
  · unfold gRng at e2
    split at e2 <;> first | cases e2 | skip
    · rename_i z; cases z
    · rename_i i j z
      cases z
      split at e2
      · rename_i hj
        cases e2
        have hj := Bool.and_eq_true_iff.mp hj
        refine ⟨F, ρ, _, _, S, e1, fun vs F1 H1 le1 S1 k1 => ?_⟩
        obtain ⟨v, w, rfl, r, r'⟩ := ops2 k1
        cases r.int_inv
        cases r'.int_inv
        exact ⟨i, j, rfl, ⟨(small62_ok hj.1).1, (small62_ok hj.1).2, (small62_ok hj.2).1, (small62_ok hj.2).2⟩, q _ F1 H1 B le1 .no S1 walks_rng⟩
      · cases e2
theorem dI_enm {e : Expr} {elts : List Expr} {kk : Nat} {tpos : Pos} {m : EvO} {p pos : Pos} (hg : Gl X "enumerate") (hm : X.mg "enumerate" = none) (h : PA X [e] (dOs X.K B [m])) (hs : starEach [e] X.env = [(false, eval e X.env)]) :
    PI X (.Tuple elts kk tpos) (.Call (.Name "enumerate" p) [e] [] pos) (dI X.K B (srcG [m] gEnm)) := PIm (pi_enumA hg hm h hs) fun σ H R q => by
  obtain ⟨F, ρ, l, ρ', o, S, hm, q⟩ := q
  obtain ⟨rfl, ⟨a, e1, e2⟩ | ⟨a, b, e1, _⟩⟩ := srcG_inv hm
  · unfold gEnm at e2
    split at e2 <;> first | cases e2 | skip
    · rename_i l' z
      cases z
      refine ⟨F, ρ, _, _, S, e1, fun vs F1 H1 le1 S1 k1 => ?_⟩
      obtain ⟨v, rfl, r⟩ := ops1 k1
      obtain ⟨a, xs, rfl, hp, r⟩ := Rp.list_inv r
      exact ⟨a, xs, rfl, .inl ⟨S1.le.sqL (SqL.of hp), q _ F1 H1 B le1 .no S1 (walks_enm (SqL.of hp) r)⟩⟩
    · rename_i l' z
      cases z
      refine ⟨F, ρ, _, _, S, e1, fun vs F1 H1 le1 S1 k1 => ?_⟩
      obtain ⟨v, rfl, r⟩ := ops1 k1
      obtain ⟨a, xs, rfl, hp, r⟩ := Rp.tup_inv r
      exact ⟨a, xs, rfl, .inr ⟨S1.le.sqT hp, q _ F1 H1 B le1 .no S1 (walks_enmT hp r)⟩⟩
  · exact (seqO_len1 e1).elim
theorem dI_zip {e e' : Expr} {elts : List Expr} {kk : Nat} {tpos : Pos} {m n : EvO} {p pos : Pos} (hg : Gl X "zip") (hm : X.mg "zip" = none) (h : PA X [e, e'] (dOs X.K B [m, n])) (hs : starEach [e, e'] X.env = (false, eval e X.env) :: starEach [e'] X.env) (hpl : (backTo pos (starEach [e'] X.env)).any (·.1) = false) :
    PI X (.Tuple elts kk tpos) (.Call (.Name "zip" p) [e, e'] [] pos) (dI X.K B (srcG [m, n] gZip)) := PIm (RZ.pi_zipA hg hm h hs hpl) fun σ H R q => by
  obtain ⟨F, ρ, l, ρ', o, S, hm, q⟩ := q
  obtain ⟨rfl, ⟨a, e1, _⟩ | ⟨a, b, e1, e2⟩⟩ := srcG_inv hm
  · exact (seqO_len2 e1).elim
  · unfold gZip at e2
    split at e2 <;> first | cases e2 | skip
    · rename_i z
      cases z
      refine ⟨F, ρ, _, _, S, e1, fun vs F1 H1 le1 S1 k1 => ?_⟩
      obtain ⟨v, w, rfl, r, r'⟩ := ops2 k1
      obtain ⟨a, xs, rfl, hp, r⟩ := Rp.list_inv r
      obtain ⟨b, ys, rfl, hp', r'⟩ := Rp.list_inv r'
      exact ⟨a, b, xs, ys, rfl, .inl ⟨S1.le.sqL (SqL.of hp), S1.le.sqL (SqL.of hp'), q _ F1 H1 B le1 .no S1 (walks_zipL (SqL.of hp) r (SqL.of hp') r')⟩⟩
    · rename_i z
      cases z
      refine ⟨F, ρ, _, _, S, e1, fun vs F1 H1 le1 S1 k1 => ?_⟩
      obtain ⟨v, w, rfl, r, r'⟩ := ops2 k1
      obtain ⟨a, xs, rfl, hp, r⟩ := Rp.tup_inv r
      obtain ⟨b, ys, rfl, hp', r'⟩ := Rp.tup_inv r'
      exact ⟨a, b, xs, ys, rfl, .inr ⟨S1.le.sqT hp, S1.le.sqT hp', q _ F1 H1 B le1 .no S1 (walks_zipT hp r hp' r')⟩⟩
end
end Ev
namespace Ev
open PySem PySem.Spec PyProof.Rows L2

section
variable {X : Cx} {K : PySem.W.Frag} {B : Bs} {F F' H H' : Hp} {σ : L2.St} {ρ : En} {v : V}

theorem wipe_get {σ : L2.St} {vs : List Nat} {j : Nat} (h : j ∉ vs) : (wipe σ vs)[j]? = σ[j]? := by
  induction vs with
  | nil => rfl
  | cons w r ih =>
    have hw : w ≠ j := fun z => h (by rw [z]; exact List.mem_cons_self)
    show ((wipe σ r).set w none)[j]? = σ[j]?
    rw [List.getElem?_set_ne hw]
    exact ih fun z => h (List.mem_cons_of_mem _ z)
theorem wipe_at {σ : L2.St} {vs : List Nat} {j : Nat} (h : j ∈ vs) (hl : j < σ.length) : (wipe σ vs)[j]? = some none := by
  induction vs with
  | nil => cases h
  | cons w r ih =>
    show ((wipe σ r).set w none)[j]? = some none
    by_cases hw : w = j
    · subst hw; exact List.getElem?_set_self (by rw [wipe_length]; exact hl)
    · rw [List.getElem?_set_ne hw]
      exact ih ((List.mem_cons.mp h).resolve_left fun z => hw z.symm)
theorem wipeE_get {ρ : En} {vs : List Nat} {j : Nat} (h : j ∉ vs) : (wipeE ρ vs)[j]? = ρ[j]? := by
  induction vs with
  | nil => rfl
  | cons w r ih =>
    have hw : w ≠ j := fun z => h (by rw [z]; exact List.mem_cons_self)
    show ((wipeE ρ r).set w none)[j]? = ρ[j]?
    rw [List.getElem?_set_ne hw]
    exact ih fun z => h (List.mem_cons_of_mem _ z)
theorem wipeE_length {ρ : En} {vs : List Nat} : (wipeE ρ vs).length = ρ.length := by
  induction vs with
  | nil => rfl
  | cons w r ih => show ((wipeE ρ r).set w none).length = _; rw [List.length_set]; exact ih
theorem wipeE_at {ρ : En} {vs : List Nat} {j : Nat} (h : j ∈ vs) (hl : j < ρ.length) : (wipeE ρ vs)[j]? = some none := by
  induction vs with
  | nil => cases h
  | cons w r ih =>
    show ((wipeE ρ r).set w none)[j]? = some none
    by_cases hw : w = j
    · subst hw; exact List.getElem?_set_self (by rw [wipeE_length]; exact hl)
    · rw [List.getElem?_set_ne hw]
      exact ih ((List.mem_cons.mp h).resolve_left fun z => hw z.symm)
theorem restE_length {was ρ : En} {vs : List Nat} : (restE was ρ vs).length = ρ.length := by
  induction vs with
  | nil => rfl
  | cons w r ih => show ((restE was ρ r).set w _).length = _; rw [List.length_set]; exact ih
theorem restE_get {was ρ : En} {vs : List Nat} {j : Nat} (h : j ∉ vs) : (restE was ρ vs)[j]? = ρ[j]? := by
  induction vs with
  | nil => rfl
  | cons w r ih =>
    have hw : w ≠ j := fun z => h (by rw [z]; exact List.mem_cons_self)
    show ((restE was ρ r).set w _)[j]? = ρ[j]?
    rw [List.getElem?_set_ne hw]
    exact ih fun z => h (List.mem_cons_of_mem _ z)
theorem restE_at {was ρ : En} {vs : List Nat} {j : Nat} (h : j ∈ vs) (hl : j < ρ.length) : (restE was ρ vs)[j]? = some ((was[j]?).getD none) := by
  induction vs with
  | nil => cases h
  | cons w r ih =>
    show ((restE was ρ r).set w ((was[w]?).getD none))[j]? = _
    by_cases hw : w = j
    · subst hw; exact List.getElem?_set_self (by rw [restE_length]; exact hl)
    · rw [List.getElem?_set_ne hw]
      exact ih ((List.mem_cons.mp h).resolve_left fun z => hw z.symm)
theorem wipe_same {σ σ' : L2.St} {vs : List Nat} (hl : σ'.length = σ.length) (h : ∀ j, j ∉ vs → σ'[j]? = σ[j]?) : wipe σ' vs = wipe σ vs := by
  apply List.ext_getElem?
  intro j
  by_cases hj : j ∈ vs
  · by_cases hl2 : j < σ.length
    · rw [wipe_at hj hl2, wipe_at hj (by rw [hl]; exact hl2)]
    · rw [List.getElem?_eq_none (by rw [wipe_length, hl]; omega), List.getElem?_eq_none (by rw [wipe_length]; omega)]
  · rw [wipe_get hj, wipe_get hj]
    exact h j hj
/-- the comprehension's names are free of what is held -/
def Apart (B : Bs) (vs : List Nat) : Prop := ∀ j, j ∈ vs → B.fx j = none ∧ B.ln j = none
theorem Sit.wipe (S : Sit K B F σ H ρ) {vs : List Nat} (ap : Apart B vs) : Sit K B F (L2.wipe σ vs) H (wipeE ρ vs) := by
  have gs : ∀ {j : Nat} {c : Cl}, (wipeE ρ vs)[j]? = some (some c) → j ∉ vs ∧ ρ[j]? = some (some c) := fun {j c} e => by
    by_cases hj : j ∈ vs
    · by_cases hl : j < ρ.length
      · rw [wipeE_at hj hl] at e; cases e
      · rw [List.getElem?_eq_none (by rw [wipeE_length]; omega)] at e; cases e
    · rw [wipeE_get hj] at e; exact ⟨hj, e⟩
  refine ⟨S.le, S.leF, S.newF, S.fresh, S.kept, by rw [wipe_length, wipeE_length]; exact S.len, fun j d e => ?_, fun j f e' l e => ?_, fun j k f e l1 f' e' l2 q a b c d => ?_, fun j q e => ?_, fun j q f l e => ?_⟩
  · obtain ⟨hj, e⟩ := gs e
    obtain ⟨w, q1, q2⟩ := S.val j d e
    exact ⟨w, by rw [wipe_get hj]; exact q1, q2⟩
  · obtain ⟨hj, e⟩ := gs e
    obtain ⟨q, ys, q1, q2⟩ := S.own j _ _ _ e
    exact ⟨q, ys, by rw [wipe_get hj]; exact q1, q2⟩
  · obtain ⟨hj, a⟩ := gs a
    obtain ⟨hk, b⟩ := gs b
    rw [wipe_get hj] at c
    rw [wipe_get hk] at d
    exact S.inj _ _ _ _ _ _ _ _ _ a b c d
  · have hj : j ∉ vs := fun z => by rw [(ap j z).1] at e; cases e
    obtain ⟨q1, e1, l1, q2⟩ := S.fixd j q e
    exact ⟨by rw [wipe_get hj]; exact q1, e1, l1, by rw [wipeE_get hj]; exact q2⟩
  · have hj : j ∉ vs := fun z => by rw [(ap j z).2] at e; cases e
    obtain ⟨q1, q2⟩ := S.lntd j q f l e
    exact ⟨by rw [wipe_get hj]; exact q1, by rw [wipeE_get hj]; exact q2⟩
/-- while a list is made at D -/
def compB (B : Bs) (D : Addr) (acc : List V) : Bs := { B with fr := fun a => B.fr a ∧ a ≠ D, kp := fun a => if a = D then some (.lst acc) else B.kp a }
theorem Sit.compIn (S : Sit K B F σ H ρ) {D : Addr} (hD : H D = none) : Sit K (compB B D []) F σ (upd H D (.lst [])) ρ := by
  refine ⟨fun a u e => ?_, S.leF, fun a u e => ?_, fun a e => ?_, fun a u e => ?_, S.len, S.val, fun i f e' l e => ?_, S.inj, S.fixd, S.lntd⟩
  · have q := S.le _ _ e
    rw [upd_ne (ne_of_none q hD)]; exact q
  · rcases S.newF a u e with h | h
    · exact .inl h
    · exact .inr ⟨h, ne_of_none (S.le _ _ e) hD⟩
  · by_cases h : a = D
    · subst h; rw [upd_same] at e; cases e
    · rw [upd_ne h] at e; exact ⟨S.fresh _ e, h⟩
  · have e2 : (if a = D then some (HO.lst []) else B.kp a) = some u := e
    by_cases h : a = D
    · rw [if_pos h] at e2; rw [h, ← e2]; exact upd_same
    · rw [if_neg h] at e2; rw [upd_ne h]; exact S.kept _ _ e2
  · obtain ⟨q, xs, h1, h2, h3, h4, h5, h6⟩ := S.own i f e' l e
    have hq : q ≠ D := ne_of_none h2 hD
    exact ⟨q, xs, h1, by rw [upd_ne hq]; exact h2, h3, h4, by show (if q = D then _ else B.kp q) = none; rw [if_neg hq]; exact h5, fun z => ⟨h6 z, hq⟩⟩
theorem Sit.compD {D : Addr} {acc : List V} (S : Sit K (compB B D acc) F σ H ρ) : H D = some (.lst acc) := S.kept D _ (by show (if D = D then _ else B.kp D) = _; rw [if_pos rfl])
theorem Sit.compF {D : Addr} {acc : List V} (S : Sit K (compB B D acc) F σ H ρ) (h0 : B.F0 D = none) : F D = none := by
  cases e : F D with
  | none => rfl
  | some u =>
    rcases S.newF D u e with h | h
    · have h : B.F0 D = some u := h
      rw [h0] at h; cases h
    · exact absurd rfl h.2
theorem Sit.compMore {D : Addr} {acc : List V} (S : Sit K (compB B D acc) F σ H ρ) (h0 : B.F0 D = none) (acc' : List V) : Sit K (compB B D acc') F σ (upd H D (.lst acc')) ρ := by
  have fD := S.compF h0
  refine ⟨fun a u e => ?_, S.leF, S.newF, fun a e => ?_, fun a u e => ?_, S.len, S.val, fun i f e' l e => ?_, S.inj, S.fixd, S.lntd⟩
  · have hq : a ≠ D := fun z => by subst z; rw [fD] at e; cases e
    rw [upd_ne hq]; exact S.le _ _ e
  · by_cases h : a = D
    · subst h; rw [upd_same] at e; cases e
    · rw [upd_ne h] at e; exact S.fresh _ e
  · have e2 : (if a = D then some (HO.lst acc') else B.kp a) = some u := e
    by_cases h : a = D
    · rw [if_pos h] at e2; rw [h, ← e2]; exact upd_same
    · rw [if_neg h] at e2
      rw [upd_ne h]
      exact S.kept _ _ (by show (if a = D then _ else B.kp a) = _; rw [if_neg h]; exact e2)
  · obtain ⟨q, xs, h1, h2, h3, h4, h5, h6⟩ := S.own i f e' l e
    have h5 : (if q = D then some (.lst acc) else B.kp q) = none := h5
    have hq : q ≠ D := fun z => by rw [if_pos z] at h5; cases h5
    exact ⟨q, xs, h1, by rw [upd_ne hq]; exact h2, h3, h4, by show (if q = D then _ else B.kp q) = none; rw [if_neg hq] at h5 ⊢; exact h5, h6⟩
/-- the list is done: the comprehension's names are what they were -/
theorem Sit.compOut {D : Addr} {acc : List V} {vs : List Nat} {was : En} {F1 H1 : Hp} (S1 : Sit K B F1 σ H1 was) (hD1 : H1 D = none) (hv : vs.all (freeV was) = true) (leF : Le F1 F) (S : Sit K (compB B D acc) F (L2.wipe σ vs) H ρ) (ap : Apart B vs)
    {l : List PyData} (r : RpAll K F acc l) : Sit K B F σ H (restE was ρ vs) ∧ ResOk K B F σ H (restE was ρ vs) (.ref D) (.new l) := by
  have h0 : B.F0 D = none := by
    cases e : B.F0 D with
    | none => rfl
    | some u => have := S1.le _ _ (S1.leF _ _ e); rw [hD1] at this; cases this
  have kD : B.kp D = none := S1.knone hD1
  have fD := S.compF h0
  have hl : ρ.length = was.length := by
    have e1 := S.len
    have e2 := S1.len
    rw [wipe_length] at e1
    omega
  have gs : ∀ {j : Nat} {c : Cl}, (restE was ρ vs)[j]? = some (some c) → (j ∉ vs ∧ ρ[j]? = some (some c)) ∨ (j ∈ vs ∧ was[j]? = some (some c) ∧ ∃ d, c = .val d) := fun {j c} e => by
    by_cases hj : j ∈ vs
    · by_cases hlt : j < ρ.length
      · rw [restE_at hj hlt] at e
        have f := List.all_eq_true.mp hv j hj
        unfold freeV at f
        cases q : was[j]? with
        | none => rw [q] at e; cases e
        | some o =>
          rw [q] at e f
          have e : some o = some (some c) := e
          cases e
          cases c with
          | val d => exact .inr ⟨hj, rfl, d, rfl⟩
          | own a b c => cases f
      · rw [List.getElem?_eq_none (by rw [restE_length]; omega)] at e; cases e
    · rw [restE_get hj] at e; exact .inl ⟨hj, e⟩
  have own' : ∀ {j : Nat} {f e : Bool} {l : List PyData}, (restE was ρ vs)[j]? = some (some (Cl.own f e l)) → j ∉ vs ∧ ρ[j]? = some (some (Cl.own f e l)) := fun {j f e l} z => by
    rcases gs z with h | ⟨_, _, d, z⟩
    · exact h
    · cases z
  refine ⟨⟨S.le, S.leF, fun a u e => ?_, fun a e => (S.fresh a e).1, fun a u e => ?_, by rw [restE_length, hl]; exact S1.len, fun j d e => ?_, fun j f e' l e => ?_, fun j k f e l1 f' e' l2 q a b c d => ?_, fun j q e => ?_, fun j q f l e => ?_⟩, ?_⟩
  · rcases S.newF a u e with h | h
    · exact .inl h
    · exact .inr h.1
  · have hq : a ≠ D := fun z => by subst z; rw [kD] at e; cases e
    exact S.kept _ _ (by show (if a = D then _ else B.kp a) = _; rw [if_neg hq]; exact e)
  · rcases gs e with ⟨hj, e⟩ | ⟨hj, e, _⟩
    · obtain ⟨w, q1, q2⟩ := S.val j d e
      rw [wipe_get hj] at q1
      exact ⟨w, q1, q2⟩
    · obtain ⟨w, q1, q2⟩ := S1.val j d e
      exact ⟨w, q1, q2.mono leF⟩
  · obtain ⟨hj, e⟩ := own' e
    obtain ⟨q, ys, q1, q2, q3, q4, q5, q6⟩ := S.own j _ _ _ e
    rw [wipe_get hj] at q1
    have q5 : (if q = D then some (.lst acc) else B.kp q) = none := q5
    have hq : q ≠ D := fun z => by rw [if_pos z] at q5; cases q5
    rw [if_neg hq] at q5
    exact ⟨q, ys, q1, q2, q3, q4, q5, fun z => (q6 z).1⟩
  · obtain ⟨hj, a⟩ := own' a
    obtain ⟨hk, b⟩ := own' b
    exact S.inj _ _ _ _ _ _ _ _ _ a b (by rw [wipe_get hj]; exact c) (by rw [wipe_get hk]; exact d)
  · have hj : j ∉ vs := fun z => by rw [(ap j z).1] at e; cases e
    obtain ⟨q1, e1, l1, q2⟩ := S.fixd j q e
    rw [wipe_get hj] at q1
    exact ⟨q1, e1, l1, by rw [restE_get hj]; exact q2⟩
  · have hj : j ∉ vs := fun z => by rw [(ap j z).2] at e; cases e
    obtain ⟨q1, q2⟩ := S.lntd j q f l e
    rw [wipe_get hj] at q1
    exact ⟨q1, by rw [restE_get hj]; exact q2⟩
  · refine ⟨D, acc, rfl, S.compD, fD, r, kD, S1.fresh _ hD1, fun i f e l' q z => ?_⟩
    obtain ⟨hj, q⟩ := own' q
    obtain ⟨p, ys, q1, q2, q3, q4, q5, _⟩ := S.own i _ _ _ q
    rw [wipe_get hj] at q1
    rw [z] at q1; cases q1
    have q5 : (if D = D then some (.lst acc) else B.kp D) = none := q5
    rw [if_pos rfl] at q5; cases q5
def dG' (K : PySem.W.Frag) (tg : List Nat) : TG := fun v σ H Q => ∃ B, dG K B tg v σ H Q
def dB' (K : PySem.W.Frag) (m : EvB) : TT := fun σ H Q => ∃ B, dB K B m σ H Q
def dE' (K : PySem.W.Frag) (m : Ev1) : TE := fun σ H Q => ∃ B, dE K B m σ H Q
theorem PE_all {e : Expr} {m : Ev1} (h : ∀ B, PE X e (dE K B m)) : PE X e (dE' K m) := ⟨fun pins s σ H Q I ⟨B, q⟩ => (h B).run pins s σ H Q I q⟩
theorem PTs_all {es : List Expr} {m : EvB} (h : ∀ B, PTs X es (dB K B m)) : PTs X es (dB' K m) := ⟨fun pins s σ H Q I ⟨B, q⟩ => (h B).run pins s σ H Q I q⟩
theorem PG_all {e : Expr} {tg : List Nat} (h : ∀ B, PG X e (dG K B tg)) : PG X e (dG' K tg) := ⟨fun pins s σ H v u Q I r ⟨B, q⟩ => (h B).run pins s σ H v u Q I r q⟩
theorem lc_r {s : EvS} {tg vs : List Nat} {ifs : EvB} {e : Ev1} {Q : VK} (q : dE K B (lcE s tg vs ifs e) σ H Q) : tLc (dI K B s) (dG' K tg) (dB' K ifs) (dE' K e) vs σ H Q := by
  obtain ⟨F, ρ, r, ρ', S, hm, q⟩ := q
  simp only [lcE] at hm
  split at hm
  case h_2 => cases hm
  rename_i l ρ1 o e1
  split at hm
  case isFalse => cases hm
  rename_i hc
  split at hm
  case h_2 => cases hm
  rename_i lr ρ2 e2
  cases hm
  simp only [Bool.and_eq_true, decide_eq_true_eq, Bool.not_eq_true'] at hc
  obtain ⟨⟨⟨hlen, hv⟩, htg⟩, ho⟩ := hc
  refine ⟨F, ρ, l, ρ1, o, S, e1, fun J F1 H1 B1 le1 lt S1 wk => fun D hD => ?_⟩
  have ap : Apart B1 vs := fun j hj => by
    have f := List.all_eq_true.mp hv j hj
    unfold freeV at f
    refine ⟨?_, ?_⟩
    · cases z : B1.fx j with
      | none => rfl
      | some p =>
        obtain ⟨_, e3, l3, h3⟩ := S1.fixd j p z
        rw [h3] at f; cases f
    · cases z : B1.ln j with
      | none => rfl
      | some p =>
        obtain ⟨p, f', l'⟩ := p
        obtain ⟨_, h3⟩ := S1.lntd j p f' l' z
        rw [h3] at f; cases f
  have h0 : B1.F0 D = none := by
    cases z : B1.F0 D with
    | none => rfl
    | some u => have := S1.le _ _ (S1.leF _ _ z); rw [hD] at this; cases this
  have tgv : ∀ j, j ∈ tg → j ∈ vs := fun j hj => List.contains_iff_mem.mp (List.all_eq_true.mp htg j hj)
  -- what holds ahead of turn i
  let St : Nat → Hp → Prop := fun i H => ∃ F' ρ' acc done rest, Le F1 F' ∧ Sit K (compB B1 D acc) F' (L2.wipe σ vs) H ρ' ∧ RpAll K F' acc done ∧ lcGo tg vs ifs e (l.drop i) ρ' = some (rest, ρ2) ∧ lr = done ++ rest ∧ acc.length ≤ i
  refine ⟨fun i m H => m = l.length - i ∧ i ≤ l.length ∧ St i H, ⟨l.length, by simp, Nat.zero_le _, F1, wipeE ρ1 vs, [], [], lr, Le.refl, (S1.compIn hD).wipe ap, .nil, by rw [List.drop_zero]; exact e2, rfl, Nat.le_refl _⟩, ?_⟩
  rintro i m H2 ⟨rfl, hi, F2, ρ3, acc, done, rest, le2, S2, ra, hgo, hlr, hacc⟩
  have hD2 := S2.compD
  have apC : ∀ acc, Apart (compB B1 D acc) vs := fun acc j hj => ap j hj
  obtain ⟨stop, w⟩ := wk (compB B1 D acc) rfl F2 _ H2 ρ3 le2 S2
  by_cases hlt : i < l.length
  · have hd : l[i]? = some l[i] := List.getElem?_eq_getElem hlt
    have hdrop : l.drop i = l[i] :: l.drop (i + 1) := List.drop_eq_getElem_cons hlt
    obtain ⟨go, w⟩ := w i _ hd
    refine .inr ⟨go, St (i + 1), fun H' z => ⟨l.length - (i + 1), by omega, rfl, hlt, z⟩, fun x H3 y => ?_⟩
    obtain ⟨F3, x3, r3⟩ := w x H3 y
    obtain ⟨le3, S3⟩ := S2.ext x3
    rw [hdrop] at hgo
    simp only [lcGo] at hgo
    split at hgo
    case h_2 => cases hgo
    rename_i ρ4 e4
    refine ⟨compB B1 D acc, F3, ρ3, l[i], ρ4, S3, r3, e4, fun σ' S4 hs1 hs2 => ?_⟩
    have hw : L2.wipe σ' vs = L2.wipe (L2.wipe σ vs) vs := wipe_same hs2 fun j hj => hs1 j fun z => hj (tgv j z)
    have hw2 : L2.wipe (L2.wipe σ vs) vs = L2.wipe σ vs := wipe_same (wipe_length ..) fun j hj => wipe_get hj
    refine ⟨hw.trans hw2, ?_⟩
    split at hgo
    · -- the element is taken
      rename_i ρ5 e5
      split at hgo
      case h_2 => cases hgo
      rename_i r5 ρ6 e6
      split at hgo
      case h_2 => cases hgo
      rename_i l7 ρ7 e7
      cases hgo
      refine ⟨compB B1 D acc, F3, ρ4, true, ρ5, S4, e5, fun F5 H5 le5 S5 => ?_⟩
      refine iteT ?_
      refine ⟨compB B1 D acc, F5, ρ5, r5, ρ6, S5, e6, fun v F6 H6 le6 S6 ro6 => ?_⟩
      obtain ⟨F7, le7, S7, rp7⟩ := S6.freeze ro6
      refine ⟨acc, S7.compD, ?_, ?_⟩
      · rw [← lim_eq]; omega
      · have S8 := (S7.compMore h0 (acc ++ [v])).wipe (apC _)
        rw [hw.trans hw2] at S8
        have le8 : Le F2 F7 := (le3.trans le5).trans (le6.trans le7)
        exact ⟨F7, _, acc ++ [v], done ++ [r5.dat], l7, le2.trans le8, S8, (ra.mono le8).append (.cons rp7 .nil), e7, by rw [hlr]; simp, by simp; omega⟩
    · rename_i ρ5 e5
      refine ⟨compB B1 D acc, F3, ρ4, false, ρ5, S4, e5, fun F5 H5 le5 S5 => ?_⟩
      refine iteF ?_
      have S8 := S5.wipe (apC acc)
      rw [hw.trans hw2] at S8
      have le8 : Le F2 F5 := le3.trans le5
      exact ⟨F5, _, acc, done, rest, le2.trans le8, S8, ra.mono le8, hgo, hlr, by omega⟩
    · cases hgo
  · have hil : i = l.length := by omega
    subst hil
    rw [List.drop_length] at hgo
    simp only [lcGo, Option.some.injEq, Prod.mk.injEq] at hgo
    obtain ⟨rfl, rfl⟩ := hgo
    rw [List.append_nil] at hlr
    subst hlr
    refine .inl ⟨stop, ?_⟩
    obtain ⟨S9, ro9⟩ := S1.compOut hD hv le2 S2 ap ra
    refine q _ F2 H2 (le1.trans le2) (lt.back S9) ?_
    obtain ⟨p, xs, hp, h1, h2, h3, h4, h5, h6⟩ := ro9
    obtain ⟨k1, k2, k3, k4⟩ := lt.kp
    refine ⟨p, xs, hp, h1, h2, h3, by rw [← k1]; exact h4, by rw [← k2]; exact h5, fun i f e l' z => ?_⟩
    cases lt with
    | no => exact h6 i f e l' z
    | yes i' e' p' f' l'' hh =>
      have z : (unlendE i' e' (restE ρ1 ρ3 vs))[i]? = some (some (Cl.own f e l')) := z
      unfold unlendE at z
      split at z
      · rename_i f2 e2 l2 q2
        by_cases hi : i' = i
        · subst hi; exact h6 _ _ _ _ q2
        · rw [List.getElem?_set_ne hi] at z; exact h6 _ _ _ _ z
      · exact h6 _ _ _ _ z
end
end Ev
namespace Ev
open PySem PySem.Spec PyProof.Rows L2

section
variable {X : Cx} {K : PySem.W.Frag} {B : Bs} {F F' H H' : Hp} {σ : L2.St} {ρ : En} {v : V}

def SRok (K : PySem.W.Frag) (B : Bs) (F : Hp) (D : Ends) : SR → Prop
  | .nx ρ' => ∀ σ' F' H', Le F F' → Sit K B F' σ' H' ρ' → D.nx σ' H'
  | .bk ρ' => ∀ σ' F' H', Le F F' → Sit K B F' σ' H' ρ' → D.bk σ' H'
  | .ct ρ' => ∀ σ' F' H', Le F F' → Sit K B F' σ' H' ρ' → D.ct σ' H'
  | .rt r ρ' => ∀ v σ' F' H', Le F F' → Sit K B F' σ' H' ρ' → ResOk K B F' σ' H' ρ' v r → D.rt v H'
theorem SRok.mono {D : Ends} {r : SR} (h : SRok K B F D r) (le : Le F F') : SRok K B F' D r := by
  cases r with
  | nx ρ' => exact fun σ' F2 H2 le2 S => h σ' F2 H2 (le.trans le2) S
  | bk ρ' => exact fun σ' F2 H2 le2 S => h σ' F2 H2 (le.trans le2) S
  | ct ρ' => exact fun σ' F2 H2 le2 S => h σ' F2 H2 (le.trans le2) S
  | rt r ρ' => exact fun v σ' F2 H2 le2 S => h v σ' F2 H2 (le.trans le2) S
def dS (K : PySem.W.Frag) (B : Bs) (m : EvM) : TS := fun D σ H => ∃ F ρ r, Sit K B F σ H ρ ∧ m ρ = some r ∧ SRok K B F D r
theorem PSm {st : Stmt} {t t' : TS} (h : PS X st t) (w : ∀ D σ H, t' D σ H → t D σ H) : PS X st t' := ⟨fun pins s σ H D I q => h.run pins s σ H D I (w D σ H q)⟩
theorem PSsm {st : List Stmt} {t t' : TS} (h : PSs X st t) (w : ∀ D σ H, t' D σ H → t D σ H) : PSs X st t' := ⟨fun pins s σ H D I q => h.run pins s σ H D I (w D σ H q)⟩

theorem dS_nil : PSs X [] (dS X.K B fun ρ => some (.nx ρ)) := PSsm pss_nil fun D σ H q => by
  obtain ⟨F, ρ, r, S, hm, q⟩ := q
  cases hm
  exact q σ F H Le.refl S
theorem dS_seq {a b : EvM} {D : Ends} {σ : L2.St} {H : Hp} (q : dS K B (seqM a b) D σ H) : tSeq (dS K B a) (dS K B b) D σ H := by
  obtain ⟨F, ρ, r, S, hm, q⟩ := q
  simp only [seqM] at hm
  split at hm
  · rename_i ρ1 e1
    refine ⟨F, ρ, _, S, e1, fun σ' F' H' le S' => ?_⟩
    exact ⟨F', ρ1, r, S', hm, q.mono le⟩
  · rename_i r1 ne
    refine ⟨F, ρ, r, S, hm, ?_⟩
    cases r with
    | nx ρ' => exact absurd hm (ne ρ')
    | bk ρ' => exact q
    | ct ρ' => exact q
    | rt r ρ' => exact q
theorem dS_cons {st : Stmt} {rest : List Stmt} {a b : EvM} (h1 : PS X st (dS X.K B a)) (h2 : PSs X rest (dS X.K B b)) : PSs X (st :: rest) (dS X.K B (seqM a b)) := PSsm (pss_cons h1 h2) fun D σ H q => dS_seq q
theorem dS_pass {pos : Pos} : PS X (.Pass pos) (dS X.K B fun ρ => some (.nx ρ)) := PSm ps_pass fun D σ H q => by
  obtain ⟨F, ρ, r, S, hm, q⟩ := q
  cases hm
  exact q σ F H Le.refl S
theorem dS_brk {pos : Pos} : PS X (.Break pos) (dS X.K B fun ρ => some (.bk ρ)) := PSm ps_break fun D σ H q => by
  obtain ⟨F, ρ, r, S, hm, q⟩ := q
  cases hm
  exact q σ F H Le.refl S
theorem dS_cnt {pos : Pos} : PS X (.Continue pos) (dS X.K B fun ρ => some (.ct ρ)) := PSm ps_continue fun D σ H q => by
  obtain ⟨F, ρ, r, S, hm, q⟩ := q
  cases hm
  exact q σ F H Le.refl S
theorem dS_rse {st : Stmt} : PS X st (dS X.K B fun _ => none) := PSm ps_never fun D σ H q => by
  obtain ⟨F, ρ, r, S, hm, q⟩ := q
  cases hm
theorem dS_ret {e : Expr} {pos : Pos} {m : Ev1} (h : PE X e (dE X.K B m)) : PS X (.Return (some e) pos) (dS X.K B (retM m)) := PSm (ps_ret h) fun D σ H q => by
  obtain ⟨F, ρ, r, S, hm, q⟩ := q
  simp only [retM] at hm
  split at hm
  · rename_i r1 ρ1 e1
    cases hm
    exact ⟨F, ρ, _, _, S, e1, fun v F' H' le S' ro => q v σ F' H' le S' ro⟩
  · cases hm
theorem dS_drop {e : Expr} {pos : Pos} {m : Ev1} (h : PE X e (dE X.K B m)) (hs : swapsWith e none pos.line X.env = pure false) : PS X (.Expr e pos) (dS X.K B (dropM m)) := PSm (ps_expr h hs) fun D σ H q => by
  obtain ⟨F, ρ, r, S, hm, q⟩ := q
  simp only [dropM] at hm
  split at hm
  · rename_i r1 ρ1 e1
    cases hm
    exact ⟨F, ρ, _, _, S, e1, fun v F' H' le S' ro => q σ F' H' le S'⟩
  · cases hm
theorem dS_asg {st : Stmt} {i : Nat} {m : Ev1} (h : PS X st (tAsg (dE X.K B m) (gName i))) : PS X st (dS X.K B (asgM i m)) := PSm h fun D σ H q => by
  obtain ⟨F, ρ, r, S, hm, q⟩ := q
  simp only [asgM] at hm
  split at hm
  · rename_i r1 ρ1 e1
    split at hm
    · rename_i ρ2 e2
      cases hm
      obtain ⟨hf, rfl⟩ := setV_inv e2
      exact ⟨F, ρ, _, _, S, e1, fun v F' H' le S' ro => q _ F' H' le (S'.store hf ro)⟩
    · cases hm
  · cases hm
theorem dS_unp {st : Stmt} {is : List Nat} {m : Ev1} {t : TG} (h : PS X st (tAsg (dE X.K B m) (gTup X.K is.length (dGs X.K B is)))) : PS X st (dS X.K B (unpM is m)) := PSm h fun D σ H q => by
  obtain ⟨F, ρ, r, S, hm, q⟩ := q
  simp only [unpM] at hm
  split at hm
  · rename_i ds ρ1 e1
    split at hm
    · rename_i hl
      split at hm
      · rename_i ρ2 e2
        cases hm
        refine ⟨F, ρ, _, _, S, e1, fun v F' H' le S' ro => ?_⟩
        obtain ⟨a, xs, rfl, h1, h2⟩ := Rp.tup_inv ro
        exact ⟨a, xs, rfl, S'.le.sqT h1, by rw [h2.length, hl], F', ρ1, ds, ρ2, S', h2, e2, fun σ' S2 _ _ => q σ' F' H' le S2⟩
      · cases hm
    · cases hm
  · cases hm
theorem dS_par {st : Stmt} {i j : Nat} {a b : Ev1} {ta : TA} (hij : i ≠ j) (h : PS X st (tPar i j (dOs X.K B [opdE a, opdE b]))) : PS X st (dS X.K B (parM i j a b)) := PSm h fun D σ H q => by
  obtain ⟨F, ρ, r, S, hm, q⟩ := q
  simp only [parM] at hm
  split at hm
  case h_2 => cases hm
  rename_i r1 ρ1 e1
  split at hm
  case h_2 => cases hm
  rename_i r2 ρ2 e2
  split at hm
  case h_2 => cases hm
  rename_i ρ3 e3
  split at hm
  case h_2 => cases hm
  rename_i ρ4 e4
  cases hm
  have es : seqO [opdE a, opdE b] ρ = some ([.d r1.dat, .d r2.dat], ρ2) := by simp only [seqO, opdE, e1, e2]
  refine ⟨F, ρ, _, _, S, es, fun vs F' H' le S' k => ?_⟩
  obtain ⟨v, w, rfl, k1, k2⟩ := ops2 k
  refine ⟨v, w, rfl, ?_⟩
  obtain ⟨hf, rfl⟩ := setV_inv e3
  have S1 := S'.store hf (r := .val r1.dat) k1
  obtain ⟨hf2, rfl⟩ := setV_inv e4
  exact q _ F' H' le (S1.store hf2 (r := .val r2.dat) k2)

theorem dS_par3 {st : Stmt} {i j k : Nat} {a b c : Ev1} (h : PS X st (tPar3 i j k (dOs X.K B [opdE a, opdE b, opdE c]))) : PS X st (dS X.K B (par3M i j k a b c)) := PSm h fun D σ H q => by
  obtain ⟨F, ρ, r, S, hm, q⟩ := q
  simp only [par3M] at hm
  split at hm
  case h_2 => cases hm
  rename_i r1 ρ1 e1
  split at hm
  case h_2 => cases hm
  rename_i r2 ρ2 e2
  split at hm
  case h_2 => cases hm
  rename_i r3 ρ3 e3
  split at hm
  case h_2 => cases hm
  rename_i ρ4 e4
  split at hm
  case h_2 => cases hm
  rename_i ρ5 e5
  split at hm
  case h_2 => cases hm
  rename_i ρ6 e6
  cases hm
  have es : seqO [opdE a, opdE b, opdE c] ρ = some ([.d r1.dat, .d r2.dat, .d r3.dat], ρ3) := by simp only [seqO, opdE, e1, e2, e3]
  refine ⟨F, ρ, _, _, S, es, fun vs F' H' le S' kk => ?_⟩
  obtain ⟨u, v, w, rfl, k1, k2, k3⟩ := ops3 kk
  refine ⟨u, v, w, rfl, ?_⟩
  obtain ⟨hf, rfl⟩ := setV_inv e4
  have S1 := S'.store hf (r := .val r1.dat) k1
  obtain ⟨hf2, rfl⟩ := setV_inv e5
  have S2 := S1.store hf2 (r := .val r2.dat) k2
  obtain ⟨hf3, rfl⟩ := setV_inv e6
  exact q _ F' H' le (S2.store hf3 (r := .val r3.dat) k3)

theorem own_at {i : Nat} {f : Bool} {l : List PyData} (S : Sit K B F σ H ρ) (h : ρ[i]? = some (some (Cl.own f false l))) : ∃ p xs, σ[i]? = some (some (V.ref p)) ∧ H p = some (.lst xs) ∧ RpAll K F xs l := by
  obtain ⟨p, xs, h1, h2, h3, h4, _⟩ := S.own i _ _ _ h
  exact ⟨p, xs, h1, h2, h4⟩
theorem dS_app {st : Stmt} {i : Nat} {m : Ev1} (h : PS X st (tDrop (tBM X.K "list" rAppend (tVar i) (tCons (dE X.K B m) tNil)))) : PS X st (dS X.K B (appM i m)) := PSm h fun D σ H q => by
  obtain ⟨F, ρ, r, S, hm, q⟩ := q
  simp only [appM] at hm
  split at hm
  case h_2 => cases hm
  rename_i f0 e0 l0 h0
  split at hm
  case h_2 => cases hm
  rename_i r1 ρ1 e1
  split at hm
  case h_2 => cases hm
  rename_i f l e2
  split at hm
  case isFalse => cases hm
  rename_i hl
  cases hm
  obtain ⟨p, xs0, h1, h2, _⟩ := S.own i _ _ _ h0
  refine ⟨_, h1, .inl ⟨rfl, xs0, SqL.of h2⟩, ?_⟩
  refine ⟨F, ρ, _, _, S, e1, fun v F1 H1 le1 S1 ro => ?_⟩
  obtain ⟨F2, le2, S2, rp⟩ := S1.freeze ro
  obtain ⟨p', xs, q1, q2, q3⟩ := own_at S2 e2
  rw [h1] at q1; cases q1
  refine ⟨p, xs, v, rfl, rfl, q2, by rw [q3.length, ← lim_eq]; exact hl, ?_⟩
  exact q σ F2 _ (le1.trans le2) (S2.change e2 h1 (q3.append (.cons rp .nil)))
theorem dS_sto {st : Stmt} {i : Nat} {k m : Ev1} (h : PS X st (tAsg (dE X.K B m) (gSub (tVar i) (dE X.K B k) rSetL))) : PS X st (dS X.K B (stoM i k m)) := PSm h fun D σ H q => by
  obtain ⟨F, ρ, r, S, hm, q⟩ := q
  simp only [stoM] at hm
  split at hm
  case h_2 => cases hm
  rename_i r1 ρ1 e1
  split at hm
  case h_2 => cases hm
  rename_i f0 l0 g0 e0
  split at hm
  case h_2 => cases hm
  rename_i n ρ2 e2
  split at hm
  case h_2 => cases hm
  rename_i f l e3
  split at hm
  case h_2 => cases hm
  rename_i j e4
  cases hm
  refine ⟨F, ρ, _, _, S, e1, fun v F1 H1 le1 S1 ro => ?_⟩
  obtain ⟨F2, le2, S2, rp⟩ := S1.freeze ro
  have hσ : ∃ w, σ[i]? = some (some w) := by
    obtain ⟨p, xs, q1, _⟩ := S2.own i _ _ _ e0
    exact ⟨_, q1⟩
  obtain ⟨w, hw⟩ := hσ
  refine ⟨w, hw, ?_⟩
  refine ⟨F2, ρ1, _, _, S2, e2, fun n' F3 H3 le3 S3 rn => ?_⟩
  cases Rp.int_inv rn
  obtain ⟨p, xs, q1, q2, q3⟩ := own_at S3 e3
  rw [hw] at q1; cases q1
  refine ⟨p, xs, n, j, rfl, rfl, q2, by rw [q3.length]; exact e4, ?_⟩
  exact q σ F3 _ ((le1.trans le2).trans le3) (S3.change e3 hw (q3.set j (rp.mono le3)))

theorem dS_if {c : Expr} {a b : List Stmt} {pos : Pos} {mc : EvB} {ma mb : EvM} (hc : PT X c (dB X.K B mc)) (ha : PSs X a (dS X.K B ma)) (hb : PSs X b (dS X.K B mb)) : PS X (.If c a b pos) (dS X.K B (ifM mc ma mb)) := PSm (ps_if hc ha hb) fun D σ H q => by
  obtain ⟨F, ρ, r, S, hm, q⟩ := q
  simp only [ifM] at hm
  split at hm
  · rename_i ρ1 e1
    refine ⟨F, ρ, true, ρ1, S, e1, fun F1 H1 le1 S1 => ?_⟩
    refine iteT ?_
    exact ⟨F1, ρ1, r, S1, hm, q.mono le1⟩
  · rename_i ρ1 e1
    refine ⟨F, ρ, false, ρ1, S, e1, fun F1 H1 le1 S1 => ?_⟩
    refine iteF ?_
    exact ⟨F1, ρ1, r, S1, hm, q.mono le1⟩
  · cases hm
theorem dS_whl {c : Expr} {a : List Stmt} {pos : Pos} {mc : EvB} {ma : EvM} {n : Nat} (hp : PassesOwn (model X.prog X.w) X.A X.env X.xe) (hc : PT X c (dB X.K B mc)) (ha : PSs X a (dS X.K B ma)) : PS X (.While c a [] pos) (dS X.K B (whlM mc ma n)) := PSm (ps_while hp hc ha) fun D σ H q => by
  obtain ⟨F, ρ, r, S, hm, q⟩ := q
  refine ⟨fun m σ H => ∃ F' ρ', Le F F' ∧ Sit X.K B F' σ H ρ' ∧ whlM mc ma m ρ' = some r, ⟨n, F, ρ, Le.refl, S, hm⟩, ?_⟩
  rintro m σ2 H2 ⟨F2, ρ2, le2, S2, h2⟩
  cases m with
  | zero => cases h2
  | succ m =>
    simp only [whlM] at h2
    split at h2
    · rename_i ρ3 e3
      refine ⟨F2, ρ2, true, ρ3, S2, e3, fun F3 H3 le3 S3 => ?_⟩
      refine iteT ?_
      refine ⟨fun σ' H' => ∃ F' ρ', Le F F' ∧ Sit X.K B F' σ' H' ρ' ∧ whlM mc ma m ρ' = some r, fun σ' H' z => ⟨m, Nat.lt_succ_self _, z⟩, ?_⟩
      split at h2
      · rename_i ρ4 e4
        exact ⟨F3, ρ3, _, S3, e4, fun σ' F' H' le S' => ⟨F', ρ4, (le2.trans le3).trans le, S', h2⟩⟩
      · rename_i ρ4 e4
        exact ⟨F3, ρ3, _, S3, e4, fun σ' F' H' le S' => ⟨F', ρ4, (le2.trans le3).trans le, S', h2⟩⟩
      · rename_i ρ4 e4
        cases h2
        exact ⟨F3, ρ3, _, S3, e4, fun σ' F' H' le S' => q σ' F' H' ((le2.trans le3).trans le) S'⟩
      · rename_i r4 ρ4 e4
        cases h2
        exact ⟨F3, ρ3, _, S3, e4, fun v σ' F' H' le S' ro => q v σ' F' H' ((le2.trans le3).trans le) S' ro⟩
      · cases h2
    · rename_i ρ3 e3
      cases h2
      refine ⟨F2, ρ2, false, _, S2, e3, fun F3 H3 le3 S3 => ?_⟩
      refine iteF ?_
      exact q σ2 F3 H3 (le2.trans le3) S3
    · cases h2
theorem dS_fr {tg it : Expr} {a : List Stmt} {pos : Pos} {s : EvS} {vs : List Nat} {ma : EvM} (hp : PassesOwn (model X.prog X.w) X.A X.env X.xe) (hc : X.calm = true) (hi : PI X tg it (dI X.K B s)) (hg : PG X tg (dG' X.K vs)) (ha : ∀ B, PSs X a (dS X.K B ma))
    (hs : ∀ x, foldedSetIterable it X.env x = pure x) : PS X (.For tg it a [] pos) (dS X.K B (frM s vs ma)) := by
  have ha' : PSs X a (fun D σ H => ∃ B, dS X.K B ma D σ H) := ⟨fun pins s σ H D I ⟨B, q⟩ => (ha B).run pins s σ H D I q⟩
  refine PSm (ps_for hp hc hi hg ha' hs) fun D σ H q => ?_
  obtain ⟨F, ρ, r0, S, hm, q⟩ := q
  simp only [frM] at hm
  split at hm
  case h_2 => cases hm
  rename_i l ρ1 o e1
  refine ⟨F, ρ, l, ρ1, o, S, e1, fun J F1 H1 B1 le1 lt S1 wk => ?_⟩
  -- what is wanted behind the loop, by what the turns end in
  have fin : ∃ r, frGo vs ma l ρ1 = some r ∧ SRok X.K B1 F1 { nx := D.nx, rt := D.rt, bk := fun _ _ => False, ct := fun _ _ => False } r := by
    split at hm
    · rename_i ρ2 e2
      cases hm
      exact ⟨_, e2, fun σ' F' H' le S' => q σ' F' H' (le1.trans le) (lt.back S')⟩
    · rename_i r2 ρ2 e2
      cases hm
      refine ⟨_, e2, fun v σ' F' H' le S' ro => q v σ' F' H' (le1.trans le) (lt.weak S' lt.keeps) ?_⟩
      obtain ⟨k1, k2, k3, k4⟩ := lt.kp
      cases r2 with
      | val d => exact ro
      | new l' =>
        obtain ⟨p, xs, hp, h1, h2, h3, h4, h5, h6⟩ := ro
        exact ⟨p, xs, hp, h1, h2, h3, by rw [← k1]; exact h4, by rw [← k2]; exact h5, h6⟩
    · cases hm
  obtain ⟨r, hgo, qr⟩ := fin
  refine ⟨fun i m σ H => m = l.length - i ∧ i ≤ l.length ∧ ∃ F' ρ', Le F1 F' ∧ Sit X.K B1 F' σ H ρ' ∧ frGo vs ma (l.drop i) ρ' = some r, ⟨l.length, by simp, Nat.zero_le _, F1, ρ1, Le.refl, S1, by rw [List.drop_zero]; exact hgo⟩, ?_⟩
  rintro i m σ2 H2 ⟨rfl, hi, F2, ρ2, le2, S2, hg2⟩
  obtain ⟨stop, w⟩ := wk B1 rfl F2 σ2 H2 ρ2 le2 S2
  by_cases hlt : i < l.length
  · have hd : l[i]? = some l[i] := List.getElem?_eq_getElem hlt
    have hdrop : l.drop i = l[i] :: l.drop (i + 1) := List.drop_eq_getElem_cons hlt
    obtain ⟨go, w⟩ := w i _ hd
    refine .inr ⟨go, fun σ H => ∃ F' ρ', Le F1 F' ∧ Sit X.K B1 F' σ H ρ' ∧ frGo vs ma (l.drop (i + 1)) ρ' = some r, fun σ' H' z => ⟨l.length - (i + 1), by omega, rfl, hlt, z⟩, fun x H3 y => ?_⟩
    obtain ⟨F3, x3, r3⟩ := w x H3 y
    obtain ⟨le3, S3⟩ := S2.ext x3
    rw [hdrop] at hg2
    simp only [frGo] at hg2
    split at hg2
    case h_2 => cases hg2
    rename_i ρ4 e4
    refine ⟨B1, F3, ρ2, l[i], ρ4, S3, r3, e4, fun σ' S4 _ _ => ?_⟩
    split at hg2
    · rename_i ρ5 e5
      exact ⟨B1, F3, ρ4, _, S4, e5, fun σ'' F' H' le S' => ⟨F', ρ5, (le2.trans le3).trans le, S', hg2⟩⟩
    · rename_i ρ5 e5
      exact ⟨B1, F3, ρ4, _, S4, e5, fun σ'' F' H' le S' => ⟨F', ρ5, (le2.trans le3).trans le, S', hg2⟩⟩
    · rename_i ρ5 e5
      cases hg2
      exact ⟨B1, F3, ρ4, _, S4, e5, fun σ'' F' H' le S' => qr σ'' F' H' ((le2.trans le3).trans le) S'⟩
    · rename_i r5 ρ5 e5
      cases hg2
      exact ⟨B1, F3, ρ4, _, S4, e5, fun v σ'' F' H' le S' ro => qr v σ'' F' H' ((le2.trans le3).trans le) S' ro⟩
    · cases hg2
  · have hil : i = l.length := by omega
    subst hil
    rw [List.drop_length] at hg2
    simp only [frGo, Option.some.injEq] at hg2
    subst hg2
    exact .inl ⟨stop, qr σ2 F2 H2 le2 S2⟩
end
end Ev
namespace Ev
open PySem PySem.Spec PyProof.Rows L2

structure Gs where
  free : List Str
  gt : List (Str × PyData)
  fn : List (Str × Nat)
  bl : List (Str × String)
def noStar : Expr → Bool
  | .Starred .. => false
  | _ => true
def noSlice : Expr → Bool
  | .Slice .. => false
  | _ => true
def noSet : Expr → Bool
  | .Set .. => false
  | _ => true
def plainT : Expr → Bool
  | .UnaryOp .Not _ _ => false
  | .BoolOp .. => false
  | .IfExp .. => false
  | .Compare .. => false
  | _ => true
def noComp : Expr → Bool
  | .ListComp .. => false
  | .SetComp .. => false
  | .DictComp .. => false
  | _ => true
def visB (sc : Scope) (x : Str) : Bool := match sc.names.lookup x with
  | some .local => true
  | some .cell => true
  | some .free => true
  | _ => false
def glB (sc : Scope) (x : Str) : Bool := match sc.names.lookup x with
  | some .globalImplicit => true
  | _ => false
def nameOk (x : Str) : Bool := !(x == ("__debug__" : Str)) && !(x == ("__classdict__" : Str)) && !(x == ("__name__" : Str))
def conB : PyData → Const → Bool
  | .int i, .int j => i == j
  | .bool i, .bool j => i == j
  | .none, .none => true
  | .str x, .str y => x == y
  | _, _ => false
mutual
def sameD : PyData → PyData → Bool
  | .int i, .int j => decide (i = j)
  | .str x, .str y => decide (x = y)
  | .bool x, .bool y => decide (x = y)
  | .none, .none => true
  | .tuple l, .tuple m => sameL l m
  | .list l, .list m => sameL l m
  | _, _ => false
def sameL : List PyData → List PyData → Bool
  | [], [] => true
  | a :: r, b :: s => sameD a b && sameL r s
  | _, _ => false
end
mutual
theorem sameD_eq : ∀ {a b : PyData}, sameD a b = true → a = b
  | .int i, .int j, h => by simp only [sameD, decide_eq_true_eq] at h; rw [h]
  | .str i, .str j, h => by simp only [sameD, decide_eq_true_eq] at h; rw [h]
  | .bool i, .bool j, h => by simp only [sameD, decide_eq_true_eq] at h; rw [h]
  | .none, .none, _ => rfl
  | .tuple l, .tuple m, h => by simp only [sameD] at h; rw [sameL_eq h]
  | .list l, .list m, h => by simp only [sameD] at h; rw [sameL_eq h]
  | .int _, .str _, h | .int _, .bool _, h | .int _, .none, h | .int _, .tuple _, h | .int _, .list _, h | .int _, .dict _, h => by simp [sameD] at h
  | .str _, .int _, h | .str _, .bool _, h | .str _, .none, h | .str _, .tuple _, h | .str _, .list _, h | .str _, .dict _, h => by simp [sameD] at h
  | .bool _, .int _, h | .bool _, .str _, h | .bool _, .none, h | .bool _, .tuple _, h | .bool _, .list _, h | .bool _, .dict _, h => by simp [sameD] at h
  | .none, .int _, h | .none, .str _, h | .none, .bool _, h | .none, .tuple _, h | .none, .list _, h | .none, .dict _, h => by simp [sameD] at h
  | .tuple _, .int _, h | .tuple _, .str _, h | .tuple _, .bool _, h | .tuple _, .none, h | .tuple _, .list _, h | .tuple _, .dict _, h => by simp [sameD] at h
  | .list _, .int _, h | .list _, .str _, h | .list _, .bool _, h | .list _, .none, h | .list _, .tuple _, h | .list _, .dict _, h => by simp [sameD] at h
  | .dict _, .int _, h | .dict _, .str _, h | .dict _, .bool _, h | .dict _, .none, h | .dict _, .tuple _, h | .dict _, .list _, h | .dict _, .dict _, h => by simp [sameD] at h
theorem sameL_eq : ∀ {a b : List PyData}, sameL a b = true → a = b
  | [], [], _ => rfl
  | a :: r, b :: s, h => by
    simp only [sameL, Bool.and_eq_true] at h
    rw [sameD_eq h.1, sameL_eq h.2]
  | [], _ :: _, h => by simp [sameL] at h
  | _ :: _, [], h => by simp [sameL] at h
end
def ownOf (N : List Str) (vs : List Nat) : List (Str × Nat) := vs.map fun v => ((N[v]?).getD Str.empty, v)
theorem ownOf_snd {N : List Str} {vs : List Nat} : (ownOf N vs).map (·.2) = vs := by
  unfold ownOf; rw [List.map_map]; exact List.map_id _
/-- a target's names -/
def tgB (N : List Str) (sc wsc : Scope) : List Nat → List Expr → Bool
  | [], [] => true
  | i :: is, .Name x _ :: es => decide (N[i]? = some x) && (match sc.names.lookup x with
    | some .local => true
    | some .cell => (match wsc.names.lookup x with | some .cell => true | _ => false)
    | _ => false) && tgB N sc wsc is es
  | _, _ => false
def tgtB (N : List Str) (sc wsc : Scope) (is : List Nat) : Expr → Bool
  | .Name x p => is.length == 1 && tgB N sc wsc is [.Name x p]
  | .Tuple es _ _ => is.length != 1 && tgB N sc wsc is es
  | _ => false
/-- what may stand as a test -/
def tB : Ex → Bool
  | .ite .. => false
  | .and a b => tB a && tB b
  | .or a b => tB a && tB b
  | .not a => tB a
  | _ => true
section
variable (G : Gs) (N : List Str)
mutual
def chk (sc : Scope) : Ex → Expr → Bool
  | .var i, .Name x _ => decide (N[i]? = some x) && visB sc x && nameOk x
  | .con d, .Constant c _ _ => conB d c
  | .glb x d, .Name y _ => x == y && glB sc y && nameOk y && (match G.gt.lookup y with | some d' => sameD d d' | none => false)
  | .bin o a b, .BinOp l op r _ => op == opOf o && chk sc a l && chk sc b r
  | .neg a, .UnaryOp .USub x _ => chk sc a x
  | .cmp o a b, .Compare l [op] [r] _ => op == cmpOf o && noSet r && chk sc a l && chk sc b r
  | .chn o o' a b c, .Compare l [op, op'] [m, r] _ => op == cmpOf o && op' == cmpOf o' && noSet m && noSet r && chk sc a l && chk sc b m && chk sc c r
  | .and a b, .BoolOp .And [e, e'] _ => chk sc a e && chk sc b e'
  | .and a b, .BoolOp .And (e :: e' :: e'' :: r) p => chk sc a e && chk sc b (.BoolOp .And (e' :: e'' :: r) p)
  | .or a b, .BoolOp .Or [e, e'] _ => chk sc a e && chk sc b e'
  | .or a b, .BoolOp .Or (e :: e' :: e'' :: r) p => chk sc a e && chk sc b (.BoolOp .Or (e' :: e'' :: r) p)
  | .not a, .UnaryOp .Not e _ => chk sc a e
  | .ite c a b, .IfExp c' a' b' _ => tB c && chk sc c c' && chk sc a a' && chk sc b b'
  | .idx a b, .Subscript l r _ => noSlice r && chk sc a l && chk sc b r
  | .slc a lo hi, .Subscript l (.Slice l1 h1 none _) _ => chk sc a l && chkP sc lo l1 && chkP sc hi h1
  | .tup es, .Tuple es' _ _ => chks sc es es'
  | .lst es, .List es' _ => chks sc es es'
  | .call f _ (.cons e es), .Call (.Name x _) (e' :: es') [] _ => (match G.fn[f]? with | some (y, n) => x == y && n == es'.length + 1 | none => false) && glB sc x && nameOk x && noStar e' && (es'.all noStar) && chk sc e e' && chks sc es es'
  | .call f none .nil, .Call (.Name x _) [] [] _ => (match G.fn[f]? with | some (y, n) => x == y && n == 0 | none => false) && glB sc x && nameOk x
  | .blt b (.cons e es), .Call (.Name x _) (e' :: es') [] _ => (match b with
      | .comb => (match G.bl.lookup x with | some s => s == "math.comb" | none => false)
      | .gcd => (match G.bl.lookup x with | some s => s == "math.gcd" | none => false)
      | .lenset => false
      | b => x == nameB b && G.free.contains x) && glB sc x && nameOk x && noStar e' && (es'.all noStar) && chk sc e e' && chks sc es es'
  | .lens a, .Call (.Name x _) [.Call (.Name y _) [e] [] _] [] _ => x == ("len" : Str) && y == ("set" : Str) && G.free.contains x && G.free.contains y && glB sc x && glB sc y && noStar e && chk sc a e
  | .isi a t, .Call (.Name x _) [e, .Name y _] [] _ => x == ("isinstance" : Str) && y == Str.ofString (nameT t) && G.free.contains x && G.free.contains y && glB sc x && glB sc y && noStar e && chk sc a e
  | .lc s tg vs ifs e, .ListComp elt [⟨t, iter, ifs', 0⟩] wsc _ => blkC N sc wsc (ownOf N vs) && noSet iter && chkS sc s t iter && tgtB N (relS wsc sc) wsc tg t && chkI (relS wsc sc) ifs ifs' && chk (relS wsc sc) e elt
  | _, _ => false
def chks (sc : Scope) : Exs → List Expr → Bool
  | .nil, [] => true
  | .cons x r, e :: es => noStar e && chk sc x e && chks sc r es
  | _, _ => false
def chkP (sc : Scope) : Exs → Option Expr → Bool
  | .nil, none => true
  | .cons x .nil, some e => chk sc x e
  | _, _ => false
def chkI (sc : Scope) : Exs → List Expr → Bool
  | .nil, [] => true
  | .cons x .nil, [e] => tB x && chk sc x e
  | _, _ => false
def chkS (sc : Scope) : Src → Expr → Expr → Bool
  | .seq a, _, e => chk sc a e
  | .rng a, _, .Call (.Name x _) [e] [] _ => x == ("range" : Str) && G.free.contains x && glB sc x && noStar e && chk sc a e
  | .rng2 a b, _, .Call (.Name x _) [e, e'] [] _ => x == ("range" : Str) && G.free.contains x && glB sc x && noStar e && noStar e' && chk sc a e && chk sc b e'
  | .enm a, .Tuple .., .Call (.Name x _) [e] [] _ => x == ("enumerate" : Str) && G.free.contains x && glB sc x && noStar e && chk sc a e
  | .zip a b, .Tuple .., .Call (.Name x _) [e, e'] [] _ => x == ("zip" : Str) && G.free.contains x && glB sc x && noStar e && noStar e' && chk sc a e && chk sc b e'
  | _, _, _ => false
end
end

structure GOk (G : Gs) (X : Cx) (cf : CF) : Prop where
  free : ∀ x, G.free.contains x = true → X.mg x = none
  gt : ∀ x d, G.gt.lookup x = some d → ∃ v u, X.mg x = some u ∧ RelV v u ∧ Rp X.K (fun _ => none) v d
  fn : ∀ f x n, G.fn[f]? = some (x, n) → ∃ k a fd ps, FnOk X.prog X.w X.K X.mg X.base CX0 k a fd ps (spD X.K n (cf f)) ∧ Room k X.A ∧ X.mg x = some (.ref a) ∧ PySem.W.keepIn X.K (.ref a) = true ∧ Binds X.K fd ps []
  bl : ∀ x s, G.bl.lookup x = some s → X.mg x = some (.builtin s)
  hu : X.A.units + 65 < cLine
  calm : X.calm = true
  nd : X.N.Nodup
theorem GOk.blk {G : Gs} {X : Cx} {cf : CF} (g : GOk G X cf) (s : Shared) (H : Hp) (wsc : Scope) (cenv : PySem.Env) (fp : List Addr) : GOk G (X.blk s H wsc cenv fp) cf := ⟨g.free, g.gt, g.fn, g.bl, g.hu, g.calm, g.nd⟩
section
variable {X : Cx} {e : Expr} {es : List Expr}
theorem star_cons (h : noStar e = true) : starEach (e :: es) X.env = (false, eval e X.env) :: starEach es X.env := by
  cases e <;> first | rfl | cases h
theorem star_any {pos : Pos} : ∀ {es : List Expr}, es.all noStar = true → (backTo pos (starEach es X.env)).any (·.1) = false
  | [], _ => rfl
  | e :: r, h => by
    rw [List.all_cons, Bool.and_eq_true] at h
    rw [star_cons h.1]
    show (false || (backTo pos (starEach r X.env)).any (·.1)) = false
    rw [star_any h.2]; rfl
theorem plainIx_of (h : noSlice e = true) : PlainIx e := by
  intro o i
  cases e <;> first | rfl | cases h
theorem folded_of (h : noSet e = true) : ∀ x, foldedSetIterable e X.env x = pure x := by
  intro x
  cases e <;> first | rfl | cases h
theorem behind_of (h : noSet e = true) (op : CmpOp) : behindInMarks op e = false := by
  cases e <;> first | rfl | cases h
theorem plain_is (h : plainT e = true) : ∀ whole, isTrue e X.env whole = (do let v ← whole; standAt e.pos; holding [v] (truthy v)) := by
  intro whole
  cases e with
  | UnaryOp op x p => cases op <;> first | rfl | cases h
  | _ => first | rfl | cases h
theorem vis_of {sc : Scope} {x : Str} (h : visB sc x = true) : Vis sc x := by
  unfold visB at h
  split at h
  · exact .inl (by assumption)
  · exact .inr (.inl (by assumption))
  · exact .inr (.inr (by assumption))
  · cases h
theorem gl_of {x : Str} (h : glB X.env.scope x = true) : Gl X x := by
  unfold glB at h
  split at h
  · rename_i q; exact q
  · cases h
theorem nameOk_of {x : Str} (h : nameOk x = true) : (x == ("__debug__" : Str)) = false ∧ (x == ("__classdict__" : Str)) = false ∧ x ≠ "__name__" := by
  unfold nameOk at h
  simp only [Bool.and_eq_true, Bool.not_eq_true'] at h
  exact ⟨h.1.1, h.1.2, fun z => by rw [z] at h; simp at h⟩
end
end Ev
namespace Ev
open PySem PySem.Spec PyProof.Rows L2

theorem opd_eq (x : Ex) (m : Ev1) : (∃ i, x = .var i ∧ opd x m = opdV i) ∨ opd x m = opdE m := by
  cases x <;> first | exact .inr rfl | exact .inl ⟨_, rfl, rfl⟩
theorem tst_of {X : Cx} {e : Expr} {B : Bs} {m : EvO} (h : PE X e (dO X.K B m)) (hp : plainT e = true) : PT X e (dB X.K B (tstO m)) := PTm (pt_truth h (plain_is hp)) fun σ H Q q => dB_O q
/-- a test whose value is a bool -/
theorem tst_bool {K : PySem.W.Frag} {B : Bs} {m : Ev1} (hb : ∀ ρ r ρ', m ρ = some (r, ρ') → ∃ b, r = .val (.bool b)) {σ : L2.St} {H : Hp} {Q : Bool → Hp → Prop} (q : dB K B (tstO (opdE m)) σ H Q) : dE K B m σ H fun x H' => ∃ k, x = .bl k ∧ Q k H' := by
  obtain ⟨F, ρ, b, ρ', S, hm, q⟩ := q
  simp only [tstO, opdE] at hm
  split at hm
  case h_2 => cases hm
  rename_i o ρ1 e1
  split at e1
  case h_2 => cases e1
  rename_i r ρ2 e2
  cases e1
  obtain ⟨b', rfl⟩ := hb _ _ _ e2
  simp only [rsv, Rs.dat, truD, Option.some.injEq, Prod.mk.injEq] at hm
  obtain ⟨rfl, rfl⟩ := hm
  exact ⟨F, ρ, _, _, S, e2, fun v F' H' le S' ro => ⟨b', Rp.bool_inv ro, q F' H' le S'⟩⟩
theorem cmp_bool {o : COp} {a b : EvO} {ρ ρ' : En} {r : Rs} (h : app1 [a, b] (g2 fun d e => rb (cmpD o d e)) ρ = some (r, ρ')) : ∃ b, r = .val (.bool b) := by
  obtain ⟨os, ds, e1, e2, e3⟩ := app_inv h
  unfold g2 at e3
  split at e3
  · rename_i d e
    have e3 : rb (cmpD o d e) = some r := e3
    cases h : cmpD o d e with
    | none => rw [h] at e3; cases e3
    | some b => rw [h] at e3; cases e3; exact ⟨b, rfl⟩
  · cases e3
theorem chn_bool {o o' : COp} {a b c : EvO} {ρ ρ' : En} {r : Rs} (h : chnE o o' a b c ρ = some (r, ρ')) : ∃ b, r = .val (.bool b) := by
  simp only [chnE] at h
  repeat' (split at h)
  all_goals first | cases h | skip
  all_goals exact ⟨_, rfl⟩
theorem op_beq {a b : Operator} (h : (a == b) = true) : a = b := by cases a <;> cases b <;> first | rfl | cases h
theorem cop_beq {a b : CmpOp} (h : (a == b) = true) : a = b := by cases a <;> cases b <;> first | rfl | cases h
theorem str_beq {a b : Str} (h : (a == b) = true) : a = b := by simpa using h
theorem pg_names {X : Cx} (hN : X.N.Nodup) {wsc : Scope} (hf : ∀ x, wsc.names.lookup x = some .cell → X.fn x = true) : ∀ {is : List Nat} {es : List Expr}, tgB X.N X.env.scope wsc is es = true → ∀ B, PGs X es (dGs X.K B is) ∧ (assignEach es X.env).length = is.length ∧ (assignEach es X.env).findIdx? (·.1) = none
  | [], [], _, B => ⟨dGs_nil, rfl, rfl⟩
  | i :: is, .Name x p :: es, h, B => by
    simp only [tgB, Bool.and_eq_true, decide_eq_true_eq] at h
    obtain ⟨⟨h1, h2⟩, h3⟩ := h
    obtain ⟨k1, k2, k3⟩ := pg_names hN hf h3 B
    have pg : PG X (.Name x p) (gName i) := by
      split at h2
      · rename_i q
        exact pg_name hN h1 (.inl q) (.inr q)
      · rename_i q
        split at h2
        · rename_i q2
          exact pg_name hN h1 (.inr q) (.inl (hf x q2))
        · cases h2
      · cases h2
    have ae : assignEach (Expr.Name x p :: es) X.env = (false, assign (.Name x p) X.env) :: assignEach es X.env := rfl
    refine ⟨dGs_cons pg k1 (by rw [ae]; rfl), by rw [ae, List.length_cons, k2]; rfl, ?_⟩
    rw [ae, List.findIdx?_cons, k3]
    rfl
  | [], _ :: _, h, _ => by simp [tgB] at h
  | _ :: _, [], h, _ => by simp [tgB] at h
  | _ :: _, .BoolOp .. :: _, h, _ => by simp [tgB] at h
  | _ :: _, .NamedExpr .. :: _, h, _ => by simp [tgB] at h
  | _ :: _, .BinOp .. :: _, h, _ => by simp [tgB] at h
  | _ :: _, .UnaryOp .. :: _, h, _ => by simp [tgB] at h
  | _ :: _, .Lambda .. :: _, h, _ => by simp [tgB] at h
  | _ :: _, .IfExp .. :: _, h, _ => by simp [tgB] at h
  | _ :: _, .Dict .. :: _, h, _ => by simp [tgB] at h
  | _ :: _, .Set .. :: _, h, _ => by simp [tgB] at h
  | _ :: _, .ListComp .. :: _, h, _ => by simp [tgB] at h
  | _ :: _, .SetComp .. :: _, h, _ => by simp [tgB] at h
  | _ :: _, .DictComp .. :: _, h, _ => by simp [tgB] at h
  | _ :: _, .GeneratorExp .. :: _, h, _ => by simp [tgB] at h
  | _ :: _, .Await .. :: _, h, _ => by simp [tgB] at h
  | _ :: _, .Yield .. :: _, h, _ => by simp [tgB] at h
  | _ :: _, .YieldFrom .. :: _, h, _ => by simp [tgB] at h
  | _ :: _, .Compare .. :: _, h, _ => by simp [tgB] at h
  | _ :: _, .Call .. :: _, h, _ => by simp [tgB] at h
  | _ :: _, .FormattedValue .. :: _, h, _ => by simp [tgB] at h
  | _ :: _, .JoinedStr .. :: _, h, _ => by simp [tgB] at h
  | _ :: _, .Constant .. :: _, h, _ => by simp [tgB] at h
  | _ :: _, .Attribute .. :: _, h, _ => by simp [tgB] at h
  | _ :: _, .Subscript .. :: _, h, _ => by simp [tgB] at h
  | _ :: _, .Starred .. :: _, h, _ => by simp [tgB] at h
  | _ :: _, .List .. :: _, h, _ => by simp [tgB] at h
  | _ :: _, .Tuple .. :: _, h, _ => by simp [tgB] at h
  | _ :: _, .Slice .. :: _, h, _ => by simp [tgB] at h
theorem pg_target {X : Cx} (hN : X.N.Nodup) (hc : X.calm = true) {wsc : Scope} (hf : ∀ x, wsc.names.lookup x = some .cell → X.fn x = true) {is : List Nat} {t : Expr} (h : tgtB X.N X.env.scope wsc is t = true) (B : Bs) : PG X t (dG X.K B is) := by
  cases t <;> (try simp only [tgtB, Bool.and_eq_true, beq_iff_eq, bne_iff_ne] at h) <;> first | exact absurd h Bool.false_ne_true | skip
  · rename_i x p
    obtain ⟨h1, h2⟩ := h
    match is, h1, h2 with
    | [i], _, h2 =>
      simp only [tgB, Bool.and_eq_true, decide_eq_true_eq] at h2
      obtain ⟨⟨h1, h2⟩, h3⟩ := h2
      refine dG_one ?_
      split at h2
      · rename_i q
        exact pg_name hN h1 (.inl q) (.inr q)
      · rename_i q
        split at h2
        · rename_i q2
          exact pg_name hN h1 (.inr q) (.inl (hf x q2))
        · cases h2
      · cases h2
  · rename_i es k p
    obtain ⟨h1, h2⟩ := h
    obtain ⟨k1, k2, k3⟩ := pg_names hN hf h2 B
    exact dG_tup (pg_tup hc k1 k2 k3) h1

def isBo : Expr → Bool
  | .BoolOp .. => true
  | _ => false
/-- all that is shown of an expression -/
structure Snd (X : Cx) (e : Expr) (x : Ex) (m : E2) (B : Bs) : Prop where
  pe : PE X e (dE X.K B m.e)
  o : PE X e (dO X.K B (opd x m.e))
  t : tB x = true → PT X e (dB X.K B m.t)
  w : tB x = true → isBo e = true → PW X e (dB X.K B m.t)
theorem Snd.plain {X : Cx} {e : Expr} {x : Ex} {m : Ev1} {B : Bs} (h : PE X e (dE X.K B m)) (ho : opd x m = opdE m) (hp : plainT e = true) : Snd X e x ⟨m, tstO (opdE m)⟩ B :=
  ⟨h, by show PE X e (dO X.K B (opd x m)); rw [ho]; exact dO_E h, fun _ => tst_of (dO_E h) hp, fun _ z => by cases e <;> first | exact absurd z Bool.false_ne_true | exact absurd hp Bool.false_ne_true⟩
theorem call0_e {K : PySem.W.Frag} {B : Bs} {cf : CF} {f : Nat} {σ : L2.St} {H : Hp} {E : XK} {Q : VK} (q : dE K B (callE cf f none []) σ H Q) : tCall (spD K 0 (cf f)) [] E tNil σ H Q := by
  obtain ⟨B', F, ρ, os, ρ', S, e1, q⟩ : ∃ (B' : Bs), dOs K B [] σ H fun vs H1 => spD K 0 (cf f) (vs ++ []) H1 Q E := ⟨B, call_e (n := 0) rfl q⟩
  simp only [seqO, Option.some.injEq, Prod.mk.injEq] at e1
  obtain ⟨rfl, rfl⟩ := e1
  exact q [] F H Le.refl S trivial
section
variable (G : Gs) (cf : CF)
def SEx (x : Ex) : Prop := ∀ (X : Cx) (e : Expr), GOk G X cf → chk G X.N X.env.scope x e = true → ∀ B, Snd X e x (ev cf x) B
def SAl : Exs → Prop
  | .nil => True
  | .cons x r => SEx G cf x ∧ SAl r
def SSr (x : Src) : Prop := ∀ (X : Cx) (t it : Expr), GOk G X cf → chkS G X.N X.env.scope x t it = true → ∀ B, PI X t it (dI X.K B (evSrc cf x))
variable {G cf}
theorem sndP : ∀ (x : Exs) (_ : SAl G cf x) (X : Cx) (e : Option Expr), GOk G X cf → chkP G X.N X.env.scope x e = true → ∀ B, PO X e (dP X.K B (evs cf x))
  | .nil, w, X, e, g, h, B => by
    cases e <;> (try simp only [chkP] at h) <;> first | exact absurd h Bool.false_ne_true | skip
    exact dP_none
  | .cons x .nil, w, X, e, g, h, B => by
    cases e <;> (try simp only [chkP] at h) <;> first | exact absurd h Bool.false_ne_true | skip
    exact dP_some (w.1 X _ g h B).o
  | .cons x (.cons y r), w, X, e, g, h, B => by cases e <;> simp [chkP] at h
theorem sndF : ∀ (x : Exs) (_ : SAl G cf x) (X : Cx) (es : List Expr), GOk G X cf → chks G X.N X.env.scope x es = true → ∀ B, PA X es (dOs X.K B (evf cf x)) ∧ AllE (evf cf x)
  | .nil, w, X, es, g, h, B => by
    cases es <;> (try simp only [chks] at h) <;> first | exact absurd h Bool.false_ne_true | skip
    exact ⟨dOs_nil, trivial⟩
  | .cons x r, w, X, es, g, h, B => by
    cases es <;> (try simp only [chks, Bool.and_eq_true] at h) <;> first | exact absurd h Bool.false_ne_true | skip
    obtain ⟨⟨h1, h2⟩, h3⟩ := h
    have hr := sndF r w.2 X _ g h3 B
    exact ⟨dOs_cons (dO_E (w.1 X _ g h2 B).pe) hr.1 (star_cons h1), ⟨_, rfl⟩, hr.2⟩
theorem sndA : ∀ (x : Exs) (_ : SAl G cf x) (X : Cx) (es : List Expr), GOk G X cf → chks G X.N X.env.scope x es = true → ∀ B, PA X es (dOs X.K B (evs cf x)) ∧ (evs cf x).length = es.length
  | .nil, w, X, es, g, h, B => by
    cases es <;> (try simp only [chks] at h) <;> first | exact absurd h Bool.false_ne_true | skip
    exact ⟨dOs_nil, rfl⟩
  | .cons x r, w, X, es, g, h, B => by
    cases es <;> (try simp only [chks, Bool.and_eq_true] at h) <;> first | exact absurd h Bool.false_ne_true | skip
    obtain ⟨⟨h1, h2⟩, h3⟩ := h
    have hr := sndA r w.2 X _ g h3 B
    exact ⟨dOs_cons (w.1 X _ g h2 B).o hr.1 (star_cons h1), by show (evs cf r).length + 1 = _; rw [hr.2]; rfl⟩
theorem sndI : ∀ (x : Exs) (_ : SAl G cf x) (X : Cx) (es : List Expr), GOk G X cf → chkI G X.N X.env.scope x es = true → ∀ B, PTs X es (dB X.K B (allT (evts cf x)))
  | .nil, w, X, es, g, h, B => by
    cases es <;> (try simp only [chkI] at h) <;> first | exact absurd h Bool.false_ne_true | skip
    refine ⟨fun pins s σ H Q I q => pts_nil.run pins s σ H Q I ?_⟩
    obtain ⟨F, ρ, b, ρ', S, hm, q⟩ := q
    cases hm
    exact q F H Le.refl S
  | .cons x .nil, w, X, es, g, h, B => by
    match es, h with
    | [e], h =>
      simp only [chkI, Bool.and_eq_true] at h
      exact pts_one ((w.1 X _ g h.2 B).t h.1)
    | [], h => simp [chkI] at h
    | _ :: _ :: _, h => simp [chkI] at h
  | .cons x (.cons y r), w, X, es, g, h, B => by
    match es, h with
    | [], h => simp [chkI] at h
    | [_], h => simp [chkI] at h
    | _ :: _ :: _, h => simp [chkI] at h
theorem s_var {i}  : SEx G cf (.var i) := by
    intro X e g h B
    cases e <;> (try simp only [chk, Bool.and_eq_true, decide_eq_true_eq] at h) <;> first | exact absurd h Bool.false_ne_true | skip
    obtain ⟨⟨h1, h2⟩, h3⟩ := h
    obtain ⟨d1, d2, _⟩ := nameOk_of h3
    have p := pe_var (pos := by assumption) h1 (vis_of h2) d1 d2
    exact ⟨dE_V p, dO_V p, fun _ => tst_of (dO_V p) rfl, fun _ z => by cases z⟩
theorem s_con {d}  : SEx G cf (.con d) := by
    intro X e g h B
    cases e <;> (try simp only [chk] at h) <;> first | exact absurd h Bool.false_ne_true | skip
    rename_i c k p
    cases d <;> cases c <;> (try simp only [conB] at h) <;> first | exact absurd h Bool.false_ne_true | skip
    · exact .plain (dE_C pe_non fun F => .non) rfl rfl
    · have := eq_of_beq h
      subst this
      exact .plain (dE_C pe_bl fun F => .bl _) rfl rfl
    · have := eq_of_beq h
      subst this
      exact .plain (dE_C pe_int fun F => .int _) rfl rfl
    · have := str_beq h
      subst this
      exact .plain (dE_C pe_str fun F => .str _) rfl rfl
theorem s_glb {x} {d}  : SEx G cf (.glb x d) := by
    intro X e g h B
    cases e <;> (try simp only [chk, Bool.and_eq_true] at h) <;> first | exact absurd h Bool.false_ne_true | skip
    rename_i y p
    obtain ⟨⟨⟨h1, h2⟩, h3⟩, h4⟩ := h
    split at h4
    case h_2 => cases h4
    rename_i d' e1
    have := sameD_eq h4
    subst this
    obtain ⟨v, u, q1, q2, q3⟩ := g.gt _ _ e1
    exact .plain (dE_G (pe_glob (gl_of h2) q1 q2 (nameOk_of h3).1) q3) rfl rfl
theorem s_bin {o} {a} {b} (i_a : SEx G cf a) (i_b : SEx G cf b) : SEx G cf (.bin o a b) := by
    intro X e g h B
    cases e <;> (try simp only [chk, Bool.and_eq_true] at h) <;> first | exact absurd h Bool.false_ne_true | skip
    obtain ⟨⟨h1, h2⟩, h3⟩ := h
    have := op_beq h1
    subst this
    exact .plain (PEm (pe_op (bin_op o) (i_a X _ g h2 B).o (i_b X _ g h3 B).o) fun σ H Q q => app2_r (bin_r o) q) rfl rfl
theorem s_neg {a} (i_a : SEx G cf a) : SEx G cf (.neg a) := by
    intro X e g h B
    cases e <;> (try simp only [chk] at h) <;> first | exact absurd h Bool.false_ne_true | skip
    rename_i op x p
    cases op <;> (try simp only [chk] at h) <;> first | exact absurd h Bool.false_ne_true | skip
    exact .plain (PEm (pe_un un_neg (i_a X _ g h B).o) fun σ H Q q => app1_r neg_r q) rfl rfl
theorem s_cmp {o} {a} {b} (i_a : SEx G cf a) (i_b : SEx G cf b) : SEx G cf (.cmp o a b) := by
    intro X e g h B
    cases e <;> (try simp only [chk] at h) <;> first | exact absurd h Bool.false_ne_true | skip
    rename_i l ops cs p
    match ops, cs, h with
    | [op], [r], h =>
      simp only [chk, Bool.and_eq_true] at h
      obtain ⟨⟨⟨h1, h0⟩, h2⟩, h3⟩ := h
      have := cop_beq h1
      subst this
      have ha := (i_a X _ g h2 B).o
      have hb := (i_b X _ g h3 B).o
      have pe := PEm (pe_cmpR (pos := p) (cmp_op g.hu o) ha hb (behind_of h0 _)) fun σ H Q q => app2_r (cmp_r o) q
      exact ⟨pe, dO_E pe, fun _ => PTm (pt_cmpR (cmp_op g.hu o) ha hb (behind_of h0 _)) fun σ H Q q => app2_r (cmp_r o) (tst_bool (fun _ _ _ => cmp_bool) q), fun _ z => by cases z⟩
theorem s_chn {o} {o'} {a} {b} {c} (i_a : SEx G cf a) (i_b : SEx G cf b) (i_c : SEx G cf c) : SEx G cf (.chn o o' a b c) := by
    intro X e g h B
    cases e <;> (try simp only [chk] at h) <;> first | exact absurd h Bool.false_ne_true | skip
    rename_i l ops cs p
    match ops, cs, h with
    | [op, op'], [m, r], h =>
      simp only [chk, Bool.and_eq_true] at h
      obtain ⟨⟨⟨⟨⟨⟨h1, h2⟩, h3⟩, h4⟩, h5⟩, h6⟩, h7⟩ := h
      have := cop_beq h1
      subst this
      have := cop_beq h2
      subst this
      have ha := (i_a X _ g h5 B).o
      have hb := (i_b X _ g h6 B).o
      have hc := (i_c X _ g h7 B).o
      have pe := PEm (pe_chain (pos := p) (cmp_op g.hu o) (cmp_op g.hu o') ha hb hc (by first | exact behind_of h4 _ | exact behind_of h3 _)) fun σ H Q q => chn_e q
      exact ⟨pe, dO_E pe, fun _ => PTm (pt_chain (cmp_op g.hu o) (cmp_op g.hu o') ha hb hc (by first | exact behind_of h4 _ | exact behind_of h3 _)) fun σ H Q q => chn_e (tst_bool (fun _ _ _ => chn_bool) q), fun _ z => by cases z⟩
theorem s_and {a} {b} (i_a : SEx G cf a) (i_b : SEx G cf b) : SEx G cf (.and a b) := by
    intro X e g h B
    cases e <;> (try simp only [chk] at h) <;> first | exact absurd h Bool.false_ne_true | skip
    rename_i op es p
    cases op
    · match es, h with
      | [e, e'], h =>
        simp only [chk, Bool.and_eq_true] at h
        have ha := i_a X _ g h.1 B
        have hb := i_b X _ g h.2 B
        have pe := PEm (pe_and (pos := p) ha.pe (pe_one (op := .And) (pos := p) hb.pe)) fun σ H Q q => and_e q
        have pw : tB (.and a b) = true → PW X (.BoolOp .And [e, e'] p) (dB X.K B (ev cf (.and a b)).t) := fun z => by
          simp only [tB, Bool.and_eq_true] at z
          exact PWm (pw_and (ha.t z.1) (pw_and1 (hb.t z.2))) fun σ H Q q => and_t q
        exact ⟨pe, dO_E pe, fun z => (pw z).pt, fun z _ => pw z⟩
      | e :: e' :: e'' :: r, h =>
        simp only [chk, Bool.and_eq_true] at h
        have ha := i_a X _ g h.1 B
        have hb := i_b X _ g h.2 B
        have pe := PEm (pe_and (pos := p) ha.pe hb.pe) fun σ H Q q => and_e q
        have pw : tB (.and a b) = true → PW X (.BoolOp .And (e :: e' :: e'' :: r) p) (dB X.K B (ev cf (.and a b)).t) := fun z => by
          simp only [tB, Bool.and_eq_true] at z
          exact PWm (pw_and (ha.t z.1) (hb.w z.2 rfl)) fun σ H Q q => and_t q
        exact ⟨pe, dO_E pe, fun z => (pw z).pt, fun z _ => pw z⟩
      | [], h => simp [chk] at h
      | [_], h => simp [chk] at h
    · match es, h with
      | [], h => simp [chk] at h
      | [_], h => simp [chk] at h
      | [_, _], h => simp [chk] at h
      | _ :: _ :: _ :: _, h => simp [chk] at h
theorem s_or {a} {b} (i_a : SEx G cf a) (i_b : SEx G cf b) : SEx G cf (.or a b) := by
    intro X e g h B
    cases e <;> (try simp only [chk] at h) <;> first | exact absurd h Bool.false_ne_true | skip
    rename_i op es p
    cases op
    · match es, h with
      | [], h => simp [chk] at h
      | [_], h => simp [chk] at h
      | [_, _], h => simp [chk] at h
      | _ :: _ :: _ :: _, h => simp [chk] at h
    · match es, h with
      | [e, e'], h =>
        simp only [chk, Bool.and_eq_true] at h
        have ha := i_a X _ g h.1 B
        have hb := i_b X _ g h.2 B
        have pe := PEm (pe_or (pos := p) ha.pe (pe_one (op := .Or) (pos := p) hb.pe)) fun σ H Q q => or_e q
        have pw : tB (.or a b) = true → PW X (.BoolOp .Or [e, e'] p) (dB X.K B (ev cf (.or a b)).t) := fun z => by
          simp only [tB, Bool.and_eq_true] at z
          exact PWm (pw_or (ha.t z.1) (pw_or1 (hb.t z.2))) fun σ H Q q => or_t q
        exact ⟨pe, dO_E pe, fun z => (pw z).pt, fun z _ => pw z⟩
      | e :: e' :: e'' :: r, h =>
        simp only [chk, Bool.and_eq_true] at h
        have ha := i_a X _ g h.1 B
        have hb := i_b X _ g h.2 B
        have pe := PEm (pe_or (pos := p) ha.pe hb.pe) fun σ H Q q => or_e q
        have pw : tB (.or a b) = true → PW X (.BoolOp .Or (e :: e' :: e'' :: r) p) (dB X.K B (ev cf (.or a b)).t) := fun z => by
          simp only [tB, Bool.and_eq_true] at z
          exact PWm (pw_or (ha.t z.1) (hb.w z.2 rfl)) fun σ H Q q => or_t q
        exact ⟨pe, dO_E pe, fun z => (pw z).pt, fun z _ => pw z⟩
      | [], h => simp [chk] at h
      | [_], h => simp [chk] at h
theorem s_not {a} (i_a : SEx G cf a) : SEx G cf (.not a) := by
    intro X e g h B
    cases e <;> (try simp only [chk] at h) <;> first | exact absurd h Bool.false_ne_true | skip
    rename_i op x p
    cases op <;> (try simp only [chk] at h) <;> first | exact absurd h Bool.false_ne_true | skip
    have ha := i_a X _ g h B
    have pe := PEm (pe_not (pos := p) ha.pe) fun σ H Q q => not_e q
    exact ⟨pe, dO_E pe, fun z => PTm (pt_not (ha.t z)) fun σ H Q q => not_t q, fun _ z => by cases z⟩
theorem s_ite {c} {a} {b} (i_c : SEx G cf c) (i_a : SEx G cf a) (i_b : SEx G cf b) : SEx G cf (.ite c a b) := by
    intro X e g h B
    cases e <;> (try simp only [chk, Bool.and_eq_true] at h) <;> first | exact absurd h Bool.false_ne_true | skip
    obtain ⟨⟨⟨h0, h1⟩, h2⟩, h3⟩ := h
    have pe := PEm (pe_ifExp (pos := by assumption) ((i_c X _ g h1 B).t h0) (i_a X _ g h2 B).pe (i_b X _ g h3 B).pe) fun σ H Q q => ite_e q
    exact ⟨pe, dO_E pe, fun z => (by cases z), fun _ z => by cases z⟩
theorem s_idx {a} {b} (i_a : SEx G cf a) (i_b : SEx G cf b) : SEx G cf (.idx a b) := by
    intro X e g h B
    cases e <;> (try simp only [chk] at h) <;> first | exact absurd h Bool.false_ne_true | skip
    simp only [Bool.and_eq_true] at h
    obtain ⟨⟨h1, h2⟩, h3⟩ := h
    exact .plain (PEm (pe_ix idx_ix (i_a X _ g h2 B).o (i_b X _ g h3 B).o (plainIx_of h1)) fun σ H Q q => app2_r idx_r q) rfl rfl
theorem s_slc {a} {lo} {hi} (i_a : SEx G cf a) (i_lo : SAl G cf lo) (i_hi : SAl G cf hi) : SEx G cf (.slc a lo hi) := by
    intro X e g h B
    cases e <;> (try simp only [chk] at h) <;> first | exact absurd h Bool.false_ne_true | skip
    rename_i l r p
    cases r <;> (try simp only [chk] at h) <;> first | exact absurd h Bool.false_ne_true | skip
    rename_i l1 h1 s1 p1
    cases s1 <;> (try simp only [chk, Bool.and_eq_true] at h) <;> first | exact absurd h Bool.false_ne_true | skip
    obtain ⟨⟨h2, h3⟩, h4⟩ := h
    exact .plain (PEm (pe_slice slc_sl (i_a X _ g h2 B).o (sndP lo i_lo X _ g h3 B) (sndP hi i_hi X _ g h4 B)) fun σ H Q q => slc_e q) rfl rfl
theorem s_tup {es} (i_es : SAl G cf es) : SEx G cf (.tup es) := by
    intro X e g h B
    cases e <;> (try simp only [chk] at h) <;> first | exact absurd h Bool.false_ne_true | skip
    have hh := sndF es i_es X _ g h B
    exact .plain (PEm (pe_tup hh.1) fun σ H Q q => tup_r hh.2 q) rfl rfl
theorem s_lst {es} (i_es : SAl G cf es) : SEx G cf (.lst es) := by
    intro X e g h B
    cases e <;> (try simp only [chk] at h) <;> first | exact absurd h Bool.false_ne_true | skip
    have hh := sndF es i_es X _ g h B
    exact .plain (PEm (pe_lst hh.1) fun σ H Q q => lst_r hh.2 q) rfl rfl
theorem s_call0 {f} {io}  : SEx G cf (.call f io .nil) := by
    intro X e g h B
    cases e <;> (try simp only [chk] at h) <;> first | exact absurd h Bool.false_ne_true | skip
    rename_i fn args kws p
    cases io <;> (try simp only [chk] at h) <;> first | exact absurd h Bool.false_ne_true | skip
    cases fn <;> (try simp only [chk] at h) <;> first | exact absurd h Bool.false_ne_true | skip
    match args, kws, h with
    | [], [], h =>
      simp only [chk, Bool.and_eq_true] at h
      obtain ⟨⟨h1, h2⟩, h3⟩ := h
      split at h1
      case h_2 => exact absurd h1 Bool.false_ne_true
      rename_i y n e1
      simp only [Bool.and_eq_true, beq_iff_eq] at h1
      obtain ⟨rfl, rfl⟩ := h1
      obtain ⟨k, a, fd, ps, F, hr, hm, hk, hb⟩ := g.fn _ _ _ e1
      obtain ⟨d1, d2, d3⟩ := nameOk_of h3
      exact .plain (PEm (pe_call0 F hr (gl_of h2) hm hk hb .nil pass0 d1) fun σ H Q q => call0_e q) rfl rfl
    | _ :: _, [], h => simp [chk] at h
    | _ :: _, _ :: _, h => simp [chk] at h
    | [], _ :: _, h => simp [chk] at h
theorem s_call {f} {io} {x} {xs} (i_x : SEx G cf x) (i_xs : SAl G cf xs) : SEx G cf (.call f io (.cons x xs)) := by
    intro X e g h B
    cases e <;> (try simp only [chk] at h) <;> first | exact absurd h Bool.false_ne_true | skip
    rename_i fn args kws p
    cases fn <;> (try simp only [chk] at h) <;> first | exact absurd h Bool.false_ne_true | skip
    rename_i y py
    match args, kws, h with
    | e' :: es', [], h =>
      simp only [chk, Bool.and_eq_true] at h
      obtain ⟨⟨⟨⟨⟨⟨h1, h2⟩, h3⟩, h4⟩, h5⟩, h6⟩, h7⟩ := h
      split at h1
      case h_2 => exact absurd h1 Bool.false_ne_true
      rename_i y' n e1
      simp only [Bool.and_eq_true, beq_iff_eq] at h1
      obtain ⟨rfl, rfl⟩ := h1
      obtain ⟨k, a, fd, ps, F, hr, hm, hk, hb⟩ := g.fn _ _ _ e1
      obtain ⟨d1, d2, d3⟩ := nameOk_of h3
      have ha := sndA xs i_xs X _ g h7 B
      have pa := dOs_cons (i_x X _ g h6 B).o ha.1 (star_cons h4)
      refine .plain (PEm (pe_call F hr (gl_of h2) hm hk hb .nil pass0 pa d1 (star_cons h4) (star_any h5)) fun σ H Q q => call_e (cf := cf) (f := f) (io := io) ?_ q) rfl rfl
      simp [ha.2]
    | [], kws, h => cases kws <;> simp [chk] at h
    | _ :: _, _ :: _, h => simp [chk] at h
theorem s_blt0 {b}  : SEx G cf (.blt b .nil) := by
    intro X e g h B
    cases e <;> (try simp only [chk] at h) <;> first | exact absurd h Bool.false_ne_true | skip
theorem s_blt {b} {x} {xs} (i_x : SEx G cf x) (i_xs : SAl G cf xs) : SEx G cf (.blt b (.cons x xs)) := by
    intro X e g h B
    cases e <;> (try simp only [chk] at h) <;> first | exact absurd h Bool.false_ne_true | skip
    rename_i fn args kws p
    cases fn <;> (try simp only [chk] at h) <;> first | exact absurd h Bool.false_ne_true | skip
    rename_i y py
    match args, kws, h with
    | e' :: es', [], h =>
      simp only [chk, Bool.and_eq_true] at h
      obtain ⟨⟨⟨⟨⟨⟨h1, h2⟩, h3⟩, h4⟩, h5⟩, h6⟩, h7⟩ := h
      obtain ⟨d1, d2, d3⟩ := nameOk_of h3
      have ha := sndA xs i_xs X _ g h7 B
      have pa := dOs_cons (i_x X _ g h6 B).o ha.1 (star_cons h4)
      have hg := gl_of h2
      have he := star_cons (X := X) (es := es') h4
      have hp := star_any (X := X) (pos := p) h5
      have r : PE X (.Call (.Name y py) (e' :: es') [] p) (tCB (rBlt X.K b) (dOs X.K B (evs cf (.cons x xs)))) := by
        cases b <;> (try simp only [Bool.and_eq_true, beq_iff_eq] at h1) <;> first | exact absurd h1 Bool.false_ne_true | skip
        · obtain ⟨rfl, hf⟩ := h1
          exact pe_callB call_len_seq hg (g.free _ hf) boot_len pa d3 d1 he hp
        · obtain ⟨rfl, hf⟩ := h1
          exact pe_callB call_abs hg (g.free _ hf) (by decide +kernel) pa d3 d1 he hp
        · obtain ⟨rfl, hf⟩ := h1
          exact pe_callTy call_int1 hg (g.free _ hf) (by decide +kernel) pa d3 d1 he hp
        · obtain ⟨rfl, hf⟩ := h1
          exact pe_callB (cr_sum g.calm) hg (g.free _ hf) (by decide +kernel) pa d3 d1 he hp
        · obtain ⟨rfl, hf⟩ := h1
          exact pe_callTy call_tuple_of hg (g.free _ hf) (by decide +kernel) pa d3 d1 he hp
        · obtain ⟨rfl, hf⟩ := h1
          exact pe_callTy call_list_of hg (g.free _ hf) (by decide +kernel) pa d3 d1 he hp
        · obtain ⟨rfl, hf⟩ := h1
          exact pe_callB ((call_max2 g.calm).or (cr_max g.calm)) hg (g.free _ hf) (by decide +kernel) pa d3 d1 he hp
        · obtain ⟨rfl, hf⟩ := h1
          exact pe_callB ((call_min2 g.calm).or (cr_min g.calm)) hg (g.free _ hf) (by decide +kernel) pa d3 d1 he hp
        · obtain ⟨rfl, hf⟩ := h1
          exact pe_callB (cr_all g.calm) hg (g.free _ hf) (by decide +kernel) pa d3 d1 he hp
        · obtain ⟨rfl, hf⟩ := h1
          exact pe_callB (cr_any g.calm) hg (g.free _ hf) (by decide +kernel) pa d3 d1 he hp
        · split at h1
          case h_2 => exact absurd h1 Bool.false_ne_true
          rename_i s e1
          have := eq_of_beq h1
          subst this
          exact pe_callBfun cr_comb hg (g.bl _ _ e1) pa d1 he hp
        · split at h1
          case h_2 => exact absurd h1 Bool.false_ne_true
          rename_i s e1
          have := eq_of_beq h1
          subst this
          exact pe_callBfun cr_gcd hg (g.bl _ _ e1) pa d1 he hp
        · obtain ⟨rfl, hf⟩ := h1
          exact pe_callB cr_sortedI hg (g.free _ hf) (by decide +kernel) pa d3 d1 he hp
      exact .plain (PEm r fun σ H Q q => appA_r (blt_r b) q) rfl rfl
    | [], kws, h => cases kws <;> simp [chk] at h
    | _ :: _, _ :: _, h => simp [chk] at h
theorem s_lens {a} (i_a : SEx G cf a) : SEx G cf (.lens a) := by
    intro X e g h B
    unfold chk at h
    split at h
    all_goals first | contradiction | skip
    rename_i w1 w2 a' x px y py e p p2 hs
    cases hs
    simp only [Bool.and_eq_true, beq_iff_eq] at h
    obtain ⟨⟨⟨⟨⟨⟨⟨rfl, rfl⟩, h3⟩, h4⟩, h5⟩, h6⟩, h7⟩, h8⟩ := h
    exact .plain (PEm (pe_lens g.calm g.hu (gl_of h5) (g.free _ h3) (gl_of h6) (g.free _ h4) (i_a X _ g h8 B).o (star_cons h7)) fun σ H Q q => app1_r lens_r q) rfl rfl
theorem s_isi {a} {t} (i_a : SEx G cf a) : SEx G cf (.isi a t) := by
    intro X e g h B
    cases e <;> (try simp only [chk] at h) <;> first | exact absurd h Bool.false_ne_true | skip
    rename_i fn args kws p
    cases fn <;> (try simp only [chk] at h) <;> first | exact absurd h Bool.false_ne_true | skip
    rename_i x px
    match args, kws, h with
    | [e, .Name y py], [], h =>
      simp only [chk, Bool.and_eq_true, beq_iff_eq] at h
      obtain ⟨⟨⟨⟨⟨⟨⟨rfl, rfl⟩, h3⟩, h4⟩, h5⟩, h6⟩, h7⟩, h8⟩ := h
      have hn := g.free _ h4
      have pt : PE X (.Name (Str.ofString (nameT t)) py) (tC (.ty (nameT t))) := by
        cases t
        · exact pe_bltn (gl_of h6) hn (v := .ty "int") (u := .type "int") (by decide +kernel) rfl (by decide) (by decide)
        · exact pe_bltn (gl_of h6) hn (v := .ty "bool") (u := .type "bool") (by decide +kernel) rfl (by decide) (by decide)
        · exact pe_bltn (gl_of h6) hn (v := .ty "str") (u := .type "str") (by decide +kernel) rfl (by decide) (by decide)
        · exact pe_bltn (gl_of h6) hn (v := .ty "tuple") (u := .type "tuple") (by decide +kernel) rfl (by decide) (by decide)
        · exact pe_bltn (gl_of h6) hn (v := .ty "list") (u := .type "list") (by decide +kernel) rfl (by decide) (by decide)
      have pa := pa_cons (i_a X _ g h8 B).o (pa_cons pt pa_nil rfl) (star_cons h7)
      exact .plain (PEm (pe_callB call_isi (gl_of h5) (g.free _ h3) (by decide +kernel) pa (by decide) (by decide) (star_cons h7) rfl) fun σ H Q q => isi_e q) rfl rfl
theorem s_lc {s} {tg} {vs} {ifs} {e} (i_s : SSr G cf s) (i_ifs : SAl G cf ifs) (i_e : SEx G cf e) : SEx G cf (.lc s tg vs ifs e) := by
    intro X ex g h B
    cases ex <;> (try simp only [chk] at h) <;> first | exact absurd h Bool.false_ne_true | skip
    rename_i elt gens wsc p
    match gens, h with
    | [⟨t, iter, ifs', 0⟩], h =>
      simp only [chk, Bool.and_eq_true] at h
      obtain ⟨⟨⟨⟨⟨h1, h2⟩, h3⟩, h4⟩, h5⟩, h6⟩ := h
      have bo := blkOk_by h1
      have gb := fun (s : Shared) (H : Hp) (C : Addr) (cl : List (Str × Addr)) (fp : List Addr) => g.blk s H wsc (compEnvC wsc cl C X.env) fp
      have hfn : ∀ (s : Shared) (H : Hp) (C : Addr) (cl : List (Str × Addr)) (fp : List Addr) (x : Str), wsc.names.lookup x = some .cell → (X.blk s H wsc (compEnvC wsc cl C X.env) fp).fn x = true := fun s H C cl fp x hx => by
        show (wsc.names.lookup x == some .cell) = true
        rw [hx]; rfl
      have r := pe_lc (pos := p) g.calm g.nd (i_s X t iter g h3 B) bo (fun s H C cl fp => PG_all fun B => pg_target (gb s H C cl fp).nd (gb s H C cl fp).calm (hfn s H C cl fp) h4 B)
        (fun s H C cl fp => PTs_all fun B => sndI ifs i_ifs _ _ (gb s H C cl fp) h5 B) (fun s H C cl fp => PE_all fun B => (i_e _ _ (gb s H C cl fp) h6 B).pe) (folded_of h2)
      rw [ownOf_snd] at r
      exact .plain (PEm r fun σ H Q q => lc_r q) rfl rfl
theorem s_seq {a} (i_a : SEx G cf a) : SSr G cf (.seq a) := by
    intro X t it g h B
    simp only [chkS] at h
    exact dI_seq (i_a X _ g h B).o
theorem s_rng {a} (i_a : SEx G cf a) : SSr G cf (.rng a) := by
    intro X t it g h B
    unfold chkS at h
    split at h
    case h_2 w1 w2 w3 aa xx pp ee qq hs =>
      cases hs
      simp only [Bool.and_eq_true, beq_iff_eq] at h
      obtain ⟨⟨⟨⟨rfl, h2⟩, h3⟩, h4⟩, h5⟩ := h
      exact dI_rng (gl_of h3) (g.free _ h2) (dOs_cons (dO_E (i_a X _ g h5 B).pe) dOs_nil (star_cons h4)) (star_cons h4)
    all_goals first | contradiction | exact absurd h Bool.false_ne_true
theorem s_rng2 {a} {b} (i_a : SEx G cf a) (i_b : SEx G cf b) : SSr G cf (.rng2 a b) := by
    intro X t it g h B
    unfold chkS at h
    split at h
    case h_3 w1 w2 w3 aa bb xx pp ee ee' qq hs =>
      cases hs
      simp only [Bool.and_eq_true, beq_iff_eq] at h
      obtain ⟨⟨⟨⟨⟨⟨rfl, h2⟩, h3⟩, h4⟩, h5⟩, h6⟩, h7⟩ := h
      exact dI_rng2 (gl_of h3) (g.free _ h2) (dOs_cons (dO_E (i_a X _ g h6 B).pe) (dOs_cons (dO_E (i_b X _ g h7 B).pe) dOs_nil (star_cons h5)) (star_cons h4)) (by rw [star_cons h4, star_cons h5]; rfl) (star_cons h5)
    all_goals first | contradiction | exact absurd h Bool.false_ne_true
theorem s_enm {a} (i_a : SEx G cf a) : SSr G cf (.enm a) := by
    intro X t it g h B
    unfold chkS at h
    split at h
    case h_4 w1 w2 w3 aa el kk pp0 xx pp ee qq hs =>
      cases hs
      simp only [Bool.and_eq_true, beq_iff_eq] at h
      obtain ⟨⟨⟨⟨rfl, h2⟩, h3⟩, h4⟩, h5⟩ := h
      exact dI_enm (gl_of h3) (g.free _ h2) (dOs_cons (dO_E (i_a X _ g h5 B).pe) dOs_nil (star_cons h4)) (star_cons h4)
    all_goals first | contradiction | exact absurd h Bool.false_ne_true
theorem s_zip {a} {b} (i_a : SEx G cf a) (i_b : SEx G cf b) : SSr G cf (.zip a b) := by
    intro X t it g h B
    unfold chkS at h
    split at h
    case h_5 w1 w2 w3 aa bb el kk pp0 xx pp ee ee' qq hs =>
      cases hs
      simp only [Bool.and_eq_true, beq_iff_eq] at h
      obtain ⟨⟨⟨⟨⟨⟨rfl, h2⟩, h3⟩, h4⟩, h5⟩, h6⟩, h7⟩ := h
      exact dI_zip (gl_of h3) (g.free _ h2) (dOs_cons (dO_E (i_a X _ g h6 B).pe) (dOs_cons (dO_E (i_b X _ g h7 B).pe) dOs_nil (star_cons h5)) (star_cons h4)) (star_cons h4) (star_any (by rw [List.all_cons, h5]; rfl))
    all_goals first | contradiction | exact absurd h Bool.false_ne_true
variable (G cf)
mutual
theorem snd : ∀ x : Ex, SEx G cf x
  | .var i => s_var 
  | .con d => s_con 
  | .glb x d => s_glb 
  | .bin o a b => s_bin (snd a) (snd b)
  | .neg a => s_neg (snd a)
  | .cmp o a b => s_cmp (snd a) (snd b)
  | .chn o o' a b c => s_chn (snd a) (snd b) (snd c)
  | .and a b => s_and (snd a) (snd b)
  | .or a b => s_or (snd a) (snd b)
  | .not a => s_not (snd a)
  | .ite c a b => s_ite (snd c) (snd a) (snd b)
  | .idx a b => s_idx (snd a) (snd b)
  | .slc a lo hi => s_slc (snd a) (snds lo) (snds hi)
  | .tup es => s_tup (snds es)
  | .lst es => s_lst (snds es)
  | .call f io .nil => s_call0 
  | .call f io (.cons x xs) => s_call (snd x) (snds xs)
  | .blt b .nil => s_blt0 
  | .blt b (.cons x xs) => s_blt (snd x) (snds xs)
  | .lens a => s_lens (snd a)
  | .isi a t => s_isi (snd a)
  | .lc s tg vs ifs e => s_lc (sndS s) (snds ifs) (snd e)
theorem snds : ∀ x : Exs, SAl G cf x
  | .nil => trivial
  | .cons x r => ⟨snd x, snds r⟩
theorem sndS : ∀ x : Src, SSr G cf x
  | .seq a => s_seq (snd a)
  | .rng a => s_rng (snd a)
  | .rng2 a b => s_rng2 (snd a) (snd b)
  | .enm a => s_enm (snd a)
  | .zip a b => s_zip (snd a) (snd b)
end
end
end Ev
namespace Ev
open PySem PySem.Spec PyProof.Rows L2

def swB (sc : Scope) (v : Expr) (x : Str) (p : Pos) : Bool := match v with
  | .ListComp _ _ s vp => (match sc.names.lookup x with | some .local => true | _ => false) && p.line == vp.line && !(s.names.any fun (n, k) => n == x && (k == .local || k == .cell))
  | .SetComp .. => true
  | .DictComp .. => true
  | _ => false
def locB (sc : Scope) (x : Str) : Bool := match sc.names.lookup x with
  | some .local => true
  | some .cell => true
  | _ => false
def swNone (sc : Scope) (ts vs : List Expr) : Bool :=
  !(ts.length == 2 || ts.length == 3) || vs.length != ts.length || vs.all (foldedForSure 8) || (ts.filterMap fun
    | .Name id pos => if sc.names.lookup id == some .local && pos.line == ((ts.head?.map (·.pos.line)).getD 0) then some id else none
    | _ => none).length != ts.length
def isLocal (sc : Scope) (x : Str) : Bool := match sc.names.lookup x with
  | some .local => true
  | _ => false
section
variable (G : Gs) (N : List Str) (sc : Scope)
mutual
def chkM : Sm → Stmt → Bool
  | .rse, _ => true
  | .ret e, .Return (some v) _ => chk G N sc e v
  | .asg i e, .Assign [.Name x p] v _ => decide (N[i]? = some x) && locB sc x && chk G N sc e v && (match e, v with
    | .lc .., .ListComp elt gens s vp => !swB sc (.ListComp elt gens s vp) x p || isLocal sc x
    | _, v => noComp v)
  | .par i j a b, .Assign [.Tuple [.Name x px, .Name y py] _ _] (.Tuple [v, w] _ _) _ => decide (N[i]? = some x) && decide (N[j]? = some y) && i != j && isLocal sc x && isLocal sc y && px.line == py.line && x != y && !([v, w].all (foldedForSure 8)) && !([v, w].all (constantsAlone 8)) && noStar v && noStar w && chk G N sc a v && chk G N sc b w
  | .par3 i j k a b c, .Assign [.Tuple [.Name x px, .Name y py, .Name z pz] _ _] (.Tuple [u, v, w] _ _) _ => decide (N[i]? = some x) && decide (N[j]? = some y) && decide (N[k]? = some z) && i != j && i != k && j != k && isLocal sc x && isLocal sc y && isLocal sc z && px.line == py.line && px.line == pz.line && x != y && x != z && y != z && !([u, v, w].all (foldedForSure 8)) && !([u, v, w].all (constantsAlone 8)) && noStar u && noStar v && noStar w && chk G N sc a u && chk G N sc b v && chk G N sc c w
  | .unp is e, .Assign [.Tuple es k p] v _ => tgB N sc sc is es && noComp v && (match v with | .Tuple vs _ _ => swNone sc es vs | _ => true) && chk G N sc e v
  | .sto i k e, .Assign [.Subscript (.Name x px) ix _] v _ => decide (N[i]? = some x) && visB sc x && nameOk x && noComp v && noSlice ix && chk G N sc k ix && chk G N sc e v
  | .app i e, .Expr (.Call (.Attribute (.Name x px) a ap) [v] [] cp) _ => a == ("append" : Str) && decide (N[i]? = some x) && visB sc x && nameOk x && noStar v && ap.endLine == cp.line && chk G N sc e v
  | .drop e, .Expr v _ => noComp v && chk G N sc e v
  | .ife c a b, .If c' a' b' _ => tB c && chk G N sc c c' && chkMs a a' && chkMs b b'
  | .whl c a, .While c' a' [] _ => tB c && chk G N sc c c' && chkMs a a'
  | .fr s tg a, .For t it a' [] _ => noSet it && chkS G N sc s t it && tgtB N sc sc tg t && chkMs a a'
  | .pass, .Pass _ => true
  | .brk, .Break _ => true
  | .cnt, .Continue _ => true
  | _, _ => false
def chkMs : Sms → List Stmt → Bool
  | .nil, [] => true
  | .cons s r, t :: ts => chkM s t && chkMs r ts
  | _, _ => false
end
end
structure MOk (G : Gs) (X : Cx) (cf : CF) : Prop where
  g : GOk G X cf
  bk : X.env.blockKind = .function
  fn : ∀ x, X.fn x = true
  pass : PassesOwn (model X.prog X.w) X.A X.env X.xe
section
variable {X : Cx} {cf : CF} {G : Gs} {N : List Str}
theorem locB_of {sc : Scope} {x : Str} (h : locB sc x = true) : Loc sc x := by
  unfold locB at h
  split at h
  · exact .inl (by assumption)
  · exact .inr (by assumption)
  · cases h
theorem isLocal_of {sc : Scope} {x : Str} (h : isLocal sc x = true) : sc.names.lookup x = some .local := by
  unfold isLocal at h
  split at h
  · assumption
  · cases h
theorem sw_plain {v : Expr} {t : Option Expr} {n : Nat} {env : PySem.Env} (h : noComp v = true) : swapsWith v t n env = pure false := by
  cases v <;> first | rfl | cases h
theorem sole_plain {v t : Expr} {n : Nat} {env : PySem.Env} (h : noComp v = true) : swapsWithSole [t] v n env = pure false := sw_plain h
theorem sw_lc {elt : Expr} {gens : List Comprehension} {s : Scope} {vp p : Pos} {x : Str} {n : Nat} {env : PySem.Env} (hb : env.blockKind = .function) : swapsWith (.ListComp elt gens s vp) (some (.Name x p)) n env = pure (swB env.scope (.ListComp elt gens s vp) x p) := by
  show (do return env.blockKind == .function && env.kindOf x == some .local && p.line == vp.line && !(s.names.any fun (n, k) => n == x && (k == .local || k == .cell)) : Sem Bool) = _
  rw [hb]
  show pure _ = pure _
  congr 1
  show ((env.scope.names.lookup x == some .local) && p.line == vp.line && !(s.names.any fun (n, k) => n == x && (k == .local || k == .cell))) = _
  unfold swB
  congr 2
  cases h : env.scope.names.lookup x with
  | none => rfl
  | some k => cases k <;> rfl
theorem par_sw {x y : Str} {px py pt p2 : Pos} {v w : Expr} {kt k2} {env : PySem.Env} (hb : env.blockKind = .function) (hx : env.scope.names.lookup x = some .local) (hy : env.scope.names.lookup y = some .local) (hl : (px.line == py.line) = true) (hne : (x != y) = true) (h1 : [v, w].all (foldedForSure 8) = false) (h2 : [v, w].all (constantsAlone 8) = false) (s1 : noStar v = true) (s2 : noStar w = true) :
    swappedStores [.Tuple [.Name x px, .Name y py] kt pt] (.Tuple [v, w] k2 p2) env = pure (some [x, y]) := by
  have e1 : env.kindOf x = some .local := hx
  have e2 : env.kindOf y = some .local := hy
  have l1 : px.line = py.line := eq_of_beq hl
  have st : ([v, w].any fun | .Starred .. => true | _ => false) = false := by
    have n1 : ∀ {v : Expr}, noStar v = true → (match v with | .Starred .. => true | _ => false) = false := fun {v} z => by cases v <;> first | rfl | cases z
    rw [List.any_cons, List.any_cons, List.any_nil, n1 s1, n1 s2]; rfl
  have ne : x ≠ y := by simpa using hne
  have yx : (y == x) = false := by
    rw [beq_eq_false_iff_ne]; exact Ne.symm ne
  have n1 : ∀ {v : Expr}, noStar v = true → (match v with | .Starred .. => true | _ => false) = false := fun {v} z => by cases v <;> first | rfl | cases z
  unfold swappedStores
  simp [hb, e1, e2, l1, h1, h2, Expr.pos, List.eraseDups, List.eraseDupsBy, List.eraseDupsBy.loop]
  rw [if_neg (fun z => z.elim (fun z => absurd (z.symm.trans (n1 s1)) (by decide)) (fun z => absurd (z.symm.trans (n1 s2)) (by decide))), yx]
  rfl
theorem par3_sw {x y z : Str} {px py pz pt p2 : Pos} {u v w : Expr} {kt k2} {env : PySem.Env} (hb : env.blockKind = .function) (hx : env.scope.names.lookup x = some .local) (hy : env.scope.names.lookup y = some .local) (hz : env.scope.names.lookup z = some .local) (hl : (px.line == py.line) = true) (hl2 : (px.line == pz.line) = true) (hne : (x != y) = true) (hne2 : (x != z) = true) (hne3 : (y != z) = true)
    (h1 : [u, v, w].all (foldedForSure 8) = false) (h2 : [u, v, w].all (constantsAlone 8) = false) (s1 : noStar u = true) (s2 : noStar v = true) (s3 : noStar w = true) :
    swappedStores [.Tuple [.Name x px, .Name y py, .Name z pz] kt pt] (.Tuple [u, v, w] k2 p2) env = pure (some [x, y, z]) := by
  have e1 : env.kindOf x = some .local := hx
  have e2 : env.kindOf y = some .local := hy
  have e3 : env.kindOf z = some .local := hz
  have l1 : px.line = py.line := eq_of_beq hl
  have l2 : pz.line = py.line := by rw [← l1]; exact (eq_of_beq hl2).symm
  have ne : x ≠ y := by simpa using hne
  have ne2 : x ≠ z := by simpa using hne2
  have ne3 : y ≠ z := by simpa using hne3
  have yx : (y == x) = false := by
    rw [beq_eq_false_iff_ne]; exact Ne.symm ne
  have zx : (z == x) = false := by
    rw [beq_eq_false_iff_ne]; exact Ne.symm ne2
  have zy : (z == y) = false := by
    rw [beq_eq_false_iff_ne]; exact Ne.symm ne3
  have n1 : ∀ {v : Expr}, noStar v = true → (match v with | .Starred .. => true | _ => false) = false := fun {v} z => by cases v <;> first | rfl | cases z
  have ed : [x, y, z].eraseDups = [x, y, z] := by
    simp [List.eraseDups, List.eraseDupsBy, List.eraseDupsBy.loop, yx, zx, zy]
  unfold swappedStores
  simp [hb, e1, e2, e3, l1, l2, h1, h2, Expr.pos, ed]
  intro q
  exfalso
  rcases q with q | q | q
  · exact absurd (q.symm.trans (n1 s1)) (by decide)
  · exact absurd (q.symm.trans (n1 s2)) (by decide)
  · exact absurd (q.symm.trans (n1 s3)) (by decide)
theorem no_sw {es : List Expr} {k : Nat} {p : Pos} {v : Expr} {env : PySem.Env} (hb : env.blockKind = .function) (h : (match v with | .Tuple vs _ _ => swNone env.scope es vs | _ => true) = true) : swappedStores [.Tuple es k p] v env = pure none := by
  cases v <;> first | rfl | skip
  rename_i vs k2 p2
  have h : swNone env.scope es vs = true := h
  unfold swNone at h
  simp only [Bool.or_eq_true] at h
  unfold swappedStores
  simp only [hb]
  have ek : ∀ x, env.kindOf x = env.scope.names.lookup x := fun _ => rfl
  simp only [ek]
  split
  · rfl
  · split
    · rfl
    · split
      · rfl
      · rename_i g1 g2 g3
        rcases h with ((h | h) | h) | h
        · exact absurd (by rw [h]; rfl) g1
        · exact absurd (by rw [h, Bool.or_true]; rfl) g1
        · rw [if_pos h]
        · exact absurd (by rw [Bool.or_eq_true]; exact .inl h) g3
theorem no_sw_sub {o i : Expr} {p : Pos} {v : Expr} {env : PySem.Env} : swappedStores [.Subscript o i p] v env = pure none := by
  cases v <;> rfl
end
section
variable (G : Gs) (cf : CF)
def SM (s : Sm) : Prop := ∀ (X : Cx) (st : Stmt), MOk G X cf → chkM G X.N X.env.scope s st = true → ∀ B, PS X st (dS X.K B (ex cf s))
def SMs (s : Sms) : Prop := ∀ (X : Cx) (st : List Stmt), MOk G X cf → chkMs G X.N X.env.scope s st = true → ∀ B, PSs X st (dS X.K B (exs cf s))
variable {G cf}
theorem m_ret {e} : SM G cf (.ret e) := by
  intro X st m h B
  unfold chkM at h
  split at h
  all_goals first | contradiction | skip
  rename_i hs; cases hs
  exact dS_ret (snd G cf _ X _ m.g h B).pe
theorem m_asg {i e} : SM G cf (.asg i e) := by
  intro X st m h B
  unfold chkM at h
  split at h
  all_goals first | contradiction | skip
  rename_i x p v q hs; cases hs
  simp only [Bool.and_eq_true, decide_eq_true_eq] at h
  obtain ⟨⟨⟨h1, h2⟩, h3⟩, h4⟩ := h
  have hl := locB_of h2
  have pe := (snd G cf e X v m.g h3 B).pe
  split at h4
  · rename_i w1 w2 s tg vs ifs e0 elt gens scp vp
    rw [Bool.or_eq_true] at h4
    cases hsw : swB X.env.scope (.ListComp elt gens scp vp) x p with
    | false => exact dS_asg (ps_set m.g.nd h1 hl pe (by rw [sw_lc m.bk, hsw]) (.inl (m.fn x)))
    | true =>
      rcases h4 with h4 | h4
      · rw [hsw] at h4; cases h4
      have hx := isLocal_of h4
      have hw : ∀ n, swapsWith (.ListComp elt gens scp vp) (some (.Name x p)) n X.env = pure true := fun n => by rw [sw_lc m.bk, hsw]
      refine dS_asg ?_
      unfold chk at h3
      split at h3
      all_goals first | contradiction | skip
      rename_i w3 w4 s' tg' vs' ifs' e' elt' t' iter' ifs'' wsc' p' hs1 hs2
      cases hs1
      cases hs2
      simp only [Bool.and_eq_true] at h3
      obtain ⟨⟨⟨⟨⟨k1, k2⟩, k3⟩, k4⟩, k5⟩, k6⟩ := h3
      have g := m.g
      have bo := blkOk_by k1
      have gb := fun (s : Shared) (H : Hp) (C : Addr) (cl : List (Str × Addr)) (fp : List Addr) => g.blk s H scp (compEnvC scp cl C X.env) fp
      have hfn : ∀ (s : Shared) (H : Hp) (C : Addr) (cl : List (Str × Addr)) (fp : List Addr) (x : Str), scp.names.lookup x = some .cell → (X.blk s H scp (compEnvC scp cl C X.env) fp).fn x = true := fun s H C cl fp x hx => by
        show (scp.names.lookup x == some .cell) = true
        rw [hx]; rfl
      have r := ps_setLc (spos := q) g.calm g.nd h1 hx (hw _) (sndS G cf s X t' iter' g k3 B) bo (fun s H C cl fp => PG_all fun B => pg_target (gb s H C cl fp).nd (gb s H C cl fp).calm (hfn s H C cl fp) k4 B)
        (fun s H C cl fp => PTs_all fun B => sndI ifs (snds G cf ifs) _ _ (gb s H C cl fp) k5 B) (fun s H C cl fp => PE_all fun B => (snd G cf e0 _ _ (gb s H C cl fp) k6 B).pe) (folded_of k2)
      rw [ownOf_snd] at r
      exact PSm r fun D σ H q => lc_r q
  · exact dS_asg (ps_set m.g.nd h1 hl pe (sw_plain h4) (.inl (m.fn x)))
theorem m_par {i j a b} : SM G cf (.par i j a b) := by
  intro X st m h B
  unfold chkM at h
  split at h
  all_goals first | contradiction | skip
  rename_i hs; cases hs
  simp only [Bool.and_eq_true, decide_eq_true_eq, Bool.not_eq_true', bne_iff_ne] at h
  obtain ⟨⟨⟨⟨⟨⟨⟨⟨⟨⟨⟨⟨h1, h2⟩, h3⟩, h4⟩, h5⟩, h6⟩, h7⟩, h8⟩, h9⟩, h10⟩, h11⟩, h12⟩, h13⟩ := h
  exact dS_par (ta := fun _ _ _ => False) h3 (ps_par m.g.calm m.g.nd h1 h2 h3 (isLocal_of h4) (isLocal_of h5) (dOs_cons (dO_E (snd G cf a X _ m.g h12 B).pe) (dOs_cons (dO_E (snd G cf b X _ m.g h13 B).pe) dOs_nil (star_cons h11)) (star_cons h10))
    (par_sw m.bk (isLocal_of h4) (isLocal_of h5) h6 (by rw [bne_iff_ne]; exact h7) h8 h9 h10 h11))
theorem m_par3 {i j k a b c} : SM G cf (.par3 i j k a b c) := by
  intro X st m h B
  unfold chkM at h
  split at h
  all_goals first | contradiction | skip
  rename_i hs; cases hs
  simp only [Bool.and_eq_true, decide_eq_true_eq, Bool.not_eq_true', bne_iff_ne] at h
  obtain ⟨⟨⟨⟨⟨⟨⟨⟨⟨⟨⟨⟨⟨⟨⟨⟨⟨⟨⟨⟨⟨h1, h2⟩, h3⟩, h4⟩, h5⟩, h6⟩, h7⟩, h8⟩, h9⟩, h10⟩, h11⟩, h12⟩, h13⟩, h14⟩, h15⟩, h16⟩, h17⟩, h18⟩, h19⟩, h20⟩, h21⟩, h22⟩ := h
  exact dS_par3 (ps_par3 m.g.calm m.g.nd h1 h2 h3 h4 h5 h6 (isLocal_of h7) (isLocal_of h8) (isLocal_of h9) (dOs_cons (dO_E (snd G cf a X _ m.g h20 B).pe) (dOs_cons (dO_E (snd G cf b X _ m.g h21 B).pe) (dOs_cons (dO_E (snd G cf c X _ m.g h22 B).pe) dOs_nil (star_cons h19)) (star_cons h18)) (star_cons h17))
    (par3_sw m.bk (isLocal_of h7) (isLocal_of h8) (isLocal_of h9) h10 h11 (by rw [bne_iff_ne]; exact h12) (by rw [bne_iff_ne]; exact h13) (by rw [bne_iff_ne]; exact h14) h15 h16 h17 h18 h19))
theorem m_unp {is e} : SM G cf (.unp is e) := by
  intro X st m h B
  unfold chkM at h
  split at h
  all_goals first | contradiction | skip
  rename_i hs; cases hs
  simp only [Bool.and_eq_true] at h
  obtain ⟨⟨⟨h1, h2⟩, h3⟩, h4⟩ := h
  obtain ⟨k1, k2, k3⟩ := pg_names m.g.nd (fun x _ => m.fn x) h1 B
  exact dS_unp (t := fun _ _ _ _ => False) (ps_asg (snd G cf e X _ m.g h4 B).pe (pg_tup m.g.calm k1 k2 k3) (sole_plain h2) (no_sw m.bk h3))
theorem m_sto {i k e} : SM G cf (.sto i k e) := by
  intro X st m h B
  unfold chkM at h
  split at h
  all_goals first | contradiction | skip
  rename_i w1 w2 i' k' e' x px ix p1 v p2 hs; cases hs
  simp only [Bool.and_eq_true, decide_eq_true_eq] at h
  obtain ⟨⟨⟨⟨⟨⟨h1, h2⟩, h3⟩, h4⟩, h5⟩, h6⟩, h7⟩ := h
  obtain ⟨d1, d2, _⟩ := nameOk_of h3
  exact dS_sto (ps_asg (snd G cf e X _ m.g h7 B).pe (pg_sub (pe_var h1 (vis_of h2) d1 d2) (snd G cf k X _ m.g h6 B).pe set_list (fun v => by
    cases ix <;> first | rfl | cases h5)) (sole_plain h4) no_sw_sub)
theorem m_app {i e} : SM G cf (.app i e) := by
  intro X st m h B
  unfold chkM at h
  split at h
  all_goals first | contradiction | skip
  rename_i hs; cases hs
  simp only [Bool.and_eq_true, decide_eq_true_eq, beq_iff_eq] at h
  obtain ⟨⟨⟨⟨⟨⟨rfl, h1⟩, h2⟩, h3⟩, h4⟩, h5⟩, h6⟩ := h
  obtain ⟨d1, d2, _⟩ := nameOk_of h3
  refine dS_app (ps_expr (pe_bm PySem.F.plainAttrs_list PySem.F.slot_list_append PySem.F.type_list_append mt_append (pe_var h1 (vis_of h2) d1 d2) (pa_cons (snd G cf e X _ m.g h6 B).pe pa_nil (star_cons h4)) rfl ?_ (by rw [h5]; exact beq_self_eq_true _) (star_cons h4) rfl) rfl)
  rw [star_cons h4]; rfl
theorem m_drop {e} : SM G cf (.drop e) := by
  intro X st m h B
  unfold chkM at h
  split at h
  all_goals first | contradiction | skip
  rename_i hs; cases hs
  simp only [Bool.and_eq_true] at h
  exact dS_drop (snd G cf e X _ m.g h.2 B).pe (sw_plain h.1)
theorem m_ife {c a b} (ia : SMs G cf a) (ib : SMs G cf b) : SM G cf (.ife c a b) := by
  intro X st m h B
  unfold chkM at h
  split at h
  all_goals first | contradiction | skip
  rename_i hs; cases hs
  simp only [Bool.and_eq_true] at h
  exact dS_if ((snd G cf c X _ m.g h.1.1.2 B).t h.1.1.1) (ia X _ m h.1.2 B) (ib X _ m h.2 B)
theorem m_whl {c a} (ia : SMs G cf a) : SM G cf (.whl c a) := by
  intro X st m h B
  unfold chkM at h
  split at h
  all_goals first | contradiction | skip
  rename_i hs; cases hs
  simp only [Bool.and_eq_true] at h
  exact dS_whl m.pass ((snd G cf c X _ m.g h.1.2 B).t h.1.1) (ia X _ m h.2 B)
theorem m_fr {s tg a} (ia : SMs G cf a) : SM G cf (.fr s tg a) := by
  intro X st m h B
  unfold chkM at h
  split at h
  all_goals first | contradiction | skip
  rename_i hs; cases hs
  simp only [Bool.and_eq_true] at h
  obtain ⟨⟨⟨h1, h2⟩, h3⟩, h4⟩ := h
  exact dS_fr m.pass m.g.calm (sndS G cf s X _ _ m.g h2 B) (PG_all fun B => pg_target m.g.nd m.g.calm (fun x _ => m.fn x) h3 B) (fun B => ia X _ m h4 B) (folded_of h1)
theorem m_pass : SM G cf .pass := by
  intro X st m h B
  cases st <;> first | exact dS_pass | (simp [chkM] at h)
theorem m_brk : SM G cf .brk := by
  intro X st m h B
  cases st <;> first | exact dS_brk | (simp [chkM] at h)
theorem m_cnt : SM G cf .cnt := by
  intro X st m h B
  cases st <;> first | exact dS_cnt | (simp [chkM] at h)
theorem m_rse : SM G cf .rse := fun X st m h B => dS_rse
theorem ms_nil : SMs G cf .nil := by
  intro X st m h B
  cases st with
  | nil => exact dS_nil
  | cons a b => simp [chkMs] at h
theorem ms_cons {s r} (is : SM G cf s) (ir : SMs G cf r) : SMs G cf (.cons s r) := by
  intro X st m h B
  cases st with
  | nil => simp [chkMs] at h
  | cons a b =>
    simp only [chkMs, Bool.and_eq_true] at h
    exact dS_cons (is X _ m h.1 B) (ir X _ m h.2 B)
variable (G cf)
mutual
theorem sndM : ∀ s : Sm, SM G cf s
  | .ret e => m_ret
  | .asg i e => m_asg
  | .par i j a b => m_par
  | .par3 i j k a b c => m_par3
  | .unp is e => m_unp
  | .sto i k e => m_sto
  | .app i e => m_app
  | .drop e => m_drop
  | .ife c a b => m_ife (sndMs a) (sndMs b)
  | .whl c a => m_whl (sndMs a)
  | .fr s tg a => m_fr (sndMs a)
  | .pass => m_pass
  | .brk => m_brk
  | .cnt => m_cnt
  | .rse => m_rse
theorem sndMs : ∀ s : Sms, SMs G cf s
  | .nil => ms_nil
  | .cons s r => ms_cons (sndM s) (sndMs r)
end
end
end Ev
namespace Ev
open PySem PySem.Spec PyProof.Rows L2

/-- the list that is handed over to be changed -/
def ioP (io : Option Nat) (vs : List V) : Option Addr := match io with
  | none => none
  | some j => (match vs[j]? with | some (V.ref p) => some p | _ => none)
def bsOf (F H : Hp) (io : Option Nat) (vs : List V) : Bs where
  F0 := F
  fr := fun a => H a = none
  kp := fun a => if ioP io vs = some a then none else H a
  fx := fun i => if io = some i then ioP io vs else none
  ln := fun _ => none
section
variable {X : Cx} {K : PySem.W.Frag} {F H : Hp} {io : Option Nat} {vs : List V} {ds : List PyData} {N : List Str} {ρ0 : En} {n : Nat}
theorem ioP_at {j : Nat} {p : Addr} (h : vs[j]? = some (V.ref p)) : ioP (some j) vs = some p := by
  show (match vs[j]? with | some (V.ref p) => some p | _ => none) = _
  rw [h]
theorem start_at {i : Nat} {v : V} (h : vs[i]? = some v) : (L2.start N vs)[i]? = some (some v) := by
  have hi : i < vs.length := (List.getElem?_eq_some_iff.mp h).1
  unfold L2.start
  rw [List.getElem?_append_left (by simpa using hi), List.getElem?_map, h]; rfl
theorem ent_at {l : List (Option Cl)} {m i : Nat} {c : Cl} (h : (l ++ List.replicate m none)[i]? = some (some c)) : l[i]? = some (some c) := by
  by_cases hi : i < l.length
  · rw [List.getElem?_append_left hi] at h; exact h
  · rw [List.getElem?_append_right (by omega), List.getElem?_replicate] at h
    split at h <;> cases h
theorem sit_start (C : CallIn K F H io vs ds) (he : entry N.length io ds = some ρ0) : Sit K (bsOf F H io vs) F (L2.start N vs) H ρ0 := by
  have hlen : ρ0.length = (L2.start N vs).length := by
    have hl := C.len
    unfold entry at he
    split at he
    · cases he; unfold L2.start; simp [hl]
    · split at he
      · cases he; unfold L2.start; simp [hl]
      · cases he
  have own : ∀ (i : Nat) (f e : Bool) (l : List PyData), ρ0[i]? = some (some (Cl.own f e l)) → io = some i ∧ f = true ∧ e = false ∧ ds[i]? = some (.list l) := fun i f e l h => by
    unfold entry at he
    split at he
    · cases he
      have h := ent_at h
      rw [List.getElem?_map] at h
      cases q : ds[i]? <;> rw [q] at h <;> cases h
    · rename_i j
      split at he
      · rename_i l0 e0
        cases he
        have h := ent_at h
        have hj : j < ds.length := (List.getElem?_eq_some_iff.mp e0).1
        by_cases hji : j = i
        · subst hji
          rw [List.getElem?_set_self (by simpa using hj)] at h
          cases h
          exact ⟨rfl, rfl, rfl, e0⟩
        · rw [List.getElem?_set_ne hji, List.getElem?_map] at h
          cases q : ds[i]? <;> rw [q] at h <;> cases h
      · cases he
  refine ⟨C.le, Le.refl, fun a o h => .inl h, fun a h => h, fun a o h => ?_, hlen, fun i d h => ?_, fun i f e l h => ?_, fun i j f e l f' e' l' p a b _ _ => ?_, fun i p h => ?_, fun i p f l h => by cases h⟩
  · have h : (if ioP io vs = some a then none else H a) = some o := h
    split at h
    · cases h
    · exact h
  · have hd : ds[i]? = some d ∧ io ≠ some i := by
      unfold entry at he
      split at he
      · cases he
        have h := ent_at h
        rw [List.getElem?_map] at h
        cases q : ds[i]? <;> rw [q] at h <;> cases h
        exact ⟨rfl, fun z => by cases z⟩
      · rename_i j
        split at he
        · rename_i l0 e0
          cases he
          have h := ent_at h
          have hj : j < ds.length := (List.getElem?_eq_some_iff.mp e0).1
          by_cases hji : j = i
          · subst hji
            rw [List.getElem?_set_self (by simpa using hj)] at h
            cases h
          · rw [List.getElem?_set_ne hji, List.getElem?_map] at h
            cases q : ds[i]? <;> rw [q] at h <;> cases h
            exact ⟨rfl, fun z => hji (Option.some.inj z)⟩
        · cases he
    obtain ⟨hd, hio⟩ := hd
    have hi : i < vs.length := by rw [C.len]; exact (List.getElem?_eq_some_iff.mp hd).1
    exact ⟨vs[i], start_at (List.getElem?_eq_getElem hi), C.arg i _ d (List.getElem?_eq_getElem hi) hd hio⟩
  · obtain ⟨rfl, rfl, rfl, hd⟩ := own i f e l h
    obtain ⟨p, xs, l', h1, h2, h3, h4, h5⟩ := C.ior i rfl
    rw [hd] at h2; cases h2
    refine ⟨p, xs, start_at h1, h3, h4, h5, ?_, fun z => by cases z⟩
    show (if ioP (some i) vs = some p then none else H p) = none
    rw [if_pos (ioP_at h1)]
  · obtain ⟨e1, _⟩ := own i _ _ _ a
    obtain ⟨e2, _⟩ := own j _ _ _ b
    rw [e1] at e2
    exact Option.some.inj e2
  · have h : (if io = some i then ioP io vs else none) = some p := h
    split at h
    · rename_i e
      subst e
      obtain ⟨p', xs, l', h1, h2, h3, h4, h5⟩ := C.ior i rfl
      have ep : p' = p := by
        rw [ioP_at h1] at h
        exact Option.some.inj h
      subst ep
      refine ⟨start_at h1, false, l', ?_⟩
      have he : (match ds[i]? with
        | some (.list l) => some ((ds.map (fun d => some (Cl.val d))).set i (some (.own true false l)) ++ List.replicate (N.length - ds.length) none)
        | _ => none) = some ρ0 := he
      rw [h2] at he
      cases he
      have hj : i < ds.length := (List.getElem?_eq_some_iff.mp h2).1
      rw [List.getElem?_append_left (by simpa using hj), List.getElem?_set_self (by simpa using hj)]
    · cases h
theorem callOut {F' H' : Hp} {σ' : L2.St} {ρ' : En} {v : V} {r : Rs} {out : List PyData} (C : CallIn K F H io vs ds) (S : Sit K (bsOf F H io vs) F' σ' H' ρ') (hr : ResOk K (bsOf F H io vs) F' σ' H' ρ' v r) (ho : outOf ρ' io = some out) : CallOut K F H F' H' io vs r out v := by
  refine ⟨S.leF, S.le, S.newF, fun a o h hn => ?_, fun j hj => ?_, ?_⟩
  · refine S.kept a o ?_
    show (if ioP io vs = some a then none else H a) = some o
    rw [if_neg, h]
    intro z
    unfold ioP at z
    split at z
    · cases z
    · rename_i j
      split at z
      · rename_i p e
        cases z
        exact hn j rfl e
      · cases z
  · subst hj
    obtain ⟨p, xs, l', h1, h2, h3, h4, h5⟩ := C.ior j rfl
    have hp : (bsOf F H (some j) vs).fx j = some p := by
      show (if some j = some j then ioP (some j) vs else none) = some p
      rw [if_pos rfl]
      exact ioP_at h1
    obtain ⟨k1, _⟩ := S.fixd j p hp
    simp only [outOf] at ho
    split at ho
    · rename_i e l e1
      cases ho
      obtain ⟨p', xs', q1, q2, q3, q4, _⟩ := S.own j _ _ _ e1
      rw [k1] at q1; cases q1
      exact ⟨p, xs', h1, q2, q3, q4⟩
    · cases ho
  · cases r with
    | val d => exact hr
    | new l =>
      obtain ⟨p, xs, e, h1, h2, h3, h4, h5, _⟩ := hr
      exact ⟨p, xs, e, h1, h2, h3, h5⟩
end
section
variable {P : Program} {w : World} {K : PySem.W.Frag} {mg : Str → Option Value} {base : Heap}
/-- what is known of a def's surroundings -/
structure Sur (G : Gs) (P : Program) (w : World) (K : PySem.W.Frag) (mg : Str → Option Value) (base : Heap) (k : Nat) (cf : CF) : Prop where
  free : ∀ x, G.free.contains x = true → mg x = none
  gt : ∀ x d, G.gt.lookup x = some d → ∃ v u, mg x = some u ∧ RelV v u ∧ Rp K (fun _ => none) v d
  fn : ∀ f x n, G.fn[f]? = some (x, n) → ∃ a fd ps, FnOk P w K mg base CX0 k a fd ps (spD K n (cf f)) ∧ mg x = some (.ref a) ∧ PySem.W.keepIn K (.ref a) = true ∧ Binds K fd ps []
  bl : ∀ x s, G.bl.lookup x = some s → mg x = some (.builtin s)
theorem df_ok {G : Gs} {cf : CF} {x qual : Str} {st : Stmt} {f : Addr} {fd : FuncData} {N ps : List Str} {k : Nat} {d : Df} (U : Sur G P w K mg base k cf) (F : Fun K x qual st f fd) (S : FnScope N ps (defScope st)) (hn : d.n = N.length) (hp : d.np = ps.length)
    (hc : chkMs G N (defScope st) d.body (defBody st) = true) : FnOk P w K mg base CX0 (k + 1) f fd ps (spD K d.np (runD cf d)) := by
  refine F.ok S (fun vs H Q E h => ?_) (fun cdv A outer s H vs Q E hr h => ?_)
  · obtain ⟨_, _, _, _, _, h, _⟩ := h
    rw [h, hp]
  obtain ⟨F0, io, ds, r, out, hl, C, hg, q⟩ := h
  have g : GOk G (cxOf CX0 P w K mg base N qual (defScope st) f cdv A outer s H E).nox cf := by
    refine ⟨U.free, U.gt, fun f' x' n e => ?_, U.bl, ?_, rfl, S.nd⟩
    · obtain ⟨a, fd', ps', h1, h2, h3, h4⟩ := U.fn f' x' n e
      exact ⟨k, a, fd', ps', h1, hr, h2, h3, h4⟩
    · have := hr.un
      show (A.deeper _).units + 65 < cLine
      omega
  have m : MOk G (cxOf CX0 P w K mg base N qual (defScope st) f cdv A outer s H E).nox cf := by
    refine ⟨g, ?_, fun _ => rfl, .never⟩
    show (if (defScope st).kind.isAnnotationScope then ScopeKind.function else (defScope st).kind) = .function
    rw [S.kind]; rfl
  unfold runD at hg
  split at hg
  case isFalse => cases hg
  split at hg
  case h_2 => cases hg
  rename_i ρ0 e0
  rw [hn] at e0
  have S0 := sit_start (N := N) C e0
  refine ⟨dS K (bsOf F0 H io vs) (exs cf d.body), sndMs G cf d.body _ _ m hc _, F0, ρ0, ?_⟩
  split at hg
  · rename_i r' ρ' e1
    split at hg
    case h_2 => cases hg
    rename_i l e2
    cases hg
    exact ⟨_, S0, e1, fun v σ' F' H' le S' ro => q v F' H' (callOut C S' ro e2)⟩
  · rename_i ρ' e1
    split at hg
    case h_2 => cases hg
    rename_i l e2
    cases hg
    exact ⟨_, S0, e1, fun σ' F' H' le S' => q .non F' H' (callOut C S' .non e2)⟩
  · cases hg
structure D1 where
  x : Str
  st : Stmt
  N : List Str
  ps : List Str
  df : Df
def Fact (K : PySem.W.Frag) (mg : Str → Option Value) (d : D1) (f : Addr) (fd : FuncData) : Prop := Fun K d.x d.x d.st f fd ∧ (∀ us : List Value, us.length = d.ps.length → bindArgs fd ⟨us, []⟩ = pure (d.ps.zip us)) ∧ mg d.x = some (.ref f)
def Facts (K : PySem.W.Frag) (mg : Str → Option Value) : List D1 → Prop
  | [] => True
  | d :: r => (∃ f fd, Fact K mg d f fd) ∧ Facts K mg r
theorem Facts.get {K : PySem.W.Frag} {mg : Str → Option Value} : ∀ {T : List D1} {i : Nat} {d : D1}, Facts K mg T → T[i]? = some d → ∃ f fd, Fact K mg d f fd
  | [], _, _, _, h => by simp at h
  | d :: r, 0, d', F, h => by
    simp only [List.getElem?_cons_zero, Option.some.injEq] at h
    subst h; exact F.1
  | d :: r, i + 1, d', F, h => Facts.get F.2 (by simpa using h)
/-- what the text itself shows of a def -/
structure Stat (G : Gs) (d : D1) : Prop where
  sc : FnScope d.N d.ps (defScope d.st)
  n : d.df.n = d.N.length
  p : d.df.np = d.ps.length
  c : chkMs G d.N (defScope d.st) d.df.body (defBody d.st) = true
def Stats (G : Gs) : List D1 → Prop
  | [] => True
  | d :: r => Stat G d ∧ Stats G r
theorem Stats.get {G : Gs} : ∀ {T : List D1} {i : Nat} {d : D1}, Stats G T → T[i]? = some d → Stat G d
  | [], _, _, _, h => by simp at h
  | d :: r, 0, d', F, h => by
    simp only [List.getElem?_cons_zero, Option.some.injEq] at h
    subst h; exact F.1
  | d :: r, i + 1, d', F, h => Stats.get F.2 (by simpa using h)
def gsOf (T : List D1) (free : List Str) (gt : List (Str × PyData)) (bl : List (Str × String)) : Gs := ⟨free, gt, T.map fun d => (d.x, d.df.np), bl⟩
theorem all_ok {T : List D1} {free : List Str} {gt : List (Str × PyData)} {bl : List (Str × String)} (S : Stats (gsOf T free gt bl) T) (F : Facts K mg T)
    (hfree : ∀ x, free.contains x = true → mg x = none) (hgt : ∀ x d, gt.lookup x = some d → ∃ v u, mg x = some u ∧ RelV v u ∧ Rp K (fun _ => none) v d) (hbl : ∀ x s, bl.lookup x = some s → mg x = some (.builtin s)) :
    ∀ (k i : Nat) (d : D1) (f : Addr) (fd : FuncData), T[i]? = some d → Fact K mg d f fd → FnOk P w K mg base CX0 k f fd d.ps (spD K d.df.np (calls (T.map D1.df) k i))
  | 0, i, d, f, fd, hi, hF => by
    have no : ∀ vs H Q E, ¬ spD K d.df.np (calls (T.map D1.df) 0 i) vs H Q E := fun vs H Q E h => by
      obtain ⟨_, _, _, _, _, _, _, h, _⟩ := h
      cases h
    exact ⟨fun vs H Q E h => absurd h (no vs H Q E), fun A outer s H args us vs Q E _ _ _ _ h => absurd h (no vs H Q E)⟩
  | k + 1, i, d, f, fd, hi, hF => by
    have U : Sur (gsOf T free gt bl) P w K mg base k (calls (T.map D1.df) k) := by
      refine ⟨hfree, hgt, fun f' x n e => ?_, hbl⟩
      have e : (T.map fun d => (d.x, d.df.np))[f']? = some (x, n) := e
      rw [List.getElem?_map] at e
      cases q : T[f']? with
      | none => rw [q] at e; cases e
      | some d' =>
        rw [q] at e
        cases e
        obtain ⟨a, fd', h⟩ := F.get q
        exact ⟨a, fd', d'.ps, all_ok S F hfree hgt hbl k f' d' a fd' q h, h.2.2, h.1.kp, .all h.2.1⟩
    have s := S.get hi
    have r := df_ok U hF.1 s.sc s.n s.p s.c
    have e : calls (T.map D1.df) (k + 1) i = runD (calls (T.map D1.df) k) d.df := by
      funext io ds
      show (match (T.map D1.df)[i]? with | some d => runD (calls (T.map D1.df) k) d io ds | none => none) = _
      rw [List.getElem?_map, hi]; rfl
    rw [e]
    exact r
/-- the law's own promise -/
theorem law_sp {g : Option Nat → List PyData → Option (Rs × List PyData)} {ns : List Int} {a : Addr} {H : Hp} (hS : SqL K H a (ns.map V.int)) (h : g none [ro (ns.map PyData.int)] = some (.val (.bool true), [])) : spD K 1 g [.ref a] H (fun v _ => v = .bl true) fun _ _ _ => False := by
  have ra : ∀ ns : List Int, RpAll K H (ns.map V.int) (ns.map PyData.int) := fun ns => by
    induction ns with
    | nil => exact .nil
    | cons n r ih => exact .cons (.int n) ih
  refine ⟨H, none, _, _, _, rfl, ⟨Le.refl, rfl, fun i v d h1 h2 _ => ?_, fun j h => by cases h⟩, h, fun v F' H' C => (Rp.bool_inv C.ret)⟩
  cases i with
  | zero => cases h1; cases h2; exact .rol hS (ra ns)
  | succ i => simp at h1
theorem fact1 {h : Heap} (X : K.In h) (G : h.Ns mainGlobals mg) {x : Str} {st : Stmt} {N ps : List Str} {d : Df} {f : Addr} {oc : Value} {od an : Option Addr} {osl : Array (Option Value)} {kV doc pm cdv ct : Value}
    (a : PySem.W.nsIn K mainGlobals x = some (some (.ref f))) (l : K.lookup f = some ⟨oc, od, .func (PySem.W.fnOf x x (defArgs st) (defBody st) (defScope st) .none kV doc pm an cdv ct), osl⟩) (c : PySem.W.codeIn K cdv x = true) (k : PySem.W.keepIn K (.ref f) = true)
    (b : ∀ (kV doc pm : Value) (an : Option Addr) (cdv ct : Value) (us : List Value), us.length = ps.length → bindArgs (PySem.W.fnOf x x (defArgs st) (defBody st) (defScope st) .none kV doc pm an cdv ct) ⟨us, []⟩ = pure (ps.zip us)) : ∃ f fd, Fact K mg ⟨x, st, N, ps, d⟩ f fd := by
  have F := fun_mk (st := st) l c k
  exact ⟨f, _, F, b _ _ _ _ _ _, PySem.W.mg_of X G a⟩
theorem law_end {T : List D1} {free : List Str} {gt : List (Str × PyData)} {bl : List (Str × String)} (S : Stats (gsOf T free gt bl) T) (F : Facts K mg T)
    (hfree : ∀ x, free.contains x = true → mg x = none) (hgt : ∀ x d, gt.lookup x = some d → ∃ v u, mg x = some u ∧ RelV v u ∧ Rp K (fun _ => none) v d) (hbl : ∀ x s, bl.lookup x = some s → mg x = some (.builtin s))
    (k i : Nat) {d : D1} {fa : Addr} (hi : T[i]? = some d) (hps : d.ps = [("script" : Str)]) (hnp : d.df.np = 1) (hx : mg d.x = some (.ref fa)) :
    ∃ fd : FuncData, (∀ (s : Shared) (v : Value), BindsTo s fd ⟨[v], []⟩ [("script", v)]) ∧ ∀ base : Heap, K.In base → base.Ns mainGlobals mg → FnOk P w K mg base CX0 k fa fd ["script"] (spD K 1 (calls (T.map D1.df) k i)) := by
  obtain ⟨f, fd, h⟩ := F.get hi
  have e : f = fa := by
    have := h.2.2.symm.trans hx
    simpa using this
  subst e
  refine ⟨fd, fun s v => .of_eq ?_, fun base _ _ => ?_⟩
  · have := h.2.1 [v] (by rw [hps]; rfl)
    rw [hps] at this
    exact this
  · have := all_ok (P := P) (w := w) (base := base) S F hfree hgt hbl k i d f fd hi h
    rw [hps, hnp] at this
    exact this
theorem free_nil {mg : Str → Option Value} : ∀ x, ([] : List Str).contains x = true → mg x = none := fun x h => by simp at h
theorem free_cons {h : Heap} (X : K.In h) (G : h.Ns mainGlobals mg) {y : Str} {l : List Str} (z : PySem.W.nsIn K mainGlobals y = some none) (r : ∀ x, l.contains x = true → mg x = none) : ∀ x, (y :: l).contains x = true → mg x = none := fun x hx => by
  rw [List.contains_cons, Bool.or_eq_true] at hx
  rcases hx with hx | hx
  · rw [eq_of_beq hx]; exact PySem.W.mg_none_of X G z
  · exact r x hx
theorem bl_nil {mg : Str → Option Value} : ∀ x s, ([] : List (Str × String)).lookup x = some s → mg x = some (.builtin s) := fun x s h => by cases h
theorem bl_cons {h : Heap} (X : K.In h) (G : h.Ns mainGlobals mg) {y : Str} {t : String} {l : List (Str × String)} (z : PySem.W.nsIn K mainGlobals y = some (some (.builtin t))) (r : ∀ x s, l.lookup x = some s → mg x = some (.builtin s)) : ∀ x s, ((y, t) :: l).lookup x = some s → mg x = some (.builtin s) := fun x s hx => by
  rw [List.lookup_cons] at hx
  split at hx
  · rename_i e
    cases hx
    rw [eq_of_beq e]; exact PySem.W.mg_of X G z
  · exact r x s hx
theorem gt_nil {mg : Str → Option Value} : ∀ x d, ([] : List (Str × PyData)).lookup x = some d → ∃ v u, mg x = some u ∧ RelV v u ∧ Rp K (fun _ => none) v d := fun x s h => by cases h
theorem gt_int {h : Heap} (X : K.In h) (G : h.Ns mainGlobals mg) {y : Str} {n : Int} {t : Tok} {l : List (Str × PyData)} (z : PySem.W.nsIn K mainGlobals y = some (some (.int n t))) (r : ∀ x d, l.lookup x = some d → ∃ v u, mg x = some u ∧ RelV v u ∧ Rp K (fun _ => none) v d) : ∀ x d, ((y, PyData.int n) :: l).lookup x = some d → ∃ v u, mg x = some u ∧ RelV v u ∧ Rp K (fun _ => none) v d := fun x s hx => by
  rw [List.lookup_cons] at hx
  split at hx
  · rename_i e
    cases hx
    rw [eq_of_beq e]; exact ⟨.int n, .int n t, PySem.W.mg_of X G z, ⟨t, rfl⟩, .int n⟩
  · exact r x s hx
end
end Ev
namespace Ev
open PySem L2
theorem atI0 {α : Type} (x : α) (r : List α) : atI (x :: r) 0 = some x := atI_nat (xs := x :: r) (j := 0) rfl
theorem atI1 {α : Type} (x y : α) (r : List α) : atI (x :: y :: r) 1 = some y := atI_nat (xs := x :: y :: r) (j := 1) rfl
theorem atI2 {α : Type} (x y z : α) (r : List α) : atI (x :: y :: z :: r) 2 = some z := atI_nat (xs := x :: y :: z :: r) (j := 2) rfl
theorem ix20 : ixN 2 0 = some 0 := rfl
theorem ix21 : ixN 2 1 = some 1 := rfl
section
variable {s : EvS} {tg vs : List Nat} {ma : EvM} {ρ ρ1 ρ2 ρ' : En} {l : List PyData} {o : Option (Nat × Bool)} {ifs : EvB} {e : Ev1} {c : EvB}
theorem fr_rule (h1 : s ρ = some (l, ρ1, o)) (h2 : frGo tg ma l ρ1 = some (.nx ρ2)) : frM s tg ma ρ = some (.nx (backE o ρ2)) := by
  simp only [frM, h1, h2]
theorem fr_ret {r : Rs} (h1 : s ρ = some (l, ρ1, o)) (h2 : frGo tg ma l ρ1 = some (.rt r ρ2)) : frM s tg ma ρ = some (.rt r ρ2) := by
  simp only [frM, h1, h2]
theorem lc_rule {r : List PyData} (h1 : s ρ = some (l, ρ1, o)) (h2 : (l.length ≤ lim && vs.all (freeV ρ1) && tg.all (fun i => vs.contains i) && !(o.any fun i => vs.contains i.1)) = true) (h3 : lcGo tg vs ifs e l (wipeE ρ1 vs) = some (r, ρ2)) : lcE s tg vs ifs e ρ = some (.new r, backE o (restE ρ1 ρ2 vs)) := by
  simp only [lcE, h1, h2, h3, if_true]
theorem frGo_exact : ∀ {l : List PyData} (F : Nat → En), (∀ i d, l[i]? = some d → ∃ ρ1, bindT tg d (F i) = some ρ1 ∧ ma ρ1 = some (.nx (F (i + 1)))) → frGo tg ma l (F 0) = some (.nx (F l.length))
  | [], F, _ => rfl
  | d :: l, F, h => by
    obtain ⟨ρ1, h1, h2⟩ := h 0 d rfl
    simp only [frGo, h1, h2]
    exact frGo_exact (l := l) (fun i => F (i + 1)) fun i d hd => h (i + 1) d (by simpa using hd)
theorem whl_exact : ∀ {n fuel : Nat} (F : Nat → En), (∀ i, i < n → ∃ ρ1, c (F i) = some (true, ρ1) ∧ ma ρ1 = some (.nx (F (i + 1)))) → c (F n) = some (false, ρ') → n < fuel → whlM c ma fuel (F 0) = some (.nx ρ')
  | 0, fuel + 1, F, _, he, _ => by simp only [whlM, he]
  | n + 1, fuel + 1, F, h, he, hf => by
    obtain ⟨ρ1, h1, h2⟩ := h 0 (by omega)
    simp only [whlM, h1, h2]
    exact whl_exact (fun i => F (i + 1)) (fun i hi => h (i + 1) (by omega)) he (by omega)
/-- a comprehension that keeps f of what passes -/
theorem lcGo_exact {f : PyData → Option PyData} : ∀ {l : List PyData}, (∀ d ∈ l, ∃ ρ1, bindT tg d ρ = some ρ1 ∧ ((f d = none ∧ ∃ ρ2, ifs ρ1 = some (false, ρ2) ∧ wipeE ρ2 vs = ρ) ∨ ∃ r ρ2 ρ3, f d = some r.dat ∧ ifs ρ1 = some (true, ρ2) ∧ e ρ2 = some (r, ρ3) ∧ wipeE ρ3 vs = ρ)) → lcGo tg vs ifs e l ρ = some (l.filterMap f, ρ)
  | [], _ => rfl
  | d :: l, h => by
    have ih := lcGo_exact (f := f) (l := l) fun d hd => h d (List.mem_cons_of_mem _ hd)
    obtain ⟨ρ1, h1, h2⟩ := h d List.mem_cons_self
    rcases h2 with ⟨hf, ρ2, h2, h3⟩ | ⟨r, ρ2, ρ3, hf, h2, h3, h4⟩
    · simp only [lcGo, h1, h2, h3, ih, List.filterMap_cons, hf]
    · simp only [lcGo, h1, h2, h3, h4, ih, List.filterMap_cons, hf]
/-- .. that keeps the i-th's f -/
theorem lcGo_at : ∀ {l : List PyData} (f : Nat → PyData), (∀ i d, l[i]? = some d → ∃ ρ1 r ρ3, bindT tg d ρ = some ρ1 ∧ f i = r.dat ∧ ifs ρ1 = some (true, ρ1) ∧ e ρ1 = some (r, ρ3) ∧ wipeE ρ3 vs = ρ) → lcGo tg vs ifs e l ρ = some ((List.range l.length).map f, ρ)
  | [], f, _ => rfl
  | d :: l, f, h => by
    have ih := lcGo_at (l := l) (fun i => f (i + 1)) fun i d hd => h (i + 1) d (by simpa using hd)
    obtain ⟨ρ1, r, ρ3, h1, h2, h3, h4, h5⟩ := h 0 d rfl
    simp only [lcGo, h1, h3, h4, h5, ih]
    rw [List.length_cons, List.range_succ_eq_map, List.map_cons, List.map_map, h2]
    rfl
end
theorem x_nx {cf : CF} {s : Sm} {r : Sms} {ρ ρ1 : En} {x : Option SR} (h1 : ex cf s ρ = some (.nx ρ1)) (h2 : exs cf r ρ1 = x) : exs cf (.cons s r) ρ = x := by
  show seqM (ex cf s) (exs cf r) ρ = x
  simp only [seqM, h1]; exact h2
theorem x_rt {cf : CF} {s : Sm} {r : Sms} {ρ ρ1 : En} {v : Rs} (h1 : ex cf s ρ = some (.rt v ρ1)) : exs cf (.cons s r) ρ = some (.rt v ρ1) := by
  show seqM (ex cf s) (exs cf r) ρ = _
  simp only [seqM, h1]
theorem x_if {cf : CF} {c : Ex} {a b : Sms} {ρ ρ1 : En} {t : Bool} {x : Option SR} (h1 : (ev cf c).t ρ = some (t, ρ1)) (h2 : exs cf (if t then a else b) ρ1 = x) : ex cf (.ife c a b) ρ = x := by
  show ifM (ev cf c).t (exs cf a) (exs cf b) ρ = x
  cases t <;> simp only [ifM, h1] <;> exact h2
theorem x_ret {cf : CF} {e : Ex} {ρ ρ1 : En} {v : Rs} (h1 : (ev cf e).e ρ = some (v, ρ1)) : ex cf (.ret e) ρ = some (.rt v ρ1) := by
  show retM (ev cf e).e ρ = _
  simp only [retM, h1]
theorem x_run {cf : CF} {d : Df} {io : Option Nat} {ds : List PyData} {ρ0 ρ : En} {r : Rs} {l : List PyData} (h0 : ds.length = d.np) (h1 : entry d.n io ds = some ρ0) (h2 : exs cf d.body ρ0 = some (.rt r ρ)) (h3 : outOf ρ io = some l) : runD cf d io ds = some (r, l) := by
  simp only [runD, h0, h1, h2, h3, if_true]
theorem x_runN {cf : CF} {d : Df} {io : Option Nat} {ds : List PyData} {ρ0 ρ : En} {l : List PyData} (h0 : ds.length = d.np) (h1 : entry d.n io ds = some ρ0) (h2 : exs cf d.body ρ0 = some (.nx ρ)) (h3 : outOf ρ io = some l) : runD cf d io ds = some (.val .none, l) := by
  simp only [runD, h0, h1, h2, h3, if_true]
theorem ex_fr {cf : CF} {s : Src} {tg : List Nat} {a : Sms} {ρ ρ1 ρ2 : En} {l : List PyData} {o : Option (Nat × Bool)} (h1 : evSrc cf s ρ = some (l, ρ1, o)) (h2 : frGo tg (exs cf a) l ρ1 = some (.nx ρ2)) : ex cf (.fr s tg a) ρ = some (.nx (backE o ρ2)) := fr_rule h1 h2
theorem ex_whl {cf : CF} {c : Ex} {a : Sms} {ρ ρ' : En} (h : whlM (ev cf c).t (exs cf a) fuel ρ = some (.nx ρ')) : ex cf (.whl c a) ρ = some (.nx ρ') := h
theorem ev_lc {cf : CF} {s : Src} {tg vs : List Nat} {ifs : Exs} {e : Ex} {ρ ρ1 ρ2 : En} {l r : List PyData} {o : Option (Nat × Bool)} (h1 : evSrc cf s ρ = some (l, ρ1, o)) (h2 : (l.length ≤ lim && vs.all (freeV ρ1) && tg.all (fun i => vs.contains i) && !(o.any fun i => vs.contains i.1)) = true) (h3 : lcGo tg vs (allT (evts cf ifs)) (ev cf e).e l (wipeE ρ1 vs) = some (r, ρ2)) : (ev cf (.lc s tg vs ifs e)).e ρ = some (.new r, backE o (restE ρ1 ρ2 vs)) := lc_rule h1 h2 h3
theorem rng_len {n : Nat} : (rngD 0 (n : Int)).length = n := by
  unfold rngD; simp
theorem rng_get {n i : Nat} {d : PyData} (h : (rngD 0 (n : Int))[i]? = some d) : i < n ∧ d = .int (i : Nat) := by
  have hi : i < n := by
    have := (List.getElem?_eq_some_iff.mp h).1
    rw [rng_len] at this
    exact this
  refine ⟨hi, ?_⟩
  unfold rngD at h
  rw [List.getElem?_map, List.getElem?_range (by omega)] at h
  simpa using h.symm
theorem frGo_rng {tg : List Nat} {ma : EvM} {n : Nat} {ρ0 ρe : En} (F : Nat → En) (h0 : F 0 = ρ0) (he : F n = ρe) (h : ∀ i, i < n → ∃ ρ1, bindT tg (.int (i : Nat)) (F i) = some ρ1 ∧ ma ρ1 = some (.nx (F (i + 1)))) : frGo tg ma (rngD 0 (n : Int)) ρ0 = some (.nx ρe) := by
  have := frGo_exact (tg := tg) (ma := ma) (l := rngD 0 (n : Int)) F fun i d hd => by
    obtain ⟨hi, rfl⟩ := rng_get hd
    exact h i hi
  rw [rng_len, h0, he] at this
  exact this
theorem calls_one {FT : List Df} {k f : Nat} {d : Df} {io : Option Nat} {ds : List PyData} (h : FT[f]? = some d) : calls FT (k + 1) f io ds = runD (calls FT k) d io ds := by
  simp only [calls, h]
end Ev
namespace Ev
open PySem L2
section
variable {cf : CF} {ρ ρ1 ρ2 ρ3 : En} {a b c e x : Ex} {es : Exs} {d d1 d2 d3 : PyData} {o oa ob oc : Opd} {os : List Opd} {ds : List PyData} {r : Rs} {i : Nat} {l : List PyData} {t u : Bool}
theorem o_var (h : ρ[i]? = some (some (.val d))) : opd (.var i) (ev cf (.var i)).e ρ = some (.d d, ρ) := by
  show opdV i ρ = _
  simp only [opdV, h]
theorem o_own {f g : Bool} (h : ρ[i]? = some (some (.own f g l))) : opd (.var i) (ev cf (.var i)).e ρ = some (.bor i, ρ) := by
  show opdV i ρ = _
  simp only [opdV, h]
theorem o_E {m : Ev1} (h : m ρ = some (r, ρ1)) : opdE m ρ = some (.d r.dat, ρ1) := by
  simp only [opdE, h]
theorem o_e (hx : opd x (ev cf x).e = opdE (ev cf x).e) (h : (ev cf x).e ρ = some (r, ρ1)) : opd x (ev cf x).e ρ = some (.d r.dat, ρ1) := by
  rw [hx]; exact o_E h
theorem o_v (hx : opd x (ev cf x).e = opdE (ev cf x).e) (h : (ev cf x).e ρ = some (.val d, ρ1)) : opd x (ev cf x).e ρ = some (.d d, ρ1) := o_e hx h
theorem o_n (hx : opd x (ev cf x).e = opdE (ev cf x).e) (h : (ev cf x).e ρ = some (.new l, ρ1)) : opd x (ev cf x).e ρ = some (.d (.list l), ρ1) := o_e hx h
theorem r_d : rsv ρ (.d d) = some d := rfl
theorem r_bor {f g : Bool} (h : ρ[i]? = some (some (.own f g l))) : rsv ρ (.bor i) = some (.list l) := by
  simp only [rsv, h]
theorem e_var (h : ρ[i]? = some (some (.val d))) : (ev cf (.var i)).e ρ = some (.val d, ρ) := by
  show varE i ρ = _
  simp only [varE, h]
theorem e_own (h : ρ[i]? = some (some (.own false false l))) : (ev cf (.var i)).e ρ = some (.val (.list l), ρ.set i (some (.val (.list l)))) := by
  show varE i ρ = _
  simp only [varE, h]
theorem e_con : (ev cf (.con d)).e ρ = some (.val d, ρ) := rfl
theorem e_glb {y : Str} : (ev cf (.glb y d)).e ρ = some (.val d, ρ) := rfl
theorem q_nil : seqO [] ρ = some ([], ρ) := rfl
theorem q_cons {m : EvO} {ms : List EvO} (h : m ρ = some (o, ρ1)) (h2 : seqO ms ρ1 = some (os, ρ2)) : seqO (m :: ms) ρ = some (o :: os, ρ2) := by
  simp only [seqO, h, h2]
theorem a_one {m : EvO} {g : PyData → Option Rs} (h : m ρ = some (o, ρ1)) (h1 : rsv ρ1 o = some d) (h2 : g d = some r) : app1 [m] (g1 g) ρ = some (r, ρ1) := by
  simp only [app1, q_cons h q_nil, rsvs, h1, g1, h2]
theorem a_two {m n : EvO} {g : PyData → PyData → Option Rs} (h : m ρ = some (oa, ρ1)) (hb : n ρ1 = some (ob, ρ2)) (h1 : rsv ρ2 oa = some d1) (h2 : rsv ρ2 ob = some d2) (h3 : g d1 d2 = some r) : app1 [m, n] (g2 g) ρ = some (r, ρ2) := by
  simp only [app1, q_cons h (q_cons hb q_nil), rsvs, h1, h2, g2, h3]
theorem e_bin {p : BOp} (ha : opd a (ev cf a).e ρ = some (oa, ρ1)) (hb : opd b (ev cf b).e ρ1 = some (ob, ρ2)) (h1 : rsv ρ2 oa = some d1) (h2 : rsv ρ2 ob = some d2) (h : binD p d1 d2 = some r) : (ev cf (.bin p a b)).e ρ = some (r, ρ2) := a_two ha hb h1 h2 h
theorem e_neg {n : Int} (ha : opd a (ev cf a).e ρ = some (oa, ρ1)) (h1 : rsv ρ1 oa = some (.int n)) : (ev cf (.neg a)).e ρ = some (.val (.int (-n)), ρ1) := a_one ha h1 rfl
theorem e_cmp {p : COp} (ha : opd a (ev cf a).e ρ = some (oa, ρ1)) (hb : opd b (ev cf b).e ρ1 = some (ob, ρ2)) (h1 : rsv ρ2 oa = some d1) (h2 : rsv ρ2 ob = some d2) (h : cmpD p d1 d2 = some t) : (ev cf (.cmp p a b)).e ρ = some (.val (.bool t), ρ2) := a_two ha hb h1 h2 (by show rb (cmpD p d1 d2) = _; rw [h]; rfl)
theorem e_cmpB {p : COp} (ha : opd a (ev cf a).e ρ = some (oa, ρ1)) (hb : opd b (ev cf b).e ρ1 = some (ob, ρ2)) (h1 : rsv ρ2 oa = some d1) (h2 : rsv ρ2 ob = some d2) (h : cmpD p d1 d2 = some u) (hu : u = t) : (ev cf (.cmp p a b)).e ρ = some (.val (.bool t), ρ2) := hu ▸ e_cmp ha hb h1 h2 h
theorem e_idx (ha : opd a (ev cf a).e ρ = some (oa, ρ1)) (hb : opd b (ev cf b).e ρ1 = some (ob, ρ2)) (h1 : rsv ρ2 oa = some d1) (h2 : rsv ρ2 ob = some d2) (h : idxD d1 d2 = some d) : (ev cf (.idx a b)).e ρ = some (.val d, ρ2) := a_two ha hb h1 h2 (by show rd (idxD d1 d2) = _; rw [h]; rfl)
theorem e_isi {y : Ty} (ha : opd a (ev cf a).e ρ = some (oa, ρ1)) (h1 : rsv ρ1 oa = some d1) (h : isiD y d1 = some t) : (ev cf (.isi a y)).e ρ = some (.val (.bool t), ρ1) := a_one ha h1 (by show rb (isiD y d1) = _; rw [h]; rfl)
theorem e_lens (ha : opd a (ev cf a).e ρ = some (oa, ρ1)) (h1 : rsv ρ1 oa = some d1) (h : lensD d1 = some r) : (ev cf (.lens a)).e ρ = some (r, ρ1) := a_one ha h1 h
theorem a_all {ms : List EvO} {g : List PyData → Option Rs} (h : seqO ms ρ = some (os, ρ1)) (h1 : rsvs ρ1 os = some ds) (h2 : g ds = some r) : app1 ms g ρ = some (r, ρ1) := by
  simp only [app1, h, h1, h2]
theorem e_tup (h : seqO (evf cf es) ρ = some (os, ρ1)) (h1 : rsvs ρ1 os = some ds) (h2 : tupG ds = some r) : (ev cf (.tup es)).e ρ = some (r, ρ1) := a_all h h1 h2
theorem e_lst (h : seqO (evf cf es) ρ = some (os, ρ1)) (h1 : rsvs ρ1 os = some ds) (h2 : lstG ds = some r) : (ev cf (.lst es)).e ρ = some (r, ρ1) := a_all h h1 h2
theorem e_blt {y : Blt} (h : seqO (evs cf es) ρ = some (os, ρ1)) (h1 : rsvs ρ1 os = some ds) (h2 : bltD y ds = some r) : (ev cf (.blt y es)).e ρ = some (r, ρ1) := a_all h h1 h2
theorem s_nil : seqO (evs cf .nil) ρ = some ([], ρ) := rfl
theorem s_cons {xs : Exs} (h : opd x (ev cf x).e ρ = some (o, ρ1)) (h2 : seqO (evs cf xs) ρ1 = some (os, ρ2)) : seqO (evs cf (.cons x xs)) ρ = some (o :: os, ρ2) := q_cons h h2
theorem f_nil : seqO (evf cf .nil) ρ = some ([], ρ) := rfl
theorem f_cons {xs : Exs} (h : (ev cf x).e ρ = some (r, ρ1)) (h2 : seqO (evf cf xs) ρ1 = some (os, ρ2)) : seqO (evf cf (.cons x xs)) ρ = some (.d r.dat :: os, ρ2) := q_cons (o_E h) h2
theorem f_v {xs : Exs} (h : (ev cf x).e ρ = some (.val d, ρ1)) (h2 : seqO (evf cf xs) ρ1 = some (os, ρ2)) : seqO (evf cf (.cons x xs)) ρ = some (.d d :: os, ρ2) := f_cons h h2
theorem f_n {xs : Exs} (h : (ev cf x).e ρ = some (.new l, ρ1)) (h2 : seqO (evf cf xs) ρ1 = some (os, ρ2)) : seqO (evf cf (.cons x xs)) ρ = some (.d (.list l) :: os, ρ2) := f_cons h h2
theorem v_nil : rsvs ρ [] = some [] := rfl
theorem v_cons (h : rsv ρ o = some d) (h2 : rsvs ρ os = some ds) : rsvs ρ (o :: os) = some (d :: ds) := by simp only [rsvs, h, h2]
theorem e_iteT (h : (ev cf c).t ρ = some (true, ρ1)) (h2 : (ev cf a).e ρ1 = some (r, ρ2)) : (ev cf (.ite c a b)).e ρ = some (r, ρ2) := by
  show iteE _ _ _ ρ = _
  simp only [iteE, h, h2]
theorem e_iteF (h : (ev cf c).t ρ = some (false, ρ1)) (h2 : (ev cf b).e ρ1 = some (r, ρ2)) : (ev cf (.ite c a b)).e ρ = some (r, ρ2) := by
  show iteE _ _ _ ρ = _
  simp only [iteE, h, h2]
/-- a call that lends nothing -/
theorem e_call {f : Nat} {io : Option Nat} {out : List PyData} {sl : Option (Nat × Bool)} (h : seqO (evs cf es) ρ = some (os, ρ1)) (h1 : rsvs ρ1 os = some ds) (h2 : ioSlot ρ1 os io = some sl) (h3 : borsO 0 io os = []) (h4 : cf f io ds = some (r, out)) : (ev cf (.call f io es)).e ρ = some (r, ioPut ρ1 out sl) := by
  show callE cf f io (evs cf es) ρ = _
  simp only [callE, h, h1, h2, h3, h4, List.all_nil, if_true, freezeAll]
  split <;> rfl
theorem e_callN {f : Nat} {out : List PyData} (h : seqO (evs cf es) ρ = some (os, ρ1)) (h1 : rsvs ρ1 os = some ds) (h3 : borsO 0 none os = []) (h4 : cf f none ds = some (r, out)) : (ev cf (.call f none es)).e ρ = some (r, ρ1) := e_call (sl := none) h h1 rfl h3 h4
theorem e_callS {f j i : Nat} {g : Bool} {out : List PyData} (h : seqO (evs cf es) ρ = some (os, ρ1)) (h1 : rsvs ρ1 os = some ds) (h2 : ioSlot ρ1 os (some j) = some (some (i, g))) (h3 : borsO 0 (some j) os = []) (h4 : cf f (some j) ds = some (r, out)) (h5 : ρ1.set i (some (.own g false out)) = ρ2) : (ev cf (.call f (some j) es)).e ρ = some (r, ρ2) := h5 ▸ e_call (sl := some (i, g)) h h1 h2 h3 h4
/-- tests -/
theorem t_e (hx : (ev cf x).t = tstO (opdE (ev cf x).e)) (h : (ev cf x).e ρ = some (r, ρ1)) (h2 : truD r.dat = some t) : (ev cf x).t ρ = some (t, ρ1) := by
  rw [hx]
  simp only [tstO, o_E h, rsv, h2]
theorem t_cmp {p : COp} (ha : opd a (ev cf a).e ρ = some (oa, ρ1)) (hb : opd b (ev cf b).e ρ1 = some (ob, ρ2)) (h1 : rsv ρ2 oa = some d1) (h2 : rsv ρ2 ob = some d2) (h : cmpD p d1 d2 = some t) : (ev cf (.cmp p a b)).t ρ = some (t, ρ2) := t_e rfl (e_cmp ha hb h1 h2 h) rfl
theorem t_cmpB {p : COp} (ha : opd a (ev cf a).e ρ = some (oa, ρ1)) (hb : opd b (ev cf b).e ρ1 = some (ob, ρ2)) (h1 : rsv ρ2 oa = some d1) (h2 : rsv ρ2 ob = some d2) (h : cmpD p d1 d2 = some u) (hu : u = t) : (ev cf (.cmp p a b)).t ρ = some (t, ρ2) := hu ▸ t_cmp ha hb h1 h2 h
theorem t_isi {y : Ty} (ha : opd a (ev cf a).e ρ = some (oa, ρ1)) (h1 : rsv ρ1 oa = some d1) (h : isiD y d1 = some t) : (ev cf (.isi a y)).t ρ = some (t, ρ1) := t_e rfl (e_isi ha h1 h) rfl
theorem t_call {f : Nat} {io : Option Nat} {out : List PyData} {sl : Option (Nat × Bool)} (h : seqO (evs cf es) ρ = some (os, ρ1)) (h1 : rsvs ρ1 os = some ds) (h2 : ioSlot ρ1 os io = some sl) (h3 : borsO 0 io os = []) (h4 : cf f io ds = some (.val (.bool t), out)) : (ev cf (.call f io es)).t ρ = some (t, ioPut ρ1 out sl) := t_e rfl (e_call h h1 h2 h3 h4) rfl
theorem t_callN {f : Nat} {out : List PyData} (h : seqO (evs cf es) ρ = some (os, ρ1)) (h1 : rsvs ρ1 os = some ds) (h3 : borsO 0 none os = []) (h4 : cf f none ds = some (.val (.bool t), out)) : (ev cf (.call f none es)).t ρ = some (t, ρ1) := t_e rfl (e_callN h h1 h3 h4) rfl
theorem t_not (h : (ev cf a).t ρ = some (t, ρ1)) : (ev cf (.not a)).t ρ = some (!t, ρ1) := by
  show notT _ ρ = _
  simp only [notT, h]
theorem t_andF (h : (ev cf a).t ρ = some (false, ρ1)) : (ev cf (.and a b)).t ρ = some (false, ρ1) := by
  show andT _ _ ρ = _
  simp only [andT, h]
theorem t_andT (h : (ev cf a).t ρ = some (true, ρ1)) (h2 : (ev cf b).t ρ1 = some (t, ρ2)) : (ev cf (.and a b)).t ρ = some (t, ρ2) := by
  show andT _ _ ρ = _
  simp only [andT, h, h2]
theorem t_orT (h : (ev cf a).t ρ = some (true, ρ1)) : (ev cf (.or a b)).t ρ = some (true, ρ1) := by
  show orT _ _ ρ = _
  simp only [orT, h]
theorem t_orF (h : (ev cf a).t ρ = some (false, ρ1)) (h2 : (ev cf b).t ρ1 = some (t, ρ2)) : (ev cf (.or a b)).t ρ = some (t, ρ2) := by
  show orT _ _ ρ = _
  simp only [orT, h, h2]
theorem e_andF (h : (ev cf a).e ρ = some (.val (.bool false), ρ1)) : (ev cf (.and a b)).e ρ = some (.val (.bool false), ρ1) := by
  show andE _ _ ρ = _
  simp only [andE, h]
theorem e_andT (h : (ev cf a).e ρ = some (.val (.bool true), ρ1)) (h2 : (ev cf b).e ρ1 = some (r, ρ2)) : (ev cf (.and a b)).e ρ = some (r, ρ2) := by
  show andE _ _ ρ = _
  simp only [andE, h, h2]
theorem e_orT (h : (ev cf a).e ρ = some (.val (.bool true), ρ1)) : (ev cf (.or a b)).e ρ = some (.val (.bool true), ρ1) := by
  show orE _ _ ρ = _
  simp only [orE, h]
theorem e_orF (h : (ev cf a).e ρ = some (.val (.bool false), ρ1)) (h2 : (ev cf b).e ρ1 = some (r, ρ2)) : (ev cf (.or a b)).e ρ = some (r, ρ2) := by
  show orE _ _ ρ = _
  simp only [orE, h, h2]
theorem e_not (h : (ev cf a).e ρ = some (.val (.bool t), ρ1)) : (ev cf (.not a)).e ρ = some (.val (.bool (!t)), ρ1) := by
  show notE _ ρ = _
  simp only [notE, h]
theorem e_chnT {p q : COp} (ha : opd a (ev cf a).e ρ = some (oa, ρ1)) (hb : opd b (ev cf b).e ρ1 = some (ob, ρ2)) (h1 : rsv ρ2 oa = some d1) (h2 : rsv ρ2 ob = some d2) (h : cmpD p d1 d2 = some true) (hc : opd c (ev cf c).e ρ2 = some (oc, ρ3)) (h3 : rsv ρ3 ob = some d2) (h4 : rsv ρ3 oc = some d3) (h5 : cmpD q d2 d3 = some t) : (ev cf (.chn p q a b c)).e ρ = some (.val (.bool t), ρ3) := by
  show chnE _ _ _ _ _ ρ = _
  simp only [chnE, ha, hb, h1, h2, h, hc, h3, h4, h5]
theorem e_slcA {n : Int} (ha : opd a (ev cf a).e ρ = some (oa, ρ1)) (hb : opd b (ev cf b).e ρ1 = some (.d (.int n), ρ2)) (h1 : rsv ρ2 oa = some d1) (h : slcD d1 (some n) none = some r) : (ev cf (.slc a (.cons b .nil) .nil)).e ρ = some (r, ρ2) := by
  show slcE _ [opd b (ev cf b).e] [] ρ = _
  simp only [slcE, ha, partO, hb, h1, h]
theorem g_asg {v : Cl} (h : (ev cf e).e ρ = some (r, ρ1)) (hv : r.cl = v) (h2 : setV i v ρ1 = some ρ2) : ex cf (.asg i e) ρ = some (.nx ρ2) := by
  show asgM _ _ ρ = _
  simp only [asgM, h, hv, h2]
theorem g_asgV (h : (ev cf e).e ρ = some (.val d, ρ1)) (h2 : setV i (.val d) ρ1 = some ρ2) : ex cf (.asg i e) ρ = some (.nx ρ2) := g_asg h rfl h2
theorem g_asgN (h : (ev cf e).e ρ = some (.new l, ρ1)) (h2 : setV i (.own false false l) ρ1 = some ρ2) : ex cf (.asg i e) ρ = some (.nx ρ2) := g_asg h rfl h2
theorem g_par {j : Nat} {s : Rs} {ρ4 : En} (ha : (ev cf a).e ρ = some (r, ρ1)) (hb : (ev cf b).e ρ1 = some (s, ρ2)) (h1 : setV i (.val r.dat) ρ2 = some ρ3) (h2 : setV j (.val s.dat) ρ3 = some ρ4) : ex cf (.par i j a b) ρ = some (.nx ρ4) := by
  show parM _ _ _ _ ρ = _
  simp only [parM, ha, hb, h1, h2]
theorem g_parV {j : Nat} {ρ4 : En} (ha : (ev cf a).e ρ = some (.val d1, ρ1)) (hb : (ev cf b).e ρ1 = some (.val d2, ρ2)) (h1 : setV i (.val d1) ρ2 = some ρ3) (h2 : setV j (.val d2) ρ3 = some ρ4) : ex cf (.par i j a b) ρ = some (.nx ρ4) := g_par ha hb h1 h2
theorem g_unp {is : List Nat} (h : (ev cf e).e ρ = some (.val (.tuple ds), ρ1)) (hl : ds.length = is.length) (h2 : setVs is ds ρ1 = some ρ2) : ex cf (.unp is e) ρ = some (.nx ρ2) := by
  show unpM _ _ ρ = _
  simp only [unpM, h, hl, h2, if_true]
theorem g_drop (h : (ev cf e).e ρ = some (r, ρ1)) : ex cf (.drop e) ρ = some (.nx ρ1) := by
  show dropM _ ρ = _
  simp only [dropM, h]
theorem g_app {f0 e0 f : Bool} {l0 : List PyData} (h0 : ρ[i]? = some (some (.own f0 e0 l0))) (h : (ev cf e).e ρ = some (r, ρ1)) (h1 : ρ1[i]? = some (some (.own f false l))) (hl : l.length < lim) : ex cf (.app i e) ρ = some (.nx (ρ1.set i (some (.own f false (l ++ [r.dat]))))) := by
  show appM _ _ ρ = _
  simp only [appM, h0, h, h1, hl, if_true]
theorem g_appV {f0 e0 f : Bool} {l0 : List PyData} (h0 : ρ[i]? = some (some (.own f0 e0 l0))) (h : (ev cf e).e ρ = some (.val d, ρ1)) (h1 : ρ1[i]? = some (some (.own f false l))) (hl : l.length < lim) (h2 : ρ1.set i (some (.own f false (l ++ [d]))) = ρ2) : ex cf (.app i e) ρ = some (.nx ρ2) := h2 ▸ g_app h0 h h1 hl
theorem g_ifT {A B : Sms} {y : Option SR} (h : (ev cf c).t ρ = some (true, ρ1)) (h2 : exs cf A ρ1 = y) : ex cf (.ife c A B) ρ = y := by
  show ifM _ _ _ ρ = _
  simp only [ifM, h, h2]
theorem g_ifF {A B : Sms} {y : Option SR} (h : (ev cf c).t ρ = some (false, ρ1)) (h2 : exs cf B ρ1 = y) : ex cf (.ife c A B) ρ = y := by
  show ifM _ _ _ ρ = _
  simp only [ifM, h, h2]
theorem w_go {c : EvB} {ma : EvM} {n : Nat} {y : Option SR} (h : c ρ = some (true, ρ1)) (h1 : ma ρ1 = some (.nx ρ2)) (h2 : whlM c ma n ρ2 = y) : whlM c ma (n + 1) ρ = y := by
  simp only [whlM, h, h1, h2]
theorem w_stop {c : EvB} {ma : EvM} {n : Nat} (h : c ρ = some (false, ρ1)) : whlM c ma (n + 1) ρ = some (.nx ρ1) := by
  simp only [whlM, h]
theorem e_negc : (ev cf (.neg (.con (.int 1)))).e ρ = some (.val (.int (-1)), ρ) := rfl
theorem idx_last : idxD (.list (l ++ [d])) (.int (-1)) = some d := atI_last l d
theorem xs_nil : exs cf .nil ρ = some (.nx ρ) := rfl
theorem c_rng {n : Nat} (ha : (ev cf a).e ρ = some (r, ρ1)) (h : gRng [r.dat] = some l) : evSrc cf (.rng a) ρ = some (l, ρ1, none) := by
  show srcG [opdE (ev cf a).e] gRng ρ = _
  simp only [srcG, q_cons (o_E ha) q_nil, h]
theorem c_rngV (ha : (ev cf a).e ρ = some (.val d, ρ1)) (h : gRng [d] = some l) : evSrc cf (.rng a) ρ = some (l, ρ1, none) := c_rng (n := 0) ha h
theorem c_enm (ha : (ev cf a).e ρ = some (r, ρ1)) (h : gEnm [r.dat] = some l) : evSrc cf (.enm a) ρ = some (l, ρ1, none) := by
  show srcG [opdE (ev cf a).e] gEnm ρ = _
  simp only [srcG, q_cons (o_E ha) q_nil, h]
theorem c_zip {s : Rs} (ha : (ev cf a).e ρ = some (r, ρ1)) (hb : (ev cf b).e ρ1 = some (s, ρ2)) (h : gZip [r.dat, s.dat] = some l) : evSrc cf (.zip a b) ρ = some (l, ρ2, none) := by
  show srcG [opdE (ev cf a).e, opdE (ev cf b).e] gZip ρ = _
  simp only [srcG, q_cons (o_E ha) (q_cons (o_E hb) q_nil), h]
theorem c_seqL (ha : opd a (ev cf a).e ρ = some (.d (.list l), ρ1)) : evSrc cf (.seq a) ρ = some (l, ρ1, none) := by
  show srcSeq _ ρ = _
  simp only [srcSeq, ha]
theorem c_seqT (ha : opd a (ev cf a).e ρ = some (.d (.tuple l), ρ1)) : evSrc cf (.seq a) ρ = some (l, ρ1, none) := by
  show srcSeq _ ρ = _
  simp only [srcSeq, ha]
end
theorem enm_len : ∀ {l : List PyData} {k : Nat}, (enmD k l).length = l.length
  | [], _ => rfl
  | _ :: r, k => congrArg Nat.succ (enm_len (l := r) (k := k + 1))
theorem enm_get : ∀ {l : List PyData} {k i : Nat} {d : PyData}, (enmD k l)[i]? = some d → ∃ e, l[i]? = some e ∧ d = .tuple [.int ((k + i : Nat) : Int), e]
  | [], k, i, d, h => by simp [enmD] at h
  | e :: r, k, 0, d, h => by
    simp only [enmD, List.getElem?_cons_zero, Option.some.injEq] at h
    exact ⟨e, rfl, h.symm⟩
  | e :: r, k, i + 1, d, h => by
    simp only [enmD, List.getElem?_cons_succ] at h
    obtain ⟨e', h1, h2⟩ := enm_get h
    exact ⟨e', by simpa using h1, by rw [h2]; congr 3; congr 1; omega⟩
end Ev
namespace K30
open PySem PySem.W
def C : Nat → Nat → Nat
  | _, 0 => 1
  | 0, _ + 1 => 0
  | n + 1, k + 1 => C n k + C n (k + 1)
theorem C_zero (n : Nat) : C n 0 = 1 := by cases n <;> rfl
theorem C_succ (n k : Nat) : C (n + 1) (k + 1) = C n k + C n (k + 1) := rfl
theorem C_lt : ∀ {n k : Nat}, n < k → C n k = 0
  | 0, k + 1, _ => rfl
  | n + 1, k + 1, h => by rw [C_succ, C_lt (by omega), C_lt (by omega)]
theorem C_pos : ∀ {n k : Nat}, k ≤ n → 1 ≤ C n k
  | n, 0, _ => by rw [C_zero]; exact Nat.le_refl _
  | n + 1, k + 1, h => by
    have := C_pos (n := n) (k := k) (by omega)
    rw [C_succ]; omega
theorem C_self : ∀ n : Nat, C n n = 1
  | 0 => rfl
  | n + 1 => by rw [C_succ, C_self n, C_lt (by omega)]
theorem C_one : ∀ n : Nat, C n 1 = n
  | 0 => rfl
  | n + 1 => by
    show C n 0 + C n 1 = n + 1
    rw [C_zero, C_one n]; omega
theorem C_step (n k : Nat) : C n k ≤ C (n + 1) k := by
  cases k with
  | zero => rw [C_zero, C_zero]; exact Nat.le_refl _
  | succ k => rw [C_succ]; omega
theorem C_mono {n m k : Nat} (h : n ≤ m) : C n k ≤ C m k := by
  induction h with
  | refl => exact Nat.le_refl _
  | step _ ih => exact Nat.le_trans ih (C_step _ _)
theorem C_strict {n k : Nat} (h : k ≤ n + 1) (h1 : 1 ≤ k) : C n k < C (n + 1) k := by
  obtain ⟨j, rfl⟩ : ∃ j, k = j + 1 := ⟨k - 1, by omega⟩
  have := C_pos (n := n) (k := j) (by omega)
  rw [C_succ]; omega
/-- C(a, s) is at least a - s + 1 -/
theorem C_big {s : Nat} (h1 : 1 ≤ s) : ∀ j : Nat, j + 1 ≤ C (s + j) s
  | 0 => by
    show 0 + 1 ≤ C s s
    rw [C_self]; exact Nat.le_refl _
  | j + 1 => by
    have a := C_big h1 j
    have b := C_strict (n := s + j) (k := s) (by omega) h1
    show j + 1 + 1 ≤ C (s + j + 1) s
    omega
theorem C_mul : ∀ n k : Nat, (k + 1) * C (n + 1) (k + 1) = (n + 1) * C n k
  | 0, 0 => rfl
  | 0, k + 1 => by
    show (k + 2) * (C 0 (k + 1) + C 0 (k + 2)) = 1 * 0
    show (k + 2) * (0 + 0) = 1 * 0
    simp
  | n + 1, 0 => by
    rw [C_succ, C_zero, C_one]; omega
  | n + 1, k + 1 => by
    have a := C_mul n k
    have b := C_mul n (k + 1)
    have e : C (n + 1) (k + 1) = C n k + C n (k + 1) := rfl
    rw [C_succ (n + 1) (k + 1), Nat.mul_add, b]
    have e2 : (k + 1 + 1) * C (n + 1) (k + 1) = (k + 1) * C (n + 1) (k + 1) + C (n + 1) (k + 1) := by rw [Nat.add_mul (k + 1) 1, Nat.one_mul]
    rw [e2, a]
    have e3 : (n + 1 + 1) * C (n + 1) (k + 1) = (n + 1) * C (n + 1) (k + 1) + C (n + 1) (k + 1) := by rw [Nat.add_mul (n + 1) 1, Nat.one_mul]
    rw [e3, e, Nat.mul_add]
    omega
theorem C_next {n k : Nat} (h : k ≤ n) : (k + 1) * C n (k + 1) = (n - k) * C n k := by
  cases n with
  | zero =>
    have : k = 0 := by omega
    subst this; rfl
  | succ n =>
    have a := C_mul n k
    rw [C_succ, Nat.mul_add] at a
    cases k with
    | zero => rw [C_zero, C_one]; omega
    | succ j =>
      have b := C_mul n j
      -- (j+1) C (n+1) (j+1) = (n+1) C n j ; (j+2) C(n+1)(j+2) = (n+1) C n (j+1); C(n+1)(j+1) = C n j + C n (j+1)
      have a2 := C_mul n (j + 1)
      rw [a2]
      have e : C (n + 1) (j + 1) = C n j + C n (j + 1) := rfl
      have e2 : (n + 1) * C (n + 1) (j + 1) = (n + 1) * C n j + (n + 1) * C n (j + 1) := by rw [e, Nat.mul_add]
      have e3 : (n + 1 - (j + 1)) * C (n + 1) (j + 1) + (j + 1) * C (n + 1) (j + 1) = (n + 1) * C (n + 1) (j + 1) := by
        rw [← Nat.add_mul]; congr 1; omega
      rw [b] at e3
      omega
/-- the falling product -/
def fac : Nat → Nat
  | 0 => 1
  | n + 1 => (n + 1) * fac n
theorem fac_pos : ∀ n : Nat, 1 ≤ fac n
  | 0 => Nat.le_refl _
  | n + 1 => by
    have := fac_pos n
    show 1 ≤ (n + 1) * fac n
    exact Nat.le_trans this (Nat.le_mul_of_pos_left _ (by omega))
theorem fp_eq (n : Nat) : ∀ k : Nat, k ≤ n → Builtin.Math.fallingProduct n k = ((C n k * fac k : Nat) : Int)
  | 0, _ => by rw [mc_fp_zero, C_zero]; rfl
  | k + 1, h => by
    rw [mc_fp_succ, fp_eq n k (by omega)]
    have e : ((n : Int) - (k : Int)) = ((n - k : Nat) : Int) := by omega
    rw [e, ← Int.natCast_mul]
    congr 1
    have q := C_next (n := n) (k := k) (by omega)
    show C n k * fac k * (n - k) = C n (k + 1) * ((k + 1) * fac k)
    calc C n k * fac k * (n - k) = (n - k) * C n k * fac k := by rw [Nat.mul_comm (C n k * fac k), Nat.mul_assoc]
      _ = (k + 1) * C n (k + 1) * fac k := by rw [q]
      _ = C n (k + 1) * ((k + 1) * fac k) := by rw [Nat.mul_comm (k + 1), Nat.mul_assoc]
theorem fp_self (n : Nat) : Builtin.Math.fallingProduct n n = (fac n : Int) := by rw [fp_eq n n (Nat.le_refl _), C_self, Nat.one_mul]
theorem C_sym : ∀ a b : Nat, C (a + b) a = C (a + b) b
  | 0, b => by rw [C_zero, Nat.zero_add, C_self]
  | a + 1, 0 => by rw [Nat.add_zero, C_self, C_zero]
  | a + 1, b + 1 => by
    show C (a + 1 + b + 1) (a + 1) = C (a + 1 + b + 1) (b + 1)
    have p := C_sym a (b + 1)
    have q := C_sym (a + 1) b
    have e : a + (b + 1) = a + 1 + b := by omega
    rw [e] at p
    rw [C_succ, C_succ, p, q]; omega
theorem comb_eq (a b : Nat) : mcComb a b = (C a b : Int) := by
  by_cases h : a < b
  · rw [mcComb_above (by omega), C_lt h]; rfl
  · have hb : b ≤ a := by omega
    by_cases h2 : b ≤ a - b
    · rw [mcComb_at (m := (b : Int)) (by omega) (by omega) (by omega), Int.toNat_natCast, fp_eq a b hb, fp_self]
      rw [Int.natCast_mul]
      exact Int.mul_ediv_cancel _ (by have := fac_pos b; omega)
    · rw [mcComb_at (m := ((a - b : Nat) : Int)) (by omega) (by omega) (by omega), Int.toNat_natCast, fp_eq a (a - b) (by omega), fp_self]
      rw [Int.natCast_mul, Int.mul_ediv_cancel _ (by have := fac_pos (a - b); omega)]
      have := C_sym b (a - b)
      rw [show b + (a - b) = a by omega] at this
      rw [this]
def topGo (n s : Nat) : Nat → Nat → Nat
  | 0, a => a
  | f + 1, a => if C (a + 1) s ≤ n then topGo n s f (a + 1) else a
def top (n s : Nat) : Nat := topGo n s n s
structure IsTop (n s a : Nat) : Prop where
  ge : s ≤ a
  le : C a s ≤ n
  lt : n < C (a + 1) s
theorem topGo_ok {n s : Nat} (h1 : 1 ≤ s) : ∀ (f a : Nat), s ≤ a → C a s ≤ n → n + s ≤ a + f → IsTop n s (topGo n s f a)
  | 0, a, h, hl, hf => by
    have := C_big h1 (a - s)
    rw [show s + (a - s) = a by omega] at this
    have : C a s < C (a + 1) s := C_strict (by omega) h1
    exact ⟨h, hl, by show n < C (a + 1) s; omega⟩
  | f + 1, a, h, hl, hf => by
    unfold topGo
    split
    · rename_i c
      exact topGo_ok h1 f (a + 1) (by omega) c (by omega)
    · rename_i c
      exact ⟨h, hl, by omega⟩
theorem top_ok {n s : Nat} (h1 : 1 ≤ s) (hn : 1 ≤ n) : IsTop n s (top n s) := topGo_ok h1 n s (Nat.le_refl _) (by rw [C_self]; exact hn) (by omega)
theorem IsTop.uniq {n s a b : Nat} (x : IsTop n s a) (y : IsTop n s b) : a = b := by
  rcases Nat.lt_trichotomy a b with h | h | h
  · have := C_mono (n := a + 1) (m := b) (k := s) (by omega)
    have := x.lt; have := y.le; omega
  · exact h
  · have := C_mono (n := b + 1) (m := a) (k := s) (by omega)
    have := y.lt; have := x.le; omega
theorem IsTop.mono {n m s a b : Nat} (h : n ≤ m) (x : IsTop n s a) (y : IsTop m s b) : a ≤ b := by
  refine Nat.le_of_not_lt fun c => ?_
  have := C_mono (n := b + 1) (m := a) (k := s) (by omega)
  have := y.lt; have := x.le; omega
theorem top_one {n : Nat} (hn : 1 ≤ n) : top n 1 = n := (top_ok (Nat.le_refl _) hn).uniq ⟨hn, by rw [C_one]; exact Nat.le_refl _, by rw [C_one]; omega⟩
def casc : Nat → Nat → List Nat
  | 0, _ => []
  | s + 1, n => if n = 0 then [] else top n (s + 1) :: casc s (n - C (top n (s + 1)) (s + 1))
/-- the sum of C(one + m, s - at + u - 1) over the row -/
def led (m u : Nat) : Nat → List Nat → Nat
  | _, [] => 0
  | s, a :: r => C (a + m) (s + u - 1) + led m u (s - 1) r
theorem casc_zero (s : Nat) : casc s 0 = [] := by cases s <;> rfl
theorem casc_cons {s n : Nat} (h : n ≠ 0) : casc (s + 1) n = top n (s + 1) :: casc s (n - C (top n (s + 1)) (s + 1)) := if_neg h
/-- what is left is below C(top, s - 1) -/
theorem rest_lt {n s : Nat} (hn : 1 ≤ n) : n - C (top n (s + 1)) (s + 1) < C (top n (s + 1)) s := by
  have t := top_ok (n := n) (s := s + 1) (by omega) hn
  have := t.lt
  have := t.le
  rw [C_succ] at *
  omega
theorem rest_zero {n : Nat} (hn : 1 ≤ n) : n - C (top n 1) 1 = 0 := by rw [top_one hn, C_one]; omega
/-- how the row goes on: the next top is smaller -/
theorem next_lt {n s : Nat} (hn : 1 ≤ n) (hr : n - C (top n (s + 2)) (s + 2) ≠ 0) : top (n - C (top n (s + 2)) (s + 2)) (s + 1) < top n (s + 2) := by
  have t := top_ok (n := n - C (top n (s + 2)) (s + 2)) (s := s + 1) (by omega) (by omega)
  have q : n - C (top n (s + 2)) (s + 2) < C (top n (s + 2)) (s + 1) := rest_lt (n := n) (s := s + 1) hn
  refine Nat.lt_of_not_le fun c => ?_
  have := C_mono (k := s + 1) c
  have := t.le
  omega
/-- the row's own sum is the number -/
theorem casc_sum : ∀ (s n : Nat), 1 ≤ s → led 0 1 s (casc s n) = n
  | s + 1, n, _ => by
    by_cases h : n = 0
    · subst h; rw [casc_zero]; rfl
    · rw [casc_cons h]
      have t := top_ok (n := n) (s := s + 1) (by omega) (by omega)
      show C (top n (s + 1) + 0) (s + 1 + 1 - 1) + led 0 1 (s + 1 - 1) _ = n
      rw [Nat.add_zero, show s + 1 + 1 - 1 = s + 1 from rfl, show s + 1 - 1 = s from rfl]
      have := t.le
      cases s with
      | zero =>
        have z := rest_zero (n := n) (by omega)
        rw [show 0 + 1 = 1 from rfl] at *
        rw [z, casc_zero]
        show C (top n 1) 1 + 0 = n
        omega
      | succ s =>
        rw [casc_sum (s + 1) _ (by omega)]; omega
/-- a row's sum stays below the next value at its first -/
theorem led_le (m u : Nat) (hu : u ≤ 2) : ∀ (s n : Nat), 1 ≤ s → n ≠ 0 → led m u s (casc s n) ≤ C (top n s + 1 + m) (s + u - 1)
  | s + 1, n, _, h => by
    rw [casc_cons h]
    have t := top_ok (n := n) (s := s + 1) (by omega) (by omega)
    show C (top n (s + 1) + m) (s + 1 + u - 1) + led m u (s + 1 - 1) _ ≤ _
    rw [show s + 1 - 1 = s from rfl, show s + 1 + u - 1 = s + u by omega]
    have step : C (top n (s + 1) + 1 + m) (s + u) = C (top n (s + 1) + m) (s + u) + (if s + u = 0 then 0 else C (top n (s + 1) + m) (s + u - 1)) := by
      rw [show top n (s + 1) + 1 + m = top n (s + 1) + m + 1 by omega]
      split
      · rename_i e; rw [e, C_zero, C_zero]
      · obtain ⟨j, ej⟩ : ∃ j, s + u = j + 1 := ⟨s + u - 1, by omega⟩
        rw [ej, C_succ]; show _ = C _ (j + 1) + C _ j; omega
    rw [step]
    by_cases hr : n - C (top n (s + 1)) (s + 1) = 0
    · rw [hr, casc_zero]; show _ + 0 ≤ _; omega
    · cases s with
      | zero => exact absurd (rest_zero (by omega)) hr
      | succ s =>
        have ih := led_le m u hu (s + 1) _ (by omega) hr
        have nl := next_lt (n := n) (s := s) (by omega) hr
        rw [if_neg (by omega)]
        have := C_mono (n := top (n - C (top n (s + 1 + 1)) (s + 1 + 1)) (s + 1) + 1 + m) (m := top n (s + 1 + 1) + m) (k := s + 1 + u - 1) (by
          have : s + 1 + 1 = s + 2 := rfl
          rw [this]; omega)
        omega
/-- greater number, greater sum -/
theorem led_mono (m u : Nat) (hu : u ≤ 2) : ∀ (s n n' : Nat), 1 ≤ s → n ≤ n' → led m u s (casc s n) ≤ led m u s (casc s n')
  | s + 1, n, n', _, h => by
    by_cases h0 : n = 0
    · subst h0; rw [casc_zero]; exact Nat.zero_le _
    · have h1 : n' ≠ 0 := by omega
      have t := top_ok (n := n) (s := s + 1) (by omega) (by omega)
      have t' := top_ok (n := n') (s := s + 1) (by omega) (by omega)
      have tm := t.mono h t'
      rcases Nat.lt_or_eq_of_le tm with c | c
      · have a := led_le m u hu (s + 1) n (by omega) h0
        have b : C (top n' (s + 1) + m) (s + 1 + u - 1) ≤ led m u (s + 1) (casc (s + 1) n') := by
          rw [casc_cons h1]; exact Nat.le_add_right _ _
        have := C_mono (n := top n (s + 1) + 1 + m) (m := top n' (s + 1) + m) (k := s + 1 + u - 1) (by omega)
        omega
      · rw [casc_cons h0, casc_cons h1, c]
        refine Nat.add_le_add_left ?_ _
        cases s with
        | zero =>
          show led m u 0 (casc 0 _) ≤ led m u 0 (casc 0 _)
          exact Nat.le_refl _
        | succ s => exact led_mono m u hu (s + 1) _ _ (by omega) (by omega)
theorem casc_len : ∀ (s n : Nat), (casc s n).length ≤ s
  | 0, _ => Nat.le_refl _
  | s + 1, n => by
    by_cases h : n = 0
    · subst h; rw [casc_zero]; exact Nat.zero_le _
    · rw [casc_cons h]
      exact Nat.succ_le_succ (casc_len s _)
/-- high enough: the at-th is at least s - at -/
def High : Nat → List Nat → Prop
  | _, [] => True
  | s, a :: r => s ≤ a ∧ High (s - 1) r
theorem casc_high : ∀ (s n : Nat), High s (casc s n)
  | 0, _ => trivial
  | s + 1, n => by
    by_cases h : n = 0
    · subst h; rw [casc_zero]; trivial
    · rw [casc_cons h]
      exact ⟨(top_ok (by omega) (by omega)).ge, casc_high s _⟩
def Desc : List Nat → Prop
  | a :: b :: r => b < a ∧ Desc (b :: r)
  | _ => True
theorem casc_desc : ∀ (s n : Nat), Desc (casc s n)
  | 0, _ => trivial
  | s + 1, n => by
    by_cases h : n = 0
    · subst h; rw [casc_zero]; trivial
    · rw [casc_cons h]
      have ih := casc_desc s (n - C (top n (s + 1)) (s + 1))
      by_cases hr : n - C (top n (s + 1)) (s + 1) = 0
      · rw [hr, casc_zero]; trivial
      · cases s with
        | zero => exact absurd (rest_zero (by omega)) hr
        | succ s =>
          rw [casc_cons hr] at ih ⊢
          exact ⟨next_lt (n := n) (s := s) (by omega) hr, ih⟩
/-- a row that is valid is the row of its sum: the sum stays below the next value -/
theorem led_lt : ∀ (s : Nat) (a : Nat) (r : List Nat), 1 ≤ s → High s (a :: r) → Desc (a :: r) → r.length + 1 ≤ s → led 0 1 s (a :: r) < C (a + 1) s
  | s + 1, a, [], _, hh, hd, hl => by
    show C (a + 0) (s + 1 + 1 - 1) + 0 < _
    exact C_strict (by have := hh.1; omega) (by omega)
  | s + 1, a, b :: r, _, hh, hd, hl => by
    have hl : r.length + 1 + 1 ≤ s + 1 := hl
    have ih := led_lt s b r (by omega) hh.2 hd.2 (by omega)
    have hb := hd.1
    have := C_mono (n := b + 1) (m := a) (k := s) (by omega)
    show C (a + 0) (s + 1 + 1 - 1) + led 0 1 (s + 1 - 1) (b :: r) < C (a + 1) (s + 1)
    rw [C_succ, Nat.add_zero, show s + 1 + 1 - 1 = s + 1 from rfl, show s + 1 - 1 = s from rfl]
    omega
theorem led_ge (s a : Nat) (r : List Nat) (h : 1 ≤ s) : C a s ≤ led 0 1 s (a :: r) := by
  show C a s ≤ C (a + 0) (s + 1 - 1) + _
  rw [Nat.add_zero, Nat.add_sub_cancel]
  exact Nat.le_add_right _ _
theorem casc_uniq : ∀ (s : Nat) (l : List Nat), High s l → Desc l → l.length ≤ s → casc s (led 0 1 s l) = l
  | 0, [], _, _, _ => rfl
  | s + 1, [], _, _, _ => casc_zero _
  | s + 1, a :: r, hh, hd, hl => by
    have hl : r.length + 1 ≤ s + 1 := hl
    have e1 := led_ge (s + 1) a r (by omega)
    have e2 := led_lt (s + 1) a r (by omega) hh hd hl
    have p := C_pos hh.1
    have t : top (led 0 1 (s + 1) (a :: r)) (s + 1) = a := (top_ok (by omega) (by omega)).uniq ⟨hh.1, e1, e2⟩
    rw [casc_cons (by omega), t]
    have e : led 0 1 (s + 1) (a :: r) - C a (s + 1) = led 0 1 s r := by
      show C (a + 0) (s + 1 + 1 - 1) + led 0 1 (s + 1 - 1) r - _ = _
      rw [Nat.add_zero, show s + 1 + 1 - 1 = s + 1 from rfl, show s + 1 - 1 = s from rfl]
      omega
    rw [e]
    have hd' : Desc r := by
      cases r with
      | nil => trivial
      | cons b r => exact hd.2
    rw [casc_uniq s r hh.2 hd' (by omega)]
/-- the entries that count one size up -/
def cut : Nat → List Nat → List Nat
  | _, [] => []
  | s, a :: r => if s < a then a :: cut (s - 1) r else []
theorem led_tail : ∀ (s : Nat) (l : List Nat) (x : Nat), Desc (x :: l) → x ≤ s + 1 → led 0 2 s l = 0
  | s, [], x, _, _ => rfl
  | s, a :: r, x, hd, hx => by
    have ha := hd.1
    show C (a + 0) (s + 2 - 1) + led 0 2 (s - 1) r = 0
    rw [C_lt (by omega), led_tail (s - 1) r a hd.2 (by omega)]
theorem led_cut : ∀ (s : Nat) (l : List Nat), 1 ≤ s → l.length ≤ s → Desc l → led 0 2 s l = led 0 1 (s + 1) (cut s l) ∧ High (s + 1) (cut s l) ∧ Desc (cut s l) ∧ (cut s l).length ≤ s + 1 ∧ led 0 1 s (cut s l) ≤ led 0 1 s l ∧ (∀ x, Desc (x :: l) → Desc (x :: cut s l))
  | s + 1, [], _, _, _ => ⟨rfl, trivial, trivial, Nat.zero_le _, Nat.le_refl _, fun x h => h⟩
  | s + 1, a :: r, _, hl, hd => by
    have hl : r.length + 1 ≤ s + 1 := hl
    unfold cut
    split
    · rename_i h
      have hd' : Desc r := by
        cases r with
        | nil => trivial
        | cons b r => exact hd.2
      cases s with
      | zero =>
        have : r = [] := List.eq_nil_of_length_eq_zero (by omega)
        subst this
        refine ⟨rfl, ⟨by omega, trivial⟩, trivial, by simp [cut], Nat.le_refl _, fun x hx => ⟨hx.1, trivial⟩⟩
      | succ s =>
        obtain ⟨i1, i2, i3, i4, i5, i6⟩ := led_cut (s + 1) r (by omega) (by omega) hd'
        refine ⟨?_, ⟨by omega, i2⟩, i6 a hd, Nat.succ_le_succ i4, ?_, fun x hx => ⟨hx.1, i6 a hd⟩⟩
        · show C (a + 0) _ + led 0 2 (s + 1) r = C (a + 0) _ + led 0 1 (s + 1 + 1) (cut (s + 1) r)
          rw [i1]
        · exact Nat.add_le_add_left i5 _
    · rename_i h
      refine ⟨?_, trivial, trivial, Nat.zero_le _, Nat.zero_le _, fun x hx => trivial⟩
      show C (a + 0) (s + 1 + 2 - 1) + led 0 2 (s + 1 - 1) r = 0
      rw [C_lt (by omega), show s + 1 - 1 = s from rfl, led_tail s r a hd (by omega)]
theorem led_shift (m : Nat) : ∀ (s : Nat) (l : List Nat), l.length ≤ s + 1 → led m 0 (s + 1) l ≤ led m 0 (s + 1) l := fun _ _ _ => Nat.le_refl _
/-- sums at u - 1 one size up -/
theorem led_up : ∀ (s : Nat) (l : List Nat), l.length ≤ s → led 0 0 (s + 1) l = led 0 1 s l
  | s, [], _ => by cases s <;> rfl
  | s + 1, a :: r, h => by
    have h : r.length + 1 ≤ s + 1 := h
    show C (a + 0) (s + 1 + 1 + 0 - 1) + led 0 0 (s + 1 + 1 - 1) r = C (a + 0) (s + 1 + 1 - 1) + led 0 1 (s + 1 - 1) r
    rw [show s + 1 + 1 - 1 = s + 1 from rfl, show s + 1 - 1 = s from rfl, led_up s r (by omega)]
/-- the law's last claim -/
theorem faces_above (s n : Nat) (h : 1 ≤ s) : led 0 0 (s + 1) (casc (s + 1) (led 0 2 s (casc s n))) ≤ n := by
  obtain ⟨i1, i2, i3, i4, i5, i6⟩ := led_cut s (casc s n) h (casc_len s n) (casc_desc s n)
  rw [i1, casc_uniq (s + 1) _ i2 i3 i4]
  have hc : (cut s (casc s n)).length ≤ s := by
    have : ∀ (s : Nat) (l : List Nat), (cut s l).length ≤ l.length := fun s l => by
      induction l generalizing s with
      | nil => exact Nat.le_refl _
      | cons a r ih =>
        unfold cut
        split
        · exact Nat.succ_le_succ (ih _)
        · exact Nat.zero_le _
    exact Nat.le_trans (this _ _) (casc_len s n)
  rw [led_up s _ hc]
  have := casc_sum s n h
  omega
theorem casc_full {s t : Nat} (h : 1 ≤ s) (ht : s ≤ t) : casc s (C t s) = [t] := by
  have := casc_uniq s [t] ⟨ht, trivial⟩ trivial h
  have e : led 0 1 s [t] = C t s := by
    show C (t + 0) (s + 1 - 1) + 0 = _
    rw [Nat.add_zero, Nat.add_zero, Nat.add_sub_cancel]
  rw [e] at this
  exact this
/-- t - 1, t - 2, .. s of them -/
def fall : Nat → Nat → List Nat
  | 0, _ => []
  | s + 1, t => (t - 1) :: fall s (t - 1)
theorem casc_fall : ∀ (s t : Nat), s < t → casc s (C t s - 1) = fall s t
  | 0, t, _ => by rw [C_zero]; rfl
  | s + 1, t, h => by
    obtain ⟨u, rfl⟩ : ∃ u, t = u + 1 := ⟨t - 1, by omega⟩
    have p1 := C_pos (n := u) (k := s) (by omega)
    have p2 := C_pos (n := u) (k := s + 1) (by omega)
    have e : C (u + 1) (s + 1) = C u s + C u (s + 1) := rfl
    have t : top (C (u + 1) (s + 1) - 1) (s + 1) = u := (top_ok (by omega) (by omega)).uniq ⟨by omega, by omega, by omega⟩
    rw [casc_cons (by omega), t]
    have e2 : C (u + 1) (s + 1) - 1 - C u (s + 1) = C u s - 1 := by omega
    rw [e2, casc_fall s u (by omega)]
    rfl
theorem fall_map : ∀ (s t : Nat), fall s t = (List.range s).map fun at_ => t - 1 - at_
  | 0, _ => rfl
  | s + 1, t => by
    rw [List.range_succ_eq_map, List.map_cons, List.map_map]
    show (t - 1) :: fall s (t - 1) = _
    rw [fall_map s (t - 1)]
    congr 1
    refine List.map_congr_left fun x _ => ?_
    show t - 1 - 1 - x = t - 1 - (x + 1)
    omega
end K30
namespace K30
open PySem L2 Ev
def stAt (i : Nat) : Stmt := PySem.Challenge.pw_holescounted_k30_whole_cascades.main.body.getD i (.Pass ⟨0, 0, 0, 0⟩)
/-- _law_cup -/
def b0 : Sms := (.cons (.asg 1 (.blt .abs (.cons (.idx (.bin .add (.blt .list (.cons (.var 0) .nil)) (.lst (.cons (.con (.int 0)) .nil))) (.con (.int 0))) .nil))) (.cons (.ret (.lst (.cons (.ite (.cmp .ge (.var 1) (.bin .pow (.con (.int 10)) (.con (.int 18)))) (.bin .fdiv (.var 1) (.con (.int 191))) (.con (.int 0))) (.cons (.bin .add (.bin .mod (.blt .int (.cons (.bin .add (.bin .mul (.var 1) (.con (.int 443))) (.con (.int 6637))) .nil)) (.con (.int 99989))) (.con (.int 293))) .nil)))) .nil))
def d0 : Df := ⟨1, 2, b0⟩
def t0 : D1 := ⟨"_law_cup", stAt 21, ["script", "cell"], ["script"], d0⟩
/-- _law_choose -/
def l1_0 : Sm := (.fr (.rng (.var 1)) [3] (.cons (.asg 2 (.bin .fdiv (.bin .mul (.var 2) (.bin .sub (.var 0) (.var 3))) (.bin .add (.var 3) (.con (.int 1))))) .nil))
def b1 : Sms := (.cons (.ife (.or (.cmp .lt (.var 1) (.con (.int 0))) (.cmp .gt (.var 1) (.var 0))) (.cons (.ret (.con (.int 0))) .nil) .nil) (.cons (.asg 2 (.con (.int 1))) (.cons l1_0 (.cons (.ret (.var 2)) .nil))))
def d1 : Df := ⟨2, 4, b1⟩
def t1 : D1 := ⟨"_law_choose", stAt 26, ["n", "k", "found", "at"], ["n", "k"], d1⟩
/-- _law_roll -/
def b2 : Sms := (.cons (.ife (.cmp .gt (.idx (.var 0) (.con (.int 0))) (.con (.int 0))) (.cons (.asg 2 (.bin .mod (.blt .int (.cons (.idx (.var 0) (.con (.int 0))) .nil)) (.var 1))) (.cons (.sto 0 (.con (.int 0)) (.bin .fdiv (.idx (.var 0) (.con (.int 0))) (.var 1))) (.cons (.ret (.var 2)) .nil))) .nil) (.cons (.sto 0 (.con (.int 1)) (.bin .mod (.blt .int (.cons (.bin .add (.bin .mul (.idx (.var 0) (.con (.int 1))) (.con (.int 79))) (.con (.int 1319))) .nil)) (.con (.int 99989)))) (.cons (.ret (.bin .mod (.blt .int (.cons (.bin .fdiv (.idx (.var 0) (.con (.int 1))) (.con (.int 13))) .nil)) (.var 1))) .nil)))
def d2 : Df := ⟨2, 3, b2⟩
def t2 : D1 := ⟨"_law_roll", stAt 22, ["cup", "many", "found"], ["cup", "many"], d2⟩
/-- is_whole -/
def b3 : Sms := (.cons (.ret (.and (.isi (.var 0) .int) (.and (.not (.isi (.var 0) .bool)) (.chn .le .le (.var 1) (.var 0) (.var 2))))) .nil)
def d3 : Df := ⟨3, 3, b3⟩
def t3 : D1 := ⟨"is_whole", stAt 5, ["value", "low", "high"], ["value", "low", "high"], d3⟩
/-- need_whole -/
def b4 : Sms := (.cons (.ife (.not (.call 3 none (.cons (.var 0) (.cons (.var 1) (.cons (.var 2) .nil))))) (.cons .rse .nil) .nil) .nil)
def d4 : Df := ⟨3, 3, b4⟩
def t4 : D1 := ⟨"need_whole", stAt 6, ["value", "low", "high"], ["value", "low", "high"], d4⟩
/-- need_both -/
def b5 : Sms := (.cons (.drop (.call 4 none (.cons (.var 0) (.cons (.con (.int 0)) (.cons (.glb "GREAT" (.int 1000000)) .nil))))) (.cons (.drop (.call 4 none (.cons (.var 1) (.cons (.con (.int 1)) (.cons (.glb "SIZE" (.int 12)) .nil))))) .nil))
def d5 : Df := ⟨2, 2, b5⟩
def t5 : D1 := ⟨"need_both", stAt 15, ["number", "size"], ["number", "size"], d5⟩
/-- greatest -/
def l6_0 : Sm := (.whl (.cmp .le (.blt .comb (.cons (.bin .add (.var 2) (.con (.int 1))) (.cons (.var 1) .nil))) (.var 0)) (.cons (.asg 2 (.bin .add (.var 2) (.con (.int 1)))) .nil))
def b6 : Sms := (.cons (.ife (.cmp .eq (.var 1) (.con (.int 1))) (.cons (.ret (.var 0)) .nil) .nil) (.cons (.asg 2 (.var 1)) (.cons l6_0 (.cons (.ret (.var 2)) .nil))))
def d6 : Df := ⟨2, 3, b6⟩
def t6 : D1 := ⟨"greatest", stAt 10, ["number", "size", "found"], ["number", "size"], d6⟩
/-- cascade_in -/
def l7_0 : Sm := (.whl (.cmp .gt (.var 0) (.con (.int 0))) (.cons (.app 2 (.call 6 none (.cons (.var 0) (.cons (.var 1) .nil)))) (.cons (.par 0 1 (.bin .sub (.var 0) (.blt .comb (.cons (.idx (.var 2) (.neg (.con (.int 1)))) (.cons (.var 1) .nil)))) (.bin .sub (.var 1) (.con (.int 1)))) .nil)))
def b7 : Sms := (.cons (.asg 2 (.lst .nil)) (.cons l7_0 (.cons (.ret (.var 2)) .nil)))
def d7 : Df := ⟨2, 3, b7⟩
def t7 : D1 := ⟨"cascade_in", stAt 11, ["number", "size", "found"], ["number", "size"], d7⟩
/-- cascade_of -/
def b8 : Sms := (.cons (.drop (.call 5 none (.cons (.var 0) (.cons (.var 1) .nil)))) (.cons (.ret (.blt .tuple (.cons (.call 7 none (.cons (.var 0) (.cons (.var 1) .nil))) .nil))) .nil))
def d8 : Df := ⟨2, 2, b8⟩
def t8 : D1 := ⟨"cascade_of", stAt 16, ["number", "size"], ["number", "size"], d8⟩
/-- below -/
def c9_0 : Ex := (.lc (.enm (.call 7 none (.cons (.var 0) (.cons (.var 1) .nil)))) [2, 3] [2, 3] .nil (.blt .comb (.cons (.var 3) (.cons (.bin .sub (.bin .sub (.var 1) (.var 2)) (.con (.int 1))) .nil))))
theorem c9_0_o (m : Ev1) : opd c9_0 m = opdE m := rfl
def b9 : Sms := (.cons (.ret (.blt .sum (.cons c9_0 .nil))) .nil)
def d9 : Df := ⟨2, 4, b9⟩
def t9 : D1 := ⟨"below", stAt 12, ["number", "size", "at", "one"], ["number", "size"], d9⟩
/-- least_faces -/
def b10 : Sms := (.cons (.drop (.call 5 none (.cons (.var 0) (.cons (.var 1) .nil)))) (.cons (.ret (.call 9 none (.cons (.var 0) (.cons (.var 1) .nil)))) .nil))
def d10 : Df := ⟨2, 2, b10⟩
def t10 : D1 := ⟨"least_faces", stAt 17, ["number", "size"], ["number", "size"], d10⟩
/-- above -/
def c11_0 : Ex := (.lc (.enm (.call 7 none (.cons (.var 0) (.cons (.var 1) .nil)))) [2, 3] [2, 3] .nil (.blt .comb (.cons (.var 3) (.cons (.bin .add (.bin .sub (.var 1) (.var 2)) (.con (.int 1))) .nil))))
theorem c11_0_o (m : Ev1) : opd c11_0 m = opdE m := rfl
def b11 : Sms := (.cons (.ret (.blt .sum (.cons c11_0 .nil))) .nil)
def d11 : Df := ⟨2, 4, b11⟩
def t11 : D1 := ⟨"above", stAt 13, ["number", "size", "at", "one"], ["number", "size"], d11⟩
/-- most_above -/
def b12 : Sms := (.cons (.drop (.call 5 none (.cons (.var 0) (.cons (.var 1) .nil)))) (.cons (.ret (.call 11 none (.cons (.var 0) (.cons (.var 1) .nil)))) .nil))
def d12 : Df := ⟨2, 2, b12⟩
def t12 : D1 := ⟨"most_above", stAt 18, ["number", "size"], ["number", "size"], d12⟩
/-- powers_above -/
def c13_0 : Ex := (.lc (.enm (.call 7 none (.cons (.var 0) (.cons (.var 1) .nil)))) [2, 3] [2, 3] .nil (.blt .comb (.cons (.bin .add (.var 3) (.con (.int 1))) (.cons (.bin .add (.bin .sub (.var 1) (.var 2)) (.con (.int 1))) .nil))))
theorem c13_0_o (m : Ev1) : opd c13_0 m = opdE m := rfl
def b13 : Sms := (.cons (.ret (.blt .sum (.cons c13_0 .nil))) .nil)
def d13 : Df := ⟨2, 4, b13⟩
def t13 : D1 := ⟨"powers_above", stAt 14, ["number", "size", "at", "one"], ["number", "size"], d13⟩
/-- most_powers -/
def b14 : Sms := (.cons (.drop (.call 5 none (.cons (.var 0) (.cons (.var 1) .nil)))) (.cons (.ret (.call 13 none (.cons (.var 0) (.cons (.var 1) .nil)))) .nil))
def d14 : Df := ⟨2, 2, b14⟩
def t14 : D1 := ⟨"most_powers", stAt 19, ["number", "size"], ["number", "size"], d14⟩
/-- _law_sort -/
def b15 : Sms := (.cons (.ife (.or (.cmp .is (.var 0) (.con .none)) (.isi (.var 0) .bool)) (.cons (.ret (.ite (.cmp .is (.var 0) (.con .none)) (.con (.int 0)) (.con (.int 1)))) .nil) .nil) (.cons (.ife (.or (.isi (.var 0) .int) (.isi (.var 0) .str)) (.cons (.ret (.ite (.isi (.var 0) .int) (.con (.int 2)) (.con (.int 3)))) .nil) .nil) (.cons (.ret (.ite (.isi (.var 0) .tuple) (.con (.int 4)) (.ite (.isi (.var 0) .list) (.con (.int 5)) (.con (.int 6))))) .nil)))
def d15 : Df := ⟨1, 1, b15⟩
def t15 : D1 := ⟨"_law_sort", stAt 24, ["value"], ["value"], d15⟩
/-- _law_like -/
def c16_0 : Ex := (.lc (.zip (.var 0) (.var 1)) [3, 4] [3, 4] (.cons (.not (.call 16 none (.cons (.var 3) (.cons (.var 4) .nil)))) .nil) (.con (.int 1)))
theorem c16_0_o (m : Ev1) : opd c16_0 m = opdE m := rfl
def b16 : Sms := (.cons (.asg 2 (.call 15 none (.cons (.var 1) .nil))) (.cons (.ife (.or (.cmp .ne (.call 15 none (.cons (.var 0) .nil)) (.var 2)) (.cmp .eq (.var 2) (.con (.int 6)))) (.cons (.ret (.con (.bool false))) .nil) .nil) (.cons (.ife (.cmp .isin (.var 2) (.tup (.cons (.con (.int 4)) (.cons (.con (.int 5)) .nil)))) (.cons (.ret (.and (.cmp .eq (.blt .len (.cons (.var 0) .nil)) (.blt .len (.cons (.var 1) .nil))) (.cmp .eq c16_0 (.lst .nil)))) .nil) .nil) (.cons (.ret (.cmp .eq (.var 0) (.var 1))) .nil))))
def d16 : Df := ⟨2, 5, b16⟩
def t16 : D1 := ⟨"_law_like", stAt 25, ["one", "other", "sort", "first", "second"], ["one", "other"], d16⟩
/-- _law_cascade -/
def l17_0 : Sm := (.whl (.cmp .gt (.bin .sub (.var 4) (.var 3)) (.con (.int 1))) (.cons (.asg 5 (.bin .fdiv (.bin .add (.var 3) (.var 4)) (.con (.int 2)))) (.cons (.unp [3, 4] (.ite (.cmp .le (.call 1 none (.cons (.var 5) (.cons (.var 1) .nil))) (.var 0)) (.tup (.cons (.var 5) (.cons (.var 4) .nil))) (.tup (.cons (.var 3) (.cons (.var 5) .nil))))) .nil)))
def l17_1 : Sm := (.whl (.cmp .gt (.var 0) (.con (.int 0))) (.cons (.par 3 4 (.var 1) (.bin .add (.var 1) (.var 0))) (.cons l17_0 (.cons (.app 2 (.var 3)) (.cons (.par 0 1 (.bin .sub (.var 0) (.call 1 none (.cons (.var 3) (.cons (.var 1) .nil)))) (.bin .sub (.var 1) (.con (.int 1)))) .nil)))))
def b17 : Sms := (.cons (.asg 2 (.lst .nil)) (.cons l17_1 (.cons (.ret (.var 2)) .nil)))
def d17 : Df := ⟨2, 6, b17⟩
def t17 : D1 := ⟨"_law_cascade", stAt 27, ["number", "size", "found", "low", "high", "middle"], ["number", "size"], d17⟩
/-- _law_led -/
def c18_0 : Ex := (.lc (.enm (.call 17 none (.cons (.var 0) (.cons (.var 1) .nil)))) [4, 5] [4, 5] .nil (.call 1 none (.cons (.bin .add (.var 5) (.var 2)) (.cons (.bin .add (.bin .sub (.var 1) (.var 4)) (.var 3)) .nil))))
theorem c18_0_o (m : Ev1) : opd c18_0 m = opdE m := rfl
def b18 : Sms := (.cons (.ret (.blt .sum (.cons c18_0 .nil))) .nil)
def d18 : Df := ⟨4, 6, b18⟩
def t18 : D1 := ⟨"_law_led", stAt 28, ["number", "size", "more", "up", "at", "one"], ["number", "size", "more", "up"], d18⟩
/-- _law_right -/
def c19_0 : Ex := (.lc (.enm (.var 2)) [6, 4] [6, 4] .nil (.call 1 none (.cons (.var 4) (.cons (.bin .sub (.var 1) (.var 6)) .nil))))
theorem c19_0_o (m : Ev1) : opd c19_0 m = opdE m := rfl
def c19_1 : Ex := (.lc (.enm (.var 2)) [6, 4] [6, 4] (.cons (.cmp .lt (.var 4) (.bin .sub (.var 1) (.var 6))) .nil) (.con (.int 1)))
theorem c19_1_o (m : Ev1) : opd c19_1 m = opdE m := rfl
def c19_2 : Ex := (.lc (.zip (.var 2) (.slc (.var 2) (.cons (.con (.int 1)) .nil) .nil)) [4, 5] [4, 5] (.cons (.cmp .le (.var 4) (.var 5)) .nil) (.con (.int 1)))
theorem c19_2_o (m : Ev1) : opd c19_2 m = opdE m := rfl
def c19_3 : Ex := (.lc (.seq (.var 2)) [4] [4] (.cons (.cmp .ne (.call 15 none (.cons (.var 4) .nil)) (.con (.int 2))) .nil) (.var 4))
theorem c19_3_o (m : Ev1) : opd c19_3 m = opdE m := rfl
def b19 : Sms := (.cons (.asg 2 (.call 8 none (.cons (.var 0) (.cons (.var 1) .nil)))) (.cons (.ife (.or (.cmp .ne (.call 15 none (.cons (.var 2) .nil)) (.con (.int 4))) (.or (.cmp .ne c19_3 (.lst .nil)) (.cmp .gt (.blt .len (.cons (.var 2) .nil)) (.var 1)))) (.cons (.ret (.con (.bool false))) .nil) .nil) (.cons (.ife (.or (.cmp .ne c19_2 (.lst .nil)) (.cmp .ne c19_1 (.lst .nil))) (.cons (.ret (.con (.bool false))) .nil) .nil) (.cons (.ife (.cmp .ne (.blt .sum (.cons c19_0 .nil)) (.var 0)) (.cons (.ret (.con (.bool false))) .nil) .nil) (.cons (.asg 3 (.lst (.cons (.blt .tuple (.cons (.call 17 none (.cons (.var 0) (.cons (.var 1) .nil))) .nil)) (.cons (.call 18 none (.cons (.var 0) (.cons (.var 1) (.cons (.con (.int 0)) (.cons (.neg (.con (.int 1))) .nil))))) (.cons (.call 18 none (.cons (.var 0) (.cons (.var 1) (.cons (.con (.int 0)) (.cons (.con (.int 1)) .nil))))) (.cons (.call 18 none (.cons (.var 0) (.cons (.var 1) (.cons (.con (.int 1)) (.cons (.con (.int 1)) .nil))))) .nil)))))) (.cons (.ret (.call 16 none (.cons (.lst (.cons (.var 2) (.cons (.call 10 none (.cons (.var 0) (.cons (.var 1) .nil))) (.cons (.call 12 none (.cons (.var 0) (.cons (.var 1) .nil))) (.cons (.call 14 none (.cons (.var 0) (.cons (.var 1) .nil))) .nil))))) (.cons (.var 3) .nil)))) .nil))))))
def d19 : Df := ⟨2, 7, b19⟩
def t19 : D1 := ⟨"_law_right", stAt 29, ["number", "size", "told", "due", "one", "other", "at"], ["number", "size"], d19⟩
/-- _law_great_right -/
def c20_0 : Ex := (.lc (.rng (.var 1)) [7] [7] .nil (.bin .sub (.bin .sub (.var 2) (.con (.int 1))) (.var 7)))
theorem c20_0_o (m : Ev1) : opd c20_0 m = opdE m := rfl
def b20 : Sms := (.cons (.asg 1 (.bin .add (.con (.int 1)) (.call 2 (some 0) (.cons (.var 0) (.cons (.con (.int 12)) .nil))))) (.cons (.asg 2 (.bin .add (.var 1) (.call 2 (some 0) (.cons (.var 0) (.cons (.con (.int 6)) .nil))))) (.cons (.asg 3 (.call 1 none (.cons (.var 2) (.cons (.var 1) .nil)))) (.cons (.ife (.cmp .gt (.var 3) (.bin .pow (.con (.int 10)) (.con (.int 6)))) (.cons (.ret (.con (.bool true))) .nil) .nil) (.cons (.asg 4 (.lst (.cons (.call 8 none (.cons (.var 3) (.cons (.var 1) .nil))) (.cons (.call 10 none (.cons (.var 3) (.cons (.var 1) .nil))) (.cons (.call 12 none (.cons (.var 3) (.cons (.var 1) .nil))) (.cons (.call 14 none (.cons (.var 3) (.cons (.var 1) .nil))) (.cons (.call 8 none (.cons (.con (.int 0)) (.cons (.var 1) .nil))) (.cons (.call 14 none (.cons (.con (.int 0)) (.cons (.var 1) .nil))) .nil)))))))) (.cons (.asg 5 (.lst (.cons (.tup (.cons (.var 2) .nil)) (.cons (.call 1 none (.cons (.var 2) (.cons (.bin .sub (.var 1) (.con (.int 1))) .nil))) (.cons (.call 1 none (.cons (.var 2) (.cons (.bin .add (.var 1) (.con (.int 1))) .nil))) (.cons (.call 1 none (.cons (.bin .add (.var 2) (.con (.int 1))) (.cons (.bin .add (.var 1) (.con (.int 1))) .nil))) (.cons (.tup .nil) (.cons (.con (.int 0)) .nil)))))))) (.cons (.ife (.not (.call 16 none (.cons (.var 4) (.cons (.var 5) .nil)))) (.cons (.ret (.con (.bool false))) .nil) .nil) (.cons (.asg 6 (.ite (.cmp .gt (.var 2) (.var 1)) (.blt .tuple (.cons c20_0 .nil)) (.tup .nil))) (.cons (.ret (.and (.call 16 none (.cons (.call 8 none (.cons (.bin .sub (.var 3) (.con (.int 1))) (.cons (.var 1) .nil))) (.cons (.var 6) .nil))) (.and (.call 19 none (.cons (.bin .pow (.con (.int 10)) (.con (.int 6))) (.cons (.var 1) .nil))) (.call 19 none (.cons (.bin .pow (.con (.int 10)) (.con (.int 6))) (.cons (.con (.int 1)) .nil)))))) .nil)))))))))
def d20 : Df := ⟨1, 8, b20⟩
def t20 : D1 := ⟨"_law_great_right", stAt 34, ["cup", "size", "things", "ways", "told", "due", "fall", "at"], ["cup"], d20⟩
/-- _law_families -/
def c21_0 : Ex := (.lc (.seq (.var 2)) [4] [4] (.cons (.cmp .eq (.blt .len (.cons (.var 4) .nil)) (.var 1)) .nil) (.var 4))
theorem c21_0_o (m : Ev1) : opd c21_0 m = opdE m := rfl
def c21_1 : Ex := (.lc (.seq (.var 2)) [4] [4] (.cons (.cmp .lt (.blt .len (.cons (.var 4) .nil)) (.var 1)) .nil) (.bin .add (.var 4) (.tup (.cons (.var 3) .nil))))
theorem c21_1_o (m : Ev1) : opd c21_1 m = opdE m := rfl
def l21_2 : Sm := (.fr (.seq (.var 0)) [3] (.cons (.asg 2 (.bin .add (.var 2) c21_1)) .nil))
def b21 : Sms := (.cons (.asg 2 (.lst (.cons (.tup .nil) .nil))) (.cons l21_2 (.cons (.ret c21_0) .nil)))
def d21 : Df := ⟨2, 5, b21⟩
def t21 : D1 := ⟨"_law_families", stAt 32, ["some", "many", "found", "one", "own"], ["some", "many"], d21⟩
/-- _law_sets -/
def c22_0 : Ex := (.lc (.rng2 (.ite (.cmp .ne (.var 5) (.tup .nil)) (.bin .add (.idx (.var 5) (.neg (.con (.int 1)))) (.con (.int 1))) (.con (.int 0))) (.var 0)) [6] [6] .nil (.bin .add (.var 5) (.tup (.cons (.var 6) .nil))))
theorem c22_0_o (m : Ev1) : opd c22_0 m = opdE m := rfl
def l22_1 : Sm := (.fr (.seq (.var 2)) [5] (.cons (.asg 4 (.bin .add (.var 4) c22_0)) .nil))
def l22_2 : Sm := (.fr (.rng (.var 1)) [3] (.cons (.asg 4 (.lst .nil)) (.cons l22_1 (.cons (.asg 2 (.var 4)) .nil))))
def b22 : Sms := (.cons (.asg 2 (.lst (.cons (.tup .nil) .nil))) (.cons l22_2 (.cons (.ret (.var 2)) .nil)))
def d22 : Df := ⟨2, 7, b22⟩
def t22 : D1 := ⟨"_law_sets", stAt 31, ["corners", "size", "found", "turn", "longer", "own", "corner"], ["corners", "size"], d22⟩
/-- _law_tried_right -/
def c23_0 : Ex := (.lc (.rng (.bin .add (.var 1) (.con (.int 1)))) [10] [10] (.cons (.cmp .notIn (.bin .add (.slc (.var 7) .nil (.cons (.var 10) .nil)) (.slc (.var 7) (.cons (.bin .add (.var 10) (.con (.int 1))) .nil) .nil)) (.var 5)) .nil) (.con (.int 1)))
theorem c23_0_o (m : Ev1) : opd c23_0 m = opdE m := rfl
def c23_1 : Ex := (.lc (.seq (.call 22 none (.cons (.var 0) (.cons (.bin .add (.var 1) (.con (.int 1))) .nil)))) [7] [7] (.cons (.cmp .eq c23_0 (.lst .nil)) .nil) (.var 7))
theorem c23_1_o (m : Ev1) : opd c23_1 m = opdE m := rfl
def c23_2 : Ex := (.lc (.rng (.var 1)) [10] [10] .nil (.bin .add (.slc (.var 7) .nil (.cons (.var 10) .nil)) (.slc (.var 7) (.cons (.bin .add (.var 10) (.con (.int 1))) .nil) .nil)))
theorem c23_2_o (m : Ev1) : opd c23_2 m = opdE m := rfl
def l23_3 : Sm := (.fr (.seq (.var 5)) [7] (.cons (.asg 6 (.bin .add (.var 6) c23_2)) .nil))
def l23_4 : Sm := (.fr (.seq (.call 21 none (.cons (.call 22 none (.cons (.var 0) (.cons (.var 1) .nil))) (.cons (.var 2) .nil)))) [5] (.cons (.asg 6 (.lst .nil)) (.cons l23_3 (.cons (.asg 8 (.lens (.var 6))) (.cons (.asg 3 (.ite (.cmp .is (.var 3) (.con .none)) (.var 8) (.blt .min (.cons (.var 3) (.cons (.var 8) .nil))))) (.cons (.asg 9 c23_1) (.cons (.asg 4 (.blt .max (.cons (.var 4) (.cons (.blt .len (.cons (.var 9) .nil)) .nil)))) .nil)))))))
def b23 : Sms := (.cons (.unp [3, 4] (.tup (.cons (.con .none) (.cons (.con (.int 0)) .nil)))) (.cons l23_4 (.cons (.ret (.call 16 none (.cons (.lst (.cons (.call 10 none (.cons (.var 2) (.cons (.var 1) .nil))) (.cons (.call 12 none (.cons (.var 2) (.cons (.var 1) .nil))) .nil))) (.cons (.lst (.cons (.var 3) (.cons (.var 4) .nil))) .nil)))) .nil)))
def d23 : Df := ⟨3, 11, b23⟩
def t23 : D1 := ⟨"_law_tried_right", stAt 33, ["corners", "size", "many", "least", "most", "family", "faces", "own", "few", "over", "at"], ["corners", "size", "many"], d23⟩
/-- _law_written_right -/
def c24_0 : Ex := (.lc (.seq (.var 2)) [4] [4] (.cons (.not (.call 23 none (.cons (.idx (.var 4) (.con (.int 0))) (.cons (.idx (.var 4) (.con (.int 1))) (.cons (.idx (.var 4) (.con (.int 2))) .nil))))) .nil) (.var 4))
theorem c24_0_o (m : Ev1) : opd c24_0 m = opdE m := rfl
def c24_1 : Ex := (.lc (.rng2 (.con (.int 1)) (.con (.int 7))) [3] [3] .nil (.tup (.cons (.con (.int 4)) (.cons (.con (.int 2)) (.cons (.var 3) .nil)))))
theorem c24_1_o (m : Ev1) : opd c24_1 m = opdE m := rfl
def b24 : Sms := (.cons (.asg 0 (.lst (.cons (.call 8 none (.cons (.con (.int 5)) (.cons (.con (.int 2)) .nil))) (.cons (.call 8 none (.cons (.con (.int 6)) (.cons (.con (.int 2)) .nil))) (.cons (.call 8 none (.cons (.con (.int 1)) (.cons (.con (.int 3)) .nil))) (.cons (.call 8 none (.cons (.con (.int 0)) (.cons (.con (.int 2)) .nil))) (.cons (.call 8 none (.cons (.con (.int 7)) (.cons (.con (.int 1)) .nil))) (.cons (.call 10 none (.cons (.con (.int 5)) (.cons (.con (.int 2)) .nil))) (.cons (.call 10 none (.cons (.con (.int 6)) (.cons (.con (.int 2)) .nil))) (.cons (.call 10 none (.cons (.con (.int 7)) (.cons (.con (.int 1)) .nil))) (.cons (.call 12 none (.cons (.con (.int 5)) (.cons (.con (.int 2)) .nil))) (.cons (.call 12 none (.cons (.con (.int 6)) (.cons (.con (.int 2)) .nil))) (.cons (.call 12 none (.cons (.con (.int 7)) (.cons (.con (.int 1)) .nil))) (.cons (.call 14 none (.cons (.con (.int 5)) (.cons (.con (.int 2)) .nil))) (.cons (.call 14 none (.cons (.con (.int 7)) (.cons (.con (.int 1)) .nil))) (.cons (.call 14 none (.cons (.con (.int 0)) (.cons (.con (.int 2)) .nil))) .nil)))))))))))))))) (.cons (.asg 1 (.lst (.cons (.tup (.cons (.con (.int 3)) (.cons (.con (.int 2)) .nil))) (.cons (.tup (.cons (.con (.int 4)) .nil)) (.cons (.tup (.cons (.con (.int 3)) .nil)) (.cons (.tup .nil) (.cons (.tup (.cons (.con (.int 7)) .nil)) (.cons (.con (.int 4)) (.cons (.con (.int 4)) (.cons (.con (.int 1)) (.cons (.con (.int 2)) (.cons (.con (.int 4)) (.cons (.con (.int 21)) (.cons (.con (.int 7)) (.cons (.con (.int 28)) (.cons (.con (.int 0)) .nil)))))))))))))))) (.cons (.ife (.not (.call 16 none (.cons (.var 0) (.cons (.var 1) .nil)))) (.cons (.ret (.con (.bool false))) .nil) .nil) (.cons (.asg 2 (.bin .add c24_1 (.lst (.cons (.tup (.cons (.con (.int 5)) (.cons (.con (.int 2)) (.cons (.con (.int 4)) .nil)))) (.cons (.tup (.cons (.con (.int 5)) (.cons (.con (.int 2)) (.cons (.con (.int 7)) .nil)))) (.cons (.tup (.cons (.con (.int 4)) (.cons (.con (.int 1)) (.cons (.con (.int 3)) .nil)))) (.cons (.tup (.cons (.con (.int 5)) (.cons (.con (.int 3)) (.cons (.con (.int 2)) .nil)))) (.cons (.tup (.cons (.con (.int 5)) (.cons (.con (.int 3)) (.cons (.con (.int 4)) .nil)))) (.cons (.tup (.cons (.con (.int 5)) (.cons (.con (.int 3)) (.cons (.con (.int 9)) .nil)))) .nil))))))))) (.cons (.ret (.cmp .eq c24_0 (.lst .nil))) .nil)))))
def d24 : Df := ⟨0, 5, b24⟩
def t24 : D1 := ⟨"_law_written_right", stAt 35, ["told", "due", "some", "many", "row"], [], d24⟩
/-- _law_some -/
def b25 : Sms := (.cons (.ret (.idx (.var 1) (.call 2 (some 0) (.cons (.var 0) (.cons (.blt .len (.cons (.var 1) .nil)) .nil))))) .nil)
def d25 : Df := ⟨2, 2, b25⟩
def t25 : D1 := ⟨"_law_some", stAt 23, ["cup", "things"], ["cup", "things"], d25⟩
/-- _law_grows -/
def b26 : Sms := (.cons (.asg 2 (.bin .add (.var 0) (.con (.int 1)))) (.cons (.ife (.or (.cmp .lt (.call 10 none (.cons (.var 2) (.cons (.var 1) .nil))) (.call 10 none (.cons (.var 0) (.cons (.var 1) .nil)))) (.or (.cmp .lt (.call 12 none (.cons (.var 2) (.cons (.var 1) .nil))) (.call 12 none (.cons (.var 0) (.cons (.var 1) .nil)))) (.cmp .le (.call 14 none (.cons (.var 2) (.cons (.var 1) .nil))) (.bin .sub (.call 14 none (.cons (.var 0) (.cons (.var 1) .nil))) (.con (.int 1)))))) (.cons (.ret (.con (.bool false))) .nil) .nil) (.cons (.asg 3 (.call 12 none (.cons (.var 0) (.cons (.var 1) .nil)))) (.cons (.ife (.or (.cmp .gt (.var 1) (.con (.int 11))) (.cmp .gt (.var 3) (.bin .pow (.con (.int 10)) (.con (.int 6))))) (.cons (.ret (.con (.bool true))) .nil) .nil) (.cons (.ret (.cmp .le (.call 10 none (.cons (.var 3) (.cons (.bin .add (.var 1) (.con (.int 1))) .nil))) (.var 0))) .nil)))))
def d26 : Df := ⟨2, 4, b26⟩
def t26 : D1 := ⟨"_law_grows", stAt 30, ["number", "size", "more", "above_v"], ["number", "size"], d26⟩
/-- law -/
def l27_0 : Sm := (.fr (.rng (.con (.int 12))) [2] (.cons (.par 3 4 (.call 2 (some 0) (.cons (.var 1) (.cons (.call 25 (some 0) (.cons (.var 1) (.cons (.lst (.cons (.con (.int 10)) (.cons (.con (.int 100)) (.cons (.bin .pow (.con (.int 10)) (.con (.int 6))) .nil)))) .nil))) .nil))) (.bin .add (.con (.int 1)) (.call 2 (some 0) (.cons (.var 1) (.cons (.con (.int 12)) .nil))))) (.cons (.ife (.or (.not (.call 19 none (.cons (.var 3) (.cons (.var 4) .nil)))) (.not (.call 26 none (.cons (.var 3) (.cons (.var 4) .nil))))) (.cons (.ret (.con (.bool false))) .nil) .nil) .nil)))
def b27 : Sms := (.cons (.asg 1 (.call 0 none (.cons (.var 0) .nil))) (.cons l27_0 (.cons (.ret (.and (.call 20 (some 0) (.cons (.var 1) .nil)) (.call 24 none .nil))) .nil)))
def d27 : Df := ⟨1, 5, b27⟩
def t27 : D1 := ⟨"law", stAt 36, ["script", "cup", "turn", "number", "size"], ["script"], d27⟩
def tab : List D1 := [t0, t1, t2, t3, t4, t5, t6, t7, t8, t9, t10, t11, t12, t13, t14, t15, t16, t17, t18, t19, t20, t21, t22, t23, t24, t25, t26, t27]
def frees : List Str := ["abs", "bool", "enumerate", "int", "isinstance", "len", "list", "max", "min", "range", "set", "str", "sum", "tuple", "zip"]
def globs : List (Str × PyData) := [("GREAT", (.int 1000000)), ("SIZE", (.int 12))]
def blts : List (Str × String) := [("comb", "math.comb")]
def G : Gs := gsOf tab frees globs blts
theorem st0 : Stat G t0 := ⟨⟨rfl, rfl, rfl, by decide +kernel, rfl, by decide +kernel, by decide +kernel⟩, rfl, rfl, by decide +kernel⟩
theorem st1 : Stat G t1 := ⟨⟨rfl, rfl, rfl, by decide +kernel, rfl, by decide +kernel, by decide +kernel⟩, rfl, rfl, by decide +kernel⟩
theorem st2 : Stat G t2 := ⟨⟨rfl, rfl, rfl, by decide +kernel, rfl, by decide +kernel, by decide +kernel⟩, rfl, rfl, by decide +kernel⟩
theorem st3 : Stat G t3 := ⟨⟨rfl, rfl, rfl, by decide +kernel, rfl, by decide +kernel, by decide +kernel⟩, rfl, rfl, by decide +kernel⟩
theorem st4 : Stat G t4 := ⟨⟨rfl, rfl, rfl, by decide +kernel, rfl, by decide +kernel, by decide +kernel⟩, rfl, rfl, by decide +kernel⟩
theorem st5 : Stat G t5 := ⟨⟨rfl, rfl, rfl, by decide +kernel, rfl, by decide +kernel, by decide +kernel⟩, rfl, rfl, by decide +kernel⟩
theorem st6 : Stat G t6 := ⟨⟨rfl, rfl, rfl, by decide +kernel, rfl, by decide +kernel, by decide +kernel⟩, rfl, rfl, by decide +kernel⟩
theorem st7 : Stat G t7 := ⟨⟨rfl, rfl, rfl, by decide +kernel, rfl, by decide +kernel, by decide +kernel⟩, rfl, rfl, by decide +kernel⟩
theorem st8 : Stat G t8 := ⟨⟨rfl, rfl, rfl, by decide +kernel, rfl, by decide +kernel, by decide +kernel⟩, rfl, rfl, by decide +kernel⟩
theorem st9 : Stat G t9 := ⟨⟨rfl, rfl, rfl, by decide +kernel, rfl, by decide +kernel, by decide +kernel⟩, rfl, rfl, by decide +kernel⟩
theorem st10 : Stat G t10 := ⟨⟨rfl, rfl, rfl, by decide +kernel, rfl, by decide +kernel, by decide +kernel⟩, rfl, rfl, by decide +kernel⟩
theorem st11 : Stat G t11 := ⟨⟨rfl, rfl, rfl, by decide +kernel, rfl, by decide +kernel, by decide +kernel⟩, rfl, rfl, by decide +kernel⟩
theorem st12 : Stat G t12 := ⟨⟨rfl, rfl, rfl, by decide +kernel, rfl, by decide +kernel, by decide +kernel⟩, rfl, rfl, by decide +kernel⟩
theorem st13 : Stat G t13 := ⟨⟨rfl, rfl, rfl, by decide +kernel, rfl, by decide +kernel, by decide +kernel⟩, rfl, rfl, by decide +kernel⟩
theorem st14 : Stat G t14 := ⟨⟨rfl, rfl, rfl, by decide +kernel, rfl, by decide +kernel, by decide +kernel⟩, rfl, rfl, by decide +kernel⟩
theorem st15 : Stat G t15 := ⟨⟨rfl, rfl, rfl, by decide +kernel, rfl, by decide +kernel, by decide +kernel⟩, rfl, rfl, by decide +kernel⟩
theorem st16 : Stat G t16 := ⟨⟨rfl, rfl, rfl, by decide +kernel, rfl, by decide +kernel, by decide +kernel⟩, rfl, rfl, by decide +kernel⟩
theorem st17 : Stat G t17 := ⟨⟨rfl, rfl, rfl, by decide +kernel, rfl, by decide +kernel, by decide +kernel⟩, rfl, rfl, by decide +kernel⟩
theorem st18 : Stat G t18 := ⟨⟨rfl, rfl, rfl, by decide +kernel, rfl, by decide +kernel, by decide +kernel⟩, rfl, rfl, by decide +kernel⟩
theorem st19 : Stat G t19 := ⟨⟨rfl, rfl, rfl, by decide +kernel, rfl, by decide +kernel, by decide +kernel⟩, rfl, rfl, by decide +kernel⟩
theorem st20 : Stat G t20 := ⟨⟨rfl, rfl, rfl, by decide +kernel, rfl, by decide +kernel, by decide +kernel⟩, rfl, rfl, by decide +kernel⟩
theorem st21 : Stat G t21 := ⟨⟨rfl, rfl, rfl, by decide +kernel, rfl, by decide +kernel, by decide +kernel⟩, rfl, rfl, by decide +kernel⟩
theorem st22 : Stat G t22 := ⟨⟨rfl, rfl, rfl, by decide +kernel, rfl, by decide +kernel, by decide +kernel⟩, rfl, rfl, by decide +kernel⟩
theorem st23 : Stat G t23 := ⟨⟨rfl, rfl, rfl, by decide +kernel, rfl, by decide +kernel, by decide +kernel⟩, rfl, rfl, by decide +kernel⟩
theorem st24 : Stat G t24 := ⟨⟨rfl, rfl, rfl, by decide +kernel, rfl, by decide +kernel, by decide +kernel⟩, rfl, rfl, by decide +kernel⟩
theorem st25 : Stat G t25 := ⟨⟨rfl, rfl, rfl, by decide +kernel, rfl, by decide +kernel, by decide +kernel⟩, rfl, rfl, by decide +kernel⟩
theorem st26 : Stat G t26 := ⟨⟨rfl, rfl, rfl, by decide +kernel, rfl, by decide +kernel, by decide +kernel⟩, rfl, rfl, by decide +kernel⟩
theorem st27 : Stat G t27 := ⟨⟨rfl, rfl, rfl, by decide +kernel, rfl, by decide +kernel, by decide +kernel⟩, rfl, rfl, by decide +kernel⟩
theorem stats : Stats G tab := ⟨st0, st1, st2, st3, st4, st5, st6, st7, st8, st9, st10, st11, st12, st13, st14, st15, st16, st17, st18, st19, st20, st21, st22, st23, st24, st25, st26, st27, trivial⟩
abbrev FT : List Df := tab.map D1.df
end K30
namespace K30
open PySem PySem.W L2 Ev
def I (n : Nat) : PyData := .int (n : Int)
abbrev Li (l : List Nat) : List PyData := l.map I
abbrev vI (n : Nat) : Option Cl := some (.val (I n))
def lastI (i : Nat) : Option Cl := match i with | 0 => none | i + 1 => vI i
theorem int0 : PyData.int 0 = I 0 := rfl
theorem int1 : PyData.int 1 = I 1 := rfl
theorem add_I (a b : Nat) : binD .add (I a) (I b) = some (.val (I (a + b))) := by
  show some (Rs.val (.int ((a : Int) + (b : Int)))) = some (Rs.val (.int ((a + b : Nat) : Int)))
  rw [Int.natCast_add]
theorem sub_I {a b : Nat} (h : b ≤ a) : binD .sub (I a) (I b) = some (.val (I (a - b))) := by
  show some (Rs.val (.int ((a : Int) - (b : Int)))) = some (Rs.val (.int ((a - b : Nat) : Int)))
  rw [Int.natCast_sub h]
theorem i64_I {a : Nat} (h : a ≤ 2000000) : i64 (a : Int) = true := by
  unfold i64
  have : (-(2 : Int) ^ 64) < (a : Int) ∧ (a : Int) < 2 ^ 64 := by omega
  exact decide_eq_true this
theorem mul_I {a b : Nat} (h : b ≤ 2000000) : binD .mul (I a) (I b) = some (.val (I (a * b))) := by
  show (if i64 (a : Int) || i64 (b : Int) then some (Rs.val (.int ((a : Int) * (b : Int)))) else none) = some (Rs.val (.int ((a * b : Nat) : Int)))
  rw [i64_I h, Bool.or_true, if_pos rfl, Int.natCast_mul]
theorem fdiv_I {a b : Nat} (h : 0 < b) (h2 : b ≤ 2000000) : binD .fdiv (I a) (I b) = some (.val (I (a / b))) := by
  show (if 0 < (b : Int) ∧ (b : Int) < 1073741824 then some (Rs.val (.int ((a : Int) / (b : Int)))) else none) = some (Rs.val (.int ((a / b : Nat) : Int)))
  rw [if_pos (by omega), Int.natCast_ediv]
theorem addm_I {a : Nat} (h : 1 ≤ a) : binD .add (I a) (.int (-1)) = some (.val (I (a - 1))) := by
  show some (Rs.val (.int ((a : Int) + (-1)))) = some (Rs.val (.int ((a - 1 : Nat) : Int)))
  rw [show ((a : Int) + (-1)) = ((a - 1 : Nat) : Int) by omega]
theorem lt_I (a b : Nat) : cmpD .lt (I a) (I b) = some (decide (a < b)) := by
  show some (decide ((a : Int) < (b : Int))) = _
  congr 1; exact decide_eq_decide.mpr (by omega)
theorem le_I (a b : Nat) : cmpD .le (I a) (I b) = some (decide (a ≤ b)) := by
  show some (decide ((a : Int) ≤ (b : Int))) = _
  congr 1; exact decide_eq_decide.mpr (by omega)
theorem gt_I (a b : Nat) : cmpD .gt (I a) (I b) = some (decide (b < a)) := by
  show some (decide ((b : Int) < (a : Int))) = _
  congr 1; exact decide_eq_decide.mpr (by omega)
theorem ge_I (a b : Nat) : cmpD .ge (I a) (I b) = some (decide (b ≤ a)) := by
  show some (decide ((b : Int) ≤ (a : Int))) = _
  congr 1; exact decide_eq_decide.mpr (by omega)
theorem eq_I (a b : Nat) : cmpD .eq (I a) (I b) = some (decide (a = b)) := by
  show some ((a : Int) == (b : Int)) = _
  congr 1
  show decide ((a : Int) = (b : Int)) = _
  exact decide_eq_decide.mpr (by omega)
theorem ne_I (a b : Nat) : cmpD .ne (I a) (I b) = some (!decide (a = b)) := by
  show (cmpD .eq (I a) (I b)).map not = _
  rw [eq_I]; rfl
theorem comb_b {a b : Nat} (ha : a ≤ 2000000) (hb : b ≤ 9000) : bltD .comb [I a, I b] = some (.val (I (C a b))) := by
  have h1 : 0 ≤ (a : Int) := by omega
  have h2 : 0 ≤ (b : Int) := by omega
  have h3 : (a : Int) < 2 ^ 64 := by omega
  have h4 : (b : Int) ≤ 9000 := by omega
  simp only [bltD, I]
  rw [if_pos ⟨h1, h2, h3, h4⟩, comb_eq]
theorem rng_I {k : Nat} (h : k ≤ 2000000) : gRng [I k] = some (rngD 0 (k : Int)) := by
  show (if small62 (k : Int) then some (rngD 0 (k : Int)) else none) = _
  have : small62 (k : Int) = true := by
    unfold small62
    have : (-(2 : Int) ^ 62) ≤ (k : Int) ∧ (k : Int) < 2 ^ 62 := by omega
    exact decide_eq_true this
  rw [this, if_pos rfl]
theorem enm_I {l : List PyData} : gEnm [.list l] = some (enmD 0 l) := rfl
theorem truB (b : Bool) : truD (.bool b) = some b := rfl
theorem neg_I (n : Nat) : (match I n with | .int i => some (Rs.val (.int (-i))) | _ => none) = some (Rs.val (.int (-(n : Int)))) := rfl
section
variable {cf : CF} {ρ : En}
theorem e_c0 : (ev cf (.con (.int 0))).e ρ = some (.val (I 0), ρ) := rfl
theorem e_c1 : (ev cf (.con (.int 1))).e ρ = some (.val (I 1), ρ) := rfl
theorem e_c2 : (ev cf (.con (.int 2))).e ρ = some (.val (I 2), ρ) := rfl
theorem e_c4 : (ev cf (.con (.int 4))).e ρ = some (.val (I 4), ρ) := rfl
theorem e_c5 : (ev cf (.con (.int 5))).e ρ = some (.val (I 5), ρ) := rfl
theorem e_c6 : (ev cf (.con (.int 6))).e ρ = some (.val (I 6), ρ) := rfl
theorem e_c10 : (ev cf (.con (.int 10))).e ρ = some (.val (I 10), ρ) := rfl
theorem e_c11 : (ev cf (.con (.int 11))).e ρ = some (.val (I 11), ρ) := rfl
theorem e_c12 : (ev cf (.con (.int 12))).e ρ = some (.val (I 12), ρ) := rfl
theorem e_c100 : (ev cf (.con (.int 100))).e ρ = some (.val (I 100), ρ) := rfl
end
end K30

local macro_rules | `(tactic| walk_at "S") => `(tactic| simp [Ev.runD, Ev.entry, Ev.outOf, Ev.exs, Ev.ex, Ev.ev, Ev.ev.dflt, Ev.evs, Ev.evf, Ev.evts, Ev.evSrc, Ev.opd, Ev.opdV, Ev.opdE, Ev.seqM, Ev.asgM, Ev.parM, Ev.par3M, Ev.unpM, Ev.stoM, Ev.appM, Ev.dropM, Ev.ifM, Ev.retM, Ev.app1, Ev.seqO, Ev.rsvs, Ev.rsv, Ev.g1, Ev.g2, Ev.rb, Ev.rd, Ev.varE, Ev.tstO, Ev.andT, Ev.orT, Ev.notT, Ev.andE, Ev.orE, Ev.notE, Ev.iteE, Ev.chnE, Ev.partO, Ev.slcE, Ev.tupG, Ev.lstG, Ev.binD, Ev.cmpD, Ev.eqD, Ev.truD, Ev.idxD, Ev.isiD, Ev.isNon, Ev.setV, Ev.setVs, Ev.bindT, Ev.Rs.dat, Ev.Rs.cl, Ev.bltD, Ev.i64, Ev.lim, Ev.atI0, Ev.atI1, Ev.atI2, Ev.ix20, Ev.ix21, Ev.callE, Ev.ioSlot, Ev.ioPut, Ev.borsO, Ev.freezeAll, Ev.scalD, Ev.scalR, Ev.srcG, Ev.srcSeq, Ev.gRng, Ev.gEnm, Ev.gZip, Ev.small62, Ev.wipeE, Ev.restE, Ev.freeV, Ev.allT, Ev.backE, Ev.unlendE, *])

namespace K30
open PySem PySem.W L2 Ev
theorem roll_raw (cf : CF) (a b m : Int) (hm : 0 < m) (hm2 : m < 1073741824) : ∃ r c d, 0 ≤ r ∧ r < m ∧ runD cf d2 (some 0) [.list [.int a, .int b], .int m] = some (.val (.int r), [.int c, .int d]) := by
  by_cases h : 0 < a
  · refine ⟨a % m, a / m, b, Int.emod_nonneg _ (by omega), Int.emod_lt_of_pos _ hm, ?_⟩
    unfold d2 b2
    walk_at "S"
  · refine ⟨((b * 79 + 1319) % 99989) / 13 % m, a, (b * 79 + 1319) % 99989, Int.emod_nonneg _ (by omega), Int.emod_lt_of_pos _ hm, ?_⟩
    unfold d2 b2
    walk_at "S"
theorem cup_raw (cf : CF) (ns : List Int) (h : ns.length ≤ 63) : ∃ c d, runD cf d0 none [ro (ns.map PyData.int)] = some (.new [.int c, .int d], []) := by
  have e : ∃ n, atI (ns.map PyData.int ++ [.int 0]) 0 = some (.int n) := by
    cases ns with
    | nil => exact ⟨0, rfl⟩
    | cons n r => exact ⟨n, atI0 _ _⟩
  obtain ⟨n, e⟩ := e
  have hl : ns.length ≤ 16777215 := by omega
  have hl : ns.length + 1 ≤ 16777216 := by omega
  unfold d0 b0 ro
  by_cases hn : n < 0
  · by_cases hb : 1000000000000000000 ≤ -n
    · refine ⟨-n / 191, (-n * 443 + 6637) % 99989 + 293, ?_⟩
      walk_at "S"
    · refine ⟨0, (-n * 443 + 6637) % 99989 + 293, ?_⟩
      walk_at "S"
  · by_cases hb : 1000000000000000000 ≤ n
    · refine ⟨n / 191, (n * 443 + 6637) % 99989 + 293, ?_⟩
      walk_at "S"
    · refine ⟨0, (n * 443 + 6637) % 99989 + 293, ?_⟩
      walk_at "S"
end K30

local macro_rules | `(tactic| walk_at "E") => `(tactic| repeat' first
  | with_reducible exact Ev.e_negc
  | with_reducible exact K30.e_c0
  | with_reducible exact K30.e_c1
  | with_reducible exact K30.e_c2
  | with_reducible exact K30.e_c4
  | with_reducible exact K30.e_c5
  | with_reducible exact K30.e_c6
  | with_reducible exact K30.e_c10
  | with_reducible exact K30.e_c11
  | with_reducible exact K30.e_c12
  | with_reducible exact K30.e_c100
  | with_reducible exact Ev.e_con
  | with_reducible exact Ev.e_glb
  | with_reducible exact Ev.s_nil
  | with_reducible exact Ev.f_nil
  | with_reducible exact Ev.v_nil
  | with_reducible exact Ev.xs_nil
  | with_reducible exact Ev.r_d
  | with_reducible apply Ev.r_bor
  | ((with_reducible apply Ev.o_var); exact rfl)
  | ((with_reducible apply Ev.o_own); exact rfl)
  | ((with_reducible apply Ev.e_var); exact rfl)
  | with_reducible apply Ev.e_bin
  | with_reducible apply Ev.e_cmpB
  | with_reducible apply Ev.t_cmpB
  | with_reducible apply Ev.e_idx
  | with_reducible apply Ev.e_isi
  | with_reducible apply Ev.t_isi
  | with_reducible apply Ev.e_neg
  | with_reducible apply Ev.e_blt
  | with_reducible apply Ev.e_callN
  | with_reducible apply Ev.t_callN
  | with_reducible apply Ev.e_tup
  | with_reducible apply Ev.e_lst
  | with_reducible apply Ev.s_cons
  | with_reducible apply Ev.f_v
  | with_reducible apply Ev.v_cons
  | with_reducible apply Ev.o_v
  | with_reducible apply Ev.t_not
  | with_reducible apply Ev.e_not
  | with_reducible apply Ev.g_asgV
  | with_reducible apply Ev.g_parV
  | with_reducible apply Ev.g_drop
  | with_reducible apply Ev.x_ret
  | with_reducible apply Ev.c_rngV
  | with_reducible exact K30.add_I _ _
  | with_reducible exact K30.sub_I (by omega)
  | with_reducible exact K30.mul_I (by omega)
  | with_reducible exact K30.fdiv_I (by omega) (by omega)
  | with_reducible exact K30.lt_I _ _
  | with_reducible exact K30.le_I _ _
  | with_reducible exact K30.gt_I _ _
  | with_reducible exact K30.ge_I _ _
  | with_reducible exact K30.eq_I _ _
  | with_reducible exact K30.ne_I _ _
  | with_reducible exact K30.comb_b (by omega) (by omega)
  | with_reducible exact K30.rng_I (by omega)
  | with_reducible assumption
  | with_reducible exact Ev.idx_last
  | with_reducible exact K30.addm_I (by omega)
  | ((with_reducible change (_ : Bool) = _); first | (with_reducible exact rfl) | ((with_reducible apply decide_eq_true); first | assumption | omega) | ((with_reducible apply decide_eq_false); first | assumption | omega) | assumption)
  | ((with_reducible change (_ : Option (Option Ev.Cl)) = _); exact rfl)
  | ((with_reducible change Ev.opd _ _ = Ev.opdE _); exact rfl)
  | ((with_reducible change Ev.setV _ _ _ = _); exact rfl)
  | ((with_reducible change Ev.ioSlot _ _ _ = _); exact rfl)
  | ((with_reducible change Ev.borsO _ _ _ = _); exact rfl)
  | ((with_reducible change Ev.truD _ = _); exact rfl)
  | ((with_reducible change Ev.isiD _ _ = _); exact rfl))

namespace K30
open PySem PySem.W L2 Ev
theorem choose_l (cf : CF) (n k : Nat) (h : k ≤ n) (hn : n ≤ 1500000) (hk : k ≤ 100) : ex cf l1_0 [vI n, vI k, vI 1, none] = some (.nx [vI n, vI k, vI (C n k), lastI k]) := by
  unfold l1_0
  refine ex_fr (o := none) (l := rngD 0 k) (ρ1 := [vI n, vI k, vI 1, none]) (c_rngV (e_var rfl) (rng_I (by omega))) ?_
  refine frGo_rng (fun i => [vI n, vI k, vI (C n i), lastI i]) (by rw [C_zero]; rfl) rfl fun i hi => ?_
  refine ⟨[vI n, vI k, vI (C n i), vI i], ?_, ?_⟩
  · cases i <;> rfl
  · have q := C_next (n := n) (k := i) (by omega)
    have e2 : C n i * (n - i) / (i + 1) = C n (i + 1) := by
      rw [Nat.mul_comm, ← q, Nat.mul_div_cancel_left _ (by omega)]
    rw [← e2]
    refine x_nx (ρ1 := [vI n, vI k, vI (C n i * (n - i) / (i + 1)), vI i]) (by walk_at "E") rfl
theorem choose_in (cf : CF) (n k : Nat) (h : k ≤ n) (hn : n ≤ 1500000) (hk : k ≤ 100) : runD cf d1 none [I n, I k] = some (.val (I (C n k)), []) := by
  have L := choose_l cf n k h hn hk
  refine x_run (ρ := [vI n, vI k, vI (C n k), lastI k]) (ρ0 := [vI n, vI k, none, none]) rfl rfl ?_ rfl
  refine x_nx (ρ1 := [vI n, vI k, none, none]) (g_ifF (t_orF (ρ1 := [vI n, vI k, none, none]) ?_ ?_) xs_nil) (x_nx (ρ1 := [vI n, vI k, vI 1, none]) ?_ (x_nx L (x_rt ?_)))
  all_goals walk_at "E"
theorem choose_out (cf : CF) (n k : Nat) (h : n < k) : runD cf d1 none [I n, I k] = some (.val (I (C n k)), []) := by
  rw [C_lt h]
  refine x_run (ρ := [vI n, vI k, none, none]) (ρ0 := [vI n, vI k, none, none]) rfl rfl ?_ rfl
  refine x_rt (g_ifT (ρ1 := [vI n, vI k, none, none]) (t_orF (ρ1 := [vI n, vI k, none, none]) ?_ ?_) (x_rt ?_))
  all_goals walk_at "E"
theorem choose_ok (j n k : Nat) (hn : n ≤ 1500000) (hk : k ≤ 100) : calls FT (j + 1) 1 none [I n, I k] = some (.val (I (C n k)), []) := by
  rw [calls_one (d := d1) rfl]
  by_cases h : k ≤ n
  · exact choose_in _ n k h hn hk
  · exact choose_out _ n k (by omega)
theorem top_le {n s : Nat} (h1 : 1 ≤ s) (hn : 1 ≤ n) : top n s ≤ n + s := by
  have t := top_ok h1 hn
  have := C_big h1 (top n s - s)
  rw [show s + (top n s - s) = top n s by have := t.ge; omega] at this
  have := t.le
  omega
theorem greatest_l (cf : CF) (n s : Nat) (h1 : 1 ≤ s) (h2 : s ≤ 100) (hn : 1 ≤ n) (hn2 : n ≤ 1000000) : ex cf l6_0 [vI n, vI s, vI s] = some (.nx [vI n, vI s, vI (top n s)]) := by
  have t := top_ok h1 hn
  have tl := top_le h1 hn
  have tg := t.ge
  unfold l6_0
  refine ex_whl ?_
  have := whl_exact (n := top n s - s) (fuel := fuel) (c := (ev cf (.cmp .le (.blt .comb (.cons (.bin .add (.var 2) (.con (.int 1))) (.cons (.var 1) .nil))) (.var 0))).t) (ma := exs cf (.cons (.asg 2 (.bin .add (.var 2) (.con (.int 1)))) .nil)) (ρ' := [vI n, vI s, vI (top n s)]) (fun i => [vI n, vI s, vI (s + i)]) (fun i hi => ?_) ?_ ?_
  · exact this
  · have c : C (s + i + 1) s ≤ n := Nat.le_trans (C_mono (by omega)) t.le
    refine ⟨[vI n, vI s, vI (s + i)], ?_, x_nx (ρ1 := [vI n, vI s, vI (s + i + 1)]) ?_ rfl⟩
    all_goals walk_at "E"
  · show _ = _
    have e : s + (top n s - s) = top n s := by omega
    have c : ¬ C (top n s + 1) s ≤ n := by have := t.lt; omega
    simp only [e]
    walk_at "E"
  · show _ < 1099511627776
    omega
theorem greatest_ok (j n s : Nat) (h1 : 1 ≤ s) (h2 : s ≤ 100) (hn : 1 ≤ n) (hn2 : n ≤ 1000000) : calls FT (j + 1) 6 none [I n, I s] = some (.val (I (top n s)), []) := by
  rw [calls_one (d := d6) rfl]
  by_cases h : s = 1
  · subst h
    rw [top_one hn]
    refine x_run (ρ := [vI n, vI 1, none]) (ρ0 := [vI n, vI 1, none]) rfl rfl ?_ rfl
    refine x_rt (g_ifT (ρ1 := [vI n, vI 1, none]) ?_ (x_rt ?_))
    all_goals walk_at "E"
  · have L := greatest_l (calls FT j) n s h1 h2 hn hn2
    refine x_run (ρ := [vI n, vI s, vI (top n s)]) (ρ0 := [vI n, vI s, none]) rfl rfl ?_ rfl
    refine x_nx (ρ1 := [vI n, vI s, none]) (g_ifF (ρ1 := [vI n, vI s, none]) ?_ xs_nil) (x_nx (ρ1 := [vI n, vI s, vI s]) ?_ (x_nx L (x_rt ?_)))
    all_goals walk_at "E"
end K30

namespace K30
open PySem PySem.W L2 Ev
theorem casc_l (j : Nat) : ∀ (s n : Nat) (found : List PyData) (fu : Nat), s < fu → (s = 0 → n = 0) → n ≤ 1000000 → s ≤ 100 → found.length + s < lim → whlM (ev (calls FT (j + 1)) (.cmp .gt (.var 0) (.con (.int 0)))).t (exs (calls FT (j + 1)) (.cons (.app 2 (.call 6 none (.cons (.var 0) (.cons (.var 1) .nil)))) (.cons (.par 0 1 (.bin .sub (.var 0) (.blt .comb (.cons (.idx (.var 2) (.neg (.con (.int 1)))) (.cons (.var 1) .nil)))) (.bin .sub (.var 1) (.con (.int 1)))) .nil))) fu [vI n, vI s, some (.own false false found)]
    = some (SR.nx [vI 0, vI (s - (casc s n).length), some (.own false false (found ++ Li (casc s n)))])
  | s, 0, found, fu + 1, _, _, _, _, _ => by
    rw [casc_zero]
    show _ = some (SR.nx [vI 0, vI s, some (.own false false (found ++ []))])
    rw [List.append_nil]
    refine w_stop ?_
    walk_at "E"
  | 0, n + 1, found, fu + 1, _, h0, _, _, _ => absurd (h0 rfl) (by omega)
  | s + 1, n + 1, found, fu + 1, hf, _, hn, hs, hl => by
    have t := top_ok (n := n + 1) (s := s + 1) (by omega) (by omega)
    have tl := top_le (n := n + 1) (s := s + 1) (by omega) (by omega)
    have hg := greatest_ok j (n + 1) (s + 1) (by omega) hs (by omega) hn
    have hle := t.le
    have z : s = 0 → n + 1 - C (top (n + 1) (s + 1)) (s + 1) = 0 := fun e => by subst e; exact rest_zero (by omega)
    have ih := casc_l j s (n + 1 - C (top (n + 1) (s + 1)) (s + 1)) (found ++ [I (top (n + 1) (s + 1))]) fu (by omega) z (by omega) (by omega) (by rw [List.length_append, List.length_singleton]; omega)
    rw [casc_cons (by omega)]
    have e1 : s + 1 - (top (n + 1) (s + 1) :: casc s (n + 1 - C (top (n + 1) (s + 1)) (s + 1))).length = s - (casc s (n + 1 - C (top (n + 1) (s + 1)) (s + 1))).length := by rw [List.length_cons]; omega
    have e2 : found ++ Li (top (n + 1) (s + 1) :: casc s (n + 1 - C (top (n + 1) (s + 1)) (s + 1))) = found ++ [I (top (n + 1) (s + 1))] ++ Li (casc s (n + 1 - C (top (n + 1) (s + 1)) (s + 1))) := by simp
    rw [e1, e2]
    have hl2 : found.length < lim := by omega
    refine w_go (ρ1 := [vI (n + 1), vI (s + 1), some (.own false false found)]) ?_ (x_nx (ρ1 := [vI (n + 1), vI (s + 1), some (.own false false (found ++ [I (top (n + 1) (s + 1))]))]) (g_appV (d := I (top (n + 1) (s + 1))) (l := found) (ρ1 := [vI (n + 1), vI (s + 1), some (.own false false found)]) rfl ?_ rfl hl2 rfl) (x_nx (ρ1 := [vI (n + 1 - C (top (n + 1) (s + 1)) (s + 1)), vI (s + 1 - 1), some (.own false false (found ++ [I (top (n + 1) (s + 1))]))]) ?_ rfl)) ih
    all_goals walk_at "E"
theorem cascade_in_ok (j n s : Nat) (h1 : 1 ≤ s) (h2 : s ≤ 100) (hn : n ≤ 1000000) : calls FT (j + 2) 7 none [I n, I s] = some (.val (.list (Li (casc s n))), []) := by
  rw [calls_one (d := d7) rfl]
  have L := casc_l j s n [] fuel (by show _ < 1099511627776; omega) (by omega) hn h2 (by show 0 + s < 16777216; omega)
  have L : ex (calls FT (j + 1)) l7_0 [vI n, vI s, some (.own false false [])] = some (.nx [vI 0, vI (s - (casc s n).length), some (.own false false (Li (casc s n)))]) := ex_whl L
  refine x_run (ρ := [vI 0, vI (s - (casc s n).length), some (.val (.list (Li (casc s n))))]) (ρ0 := [vI n, vI s, none]) rfl rfl ?_ rfl
  refine x_nx (ρ1 := [vI n, vI s, some (.own false false [])]) (g_asgN (l := []) (ρ1 := [vI n, vI s, none]) ?_ rfl) (x_nx L (x_rt (x_ret (e_own rfl))))
  exact e_lst f_nil v_nil rfl
/-! the bounds -/
theorem need_ok (j n s : Nat) (h1 : 1 ≤ s) (h2 : s ≤ 12) (hn : n ≤ 1000000) : calls FT (j + 3) 5 none [I n, I s] = some (.val .none, []) := by
  have w : ∀ (j a lo hi : Nat), lo ≤ a → a ≤ hi → calls FT (j + 1) 3 none [I a, I lo, I hi] = some (.val (.bool true), []) := fun j a lo hi h1 h2 => by
    rw [calls_one (d := d3) rfl]
    have e1 : decide (lo ≤ a) = true := decide_eq_true h1
    have e2 : cmpD .le (I lo) (I a) = some true := by rw [le_I, e1]
    have e3 : cmpD .le (I a) (I hi) = some true := by rw [le_I, decide_eq_true h2]
    refine x_run (ρ := [vI a, vI lo, vI hi]) (ρ0 := [vI a, vI lo, vI hi]) rfl rfl ?_ rfl
    refine x_rt (x_ret (e_andT (ρ1 := [vI a, vI lo, vI hi]) ?_ (e_andT (ρ1 := [vI a, vI lo, vI hi]) ?_ (e_chnT (oa := .d (I lo)) (ob := .d (I a)) (oc := .d (I hi)) (ρ1 := [vI a, vI lo, vI hi]) (ρ2 := [vI a, vI lo, vI hi]) (o_var rfl) (o_var rfl) rfl rfl e2 (o_var rfl) rfl rfl e3))))
    · exact e_isi (o_var rfl) rfl rfl
    · exact e_not (t := false) (e_isi (o_var rfl) rfl rfl)
  have w2 : ∀ (j a lo hi : Nat), lo ≤ a → a ≤ hi → calls FT (j + 2) 4 none [I a, I lo, I hi] = some (.val .none, []) := fun j a lo hi h1 h2 => by
    rw [calls_one (d := d4) rfl]
    have e := w j a lo hi h1 h2
    refine x_runN (ρ := [vI a, vI lo, vI hi]) (ρ0 := [vI a, vI lo, vI hi]) rfl rfl ?_ rfl
    refine x_nx (ρ1 := [vI a, vI lo, vI hi]) (g_ifF (ρ1 := [vI a, vI lo, vI hi]) (t_not (t := true) ?_) xs_nil) xs_nil
    walk_at "E"
  rw [calls_one (d := d5) rfl]
  have e1 := w2 j n 0 1000000 (Nat.zero_le _) hn
  have e2 := w2 j s 1 12 h1 h2
  refine x_runN (ρ := [vI n, vI s]) (ρ0 := [vI n, vI s]) rfl rfl ?_ rfl
  refine x_nx (ρ1 := [vI n, vI s]) (g_drop (r := .val .none) (e_callN (out := []) (os := [.d (I n), .d (I 0), .d (I 1000000)]) (s_cons (o_var rfl) (s_cons (o_e rfl e_con) (s_cons (o_e rfl e_glb) s_nil))) rfl rfl e1)) (x_nx (ρ1 := [vI n, vI s]) (g_drop (r := .val .none) (e_callN (out := []) (os := [.d (I s), .d (I 1), .d (I 12)]) (s_cons (o_var rfl) (s_cons (o_e rfl e_con) (s_cons (o_e rfl e_glb) s_nil))) rfl rfl e2)) xs_nil)
end K30

namespace K30
open PySem PySem.W L2 Ev
theorem ints_I : ∀ xs : List Nat, ints? (Li xs) = some (xs.map fun (x : Nat) => (x : Int))
  | [] => rfl
  | x :: r => by
    show (match ints? (Li r) with | some s => some ((x : Int) :: s) | none => none) = _
    rw [ints_I r]; rfl
theorem sum_cast : ∀ xs : List Nat, (xs.map fun (x : Nat) => (x : Int)).sum = ((xs.sum : Nat) : Int)
  | [] => rfl
  | x :: r => by
    rw [List.map_cons, List.sum_cons, List.sum_cons, sum_cast r, Int.natCast_add]
theorem sum_I (xs : List Nat) : bltD .sum [.list (Li xs)] = some (.val (I xs.sum)) := by
  show intsOf _ (Li xs) = _
  unfold intsOf
  rw [ints_I, ← show PyData.int (((xs.sum : Nat) : Int)) = I xs.sum from rfl, ← sum_cast]; rfl
theorem led_sum (m u : Nat) : ∀ (s : Nat) (xs : List Nat), led m u s xs = ((List.range xs.length).map fun i => C (xs.getD i 0 + m) (s - i + u - 1)).sum
  | _, [] => rfl
  | s, a :: r => by
    rw [List.length_cons, List.range_succ_eq_map, List.map_cons, List.sum_cons, List.map_map]
    show C (a + m) (s + u - 1) + led m u (s - 1) r = _
    rw [led_sum m u (s - 1) r]
    congr 2
    refine List.map_congr_left fun i _ => ?_
    show C (r.getD i 0 + m) (s - 1 - i + u - 1) = C ((a :: r).getD (i + 1) 0 + m) (s - (i + 1) + u - 1)
    rw [show s - 1 - i = s - (i + 1) by omega]; rfl
/-- the value of a row's i-th with the bounds that the built-ins ask -/
theorem row_at {s n i : Nat} {e : PyData} (h1 : 1 ≤ s) (hn : n ≤ 1000000) (h : (Li (casc s n))[i]? = some e) : i < s ∧ e = I ((casc s n).getD i 0) ∧ (casc s n).getD i 0 ≤ 1000012 + s := by
  have hi : i < (casc s n).length := by
    have := (List.getElem?_eq_some_iff.mp h).1
    rwa [List.length_map] at this
  rw [List.getElem?_map, List.getElem?_eq_getElem hi] at h
  have he : (casc s n).getD i 0 = (casc s n)[i] := by rw [List.getD_eq_getElem?_getD, List.getElem?_eq_getElem hi]; rfl
  refine ⟨Nat.lt_of_lt_of_le hi (casc_len s n), by rw [he]; simpa using h.symm, ?_⟩
  have all : ∀ (s n : Nat), n ≤ 1000000 → ∀ a ∈ casc s n, a ≤ 1000000 + s := fun s => by
    induction s with
    | zero => intro n _ a ha; cases ha
    | succ s ih =>
      intro n hn a ha
      by_cases h0 : n = 0
      · subst h0; rw [casc_zero] at ha; cases ha
      · rw [casc_cons h0] at ha
        rcases List.mem_cons.mp ha with rfl | ha
        · have := top_le (n := n) (s := s + 1) (by omega) (by omega); omega
        · have := ih _ (by omega) a ha; omega
  rw [he]
  have := all s n hn _ (List.getElem_mem hi)
  omega
theorem comp_ok {e : Ex} (j n s m u : Nat) (h1 : 1 ≤ s) (h2 : s ≤ 12) (hn : n ≤ 1000000)
    (he : ∀ i a, i < s → a ≤ 1000012 + s → (ev (calls FT (j + 2)) e).e [vI n, vI s, vI i, vI a] = some (.val (I (C (a + m) (s - i + u - 1))), [vI n, vI s, vI i, vI a])) :
    (ev (calls FT (j + 2)) (.lc (.enm (.call 7 none (.cons (.var 0) (.cons (.var 1) .nil)))) [2, 3] [2, 3] .nil e)).e [vI n, vI s, none, none] = some (.new (Li ((List.range (casc s n).length).map fun i => C ((casc s n).getD i 0 + m) (s - i + u - 1))), [vI n, vI s, none, none]) := by
  have L := cascade_in_ok j n s h1 (by omega) hn
  have len := casc_len s n
  refine ev_lc (l := enmD 0 (Li (casc s n))) (ρ1 := [vI n, vI s, none, none]) (ρ2 := [vI n, vI s, none, none]) (o := none) (c_enm (r := .val (.list (Li (casc s n)))) (ρ1 := [vI n, vI s, none, none]) ?_ enm_I) ?_ ?_
  · walk_at "E"
  · rw [enm_len, List.length_map]
    have : decide ((casc s n).length ≤ lim) = true := decide_eq_true (by show _ ≤ 16777216; omega)
    rw [this]; rfl
  · have := lcGo_at (ρ := [vI n, vI s, none, none]) (tg := [2, 3]) (vs := [2, 3]) (ifs := allT (evts (calls FT (j + 2)) .nil)) (e := (ev (calls FT (j + 2)) e).e) (l := enmD 0 (Li (casc s n))) (fun i => I (C ((casc s n).getD i 0 + m) (s - i + u - 1))) fun i d hd => by
      obtain ⟨x, hx, rfl⟩ := enm_get hd
      obtain ⟨hi, rfl, ha⟩ := row_at h1 hn hx
      rw [Nat.zero_add]
      exact ⟨[vI n, vI s, vI i, vI ((casc s n).getD i 0)], .val (I (C ((casc s n).getD i 0 + m) (s - i + u - 1))), _, rfl, rfl, rfl, he i _ hi ha, rfl⟩
    rw [enm_len, List.length_map] at this
    rw [show Li ((List.range (casc s n).length).map fun i => C ((casc s n).getD i 0 + m) (s - i + u - 1)) = (List.range (casc s n).length).map (fun i => I (C ((casc s n).getD i 0 + m) (s - i + u - 1))) from by show List.map I (List.map _ _) = _; rw [List.map_map]; rfl]
    exact this
theorem below_ok (j n s : Nat) (h1 : 1 ≤ s) (h2 : s ≤ 12) (hn : n ≤ 1000000) : calls FT (j + 3) 9 none [I n, I s] = some (.val (I (led 0 0 s (casc s n))), []) := by
  rw [calls_one (d := d9) rfl, led_sum]
  have c : (ev (calls FT (j + 2)) c9_0).e [vI n, vI s, none, none] = _ := comp_ok j n s 0 0 h1 h2 hn fun i a hi ha => by
    rw [show s - i + 0 - 1 = s - i - 1 by omega, show a + 0 = a from rfl]
    walk_at "E"
  refine x_run (ρ := [vI n, vI s, none, none]) (ρ0 := [vI n, vI s, none, none]) rfl rfl ?_ rfl
  exact x_rt (x_ret (e_blt (s_cons (o_n (c9_0_o _) c) s_nil) (v_cons r_d v_nil) (sum_I _)))
theorem above_ok (j n s : Nat) (h1 : 1 ≤ s) (h2 : s ≤ 12) (hn : n ≤ 1000000) : calls FT (j + 3) 11 none [I n, I s] = some (.val (I (led 0 2 s (casc s n))), []) := by
  rw [calls_one (d := d11) rfl, led_sum]
  have c : (ev (calls FT (j + 2)) c11_0).e [vI n, vI s, none, none] = _ := comp_ok j n s 0 2 h1 h2 hn fun i a hi ha => by
    rw [show s - i + 2 - 1 = s - i + 1 by omega, show a + 0 = a from rfl]
    walk_at "E"
  refine x_run (ρ := [vI n, vI s, none, none]) (ρ0 := [vI n, vI s, none, none]) rfl rfl ?_ rfl
  exact x_rt (x_ret (e_blt (s_cons (o_n (c11_0_o _) c) s_nil) (v_cons r_d v_nil) (sum_I _)))
theorem powers_ok (j n s : Nat) (h1 : 1 ≤ s) (h2 : s ≤ 12) (hn : n ≤ 1000000) : calls FT (j + 3) 13 none [I n, I s] = some (.val (I (led 1 2 s (casc s n))), []) := by
  rw [calls_one (d := d13) rfl, led_sum]
  have c : (ev (calls FT (j + 2)) c13_0).e [vI n, vI s, none, none] = _ := comp_ok j n s 1 2 h1 h2 hn fun i a hi ha => by
    rw [show s - i + 2 - 1 = s - i + 1 by omega]
    walk_at "E"
  refine x_run (ρ := [vI n, vI s, none, none]) (ρ0 := [vI n, vI s, none, none]) rfl rfl ?_ rfl
  exact x_rt (x_ret (e_blt (s_cons (o_n (c13_0_o _) c) s_nil) (v_cons r_d v_nil) (sum_I _)))
theorem cascade_of_ok (j n s : Nat) (h1 : 1 ≤ s) (h2 : s ≤ 12) (hn : n ≤ 1000000) : calls FT (j + 4) 8 none [I n, I s] = some (.val (.tuple (Li (casc s n))), []) := by
  rw [calls_one (d := d8) rfl]
  have a := need_ok j n s h1 h2 hn
  have b := cascade_in_ok (j + 1) n s h1 (by omega) hn
  refine x_run (ρ := [vI n, vI s]) (ρ0 := [vI n, vI s]) rfl rfl ?_ rfl
  refine x_nx (ρ1 := [vI n, vI s]) (g_drop (r := .val .none) ?_) (x_rt (x_ret (e_blt (ds := [.list (Li (casc s n))]) (s_cons (o_v rfl ?_) s_nil) (v_cons r_d v_nil) rfl)))
  all_goals walk_at "E"
theorem least_faces_ok (j n s : Nat) (h1 : 1 ≤ s) (h2 : s ≤ 12) (hn : n ≤ 1000000) : calls FT (j + 4) 10 none [I n, I s] = some (.val (I (led 0 0 s (casc s n))), []) := by
  rw [calls_one (d := d10) rfl]
  have a := need_ok j n s h1 h2 hn
  have b := below_ok j n s h1 h2 hn
  refine x_run (ρ := [vI n, vI s]) (ρ0 := [vI n, vI s]) rfl rfl ?_ rfl
  refine x_nx (ρ1 := [vI n, vI s]) (g_drop (r := .val .none) ?_) (x_rt (x_ret ?_))
  all_goals walk_at "E"
theorem most_above_ok (j n s : Nat) (h1 : 1 ≤ s) (h2 : s ≤ 12) (hn : n ≤ 1000000) : calls FT (j + 4) 12 none [I n, I s] = some (.val (I (led 0 2 s (casc s n))), []) := by
  rw [calls_one (d := d12) rfl]
  have a := need_ok j n s h1 h2 hn
  have b := above_ok j n s h1 h2 hn
  refine x_run (ρ := [vI n, vI s]) (ρ0 := [vI n, vI s]) rfl rfl ?_ rfl
  refine x_nx (ρ1 := [vI n, vI s]) (g_drop (r := .val .none) ?_) (x_rt (x_ret ?_))
  all_goals walk_at "E"
theorem most_powers_ok (j n s : Nat) (h1 : 1 ≤ s) (h2 : s ≤ 12) (hn : n ≤ 1000000) : calls FT (j + 4) 14 none [I n, I s] = some (.val (I (led 1 2 s (casc s n))), []) := by
  rw [calls_one (d := d14) rfl]
  have a := need_ok j n s h1 h2 hn
  have b := powers_ok j n s h1 h2 hn
  refine x_run (ρ := [vI n, vI s]) (ρ0 := [vI n, vI s]) rfl rfl ?_ rfl
  refine x_nx (ρ1 := [vI n, vI s]) (g_drop (r := .val .none) ?_) (x_rt (x_ret ?_))
  all_goals walk_at "E"
end K30

namespace K30
open PySem PySem.W L2 Ev
def Mid (m : Option Cl) : Prop := m = none ∨ ∃ d, m = some (.val d)
theorem bis_l (j n s : Nat) (found : List PyData) (h1 : 1 ≤ s) (h2 : s ≤ 12) (hn1 : 1 ≤ n) (hn : n ≤ 1000000) : ∀ (g low high fu : Nat) (mid : Option Cl), high - low ≤ g → low < high → s ≤ low → C low s ≤ n → n < C high s → high ≤ 1000100 → Mid mid → g < fu →
    ∃ mid', Mid mid' ∧ whlM (ev (calls FT (j + 1)) (.cmp .gt (.bin .sub (.var 4) (.var 3)) (.con (.int 1)))).t (exs (calls FT (j + 1)) (.cons (.asg 5 (.bin .fdiv (.bin .add (.var 3) (.var 4)) (.con (.int 2)))) (.cons (.unp [3, 4] (.ite (.cmp .le (.call 1 none (.cons (.var 5) (.cons (.var 1) .nil))) (.var 0)) (.tup (.cons (.var 5) (.cons (.var 4) .nil))) (.tup (.cons (.var 3) (.cons (.var 5) .nil))))) .nil))) fu [vI n, vI s, some (.own false false found), vI low, vI high, mid]
      = some (SR.nx [vI n, vI s, some (.own false false found), vI (top n s), vI (top n s + 1), mid'])
  | g, low, high, 0, mid, _, _, _, _, _, _, _, hf => absurd hf (by omega)
  | g, low, high, fu + 1, mid, hg, hlh, hs, hl, hh, hb, hm, hf => by
    by_cases c : high - low ≤ 1
    · have e : high = low + 1 := by omega
      subst e
      have t : top n s = low := (top_ok h1 hn1).uniq ⟨hs, hl, hh⟩
      refine ⟨mid, hm, ?_⟩
      rw [t]
      refine w_stop ?_
      rcases hm with rfl | ⟨d, rfl⟩ <;> walk_at "E"
    · have m1 : low < (low + high) / 2 := by omega
      have m2 : (low + high) / 2 < high := by omega
      have ch := choose_ok j ((low + high) / 2) s (by omega) (by omega)
      have st : ex (calls FT (j + 1)) (.asg 5 (.bin .fdiv (.bin .add (.var 3) (.var 4)) (.con (.int 2)))) [vI n, vI s, some (.own false false found), vI low, vI high, mid] = some (SR.nx [vI n, vI s, some (.own false false found), vI low, vI high, vI ((low + high) / 2)]) := by
        rcases hm with rfl | ⟨d, rfl⟩ <;> walk_at "E"
      have cd : (ev (calls FT (j + 1)) (.cmp .gt (.bin .sub (.var 4) (.var 3)) (.con (.int 1)))).t [vI n, vI s, some (.own false false found), vI low, vI high, mid] = some (true, [vI n, vI s, some (.own false false found), vI low, vI high, mid]) := by
        rcases hm with rfl | ⟨d, rfl⟩ <;> walk_at "E"
      by_cases k : C ((low + high) / 2) s ≤ n
      · obtain ⟨mid', hm', ih⟩ := bis_l j n s found h1 h2 hn1 hn (g - 1) ((low + high) / 2) high fu (vI ((low + high) / 2)) (by omega) m2 (by omega) k hh hb (.inr ⟨_, rfl⟩) (by omega)
        refine ⟨mid', hm', w_go cd (x_nx st (x_nx (ρ1 := [vI n, vI s, some (.own false false found), vI ((low + high) / 2), vI high, vI ((low + high) / 2)]) (g_unp (ds := [I ((low + high) / 2), I high]) (ρ1 := [vI n, vI s, some (.own false false found), vI low, vI high, vI ((low + high) / 2)]) (e_iteT (ρ1 := [vI n, vI s, some (.own false false found), vI low, vI high, vI ((low + high) / 2)]) ?_ (e_tup (f_v (e_var rfl) (f_v (e_var rfl) f_nil)) (v_cons r_d (v_cons r_d v_nil)) rfl)) rfl rfl) xs_nil)) ih⟩
        walk_at "E"
      · obtain ⟨mid', hm', ih⟩ := bis_l j n s found h1 h2 hn1 hn (g - 1) low ((low + high) / 2) fu (vI ((low + high) / 2)) (by omega) m1 hs hl (by omega) (by omega) (.inr ⟨_, rfl⟩) (by omega)
        refine ⟨mid', hm', w_go cd (x_nx st (x_nx (ρ1 := [vI n, vI s, some (.own false false found), vI low, vI ((low + high) / 2), vI ((low + high) / 2)]) (g_unp (ds := [I low, I ((low + high) / 2)]) (ρ1 := [vI n, vI s, some (.own false false found), vI low, vI high, vI ((low + high) / 2)]) (e_iteF (ρ1 := [vI n, vI s, some (.own false false found), vI low, vI high, vI ((low + high) / 2)]) ?_ (e_tup (f_v (e_var rfl) (f_v (e_var rfl) f_nil)) (v_cons r_d (v_cons r_d v_nil)) rfl)) rfl rfl) xs_nil)) ih⟩
        walk_at "E"
theorem lcasc_l (j : Nat) : ∀ (s n : Nat) (found : List PyData) (fu : Nat) (x y z : Option Cl), Mid x → Mid y → Mid z → s < fu → (s = 0 → n = 0) → n ≤ 1000000 → s ≤ 12 → found.length + s < lim → ∃ x' y' z', Mid x' ∧ Mid y' ∧ Mid z' ∧ whlM (ev (calls FT (j + 1)) (.cmp .gt (.var 0) (.con (.int 0)))).t (exs (calls FT (j + 1)) (.cons (.par 3 4 (.var 1) (.bin .add (.var 1) (.var 0))) (.cons l17_0 (.cons (.app 2 (.var 3)) (.cons (.par 0 1 (.bin .sub (.var 0) (.call 1 none (.cons (.var 3) (.cons (.var 1) .nil)))) (.bin .sub (.var 1) (.con (.int 1)))) .nil))))) fu [vI n, vI s, some (.own false false found), x, y, z]
    = some (SR.nx [vI 0, vI (s - (casc s n).length), some (.own false false (found ++ Li (casc s n))), x', y', z'])
  | s, 0, found, fu + 1, x, y, z, hx, hy, hz, _, _, _, _, _ => by
    refine ⟨x, y, z, hx, hy, hz, ?_⟩
    rw [casc_zero]
    show _ = some (SR.nx [vI 0, vI s, some (.own false false (found ++ [])), x, y, z])
    rw [List.append_nil]
    refine w_stop ?_
    walk_at "E"
  | 0, n + 1, found, fu + 1, _, _, _, _, _, _, _, h0, _, _, _ => absurd (h0 rfl) (by omega)
  | s + 1, n + 1, found, fu + 1, x, y, z, hx, hy, hz, hf, _, hn, hs, hl => by
    have t := top_ok (n := n + 1) (s := s + 1) (by omega) (by omega)
    have tl := top_le (n := n + 1) (s := s + 1) (by omega) (by omega)
    have hle := t.le
    have ch := choose_ok j (top (n + 1) (s + 1)) (s + 1) (by omega) (by omega)
    have z0 : s = 0 → n + 1 - C (top (n + 1) (s + 1)) (s + 1) = 0 := fun e => by subst e; exact rest_zero (by omega)
    have big := C_big (s := s + 1) (by omega) (n + 1)
    obtain ⟨m', hm', L⟩ := bis_l j (n + 1) (s + 1) found (by omega) hs (by omega) hn (n + 1) (s + 1) (s + 1 + (n + 1)) fuel z (by omega) (by omega) (by omega) (by rw [C_self]; omega) (by omega) (by omega) hz (by show _ < 1099511627776; omega)
    obtain ⟨x', y', z', hx', hy', hz', ih⟩ := lcasc_l j s (n + 1 - C (top (n + 1) (s + 1)) (s + 1)) (found ++ [I (top (n + 1) (s + 1))]) fu (vI (top (n + 1) (s + 1))) (vI (top (n + 1) (s + 1) + 1)) m' (.inr ⟨_, rfl⟩) (.inr ⟨_, rfl⟩) hm' (by omega) z0 (by omega) (by omega) (by rw [List.length_append, List.length_singleton]; omega)
    refine ⟨x', y', z', hx', hy', hz', ?_⟩
    rw [casc_cons (by omega)]
    have e1 : s + 1 - (top (n + 1) (s + 1) :: casc s (n + 1 - C (top (n + 1) (s + 1)) (s + 1))).length = s - (casc s (n + 1 - C (top (n + 1) (s + 1)) (s + 1))).length := by rw [List.length_cons]; omega
    have e2 : found ++ Li (top (n + 1) (s + 1) :: casc s (n + 1 - C (top (n + 1) (s + 1)) (s + 1))) = found ++ [I (top (n + 1) (s + 1))] ++ Li (casc s (n + 1 - C (top (n + 1) (s + 1)) (s + 1))) := by simp
    rw [e1, e2]
    have hl2 : found.length < lim := by omega
    have L : ex (calls FT (j + 1)) l17_0 [vI (n + 1), vI (s + 1), some (.own false false found), vI (s + 1), vI (s + 1 + (n + 1)), z] = _ := ex_whl L
    refine w_go (ρ1 := [vI (n + 1), vI (s + 1), some (.own false false found), x, y, z]) ?_ (x_nx (ρ1 := [vI (n + 1), vI (s + 1), some (.own false false found), vI (s + 1), vI (s + 1 + (n + 1)), z]) ?_ (x_nx L (x_nx (ρ1 := [vI (n + 1), vI (s + 1), some (.own false false (found ++ [I (top (n + 1) (s + 1))])), vI (top (n + 1) (s + 1)), vI (top (n + 1) (s + 1) + 1), m']) (g_appV (d := I (top (n + 1) (s + 1))) (l := found) (ρ1 := [vI (n + 1), vI (s + 1), some (.own false false found), vI (top (n + 1) (s + 1)), vI (top (n + 1) (s + 1) + 1), m']) rfl (e_var rfl) rfl hl2 rfl) (x_nx (ρ1 := [vI (n + 1 - C (top (n + 1) (s + 1)) (s + 1)), vI (s + 1 - 1), some (.own false false (found ++ [I (top (n + 1) (s + 1))])), vI (top (n + 1) (s + 1)), vI (top (n + 1) (s + 1) + 1), m']) ?_ rfl)))) ih
    · walk_at "E"
    · rcases hx with rfl | ⟨d, rfl⟩ <;> rcases hy with rfl | ⟨d', rfl⟩ <;> walk_at "E"
    · walk_at "E"
theorem lcascade_ok (j n s : Nat) (h1 : 1 ≤ s) (h2 : s ≤ 12) (hn : n ≤ 1000000) : calls FT (j + 2) 17 none [I n, I s] = some (.val (.list (Li (casc s n))), []) := by
  rw [calls_one (d := d17) rfl]
  obtain ⟨x, y, z, _, _, _, L⟩ := lcasc_l j s n [] fuel none none none (.inl rfl) (.inl rfl) (.inl rfl) (by show _ < 1099511627776; omega) (by omega) hn h2 (by show 0 + s < 16777216; omega)
  have L : ex (calls FT (j + 1)) l17_1 [vI n, vI s, some (.own false false []), none, none, none] = some (SR.nx [vI 0, vI (s - (casc s n).length), some (.own false false (Li (casc s n))), x, y, z]) := ex_whl L
  refine x_run (ρ := [vI 0, vI (s - (casc s n).length), some (.val (.list (Li (casc s n)))), x, y, z]) (ρ0 := [vI n, vI s, none, none, none, none]) rfl rfl ?_ rfl
  refine x_nx (ρ1 := [vI n, vI s, some (.own false false []), none, none, none]) (g_asgN (l := []) (ρ1 := [vI n, vI s, none, none, none, none]) ?_ rfl) (x_nx L (x_rt (x_ret (e_own rfl))))
  exact e_lst f_nil v_nil rfl
theorem led_ok (j n s m u : Nat) (up : PyData) (h1 : 1 ≤ s) (h2 : s ≤ 12) (hn : n ≤ 1000000) (hm : m ≤ 1) (hu2 : u ≤ 2) (hu : ∀ a, 1 ≤ a → binD .add (I a) up = some (.val (I (a + u - 1)))) : calls FT (j + 3) 18 none [I n, I s, I m, up] = some (.val (I (led m u s (casc s n))), []) := by
  rw [calls_one (d := d18) rfl, led_sum]
  have L := lcascade_ok j n s h1 h2 hn
  have len := casc_len s n
  have c : (ev (calls FT (j + 2)) c18_0).e [vI n, vI s, vI m, some (.val up), none, none] = some (.new (Li ((List.range (casc s n).length).map fun i => C ((casc s n).getD i 0 + m) (s - i + u - 1))), [vI n, vI s, vI m, some (.val up), none, none]) := by
    unfold c18_0
    refine ev_lc (l := enmD 0 (Li (casc s n))) (ρ1 := [vI n, vI s, vI m, some (.val up), none, none]) (ρ2 := [vI n, vI s, vI m, some (.val up), none, none]) (o := none) (c_enm (r := .val (.list (Li (casc s n)))) (ρ1 := [vI n, vI s, vI m, some (.val up), none, none]) ?_ enm_I) ?_ ?_
    · walk_at "E"
    · rw [enm_len, List.length_map]
      have : decide ((casc s n).length ≤ lim) = true := decide_eq_true (by show _ ≤ 16777216; omega)
      rw [this]; rfl
    · have := lcGo_at (ρ := [vI n, vI s, vI m, some (.val up), none, none]) (tg := [4, 5]) (vs := [4, 5]) (ifs := allT (evts (calls FT (j + 2)) .nil)) (e := (ev (calls FT (j + 2)) (.call 1 none (.cons (.bin .add (.var 5) (.var 2)) (.cons (.bin .add (.bin .sub (.var 1) (.var 4)) (.var 3)) .nil)))).e) (l := enmD 0 (Li (casc s n))) (fun i => I (C ((casc s n).getD i 0 + m) (s - i + u - 1))) fun i d hd => by
        obtain ⟨x, hx, rfl⟩ := enm_get hd
        obtain ⟨hi, rfl, ha⟩ := row_at h1 hn hx
        rw [Nat.zero_add]
        have ch := choose_ok (j + 1) ((casc s n).getD i 0 + m) (s - i + u - 1) (by omega) (by omega)
        have hu := hu (s - i) (by omega)
        refine ⟨[vI n, vI s, vI m, some (.val up), vI i, vI ((casc s n).getD i 0)], .val (I (C ((casc s n).getD i 0 + m) (s - i + u - 1))), [vI n, vI s, vI m, some (.val up), vI i, vI ((casc s n).getD i 0)], rfl, rfl, rfl, ?_, rfl⟩
        walk_at "E"
      rw [enm_len, List.length_map] at this
      rw [show Li ((List.range (casc s n).length).map fun i => C ((casc s n).getD i 0 + m) (s - i + u - 1)) = (List.range (casc s n).length).map (fun i => I (C ((casc s n).getD i 0 + m) (s - i + u - 1))) from by show List.map I (List.map _ _) = _; rw [List.map_map]; rfl]
      exact this
  refine x_run (ρ := [vI n, vI s, vI m, some (.val up), none, none]) (ρ0 := [vI n, vI s, vI m, some (.val up), none, none]) rfl rfl ?_ rfl
  exact x_rt (x_ret (e_blt (s_cons (o_n (c18_0_o _) c) s_nil) (v_cons r_d v_nil) (sum_I _)))
end K30

namespace K30
open PySem PySem.W L2 Ev
theorem sort_int (j : Nat) (n : Int) : calls FT (j + 1) 15 none [.int n] = some (.val (I 2), []) := by
  rw [calls_one (d := d15) rfl]; rfl
theorem sort_tup (j : Nat) (l : List PyData) : calls FT (j + 1) 15 none [.tuple l] = some (.val (I 4), []) := by
  rw [calls_one (d := d15) rfl]; rfl
theorem sort_lst (j : Nat) (l : List PyData) : calls FT (j + 1) 15 none [.list l] = some (.val (I 5), []) := by
  rw [calls_one (d := d15) rfl]; rfl
def LikeOk (k : Nat) (d : PyData) : Prop := calls FT k 16 none [d, d] = some (.val (.bool true), [])
theorem in2 : cmpD .isin (I 2) (.tuple [I 4, I 5]) = some false := by decide +kernel
theorem in4 : cmpD .isin (I 4) (.tuple [I 4, I 5]) = some true := by decide +kernel
theorem in5 : cmpD .isin (I 5) (.tuple [I 4, I 5]) = some true := by decide +kernel
theorem nil_eq : cmpD .eq (.list []) (.list []) = some true := by decide +kernel
theorem nil_ne : cmpD .ne (.list []) (.list []) = some false := by decide +kernel
section
variable {cf : CF} {a b x : PyData} {q : Option Cl}
theorem pre_like {s : Nat} (h1 : cf 15 none [a] = some (.val (I s), [])) (h2 : cf 15 none [b] = some (.val (I s), [])) (hs : s ≤ 5) {r : Sms} {y : Option SR} (hr : exs cf r [some (.val a), some (.val b), vI s, none, none] = y) :
    exs cf (.cons (.asg 2 (.call 15 none (.cons (.var 1) .nil))) (.cons (.ife (.or (.cmp .ne (.call 15 none (.cons (.var 0) .nil)) (.var 2)) (.cmp .eq (.var 2) (.con (.int 6)))) (.cons (.ret (.con (.bool false))) .nil) .nil) r)) [some (.val a), some (.val b), none, none, none] = y := by
  have c1 : cmpD .ne (I s) (I s) = some false := by rw [ne_I, decide_eq_true rfl]; rfl
  refine x_nx (ρ1 := [some (.val a), some (.val b), vI s, none, none]) ?_ (x_nx (ρ1 := [some (.val a), some (.val b), vI s, none, none]) (g_ifF (ρ1 := [some (.val a), some (.val b), vI s, none, none]) (t_orF (ρ1 := [some (.val a), some (.val b), vI s, none, none]) (t_cmp (oa := .d (I s)) (ob := .d (I s)) (ρ1 := [some (.val a), some (.val b), vI s, none, none]) (o_v rfl ?_) (o_var rfl) rfl rfl c1) ?_) xs_nil) hr)
  all_goals walk_at "E"
end
theorem like_int (j : Nat) (n : Int) : LikeOk (j + 2) (.int n) := by
  unfold LikeOk
  rw [calls_one (d := d16) rfl]
  refine x_run (ρ := [some (.val (.int n)), some (.val (.int n)), vI 2, none, none]) (ρ0 := [some (.val (.int n)), some (.val (.int n)), none, none, none]) rfl rfl ?_ rfl
  have c : cmpD .eq (.int n) (.int n) = some true := by show some (n == n) = _; simp
  refine pre_like (sort_int j n) (sort_int j n) (by omega) (x_nx (ρ1 := [some (.val (.int n)), some (.val (.int n)), vI 2, none, none]) (g_ifF (ρ1 := [some (.val (.int n)), some (.val (.int n)), vI 2, none, none]) (t_cmp (oa := .d (I 2)) (ob := .d (.tuple [I 4, I 5])) (ρ1 := [some (.val (.int n)), some (.val (.int n)), vI 2, none, none]) (o_var rfl) (o_v rfl (e_tup (f_v e_c4 (f_v e_c5 f_nil)) (v_cons r_d (v_cons r_d v_nil)) rfl)) rfl rfl in2) xs_nil) (x_rt (x_ret (e_cmp (oa := .d (.int n)) (ob := .d (.int n)) (ρ1 := [some (.val (.int n)), some (.val (.int n)), vI 2, none, none]) (o_var rfl) (o_var rfl) rfl rfl c))))
theorem zip_mem {l : List PyData} {d : PyData} (h : d ∈ zipD l l) : ∃ x ∈ l, d = .tuple [x, x] := by
  obtain ⟨i, hi⟩ := List.mem_iff_getElem?.mp h
  obtain ⟨a, b, h1, h2, rfl⟩ := zipD_get hi
  rw [h1] at h2; cases h2
  exact ⟨a, List.mem_of_getElem? h1, rfl⟩
theorem like_seq (j : Nat) (l : List PyData) (b : PyData) (s : Nat) (hb : (b = .tuple l ∧ s = 4) ∨ (b = .list l ∧ s = 5)) (h : ∀ d ∈ l, LikeOk (j + 1) d) (hl : l.length ≤ lim) : LikeOk (j + 2) b := by
  unfold LikeOk
  rw [calls_one (d := d16) rfl]
  have hs : calls FT (j + 1) 15 none [b] = some (.val (I s), []) := by
    rcases hb with ⟨rfl, rfl⟩ | ⟨rfl, rfl⟩
    · exact sort_tup j l
    · exact sort_lst j l
  have hs5 : s ≤ 5 := by rcases hb with ⟨_, rfl⟩ | ⟨_, rfl⟩ <;> omega
  have hin : cmpD .isin (I s) (.tuple [I 4, I 5]) = some true := by
    rcases hb with ⟨_, rfl⟩ | ⟨_, rfl⟩
    · exact in4
    · exact in5
  have hz : gZip [b, b] = some (zipD l l) := by rcases hb with ⟨rfl, _⟩ | ⟨rfl, _⟩ <;> rfl
  have hlen : bltD .len [b] = some (.val (I l.length)) := by rcases hb with ⟨rfl, _⟩ | ⟨rfl, _⟩ <;> rfl
  have zl : (zipD l l).length ≤ lim := by rw [zipD_len]; omega
  have c : (ev (calls FT (j + 1)) c16_0).e [some (.val b), some (.val b), vI s, none, none] = some (.new [], [some (.val b), some (.val b), vI s, none, none]) := by
    unfold c16_0
    refine ev_lc (l := zipD l l) (ρ1 := [some (.val b), some (.val b), vI s, none, none]) (ρ2 := [some (.val b), some (.val b), vI s, none, none]) (o := none) (c_zip (r := .val b) (s := .val b) (ρ1 := [some (.val b), some (.val b), vI s, none, none]) (e_var rfl) (e_var rfl) hz) ?_ ?_
    · rw [decide_eq_true zl]; rfl
    · have := lcGo_exact (ρ := [some (.val b), some (.val b), vI s, none, none]) (tg := [3, 4]) (vs := [3, 4]) (ifs := allT (evts (calls FT (j + 1)) (.cons (.not (.call 16 none (.cons (.var 3) (.cons (.var 4) .nil)))) .nil))) (e := (ev (calls FT (j + 1)) (.con (.int 1))).e) (f := fun _ => none) (l := zipD l l) fun d hd => by
        obtain ⟨x, hx, rfl⟩ := zip_mem hd
        have hk := h x hx
        unfold LikeOk at hk
        refine ⟨[some (.val b), some (.val b), vI s, some (.val x), some (.val x)], rfl, .inl ⟨rfl, [some (.val b), some (.val b), vI s, some (.val x), some (.val x)], t_not (t := true) ?_, rfl⟩⟩
        walk_at "E"
      have e : (zipD l l).filterMap (fun _ => (none : Option PyData)) = [] := by
        induction zipD l l with
        | nil => rfl
        | cons a r ih => rw [List.filterMap_cons]; exact ih
      rw [e] at this
      exact this
  refine x_run (ρ := [some (.val b), some (.val b), vI s, none, none]) (ρ0 := [some (.val b), some (.val b), none, none, none]) rfl rfl ?_ rfl
  have cl : cmpD .eq (I l.length) (I l.length) = some true := by rw [eq_I, decide_eq_true rfl]
  refine pre_like hs hs hs5 (x_rt (g_ifT (ρ1 := [some (.val b), some (.val b), vI s, none, none]) (t_cmp (oa := .d (I s)) (ob := .d (.tuple [I 4, I 5])) (ρ1 := [some (.val b), some (.val b), vI s, none, none]) (o_var rfl) (o_v rfl (e_tup (f_v e_c4 (f_v e_c5 f_nil)) (v_cons r_d (v_cons r_d v_nil)) rfl)) rfl rfl hin) (x_rt (x_ret (e_andT (ρ1 := [some (.val b), some (.val b), vI s, none, none]) (e_cmp (oa := .d (I l.length)) (ob := .d (I l.length)) (ρ1 := [some (.val b), some (.val b), vI s, none, none]) (o_v rfl (e_blt (s_cons (o_var rfl) s_nil) (v_cons r_d v_nil) hlen)) (o_v rfl (e_blt (s_cons (o_var rfl) s_nil) (v_cons r_d v_nil) hlen)) rfl rfl cl) (e_cmp (oa := .d (.list [])) (ob := .d (.list [])) (ρ1 := [some (.val b), some (.val b), vI s, none, none]) (o_n (c16_0_o _) c) (o_n rfl (e_lst f_nil v_nil rfl)) rfl rfl nil_eq))))))
theorem like_I (j n : Nat) : LikeOk (j + 2) (I n) := like_int j n
theorem like_Li (j : Nat) (xs : List Nat) (h : xs.length ≤ 100) : LikeOk (j + 3) (.tuple (Li xs)) := like_seq (j + 1) (Li xs) _ 4 (.inl ⟨rfl, rfl⟩) (fun d hd => by
  obtain ⟨x, _, rfl⟩ := List.mem_map.mp hd
  exact like_I j x) (by rw [List.length_map]; show _ ≤ 16777216; omega)
end K30

namespace K30
open PySem PySem.W L2 Ev
/-- a call that lends lists and answers with a plain value -/
theorem e_callB {cf : CF} {ρ ρ1 : En} {es : Exs} {os : List Opd} {ds : List PyData} {f : Nat} {d : PyData} (h : seqO (evs cf es) ρ = some (os, ρ1)) (h1 : rsvs ρ1 os = some ds) (h4 : cf f none ds = some (.val d, [])) (hs : scalD d = true) : (ev cf (.call f none es)).e ρ = some (.val d, ρ1) := by
  show callE cf f none (evs cf es) ρ = _
  have ha : ((borsO 0 none os).all fun i => decide (((none : Option (Nat × Bool)).map (·.1)) ≠ some i)) = true := by
    rw [List.all_eq_true]; intro i _; simp
  have hs2 : (scalR (.val d) && ([] : List PyData).all scalD) = true := by
    show (scalD d && true) = true
    rw [hs]; rfl
  have hi : ioSlot ρ1 os none = some none := rfl
  simp only [callE, h, h1, hi, ha, h4, hs2, if_true]; rfl
theorem desc_get : ∀ {l : List Nat} {i a b : Nat}, Desc l → l[i]? = some a → l[i + 1]? = some b → b < a
  | a :: b :: r, 0, x, y, h, h1, h2 => by
    cases h1; cases h2; exact h.1
  | a :: b :: r, i + 1, x, y, h, h1, h2 => desc_get (l := b :: r) (i := i) h.2 (by simpa using h1) (by simpa using h2)
  | [a], 0, x, y, _, _, h2 => by simp at h2
  | [a], i + 1, x, y, _, h1, _ => by simp at h1
  | [], i, x, y, _, h1, _ => by simp at h1
theorem high_get : ∀ {l : List Nat} {s i a : Nat}, High s l → l[i]? = some a → s - i ≤ a
  | a :: r, s, 0, x, h, h1 => by cases h1; have := h.1; omega
  | a :: r, s, i + 1, x, h, h1 => by
    have := high_get (l := r) (s := s - 1) (i := i) h.2 (by simpa using h1)
    omega
  | [], s, i, x, _, h1 => by simp at h1
theorem cut1 (l : List PyData) : cutD l (some 1) none = l.drop 1 := by
  unfold cutD
  have e1 : HT.sIx l.length 0 (some 1) = min 1 l.length := HT.sIx_nat l.length 0 1
  have e2 : HT.sIx l.length l.length none = l.length := rfl
  rw [e1, e2]
  cases l with
  | nil => rfl
  | cons a r =>
    rw [show min 1 (a :: r).length = 1 by rw [List.length_cons]; omega]
    rw [List.take_of_length_le (by rw [List.length_drop]; exact Nat.le_refl _)]
theorem none_map (l : List PyData) : l.filterMap (fun _ => (none : Option PyData)) = [] := by
  induction l with
  | nil => rfl
  | cons a r ih => rw [List.filterMap_cons]; exact ih
theorem Li_get {xs : List Nat} {i : Nat} {d : PyData} (h : (Li xs)[i]? = some d) : ∃ a, xs[i]? = some a ∧ d = I a := by
  rw [List.getElem?_map] at h
  cases e : xs[i]? with
  | none => rw [e] at h; cases h
  | some a => rw [e] at h; cases h; exact ⟨a, rfl, rfl⟩
theorem right_ok (j n s : Nat) (h1 : 1 ≤ s) (h2 : s ≤ 12) (hn : n ≤ 1000000) : calls FT (j + 6) 19 none [I n, I s] = some (.val (.bool true), []) := by
  rw [calls_one (d := d19) rfl]
  have len := casc_len s n
  have hlen : (Li (casc s n)).length = (casc s n).length := List.length_map _
  have lenl : decide ((Li (casc s n)).length ≤ lim) = true := decide_eq_true (by rw [hlen]; show _ ≤ 16777216; omega)
  generalize hR : ([vI n, vI s, some (.val (.tuple (Li (casc s n)))), none, none, none, none] : En) = R
  have k8 := cascade_of_ok (j + 1) n s h1 h2 hn
  have kt := sort_tup (j + 4) (Li (casc s n))
  have m1 : ex (calls FT (j + 5)) (.asg 2 (.call 8 none (.cons (.var 0) (.cons (.var 1) .nil)))) [vI n, vI s, none, none, none, none, none] = some (SR.nx R) := by
    subst hR
    walk_at "E"
  -- all ints
  have q3 : (ev (calls FT (j + 5)) c19_3).e R = some (.new [], R) := by
    subst hR
    unfold c19_3
    refine ev_lc (l := Li (casc s n)) (ρ1 := [vI n, vI s, some (.val (.tuple (Li (casc s n)))), none, none, none, none]) (ρ2 := [vI n, vI s, some (.val (.tuple (Li (casc s n)))), none, none, none, none]) (o := none) (c_seqT (o_var rfl)) (by rw [lenl]; rfl) ?_
    have := lcGo_exact (ρ := [vI n, vI s, some (.val (.tuple (Li (casc s n)))), none, none, none, none]) (tg := [4]) (vs := [4]) (ifs := allT (evts (calls FT (j + 5)) (.cons (.cmp .ne (.call 15 none (.cons (.var 4) .nil)) (.con (.int 2))) .nil))) (e := (ev (calls FT (j + 5)) (.var 4)).e) (f := fun _ => none) (l := Li (casc s n)) fun d hd => by
      obtain ⟨x, _, rfl⟩ := List.mem_map.mp hd
      have kx := sort_int (j + 4) (x : Int)
      have kx : calls FT (j + 5) 15 none [I x] = some (.val (I 2), []) := kx
      have c1 : cmpD .ne (I 2) (I 2) = some false := by rw [ne_I, decide_eq_true rfl]; rfl
      refine ⟨[vI n, vI s, some (.val (.tuple (Li (casc s n)))), none, vI x, none, none], rfl, .inl ⟨rfl, [vI n, vI s, some (.val (.tuple (Li (casc s n)))), none, vI x, none, none], t_cmp (oa := .d (I 2)) (ob := .d (I 2)) (ρ1 := [vI n, vI s, some (.val (.tuple (Li (casc s n)))), none, vI x, none, none]) ?_ ?_ rfl rfl c1, rfl⟩⟩
      all_goals walk_at "E"
    rw [none_map] at this
    exact this
  -- descending
  have q2 : (ev (calls FT (j + 5)) c19_2).e R = some (.new [], R) := by
    subst hR
    unfold c19_2
    have sl : (ev (calls FT (j + 5)) (.slc (.var 2) (.cons (.con (.int 1)) .nil) .nil)).e [vI n, vI s, some (.val (.tuple (Li (casc s n)))), none, none, none, none] = some (.val (.tuple ((Li (casc s n)).drop 1)), [vI n, vI s, some (.val (.tuple (Li (casc s n)))), none, none, none, none]) :=
      e_slcA (n := 1) (oa := .d (.tuple (Li (casc s n)))) (d1 := .tuple (Li (casc s n))) (ρ1 := [vI n, vI s, some (.val (.tuple (Li (casc s n)))), none, none, none, none]) (o_var rfl) (o_v rfl e_con) rfl (by show some (Rs.val (.tuple (cutD _ _ _))) = _; rw [cut1])
    refine ev_lc (l := zipD (Li (casc s n)) ((Li (casc s n)).drop 1)) (ρ1 := [vI n, vI s, some (.val (.tuple (Li (casc s n)))), none, none, none, none]) (ρ2 := [vI n, vI s, some (.val (.tuple (Li (casc s n)))), none, none, none, none]) (o := none) (c_zip (r := .val (.tuple (Li (casc s n)))) (s := .val (.tuple ((Li (casc s n)).drop 1))) (ρ1 := [vI n, vI s, some (.val (.tuple (Li (casc s n)))), none, none, none, none]) (e_var rfl) sl rfl) ?_ ?_
    · have : decide ((zipD (Li (casc s n)) ((Li (casc s n)).drop 1)).length ≤ lim) = true := decide_eq_true (by rw [zipD_len, hlen]; show _ ≤ 16777216; omega)
      rw [this]; rfl
    · have := lcGo_exact (ρ := [vI n, vI s, some (.val (.tuple (Li (casc s n)))), none, none, none, none]) (tg := [4, 5]) (vs := [4, 5]) (ifs := allT (evts (calls FT (j + 5)) (.cons (.cmp .le (.var 4) (.var 5)) .nil))) (e := (ev (calls FT (j + 5)) (.con (.int 1))).e) (f := fun _ => none) (l := zipD (Li (casc s n)) ((Li (casc s n)).drop 1)) fun d hd => by
        obtain ⟨i, hi⟩ := List.mem_iff_getElem?.mp hd
        obtain ⟨x, y, hx, hy, rfl⟩ := zipD_get hi
        rw [List.getElem?_drop] at hy
        obtain ⟨x', hx', rfl⟩ := Li_get hx
        obtain ⟨y', hy', rfl⟩ := Li_get hy
        have lt := desc_get (casc_desc s n) hx' (by rw [Nat.add_comm]; exact hy')
        have c1 : cmpD .le (I x') (I y') = some false := by rw [le_I, decide_eq_false (by omega)]
        exact ⟨[vI n, vI s, some (.val (.tuple (Li (casc s n)))), none, vI x', vI y', none], rfl, .inl ⟨rfl, [vI n, vI s, some (.val (.tuple (Li (casc s n)))), none, vI x', vI y', none], t_cmp (oa := .d (I x')) (ob := .d (I y')) (ρ1 := [vI n, vI s, some (.val (.tuple (Li (casc s n)))), none, vI x', vI y', none]) (o_var rfl) (o_var rfl) rfl rfl c1, rfl⟩⟩
      rw [none_map] at this
      exact this
  have en : gEnm [.tuple (Li (casc s n))] = some (enmD 0 (Li (casc s n))) := rfl
  have enl : decide ((enmD 0 (Li (casc s n))).length ≤ lim) = true := by rw [enm_len]; exact lenl
  -- high enough
  have q1 : (ev (calls FT (j + 5)) c19_1).e R = some (.new [], R) := by
    subst hR
    unfold c19_1
    refine ev_lc (l := enmD 0 (Li (casc s n))) (ρ1 := [vI n, vI s, some (.val (.tuple (Li (casc s n)))), none, none, none, none]) (ρ2 := [vI n, vI s, some (.val (.tuple (Li (casc s n)))), none, none, none, none]) (o := none) (c_enm (r := .val (.tuple (Li (casc s n)))) (ρ1 := [vI n, vI s, some (.val (.tuple (Li (casc s n)))), none, none, none, none]) (e_var rfl) en) (by rw [enl]; rfl) ?_
    have := lcGo_exact (ρ := [vI n, vI s, some (.val (.tuple (Li (casc s n)))), none, none, none, none]) (tg := [6, 4]) (vs := [6, 4]) (ifs := allT (evts (calls FT (j + 5)) (.cons (.cmp .lt (.var 4) (.bin .sub (.var 1) (.var 6))) .nil))) (e := (ev (calls FT (j + 5)) (.con (.int 1))).e) (f := fun _ => none) (l := enmD 0 (Li (casc s n))) fun d hd => by
      obtain ⟨i, hi⟩ := List.mem_iff_getElem?.mp hd
      obtain ⟨x, hx, rfl⟩ := enm_get hi
      obtain ⟨a, ha, rfl⟩ := Li_get hx
      obtain ⟨his, _, _⟩ := row_at h1 hn hx
      have ge := high_get (casc_high s n) ha
      rw [Nat.zero_add]
      have c1 : cmpD .lt (I a) (I (s - i)) = some false := by rw [lt_I, decide_eq_false (by omega)]
      refine ⟨[vI n, vI s, some (.val (.tuple (Li (casc s n)))), none, vI a, none, vI i], rfl, .inl ⟨rfl, [vI n, vI s, some (.val (.tuple (Li (casc s n)))), none, vI a, none, vI i], t_cmp (oa := .d (I a)) (ob := .d (I (s - i))) (ρ1 := [vI n, vI s, some (.val (.tuple (Li (casc s n)))), none, vI a, none, vI i]) (o_var rfl) ?_ rfl rfl c1, rfl⟩⟩
      walk_at "E"
    rw [none_map] at this
    exact this
  -- the sum
  have q0 : (ev (calls FT (j + 5)) c19_0).e R = some (.new (Li ((List.range (casc s n).length).map fun i => C ((casc s n).getD i 0) (s - i))), R) := by
    subst hR
    unfold c19_0
    refine ev_lc (l := enmD 0 (Li (casc s n))) (ρ1 := [vI n, vI s, some (.val (.tuple (Li (casc s n)))), none, none, none, none]) (ρ2 := [vI n, vI s, some (.val (.tuple (Li (casc s n)))), none, none, none, none]) (o := none) (c_enm (r := .val (.tuple (Li (casc s n)))) (ρ1 := [vI n, vI s, some (.val (.tuple (Li (casc s n)))), none, none, none, none]) (e_var rfl) en) (by rw [enl]; rfl) ?_
    have := lcGo_at (ρ := [vI n, vI s, some (.val (.tuple (Li (casc s n)))), none, none, none, none]) (tg := [6, 4]) (vs := [6, 4]) (ifs := allT (evts (calls FT (j + 5)) .nil)) (e := (ev (calls FT (j + 5)) (.call 1 none (.cons (.var 4) (.cons (.bin .sub (.var 1) (.var 6)) .nil)))).e) (l := enmD 0 (Li (casc s n))) (fun i => I (C ((casc s n).getD i 0) (s - i))) fun i d hd => by
      obtain ⟨x, hx, rfl⟩ := enm_get hd
      obtain ⟨hi, rfl, ha⟩ := row_at h1 hn hx
      rw [Nat.zero_add]
      have ch := choose_ok (j + 4) ((casc s n).getD i 0) (s - i) (by omega) (by omega)
      refine ⟨[vI n, vI s, some (.val (.tuple (Li (casc s n)))), none, vI ((casc s n).getD i 0), none, vI i], .val (I (C ((casc s n).getD i 0) (s - i))), [vI n, vI s, some (.val (.tuple (Li (casc s n)))), none, vI ((casc s n).getD i 0), none, vI i], rfl, rfl, rfl, ?_, rfl⟩
      walk_at "E"
    rw [enm_len, hlen] at this
    rw [show Li ((List.range (casc s n).length).map fun i => C ((casc s n).getD i 0) (s - i)) = (List.range (casc s n).length).map (fun i => I (C ((casc s n).getD i 0) (s - i))) from by show List.map I (List.map _ _) = _; rw [List.map_map]; rfl]
    exact this
  have hsum : ((List.range (casc s n).length).map fun i => C ((casc s n).getD i 0) (s - i)).sum = n := by
    have := casc_sum s n h1
    rw [led_sum] at this
    refine Eq.trans ?_ this
    congr 1
  have c44 : cmpD .ne (I 4) (I 4) = some false := by rw [ne_I, decide_eq_true rfl]; rfl
  have cgt : cmpD .gt (I (casc s n).length) (I s) = some false := by rw [gt_I, decide_eq_false (by omega)]
  have blen : bltD .len [.tuple (Li (casc s n))] = some (.val (I (casc s n).length)) := by
    show some (Rs.val (.int (((Li (casc s n)).length : Nat) : Int))) = _
    rw [hlen]; rfl
  have csum : cmpD .ne (I n) (I n) = some false := by rw [ne_I, decide_eq_true rfl]; rfl
  have R2 : R[2]? = some (some (.val (.tuple (Li (casc s n))))) := by subst hR; rfl
  have R1 : R[1]? = some (vI s) := by subst hR; rfl
  have R0 : R[0]? = some (vI n) := by subst hR; rfl
  have tE : (opd (.lst .nil) (ev (calls FT (j + 5)) (.lst .nil)).e R) = some (.d (.list []), R) := o_n rfl (e_lst f_nil v_nil rfl)
  refine x_run (ρ := [vI n, vI s, some (.val (.tuple (Li (casc s n)))), some (.own false false [.tuple (Li (casc s n)), I (led 0 0 s (casc s n)), I (led 0 2 s (casc s n)), I (led 1 2 s (casc s n))]), none, none, none]) (ρ0 := [vI n, vI s, none, none, none, none, none]) rfl rfl ?_ rfl
  refine x_nx m1 (x_nx (ρ1 := R) (g_ifF (ρ1 := R) (t_orF (ρ1 := R) ?_ (t_orF (ρ1 := R) ?_ ?_)) xs_nil) (x_nx (ρ1 := R) (g_ifF (ρ1 := R) (t_orF (ρ1 := R) ?_ ?_) xs_nil) (x_nx (ρ1 := R) (g_ifF (ρ1 := R) ?_ xs_nil) ?_)))
  · exact t_cmp (oa := .d (I 4)) (ob := .d (I 4)) (ρ1 := R) (o_v rfl (e_callN (s_cons (o_var R2) s_nil) (v_cons r_d v_nil) rfl kt)) (o_v rfl e_c4) rfl rfl c44
  · exact t_cmp (oa := .d (.list [])) (ob := .d (.list [])) (ρ1 := R) (o_n (c19_3_o _) q3) tE rfl rfl nil_ne
  · exact t_cmp (oa := .d (I (casc s n).length)) (ob := .d (I s)) (ρ1 := R) (o_v rfl (e_blt (s_cons (o_var R2) s_nil) (v_cons r_d v_nil) blen)) (o_var R1) rfl rfl cgt
  · exact t_cmp (oa := .d (.list [])) (ob := .d (.list [])) (ρ1 := R) (o_n (c19_2_o _) q2) tE rfl rfl nil_ne
  · exact t_cmp (oa := .d (.list [])) (ob := .d (.list [])) (ρ1 := R) (o_n (c19_1_o _) q1) tE rfl rfl nil_ne
  · exact t_cmp (oa := .d (I n)) (ob := .d (I n)) (ρ1 := R) (o_v rfl (e_blt (s_cons (o_n (c19_0_o _) q0) s_nil) (v_cons r_d v_nil) (by rw [sum_I, hsum]))) (o_var R0) rfl rfl csum
  subst hR
  have um : ∀ a, 1 ≤ a → binD .add (I a) (.int (-1)) = some (.val (I (a + 0 - 1))) := fun a ha => addm_I ha
  have up : ∀ a, 1 ≤ a → binD .add (I a) (I 1) = some (.val (I (a + 2 - 1))) := fun a ha => add_I a 1
  have l0 := led_ok (j + 2) n s 0 0 (.int (-1)) h1 h2 hn (by omega) (by omega) um
  have l1 := led_ok (j + 2) n s 0 2 (I 1) h1 h2 hn (by omega) (by omega) up
  have l2 := led_ok (j + 2) n s 1 2 (I 1) h1 h2 hn (by omega) (by omega) up
  have kc := lcascade_ok (j + 3) n s h1 h2 hn
  have lf := least_faces_ok (j + 1) n s h1 h2 hn
  have ma := most_above_ok (j + 1) n s h1 h2 hn
  have mp := most_powers_ok (j + 1) n s h1 h2 hn
  have btup : bltD .tuple [.list (Li (casc s n))] = some (.val (.tuple (Li (casc s n)))) := rfl
  have lst4 : ∀ a b c d : PyData, lstG [a, b, c, d] = some (.new [a, b, c, d]) := fun a b c d => rfl
  have lk : LikeOk (j + 5) (.list [.tuple (Li (casc s n)), I (led 0 0 s (casc s n)), I (led 0 2 s (casc s n)), I (led 1 2 s (casc s n))]) := like_seq (j + 3) _ _ 5 (.inr ⟨rfl, rfl⟩) (fun d hd => by
    rcases List.mem_cons.mp hd with rfl | hd
    · exact like_Li (j + 1) _ (by omega)
    rcases List.mem_cons.mp hd with rfl | hd
    · exact like_I (j + 2) _
    rcases List.mem_cons.mp hd with rfl | hd
    · exact like_I (j + 2) _
    rcases List.mem_cons.mp hd with rfl | hd
    · exact like_I (j + 2) _
    exact absurd hd (by simp)) (by show 4 ≤ 16777216; omega)
  unfold LikeOk at lk
  refine x_nx (ρ1 := [vI n, vI s, some (.val (.tuple (Li (casc s n)))), some (.own false false [.tuple (Li (casc s n)), I (led 0 0 s (casc s n)), I (led 0 2 s (casc s n)), I (led 1 2 s (casc s n))]), none, none, none]) (g_asgN (l := [.tuple (Li (casc s n)), I (led 0 0 s (casc s n)), I (led 0 2 s (casc s n)), I (led 1 2 s (casc s n))]) (ρ1 := [vI n, vI s, some (.val (.tuple (Li (casc s n)))), none, none, none, none]) (e_lst (os := [.d (.tuple (Li (casc s n))), .d (I (led 0 0 s (casc s n))), .d (I (led 0 2 s (casc s n))), .d (I (led 1 2 s (casc s n)))]) ?_ (v_cons r_d (v_cons r_d (v_cons r_d (v_cons r_d v_nil)))) (lst4 _ _ _ _)) rfl) (x_rt (x_ret (e_callB (os := [.d (.list [.tuple (Li (casc s n)), I (led 0 0 s (casc s n)), I (led 0 2 s (casc s n)), I (led 1 2 s (casc s n))]), .bor 3]) (s_cons (o_n rfl (e_lst (os := [.d (.tuple (Li (casc s n))), .d (I (led 0 0 s (casc s n))), .d (I (led 0 2 s (casc s n))), .d (I (led 1 2 s (casc s n)))]) ?_ (v_cons r_d (v_cons r_d (v_cons r_d (v_cons r_d v_nil)))) (lst4 _ _ _ _))) (s_cons (o_own rfl) s_nil)) (v_cons r_d (v_cons (r_bor rfl) v_nil)) lk rfl)))
  all_goals walk_at "E"
end K30

namespace K30
open PySem PySem.W L2 Ev
theorem pow6 : binD .pow (I 10) (I 6) = some (.val (I 1000000)) := by
  simp only [binD, I]
  rw [if_pos (by decide)]; rfl
theorem e_pow6 {cf : CF} {ρ : En} : (ev cf (.bin .pow (.con (.int 10)) (.con (.int 6)))).e ρ = some (.val (I 1000000), ρ) := e_bin (o_v rfl e_c10) (o_v rfl e_c6) r_d r_d pow6
theorem grows_ok (j n s : Nat) (h1 : 1 ≤ s) (h2 : s ≤ 12) (hn : n + 1 ≤ 1000000) : calls FT (j + 5) 26 none [I n, I s] = some (.val (.bool true), []) := by
  rw [calls_one (d := d26) rfl]
  have a1 := least_faces_ok j n s h1 h2 (by omega)
  have a2 := most_above_ok j n s h1 h2 (by omega)
  have a3 := most_powers_ok j n s h1 h2 (by omega)
  have b1 := least_faces_ok j (n + 1) s h1 h2 hn
  have b2 := most_above_ok j (n + 1) s h1 h2 hn
  have b3 := most_powers_ok j (n + 1) s h1 h2 hn
  have m1 := led_mono 0 0 (by omega) s n (n + 1) h1 (by omega)
  have m2 := led_mono 0 2 (by omega) s n (n + 1) h1 (by omega)
  have m3 := led_mono 1 2 (by omega) s n (n + 1) h1 (by omega)
  have fa := faces_above s n h1
  generalize hR : ([vI n, vI s, vI (n + 1), none] : En) = R
  have R0 : R[0]? = some (vI n) := by subst hR; rfl
  have R1 : R[1]? = some (vI s) := by subst hR; rfl
  have R2 : R[2]? = some (vI (n + 1)) := by subst hR; rfl
  have q : ∀ (f : Nat) (x : PyData), calls FT (j + 4) f none [I n, I s] = some (.val x, []) → (ev (calls FT (j + 4)) (.call f none (.cons (.var 0) (.cons (.var 1) .nil)))).e R = some (.val x, R) := fun f x h => e_callN (s_cons (o_var R0) (s_cons (o_var R1) s_nil)) (v_cons r_d (v_cons r_d v_nil)) rfl h
  have q' : ∀ (f : Nat) (x : PyData), calls FT (j + 4) f none [I (n + 1), I s] = some (.val x, []) → (ev (calls FT (j + 4)) (.call f none (.cons (.var 2) (.cons (.var 1) .nil)))).e R = some (.val x, R) := fun f x h => e_callN (s_cons (o_var R2) (s_cons (o_var R1) s_nil)) (v_cons r_d (v_cons r_d v_nil)) rfl h
  have c1 : cmpD .lt (I (led 0 0 s (casc s (n + 1)))) (I (led 0 0 s (casc s n))) = some false := by rw [lt_I, decide_eq_false (by omega)]
  have c2 : cmpD .lt (I (led 0 2 s (casc s (n + 1)))) (I (led 0 2 s (casc s n))) = some false := by rw [lt_I, decide_eq_false (by omega)]
  have c3 : cmpD .le (I (led 1 2 s (casc s (n + 1)))) (.int ((led 1 2 s (casc s n) : Nat) - 1 : Int)) = some false := by
    show some (decide (((led 1 2 s (casc s (n + 1)) : Nat) : Int) ≤ ((led 1 2 s (casc s n) : Nat) : Int) - 1)) = _
    rw [decide_eq_false (by omega)]
  have sb : binD .sub (I (led 1 2 s (casc s n))) (I 1) = some (.val (.int ((led 1 2 s (casc s n) : Nat) - 1 : Int))) := rfl
  have st1 : ex (calls FT (j + 4)) (.asg 2 (.bin .add (.var 0) (.con (.int 1)))) [vI n, vI s, none, none] = some (SR.nx R) := by
    subst hR; walk_at "E"
  have t1 := t_cmp (oa := .d _) (ob := .d _) (o_v rfl (q' 10 _ b1)) (o_v rfl (q 10 _ a1)) r_d r_d c1
  have t2 := t_cmp (oa := .d _) (ob := .d _) (o_v rfl (q' 12 _ b2)) (o_v rfl (q 12 _ a2)) r_d r_d c2
  have t3 := t_cmp (oa := .d _) (ob := .d _) (o_v rfl (q' 14 _ b3)) (o_v rfl (e_bin (oa := .d _) (ob := .d _) (o_v rfl (q 14 _ a3)) (o_v rfl e_c1) r_d r_d sb)) r_d r_d c3
  have st3 : ex (calls FT (j + 4)) (.asg 3 (.call 12 none (.cons (.var 0) (.cons (.var 1) .nil)))) R = some (SR.nx [vI n, vI s, vI (n + 1), vI (led 0 2 s (casc s n))]) := g_asgV (q 12 _ a2) (by subst hR; rfl)
  refine x_run (ρ := [vI n, vI s, vI (n + 1), vI (led 0 2 s (casc s n))]) (ρ0 := [vI n, vI s, none, none]) rfl rfl ?_ rfl
  refine x_nx st1 (x_nx (ρ1 := R) (g_ifF (t_orF t1 (t_orF t2 t3)) xs_nil) (x_nx st3 ?_))
  by_cases k : 11 < s
  · have cg : cmpD .gt (I s) (I 11) = some true := by rw [gt_I, decide_eq_true k]
    exact x_rt (g_ifT (t_orT (t_cmp (oa := .d _) (ob := .d _) (o_var rfl) (o_v rfl e_c11) r_d r_d cg)) (x_rt (x_ret e_con)))
  have cg : cmpD .gt (I s) (I 11) = some false := by rw [gt_I, decide_eq_false k]
  have tg := t_cmp (cf := calls FT (j + 4)) (ρ := [vI n, vI s, vI (n + 1), vI (led 0 2 s (casc s n))]) (a := .var 1) (b := .con (.int 11)) (oa := .d _) (ob := .d _) (o_var rfl) (o_v rfl e_c11) r_d r_d cg
  by_cases k2 : 1000000 < led 0 2 s (casc s n)
  · have ch : cmpD .gt (I (led 0 2 s (casc s n))) (I 1000000) = some true := by rw [gt_I, decide_eq_true k2]
    exact x_rt (g_ifT (t_orF tg (t_cmp (oa := .d _) (ob := .d _) (o_var rfl) (o_v rfl e_pow6) r_d r_d ch)) (x_rt (x_ret e_con)))
  have ch : cmpD .gt (I (led 0 2 s (casc s n))) (I 1000000) = some false := by rw [gt_I, decide_eq_false k2]
  have lf := least_faces_ok j (led 0 2 s (casc s n)) (s + 1) (by omega) (by omega) (by omega)
  have cl : cmpD .le (I (led 0 0 (s + 1) (casc (s + 1) (led 0 2 s (casc s n))))) (I n) = some true := by rw [le_I, decide_eq_true fa]
  refine x_nx (g_ifF (t_orF tg (t_cmp (oa := .d _) (ob := .d _) (o_var rfl) (o_v rfl e_pow6) r_d r_d ch)) xs_nil) (x_rt (x_ret (e_cmp (oa := .d _) (ob := .d _) (o_v rfl (e_callN (s_cons (o_var rfl) (s_cons (o_v rfl (e_bin (oa := .d _) (ob := .d _) (o_var rfl) (o_v rfl e_c1) r_d r_d (add_I _ _))) s_nil)) (v_cons r_d (v_cons r_d v_nil)) rfl lf)) (o_var rfl) r_d r_d cl)))
/-! the cup -/
theorem roll_ok (j a b m : Int) (k : Nat) (hm : 0 < m) (hm2 : m < 1073741824) : ∃ r c d, 0 ≤ r ∧ r < m ∧ calls FT (k + 1) 2 (some 0) [.list [.int a, .int b], .int m] = some (.val (.int r), [.int c, .int d]) := by
  obtain ⟨r, c, d, h1, h2, h3⟩ := roll_raw (calls FT k) a b m hm hm2
  exact ⟨r, c, d, h1, h2, by rw [calls_one (d := d2) rfl]; exact h3⟩
theorem roll_N (k m : Nat) (a b : Int) (hm : 0 < m) (hm2 : m ≤ 1000000) : ∃ (r : Nat) (c d : Int), r < m ∧ calls FT (k + 1) 2 (some 0) [.list [.int a, .int b], I m] = some (.val (I r), [.int c, .int d]) := by
  obtain ⟨r, c, d, h1, h2, h3⟩ := roll_ok 0 a b (m : Int) k (by omega) (by omega)
  refine ⟨r.toNat, c, d, by omega, ?_⟩
  rw [show I r.toNat = .int r by show PyData.int ((r.toNat : Nat) : Int) = _; rw [Int.toNat_of_nonneg h1]]
  exact h3
end K30

namespace K30
open PySem PySem.W L2 Ev
abbrev Cp (f : Bool) (a b : Int) : Option Cl := some (.own f false [.int a, .int b])
/-- the cup is asked: a call whose cup stands in slot i -/
theorem e_roll {k i m : Nat} {f : Bool} {a b c d : Int} {r : Nat} {ρ ρ1 ρ2 : En} {e : Ex} (he : opd e (ev (calls FT (k + 1)) e).e ρ = some (.d (I m), ρ1)) (h0 : ρ[i]? = some (Cp f a b)) (h : ρ1[i]? = some (Cp f c d)) {c' d' : Int} (hr : calls FT (k + 1) 2 (some 0) [.list [.int c, .int d], I m] = some (.val (I r), [.int c', .int d'])) (h2 : ρ1.set i (Cp f c' d') = ρ2) : (ev (calls FT (k + 1)) (.call 2 (some 0) (.cons (.var i) (.cons e .nil)))).e ρ = some (.val (I r), ρ2) := by
  refine e_callS (os := [.bor i, .d (I m)]) (g := f) (i := i) (s_cons (o_own h0) (s_cons he s_nil)) (v_cons (r_bor h) (v_cons r_d v_nil)) ?_ rfl hr h2
  show (match ρ1[i]? with | some (some (.own f false _)) => some (some (i, f)) | _ => none) = _
  rw [h]
theorem some_ok (k : Nat) (a b : Int) : ∃ (v : Nat) (c d : Int), 1 ≤ v ∧ v ≤ 1000000 ∧ calls FT (k + 2) 25 (some 0) [.list [.int a, .int b], .list [I 10, I 100, I 1000000]] = some (.val (I v), [.int c, .int d]) := by
  obtain ⟨r, c, d, hr, h⟩ := roll_N k 3 a b (by omega) (by omega)
  rw [calls_one (d := d25) rfl]
  have hx : ∃ v : Nat, 1 ≤ v ∧ v ≤ 1000000 ∧ idxD (.list [I 10, I 100, I 1000000]) (I r) = some (I v) := by
    have : r = 0 ∨ r = 1 ∨ r = 2 := by omega
    rcases this with rfl | rfl | rfl
    · exact ⟨10, by omega, by omega, rfl⟩
    · exact ⟨100, by omega, by omega, rfl⟩
    · exact ⟨1000000, by omega, by omega, rfl⟩
  obtain ⟨v, v1, v2, hx⟩ := hx
  refine ⟨v, c, d, v1, v2, ?_⟩
  have hl : bltD .len [.list [I 10, I 100, I 1000000]] = some (.val (I 3)) := rfl
  refine x_run (ρ := [Cp true c d, some (.val (.list [I 10, I 100, I 1000000]))]) (ρ0 := [Cp true a b, some (.val (.list [I 10, I 100, I 1000000]))]) rfl rfl ?_ rfl
  exact x_rt (x_ret (e_idx (oa := .d _) (ob := .d _) (o_var rfl) (o_v rfl (e_roll (m := 3) (ρ1 := [Cp true a b, some (.val (.list [I 10, I 100, I 1000000]))]) (o_v rfl (e_blt (s_cons (o_var rfl) s_nil) (v_cons r_d v_nil) hl)) rfl rfl h rfl)) r_d r_d hx))
theorem led1 (m u s t : Nat) : led m u s [t] = C (t + m) (s + u - 1) := rfl
theorem C_small : ∀ n k : Nat, C n k ≤ 2 ^ n
  | n, 0 => by rw [C_zero]; exact Nat.one_le_two_pow
  | 0, k + 1 => Nat.zero_le _
  | n + 1, k + 1 => by
    have a := C_small n k
    have b := C_small n (k + 1)
    rw [C_succ, Nat.pow_succ]; omega
theorem great_ok (j : Nat) (a b : Int) : ∃ c d : Int, calls FT (j + 7) 20 (some 0) [.list [.int a, .int b]] = some (.val (.bool true), [.int c, .int d]) := by
  obtain ⟨r1, a1, b1, hr1, h1⟩ := roll_N (j + 5) 12 a b (by omega) (by omega)
  obtain ⟨r2, a2, b2, hr2, h2⟩ := roll_N (j + 5) 6 a1 b1 (by omega) (by omega)
  rw [calls_one (d := d20) rfl]
  obtain ⟨s, hs⟩ : ∃ s, s = 1 + r1 := ⟨_, rfl⟩
  obtain ⟨t, ht⟩ : ∃ t, t = s + r2 := ⟨_, rfl⟩
  have s1 : 1 ≤ s := by omega
  have s2 : s ≤ 12 := by omega
  have t1 : s ≤ t := by omega
  have t2 : t ≤ 17 := by omega
  have ch := choose_ok (j + 5) t s (by omega) (by omega)
  refine ⟨a2, b2, ?_⟩
  have st1 : ex (calls FT (j + 6)) (.asg 1 (.bin .add (.con (.int 1)) (.call 2 (some 0) (.cons (.var 0) (.cons (.con (.int 12)) .nil))))) [Cp true a b, none, none, none, none, none, none, none] = some (SR.nx [Cp true a1 b1, vI s, none, none, none, none, none, none]) := by
    subst hs
    exact g_asgV (ρ1 := [Cp true a1 b1, none, none, none, none, none, none, none]) (e_bin (oa := .d _) (ob := .d _) (o_v rfl e_c1) (o_v rfl (e_roll (m := 12) (ρ1 := [Cp true a b, none, none, none, none, none, none, none]) (o_v rfl e_c12) rfl rfl h1 rfl)) r_d r_d (add_I _ _)) rfl
  have st2 : ex (calls FT (j + 6)) (.asg 2 (.bin .add (.var 1) (.call 2 (some 0) (.cons (.var 0) (.cons (.con (.int 6)) .nil))))) [Cp true a1 b1, vI s, none, none, none, none, none, none] = some (SR.nx [Cp true a2 b2, vI s, vI t, none, none, none, none, none]) := by
    subst ht
    exact g_asgV (ρ1 := [Cp true a2 b2, vI s, none, none, none, none, none, none]) (e_bin (oa := .d _) (ob := .d _) (o_var rfl) (o_v rfl (e_roll (m := 6) (ρ1 := [Cp true a1 b1, vI s, none, none, none, none, none, none]) (o_v rfl e_c6) rfl rfl h2 rfl)) r_d r_d (add_I _ _)) rfl
  have st3 : ex (calls FT (j + 6)) (.asg 3 (.call 1 none (.cons (.var 2) (.cons (.var 1) .nil)))) [Cp true a2 b2, vI s, vI t, none, none, none, none, none] = some (SR.nx [Cp true a2 b2, vI s, vI t, vI (C t s), none, none, none, none]) := by
    walk_at "E"
  clear hs ht h1 h2 hr1 hr2
  by_cases big : 1000000 < C t s
  · have cb : cmpD .gt (I (C t s)) (I 1000000) = some true := by rw [gt_I, decide_eq_true big]
    refine x_run (ρ := [Cp true a2 b2, vI s, vI t, vI (C t s), none, none, none, none]) (ρ0 := [Cp true a b, none, none, none, none, none, none, none]) rfl rfl ?_ rfl
    exact x_nx st1 (x_nx st2 (x_nx st3 (x_rt (g_ifT (t_cmp (oa := .d _) (ob := .d _) (o_var rfl) (o_v rfl e_pow6) r_d r_d cb) (x_rt (x_ret e_con))))))
  have cb : cmpD .gt (I (C t s)) (I 1000000) = some false := by rw [gt_I, decide_eq_false big]
  have w : C t s ≤ 1000000 := by omega
  have p := C_pos (n := t) (k := s) t1
  have k1 := cascade_of_ok (j + 2) (C t s) s s1 s2 w
  have k2 := least_faces_ok (j + 2) (C t s) s s1 s2 w
  have k3 := most_above_ok (j + 2) (C t s) s s1 s2 w
  have k4 := most_powers_ok (j + 2) (C t s) s s1 s2 w
  have k5 := cascade_of_ok (j + 2) 0 s s1 s2 (by omega)
  have k6 := most_powers_ok (j + 2) 0 s s1 s2 (by omega)
  rw [casc_full s1 t1] at k1 k2 k3 k4
  rw [casc_zero] at k5 k6
  have e1 : led 0 0 s [t] = C t (s - 1) := rfl
  have e2 : led 0 2 s [t] = C t (s + 1) := rfl
  have e3 : led 1 2 s [t] = C (t + 1) (s + 1) := rfl
  have e4 : led 1 2 s [] = 0 := by cases s <;> rfl
  rw [e1] at k2
  rw [e2] at k3
  rw [e3] at k4
  rw [e4] at k6
  have g1 := choose_ok (j + 5) t (s - 1) (by omega) (by omega)
  have g2 := choose_ok (j + 5) t (s + 1) (by omega) (by omega)
  have g3 := choose_ok (j + 5) (t + 1) (s + 1) (by omega) (by omega)
  obtain ⟨L, hL⟩ : ∃ L : List PyData, L = [.tuple [I t], I (C t (s - 1)), I (C t (s + 1)), I (C (t + 1) (s + 1)), .tuple [], I 0] := ⟨_, rfl⟩
  have lk : LikeOk (j + 6) (.list L) := by
    refine like_seq (j + 4) L _ 5 (.inr ⟨rfl, rfl⟩) (fun d hd => ?_) (by subst hL; show 6 ≤ 16777216; omega)
    subst hL
    rcases List.mem_cons.mp hd with rfl | hd
    · exact like_Li (j + 2) [t] (by show 1 ≤ 100; omega)
    rcases List.mem_cons.mp hd with rfl | hd
    · exact like_I (j + 3) _
    rcases List.mem_cons.mp hd with rfl | hd
    · exact like_I (j + 3) _
    rcases List.mem_cons.mp hd with rfl | hd
    · exact like_I (j + 3) _
    rcases List.mem_cons.mp hd with rfl | hd
    · exact like_Li (j + 2) [] (by show 0 ≤ 100; omega)
    rcases List.mem_cons.mp hd with rfl | hd
    · exact like_I (j + 3) _
    exact absurd hd (by simp)
  unfold LikeOk at lk
  have st4 : ex (calls FT (j + 6)) (.asg 4 (.lst (.cons (.call 8 none (.cons (.var 3) (.cons (.var 1) .nil))) (.cons (.call 10 none (.cons (.var 3) (.cons (.var 1) .nil))) (.cons (.call 12 none (.cons (.var 3) (.cons (.var 1) .nil))) (.cons (.call 14 none (.cons (.var 3) (.cons (.var 1) .nil))) (.cons (.call 8 none (.cons (.con (.int 0)) (.cons (.var 1) .nil))) (.cons (.call 14 none (.cons (.con (.int 0)) (.cons (.var 1) .nil))) .nil)))))))) [Cp true a2 b2, vI s, vI t, vI (C t s), none, none, none, none] = some (SR.nx [Cp true a2 b2, vI s, vI t, vI (C t s), some (.own false false L), none, none, none]) := by
    subst hL
    refine g_asgN (ρ1 := [Cp true a2 b2, vI s, vI t, vI (C t s), none, none, none, none]) (e_lst (os := [.d (.tuple [I t]), .d (I (C t (s - 1))), .d (I (C t (s + 1))), .d (I (C (t + 1) (s + 1))), .d (.tuple []), .d (I 0)]) ?_ (v_cons r_d (v_cons r_d (v_cons r_d (v_cons r_d (v_cons r_d (v_cons r_d v_nil)))))) rfl) rfl
    have k1 : calls FT (j + 6) 8 none [I (C t s), I s] = some (.val (.tuple [I t]), []) := k1
    have k5 : calls FT (j + 6) 8 none [I 0, I s] = some (.val (.tuple []), []) := k5
    walk_at "E"
  have st5 : ex (calls FT (j + 6)) (.asg 5 (.lst (.cons (.tup (.cons (.var 2) .nil)) (.cons (.call 1 none (.cons (.var 2) (.cons (.bin .sub (.var 1) (.con (.int 1))) .nil))) (.cons (.call 1 none (.cons (.var 2) (.cons (.bin .add (.var 1) (.con (.int 1))) .nil))) (.cons (.call 1 none (.cons (.bin .add (.var 2) (.con (.int 1))) (.cons (.bin .add (.var 1) (.con (.int 1))) .nil))) (.cons (.tup .nil) (.cons (.con (.int 0)) .nil)))))))) [Cp true a2 b2, vI s, vI t, vI (C t s), some (.own false false L), none, none, none] = some (SR.nx [Cp true a2 b2, vI s, vI t, vI (C t s), some (.own false false L), some (.own false false L), none, none]) := by
    refine g_asgN (l := L) (ρ1 := [Cp true a2 b2, vI s, vI t, vI (C t s), some (.own false false L), none, none, none]) (e_lst (os := [.d (.tuple [I t]), .d (I (C t (s - 1))), .d (I (C t (s + 1))), .d (I (C (t + 1) (s + 1))), .d (.tuple []), .d (I 0)]) ?_ (v_cons r_d (v_cons r_d (v_cons r_d (v_cons r_d (v_cons r_d (v_cons r_d v_nil)))))) (by subst hL; rfl)) rfl
    refine f_v (e_tup (f_v (e_var rfl) f_nil) (v_cons r_d v_nil) rfl) (f_v (ρ1 := [Cp true a2 b2, vI s, vI t, vI (C t s), some (.own false false L), none, none, none]) ?_ (f_v (ρ1 := [Cp true a2 b2, vI s, vI t, vI (C t s), some (.own false false L), none, none, none]) ?_ (f_v (ρ1 := [Cp true a2 b2, vI s, vI t, vI (C t s), some (.own false false L), none, none, none]) ?_ (f_v (e_tup f_nil v_nil rfl) (f_v e_c0 f_nil)))))
    all_goals walk_at "E"
  have st6 : (ev (calls FT (j + 6)) (.not (.call 16 none (.cons (.var 4) (.cons (.var 5) .nil))))).t [Cp true a2 b2, vI s, vI t, vI (C t s), some (.own false false L), some (.own false false L), none, none] = some (false, [Cp true a2 b2, vI s, vI t, vI (C t s), some (.own false false L), some (.own false false L), none, none]) :=
    t_not (t := true) (t_e rfl (e_callB (os := [.bor 4, .bor 5]) (s_cons (o_own rfl) (s_cons (o_own rfl) s_nil)) (v_cons (r_bor rfl) (v_cons (r_bor rfl) v_nil)) lk rfl) rfl)
  obtain ⟨fl, hfl⟩ : ∃ fl, fl = casc s (C t s - 1) := ⟨_, rfl⟩
  have fll : fl.length ≤ s := by subst hfl; exact casc_len _ _
  have kf := cascade_of_ok (j + 2) (C t s - 1) s s1 s2 (by omega)
  rw [← hfl] at kf
  have st7 : ex (calls FT (j + 6)) (.asg 6 (.ite (.cmp .gt (.var 2) (.var 1)) (.blt .tuple (.cons c20_0 .nil)) (.tup .nil))) [Cp true a2 b2, vI s, vI t, vI (C t s), some (.own false false L), some (.own false false L), none, none] = some (SR.nx [Cp true a2 b2, vI s, vI t, vI (C t s), some (.own false false L), some (.own false false L), some (.val (.tuple (Li fl))), none]) := by
    by_cases hst : s < t
    · have c : cmpD .gt (I t) (I s) = some true := by rw [gt_I, decide_eq_true hst]
      have ef : fl = fall s t := by rw [hfl, casc_fall s t hst]
      have q : (ev (calls FT (j + 6)) c20_0).e [Cp true a2 b2, vI s, vI t, vI (C t s), some (.own false false L), some (.own false false L), none, none] = some (.new (Li fl), [Cp true a2 b2, vI s, vI t, vI (C t s), some (.own false false L), some (.own false false L), none, none]) := by
        unfold c20_0
        refine ev_lc (l := rngD 0 (s : Int)) (ρ1 := [Cp true a2 b2, vI s, vI t, vI (C t s), some (.own false false L), some (.own false false L), none, none]) (ρ2 := [Cp true a2 b2, vI s, vI t, vI (C t s), some (.own false false L), some (.own false false L), none, none]) (o := none) (c_rngV (e_var rfl) (rng_I (by omega))) ?_ ?_
        · rw [rng_len, decide_eq_true (show s ≤ lim by show s ≤ 16777216; omega)]; rfl
        · have := lcGo_at (ρ := [Cp true a2 b2, vI s, vI t, vI (C t s), some (.own false false L), some (.own false false L), none, none]) (tg := [7]) (vs := [7]) (ifs := allT (evts (calls FT (j + 6)) .nil)) (e := (ev (calls FT (j + 6)) (.bin .sub (.bin .sub (.var 2) (.con (.int 1))) (.var 7))).e) (l := rngD 0 (s : Int)) (fun i => I (t - 1 - i)) fun i d hd => by
            obtain ⟨hi, rfl⟩ := rng_get hd
            refine ⟨[Cp true a2 b2, vI s, vI t, vI (C t s), some (.own false false L), some (.own false false L), none, vI i], .val (I (t - 1 - i)), [Cp true a2 b2, vI s, vI t, vI (C t s), some (.own false false L), some (.own false false L), none, vI i], rfl, rfl, rfl, ?_, rfl⟩
            walk_at "E"
          rw [rng_len] at this
          rw [show Li fl = (List.range s).map (fun i => I (t - 1 - i)) from by rw [ef, fall_map]; show List.map I (List.map _ _) = _; rw [List.map_map]; rfl]
          exact this
      exact g_asgV (e_iteT (t_cmp (oa := .d _) (ob := .d _) (o_var rfl) (o_var rfl) r_d r_d c) (e_blt (ds := [.list (Li fl)]) (s_cons (o_n (c20_0_o _) q) s_nil) (v_cons r_d v_nil) rfl)) rfl
    · have e : t = s := by omega
      have c : cmpD .gt (I t) (I s) = some false := by rw [gt_I, decide_eq_false hst]
      have ef : fl = [] := by rw [hfl, e, C_self]; exact casc_zero s
      rw [ef]
      exact g_asgV (e_iteF (t_cmp (oa := .d _) (ob := .d _) (o_var rfl) (o_var rfl) r_d r_d c) (e_tup f_nil v_nil rfl)) rfl
  have lf : LikeOk (j + 6) (.tuple (Li fl)) := like_Li (j + 3) fl (by omega)
  unfold LikeOk at lf
  have r1 := right_ok j 1000000 s s1 s2 (by omega)
  have r2 := right_ok j 1000000 1 (by omega) (by omega) (by omega)
  refine x_run (ρ := [Cp true a2 b2, vI s, vI t, vI (C t s), some (.own false false L), some (.own false false L), some (.val (.tuple (Li fl))), none]) (ρ0 := [Cp true a b, none, none, none, none, none, none, none]) rfl rfl ?_ rfl
  refine x_nx st1 (x_nx st2 (x_nx st3 (x_nx (g_ifF (t_cmp (oa := .d _) (ob := .d _) (o_var rfl) (o_v rfl e_pow6) r_d r_d cb) xs_nil) (x_nx st4 (x_nx st5 (x_nx (g_ifF st6 xs_nil) (x_nx st7 (x_rt (x_ret (e_andT (ρ1 := [Cp true a2 b2, vI s, vI t, vI (C t s), some (.own false false L), some (.own false false L), some (.val (.tuple (Li fl))), none]) ?_ (e_andT (ρ1 := [Cp true a2 b2, vI s, vI t, vI (C t s), some (.own false false L), some (.own false false L), some (.val (.tuple (Li fl))), none]) ?_ ?_)))))))))))
  · refine e_callN (s_cons (o_v rfl (e_callN (s_cons (o_v rfl (e_bin (oa := .d _) (ob := .d _) (o_var rfl) (o_v rfl e_c1) r_d r_d (sub_I p))) (s_cons (o_var rfl) s_nil)) (v_cons r_d (v_cons r_d v_nil)) rfl kf)) (s_cons (o_var rfl) s_nil)) (v_cons r_d (v_cons r_d v_nil)) rfl lf
  · exact e_callN (s_cons (o_v rfl e_pow6) (s_cons (o_var rfl) s_nil)) (v_cons r_d (v_cons r_d v_nil)) rfl r1
  · exact e_callN (s_cons (o_v rfl e_pow6) (s_cons (o_v rfl e_c1) s_nil)) (v_cons r_d (v_cons r_d v_nil)) rfl r2
end K30

namespace K30
open PySem PySem.W L2 Ev
theorem law_loop (j : Nat) (S : Option Cl) : ∀ (l : List PyData) (a b : Int) (x y z : Option Cl), Mid x → Mid y → Mid z → ∃ (c d : Int) (x' y' z' : Option Cl), Mid x' ∧ Mid y' ∧ Mid z' ∧
    frGo [2] (exs (calls FT (j + 7)) (.cons (.par 3 4 (.call 2 (some 0) (.cons (.var 1) (.cons (.call 25 (some 0) (.cons (.var 1) (.cons (.lst (.cons (.con (.int 10)) (.cons (.con (.int 100)) (.cons (.bin .pow (.con (.int 10)) (.con (.int 6))) .nil)))) .nil))) .nil))) (.bin .add (.con (.int 1)) (.call 2 (some 0) (.cons (.var 1) (.cons (.con (.int 12)) .nil))))) (.cons (.ife (.or (.not (.call 19 none (.cons (.var 3) (.cons (.var 4) .nil)))) (.not (.call 26 none (.cons (.var 3) (.cons (.var 4) .nil))))) (.cons (.ret (.con (.bool false))) .nil) .nil) .nil))) l [S, Cp false a b, x, y, z] = some (SR.nx [S, Cp false c d, x', y', z'])
  | [], a, b, x, y, z, hx, hy, hz => ⟨a, b, x, y, z, hx, hy, hz, rfl⟩
  | e :: l, a, b, x, y, z, hx, hy, hz => by
    obtain ⟨v, a1, b1, v1, v2, h1⟩ := some_ok (j + 5) a b
    obtain ⟨n, a2, b2, hn, h2⟩ := roll_N (j + 6) v a1 b1 (by omega) v2
    obtain ⟨r, a3, b3, hr, h3⟩ := roll_N (j + 6) 12 a2 b2 (by omega) (by omega)
    obtain ⟨c, d, x', y', z', hx', hy', hz', ih⟩ := law_loop j S l a3 b3 (some (.val e)) (vI n) (vI (1 + r)) (.inr ⟨_, rfl⟩) (.inr ⟨_, rfl⟩) (.inr ⟨_, rfl⟩)
    refine ⟨c, d, x', y', z', hx', hy', hz', ?_⟩
    have bt : bindT [2] e [S, Cp false a b, x, y, z] = some [S, Cp false a b, some (.val e), y, z] := by rcases hx with rfl | ⟨q, rfl⟩ <;> rfl
    have th : (opd (.lst (.cons (.con (.int 10)) (.cons (.con (.int 100)) (.cons (.bin .pow (.con (.int 10)) (.con (.int 6))) .nil)))) (ev (calls FT (j + 7)) (.lst (.cons (.con (.int 10)) (.cons (.con (.int 100)) (.cons (.bin .pow (.con (.int 10)) (.con (.int 6))) .nil))))).e [S, Cp false a b, some (.val e), y, z]) = some (.d (.list [I 10, I 100, I 1000000]), [S, Cp false a b, some (.val e), y, z]) :=
      o_n rfl (e_lst (f_v e_c10 (f_v e_c100 (f_v e_pow6 f_nil))) (v_cons r_d (v_cons r_d (v_cons r_d v_nil))) rfl)
    have q1 : (ev (calls FT (j + 7)) (.call 25 (some 0) (.cons (.var 1) (.cons (.lst (.cons (.con (.int 10)) (.cons (.con (.int 100)) (.cons (.bin .pow (.con (.int 10)) (.con (.int 6))) .nil)))) .nil)))).e [S, Cp false a b, some (.val e), y, z] = some (.val (I v), [S, Cp false a1 b1, some (.val e), y, z]) :=
      e_callS (os := [.bor 1, .d (.list [I 10, I 100, I 1000000])]) (g := false) (i := 1) (s_cons (o_own rfl) (s_cons th s_nil)) (v_cons (r_bor rfl) (v_cons r_d v_nil)) rfl rfl h1 rfl
    have st : ex (calls FT (j + 7)) (.par 3 4 (.call 2 (some 0) (.cons (.var 1) (.cons (.call 25 (some 0) (.cons (.var 1) (.cons (.lst (.cons (.con (.int 10)) (.cons (.con (.int 100)) (.cons (.bin .pow (.con (.int 10)) (.con (.int 6))) .nil)))) .nil))) .nil))) (.bin .add (.con (.int 1)) (.call 2 (some 0) (.cons (.var 1) (.cons (.con (.int 12)) .nil))))) [S, Cp false a b, some (.val e), y, z] = some (SR.nx [S, Cp false a3 b3, some (.val e), vI n, vI (1 + r)]) := by
      have p1 : (ev (calls FT (j + 7)) (.call 2 (some 0) (.cons (.var 1) (.cons (.call 25 (some 0) (.cons (.var 1) (.cons (.lst (.cons (.con (.int 10)) (.cons (.con (.int 100)) (.cons (.bin .pow (.con (.int 10)) (.con (.int 6))) .nil)))) .nil))) .nil)))).e [S, Cp false a b, some (.val e), y, z] = some (.val (I n), [S, Cp false a2 b2, some (.val e), y, z]) := e_roll (k := j + 6) (m := v) (ρ1 := [S, Cp false a1 b1, some (.val e), y, z]) (o_v rfl q1) rfl rfl h2 rfl
      have p2 : (ev (calls FT (j + 7)) (.bin .add (.con (.int 1)) (.call 2 (some 0) (.cons (.var 1) (.cons (.con (.int 12)) .nil))))).e [S, Cp false a2 b2, some (.val e), y, z] = some (.val (I (1 + r)), [S, Cp false a3 b3, some (.val e), y, z]) := e_bin (oa := .d _) (ob := .d _) (o_v rfl e_c1) (o_v rfl (e_roll (k := j + 6) (m := 12) (ρ1 := [S, Cp false a2 b2, some (.val e), y, z]) (o_v rfl e_c12) rfl rfl h3 rfl)) r_d r_d (add_I _ _)
      refine g_parV (ρ3 := [S, Cp false a3 b3, some (.val e), vI n, z]) p1 p2 ?_ ?_
      · rcases hy with rfl | ⟨q, rfl⟩ <;> rfl
      · rcases hz with rfl | ⟨q, rfl⟩ <;> rfl
    have k1 := right_ok (j + 1) n (1 + r) (by omega) (by omega) (by omega)
    have k2 := grows_ok (j + 2) n (1 + r) (by omega) (by omega) (by omega)
    have tt : (ev (calls FT (j + 7)) (.or (.not (.call 19 none (.cons (.var 3) (.cons (.var 4) .nil)))) (.not (.call 26 none (.cons (.var 3) (.cons (.var 4) .nil)))))).t [S, Cp false a3 b3, some (.val e), vI n, vI (1 + r)] = some (false, [S, Cp false a3 b3, some (.val e), vI n, vI (1 + r)]) :=
      t_orF (t_not (t := true) (t_callN (s_cons (o_var rfl) (s_cons (o_var rfl) s_nil)) (v_cons r_d (v_cons r_d v_nil)) rfl k1)) (t_not (t := true) (t_callN (s_cons (o_var rfl) (s_cons (o_var rfl) s_nil)) (v_cons r_d (v_cons r_d v_nil)) rfl k2))
    have go : ∀ (ma : EvM) (ρ ρ1 ρ2 : En) (y : Option SR), bindT [2] e ρ = some ρ1 → ma ρ1 = some (.nx ρ2) → frGo [2] ma l ρ2 = y → frGo [2] ma (e :: l) ρ = y := fun ma ρ ρ1 ρ2 y h1 h2 h3 => by
      simp only [frGo, h1, h2]; exact h3
    exact go _ _ _ _ _ bt (x_nx st (x_nx (g_ifF tt xs_nil) xs_nil)) ih
theorem law_runs_of (hw : calls FT 39 24 none [] = some (.val (.bool true), [])) (ns : List Int) (h : ns.length ≤ 63) : calls FT 40 27 none [ro (ns.map PyData.int)] = some (.val (.bool true), []) := by
  rw [calls_one (k := 39) (d := d27) rfl]
  obtain ⟨a, b, hc⟩ := cup_raw (calls FT 38) ns h
  have hc : calls FT 39 0 none [ro (ns.map PyData.int)] = some (.new [.int a, .int b], []) := by rw [calls_one (k := 38) (d := d0) rfl]; exact hc
  obtain ⟨c, d, x', y', z', _, _, _, L⟩ := law_loop 32 (some (.val (ro (ns.map PyData.int)))) (rngD 0 ((12 : Nat) : Int)) a b none none none (.inl rfl) (.inl rfl) (.inl rfl)
  have L : ex (calls FT 39) l27_0 [some (.val (ro (ns.map PyData.int))), Cp false a b, none, none, none] = some (SR.nx [some (.val (ro (ns.map PyData.int))), Cp false c d, x', y', z']) := by
    unfold l27_0
    exact ex_fr (o := none) (c_rngV (d := I 12) e_c12 (rng_I (by omega))) L
  obtain ⟨c2, d2, hg⟩ := great_ok 32 c d
  refine x_run (ρ := [some (.val (ro (ns.map PyData.int))), Cp false c2 d2, x', y', z']) (ρ0 := [some (.val (ro (ns.map PyData.int))), none, none, none, none]) rfl rfl ?_ rfl
  refine x_nx (ρ1 := [some (.val (ro (ns.map PyData.int))), Cp false a b, none, none, none]) (g_asgN (l := [.int a, .int b]) (ρ1 := [some (.val (ro (ns.map PyData.int))), none, none, none, none]) (e_callN (os := [.d (ro (ns.map PyData.int))]) (s_cons (o_var rfl) s_nil) (v_cons r_d v_nil) rfl hc) rfl) (x_nx L (x_rt (x_ret (e_andT (ρ1 := [some (.val (ro (ns.map PyData.int))), Cp false c2 d2, x', y', z']) (e_callS (os := [.bor 1]) (g := false) (i := 1) (s_cons (o_own rfl) s_nil) (v_cons (r_bor rfl) v_nil) rfl rfl hg rfl) (e_callN s_nil v_nil rfl hw)))))
end K30

namespace K30
open PySem PySem.W L2 Ev
def T (x : List Nat) : PyData := .tuple (Li x)
def cutAt (x : List Nat) (i : Nat) : List Nat := x.take i ++ x.drop (i + 1)
theorem canLay_Li : ∀ x : List Nat, PyData.canLayAll0 (Li x) = true
  | [] => rfl
  | a :: r => by
    show (PyData.canLay0 (I a) && PyData.canLayAll0 (Li r)) = true
    rw [canLay_Li r]; rfl
theorem depth_Li : ∀ x : List Nat, PyData.depthAll (Li x) = 0
  | [] => rfl
  | a :: r => by
    show max (PyData.depth (I a)) (PyData.depthAll (Li r)) = 0
    rw [depth_Li r]; rfl
theorem shp_T (x : List Nat) : shp (T x) = true := by
  show (PyData.canLayAll0 (Li x) && decide (PyData.depthAll (Li x) + 1 ≤ 64)) = true
  rw [canLay_Li, depth_Li]; rfl
theorem shp_L (x : List Nat) : shp (.list (Li x)) = true := shp_T x
theorem canLay_F : ∀ f : List (List Nat), PyData.canLayAll0 (f.map T) = true
  | [] => rfl
  | a :: r => by
    show (PyData.canLayAll0 (Li a) && PyData.canLayAll0 (r.map T)) = true
    rw [canLay_F r, canLay_Li]; rfl
theorem depth_F : ∀ f : List (List Nat), PyData.depthAll (f.map T) ≤ 1
  | [] => Nat.zero_le _
  | a :: r => by
    show max (PyData.depthAll (Li a) + 1) (PyData.depthAll (r.map T)) ≤ 1
    have := depth_F r
    rw [depth_Li]; omega
theorem shp_F (f : List (List Nat)) : shp (.tuple (f.map T)) = true := by
  show (PyData.canLayAll0 (f.map T) && decide (PyData.depthAll (f.map T) + 1 ≤ 64)) = true
  have := depth_F f
  rw [canLay_F, decide_eq_true (by omega)]; rfl
theorem eqv_Li : ∀ x y : List Nat, PyData.eqvAll (Li x) (Li y) = (x == y)
  | [], [] => rfl
  | [], _ :: _ => rfl
  | _ :: _, [] => rfl
  | a :: r, b :: s => by
    show (PyData.eqv (I a) (I b) && PyData.eqvAll (Li r) (Li s)) = (a == b && r == s)
    rw [eqv_Li r s]
    congr 1
    show ((a : Int) == (b : Int)) = (a == b)
    rw [Bool.eq_iff_iff, beq_iff_eq, beq_iff_eq]; omega
theorem in_F (x : List Nat) (f : List (List Nat)) : inD (T x) (.tuple (f.map T)) = some (f.contains x) := by
  have e : inD (T x) (.tuple (f.map T)) = if shp (T x) && shp (.tuple (f.map T)) then some ((f.map T).any fun z => PyData.eqv z (T x)) else none := rfl
  rw [e, shp_T, shp_F, Bool.and_self, if_pos rfl]
  congr 1
  clear e
  induction f with
  | nil => rfl
  | cons a r ih =>
    rw [List.map_cons, List.any_cons, ih, List.contains_cons]
    congr 1
    show PyData.eqvAll (Li a) (Li x) = _
    rw [eqv_Li, Bool.eq_iff_iff, beq_iff_eq, beq_iff_eq]
    exact eq_comm
theorem notIn_F (x : List Nat) (f : List (List Nat)) : cmpD .notIn (T x) (.tuple (f.map T)) = some (!f.contains x) := by
  show (inD (T x) (.tuple (f.map T))).map not = _
  rw [in_F]; rfl
theorem eq_nil (x : List Nat) : cmpD .eq (.list (Li x)) (.list []) = some x.isEmpty := by
  have e : cmpD .eq (.list (Li x)) (.list []) = if shp (.list (Li x)) && shp (.list []) then some (PyData.eqv (.list (Li x)) (.list [])) else none := rfl
  have s2 : shp (.list []) = true := shp_L []
  rw [e, shp_L, s2, Bool.and_self, if_pos rfl]
  cases x <;> rfl
theorem cutHi (l : List PyData) (k : Nat) : cutD l none (some (k : Int)) = l.take k := by
  unfold cutD
  have e1 : HT.sIx l.length l.length (some (k : Int)) = min k l.length := HT.sIx_nat _ _ _
  have e2 : HT.sIx l.length 0 none = 0 := rfl
  rw [e1, e2, List.drop_zero, Nat.sub_zero]
  rcases Nat.le_total k l.length with h | h
  · rw [Nat.min_eq_left h]
  · rw [Nat.min_eq_right h, List.take_of_length_le (Nat.le_refl _), List.take_of_length_le h]
theorem cutLo (l : List PyData) (k : Nat) : cutD l (some (k : Int)) none = l.drop k := by
  unfold cutD
  have e1 : HT.sIx l.length 0 (some (k : Int)) = min k l.length := HT.sIx_nat _ _ _
  have e2 : HT.sIx l.length l.length none = l.length := rfl
  rw [e1, e2]
  rcases Nat.le_total k l.length with h | h
  · rw [Nat.min_eq_left h, List.take_of_length_le (by rw [List.length_drop]; exact Nat.le_refl _)]
  · rw [Nat.min_eq_right h, Nat.sub_self, List.take_zero, List.drop_of_length_le h]
theorem cat_T (x : List Nat) (i : Nat) (h : x.length ≤ 1000) : binD .add (.tuple ((Li x).take i)) (.tuple ((Li x).drop (i + 1))) = some (.val (T (cutAt x i))) := by
  have e : binD .add (.tuple ((Li x).take i)) (.tuple ((Li x).drop (i + 1))) = if ((Li x).take i).length + ((Li x).drop (i + 1)).length ≤ lim then some (.val (.tuple ((Li x).take i ++ (Li x).drop (i + 1)))) else none := rfl
  rw [e, if_pos (by rw [List.length_take, List.length_drop, List.length_map]; show _ ≤ 16777216; omega)]
  unfold T cutAt
  rw [show Li (x.take i ++ x.drop (i + 1)) = (Li x).take i ++ (Li x).drop (i + 1) from by show List.map I _ = _; rw [List.map_append, List.map_take, List.map_drop]]
theorem ifs_one {cf : CF} {X : Ex} {ρ : En} {y : Option (Bool × En)} (h : (ev cf X).t ρ = y) : allT (evts cf (.cons X .nil)) ρ = y := h
theorem lcGo_map {α : Type} {tg vs : List Nat} {ifs : EvB} {e : Ev1} {ρ : En} {g h : α → PyData} {p : α → Bool} : ∀ (xs : List α), (∀ x ∈ xs, ∃ ρ1, bindT tg (g x) ρ = some ρ1 ∧ ((p x = false ∧ ∃ ρ2, ifs ρ1 = some (false, ρ2) ∧ wipeE ρ2 vs = ρ) ∨ ∃ r ρ2 ρ3, p x = true ∧ r.dat = h x ∧ ifs ρ1 = some (true, ρ2) ∧ e ρ2 = some (r, ρ3) ∧ wipeE ρ3 vs = ρ)) → lcGo tg vs ifs e (xs.map g) ρ = some ((xs.filter p).map h, ρ)
  | [], _ => rfl
  | x :: l, hh => by
    have ih := lcGo_map (p := p) (h := h) l fun d hd => hh d (List.mem_cons_of_mem _ hd)
    obtain ⟨ρ1, h1, h2⟩ := hh x List.mem_cons_self
    rcases h2 with ⟨hf, ρ2, h2, h3⟩ | ⟨r, ρ2, ρ3, hf, hr, h2, h3, h4⟩
    · simp only [List.map_cons, lcGo, h1, h2, h3, ih, List.filter_cons, hf]; rfl
    · simp only [List.map_cons, lcGo, h1, h2, h3, h4, ih, List.filter_cons, hf, hr, if_true]
theorem rng_map (n : Nat) : rngD 0 (n : Int) = (List.range n).map I := by
  unfold rngD
  rw [show ((n : Int) - 0).toNat = n by omega]
  refine List.map_congr_left fun i _ => ?_
  show PyData.int (0 + (i : Int)) = .int (i : Int)
  rw [Int.zero_add]
/-- own[:at] + own[at + 1:] -/
theorem face_ok {cf : CF} {ρ : En} {x : List Nat} {i : Nat} (h : x.length ≤ 1000) (h7 : ρ[7]? = some (some (.val (T x)))) (h10 : ρ[10]? = some (vI i)) : (ev cf (.bin .add (.slc (.var 7) .nil (.cons (.var 10) .nil)) (.slc (.var 7) (.cons (.bin .add (.var 10) (.con (.int 1))) .nil) .nil))).e ρ = some (.val (T (cutAt x i)), ρ) := by
  have hi : (ev cf (.slc (.var 7) .nil (.cons (.var 10) .nil))).e ρ = some (.val (.tuple ((Li x).take i)), ρ) := by
    show slcE (opdV 7) [] [opdV 10] ρ = _
    have o7 : opdV 7 ρ = some (.d (T x), ρ) := by simp only [opdV, h7]
    have o10 : opdV 10 ρ = some (.d (.int (i : Int)), ρ) := by simp only [opdV, h10]; rfl
    simp only [slcE, o7, partO, o10, rsv]
    show (match slcD (.tuple (Li x)) none (some (i : Int)) with | some r => some (r, ρ) | none => none) = _
    show (match some (Rs.val (.tuple (cutD (Li x) none (some (i : Int))))) with | some r => some (r, ρ) | none => none) = _
    rw [cutHi]
  have lo : (ev cf (.slc (.var 7) (.cons (.bin .add (.var 10) (.con (.int 1))) .nil) .nil)).e ρ = some (.val (.tuple ((Li x).drop (i + 1))), ρ) :=
    e_slcA (n := ((i + 1 : Nat) : Int)) (oa := .d (T x)) (d1 := T x) (ρ1 := ρ) (o_var h7) (o_v rfl (e_bin (oa := .d _) (ob := .d _) (o_var h10) (o_v rfl e_c1) r_d r_d (add_I _ _))) r_d (by show some (Rs.val (.tuple (cutD _ _ _))) = _; rw [cutLo])
  exact e_bin (oa := .d _) (ob := .d _) (o_v rfl hi) (o_v rfl lo) r_d r_d (cat_T x i h)
section
variable {cf : CF} {c s m few : Nat} {fam : List (List Nat)} {x : List Nat} {a3 a4 a5 a6 a7 a8 a9 : Option Cl}
/-- a set's faces -/
theorem faces_c (h : x.length ≤ 1000) (hs : s ≤ 100) : (ev cf c23_2).e [vI c, vI s, vI m, a3, a4, a5, a6, some (.val (T x)), a8, a9, none] = some (.new ((List.range s).map fun i => T (cutAt x i)), [vI c, vI s, vI m, a3, a4, a5, a6, some (.val (T x)), a8, a9, none]) := by
  unfold c23_2
  refine ev_lc (l := rngD 0 (s : Int)) (ρ1 := [vI c, vI s, vI m, a3, a4, a5, a6, some (.val (T x)), a8, a9, none]) (ρ2 := [vI c, vI s, vI m, a3, a4, a5, a6, some (.val (T x)), a8, a9, none]) (o := none) (c_rngV (e_var rfl) (rng_I (by omega))) ?_ ?_
  · rw [rng_len, decide_eq_true (show s ≤ lim by show s ≤ 16777216; omega)]; rfl
  · have := lcGo_at (ρ := [vI c, vI s, vI m, a3, a4, a5, a6, some (.val (T x)), a8, a9, none]) (tg := [10]) (vs := [10]) (ifs := allT (evts cf .nil)) (e := (ev cf (.bin .add (.slc (.var 7) .nil (.cons (.var 10) .nil)) (.slc (.var 7) (.cons (.bin .add (.var 10) (.con (.int 1))) .nil) .nil))).e) (l := rngD 0 (s : Int)) (fun i => T (cutAt x i)) fun i d hd => by
      obtain ⟨hi, rfl⟩ := rng_get hd
      exact ⟨[vI c, vI s, vI m, a3, a4, a5, a6, some (.val (T x)), a8, a9, vI i], .val (T (cutAt x i)), [vI c, vI s, vI m, a3, a4, a5, a6, some (.val (T x)), a8, a9, vI i], rfl, rfl, rfl, face_ok h rfl rfl, rfl⟩
    rw [rng_len] at this
    exact this
/-- the faces that do not stand in the family -/
def out (fam : List (List Nat)) (s : Nat) (x : List Nat) : List Nat := ((List.range s).filter fun i => !fam.contains (cutAt x i)).map fun _ => 1
theorem out_c (h : x.length ≤ 1000) (hs : s ≤ 100) : (ev cf c23_0).e [vI c, vI s, vI m, a3, a4, some (.val (.tuple (fam.map T))), a6, some (.val (T x)), a8, a9, none] = some (.new (Li (out fam (s + 1) x)), [vI c, vI s, vI m, a3, a4, some (.val (.tuple (fam.map T))), a6, some (.val (T x)), a8, a9, none]) := by
  unfold c23_0
  refine ev_lc (l := (List.range (s + 1)).map I) (ρ1 := [vI c, vI s, vI m, a3, a4, some (.val (.tuple (fam.map T))), a6, some (.val (T x)), a8, a9, none]) (ρ2 := [vI c, vI s, vI m, a3, a4, some (.val (.tuple (fam.map T))), a6, some (.val (T x)), a8, a9, none]) (o := none) (c_rngV (d := I (s + 1)) (e_bin (oa := .d _) (ob := .d _) (o_var rfl) (o_v rfl e_c1) r_d r_d (add_I _ _)) (by rw [rng_I (by omega), rng_map])) ?_ ?_
  · rw [List.length_map, List.length_range, decide_eq_true (show s + 1 ≤ lim by show s + 1 ≤ 16777216; omega)]; rfl
  · have := lcGo_map (ρ := [vI c, vI s, vI m, a3, a4, some (.val (.tuple (fam.map T))), a6, some (.val (T x)), a8, a9, none]) (tg := [10]) (vs := [10]) (ifs := allT (evts cf (.cons (.cmp .notIn (.bin .add (.slc (.var 7) .nil (.cons (.var 10) .nil)) (.slc (.var 7) (.cons (.bin .add (.var 10) (.con (.int 1))) .nil) .nil)) (.var 5)) .nil))) (e := (ev cf (.con (.int 1))).e) (g := I) (p := fun i => !fam.contains (cutAt x i)) (h := fun _ => I 1) (List.range (s + 1)) fun i hi => by
      have tt : (ev cf (.cmp .notIn (.bin .add (.slc (.var 7) .nil (.cons (.var 10) .nil)) (.slc (.var 7) (.cons (.bin .add (.var 10) (.con (.int 1))) .nil) .nil)) (.var 5))).t [vI c, vI s, vI m, a3, a4, some (.val (.tuple (fam.map T))), a6, some (.val (T x)), a8, a9, vI i] = some (!fam.contains (cutAt x i), [vI c, vI s, vI m, a3, a4, some (.val (.tuple (fam.map T))), a6, some (.val (T x)), a8, a9, vI i]) :=
        t_cmp (oa := .d _) (ob := .d _) (o_v rfl (face_ok h rfl rfl)) (o_var rfl) r_d r_d (notIn_F _ _)
      refine ⟨[vI c, vI s, vI m, a3, a4, some (.val (.tuple (fam.map T))), a6, some (.val (T x)), a8, a9, vI i], rfl, ?_⟩
      cases hc : (!fam.contains (cutAt x i)) with
      | false =>
        rw [hc] at tt
        exact .inl ⟨rfl, _, tt, rfl⟩
      | true =>
        rw [hc] at tt
        exact .inr ⟨.val (I 1), _, _, rfl, rfl, tt, e_c1, rfl⟩
    unfold out
    rw [show Li (((List.range (s + 1)).filter fun i => !fam.contains (cutAt x i)).map fun _ => 1) = ((List.range (s + 1)).filter fun i => !fam.contains (cutAt x i)).map fun _ => I 1 from by show List.map I (List.map _ _) = _; rw [List.map_map]; rfl]
    exact this
/-- the sets above the family -/
def ov (sets : List (List Nat)) (fam : List (List Nat)) (s : Nat) : List (List Nat) := sets.filter fun x => (out fam (s + 1) x).isEmpty
theorem ov_c {sets : List (List Nat)} (hc : cf 22 none [I c, I (s + 1)] = some (.val (.list (sets.map T)), [])) (hl : sets.length ≤ 1000) (h : ∀ x ∈ sets, x.length ≤ 1000) (hs : s ≤ 100) (h7 : Mid a7) :
    (ev cf c23_1).e [vI c, vI s, vI m, a3, a4, some (.val (.tuple (fam.map T))), a6, a7, a8, a9, none] = some (.new ((ov sets fam s).map T), [vI c, vI s, vI m, a3, a4, some (.val (.tuple (fam.map T))), a6, a7, a8, a9, none]) := by
  unfold c23_1
  refine ev_lc (l := sets.map T) (ρ1 := [vI c, vI s, vI m, a3, a4, some (.val (.tuple (fam.map T))), a6, a7, a8, a9, none]) (ρ2 := [vI c, vI s, vI m, a3, a4, some (.val (.tuple (fam.map T))), a6, none, a8, a9, none]) (o := none) (c_seqL (o_v rfl (e_callN (s_cons (o_var rfl) (s_cons (o_v rfl (e_bin (oa := .d _) (ob := .d _) (o_var rfl) (o_v rfl e_c1) r_d r_d (add_I _ _))) s_nil)) (v_cons r_d (v_cons r_d v_nil)) rfl hc))) ?_ ?_
  · have e1 : decide ((sets.map T).length ≤ lim) = true := by rw [List.length_map]; exact decide_eq_true (Nat.le_trans hl (by decide))
    rw [e1]
    rcases h7 with rfl | ⟨d, rfl⟩ <;> rfl
  · exact lcGo_map (ρ := [vI c, vI s, vI m, a3, a4, some (.val (.tuple (fam.map T))), a6, none, a8, a9, none]) (tg := [7]) (vs := [7]) (ifs := allT (evts cf (.cons (.cmp .eq c23_0 (.lst .nil)) .nil))) (e := (ev cf (.var 7)).e) (g := T) (p := fun x => (out fam (s + 1) x).isEmpty) (h := T) sets fun x hx => by
      have tt : (ev cf (.cmp .eq c23_0 (.lst .nil))).t [vI c, vI s, vI m, a3, a4, some (.val (.tuple (fam.map T))), a6, some (.val (T x)), a8, a9, none] = some ((out fam (s + 1) x).isEmpty, [vI c, vI s, vI m, a3, a4, some (.val (.tuple (fam.map T))), a6, some (.val (T x)), a8, a9, none]) :=
        t_cmp (oa := .d _) (ob := .d _) (o_n (c23_0_o _) (out_c (h x hx) hs)) (o_n rfl (e_lst f_nil v_nil rfl)) r_d r_d (eq_nil _)
      refine ⟨[vI c, vI s, vI m, a3, a4, some (.val (.tuple (fam.map T))), a6, some (.val (T x)), a8, a9, none], rfl, ?_⟩
      cases ho : (out fam (s + 1) x).isEmpty with
      | true =>
        rw [ho] at tt
        exact .inr ⟨.val (T x), _, _, rfl, rfl, ifs_one tt, e_var rfl, rfl⟩
      | false =>
        rw [ho] at tt
        exact .inl ⟨rfl, _, ifs_one tt, rfl⟩
end
end K30

namespace K30
open PySem PySem.W L2 Ev
def faces (fam : List (List Nat)) (s : Nat) : List (List Nat) := fam.flatMap fun x => (List.range s).map (cutAt x)
def Fm (fam : List (List Nat)) : PyData := .tuple (fam.map T)
def few (fam : List (List Nat)) (s : Nat) : Nat := (distT ((faces fam s).map fun x => x.map fun (n : Nat) => (n : Int))).length
def Lc (l : Option Nat) : PyData := match l with | none => .none | some a => I a
def Owl (m : Option Cl) : Prop := m = none ∨ ∃ l, m = some (.own false false l)
theorem tupsI_T : ∀ f : List (List Nat), tupsI? (f.map T) = some (f.map fun x => x.map fun (n : Nat) => (n : Int))
  | [] => rfl
  | x :: r => by
    show (match ints? (Li x), tupsI? (r.map T) with | some s, some t => some (s :: t) | _, _ => none) = _
    rw [ints_I, tupsI_T r]; rfl
theorem lens_T {f : List (List Nat)} (h : f.length < 64) : lensD (.list (f.map T)) = some (.val (I (distT (f.map fun x => x.map fun (n : Nat) => (n : Int))).length)) := by
  show (match tupsI? (f.map T) with | some ts => if (f.map T).length < 64 then some (Rs.val (.int ((distT ts).length : Nat))) else none | none => none) = _
  rw [tupsI_T]
  show (if (f.map T).length < 64 then _ else none) = _
  rw [if_pos (by rw [List.length_map]; exact h)]; rfl
theorem addL {a b : List PyData} (h : a.length + b.length ≤ 1000) : binD .add (.list a) (.list b) = some (.new (a ++ b)) := by
  have e : binD .add (.list a) (.list b) = if a.length + b.length ≤ lim then some (.new (a ++ b)) else none := rfl
  rw [e, if_pos (Nat.le_trans h (by decide))]
theorem min_I (a b : Nat) : bltD .min [I a, I b] = some (.val (I (if b < a then b else a))) := by
  have e : bltD .min [I a, I b] = some (.val (.int (if (b : Int) < (a : Int) then (b : Int) else (a : Int)))) := rfl
  rw [e]
  by_cases h : b < a
  · rw [if_pos h, if_pos (by omega)]; rfl
  · rw [if_neg h, if_neg (by omega)]; rfl
theorem max_I (a b : Nat) : bltD .max [I a, I b] = some (.val (I (if b > a then b else a))) := by
  have e : bltD .max [I a, I b] = some (.val (.int (if (b : Int) > (a : Int) then (b : Int) else (a : Int)))) := rfl
  rw [e]
  by_cases h : b > a
  · rw [if_pos h, if_pos (by omega)]; rfl
  · rw [if_neg h, if_neg (by omega)]; rfl
theorem fr_go {tg : List Nat} {ma : EvM} {e : PyData} {l : List PyData} {ρ ρ1 ρ2 : En} {y : Option SR} (h1 : bindT tg e ρ = some ρ1) (h2 : ma ρ1 = some (.nx ρ2)) (h3 : frGo tg ma l ρ2 = y) : frGo tg ma (e :: l) ρ = y := by
  simp only [frGo, h1, h2]; exact h3
section
variable {cf : CF} {c s m : Nat} {a3 a4 a5 a8 a9 : Option Cl}
theorem faces_l (hs : s ≤ 100) : ∀ (fam : List (List Nat)) (acc : List (List Nat)) (a7 : Option Cl), Mid a7 → (∀ x ∈ fam, x.length ≤ 1000) → acc.length + fam.length * s ≤ 1000 → ∃ a7', Mid a7' ∧
    frGo [7] (exs cf (.cons (.asg 6 (.bin .add (.var 6) c23_2)) .nil)) (fam.map T) [vI c, vI s, vI m, a3, a4, a5, some (.own false false (acc.map T)), a7, a8, a9, none] = some (SR.nx [vI c, vI s, vI m, a3, a4, a5, some (.own false false ((acc ++ faces fam s).map T)), a7', a8, a9, none])
  | [], acc, a7, h7, _, _ => ⟨a7, h7, by show some (SR.nx _) = some (SR.nx _); rw [show acc ++ faces [] s = acc from List.append_nil _]⟩
  | x :: fam, acc, a7, h7, hx, hl => by
    have hx1 := hx x List.mem_cons_self
    have hlen : acc.length + s + fam.length * s ≤ 1000 := by rw [List.length_cons, Nat.add_mul, Nat.one_mul] at hl; omega
    obtain ⟨a7', h7', ih⟩ := faces_l hs fam (acc ++ (List.range s).map (cutAt x)) (some (.val (T x))) (.inr ⟨_, rfl⟩) (fun y hy => hx y (List.mem_cons_of_mem _ hy)) (by rw [List.length_append, List.length_map, List.length_range]; omega)
    refine ⟨a7', h7', ?_⟩
    have e : acc ++ faces (x :: fam) s = acc ++ (List.range s).map (cutAt x) ++ faces fam s := by
      unfold faces; rw [List.flatMap_cons, List.append_assoc]
    rw [e]
    have fc := faces_c (cf := cf) (c := c) (s := s) (m := m) (x := x) (a3 := a3) (a4 := a4) (a5 := a5) (a6 := some (.own false false (acc.map T))) (a8 := a8) (a9 := a9) hx1 hs
    have em : (List.range s).map (fun i => T (cutAt x i)) = ((List.range s).map (cutAt x)).map T := by rw [List.map_map]; rfl
    rw [em] at fc
    refine fr_go (ρ1 := [vI c, vI s, vI m, a3, a4, a5, some (.own false false (acc.map T)), some (.val (T x)), a8, a9, none]) ?_ (x_nx (ρ1 := [vI c, vI s, vI m, a3, a4, a5, some (.own false false ((acc ++ (List.range s).map (cutAt x)).map T)), some (.val (T x)), a8, a9, none]) (g_asgN (l := (acc ++ (List.range s).map (cutAt x)).map T) (ρ1 := [vI c, vI s, vI m, a3, a4, a5, some (.own false false (acc.map T)), some (.val (T x)), a8, a9, none]) (e_bin (oa := .bor 6) (ob := .d _) (o_own rfl) (o_n (c23_2_o _) fc) (r_bor rfl) r_d ?_) rfl) xs_nil) ih
    · rcases h7 with rfl | ⟨d, rfl⟩ <;> rfl
    · rw [List.map_append]
      exact addL (by rw [List.length_map, List.length_map, List.length_map, List.length_range]; omega)
end
def step (sets : List (List Nat)) (s : Nat) (st : Option Nat × Nat) (fam : List (List Nat)) : Option Nat × Nat :=
  (some (match st.1 with | none => few fam s | some a => if few fam s < a then few fam s else a), if (ov sets fam s).length > st.2 then (ov sets fam s).length else st.2)
theorem fams_l {cf : CF} {c s m : Nat} {sets : List (List Nat)} (hc : cf 22 none [I c, I (s + 1)] = some (.val (.list (sets.map T)), [])) (hl : sets.length ≤ 1000) (h : ∀ x ∈ sets, x.length ≤ 1000) (hs : s ≤ 100) :
    ∀ (fams : List (List (List Nat))) (L : Option Nat) (M : Nat) (a5 a6 a7 a8 a9 : Option Cl), Mid a5 → Owl a6 → Mid a7 → Mid a8 → Owl a9 → (∀ f ∈ fams, f.length * s < 64 ∧ ∀ x ∈ f, x.length ≤ 1000) → ∃ b5 b6 b7 b8 b9,
      frGo [5] (exs cf (.cons (.asg 6 (.lst .nil)) (.cons l23_3 (.cons (.asg 8 (.lens (.var 6))) (.cons (.asg 3 (.ite (.cmp .is (.var 3) (.con .none)) (.var 8) (.blt .min (.cons (.var 3) (.cons (.var 8) .nil))))) (.cons (.asg 9 c23_1) (.cons (.asg 4 (.blt .max (.cons (.var 4) (.cons (.blt .len (.cons (.var 9) .nil)) .nil)))) .nil))))))) (fams.map Fm) [vI c, vI s, vI m, some (.val (Lc L)), vI M, a5, a6, a7, a8, a9, none] = some (SR.nx [vI c, vI s, vI m, some (.val (Lc (fams.foldl (step sets s) (L, M)).1)), vI (fams.foldl (step sets s) (L, M)).2, b5, b6, b7, b8, b9, none])
  | [], L, M, a5, a6, a7, a8, a9, _, _, _, _, _, _ => ⟨a5, a6, a7, a8, a9, rfl⟩
  | f :: fams, L, M, a5, a6, a7, a8, a9, h5, h6, h7, h8, h9, hf => by
    obtain ⟨hf1, hf2⟩ := hf f List.mem_cons_self
    obtain ⟨a7', h7', fl⟩ := faces_l (cf := cf) (c := c) (s := s) (m := m) (a3 := some (.val (Lc L))) (a4 := vI M) (a5 := some (.val (Fm f))) (a8 := a8) (a9 := a9) hs f [] a7 h7 hf2 (by show 0 + _ ≤ _; omega)
    have flen : (faces f s).length = f.length * s := by
      unfold faces
      clear fl hf hf1 hf2
      induction f with
      | nil => simp
      | cons x r ih => rw [List.flatMap_cons, List.length_append, ih, List.length_map, List.length_range, List.length_cons, Nat.add_mul, Nat.one_mul]; omega
    obtain ⟨b5, b6, b7, b8, b9, ih⟩ := fams_l hc hl h hs fams (step sets s (L, M) f).1 (step sets s (L, M) f).2 (some (.val (Fm f))) (some (.own false false ((faces f s).map T))) a7' (vI (few f s)) (some (.own false false ((ov sets f s).map T))) (.inr ⟨_, rfl⟩) (.inr ⟨_, rfl⟩) h7' (.inr ⟨_, rfl⟩) (.inr ⟨_, rfl⟩) (fun y hy => hf y (List.mem_cons_of_mem _ hy))
    refine ⟨b5, b6, b7, b8, b9, ?_⟩
    have oc := ov_c (cf := cf) (c := c) (s := s) (m := m) (fam := f) (a3 := some (.val (Lc (step sets s (L, M) f).1))) (a4 := vI M) (a6 := some (.own false false ((faces f s).map T))) (a7 := a7') (a8 := vI (few f s)) (a9 := a9) hc hl h hs h7'
    have ln : bltD .len [.list ((ov sets f s).map T)] = some (.val (I (ov sets f s).length)) := by
      show some (Rs.val (.int ((((ov sets f s).map T).length : Nat) : Int))) = _
      rw [List.length_map]; rfl
    have lf : ex cf l23_3 [vI c, vI s, vI m, some (.val (Lc L)), vI M, some (.val (Fm f)), some (.own false false []), a7, a8, a9, none] = some (SR.nx [vI c, vI s, vI m, some (.val (Lc L)), vI M, some (.val (Fm f)), some (.own false false ((faces f s).map T)), a7', a8, a9, none]) := by
      unfold l23_3
      exact ex_fr (o := none) (c_seqT (l := f.map T) (o_var rfl)) fl
    have ls : ex cf (.asg 8 (.lens (.var 6))) [vI c, vI s, vI m, some (.val (Lc L)), vI M, some (.val (Fm f)), some (.own false false ((faces f s).map T)), a7', a8, a9, none] = some (SR.nx [vI c, vI s, vI m, some (.val (Lc L)), vI M, some (.val (Fm f)), some (.own false false ((faces f s).map T)), a7', vI (few f s), a9, none]) := by
      refine g_asgV (e_lens (oa := .bor 6) (o_own rfl) (r_bor rfl) (lens_T (by rw [flen]; exact hf1))) ?_
      rcases h8 with rfl | ⟨d, rfl⟩ <;> rfl
    have lm : ex cf (.asg 3 (.ite (.cmp .is (.var 3) (.con .none)) (.var 8) (.blt .min (.cons (.var 3) (.cons (.var 8) .nil))))) [vI c, vI s, vI m, some (.val (Lc L)), vI M, some (.val (Fm f)), some (.own false false ((faces f s).map T)), a7', vI (few f s), a9, none] = some (SR.nx [vI c, vI s, vI m, some (.val (Lc (step sets s (L, M) f).1)), vI M, some (.val (Fm f)), some (.own false false ((faces f s).map T)), a7', vI (few f s), a9, none]) := by
      cases L with
      | none => exact g_asgV (e_iteT (t_cmp (oa := .d _) (ob := .d _) (o_var rfl) (o_v rfl e_con) r_d r_d (show cmpD .is .none .none = some true from rfl)) (e_var rfl)) rfl
      | some a => exact g_asgV (e_iteF (t_cmp (oa := .d _) (ob := .d _) (o_var rfl) (o_v rfl e_con) r_d r_d (show cmpD .is (I a) .none = some false from rfl)) (e_blt (s_cons (o_var rfl) (s_cons (o_var rfl) s_nil)) (v_cons r_d (v_cons r_d v_nil)) (min_I _ _))) rfl
    have lo : ex cf (.asg 9 c23_1) [vI c, vI s, vI m, some (.val (Lc (step sets s (L, M) f).1)), vI M, some (.val (Fm f)), some (.own false false ((faces f s).map T)), a7', vI (few f s), a9, none] = some (SR.nx [vI c, vI s, vI m, some (.val (Lc (step sets s (L, M) f).1)), vI M, some (.val (Fm f)), some (.own false false ((faces f s).map T)), a7', vI (few f s), some (.own false false ((ov sets f s).map T)), none]) := by
      refine g_asgN oc ?_
      rcases h9 with rfl | ⟨d, rfl⟩ <;> rfl
    have lx : ex cf (.asg 4 (.blt .max (.cons (.var 4) (.cons (.blt .len (.cons (.var 9) .nil)) .nil)))) [vI c, vI s, vI m, some (.val (Lc (step sets s (L, M) f).1)), vI M, some (.val (Fm f)), some (.own false false ((faces f s).map T)), a7', vI (few f s), some (.own false false ((ov sets f s).map T)), none] = some (SR.nx [vI c, vI s, vI m, some (.val (Lc (step sets s (L, M) f).1)), vI (step sets s (L, M) f).2, some (.val (Fm f)), some (.own false false ((faces f s).map T)), a7', vI (few f s), some (.own false false ((ov sets f s).map T)), none]) :=
      g_asgV (e_blt (s_cons (o_var rfl) (s_cons (o_v rfl (e_blt (s_cons (o_own rfl) s_nil) (v_cons (r_bor rfl) v_nil) ln)) s_nil)) (v_cons r_d (v_cons r_d v_nil)) (max_I _ _)) rfl
    refine fr_go (ρ1 := [vI c, vI s, vI m, some (.val (Lc L)), vI M, some (.val (Fm f)), a6, a7, a8, a9, none]) ?_ (x_nx (ρ1 := [vI c, vI s, vI m, some (.val (Lc L)), vI M, some (.val (Fm f)), some (.own false false []), a7, a8, a9, none]) (g_asgN (e_lst f_nil v_nil rfl) ?_) (x_nx lf (x_nx ls (x_nx lm (x_nx lo (x_nx lx xs_nil)))))) ih
    · rcases h5 with rfl | ⟨d, rfl⟩ <;> rfl
    · rcases h6 with rfl | ⟨d, rfl⟩ <;> rfl
theorem tried_ok (j c s m : Nat) (sets0 sets : List (List Nat)) (fams : List (List (List Nat))) (s1 : 1 ≤ s) (s2 : s ≤ 12) (hm : m ≤ 1000000)
    (h0 : calls FT (j + 7) 22 none [I c, I s] = some (.val (.list (sets0.map T)), [])) (hc : calls FT (j + 7) 22 none [I c, I (s + 1)] = some (.val (.list (sets.map T)), []))
    (hfm : calls FT (j + 7) 21 none [.list (sets0.map T), I m] = some (.new (fams.map Fm), []))
    (hl : sets.length ≤ 1000) (h : ∀ x ∈ sets, x.length ≤ 1000) (hf : ∀ f ∈ fams, f.length * s < 64 ∧ ∀ x ∈ f, x.length ≤ 1000)
    (hr : fams.foldl (step sets s) (none, 0) = (some (led 0 0 s (casc s m)), led 0 2 s (casc s m))) : calls FT (j + 8) 23 none [I c, I s, I m] = some (.val (.bool true), []) := by
  rw [calls_one (d := d23) rfl]
  obtain ⟨b5, b6, b7, b8, b9, L⟩ := fams_l (m := m) hc hl h (by omega) fams none 0 none none none none none (.inl rfl) (.inl rfl) (.inl rfl) (.inl rfl) (.inl rfl) hf
  rw [hr] at L
  have L : ex (calls FT (j + 7)) l23_4 [vI c, vI s, vI m, some (.val .none), vI 0, none, none, none, none, none, none] = some (SR.nx [vI c, vI s, vI m, vI (led 0 0 s (casc s m)), vI (led 0 2 s (casc s m)), b5, b6, b7, b8, b9, none]) := by
    unfold l23_4
    exact ex_fr (o := none) (c_seqL (l := fams.map Fm) (o_n rfl (e_callN (s_cons (o_v rfl (e_callN (s_cons (o_var rfl) (s_cons (o_var rfl) s_nil)) (v_cons r_d (v_cons r_d v_nil)) rfl h0)) (s_cons (o_var rfl) s_nil)) (v_cons r_d (v_cons r_d v_nil)) rfl hfm))) L
  have lf := least_faces_ok (j + 3) m s s1 s2 hm
  have ma := most_above_ok (j + 3) m s s1 s2 hm
  have lk : LikeOk (j + 7) (.list [I (led 0 0 s (casc s m)), I (led 0 2 s (casc s m))]) := like_seq (j + 5) _ _ 5 (.inr ⟨rfl, rfl⟩) (fun d hd => by
    rcases List.mem_cons.mp hd with rfl | hd
    · exact like_I (j + 4) _
    rcases List.mem_cons.mp hd with rfl | hd
    · exact like_I (j + 4) _
    exact absurd hd (by simp)) (by show 2 ≤ 16777216; omega)
  unfold LikeOk at lk
  refine x_run (ρ := [vI c, vI s, vI m, vI (led 0 0 s (casc s m)), vI (led 0 2 s (casc s m)), b5, b6, b7, b8, b9, none]) (ρ0 := [vI c, vI s, vI m, none, none, none, none, none, none, none, none]) rfl rfl ?_ rfl
  refine x_nx (ρ1 := [vI c, vI s, vI m, some (.val .none), vI 0, none, none, none, none, none, none]) (g_unp (ds := [.none, I 0]) (e_tup (f_v e_con (f_v e_c0 f_nil)) (v_cons r_d (v_cons r_d v_nil)) rfl) rfl rfl) (x_nx L (x_rt (x_ret (e_callN (os := [.d (.list [I (led 0 0 s (casc s m)), I (led 0 2 s (casc s m))]), .d (.list [I (led 0 0 s (casc s m)), I (led 0 2 s (casc s m))])]) (s_cons (o_n rfl (e_lst (os := [.d (I (led 0 0 s (casc s m))), .d (I (led 0 2 s (casc s m)))]) (f_v (e_callN (s_cons (o_var rfl) (s_cons (o_var rfl) s_nil)) (v_cons r_d (v_cons r_d v_nil)) rfl lf) (f_v (e_callN (s_cons (o_var rfl) (s_cons (o_var rfl) s_nil)) (v_cons r_d (v_cons r_d v_nil)) rfl ma) f_nil)) (v_cons r_d (v_cons r_d v_nil)) rfl)) (s_cons (o_n rfl (e_lst (os := [.d (I (led 0 0 s (casc s m))), .d (I (led 0 2 s (casc s m)))]) (f_v (e_var rfl) (f_v (e_var rfl) f_nil)) (v_cons r_d (v_cons r_d v_nil)) rfl)) s_nil)) (v_cons r_d (v_cons r_d v_nil)) rfl lk))))
end K30

namespace K30
open PySem PySem.W L2 Ev
def setsF (n : Nat) : Nat → List (List Nat)
  | 0 => [[]]
  | s + 1 => (setsF n s).flatMap fun own => ((List.range n).filter fun c => own.all fun o => decide (o < c)).map fun c => own ++ [c]
def famGo (many : Nat) : List (List Nat) → List (List (List Nat)) → List (List (List Nat))
  | [], found => found
  | one :: r, found => famGo many r (found ++ (found.filter fun own => decide (own.length < many)).map fun own => own ++ [one])
def famsF (sets : List (List Nat)) (many : Nat) : List (List (List Nat)) := (famGo many sets [[]]).filter fun own => own.length == many
def okV (o : Option (Rs × List PyData)) (d : PyData) : Bool := match o with
  | some (.val e, []) => sameD e d
  | _ => false
def okN (o : Option (Rs × List PyData)) (d : List PyData) : Bool := match o with
  | some (.new e, []) => sameL e d
  | _ => false
theorem okV_eq {o : Option (Rs × List PyData)} {d : PyData} (h : okV o d = true) : o = some (.val d, []) := by
  unfold okV at h
  split at h
  · rw [sameD_eq h]
  · cases h
theorem okN_eq {o : Option (Rs × List PyData)} {d : List PyData} (h : okN o d = true) : o = some (.new d, []) := by
  unfold okN at h
  split at h
  · rw [sameL_eq h]
  · cases h
theorem allOk {s : Nat} {fams : List (List (List Nat))} (h : (fams.all fun f => decide (f.length * s < 64) && f.all fun x => decide (x.length ≤ 1000)) = true) : ∀ f ∈ fams, f.length * s < 64 ∧ ∀ x ∈ f, x.length ≤ 1000 := fun f hf => by
  have := List.all_eq_true.mp h f hf
  rw [Bool.and_eq_true, decide_eq_true_eq] at this
  exact ⟨this.1, fun x hx => of_decide_eq_true (List.all_eq_true.mp this.2 x hx)⟩
theorem allSet {l : List (List Nat)} (h : (l.all fun x => decide (x.length ≤ 1000)) = true) : ∀ x ∈ l, x.length ≤ 1000 := fun x hx => of_decide_eq_true (List.all_eq_true.mp h x hx)
theorem s_4_1 : calls FT 37 22 none [I 4, I 1] = some (.val (.list ((setsF 4 1).map T)), []) := okV_eq (by decide +kernel)
theorem s_4_2 : calls FT 37 22 none [I 4, I 2] = some (.val (.list ((setsF 4 2).map T)), []) := okV_eq (by decide +kernel)
theorem s_4_3 : calls FT 37 22 none [I 4, I 3] = some (.val (.list ((setsF 4 3).map T)), []) := okV_eq (by decide +kernel)
theorem s_5_2 : calls FT 37 22 none [I 5, I 2] = some (.val (.list ((setsF 5 2).map T)), []) := okV_eq (by decide +kernel)
theorem s_5_3 : calls FT 37 22 none [I 5, I 3] = some (.val (.list ((setsF 5 3).map T)), []) := okV_eq (by decide +kernel)
theorem s_5_4 : calls FT 37 22 none [I 5, I 4] = some (.val (.list ((setsF 5 4).map T)), []) := okV_eq (by decide +kernel)
theorem f_4_2_1 : calls FT 37 21 none [.list ((setsF 4 2).map T), I 1] = some (.new ((famsF (setsF 4 2) 1).map Fm), []) := okN_eq (by decide +kernel)
theorem r_4_2_1 : (famsF (setsF 4 2) 1).foldl (step (setsF 4 3) 2) (none, 0) = (some (led 0 0 2 (casc 2 1)), led 0 2 2 (casc 2 1)) := by decide +kernel
theorem t_4_2_1 : calls FT 38 23 none [I 4, I 2, I 1] = some (.val (.bool true), []) := tried_ok 30 4 2 1 (setsF 4 2) (setsF 4 3) (famsF (setsF 4 2) 1) (by decide) (by decide) (by decide) s_4_2 s_4_3 f_4_2_1 (by decide +kernel) (allSet (by decide +kernel)) (allOk (by decide +kernel)) r_4_2_1
theorem f_4_2_2 : calls FT 37 21 none [.list ((setsF 4 2).map T), I 2] = some (.new ((famsF (setsF 4 2) 2).map Fm), []) := okN_eq (by decide +kernel)
theorem r_4_2_2 : (famsF (setsF 4 2) 2).foldl (step (setsF 4 3) 2) (none, 0) = (some (led 0 0 2 (casc 2 2)), led 0 2 2 (casc 2 2)) := by decide +kernel
theorem t_4_2_2 : calls FT 38 23 none [I 4, I 2, I 2] = some (.val (.bool true), []) := tried_ok 30 4 2 2 (setsF 4 2) (setsF 4 3) (famsF (setsF 4 2) 2) (by decide) (by decide) (by decide) s_4_2 s_4_3 f_4_2_2 (by decide +kernel) (allSet (by decide +kernel)) (allOk (by decide +kernel)) r_4_2_2
theorem f_4_2_3 : calls FT 37 21 none [.list ((setsF 4 2).map T), I 3] = some (.new ((famsF (setsF 4 2) 3).map Fm), []) := okN_eq (by decide +kernel)
theorem r_4_2_3 : (famsF (setsF 4 2) 3).foldl (step (setsF 4 3) 2) (none, 0) = (some (led 0 0 2 (casc 2 3)), led 0 2 2 (casc 2 3)) := by decide +kernel
theorem t_4_2_3 : calls FT 38 23 none [I 4, I 2, I 3] = some (.val (.bool true), []) := tried_ok 30 4 2 3 (setsF 4 2) (setsF 4 3) (famsF (setsF 4 2) 3) (by decide) (by decide) (by decide) s_4_2 s_4_3 f_4_2_3 (by decide +kernel) (allSet (by decide +kernel)) (allOk (by decide +kernel)) r_4_2_3
theorem f_4_2_4 : calls FT 37 21 none [.list ((setsF 4 2).map T), I 4] = some (.new ((famsF (setsF 4 2) 4).map Fm), []) := okN_eq (by decide +kernel)
theorem r_4_2_4 : (famsF (setsF 4 2) 4).foldl (step (setsF 4 3) 2) (none, 0) = (some (led 0 0 2 (casc 2 4)), led 0 2 2 (casc 2 4)) := by decide +kernel
theorem t_4_2_4 : calls FT 38 23 none [I 4, I 2, I 4] = some (.val (.bool true), []) := tried_ok 30 4 2 4 (setsF 4 2) (setsF 4 3) (famsF (setsF 4 2) 4) (by decide) (by decide) (by decide) s_4_2 s_4_3 f_4_2_4 (by decide +kernel) (allSet (by decide +kernel)) (allOk (by decide +kernel)) r_4_2_4
theorem f_4_2_5 : calls FT 37 21 none [.list ((setsF 4 2).map T), I 5] = some (.new ((famsF (setsF 4 2) 5).map Fm), []) := okN_eq (by decide +kernel)
theorem r_4_2_5 : (famsF (setsF 4 2) 5).foldl (step (setsF 4 3) 2) (none, 0) = (some (led 0 0 2 (casc 2 5)), led 0 2 2 (casc 2 5)) := by decide +kernel
theorem t_4_2_5 : calls FT 38 23 none [I 4, I 2, I 5] = some (.val (.bool true), []) := tried_ok 30 4 2 5 (setsF 4 2) (setsF 4 3) (famsF (setsF 4 2) 5) (by decide) (by decide) (by decide) s_4_2 s_4_3 f_4_2_5 (by decide +kernel) (allSet (by decide +kernel)) (allOk (by decide +kernel)) r_4_2_5
theorem f_4_2_6 : calls FT 37 21 none [.list ((setsF 4 2).map T), I 6] = some (.new ((famsF (setsF 4 2) 6).map Fm), []) := okN_eq (by decide +kernel)
theorem r_4_2_6 : (famsF (setsF 4 2) 6).foldl (step (setsF 4 3) 2) (none, 0) = (some (led 0 0 2 (casc 2 6)), led 0 2 2 (casc 2 6)) := by decide +kernel
theorem t_4_2_6 : calls FT 38 23 none [I 4, I 2, I 6] = some (.val (.bool true), []) := tried_ok 30 4 2 6 (setsF 4 2) (setsF 4 3) (famsF (setsF 4 2) 6) (by decide) (by decide) (by decide) s_4_2 s_4_3 f_4_2_6 (by decide +kernel) (allSet (by decide +kernel)) (allOk (by decide +kernel)) r_4_2_6
theorem f_5_2_4 : calls FT 37 21 none [.list ((setsF 5 2).map T), I 4] = some (.new ((famsF (setsF 5 2) 4).map Fm), []) := okN_eq (by decide +kernel)
theorem r_5_2_4 : (famsF (setsF 5 2) 4).foldl (step (setsF 5 3) 2) (none, 0) = (some (led 0 0 2 (casc 2 4)), led 0 2 2 (casc 2 4)) := by decide +kernel
theorem t_5_2_4 : calls FT 38 23 none [I 5, I 2, I 4] = some (.val (.bool true), []) := tried_ok 30 5 2 4 (setsF 5 2) (setsF 5 3) (famsF (setsF 5 2) 4) (by decide) (by decide) (by decide) s_5_2 s_5_3 f_5_2_4 (by decide +kernel) (allSet (by decide +kernel)) (allOk (by decide +kernel)) r_5_2_4
theorem f_5_2_7 : calls FT 37 21 none [.list ((setsF 5 2).map T), I 7] = some (.new ((famsF (setsF 5 2) 7).map Fm), []) := okN_eq (by decide +kernel)
theorem r_5_2_7 : (famsF (setsF 5 2) 7).foldl (step (setsF 5 3) 2) (none, 0) = (some (led 0 0 2 (casc 2 7)), led 0 2 2 (casc 2 7)) := by decide +kernel
theorem t_5_2_7 : calls FT 38 23 none [I 5, I 2, I 7] = some (.val (.bool true), []) := tried_ok 30 5 2 7 (setsF 5 2) (setsF 5 3) (famsF (setsF 5 2) 7) (by decide) (by decide) (by decide) s_5_2 s_5_3 f_5_2_7 (by decide +kernel) (allSet (by decide +kernel)) (allOk (by decide +kernel)) r_5_2_7
theorem f_4_1_3 : calls FT 37 21 none [.list ((setsF 4 1).map T), I 3] = some (.new ((famsF (setsF 4 1) 3).map Fm), []) := okN_eq (by decide +kernel)
theorem r_4_1_3 : (famsF (setsF 4 1) 3).foldl (step (setsF 4 2) 1) (none, 0) = (some (led 0 0 1 (casc 1 3)), led 0 2 1 (casc 1 3)) := by decide +kernel
theorem t_4_1_3 : calls FT 38 23 none [I 4, I 1, I 3] = some (.val (.bool true), []) := tried_ok 30 4 1 3 (setsF 4 1) (setsF 4 2) (famsF (setsF 4 1) 3) (by decide) (by decide) (by decide) s_4_1 s_4_2 f_4_1_3 (by decide +kernel) (allSet (by decide +kernel)) (allOk (by decide +kernel)) r_4_1_3
theorem f_5_3_2 : calls FT 37 21 none [.list ((setsF 5 3).map T), I 2] = some (.new ((famsF (setsF 5 3) 2).map Fm), []) := okN_eq (by decide +kernel)
theorem r_5_3_2 : (famsF (setsF 5 3) 2).foldl (step (setsF 5 4) 3) (none, 0) = (some (led 0 0 3 (casc 3 2)), led 0 2 3 (casc 3 2)) := by decide +kernel
theorem t_5_3_2 : calls FT 38 23 none [I 5, I 3, I 2] = some (.val (.bool true), []) := tried_ok 30 5 3 2 (setsF 5 3) (setsF 5 4) (famsF (setsF 5 3) 2) (by decide) (by decide) (by decide) s_5_3 s_5_4 f_5_3_2 (by decide +kernel) (allSet (by decide +kernel)) (allOk (by decide +kernel)) r_5_3_2
theorem f_5_3_4 : calls FT 37 21 none [.list ((setsF 5 3).map T), I 4] = some (.new ((famsF (setsF 5 3) 4).map Fm), []) := okN_eq (by decide +kernel)
theorem r_5_3_4 : (famsF (setsF 5 3) 4).foldl (step (setsF 5 4) 3) (none, 0) = (some (led 0 0 3 (casc 3 4)), led 0 2 3 (casc 3 4)) := by decide +kernel
theorem t_5_3_4 : calls FT 38 23 none [I 5, I 3, I 4] = some (.val (.bool true), []) := tried_ok 30 5 3 4 (setsF 5 3) (setsF 5 4) (famsF (setsF 5 3) 4) (by decide) (by decide) (by decide) s_5_3 s_5_4 f_5_3_4 (by decide +kernel) (allSet (by decide +kernel)) (allOk (by decide +kernel)) r_5_3_4
theorem f_5_3_9 : calls FT 37 21 none [.list ((setsF 5 3).map T), I 9] = some (.new ((famsF (setsF 5 3) 9).map Fm), []) := okN_eq (by decide +kernel)
theorem r_5_3_9 : (famsF (setsF 5 3) 9).foldl (step (setsF 5 4) 3) (none, 0) = (some (led 0 0 3 (casc 3 9)), led 0 2 3 (casc 3 9)) := by decide +kernel
theorem t_5_3_9 : calls FT 38 23 none [I 5, I 3, I 9] = some (.val (.bool true), []) := tried_ok 30 5 3 9 (setsF 5 3) (setsF 5 4) (famsF (setsF 5 3) 9) (by decide) (by decide) (by decide) s_5_3 s_5_4 f_5_3_9 (by decide +kernel) (allSet (by decide +kernel)) (allOk (by decide +kernel)) r_5_3_9
end K30

namespace K30
open PySem PySem.W L2 Ev
def told : Ex := (.lst (.cons (.call 8 none (.cons (.con (.int 5)) (.cons (.con (.int 2)) .nil))) (.cons (.call 8 none (.cons (.con (.int 6)) (.cons (.con (.int 2)) .nil))) (.cons (.call 8 none (.cons (.con (.int 1)) (.cons (.con (.int 3)) .nil))) (.cons (.call 8 none (.cons (.con (.int 0)) (.cons (.con (.int 2)) .nil))) (.cons (.call 8 none (.cons (.con (.int 7)) (.cons (.con (.int 1)) .nil))) (.cons (.call 10 none (.cons (.con (.int 5)) (.cons (.con (.int 2)) .nil))) (.cons (.call 10 none (.cons (.con (.int 6)) (.cons (.con (.int 2)) .nil))) (.cons (.call 10 none (.cons (.con (.int 7)) (.cons (.con (.int 1)) .nil))) (.cons (.call 12 none (.cons (.con (.int 5)) (.cons (.con (.int 2)) .nil))) (.cons (.call 12 none (.cons (.con (.int 6)) (.cons (.con (.int 2)) .nil))) (.cons (.call 12 none (.cons (.con (.int 7)) (.cons (.con (.int 1)) .nil))) (.cons (.call 14 none (.cons (.con (.int 5)) (.cons (.con (.int 2)) .nil))) (.cons (.call 14 none (.cons (.con (.int 7)) (.cons (.con (.int 1)) .nil))) (.cons (.call 14 none (.cons (.con (.int 0)) (.cons (.con (.int 2)) .nil))) .nil)))))))))))))))
def due : Ex := (.lst (.cons (.tup (.cons (.con (.int 3)) (.cons (.con (.int 2)) .nil))) (.cons (.tup (.cons (.con (.int 4)) .nil)) (.cons (.tup (.cons (.con (.int 3)) .nil)) (.cons (.tup .nil) (.cons (.tup (.cons (.con (.int 7)) .nil)) (.cons (.con (.int 4)) (.cons (.con (.int 4)) (.cons (.con (.int 1)) (.cons (.con (.int 2)) (.cons (.con (.int 4)) (.cons (.con (.int 21)) (.cons (.con (.int 7)) (.cons (.con (.int 28)) (.cons (.con (.int 0)) .nil)))))))))))))))
def someX : Ex := (.bin .add c24_1 (.lst (.cons (.tup (.cons (.con (.int 5)) (.cons (.con (.int 2)) (.cons (.con (.int 4)) .nil)))) (.cons (.tup (.cons (.con (.int 5)) (.cons (.con (.int 2)) (.cons (.con (.int 7)) .nil)))) (.cons (.tup (.cons (.con (.int 4)) (.cons (.con (.int 1)) (.cons (.con (.int 3)) .nil)))) (.cons (.tup (.cons (.con (.int 5)) (.cons (.con (.int 3)) (.cons (.con (.int 2)) .nil)))) (.cons (.tup (.cons (.con (.int 5)) (.cons (.con (.int 3)) (.cons (.con (.int 4)) .nil)))) (.cons (.tup (.cons (.con (.int 5)) (.cons (.con (.int 3)) (.cons (.con (.int 9)) .nil)))) .nil))))))))
def LL : List PyData := [T [3, 2], T [4], T [3], T [], T [7], I 4, I 4, I 1, I 2, I 4, I 21, I 7, I 28, I 0]
def rowsL : List (Nat × Nat × Nat) := [(4, 2, 1), (4, 2, 2), (4, 2, 3), (4, 2, 4), (4, 2, 5), (4, 2, 6), (5, 2, 4), (5, 2, 7), (4, 1, 3), (5, 3, 2), (5, 3, 4), (5, 3, 9)]
def rowD (r : Nat × Nat × Nat) : PyData := .tuple [I r.1, I r.2.1, I r.2.2]
def okE0 (o : Option (Rs × En)) (l : List PyData) : Bool := match o with
  | some (.new e, [none, none, none, none, none]) => sameL e l
  | _ => false
theorem okE0_eq {o : Option (Rs × En)} {l : List PyData} (h : okE0 o l = true) : o = some (.new l, [none, none, none, none, none]) := by
  unfold okE0 at h
  split at h
  · rw [sameL_eq h]
  · cases h
def okE1 (o : Option (Rs × En)) (l a : List PyData) : Bool := match o with
  | some (.new e, [some (.own false false x), none, none, none, none]) => sameL e l && sameL x a
  | _ => false
theorem okE1_eq {o : Option (Rs × En)} {l a : List PyData} (h : okE1 o l a = true) : o = some (.new l, [some (.own false false a), none, none, none, none]) := by
  unfold okE1 at h
  split at h
  · rw [Bool.and_eq_true] at h
    rw [sameL_eq h.1, sameL_eq h.2]
  · cases h
def okE2 (o : Option (Rs × En)) (l a b : List PyData) : Bool := match o with
  | some (.new e, [some (.own false false x), some (.own false false y), none, none, none]) => sameL e l && sameL x a && sameL y b
  | _ => false
theorem okE2_eq {o : Option (Rs × En)} {l a b : List PyData} (h : okE2 o l a b = true) : o = some (.new l, [some (.own false false a), some (.own false false b), none, none, none]) := by
  unfold okE2 at h
  split at h
  · rw [Bool.and_eq_true, Bool.and_eq_true] at h
    rw [sameL_eq h.1.1, sameL_eq h.1.2, sameL_eq h.2]
  · cases h
theorem told_ok : (ev (calls FT 38) told).e [none, none, none, none, none] = some (.new LL, [none, none, none, none, none]) := okE0_eq (by decide +kernel)
theorem due_ok : (ev (calls FT 38) due).e [some (.own false false LL), none, none, none, none] = some (.new LL, [some (.own false false LL), none, none, none, none]) := okE1_eq (by decide +kernel)
theorem some_ok2 : (ev (calls FT 38) someX).e [some (.own false false LL), some (.own false false LL), none, none, none] = some (.new (rowsL.map rowD), [some (.own false false LL), some (.own false false LL), none, none, none]) := okE2_eq (by decide +kernel)
theorem likeL : calls FT 38 16 none [.list LL, .list LL] = some (.val (.bool true), []) := okV_eq (by decide +kernel)
theorem rows_ok : ∀ r ∈ rowsL, calls FT 38 23 none [I r.1, I r.2.1, I r.2.2] = some (.val (.bool true), []) := fun r hr => by
  simp only [rowsL, List.mem_cons, List.not_mem_nil, or_false] at hr
  rcases hr with rfl | rfl | rfl | rfl | rfl | rfl | rfl | rfl | rfl | rfl | rfl | rfl
  · exact t_4_2_1
  · exact t_4_2_2
  · exact t_4_2_3
  · exact t_4_2_4
  · exact t_4_2_5
  · exact t_4_2_6
  · exact t_5_2_4
  · exact t_5_2_7
  · exact t_4_1_3
  · exact t_5_3_2
  · exact t_5_3_4
  · exact t_5_3_9
theorem c24_ok : (ev (calls FT 38) c24_0).e [some (.own false false LL), some (.own false false LL), some (.own false false (rowsL.map rowD)), none, none] = some (.new [], [some (.own false false LL), some (.own false false LL), some (.own false false (rowsL.map rowD)), none, none]) := by
  unfold c24_0
  generalize LL = A
  have src : evSrc (calls FT 38) (.seq (.var 2)) [some (.own false false A), some (.own false false A), some (.own false false (rowsL.map rowD)), none, none] = some (rowsL.map rowD, [some (.own false false A), some (.own false false A), some (.own false true (rowsL.map rowD)), none, none], some (2, false)) := rfl
  refine ev_lc (ρ2 := [some (.own false false A), some (.own false false A), some (.own false true (rowsL.map rowD)), none, none]) src ?_ ?_
  · rfl
  · have := lcGo_map (ρ := [some (.own false false A), some (.own false false A), some (.own false true (rowsL.map rowD)), none, none]) (tg := [4]) (vs := [4]) (ifs := allT (evts (calls FT 38) (.cons (.not (.call 23 none (.cons (.idx (.var 4) (.con (.int 0))) (.cons (.idx (.var 4) (.con (.int 1))) (.cons (.idx (.var 4) (.con (.int 2))) .nil))))) .nil))) (e := (ev (calls FT 38) (.var 4)).e) (g := rowD) (p := fun _ => false) (h := rowD) rowsL fun r hr => by
      have k := rows_ok r hr
      have i0 : idxD (rowD r) (I 0) = some (I r.1) := atI0 _ _
      have i1 : idxD (rowD r) (I 1) = some (I r.2.1) := atI1 _ _ _
      have i2 : idxD (rowD r) (I 2) = some (I r.2.2) := atI2 _ _ _ _
      exact ⟨[some (.own false false A), some (.own false false A), some (.own false true (rowsL.map rowD)), none, some (.val (rowD r))], rfl, .inl ⟨rfl, [some (.own false false A), some (.own false false A), some (.own false true (rowsL.map rowD)), none, some (.val (rowD r))], ifs_one (t_not (t := true) (t_callN (s_cons (o_v rfl (e_idx (oa := .d _) (ob := .d _) (o_var rfl) (o_v rfl e_c0) r_d r_d i0)) (s_cons (o_v rfl (e_idx (oa := .d _) (ob := .d _) (o_var rfl) (o_v rfl e_c1) r_d r_d i1)) (s_cons (o_v rfl (e_idx (oa := .d _) (ob := .d _) (o_var rfl) (o_v rfl e_c2) r_d r_d i2)) s_nil))) (v_cons r_d (v_cons r_d (v_cons r_d v_nil))) rfl k)), rfl⟩⟩
    rw [show rowsL.filter (fun _ => false) = [] from rfl] at this
    exact this
theorem written_ok : calls FT 39 24 none [] = some (.val (.bool true), []) := by
  rw [calls_one (k := 38) (d := d24) rfl]
  refine x_run (ρ := [some (.own false false LL), some (.own false false LL), some (.own false false (rowsL.map rowD)), none, none]) (ρ0 := [none, none, none, none, none]) rfl rfl ?_ rfl
  refine x_nx (g_asgN told_ok rfl) (x_nx (g_asgN due_ok rfl) (x_nx (g_ifF (t_not (t := true) (t_e rfl (e_callB (os := [.bor 0, .bor 1]) (s_cons (o_own rfl) (s_cons (o_own rfl) s_nil)) (v_cons (r_bor rfl) (v_cons (r_bor rfl) v_nil)) likeL rfl) rfl)) xs_nil) (x_nx (g_asgN some_ok2 rfl) (x_rt (x_ret (e_cmp (oa := .d _) (ob := .d _) (o_n (c24_0_o _) c24_ok) (o_n rfl (e_lst f_nil v_nil rfl)) r_d r_d nil_eq))))))
theorem law_runs (ns : List Int) (h : ns.length ≤ 63) : calls FT 40 27 none [ro (ns.map PyData.int)] = some (.val (.bool true), []) := law_runs_of written_ok ns h
end K30

open PySem PySem.W PyProof.Rows
set_option maxHeartbeats 0 in
theorem PySem.Challenge.cw_holescounted_k30_whole_cascades_holds : PySem.Challenge.rw_holescounted_k30_whole_cascades.Holds := by
  w_on; o_law; k_head; (case hw => w_witness2)
  k_fill
  refine L2.walk_of (l := PySem.Challenge.rw_holescounted_k30_whole_cascades) (n := 63) (k := 40) (x := "script") (CX := fun _ => L2.CX0) (sp := fun w => Ev.spD _ 1 (Ev.calls K30.FT 40 27)) rfl (by decide) rfl ⟨rfl, by decide, by decide⟩ (fun w h Y => PySem.W.kIn_of Y) ?F (fun _ H a ns hl _ hS => Ev.law_sp hS (K30.law_runs ns hl)) (fun _ _ _ _ _ h => h)
  case F =>
    intro w mg fa h KX G hmg
    refine Ev.law_end K30.stats ⟨?F0, ?F1, ?F2, ?F3, ?F4, ?F5, ?F6, ?F7, ?F8, ?F9, ?F10, ?F11, ?F12, ?F13, ?F14, ?F15, ?F16, ?F17, ?F18, ?F19, ?F20, ?F21, ?F22, ?F23, ?F24, ?F25, ?F26, ?F27, trivial⟩ ?z ?g ?b 40 27 rfl rfl rfl hmg
    case F0 =>
      refine' Ev.fact1 KX G ?a ?l ?c ?k (fun _ _ _ _ _ _ us hl => match us, hl with | [_], _ => rfl)
      (case a => k_is); (case l => k_is); (case c => k_is); (case k => k_is)
    case F1 =>
      refine' Ev.fact1 KX G ?a ?l ?c ?k (fun _ _ _ _ _ _ us hl => match us, hl with | [_, _], _ => rfl)
      (case a => k_is); (case l => k_is); (case c => k_is); (case k => k_is)
    case F2 =>
      refine' Ev.fact1 KX G ?a ?l ?c ?k (fun _ _ _ _ _ _ us hl => match us, hl with | [_, _], _ => rfl)
      (case a => k_is); (case l => k_is); (case c => k_is); (case k => k_is)
    case F3 =>
      refine' Ev.fact1 KX G ?a ?l ?c ?k (fun _ _ _ _ _ _ us hl => match us, hl with | [_, _, _], _ => rfl)
      (case a => k_is); (case l => k_is); (case c => k_is); (case k => k_is)
    case F4 =>
      refine' Ev.fact1 KX G ?a ?l ?c ?k (fun _ _ _ _ _ _ us hl => match us, hl with | [_, _, _], _ => rfl)
      (case a => k_is); (case l => k_is); (case c => k_is); (case k => k_is)
    case F5 =>
      refine' Ev.fact1 KX G ?a ?l ?c ?k (fun _ _ _ _ _ _ us hl => match us, hl with | [_, _], _ => rfl)
      (case a => k_is); (case l => k_is); (case c => k_is); (case k => k_is)
    case F6 =>
      refine' Ev.fact1 KX G ?a ?l ?c ?k (fun _ _ _ _ _ _ us hl => match us, hl with | [_, _], _ => rfl)
      (case a => k_is); (case l => k_is); (case c => k_is); (case k => k_is)
    case F7 =>
      refine' Ev.fact1 KX G ?a ?l ?c ?k (fun _ _ _ _ _ _ us hl => match us, hl with | [_, _], _ => rfl)
      (case a => k_is); (case l => k_is); (case c => k_is); (case k => k_is)
    case F8 =>
      refine' Ev.fact1 KX G ?a ?l ?c ?k (fun _ _ _ _ _ _ us hl => match us, hl with | [_, _], _ => rfl)
      (case a => k_is); (case l => k_is); (case c => k_is); (case k => k_is)
    case F9 =>
      refine' Ev.fact1 KX G ?a ?l ?c ?k (fun _ _ _ _ _ _ us hl => match us, hl with | [_, _], _ => rfl)
      (case a => k_is); (case l => k_is); (case c => k_is); (case k => k_is)
    case F10 =>
      refine' Ev.fact1 KX G ?a ?l ?c ?k (fun _ _ _ _ _ _ us hl => match us, hl with | [_, _], _ => rfl)
      (case a => k_is); (case l => k_is); (case c => k_is); (case k => k_is)
    case F11 =>
      refine' Ev.fact1 KX G ?a ?l ?c ?k (fun _ _ _ _ _ _ us hl => match us, hl with | [_, _], _ => rfl)
      (case a => k_is); (case l => k_is); (case c => k_is); (case k => k_is)
    case F12 =>
      refine' Ev.fact1 KX G ?a ?l ?c ?k (fun _ _ _ _ _ _ us hl => match us, hl with | [_, _], _ => rfl)
      (case a => k_is); (case l => k_is); (case c => k_is); (case k => k_is)
    case F13 =>
      refine' Ev.fact1 KX G ?a ?l ?c ?k (fun _ _ _ _ _ _ us hl => match us, hl with | [_, _], _ => rfl)
      (case a => k_is); (case l => k_is); (case c => k_is); (case k => k_is)
    case F14 =>
      refine' Ev.fact1 KX G ?a ?l ?c ?k (fun _ _ _ _ _ _ us hl => match us, hl with | [_, _], _ => rfl)
      (case a => k_is); (case l => k_is); (case c => k_is); (case k => k_is)
    case F15 =>
      refine' Ev.fact1 KX G ?a ?l ?c ?k (fun _ _ _ _ _ _ us hl => match us, hl with | [_], _ => rfl)
      (case a => k_is); (case l => k_is); (case c => k_is); (case k => k_is)
    case F16 =>
      refine' Ev.fact1 KX G ?a ?l ?c ?k (fun _ _ _ _ _ _ us hl => match us, hl with | [_, _], _ => rfl)
      (case a => k_is); (case l => k_is); (case c => k_is); (case k => k_is)
    case F17 =>
      refine' Ev.fact1 KX G ?a ?l ?c ?k (fun _ _ _ _ _ _ us hl => match us, hl with | [_, _], _ => rfl)
      (case a => k_is); (case l => k_is); (case c => k_is); (case k => k_is)
    case F18 =>
      refine' Ev.fact1 KX G ?a ?l ?c ?k (fun _ _ _ _ _ _ us hl => match us, hl with | [_, _, _, _], _ => rfl)
      (case a => k_is); (case l => k_is); (case c => k_is); (case k => k_is)
    case F19 =>
      refine' Ev.fact1 KX G ?a ?l ?c ?k (fun _ _ _ _ _ _ us hl => match us, hl with | [_, _], _ => rfl)
      (case a => k_is); (case l => k_is); (case c => k_is); (case k => k_is)
    case F20 =>
      refine' Ev.fact1 KX G ?a ?l ?c ?k (fun _ _ _ _ _ _ us hl => match us, hl with | [_], _ => rfl)
      (case a => k_is); (case l => k_is); (case c => k_is); (case k => k_is)
    case F21 =>
      refine' Ev.fact1 KX G ?a ?l ?c ?k (fun _ _ _ _ _ _ us hl => match us, hl with | [_, _], _ => rfl)
      (case a => k_is); (case l => k_is); (case c => k_is); (case k => k_is)
    case F22 =>
      refine' Ev.fact1 KX G ?a ?l ?c ?k (fun _ _ _ _ _ _ us hl => match us, hl with | [_, _], _ => rfl)
      (case a => k_is); (case l => k_is); (case c => k_is); (case k => k_is)
    case F23 =>
      refine' Ev.fact1 KX G ?a ?l ?c ?k (fun _ _ _ _ _ _ us hl => match us, hl with | [_, _, _], _ => rfl)
      (case a => k_is); (case l => k_is); (case c => k_is); (case k => k_is)
    case F24 =>
      refine' Ev.fact1 KX G ?a ?l ?c ?k (fun _ _ _ _ _ _ us hl => match us, hl with | [], _ => rfl)
      (case a => k_is); (case l => k_is); (case c => k_is); (case k => k_is)
    case F25 =>
      refine' Ev.fact1 KX G ?a ?l ?c ?k (fun _ _ _ _ _ _ us hl => match us, hl with | [_, _], _ => rfl)
      (case a => k_is); (case l => k_is); (case c => k_is); (case k => k_is)
    case F26 =>
      refine' Ev.fact1 KX G ?a ?l ?c ?k (fun _ _ _ _ _ _ us hl => match us, hl with | [_, _], _ => rfl)
      (case a => k_is); (case l => k_is); (case c => k_is); (case k => k_is)
    case F27 =>
      refine' Ev.fact1 KX G ?a ?l ?c ?k (fun _ _ _ _ _ _ us hl => match us, hl with | [_], _ => rfl)
      (case a => k_is); (case l => k_is); (case c => k_is); (case k => k_is)
    case z =>
      refine' Ev.free_cons KX G ?z0 (Ev.free_cons KX G ?z1 (Ev.free_cons KX G ?z2 (Ev.free_cons KX G ?z3 (Ev.free_cons KX G ?z4 (Ev.free_cons KX G ?z5 (Ev.free_cons KX G ?z6 (Ev.free_cons KX G ?z7 (Ev.free_cons KX G ?z8 (Ev.free_cons KX G ?z9 (Ev.free_cons KX G ?z10 (Ev.free_cons KX G ?z11 (Ev.free_cons KX G ?z12 (Ev.free_cons KX G ?z13 (Ev.free_cons KX G ?z14 (Ev.free_nil)))))))))))))))
      (case z0 => k_is)
      (case z1 => k_is)
      (case z2 => k_is)
      (case z3 => k_is)
      (case z4 => k_is)
      (case z5 => k_is)
      (case z6 => k_is)
      (case z7 => k_is)
      (case z8 => k_is)
      (case z9 => k_is)
      (case z10 => k_is)
      (case z11 => k_is)
      (case z12 => k_is)
      (case z13 => k_is)
      (case z14 => k_is)
    case b =>
      refine' Ev.bl_cons KX G ?z0 (Ev.bl_nil)
      (case z0 => k_is)
    case g =>
      refine' Ev.gt_int KX G ?z0 (Ev.gt_int KX G ?z1 (Ev.gt_nil))
      (case z0 => k_is)
      (case z1 => k_is)

