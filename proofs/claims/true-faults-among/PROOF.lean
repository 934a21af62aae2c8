import PyProof.Rows.All
import Wide.All
import OpenK.AllK
import Wide.FinOn
import KE.KStateDown
import HandS.ForMost
import HandS.Defaults
import HandS.Head0
import HandS.Head1
import HandS.Head2
import HandS.HeadEnd
import HandS.HeadHook1
import HandS.HeadHook2
import HandS.HeadHook3
import HandS.HeadHook4
import HandS.Walk
import KE.GoesEnum
import KE.GoesMore
import HandS.Deep
import HandS.IsInst
import HandS.TupAny
import HandS.DictTup
import KE.SortData
import KE.KDictPairs
import KE.KDictCopyH
import HandS.TupSets
import HandS.Strs
import PySem.Challenge.RW_warnloop_k45_whole_true_faults_among
set_option Elab.async false
set_option linter.all false
set_option maxRecDepth 100000
set_option maxHeartbeats 4000000
namespace Wl
open PySem PySem.Spec PyProof.Rows L2
/-! the text, by the places of its top -/
abbrev pw : Program := PySem.Challenge.pw_warnloop_k45_whole_true_faults_among
def atTop (i : Nat) : Stmt := pw.main.body.getD i (.Pass ⟨0, 0, 0, 0⟩)
def dAt (i : Nat) (x : Str) : He.DefD := ⟨(x, none), x, x, defArgs (atTop i), defBody (atTop i), defScope (atTop i), [], []⟩
def fnL : List He.DefD := [dAt 6 "is_whole", dAt 7 "is_name", dAt 8 "rises", dAt 9 "are_rising", dAt 20 "is_device", dAt 21 "is_place", dAt 22 "is_loop", dAt 23 "is_zone", dAt 24 "are_zones", dAt 25 "is_plan", dAt 26 "devices", dAt 27 "stretches", dAt 28 "openers", dAt 29 "parts", dAt 30 "told_twice", dAt 31 "crowded", dAt 32 "zone_at_odds", dAt 33 "wrong", dAt 34 "is_let_by", dAt 36 "spur_come_to", dAt 37 "come_to", dAt 38 "steps_of", dAt 39 "feels", dAt 40 "heard_by", dAt 43 "need_plan", dAt 44 "heard_so", dAt 45 "of_loop", dAt 46 "single_faults", dAt 47 "fault_sets", dAt 48 "agreeing", dAt 50 "_law_bag", dAt 51 "_law_take", dAt 52 "_law_name", dAt 53 "_law_names", dAt 54 "_law_loop", dAt 55 "_law_parts", dAt 56 "_law_plan", dAt 57 "_law_walk", dAt 58 "_law_gates", dAt 59 "_law_feels", dAt 60 "_law_singles", dAt 61 "_law_due", dAt 62 "_law_spots", dAt 63 "_law_sets", dAt 64 "_law_drawn", dAt 65 "law"]
def faL : List He.Fa := [.glo "is_whole", .glo "is_name", .glo "rises", .glo "are_rising", .glo "is_device", .glo "is_place", .glo "is_loop", .glo "is_zone", .glo "are_zones", .glo "is_plan", .glo "devices", .glo "stretches", .glo "openers", .glo "parts", .glo "told_twice", .glo "crowded", .glo "zone_at_odds", .glo "wrong", .glo "is_let_by", .glo "spur_come_to", .glo "come_to", .glo "steps_of", .glo "feels", .glo "heard_by", .glo "need_plan", .glo "heard_so", .glo "of_loop", .glo "single_faults", .glo "fault_sets", .glo "agreeing", .glo "_law_bag", .glo "_law_take", .glo "_law_name", .glo "_law_names", .glo "_law_loop", .glo "_law_parts", .glo "_law_plan", .glo "_law_walk", .glo "_law_gates", .glo "_law_feels", .glo "_law_singles", .glo "_law_due", .glo "_law_spots", .glo "_law_sets", .glo "_law_drawn", .glo "law", .str "LETTERS" "abcdefghijklmnopqrstuvwxyz", .int "MOST_LETTERS" 8, .str "OPENER" "opener", .int "MOST_ADDRESS" 99, .int "MOST_DEVICES" 30, .int "MOST_LOOPS" 3, .int "MOST_PLACES" 12, .int "MOST_SPUR" 3, .int "MOST_ZONES" 8, .free "isinstance", .free "int", .free "bool", .free "str", .free "tuple", .free "len", .free "all", .free "any", .free "range", .free "enumerate", .free "set", .free "dict", .free "sorted", .free "min", .free "max", .free "abs", .glo "KINDS", .glo "TOLD_BY", .glo "HOWS"]
def exB (K : PySem.W.Frag) : Bool := He.tupB K "KINDS" [.str "seeker", .str "knob", .str "bell", .str "door"] && He.tupB K "TOLD_BY" [.str "seeker", .str "knob"] && He.tupB K "HOWS" [.str "cut", .str "short"]
abbrev R : PySem.W.OpenRow := PySem.W.OpenLaw.row PySem.Challenge.rw_warnloop_k45_whole_true_faults_among
abbrev hk : PySem.W.Hook := He.hookX 4 faL fnL [] [] exB
def ob (s : PySem.W.SharedT) : He.AlX := He.obsX 4 faL fnL [] [] exB (HandSHeadRun.getT s)
theorem ob_eq (s : PySem.W.SharedT) : ob s = hk.obs s.abs := He.obsX_eq (HandSHeadRun.getT_eq s)
def names0 : List PySem.Str := ["HouseError", "NoPlan", "LETTERS", "MOST_LETTERS", "is_whole", "is_name", "rises", "are_rising", "KINDS", "TOLD_BY", "OPENER", "MOST_ADDRESS", "MOST_DEVICES", "MOST_LOOPS", "MOST_PLACES", "MOST_SPUR", "MOST_ZONES", "is_device", "is_place", "is_loop", "is_zone", "are_zones", "is_plan", "devices", "stretches"]
def names1 : List PySem.Str := ["openers", "parts", "told_twice", "crowded", "zone_at_odds", "wrong", "is_let_by", "spur_come_to", "come_to", "steps_of", "feels", "heard_by", "HOWS", "need_plan", "heard_so", "of_loop", "single_faults", "fault_sets", "agreeing", "_law_bag", "_law_take", "_law_name", "_law_names", "_law_loop", "_law_parts"]
def names2 : List PySem.Str := ["_law_plan", "_law_walk", "_law_gates", "_law_feels", "_law_singles", "_law_due", "_law_spots", "_law_sets", "_law_drawn"]
def names : List PySem.Str := names0 ++ names1 ++ names2
def lawAt : Nat := 65
end Wl
set_option Elab.async false
set_option linter.all false
set_option maxRecDepth 100000
set_option maxHeartbeats 0
namespace Wl
open PySem PySem.Spec PyProof.Rows L2
theorem run (w : World) : HandSHeadRun.RunEq R (PySem.W.view R.prog [65]) hk ob 6000 names w := by
  intro os
  kernel_rfl
end Wl
set_option Elab.async false
set_option linter.all false
set_option maxRecDepth 100000
set_option maxHeartbeats 4000000
/-! enumerate(a tuple) for the hand layer -/
namespace Wl
open PySem PySem.Spec PyProof.Rows L2
set_option maxHeartbeats 1000000 in
theorem enumT_new (t : Addr) (items : Array Value) :
    Meets (Builtin.«enumerate.__new__» ⟨[.type "enumerate", .ref t], []⟩) (fun _ R s => s.heap.IsTuple t items ∧
      R (.ok (.ret (.ref (s.heap.push { cls := .type "tuple_iterator", data := .fields #[.ref t, .int 0 0] }).objs.size)))
        { s with heap := (s.heap.push { cls := .type "tuple_iterator", data := .fields #[.ref t, .int 0 0] }).push { cls := .type "enumerate", data := .fields #[.none, .bool false, .ref s.heap.objs.size, rawInt 0, .none, .none] } }) :=
  .of_wp fun prog w A R s h => by
    obtain ⟨hp, g, d, tk, os⟩ := s
    obtain ⟨h1, h⟩ := h
    have hsub := sub_enumerate
    have q1 : ∀ {A' : Around} {E : Value → Shared → Prop} {Q : Value → Shared → Prop}, Q (.ref hp.objs.size) ⟨hp.push { cls := .type "tuple_iterator", data := .fields #[.ref t, .int 0 0] }, g, d, tk, os⟩ → wpAny (model prog w) A' (pyIter (.ref t)) Q E ⟨hp, g, d, tk, os⟩ :=
      fun q => wpAny_pyIter_tuple h1 q
    wp_walk using q1
    refine wpAny_stack_any fun st => wpAny_pure ?_
    split
    · rename_i c _ _ _ _ _
      cases (c == Value.type "enumerate")
      · wp_walk using q1
        exact ⟨_, rfl, h⟩
      · wp_walk using q1
        exact ⟨_, rfl, h⟩
    · wp_walk using q1
      exact ⟨_, rfl, h⟩
section
variable {prog : Program} {w : World} {A : Around} {E : Value → Shared → Prop} {s : Shared}
theorem call_enumT {l : Addr} {items : Array Value} {Q : Value → Shared → Prop} (hL : s.heap.IsTuple l items)
    (h : ∀ h', IsEnum h' (s.heap.objs.size + 1) s.heap.objs.size 0 .none → h'.IsTupleIter s.heap.objs.size l 0 →
      (∀ b o, s.heap.get? b = some o → h'.get? b = some o) → Q (.ref (s.heap.objs.size + 1)) { s with heap := h' }) :
    wpAny (model prog w) A (call (.type "enumerate") [.ref l]) Q E s := by
  refine callType_new F.called_enumerate (by decide) (F.typeCall_enumerate_1 _) (F.newCall_enumerate_1 _) (fun obj => F.args_object_init_2 obj _) F.entry_enumerate_new
    (enumT_new l items) ⟨hL, ?_⟩
  have hz : (s.heap.push { cls := .type "tuple_iterator", data := .fields #[.ref l, .int 0 0] }).objs.size = s.heap.objs.size + 1 := Heap.size_push ..
  show _ ∧ _
  rw [hz]
  have he : IsEnum ((s.heap.push { cls := .type "tuple_iterator", data := .fields #[.ref l, .int 0 0] }).push
      { cls := .type "enumerate", data := .fields #[.none, .bool false, .ref s.heap.objs.size, rawInt 0, .none, .none] }) (s.heap.objs.size + 1) s.heap.objs.size 0 .none := by
    have z := Heap.get?_push_size (s.heap.push { cls := .type "tuple_iterator", data := .fields #[.ref l, .int 0 0] })
      (o := { cls := .type "enumerate", data := .fields #[.none, .bool false, .ref s.heap.objs.size, rawInt 0, .none, .none] }) rfl
    rw [hz] at z
    exact z
  exact ⟨⟨_, he, rfl⟩, h _ he ⟨_, Heap.get?_push_of_some _ (Heap.get?_push_size _ rfl), rfl, rfl⟩ fun b o x => Heap.get?_push_of_some _ (Heap.get?_push_of_some _ x)⟩
end
/-- the tuple at a, each item in a new pair -/
def ItE (K : PySem.W.Frag) (a : Addr) : It where
  go := fun i H => ∃ (xs : List V) (x : V), SqT K H a xs ∧ xs[i]? = some x
  yld := fun i H v H' => ∃ T x, v = .ref T ∧ H T = none ∧ H' = upd H T (.tup [.int (i : Nat), x]) ∧ ∀ xs, SqT K H a xs → xs[i]? = some x
  stop := fun i H => ∃ xs : List V, SqT K H a xs ∧ xs.length = i
theorem turn_enumT {P : Program} {w : World} {K : PySem.W.Frag} {elts : List Expr} {kk : Nat} {tpos : Pos} (a e it : Addr) :
    Turn P w K (.Tuple elts kk tpos) (ItE K a) [e, it] e (fun i h => (∃ old, IsEnum h e it ((i : Nat) : Int) old) ∧ h.IsTupleIter it a i ∧ e ≠ it ∧ a ≠ it ∧ e ≠ a) where
  mem := by simp
  obj := fun i h st b hb => by
    obtain ⟨⟨old, he⟩, ⟨o, ho, hc, hd⟩, _⟩ := st
    have e' : b = e ∨ b = it := by simpa using hb
    rcases e' with z | z
    · rw [z]; exact ⟨_, he, fun v q => nomatch q⟩
    · rw [z]; exact ⟨o, ho, fun v q => by rw [hd] at q; cases q⟩
  keep := fun i h h' st k => let ⟨⟨old, he⟩, hi, hne⟩ := st; ⟨⟨old, k e (by simp) _ he⟩, hi.at fun o q => k it (by simp) o q, hne⟩
  item := by
    intro X hP hw hK hc i pins s σ H E I hf st hg
    subst hP hw hK
    obtain ⟨⟨old, he⟩, hit, hne, hai, hea⟩ := st
    obtain ⟨xs, x, hq, hx⟩ := hg
    obtain ⟨its, rv, p, hz⟩ := I.tuple hq
    obtain ⟨u, hu, ru⟩ := rv.get hx
    have hel : e < s.heap.objs.size := Heap.lt_size he
    have hil : it < s.heap.objs.size := by obtain ⟨_, q, _⟩ := hit; exact Heap.lt_size q
    have hi : i < its.toArray.size := by
      have := (List.getElem?_eq_some_iff.mp hu).1
      simpa using this
    have D := Draws.tuple (prog := X.prog) (w := X.w) (A := X.A.in1) (I.ok.hd hc) it a hai its.toArray
    refine wpAny_pyNext_enum_itemD D he ⟨hit, p⟩ hi hne (by simp [hne, hea]) fun x' h' tk hx' ho hit' hT hsz hk => ?_
    have ex : x' = u := by
      have h1 : its[i]? = some x' := by simpa using hx'
      rw [hu] at h1
      exact (Option.some.inj h1).symm
    subst ex
    refine ⟨_, rfl, wpAny_letOwnedTupleGo_enum (s := { s with heap := h', toks := tk + 1 }) ho fun h'' he' sb => ?_⟩
    have hT2 : h''.get? s.heap.objs.size = some { cls := .type "tuple", data := .seq #[.int i tk, x'] } := (sb.2 _ (Nat.ne_of_gt hel)).trans hT
    have new : ObjOk X.prog X.w (upd H s.heap.objs.size (.tup [.int (i : Nat), x])) h'' s.heap.objs.size (.tup [.int (i : Nat), x]) :=
      ⟨by show 2 ≤ sizeLine; decide, [.int i tk, x'], .cons ⟨_, rfl⟩ (.cons ru .nil), ⟨_, hT2, rfl, _, rfl⟩⟩
    have I1 : Inv X pins σ (upd H s.heap.objs.size (.tup [.int (i : Nat), x])) { s with heap := h'', toks := tk + 1 } :=
      I.turnedNew (ch := [e, it]) (fun b ob hb q => (sb.2 b (fun z => hb (by simp [z]))).trans (hk b ob (fun z => hb (by simp [z])) (fun z => hb (by simp [z])) q)) hf (Nat.le_refl _) new
    refine ⟨.ref s.heap.objs.size, _, I1, rfl, ⟨_, x, rfl, I.hok.fresh (Nat.le_refl _), rfl, fun ys hy => by rw [I.tuple_inj hy hq]; exact hx⟩, ⟨⟨x', ?_⟩, hit'.1.at fun o q => (sb.2 it (Ne.symm hne)).trans q, hne, hai, hea⟩, fun b hb => ?_⟩
    · have e1 : ((i + 1 : Nat) : Int) = (i : Int) + 1 := by omega
      rw [e1]
      exact he'
    · have hb' : b < s.heap.objs.size := by
        have e' : b = e ∨ b = it := by simpa using hb
        rcases e' with z | z
        · rw [z]; exact hel
        · rw [z]; exact hil
      rw [upd_ne (Nat.ne_of_lt hb')]
      exact (hf b hb).1
  done := by
    intro X hP hw hK hc i pins s σ H E I hf st hg
    subst hP hw hK
    obtain ⟨⟨old, he⟩, hit, hne, hai, hea⟩ := st
    obtain ⟨xs, hq, hx⟩ := hg
    obtain ⟨its, rv, p, hz⟩ := I.tuple hq
    obtain ⟨f0, f1, f2, f3, f4, f5⟩ := hf it (by simp)
    have hl := rv.length
    have D := Draws.tuple (prog := X.prog) (w := X.w) (A := X.A.in1) (I.ok.hd hc) it a hai its.toArray
    have e1 : i = its.toArray.size := by
      rw [← hx, hl]
      simp
    subst e1
    exact wpAny_pyNext_enum_endD D he ⟨hit, p⟩ fun h' eb => ⟨rfl, I.turned (t' := s.toks) (fun b o hb q => eb b o hb q) f0 f1 f3 f4 f5⟩
  self := fun A i s Q E st h => let ⟨⟨_, he⟩, _⟩ := st; wpAny_pyIter_enum he h
def iEnumT (K : PySem.W.Frag) (ta : TA) : TI := fun σ H R => ta σ H fun vs H1 => ∃ a xs, vs = [.ref a] ∧ SqT K H1 a xs ∧ R (ItE K a) H1
theorem pi_enumT {X : Cx} {e : Expr} {ta : TA} {p pos tpos : Pos} {elts : List Expr} {kk : Nat} (hg : Gl X "enumerate") (hm : X.mg "enumerate" = none) (ha : PA X [e] ta) (hs : starEach [e] X.env = [(false, eval e X.env)] := by rfl) :
    PI X (.Tuple elts kk tpos) (.Call (.Name "enumerate" p) [e] [] pos) (iEnumT X.K ta) := by
  refine ⟨fun pins s σ H R I h => ?_⟩
  refine Call_ (ld_blt I hg hm boot_enumerate (PyProof.Rows.callWith_type1 (thn (ha.run pos pins s σ H _ I h) fun us s1 ⟨vs, H1, I1, r1, q1⟩ => ?_) hs rfl))
  obtain ⟨a, xs, ex, hq, q⟩ := q1
  subst ex
  cases r1 with
  | cons r rr =>
    cases rr
    cases r
    obtain ⟨its, rv, p', hz⟩ := I1.tuple hq
    have al : a < s1.heap.objs.size := p'.lt
    refine call_enumT (show s1.heap.IsTuple a its.toArray from p') fun h' he hit hk => wpAny_pyIter_enum he ?_
    have I2 : Inv X pins σ H1 { s1 with heap := h' } := I1.kept (t' := s1.toks) hk
    refine ⟨s1.heap.objs.size + 1, [s1.heap.objs.size + 1, s1.heap.objs.size], _, _, H1, rfl, I2, turn_enumT a (s1.heap.objs.size + 1) s1.heap.objs.size, ⟨⟨.none, he⟩, hit, Nat.succ_ne_self _, Nat.ne_of_lt al, Nat.ne_of_gt (Nat.lt_succ_of_lt al)⟩, fun b hb => ?_, q⟩
    have e2 : b = s1.heap.objs.size + 1 ∨ b = s1.heap.objs.size := by simpa using hb
    have hle : s1.heap.objs.size ≤ b := by
      rcases e2 with z | z
      · rw [z]; exact Nat.le_add_right _ _
      · rw [z]; exact Nat.le_refl _
    exact I1.fpOk hle (I1.hok.fresh hle)
end Wl
set_option Elab.async false
set_option linter.all false
set_option maxRecDepth 100000
set_option maxHeartbeats 4000000
/-! A symbolic layer: tuples are plain data, lists and dicts stand in a small memory told by a list. -/
namespace Wl
open PySem PySem.Spec PyProof.Rows L2

/-- what a value stands for -/
inductive U where
  | non | bl (b : Bool) | int (i : Int) | str (x : Str)
  | tup (l : List U)
  | ptr (a : Addr)
  /-- a list that stands still -/
  | fl (l : List U)
  /-- a tuple that is known to bear no dict of its own -/
  | tf (l : List U)
abbrev Rho := List (Option U)
/-- a list that none may write -/
def Stil (K : PySem.W.Frag) (H : Hp) (a : Addr) (xs : List V) : Prop :=
  (∃ o, H a = some (.frz o (.lst xs))) ∨ ∀ H' : Hp, SqL K H' a xs
theorem Stil.sq {K : PySem.W.Frag} {H : Hp} {a : Addr} {xs : List V} (h : Stil K H a xs) : SqL K H a xs := by
  rcases h with ⟨o, h⟩ | h
  · exact .inl (.inr ⟨o, h⟩)
  · exact h H
mutual
inductive Rp (K : PySem.W.Frag) (H : Hp) : V → U → Prop
  | non : Rp K H .non .non
  | bl (b : Bool) : Rp K H (.bl b) (.bl b)
  | int (i : Int) : Rp K H (.int i) (.int i)
  | str (x : Str) : Rp K H (.str x) (.str x)
  | tup {a : Addr} {xs : List V} {us : List U} : H a = some (.tup xs) → RpA K H xs us → Rp K H (.ref a) (.tup us)
  | ptr (a : Addr) : Rp K H (.ref a) (.ptr a)
  | fl {a : Addr} {xs : List V} {us : List U} : Stil K H a xs → RpA K H xs us → Rp K H (.ref a) (.fl us)
  | tf {a : Addr} {o : Obj} {xs : List V} {us : List U} : H a = some (.frz o (.tup xs)) → o.dict = none → RpA K H xs us → Rp K H (.ref a) (.tf us)
inductive RpA (K : PySem.W.Frag) (H : Hp) : List V → List U → Prop
  | nil : RpA K H [] []
  | cons {v : V} {vs : List V} {u : U} {us : List U} : Rp K H v u → RpA K H vs us → RpA K H (v :: vs) (u :: us)
end
/-- tuples, and what stands still, are kept -/
structure Tp (H H' : Hp) : Prop where
  tup : ∀ b xs, H b = some (.tup xs) → H' b = some (.tup xs)
  frz : ∀ b o u, H b = some (.frz o u) → H' b = some (.frz o u)
theorem Tp.refl (H : Hp) : Tp H H := ⟨fun _ _ h => h, fun _ _ _ h => h⟩
theorem Tp.trans {H H1 H2 : Hp} (a : Tp H H1) (b : Tp H1 H2) : Tp H H2 := ⟨fun c xs h => b.tup c xs (a.tup c xs h), fun c o u h => b.frz c o u (a.frz c o u h)⟩
theorem Tp.new {H : Hp} {p : Addr} {o : HO} (h : H p = none) : Tp H (upd H p o) := by
  refine ⟨fun b xs e => ?_, fun b ob u e => ?_⟩ <;> (rw [upd_ne (ne_of_none e h)]; exact e)
/-- a thing that is no tuple and does not stand still -/
def Loose : HO → Prop
  | .tup _ => False
  | .frz _ _ => False
  | _ => True
theorem Tp.mut {H : Hp} {p : Addr} {o u : HO} (h : H p = some u) (l : Loose u) : Tp H (upd H p o) := by
  have ne : ∀ b w, H b = some w → ¬ Loose w → b ≠ p := fun b w e n z => by
    subst z
    rw [h] at e
    cases e
    exact n l
  refine ⟨fun b xs e => ?_, fun b ob w e => ?_⟩
  · rw [upd_ne (ne b _ e fun z => z)]
    exact e
  · rw [upd_ne (ne b _ e fun z => z)]
    exact e
theorem Stil.mono {K : PySem.W.Frag} {H H' : Hp} {a : Addr} {xs : List V} (t : Tp H H') (h : Stil K H a xs) : Stil K H' a xs := by
  rcases h with ⟨o, h⟩ | h
  · exact .inl ⟨o, t.frz _ _ _ h⟩
  · exact .inr h
mutual
theorem Rp.mono {K : PySem.W.Frag} {H H' : Hp} (t : Tp H H') : ∀ {v : V} {u : U}, Rp K H v u → Rp K H' v u
  | _, _, .non => .non
  | _, _, .bl b => .bl b
  | _, _, .int i => .int i
  | _, _, .str x => .str x
  | _, _, .tup e r => .tup (t.tup _ _ e) (RpA.mono t r)
  | _, _, .ptr a => .ptr a
  | _, _, .fl e r => .fl (e.mono t) (RpA.mono t r)
  | _, _, .tf e d r => .tf (t.frz _ _ _ e) d (RpA.mono t r)
theorem RpA.mono {K : PySem.W.Frag} {H H' : Hp} (t : Tp H H') : ∀ {vs : List V} {us : List U}, RpA K H vs us → RpA K H' vs us
  | _, _, .nil => .nil
  | _, _, .cons r s => .cons (Rp.mono t r) (RpA.mono t s)
end
section
variable {K : PySem.W.Frag} {H : Hp}
theorem RpA.length : ∀ {vs : List V} {us : List U}, RpA K H vs us → vs.length = us.length
  | _, _, .nil => rfl
  | _, _, .cons _ s => congrArg Nat.succ (RpA.length s)
theorem RpA.get : ∀ {vs : List V} {us : List U} {i : Nat} {u : U}, RpA K H vs us → us[i]? = some u → ∃ v, vs[i]? = some v ∧ Rp K H v u
  | _, _, _, _, .nil, e => by simp at e
  | _, _, 0, _, .cons r _, e => by
    simp at e
    subst e
    exact ⟨_, rfl, r⟩
  | _, _, i + 1, u, .cons _ s, e => by
    obtain ⟨v, h1, h2⟩ := RpA.get (i := i) (u := u) s (by simpa using e)
    exact ⟨v, by simpa using h1, h2⟩
theorem RpA.get' : ∀ {vs : List V} {us : List U} {i : Nat} {v : V}, RpA K H vs us → vs[i]? = some v → ∃ u, us[i]? = some u ∧ Rp K H v u
  | _, _, _, _, .nil, e => by simp at e
  | _, _, 0, _, .cons r _, e => by
    simp at e
    subst e
    exact ⟨_, rfl, r⟩
  | _, _, i + 1, v, .cons _ s, e => by
    obtain ⟨u, h1, h2⟩ := RpA.get' (i := i) (v := v) s (by simpa using e)
    exact ⟨u, by simpa using h1, h2⟩
theorem RpA.append : ∀ {vs ws : List V} {us xs : List U}, RpA K H vs us → RpA K H ws xs → RpA K H (vs ++ ws) (us ++ xs)
  | _, _, _, _, .nil, s => s
  | _, _, _, _, .cons r t, s => .cons r (RpA.append t s)
theorem RpA.drop : ∀ {vs : List V} {us : List U} (n : Nat), RpA K H vs us → RpA K H (vs.drop n) (us.drop n)
  | _, _, 0, r => r
  | _, _, _ + 1, .nil => .nil
  | _, _, n + 1, .cons _ t => RpA.drop n t
theorem RpA.take : ∀ {vs : List V} {us : List U} (n : Nat), RpA K H vs us → RpA K H (vs.take n) (us.take n)
  | _, _, 0, _ => .nil
  | _, _, _ + 1, .nil => .nil
  | _, _, n + 1, .cons r t => .cons r (RpA.take n t)
theorem RpA.set {x : V} {u : U} (r : Rp K H x u) : ∀ {vs : List V} {us : List U} (i : Nat), RpA K H vs us → RpA K H (vs.set i x) (us.set i u)
  | _, _, _, .nil => .nil
  | _, _, 0, .cons _ t => .cons r t
  | _, _, i + 1, .cons q t => .cons q (RpA.set r i t)
theorem RpA.eraseIdx : ∀ {vs : List V} {us : List U} (i : Nat), RpA K H vs us → RpA K H (vs.eraseIdx i) (us.eraseIdx i)
  | _, _, _, .nil => .nil
  | _, _, 0, .cons _ t => t
  | _, _, i + 1, .cons q t => .cons q (RpA.eraseIdx i t)
theorem RpA.ints : ∀ {vs : List V} {ns : List Int}, RpA K H vs (ns.map U.int) → vs = ns.map V.int
  | [], [], _ => rfl
  | _ :: _, [], h => by cases h
  | [], _ :: _, h => by cases h
  | v :: vs, n :: ns, h => by
    cases h with
    | cons r t =>
      cases r
      rw [RpA.ints t]
      rfl
theorem RpA.of_ints : ∀ ns : List Int, RpA K H (ns.map V.int) (ns.map U.int)
  | [] => .nil
  | n :: ns => .cons (.int n) (RpA.of_ints ns)
theorem RpA.strs : ∀ {vs : List V} {ns : List Str}, RpA K H vs (ns.map U.str) → vs = ns.map V.str
  | [], [], _ => rfl
  | _ :: _, [], h => by cases h
  | [], _ :: _, h => by cases h
  | v :: vs, n :: ns, h => by
    cases h with
    | cons r t =>
      cases r
      rw [RpA.strs t]
      rfl
theorem RpA.of_strs : ∀ ns : List Str, RpA K H (ns.map V.str) (ns.map U.str)
  | [] => .nil
  | n :: ns => .cons (.str n) (RpA.of_strs ns)
theorem RpA.bls : ∀ {vs : List V} {ns : List Bool}, RpA K H vs (ns.map U.bl) → vs = ns.map V.bl
  | [], [], _ => rfl
  | _ :: _, [], h => by cases h
  | [], _ :: _, h => by cases h
  | v :: vs, n :: ns, h => by
    cases h with
    | cons r t =>
      cases r
      rw [RpA.bls t]
      rfl
end

/-! ### the memory -/
inductive MO where
  | l (us : List U)
  | dt (kvs : List (List Int × U))
  | dk (kvs : List (Int × U))
  /-- a thing of its own, by its tracked form -/
  | raw (o : HO)
abbrev Mem := List (Addr × MO)
def RpT (K : PySem.W.Frag) (H : Hp) : List (List Key × V) → List (List Int × U) → Prop := Paired fun p q => p.1 = q.1.map Sum.inl ∧ Rp K H p.2 q.2
def RpK (K : PySem.W.Frag) (H : Hp) : List (Key × V) → List (Int × U) → Prop := Paired fun p q => p.1 = Sum.inl q.1 ∧ Rp K H p.2 q.2
def MoOk (K : PySem.W.Frag) (H : Hp) (p : Addr) : MO → Prop
  | .l us => ∃ vs, H p = some (.lst vs) ∧ RpA K H vs us
  | .dt kvs => ∃ ks, H p = some (.dT ks) ∧ RpT K H ks kvs
  | .dk kvs => ∃ ks, H p = some (.dK ks) ∧ RpK K H ks kvs
  | .raw o => H p = some o ∧ Loose o
structure MemOk (K : PySem.W.Frag) (H : Hp) (M : Mem) : Prop where
  ok : ∀ e ∈ M, MoOk K H e.1 e.2
  nd : (M.map (·.1)).Nodup
/-- each entry of the less memory stands in the greater, in order -/
inductive Sub : Mem → Mem → Prop
  | nil : Sub [] []
  | skip {e : Addr × MO} {M M' : Mem} : Sub M M' → Sub M (e :: M')
  | keep {e : Addr × MO} {M M' : Mem} : Sub M M' → Sub (e :: M) (e :: M')
theorem Sub.refl : ∀ M : Mem, Sub M M
  | [] => .nil
  | _ :: M => .keep (Sub.refl M)
theorem Sub.trans : ∀ {A B C : Mem}, Sub A B → Sub B C → Sub A C
  | _, _, _, a, .nil => a
  | _, _, _, a, .skip b => .skip (Sub.trans a b)
  | _, _, _, .skip a, .keep b => .skip (Sub.trans a b)
  | _, _, _, .keep a, .keep b => .keep (Sub.trans a b)
theorem Sub.nil' : ∀ M : Mem, Sub [] M
  | [] => .nil
  | _ :: M => .skip (Sub.nil' M)
theorem Sub.mem : ∀ {A B : Mem} {e : Addr × MO}, Sub A B → e ∈ A → e ∈ B
  | _, _, _, .nil, h => h
  | _, _, _, .skip s, h => List.mem_cons_of_mem _ (Sub.mem s h)
  | _, _, _, .keep s, h => by
    rcases List.mem_cons.mp h with rfl | h
    · exact List.mem_cons_self ..
    · exact List.mem_cons_of_mem _ (Sub.mem s h)
theorem Sub.list : ∀ {A B : Mem}, Sub A B → List.Sublist A B
  | _, _, .nil => .slnil
  | _, _, .skip s => .cons _ s.list
  | _, _, .keep s => .cons₂ _ s.list
section
variable {K : PySem.W.Frag} {H H' : Hp} {M M' : Mem}
theorem MemOk.sub (h : MemOk K H M) (s : Sub M' M) : MemOk K H M' := ⟨fun e he => h.ok e (s.mem he), List.Nodup.sublist (s.list.map _) h.nd⟩
theorem MemOk.perm (h : MemOk K H M) (s : M.Perm M') : MemOk K H M' := ⟨fun e he => h.ok e (s.symm.subset he), (s.map _).nodup_iff.mp h.nd⟩
theorem MoOk.there {p : Addr} {o : MO} (h : MoOk K H p o) : ∃ u, H p = some u ∧ Loose u := by
  cases o with
  | l us => obtain ⟨vs, e, _⟩ := h; exact ⟨_, e, trivial⟩
  | dt us => obtain ⟨vs, e, _⟩ := h; exact ⟨_, e, trivial⟩
  | dk us => obtain ⟨vs, e, _⟩ := h; exact ⟨_, e, trivial⟩
  | raw u => exact ⟨_, h.1, h.2⟩
theorem Paired.mono2 {α β : Type} {F G : α → β → Prop} : ∀ {l₁ : List α} {l₂ : List β}, Paired F l₁ l₂ → (∀ a b, F a b → G a b) → Paired G l₁ l₂
  | _, _, .nil, _ => .nil
  | _, _, .cons r t, f => .cons (f _ _ r) (Paired.mono2 t f)
theorem MoOk.mono {p : Addr} {o : MO} (t : Tp H H') (e : H' p = H p) (h : MoOk K H p o) : MoOk K H' p o := by
  cases o with
  | l us => obtain ⟨vs, q, r⟩ := h; exact ⟨vs, e.trans q, r.mono t⟩
  | dt us => obtain ⟨vs, q, r⟩ := h; exact ⟨vs, e.trans q, Paired.mono2 r fun a b z => ⟨z.1, z.2.mono t⟩⟩
  | dk us => obtain ⟨vs, q, r⟩ := h; exact ⟨vs, e.trans q, Paired.mono2 r fun a b z => ⟨z.1, z.2.mono t⟩⟩
  | raw u => exact ⟨e.trans h.1, h.2⟩
theorem MemOk.fresh (h : MemOk K H M) {p : Addr} (n : H p = none) : p ∉ M.map (·.1) := fun hp => by
  obtain ⟨e, he, rfl⟩ := List.mem_map.mp hp
  obtain ⟨u, q, _⟩ := (h.ok e he).there
  rw [n] at q
  cases q
/-- a new object that is not told of -/
theorem MemOk.skipNew (h : MemOk K H M) {p : Addr} {o : HO} (n : H p = none) : MemOk K (upd H p o) M := ⟨fun e he => by
  obtain ⟨u, q, _⟩ := (h.ok e he).there
  exact (h.ok e he).mono (Tp.new n) (upd_ne (ne_of_none q n)), h.nd⟩
/-- a new object, told -/
theorem MemOk.new (h : MemOk K H M) {p : Addr} {o : HO} {m : MO} (n : H p = none) (k : MoOk K (upd H p o) p m) : MemOk K (upd H p o) ((p, m) :: M) := by
  refine ⟨fun e he => ?_, List.nodup_cons.mpr ⟨h.fresh n, h.nd⟩⟩
  rcases List.mem_cons.mp he with rfl | he
  · exact k
  · exact (h.skipNew n).ok e he
end
/-- the entry of p is changed -/
inductive Put (p : Addr) (o : MO) : MO → Mem → Mem → Prop
  | here {o' : MO} {M : Mem} : Put p o o' ((p, o) :: M) ((p, o') :: M)
  | there {e : Addr × MO} {o' : MO} {M M' : Mem} : Put p o o' M M' → Put p o o' (e :: M) (e :: M')
section
variable {K : PySem.W.Frag} {H : Hp} {p : Addr} {o o' : MO}
theorem Put.mem : ∀ {M M' : Mem}, Put p o o' M M' → (p, o) ∈ M
  | _, _, .here => List.mem_cons_self ..
  | _, _, .there h => List.mem_cons_of_mem _ h.mem
theorem Put.keys : ∀ {M M' : Mem}, Put p o o' M M' → M'.map (·.1) = M.map (·.1)
  | _, _, .here => rfl
  | _, _, .there h => by rw [List.map_cons, List.map_cons, h.keys]
theorem Put.others : ∀ {M M' : Mem}, Put p o o' M M' → ∀ e ∈ M', e = (p, o') ∨ e ∈ M
  | _, _, .here, e, he => by
    rcases List.mem_cons.mp he with rfl | he
    · exact .inl rfl
    · exact .inr (List.mem_cons_of_mem _ he)
  | _, _, .there h, e, he => by
    rcases List.mem_cons.mp he with rfl | he
    · exact .inr (List.mem_cons_self ..)
    · rcases h.others e he with z | z
      · exact .inl z
      · exact .inr (List.mem_cons_of_mem _ z)
theorem Put.at : ∀ {M M' : Mem}, Put p o o' M M' → (p, o') ∈ M'
  | _, _, .here => List.mem_cons_self ..
  | _, _, .there h => List.mem_cons_of_mem _ h.at
theorem nodup_fst : ∀ {M : Mem} {a : Addr} {x y : MO}, (M.map (·.1)).Nodup → (a, x) ∈ M → (a, y) ∈ M → x = y
  | [], _, _, _, _, h, _ => by cases h
  | e :: M, a, x, y, n, h1, h2 => by
    have n' : (e.1 :: M.map (·.1)).Nodup := n
    obtain ⟨n1, n2⟩ := List.nodup_cons.mp n'
    rcases List.mem_cons.mp h1 with q1 | q1
    · rcases List.mem_cons.mp h2 with q2 | q2
      · have := q1.trans q2.symm
        exact (Prod.mk.inj this).2
      · exact absurd (by rw [← q1]; exact List.mem_map.mpr ⟨_, q2, rfl⟩) n1
    · rcases List.mem_cons.mp h2 with q2 | q2
      · exact absurd (by rw [← q2]; exact List.mem_map.mpr ⟨_, q1, rfl⟩) n1
      · exact nodup_fst n2 q1 q2
/-- the object at p written: the memory behind it -/
theorem MemOk.put {M M' : Mem} (h : MemOk K H M) (q : Put p o o' M M') {w : HO} (k : MoOk K (upd H p w) p o') : MemOk K (upd H p w) M' ∧ Tp H (upd H p w) := by
  obtain ⟨u, hu, lu⟩ := (h.ok _ q.mem).there
  have t : Tp H (upd H p w) := Tp.mut hu lu
  have nd' : (M'.map (·.1)).Nodup := by rw [q.keys]; exact h.nd
  refine ⟨⟨fun e he => ?_, nd'⟩, t⟩
  by_cases ep : e.1 = p
  · have e2 : e = (p, e.2) := by rw [← ep]
    have : e.2 = o' := nodup_fst nd' (by rw [← e2]; exact he) q.at
    rw [ep, this]
    exact k
  · rcases q.others e he with z | z
    · rw [z] at ep
      exact absurd rfl ep
    · exact (h.ok e z).mono t (upd_ne ep)
end
end Wl
set_option Elab.async false
set_option linter.all false
set_option maxRecDepth 100000
set_option maxHeartbeats 4000000
namespace Wl
open PySem PySem.Spec PyProof.Rows L2
/-! ### the judgements -/
structure SlOk (K : PySem.W.Frag) (H : Hp) (σ : L2.St) (ρ : Rho) : Prop where
  len : σ.length = ρ.length
  at_ : ∀ (i : Nat) (u : U), ρ[i]? = some (some u) → ∃ v, σ[i]? = some (some v) ∧ Rp K H v u
theorem SlOk.mono {K : PySem.W.Frag} {H H' : Hp} {σ : L2.St} {ρ : Rho} (t : Tp H H') (h : SlOk K H σ ρ) : SlOk K H' σ ρ :=
  ⟨h.len, fun i u e => let ⟨v, a, r⟩ := h.at_ i u e; ⟨v, a, r.mono t⟩⟩
theorem SlOk.set {K : PySem.W.Frag} {H : Hp} {σ : L2.St} {ρ : Rho} (h : SlOk K H σ ρ) {v : V} {u : U} (i : Nat) (r : Rp K H v u) : SlOk K H (σ.set i (some v)) (ρ.set i (some u)) := by
  refine ⟨by simpa using h.len, fun j w e => ?_⟩
  by_cases hj : i = j
  · subst hj
    by_cases hi : i < ρ.length
    · rw [List.getElem?_set_self hi] at e
      cases e
      exact ⟨v, List.getElem?_set_self (by rw [h.len]; exact hi), r⟩
    · rw [List.getElem?_eq_none (by simpa using hi)] at e
      cases e
  · rw [List.getElem?_set_ne hj] at e ⊢
    exact h.at_ j w e
/-- the less told slots -/
def RLe (ρ' ρ : Rho) : Prop := ρ'.length = ρ.length ∧ ∀ (i : Nat) (u : U), ρ'[i]? = some (some u) → ρ[i]? = some (some u)
theorem SlOk.le {K : PySem.W.Frag} {H : Hp} {σ : L2.St} {ρ ρ' : Rho} (h : SlOk K H σ ρ) (l : RLe ρ' ρ) : SlOk K H σ ρ' := ⟨h.len.trans l.1.symm, fun i u e => h.at_ i u (l.2 i u e)⟩
section
variable (K : PySem.W.Frag)
def W (te : TE) (M : Mem) (ρ : Rho) (k : U → Mem → Prop) : Prop := ∀ σ H, MemOk K H M → SlOk K H σ ρ → ∀ Q : VK,
  (∀ u M' v H', k u M' → Tp H H' → MemOk K H' M' → Rp K H' v u → Q v H') → te σ H Q
def WT (tt : TT) (M : Mem) (ρ : Rho) (k : Bool → Mem → Prop) : Prop := ∀ σ H, MemOk K H M → SlOk K H σ ρ → ∀ Q : Bool → Hp → Prop,
  (∀ b M' H', k b M' → Tp H H' → MemOk K H' M' → Q b H') → tt σ H Q
def WA (ta : TA) (M : Mem) (ρ : Rho) (k : List U → Mem → Prop) : Prop := ∀ σ H, MemOk K H M → SlOk K H σ ρ → ∀ Q : List V → Hp → Prop,
  (∀ us M' vs H', k us M' → Tp H H' → MemOk K H' M' → RpA K H' vs us → Q vs H') → ta σ H Q
def WO (to : TO) (M : Mem) (ρ : Rho) (k : Option Int → Mem → Prop) : Prop := ∀ σ H, MemOk K H M → SlOk K H σ ρ → ∀ Q : Option Int → Hp → Prop,
  (∀ o M' H', k o M' → Tp H H' → MemOk K H' M' → Q o H') → to σ H Q
/-- a two-place operation on what is told -/
def R2A (r : R2) (x y : U) (M : Mem) (k : U → Mem → Prop) : Prop := ∀ v w H, MemOk K H M → Rp K H v x → Rp K H w y → ∀ Q : VK,
  (∀ u M' z H', k u M' → Tp H H' → MemOk K H' M' → Rp K H' z u → Q z H') → r v w H Q
def RCA (r : List V → Hp → VK → Prop) (xs : List U) (M : Mem) (k : U → Mem → Prop) : Prop := ∀ vs H, MemOk K H M → RpA K H vs xs → ∀ Q : VK,
  (∀ u M' z H', k u M' → Tp H H' → MemOk K H' M' → Rp K H' z u → Q z H') → r vs H Q
/-- an operation on one that is at hand and a list of more -/
def RMA (r : V → List V → Hp → VK → Prop) (x : U) (xs : List U) (M : Mem) (k : U → Mem → Prop) : Prop := ∀ v vs H, MemOk K H M → Rp K H v x → RpA K H vs xs → ∀ Q : VK,
  (∀ u M' z H', k u M' → Tp H H' → MemOk K H' M' → Rp K H' z u → Q z H') → r v vs H Q
/-- which slots a target may write -/
def Off : Option (List Nat) → L2.St → L2.St → Prop
  | none, _, _ => True
  | some vs, σ, σ' => σ'.length = σ.length ∧ ∀ j, j ∉ vs → σ'[j]? = σ[j]?
def WG (o : Option (List Nat)) (g : TG) (u : U) (M : Mem) (ρ : Rho) (k : Mem → Rho → Prop) : Prop := ∀ v σ H, MemOk K H M → SlOk K H σ ρ → Rp K H v u → ∀ Q : L2.St → Hp → Prop,
  (∀ M' ρ' σ' H', k M' ρ' → Tp H H' → MemOk K H' M' → SlOk K H' σ' ρ' → Off o σ σ' → Q σ' H') → g v σ H Q
def WGs (o : Option (List Nat)) (g : TGs) (us : List U) (M : Mem) (ρ : Rho) (k : Mem → Rho → Prop) : Prop := ∀ vs σ H, MemOk K H M → SlOk K H σ ρ → RpA K H vs us → ∀ Q : L2.St → Hp → Prop,
  (∀ M' ρ' σ' H', k M' ρ' → Tp H H' → MemOk K H' M' → SlOk K H' σ' ρ' → Off o σ σ' → Q σ' H') → g vs σ H Q
/-- what is to hold behind a block -/
structure AE where
  nx : Mem → Rho → Prop
  rt : U → Mem → Prop
  bk : Mem → Rho → Prop := fun _ _ => False
  ct : Mem → Rho → Prop := fun _ _ => False
structure AEOk (H0 : Hp) (D : AE) (E : Ends) : Prop where
  nx : ∀ M ρ σ H, D.nx M ρ → Tp H0 H → MemOk K H M → SlOk K H σ ρ → E.nx σ H
  rt : ∀ u M v H, D.rt u M → Tp H0 H → MemOk K H M → Rp K H v u → E.rt v H
  bk : ∀ M ρ σ H, D.bk M ρ → Tp H0 H → MemOk K H M → SlOk K H σ ρ → E.bk σ H
  ct : ∀ M ρ σ H, D.ct M ρ → Tp H0 H → MemOk K H M → SlOk K H σ ρ → E.ct σ H
def WS (ts : TS) (M : Mem) (ρ : Rho) (D : AE) : Prop := ∀ H0 σ H, Tp H0 H → MemOk K H M → SlOk K H σ ρ → ∀ E : Ends, AEOk K H0 D E → ts E σ H
/-- what is walked: its items, and what must stay told meanwhile -/
structure AI where
  items : List U
  stay : Mem → Prop
structure AIOk (J : It) (A : AI) (H1 : Hp) : Prop where
  goes : ∀ i H M, i < A.items.length → Tp H1 H → MemOk K H M → A.stay M → J.go i H
  stops : ∀ H M, Tp H1 H → MemOk K H M → A.stay M → J.stop A.items.length H
  yields : ∀ i u H M x H', A.items[i]? = some u → Tp H1 H → MemOk K H M → A.stay M → J.yld i H x H' → Tp H H' ∧ MemOk K H' M ∧ Rp K H' x u
def WI (wi : TI) (M : Mem) (ρ : Rho) (k : AI → Mem → Prop) : Prop := ∀ σ H, MemOk K H M → SlOk K H σ ρ → ∀ R : It → Hp → Prop,
  (∀ A M' J H', k A M' → Tp H H' → MemOk K H' M' → AIOk K J A H' → R J H') → wi σ H R
end
section
variable {K : PySem.W.Frag} {M : Mem} {ρ : Rho}
theorem AEOk.from {H0 H1 : Hp} {D : AE} {E : Ends} (h : AEOk K H0 D E) (t : Tp H0 H1) : AEOk K H1 D E :=
  ⟨fun M ρ σ H a b c d => h.nx M ρ σ H a (t.trans b) c d, fun u M v H a b c d => h.rt u M v H a (t.trans b) c d, fun M ρ σ H a b c d => h.bk M ρ σ H a (t.trans b) c d, fun M ρ σ H a b c d => h.ct M ρ σ H a (t.trans b) c d⟩
theorem AEOk.nxt {H0 : Hp} {D D' : AE} {E : Ends} {n : L2.St → Hp → Prop} (h : AEOk K H0 D E) (hn : ∀ M ρ σ H, D'.nx M ρ → Tp H0 H → MemOk K H M → SlOk K H σ ρ → n σ H) (hr : D'.rt = D.rt) (hb : D'.bk = D.bk) (hc : D'.ct = D.ct) : AEOk K H0 D' { E with nx := n } := by
  refine ⟨hn, ?_, ?_, ?_⟩
  · rw [hr]; exact h.rt
  · rw [hb]; exact h.bk
  · rw [hc]; exact h.ct
/-! ### weaker, in another order -/
theorem W.imp {te : TE} {k k' : U → Mem → Prop} (h : W K te M ρ k) (q : ∀ u M', k u M' → k' u M') : W K te M ρ k' := fun σ H m s Q c => h σ H m s Q fun u M' v H' a => c u M' v H' (q u M' a)
theorem WT.imp {te : TT} {k k' : Bool → Mem → Prop} (h : WT K te M ρ k) (q : ∀ u M', k u M' → k' u M') : WT K te M ρ k' := fun σ H m s Q c => h σ H m s Q fun u M' H' a => c u M' H' (q u M' a)
theorem W.sub {te : TE} {M' : Mem} {k : U → Mem → Prop} (s : Sub M' M) (h : W K te M' ρ k) : W K te M ρ k := fun σ H m => h σ H (m.sub s)
theorem W.perm {te : TE} {M' : Mem} {k : U → Mem → Prop} (s : M.Perm M') (h : W K te M' ρ k) : W K te M ρ k := fun σ H m => h σ H (m.perm s)
theorem WS.sub {ts : TS} {M' : Mem} {D : AE} (s : Sub M' M) (h : WS K ts M' ρ D) : WS K ts M ρ D := fun H0 σ H t m => h H0 σ H t (m.sub s)
theorem WS.perm {ts : TS} {M' : Mem} {D : AE} (s : M.Perm M') (h : WS K ts M' ρ D) : WS K ts M ρ D := fun H0 σ H t m => h H0 σ H t (m.perm s)
theorem WS.le {ts : TS} {ρ' : Rho} {D : AE} (l : RLe ρ' ρ) (h : WS K ts M ρ' D) : WS K ts M ρ D := fun H0 σ H t m s => h H0 σ H t m (s.le l)
/-- a result whose memory holds more than is wanted -/
theorem W.less {te : TE} {k : U → Mem → Prop} (h : W K te M ρ fun u M' => ∃ M2, Sub M2 M' ∧ k u M2) : W K te M ρ k := fun σ H m s Q c => h σ H m s Q fun u M' v H' ⟨M2, a, b⟩ t mm r => c u M2 v H' b t (mm.sub a) r
theorem WT.less {te : TT} {k : Bool → Mem → Prop} (h : WT K te M ρ fun u M' => ∃ M2, Sub M2 M' ∧ k u M2) : WT K te M ρ k := fun σ H m s Q c => h σ H m s Q fun u M' H' ⟨M2, a, b⟩ t mm => c u M2 H' b t (mm.sub a)
/-! ### names and constants -/
theorem w_var {i : Nat} {u : U} {k : U → Mem → Prop} (e : ρ[i]? = some (some u)) (h : k u M) : W K (tVar i) M ρ k := fun σ H m s Q c => by
  obtain ⟨v, a, r⟩ := s.at_ i u e
  exact ⟨v, a, c u M v H h (Tp.refl H) m r⟩
theorem w_int {i : Int} {k : U → Mem → Prop} (h : k (.int i) M) : W K (tC (.int i)) M ρ k := fun σ H m s Q c => c _ _ _ _ h (Tp.refl H) m (.int i)
theorem w_str {i : Str} {k : U → Mem → Prop} (h : k (.str i) M) : W K (tC (.str i)) M ρ k := fun σ H m s Q c => c _ _ _ _ h (Tp.refl H) m (.str i)
theorem w_bl {i : Bool} {k : U → Mem → Prop} (h : k (.bl i) M) : W K (tC (.bl i)) M ρ k := fun σ H m s Q c => c _ _ _ _ h (Tp.refl H) m (.bl i)
theorem w_non {k : U → Mem → Prop} (h : k .non M) : W K (tC .non) M ρ k := fun σ H m s Q c => c _ _ _ _ h (Tp.refl H) m .non
theorem w_ref {a : Addr} {k : U → Mem → Prop} (h : k (.ptr a) M) : W K (tC (.ref a)) M ρ k := fun σ H m s Q c => c _ _ _ _ h (Tp.refl H) m (.ptr a)
/-! ### operators -/
theorem w_op {r : R2} {ta tb : TE} {k : U → Mem → Prop} (h : W K ta M ρ fun x M1 => W K tb M1 ρ fun y M2 => R2A K r x y M2 k) : W K (tOp r ta tb) M ρ k := fun σ H m s Q c =>
  h σ H m s _ fun x M1 v H1 h1 t1 m1 r1 => h1 σ H1 m1 (s.mono t1) _ fun y M2 w H2 h2 t2 m2 r2 => h2 v w H2 m2 (r1.mono t2) r2 Q fun u M3 z H3 h3 t3 m3 r3 => c u M3 z H3 h3 ((t1.trans t2).trans t3) m3 r3
theorem w_un {g : Int → Int} {ta : TE} {k : U → Mem → Prop} (h : W K ta M ρ fun x M1 => ∃ i, x = .int i ∧ k (.int (g i)) M1) : W K (tUn (rU fun i => .int (g i)) ta) M ρ k := fun σ H m s Q c =>
  h σ H m s _ fun x M1 v H1 ⟨i, e, h1⟩ t1 m1 r1 => by
    subst e
    cases r1
    exact ⟨i, rfl, c _ M1 _ H1 h1 t1 m1 (.int _)⟩
theorem r_ii {g : Int → Int → Int} {i j : Int} {k : U → Mem → Prop} (h : k (.int (g i j)) M) : R2A K (rI0 fun i j => .int (g i j)) (.int i) (.int j) M k := fun v w H m a b Q c => by
  cases a
  cases b
  exact ⟨i, j, rfl, rfl, c _ M _ H h (Tp.refl H) m (.int _)⟩
theorem r_iic {C : Int → Int → Prop} {g : Int → Int → Int} {i j : Int} {k : U → Mem → Prop} (hc : C i j) (h : k (.int (g i j)) M) : R2A K (rI C fun i j => .int (g i j)) (.int i) (.int j) M k := fun v w H m a b Q c => by
  cases a
  cases b
  exact ⟨i, j, rfl, rfl, hc, c _ M _ H h (Tp.refl H) m (.int _)⟩
theorem r_ib {g : Int → Int → Bool} {i j : Int} {k : U → Mem → Prop} (h : k (.bl (g i j)) M) : R2A K (rI0 fun i j => .bl (g i j)) (.int i) (.int j) M k := fun v w H m a b Q c => by
  cases a
  cases b
  exact ⟨i, j, rfl, rfl, c _ M _ H h (Tp.refl H) m (.bl _)⟩
theorem r_eqI {i j : Int} {k : U → Mem → Prop} (h : k (.bl (decide (i = j))) M) : R2A K rEq (.int i) (.int j) M k := fun v w H m a b Q c => by
  cases a
  cases b
  refine ⟨rfl, c _ M _ H h (Tp.refl H) m ?_⟩
  rw [dec_int, Bool.beq_eq_decide_eq]
  exact .bl _
theorem r_eqS {i j : Str} {k : U → Mem → Prop} (h : k (.bl (decide (i = j))) M) : R2A K rEq (.str i) (.str j) M k := fun v w H m a b Q c => by
  cases a
  cases b
  refine ⟨rfl, c _ M _ H h (Tp.refl H) m ?_⟩
  rw [dec_str, Bool.beq_eq_decide_eq]
  exact .bl _
theorem r_eqB {i j : Bool} {k : U → Mem → Prop} (h : k (.bl (i == j)) M) : R2A K rEq (.bl i) (.bl j) M k := fun v w H m a b Q c => by
  cases a
  cases b
  refine ⟨rfl, c _ M _ H h (Tp.refl H) m ?_⟩
  rw [dec_bl]
  exact .bl _
theorem r_neI {i j : Int} {k : U → Mem → Prop} (h : k (.bl (!decide (i = j))) M) : R2A K rNe (.int i) (.int j) M k := fun v w H m a b Q c => by
  cases a
  cases b
  refine ⟨rfl, c _ M _ H h (Tp.refl H) m ?_⟩
  rw [dec_int, Bool.beq_eq_decide_eq]
  exact .bl _
theorem r_neS {i j : Str} {k : U → Mem → Prop} (h : k (.bl (!decide (i = j))) M) : R2A K rNe (.str i) (.str j) M k := fun v w H m a b Q c => by
  cases a
  cases b
  refine ⟨rfl, c _ M _ H h (Tp.refl H) m ?_⟩
  rw [dec_str, Bool.beq_eq_decide_eq]
  exact .bl _
/-! ### arguments, displays -/
theorem wa_nil {k : List U → Mem → Prop} (h : k [] M) : WA K tNil M ρ k := fun σ H m s Q c => c [] M [] H h (Tp.refl H) m .nil
theorem wa_cons {ta : TE} {tr : TA} {k : List U → Mem → Prop} (h : W K ta M ρ fun x M1 => WA K tr M1 ρ fun xs M2 => k (x :: xs) M2) : WA K (tCons ta tr) M ρ k := fun σ H m s Q c =>
  h σ H m s _ fun x M1 v H1 h1 t1 m1 r1 => h1 σ H1 m1 (s.mono t1) _ fun xs M2 vs H2 h2 t2 m2 r2 => c (x :: xs) M2 (v :: vs) H2 h2 (t1.trans t2) m2 (.cons (r1.mono t2) r2)
theorem w_tup {ta : TA} {k : U → Mem → Prop} (h : WA K ta M ρ fun xs M1 => xs.length ≤ 1000 ∧ k (.tup xs) M1) : W K (tTup ta) M ρ k := fun σ H m s Q c =>
  h σ H m s _ fun xs M1 vs H1 ⟨hl, h1⟩ t1 m1 r1 => ⟨by rw [r1.length]; exact Nat.le_of_lt (small1000 hl), fun p n => c _ M1 _ _ h1 (t1.trans (Tp.new n)) (m1.skipNew n) (.tup upd_same (r1.mono (Tp.new n)))⟩
theorem w_lst {ta : TA} {k : U → Mem → Prop} (h : WA K ta M ρ fun xs M1 => xs.length ≤ 1000 ∧ ∀ p, k (.ptr p) ((p, .l xs) :: M1)) : W K (tLst ta) M ρ k := fun σ H m s Q c =>
  h σ H m s _ fun xs M1 vs H1 ⟨hl, h1⟩ t1 m1 r1 => ⟨by rw [r1.length]; exact Nat.le_of_lt (small1000 hl), fun p n => c _ _ _ _ (h1 p) (t1.trans (Tp.new n)) (m1.new n ⟨vs, upd_same, r1.mono (Tp.new n)⟩) (.ptr p)⟩
/-! ### calls -/
theorem w_cb {r : List V → Hp → VK → Prop} {ta : TA} {k : U → Mem → Prop} (h : WA K ta M ρ fun xs M1 => RCA K r xs M1 k) : W K (tCB r ta) M ρ k := fun σ H m s Q c =>
  h σ H m s _ fun xs M1 vs H1 h1 t1 m1 r1 => h1 vs H1 m1 r1 Q fun u M2 z H2 h2 t2 m2 r2 => c u M2 z H2 h2 (t1.trans t2) m2 r2
/-- a def's promise, told of what values stand for -/
abbrev CU := List U → Mem → (U → Mem → Prop) → Prop
def SpC (K : PySem.W.Frag) (C : CU) : Sp := fun vs H Q _ => ∃ us M k, RpA K H vs us ∧ MemOk K H M ∧ C us M k ∧ ∀ u M' v H', k u M' → Tp H H' → MemOk K H' M' → Rp K H' v u → Q v H'
theorem w_call {C : CU} {E : XK} {ta : TA} {k : U → Mem → Prop} (h : WA K ta M ρ fun us M1 => C us M1 k) : W K (tCall (SpC K C) [] E ta) M ρ k := fun σ H m s Q c =>
  h σ H m s _ fun us M1 vs H1 h1 t1 m1 r1 => ⟨us, M1, k, by rw [List.append_nil]; exact r1, m1, h1, fun u M2 v H2 h2 t2 m2 r2 => c u M2 v H2 h2 (t1.trans t2) m2 r2⟩
/-! ### tests -/
theorem wt_test {te : TE} {k : Bool → Mem → Prop} (h : W K te M ρ fun x M1 => ∃ b, x = .bl b ∧ k b M1) : WT K (tTest te) M ρ k := fun σ H m s Q c =>
  h σ H m s _ fun x M1 v H1 ⟨b, e, h1⟩ t1 m1 r1 => by
    subst e
    cases r1
    exact ⟨b, rfl, c b M1 H1 h1 t1 m1⟩
theorem wt_B {te : TE} {k : Bool → Mem → Prop} (h : W K te M ρ fun x M1 => ∃ b, x = .bl b ∧ k b M1) : WT K (tB te) M ρ k := wt_test h
theorem wt_not {tt : TT} {k : Bool → Mem → Prop} (h : WT K tt M ρ fun b M1 => k (!b) M1) : WT K (tNot tt) M ρ k := fun σ H m s Q c => h σ H m s _ fun b M1 H1 h1 t1 m1 => c _ M1 H1 h1 t1 m1
theorem wt_and {t u : TT} {k : Bool → Mem → Prop} (h : WT K t M ρ fun b M1 => (b = true → WT K u M1 ρ k) ∧ (b = false → k false M1)) : WT K (tAnd t u) M ρ k := fun σ H m s Q c =>
  h σ H m s _ fun b M1 H1 h1 t1 m1 => by
    cases b with
    | true => exact iteT (h1.1 rfl σ H1 m1 (s.mono t1) Q fun b M2 H2 h2 t2 m2 => c b M2 H2 h2 (t1.trans t2) m2)
    | false => exact iteF (c false M1 H1 (h1.2 rfl) t1 m1)
theorem wt_or {t u : TT} {k : Bool → Mem → Prop} (h : WT K t M ρ fun b M1 => (b = false → WT K u M1 ρ k) ∧ (b = true → k true M1)) : WT K (tOr t u) M ρ k := fun σ H m s Q c =>
  h σ H m s _ fun b M1 H1 h1 t1 m1 => by
    cases b with
    | false => exact iteF (h1.1 rfl σ H1 m1 (s.mono t1) Q fun b M2 H2 h2 t2 m2 => c b M2 H2 h2 (t1.trans t2) m2)
    | true => exact iteT (c true M1 H1 (h1.2 rfl) t1 m1)
theorem w_andV {t u : TE} {k : U → Mem → Prop} (h : W K t M ρ fun x M1 => ∃ b, x = .bl b ∧ (b = true → W K u M1 ρ k) ∧ (b = false → k (.bl false) M1)) : W K (tAndV t u) M ρ k := fun σ H m s Q c =>
  h σ H m s _ fun x M1 v H1 ⟨b, e, h1⟩ t1 m1 r1 => by
    subst e
    cases r1
    refine ⟨b, rfl, ?_⟩
    cases b with
    | true => exact iteT (h1.1 rfl σ H1 m1 (s.mono t1) Q fun b M2 v H2 h2 t2 m2 r2 => c b M2 v H2 h2 (t1.trans t2) m2 r2)
    | false => exact iteF (c _ M1 _ H1 (h1.2 rfl) t1 m1 (.bl _))
theorem w_orV {t u : TE} {k : U → Mem → Prop} (h : W K t M ρ fun x M1 => ∃ b, x = .bl b ∧ (b = false → W K u M1 ρ k) ∧ (b = true → k (.bl true) M1)) : W K (tOrV t u) M ρ k := fun σ H m s Q c =>
  h σ H m s _ fun x M1 v H1 ⟨b, e, h1⟩ t1 m1 r1 => by
    subst e
    cases r1
    refine ⟨b, rfl, ?_⟩
    cases b with
    | false => exact iteF (h1.1 rfl σ H1 m1 (s.mono t1) Q fun b M2 v H2 h2 t2 m2 r2 => c b M2 v H2 h2 (t1.trans t2) m2 r2)
    | true => exact iteT (c _ M1 _ H1 (h1.2 rfl) t1 m1 (.bl _))
theorem w_notV {t : TE} {k : U → Mem → Prop} (h : W K t M ρ fun x M1 => ∃ b, x = .bl b ∧ k (.bl (!b)) M1) : W K (tNotV t) M ρ k := fun σ H m s Q c =>
  h σ H m s _ fun x M1 v H1 ⟨b, e, h1⟩ t1 m1 r1 => by
    subst e
    cases r1
    exact ⟨b, rfl, c _ M1 _ H1 h1 t1 m1 (.bl _)⟩
theorem w_if {t : TT} {ta tb : TE} {k : U → Mem → Prop} (h : WT K t M ρ fun b M1 => (b = true → W K ta M1 ρ k) ∧ (b = false → W K tb M1 ρ k)) : W K (tIf t ta tb) M ρ k := fun σ H m s Q c =>
  h σ H m s _ fun b M1 H1 h1 t1 m1 => by
    cases b with
    | true => exact iteT (h1.1 rfl σ H1 m1 (s.mono t1) Q fun b M2 v H2 h2 t2 m2 r2 => c b M2 v H2 h2 (t1.trans t2) m2 r2)
    | false => exact iteF (h1.2 rfl σ H1 m1 (s.mono t1) Q fun b M2 v H2 h2 t2 m2 r2 => c b M2 v H2 h2 (t1.trans t2) m2 r2)
theorem w_chain {r r' : R2} {ta tb tc : TE} {k : U → Mem → Prop} (h : W K ta M ρ fun x M1 => W K tb M1 ρ fun y M2 => R2A K r x y M2 fun z M3 => ∃ b, z = .bl b ∧ (b = true → W K tc M3 ρ fun w M4 => R2A K r' y w M4 k) ∧ (b = false → k (.bl false) M3)) : W K (tChain r r' ta tb tc) M ρ k := fun σ H m s Q c =>
  h σ H m s _ fun x M1 v H1 h1 t1 m1 r1 => h1 σ H1 m1 (s.mono t1) _ fun y M2 w H2 h2 t2 m2 r2 => h2 v w H2 m2 (r1.mono t2) r2 _ fun z M3 zv H3 ⟨b, e, h3⟩ t3 m3 r3 => by
    subst e
    cases r3
    refine ⟨b, rfl, ?_⟩
    have T : Tp H H3 := (t1.trans t2).trans t3
    cases b with
    | true => exact iteT (h3.1 rfl σ H3 m3 (s.mono T) _ fun w' M4 wv H4 h4 t4 m4 r4 => h4 w wv H4 m4 (r2.mono (t3.trans t4)) r4 Q fun u M5 zv H5 h5 t5 m5 r5 => c u M5 zv H5 h5 ((T.trans t4).trans t5) m5 r5)
    | false => exact iteF (c _ M3 _ H3 (h3.2 rfl) T m3 (.bl _))
/-! ### statements -/
theorem ws_next {D : AE} (h : D.nx M ρ) : WS K tNext M ρ D := fun H0 σ H t m s E d => d.nx M ρ σ H h t m s
theorem ws_seq {t u : TS} {D : AE} (h : WS K t M ρ { D with nx := fun M' ρ' => WS K u M' ρ' D }) : WS K (tSeq t u) M ρ D := fun H0 σ H t m s E d =>
  h H0 σ H t m s _ (d.nxt (fun M' ρ' σ' H' a b c e => a H0 σ' H' b c e E d) rfl rfl rfl)
theorem ws_asg {te : TE} {g : TG} {D : AE} (h : W K te M ρ fun x M1 => WG K none g x M1 ρ D.nx) : WS K (tAsg te g) M ρ D := fun H0 σ H t m s E d =>
  h σ H m s _ fun x M1 v H1 h1 t1 m1 r1 => h1 v σ H1 m1 (s.mono t1) r1 _ fun M2 ρ2 σ2 H2 h2 t2 m2 s2 _ => d.nx M2 ρ2 σ2 H2 h2 ((t.trans t1).trans t2) m2 s2
theorem wg_name {o : Option (List Nat)} {i : Nat} {u : U} {k : Mem → Rho → Prop} (h : k M (ρ.set i (some u))) (ho : (match o with | none => true | some vs => decide (i ∈ vs)) = true := by rfl) : WG K o (gName i) u M ρ k := fun v σ H m s r Q c =>
  c M _ _ H h (Tp.refl H) m (s.set i r) (by
    cases o with
    | none => exact trivial
    | some vs =>
      have hi : i ∈ vs := of_decide_eq_true ho
      exact ⟨List.length_set .., fun j hj => List.getElem?_set_ne (fun (e : i = j) => hj (e ▸ hi))⟩)
theorem Off.refl (o : Option (List Nat)) (σ : L2.St) : Off o σ σ := by
  cases o with
  | none => exact trivial
  | some vs => exact ⟨rfl, fun _ _ => rfl⟩
theorem Off.trans {o : Option (List Nat)} {σ σ1 σ2 : L2.St} (a : Off o σ σ1) (b : Off o σ1 σ2) : Off o σ σ2 := by
  cases o with
  | none => exact trivial
  | some vs => exact ⟨b.1.trans a.1, fun j hj => (b.2 j hj).trans (a.2 j hj)⟩
theorem wgs_nil {o : Option (List Nat)} {k : Mem → Rho → Prop} (h : k M ρ) : WGs K o gNil [] M ρ k := fun vs σ H m s r Q c => by
  cases r
  exact ⟨rfl, c M ρ σ H h (Tp.refl H) m s (Off.refl o σ)⟩
theorem wgs_cons {o : Option (List Nat)} {g : TG} {gs : TGs} {u : U} {us : List U} {k : Mem → Rho → Prop} (h : WG K o g u M ρ fun M1 ρ1 => WGs K o gs us M1 ρ1 k) : WGs K o (gCons g gs) (u :: us) M ρ k := fun vs σ H m s r Q c => by
  cases r with
  | @cons v vr _ _ r1 r2 => exact ⟨v, vr, rfl, h v σ H m s r1 _ fun M1 ρ1 σ1 H1 h1 t1 m1 s1 o1 => h1 vr σ1 H1 m1 s1 (r2.mono t1) Q fun M2 ρ2 σ2 H2 h2 t2 m2 s2 o2 => c M2 ρ2 σ2 H2 h2 (t1.trans t2) m2 s2 (o1.trans o2)⟩
theorem wg_tup {o : Option (List Nat)} {n : Nat} {g : TGs} {us : List U} {k : Mem → Rho → Prop} (hn : us.length = n) (h : WGs K o g us M ρ k) : WG K o (gTup K n g) (.tup us) M ρ k := fun v σ H m s r Q c => by
  cases r with
  | tup e ra => exact ⟨_, _, rfl, SqT.of e, by rw [ra.length, hn], h _ σ H m s ra Q c⟩
theorem ws_ret {te : TE} {D : AE} (h : W K te M ρ D.rt) : WS K (tRet te) M ρ D := fun H0 σ H t m s E d => h σ H m s _ fun u M1 v H1 h1 t1 m1 r1 => d.rt u M1 v H1 h1 (t.trans t1) m1 r1
theorem ws_drop {te : TE} {D : AE} (h : W K te M ρ fun _ M1 => D.nx M1 ρ) : WS K (tDrop te) M ρ D := fun H0 σ H t m s E d => h σ H m s _ fun u M1 v H1 h1 t1 m1 r1 => d.nx M1 ρ σ H1 h1 (t.trans t1) m1 (s.mono t1)
theorem ws_if {c : TT} {t u : TS} {D : AE} (h : WT K c M ρ fun b M1 => (b = true → WS K t M1 ρ D) ∧ (b = false → WS K u M1 ρ D)) : WS K (tIfS c t u) M ρ D := fun H0 σ H t m s E d =>
  h σ H m s _ fun b M1 H1 h1 t1 m1 => by
    cases b with
    | true => exact iteT (h1.1 rfl H0 σ H1 (t.trans t1) m1 (s.mono t1) E d)
    | false => exact iteF (h1.2 rfl H0 σ H1 (t.trans t1) m1 (s.mono t1) E d)
theorem ws_break {D : AE} (h : D.bk M ρ) : WS K tBreak M ρ D := fun H0 σ H t m s E d => d.bk M ρ σ H h t m s
theorem ws_aug {i : Nat} {x : U} {te : TE} {f : Int → Int → Int} {D : AE} (e : ρ[i]? = some (some x)) (h : W K te M ρ fun y M1 => ∃ a b, x = .int a ∧ y = .int b ∧ D.nx M1 (ρ.set i (some (.int (f a b))))) : WS K (tAug i te (ipI f)) M ρ D := fun H0 σ H t m s E d => by
  obtain ⟨v, a, r⟩ := s.at_ i x e
  refine ⟨v, a, h σ H m s _ fun y M1 w H1 ⟨p, q, e1, e2, h1⟩ t1 m1 r1 => ?_⟩
  subst e1 e2
  cases r
  cases r1
  exact ⟨p, q, rfl, rfl, d.nx M1 _ _ H1 h1 (t.trans t1) m1 ((s.mono t1).set i (.int _))⟩
/-! ### loops -/
theorem ws_for {wi : TI} {g : TG} {tb : TS} {D : AE} (h : WI K wi M ρ fun A M1 => ∃ I : Nat → Mem → Rho → Prop, I 0 M1 ρ ∧ (∀ i M ρ, i ≤ A.items.length → I i M ρ → A.stay M) ∧
      (∀ i u M ρ, A.items[i]? = some u → I i M ρ → WG K none g u M ρ fun M2 ρ2 => WS K tb M2 ρ2 { D with nx := I (i + 1), ct := I (i + 1), bk := D.nx }) ∧ (∀ M ρ, I A.items.length M ρ → D.nx M ρ)) : WS K (tFor wi g tb) M ρ D := fun H0 σ H t m s E d =>
  h σ H m s _ fun A M1 J H1 ⟨I, i0, ist, turn, fin⟩ t1 m1 ok => by
    have base := t.trans t1
    refine ⟨fun i n σ' H' => n = A.items.length - i ∧ i ≤ A.items.length ∧ ∃ M' ρ', I i M' ρ' ∧ Tp H1 H' ∧ MemOk K H' M' ∧ SlOk K H' σ' ρ', ⟨_, rfl, Nat.zero_le _, M1, ρ, i0, Tp.refl H1, m1, s.mono t1⟩, ?_⟩
    rintro i n σ' H' ⟨rfl, hi, M', ρ', hI, t', m', s'⟩
    by_cases hlt : i < A.items.length
    · refine .inr ⟨ok.goes i H' M' hlt t' m' (ist i M' ρ' hi hI), fun σ2 H2 => ∃ M2 ρ2, I (i + 1) M2 ρ2 ∧ Tp H1 H2 ∧ MemOk K H2 M2 ∧ SlOk K H2 σ2 ρ2, ?_, fun x H2 y => ?_⟩
      · rintro σ2 H2 ⟨M2, ρ2, h2⟩
        exact ⟨A.items.length - (i + 1), by omega, rfl, hlt, M2, ρ2, h2⟩
      · have gi : A.items[i]? = some A.items[i] := by simp [hlt]
        obtain ⟨t2, m2, r2⟩ := ok.yields i _ H' M' x H2 gi t' m' (ist i M' ρ' hi hI) y
        refine turn i _ M' ρ' gi hI x σ' H2 m2 (s'.mono t2) r2 _ fun M3 ρ3 σ3 H3 h3 t3 m3 s3 _ => ?_
        have T3 : Tp H1 H3 := (t'.trans t2).trans t3
        refine h3 H1 σ3 H3 T3 m3 s3 _ ⟨fun M4 ρ4 σ4 H4 a b c e => ⟨M4, ρ4, a, b, c, e⟩, fun u M4 v H4 a b c e => d.rt u M4 v H4 a (base.trans b) c e, fun M4 ρ4 σ4 H4 a b c e => d.nx M4 ρ4 σ4 H4 a (base.trans b) c e, fun M4 ρ4 σ4 H4 a b c e => ⟨M4, ρ4, a, b, c, e⟩⟩
    · have e : i = A.items.length := by omega
      subst e
      exact .inl ⟨ok.stops H' M' t' m' (ist _ M' ρ' hi hI), d.nx M' ρ' σ' H' (fin M' ρ' hI) (base.trans t') m' s'⟩
theorem ws_while {c : TT} {tb : TS} {D : AE} (I : Nat → Mem → Rho → Prop) (h0 : ∃ n, I n M ρ) (hs : ∀ n M ρ, I n M ρ → WT K c M ρ fun b M1 => (b = true → WS K tb M1 ρ { D with nx := fun M2 ρ2 => ∃ n', n' < n ∧ I n' M2 ρ2, ct := fun M2 ρ2 => ∃ n', n' < n ∧ I n' M2 ρ2, bk := D.nx }) ∧ (b = false → D.nx M1 ρ)) : WS K (tWhile c tb) M ρ D := fun H0 σ H t m s E d => by
  obtain ⟨n, h0⟩ := h0
  refine ⟨fun n σ' H' => ∃ M' ρ', I n M' ρ' ∧ Tp H0 H' ∧ MemOk K H' M' ∧ SlOk K H' σ' ρ', ⟨n, M, ρ, h0, t, m, s⟩, ?_⟩
  rintro n σ' H' ⟨M', ρ', hI, t', m', s'⟩
  refine hs n M' ρ' hI σ' H' m' s' _ fun b M1 H1 h1 t1 m1 => ?_
  cases b with
  | true =>
    refine iteT ⟨fun σ2 H2 => ∃ n' M2 ρ2, n' < n ∧ I n' M2 ρ2 ∧ Tp H0 H2 ∧ MemOk K H2 M2 ∧ SlOk K H2 σ2 ρ2, ?_, ?_⟩
    · rintro σ2 H2 ⟨n', M2, ρ2, hn, h2⟩
      exact ⟨n', hn, M2, ρ2, h2⟩
    · refine h1.1 rfl H0 σ' H1 (t'.trans t1) m1 (s'.mono t1) _ ⟨?_, d.rt, d.nx, ?_⟩
      · rintro M2 ρ2 σ2 H2 ⟨n', hn, h2⟩ b c e
        exact ⟨n', M2, ρ2, hn, h2, b, c, e⟩
      · rintro M2 ρ2 σ2 H2 ⟨n', hn, h2⟩ b c e
        exact ⟨n', M2, ρ2, hn, h2, b, c, e⟩
  | false => exact iteF (d.nx M1 ρ' σ' H1 (h1.2 rfl) (t'.trans t1) m1 (s'.mono t1))
end
end Wl
set_option Elab.async false
set_option linter.all false
set_option maxRecDepth 100000
set_option maxHeartbeats 4000000
namespace Wl
open PySem PySem.Spec PyProof.Rows L2
section
variable {K : PySem.W.Frag} {M : Mem} {ρ : Rho}
/-! ### what is walked -/
theorem MemOk.lst {H : Hp} {p : Addr} {us : List U} (m : MemOk K H M) (h : (p, MO.l us) ∈ M) : ∃ vs, H p = some (.lst vs) ∧ RpA K H vs us := m.ok _ h
theorem wi_list {tl : TE} {k : AI → Mem → Prop} (h : W K tl M ρ fun x M1 => ∃ p us, x = .ptr p ∧ (p, MO.l us) ∈ M1 ∧ k ⟨us, fun M' => (p, MO.l us) ∈ M'⟩ M1) : WI K (iList K tl) M ρ k := fun σ H m s R c =>
  h σ H m s _ fun x M1 v H1 ⟨p, us, e, hp, h1⟩ t1 m1 r1 => by
    subst e
    cases r1
    obtain ⟨vs, hv, ra⟩ := m1.lst hp
    refine ⟨p, rfl, ⟨vs, SqL.of hv⟩, c _ M1 _ H1 h1 t1 m1 ⟨fun i H' M' hi t' m' st => ?_, fun H' M' t' m' st => ?_, fun i u H' M' x H2 hu t' m' st y => ?_⟩⟩
    · obtain ⟨vs', hv', ra'⟩ := m'.lst st
      obtain ⟨w, hw, _⟩ := ra'.get (List.getElem?_eq_getElem hi)
      exact ⟨vs', w, SqL.of hv', hw⟩
    · obtain ⟨vs', hv', ra'⟩ := m'.lst st
      exact ⟨vs', SqL.of hv', Nat.le_of_eq ra'.length⟩
    · obtain ⟨vs', hv', ra'⟩ := m'.lst st
      obtain ⟨e1, y⟩ := y
      subst e1
      obtain ⟨w, hw, rw'⟩ := ra'.get hu
      have := y vs' (SqL.of hv')
      rw [hw] at this
      cases this
      exact ⟨Tp.refl _, m', rw'⟩
theorem wi_fl {tl : TE} {k : AI → Mem → Prop} (h : W K tl M ρ fun x M1 => ∃ us, x = .fl us ∧ k ⟨us, fun _ => True⟩ M1) : WI K (iList K tl) M ρ k := fun σ H m s R c =>
  h σ H m s _ fun x M1 v H1 ⟨us, e, h1⟩ t1 m1 r1 => by
    subst e
    cases r1 with
    | @fl p vs _ hv ra =>
      refine ⟨p, rfl, ⟨vs, hv.sq⟩, c _ M1 _ H1 h1 t1 m1 ⟨fun i H' M' hi t' m' st => ?_, fun H' M' t' m' st => ?_, fun i u H' M' x H2 hu t' m' st y => ?_⟩⟩
      · obtain ⟨w, hw, _⟩ := ra.get (List.getElem?_eq_getElem hi)
        exact ⟨vs, w, (hv.mono t').sq, hw⟩
      · exact ⟨vs, (hv.mono t').sq, Nat.le_of_eq ra.length⟩
      · obtain ⟨e1, y⟩ := y
        subst e1
        obtain ⟨w, hw, rw'⟩ := ra.get hu
        have := y vs (hv.mono t').sq
        rw [hw] at this
        cases this
        exact ⟨Tp.refl _, m', rw'.mono t'⟩
theorem wi_tup {tl : TE} {k : AI → Mem → Prop} (h : W K tl M ρ fun x M1 => ∃ us, x = .tup us ∧ k ⟨us, fun _ => True⟩ M1) : WI K (iTup K tl) M ρ k := fun σ H m s R c =>
  h σ H m s _ fun x M1 v H1 ⟨us, e, h1⟩ t1 m1 r1 => by
    subst e
    cases r1 with
    | @tup p vs _ hv ra =>
      refine ⟨p, rfl, ⟨vs, SqT.of hv⟩, c _ M1 _ H1 h1 t1 m1 ⟨fun i H' M' hi t' m' st => ?_, fun H' M' t' m' st => ?_, fun i u H' M' x H2 hu t' m' st y => ?_⟩⟩
      · obtain ⟨w, hw, _⟩ := ra.get (List.getElem?_eq_getElem hi)
        exact ⟨vs, w, SqT.of (t'.tup _ _ hv), hw⟩
      · exact ⟨vs, SqT.of (t'.tup _ _ hv), Nat.le_of_eq ra.length⟩
      · obtain ⟨e1, y⟩ := y
        subst e1
        obtain ⟨w, hw, rw'⟩ := ra.get hu
        have := y vs (SqT.of (t'.tup _ _ hv))
        rw [hw] at this
        cases this
        exact ⟨Tp.refl _, m', rw'.mono t'⟩
/-- a tuple of texts that the top wrote -/
theorem wi_kt {tl : TE} {k : AI → Mem → Prop} {a : Addr} {xs : List Str} (hk : ∀ H : Hp, SqT K H a (xs.map V.str)) (h : W K tl M ρ fun x M1 => x = .ptr a ∧ k ⟨xs.map U.str, fun _ => True⟩ M1) : WI K (iTup K tl) M ρ k := fun σ H m s R c =>
  h σ H m s _ fun x M1 v H1 ⟨e, h1⟩ t1 m1 r1 => by
    subst e
    cases r1
    have ra : RpA K H1 (xs.map V.str) (xs.map U.str) := RpA.of_strs xs
    refine ⟨a, rfl, ⟨_, hk H1⟩, c _ M1 _ H1 h1 t1 m1 ⟨fun i H' M' hi t' m' st => ?_, fun H' M' t' m' st => ?_, fun i u H' M' x H2 hu t' m' st y => ?_⟩⟩
    · obtain ⟨w, hw, _⟩ := ra.get (List.getElem?_eq_getElem hi)
      exact ⟨_, w, hk H', hw⟩
    · exact ⟨_, hk H', Nat.le_of_eq ra.length⟩
    · obtain ⟨e1, y⟩ := y
      subst e1
      obtain ⟨w, hw, rw'⟩ := ra.get hu
      have := y _ (hk H2)
      rw [hw] at this
      cases this
      exact ⟨Tp.refl _, m', rw'.mono t'⟩
def upTo (lo : Int) (n : Nat) : List U := (List.range n).map fun i => U.int (lo + (i : Nat))
theorem upTo_len (lo : Int) (n : Nat) : (upTo lo n).length = n := by simp [upTo]
theorem upTo_get {lo : Int} {n i : Nat} {u : U} (h : (upTo lo n)[i]? = some u) : i < n ∧ u = .int (lo + (i : Nat)) := by
  have hi : i < n := by
    have := (List.getElem?_eq_some_iff.mp h).1
    rwa [upTo_len] at this
  refine ⟨hi, ?_⟩
  unfold upTo at h
  rw [List.getElem?_map, List.getElem?_range hi] at h
  exact (Option.some.inj h).symm
theorem rng_ok {lo : Int} {n : Nat} {H1 : Hp} : AIOk K (Itr lo n) ⟨upTo lo n, fun _ => True⟩ H1 :=
  ⟨fun i H' M' hi t' m' st => by rw [upTo_len] at hi; exact hi, fun H' M' t' m' st => by show n ≤ _; rw [upTo_len]; exact Nat.le_refl _, fun i u H' M' x H2 hu t' m' st y => by
    obtain ⟨e1, e2⟩ := y
    subst e1 e2
    rw [(upTo_get hu).2]
    exact ⟨Tp.refl _, m', .int _⟩⟩
theorem wi_rng1 {ta : TA} {k : AI → Mem → Prop} (h : WA K ta M ρ fun xs M1 => ∃ j : Int, xs = [.int j] ∧ -1000000 ≤ j ∧ j ≤ 1000000 ∧ k ⟨upTo 0 j.toNat, fun _ => True⟩ M1) : WI K (iRng1 ta) M ρ k := fun σ H m s R c =>
  h σ H m s _ fun xs M1 vs H1 ⟨j, e, b1, b2, h1⟩ t1 m1 r1 => by
    subst e
    cases r1 with
    | cons a b =>
      cases b
      cases a
      exact ⟨j, rfl, by omega, by omega, c _ M1 _ H1 h1 t1 m1 rng_ok⟩
theorem wi_rng2 {ta : TA} {k : AI → Mem → Prop} (h : WA K ta M ρ fun xs M1 => ∃ i j : Int, xs = [.int i, .int j] ∧ (-1000000 ≤ i ∧ i ≤ 1000000 ∧ -1000000 ≤ j ∧ j ≤ 1000000) ∧ k ⟨upTo i (j - i).toNat, fun _ => True⟩ M1) : WI K (iRng2 ta) M ρ k := fun σ H m s R c =>
  h σ H m s _ fun xs M1 vs H1 ⟨i, j, e, ⟨b1, b2, b3, b4⟩, h1⟩ t1 m1 r1 => by
    subst e
    cases r1 with
    | cons a b =>
      cases b with
      | cons b c' =>
        cases c'
        cases a
        cases b
        exact ⟨i, j, rfl, ⟨by omega, by omega, by omega, by omega⟩, c _ M1 _ H1 h1 t1 m1 rng_ok⟩
def steps (lo c : Int) (n : Nat) : List U := (List.range n).map fun i => U.int (lo + (i : Nat) * c)
theorem steps_len (lo c : Int) (n : Nat) : (steps lo c n).length = n := by simp [steps]
theorem steps_get {lo c : Int} {n i : Nat} {u : U} (h : (steps lo c n)[i]? = some u) : i < n ∧ u = .int (lo + (i : Nat) * c) := by
  have hi : i < n := by
    have := (List.getElem?_eq_some_iff.mp h).1
    rwa [steps_len] at this
  refine ⟨hi, ?_⟩
  unfold steps at h
  rw [List.getElem?_map, List.getElem?_range hi] at h
  exact (Option.some.inj h).symm
theorem rngC_ok {lo c : Int} {n : Nat} {H1 : Hp} : AIOk K (Itc lo c n) ⟨steps lo c n, fun _ => True⟩ H1 :=
  ⟨fun i H' M' hi t' m' st => by rw [steps_len] at hi; exact hi, fun H' M' t' m' st => by show n ≤ _; rw [steps_len]; exact Nat.le_refl _, fun i u H' M' x H2 hu t' m' st y => by
    obtain ⟨e1, e2⟩ := y
    subst e1 e2
    rw [(steps_get hu).2]
    exact ⟨Tp.refl _, m', .int _⟩⟩
theorem wi_rng3 {ta : TA} {k : AI → Mem → Prop} (h : WA K ta M ρ fun xs M1 => ∃ i j c n, xs = [.int i, .int j, .int c] ∧ RgC i j c n ∧ k ⟨steps i c n, fun _ => True⟩ M1) : WI K (iRng3 ta) M ρ k := fun σ H m s R q =>
  h σ H m s _ fun xs M1 vs H1 ⟨i, j, c, n, e, g, h1⟩ t1 m1 r1 => by
    subst e
    cases r1 with
    | cons a b =>
      cases b with
      | cons b d =>
        cases d with
        | cons d z =>
          cases z
          cases a
          cases b
          cases d
          exact ⟨i, j, c, n, rfl, g, q _ M1 _ H1 h1 t1 m1 rngC_ok⟩
def signs (z : Str) : List U := z.cps.toList.map fun c => U.str ⟨#[c]⟩
theorem wi_str {te : TE} {k : AI → Mem → Prop} (h : W K te M ρ fun x M1 => ∃ z, x = .str z ∧ k ⟨signs z, fun _ => True⟩ M1) : WI K (iStr te) M ρ k := fun σ H m s R c =>
  h σ H m s _ fun x M1 v H1 ⟨z, e, h1⟩ t1 m1 r1 => by
    subst e
    cases r1
    have hl : (signs z).length = z.cps.size := by simp [signs]
    refine ⟨z, rfl, c _ M1 _ H1 h1 t1 m1 ⟨fun i H' M' hi t' m' st => ?_, fun H' M' t' m' st => ?_, fun i u H' M' x H2 hu t' m' st y => ?_⟩⟩
    · rw [hl] at hi
      exact hi
    · show z.cps.size ≤ (signs z).length
      rw [hl]
      exact Nat.le_refl _
    · obtain ⟨e1, d, e2, e3⟩ := y
      subst e1 e3
      have hu' : (signs z)[i]? = some u := hu
      unfold signs at hu'
      rw [List.getElem?_map, Array.getElem?_toList, e2] at hu'
      cases hu'
      exact ⟨Tp.refl _, m', .str _⟩
def pairs (us : List U) : List U := us.zipIdx.map fun x => U.tup [.int (x.2 : Nat), x.1]
theorem pairs_get {us : List U} {i : Nat} {u : U} (h : (pairs us)[i]? = some u) : ∃ x, us[i]? = some x ∧ u = .tup [.int (i : Nat), x] := by
  unfold pairs at h
  rw [List.getElem?_map, List.getElem?_zipIdx] at h
  cases q : us[i]? with
  | none => rw [q] at h; cases h
  | some x =>
    rw [q] at h
    refine ⟨x, rfl, ?_⟩
    have h2 := Option.some.inj h
    rw [← h2]
    show U.tup [.int (((0 + i : Nat)) : Int), x] = _
    rw [Nat.zero_add]
theorem pairs_len (us : List U) : (pairs us).length = us.length := by simp [pairs]
theorem pair_new {H : Hp} {T : Addr} {i : Int} {v : V} {u : U} (n : H T = none) (m : MemOk K H M) (r : Rp K H v u) : Tp H (upd H T (.tup [.int i, v])) ∧ MemOk K (upd H T (.tup [.int i, v])) M ∧ Rp K (upd H T (.tup [.int i, v])) (.ref T) (.tup [.int i, u]) :=
  ⟨Tp.new n, m.skipNew n, .tup upd_same (.cons (.int _) (.cons (r.mono (Tp.new n)) .nil))⟩
theorem wi_enum {ta : TA} {k : AI → Mem → Prop} (h : WA K ta M ρ fun xs M1 => ∃ p us, xs = [.ptr p] ∧ (p, MO.l us) ∈ M1 ∧ k ⟨pairs us, fun M' => (p, MO.l us) ∈ M'⟩ M1) : WI K (iEnum K ta) M ρ k := fun σ H m s R c =>
  h σ H m s _ fun xs M1 v H1 ⟨p, us, e, hp, h1⟩ t1 m1 r1 => by
    subst e
    cases r1 with
    | cons a b =>
      cases b
      cases a
      obtain ⟨vs, hv, ra⟩ := m1.lst hp
      refine ⟨p, vs, rfl, SqL.of hv, c _ M1 _ H1 h1 t1 m1 ⟨fun i H' M' hi t' m' st => ?_, fun H' M' t' m' st => ?_, fun i u H' M' x H2 hu t' m' st y => ?_⟩⟩
      · obtain ⟨vs', hv', ra'⟩ := m'.lst st
        rw [pairs_len] at hi
        obtain ⟨w, hw, _⟩ := ra'.get (List.getElem?_eq_getElem hi)
        exact ⟨vs', w, SqL.of hv', hw⟩
      · obtain ⟨vs', hv', ra'⟩ := m'.lst st
        refine ⟨vs', SqL.of hv', ?_⟩
        rw [pairs_len]
        exact Nat.le_of_eq ra'.length
      · obtain ⟨vs', hv', ra'⟩ := m'.lst st
        obtain ⟨T, w, e1, nT, e2, y⟩ := y
        subst e1 e2
        obtain ⟨x, hx, ex⟩ := pairs_get hu
        obtain ⟨w', hw, rw'⟩ := ra'.get hx
        have := y vs' (SqL.of hv')
        rw [hw] at this
        cases this
        rw [ex]
        exact pair_new nT m' rw'
theorem wi_enumT {ta : TA} {k : AI → Mem → Prop} (h : WA K ta M ρ fun xs M1 => ∃ us, xs = [.tup us] ∧ k ⟨pairs us, fun _ => True⟩ M1) : WI K (iEnumT K ta) M ρ k := fun σ H m s R c =>
  h σ H m s _ fun xs M1 v H1 ⟨us, e, h1⟩ t1 m1 r1 => by
    subst e
    cases r1 with
    | cons a b =>
      cases b
      cases a with
      | @tup p vs _ hv ra =>
        refine ⟨p, vs, rfl, SqT.of hv, c _ M1 _ H1 h1 t1 m1 ⟨fun i H' M' hi t' m' st => ?_, fun H' M' t' m' st => ?_, fun i u H' M' x H2 hu t' m' st y => ?_⟩⟩
        · rw [pairs_len] at hi
          obtain ⟨w, hw, _⟩ := ra.get (List.getElem?_eq_getElem hi)
          exact ⟨vs, w, SqT.of (t'.tup _ _ hv), hw⟩
        · refine ⟨vs, SqT.of (t'.tup _ _ hv), ?_⟩
          rw [pairs_len]
          exact ra.length
        · obtain ⟨T, w, e1, nT, e2, y⟩ := y
          subst e1 e2
          obtain ⟨x, hx, ex⟩ := pairs_get hu
          obtain ⟨w', hw, rw'⟩ := ra.get hx
          have := y vs (SqT.of (t'.tup _ _ hv))
          rw [hw] at this
          cases this
          rw [ex]
          exact pair_new nT m' (rw'.mono t')
/-! ### comprehensions -/
def wipeR (ρ : Rho) : List Nat → Rho
  | [] => ρ
  | v :: vs => (wipeR ρ vs).set v none
theorem wipeR_len (ρ : Rho) : ∀ vs, (wipeR ρ vs).length = ρ.length
  | [] => rfl
  | v :: vs => by unfold wipeR; rw [List.length_set, wipeR_len ρ vs]
theorem wipe_len (σ : L2.St) : ∀ vs, (wipe σ vs).length = σ.length
  | [] => rfl
  | v :: vs => by unfold wipe; rw [List.length_set, wipe_len σ vs]
theorem wipe_off {σ : L2.St} {j : Nat} : ∀ {vs : List Nat}, j ∉ vs → (wipe σ vs)[j]? = σ[j]?
  | [], _ => rfl
  | v :: vs, h => by
    simp only [List.mem_cons, not_or] at h
    unfold wipe
    rw [List.getElem?_set_ne (Ne.symm h.1)]
    exact wipe_off h.2
theorem wipe_on {σ : L2.St} {j : Nat} : ∀ {vs : List Nat}, j ∈ vs → j < σ.length → (wipe σ vs)[j]? = some none
  | [], h, _ => by cases h
  | v :: vs, h, hl => by
    unfold wipe
    by_cases e : v = j
    · subst e
      rw [List.getElem?_set_self (by rw [wipe_len]; exact hl)]
    · rw [List.getElem?_set_ne e]
      rcases List.mem_cons.mp h with z | z
      · exact absurd z.symm e
      · exact wipe_on z hl
theorem wipe_same {σ σ' : L2.St} {vs : List Nat} (h : σ'.length = σ.length) (e : ∀ j, j ∉ vs → σ'[j]? = σ[j]?) : wipe σ' vs = wipe σ vs := by
  refine List.ext_getElem? fun j => ?_
  by_cases hj : j ∈ vs
  · by_cases hl : j < σ.length
    · rw [wipe_on hj hl, wipe_on hj (by rw [h]; exact hl)]
    · rw [List.getElem?_eq_none (by rw [wipe_len, h]; omega), List.getElem?_eq_none (by rw [wipe_len]; omega)]
  · rw [wipe_off hj, wipe_off hj, e j hj]
theorem wipe_twice {σ σ' : L2.St} {vs : List Nat} (o : Off (some vs) (wipe σ vs) σ') : wipe σ' vs = wipe σ vs := by
  obtain ⟨h1, h2⟩ := o
  rw [wipe_len] at h1
  exact wipe_same h1 fun j hj => (h2 j hj).trans (wipe_off hj)
theorem SlOk.wipe {H : Hp} {σ : L2.St} (h : SlOk K H σ ρ) : ∀ vs : List Nat, SlOk K H (L2.wipe σ vs) (wipeR ρ vs)
  | [] => h
  | v :: vs => by
    have ih := h.wipe vs
    unfold L2.wipe wipeR
    refine ⟨by rw [List.length_set, List.length_set]; exact ih.len, fun i u e => ?_⟩
    by_cases hi : v = i
    · subst hi
      by_cases hl : v < (wipeR ρ vs).length
      · rw [List.getElem?_set_self hl] at e
        cases e
      · rw [List.getElem?_eq_none (by simpa using hl)] at e
        cases e
    · rw [List.getElem?_set_ne hi] at e ⊢
      exact ih.at_ i u e
/-- the rule, by an invariant over what is made so far and the rest of the memory -/
theorem w_lc {wi : TI} {g : TG} {tt : TT} {te : TE} {vs : List Nat} {k : U → Mem → Prop} (h : WI K wi M ρ fun A M1 => ∃ I : Nat → List U → Mem → Prop, I 0 [] M1 ∧ A.items.length ≤ 100000 ∧
      (∀ D i acc M, i ≤ A.items.length → I i acc M → A.stay ((D, MO.l acc) :: M)) ∧
      (∀ D i acc M u, A.items[i]? = some u → acc.length ≤ i → I i acc M → WG K (some vs) g u ((D, MO.l acc) :: M) (wipeR ρ vs) fun M2 ρ2 => WT K tt M2 ρ2 fun b M3 =>
        (b = true → W K te M3 ρ2 fun y M4 => ∃ M5, Sub ((D, MO.l acc) :: M5) M4 ∧ I (i + 1) (acc ++ [y]) M5) ∧ (b = false → ∃ M5, Sub ((D, MO.l acc) :: M5) M3 ∧ I (i + 1) acc M5)) ∧
      (∀ D acc M, acc.length ≤ A.items.length → I A.items.length acc M → k (.ptr D) ((D, MO.l acc) :: M))) : W K (tLc wi g tt te vs) M ρ k := fun σ H m s Q c =>
  h σ H m s _ fun A M1 J H1 ⟨I, i0, hlen, ist, turn, fin⟩ t1 m1 ok D nD => by
    have tD : Tp H1 (upd H1 D (.lst [])) := Tp.new nD
    have mD : MemOk K (upd H1 D (.lst [])) ((D, MO.l []) :: M1) := m1.new nD ⟨[], upd_same, .nil⟩
    have base : Tp H (upd H1 D (.lst [])) := t1.trans tD
    refine ⟨fun i n H' => n = A.items.length - i ∧ i ≤ A.items.length ∧ ∃ acc M', I i acc M' ∧ acc.length ≤ i ∧ Tp (upd H1 D (.lst [])) H' ∧ MemOk K H' ((D, MO.l acc) :: M'), ⟨_, rfl, Nat.zero_le _, [], M1, i0, Nat.le_refl _, Tp.refl _, mD⟩, ?_⟩
    rintro i n H' ⟨rfl, hi, acc, M', hI, hacc, t', m'⟩
    have T1 : Tp H1 H' := tD.trans t'
    by_cases hlt : i < A.items.length
    · refine .inr ⟨ok.goes i H' _ hlt T1 m' (ist D i acc M' hi hI), fun H2 => ∃ acc2 M2, I (i + 1) acc2 M2 ∧ acc2.length ≤ i + 1 ∧ Tp (upd H1 D (.lst [])) H2 ∧ MemOk K H2 ((D, MO.l acc2) :: M2), ?_, fun x H2 y => ?_⟩
      · rintro H2 ⟨acc2, M2, h2⟩
        exact ⟨A.items.length - (i + 1), by omega, rfl, hlt, acc2, M2, h2⟩
      · have gi : A.items[i]? = some A.items[i] := by simp [hlt]
        obtain ⟨t2, m2, r2⟩ := ok.yields i _ H' _ x H2 gi T1 m' (ist D i acc M' hi hI) y
        have s2 : SlOk K H2 (wipe σ vs) (wipeR ρ vs) := (s.mono ((t1.trans T1).trans t2)).wipe vs
        refine turn D i acc M' _ gi hacc hI x (wipe σ vs) H2 m2 s2 r2 _ fun M3 ρ3 σ3 H3 h3 t3 m3 s3 o3 => ⟨wipe_twice o3, ?_⟩
        refine h3 σ3 H3 m3 s3 _ fun b M4 H4 h4 t4 m4 => ?_
        have T4 : Tp (upd H1 D (.lst [])) H4 := ((t'.trans t2).trans t3).trans t4
        cases b with
        | true =>
          refine iteT (h4.1 rfl σ3 H4 m4 (s3.mono t4) _ fun y M5 yv H5 ⟨M6, h6, hI6⟩ t5 m5 r5 => ?_)
          have m6 := m5.sub h6
          obtain ⟨vs', hv, ra⟩ := m6.lst (List.mem_cons_self ..)
          refine ⟨vs', hv, ?_, acc ++ [y], M6, hI6, by simpa using hacc, ?_⟩
          · rw [ra.length]
            have : acc.length ≤ 100000 := by omega
            exact Nat.lt_of_le_of_lt this (by decide)
          · have tm : Tp H5 (upd H5 D (.lst (vs' ++ [yv]))) := Tp.mut hv trivial
            obtain ⟨q1, q2⟩ := m6.put (.here (o' := MO.l (acc ++ [y]))) (w := .lst (vs' ++ [yv])) ⟨_, upd_same, (ra.append (.cons r5 .nil)).mono tm⟩
            exact ⟨(T4.trans t5).trans q2, q1⟩
        | false =>
          obtain ⟨M6, h6, hI6⟩ := h4.2 rfl
          exact iteF ⟨acc, M6, hI6, by omega, T4, m4.sub h6⟩
    · have e : i = A.items.length := by omega
      subst e
      exact .inl ⟨ok.stops H' _ T1 m' (ist D _ acc M' hi hI), c _ _ _ H' (fin D acc M' hacc hI) (base.trans t') m' (.ptr D)⟩
theorem wt_yes {k : Bool → Mem → Prop} (h : k true M) : WT K tYes M ρ k := fun σ H m s Q c => c true M H h (Tp.refl H) m
/-- one that changes nothing: every item by itself -/
theorem w_lcp {wi : TI} {g : TG} {tt : TT} {te : TE} {vs : List Nat} {k : U → Mem → Prop} {α : Type} (h : WI K wi M ρ fun A M1 => ∃ (xs : List α) (enc : α → U) (b : α → Bool) (f : α → U), A.items = xs.map enc ∧ xs.length ≤ 100000 ∧ (∀ D acc, A.stay ((D, MO.l acc) :: M1)) ∧
      (∀ D acc x, x ∈ xs → WG K (some vs) g (enc x) ((D, MO.l acc) :: M1) (wipeR ρ vs) fun M2 ρ2 => WT K tt M2 ρ2 fun c M3 => c = b x ∧ Sub ((D, MO.l acc) :: M1) M3 ∧
        (b x = true → W K te M3 ρ2 fun y M4 => y = f x ∧ Sub ((D, MO.l acc) :: M1) M4)) ∧
      (∀ D, k (.ptr D) ((D, MO.l ((xs.filter b).map f)) :: M1))) : W K (tLc wi g tt te vs) M ρ k := by
  refine w_lc fun σ H m s R c => h σ H m s R fun A M1 J H1 ⟨xs, enc, b, f, ei, hlen, st, turn, fin⟩ t1 m1 ok => c A M1 J H1 ⟨fun i acc M => M = M1 ∧ acc = ((xs.take i).filter b).map f, ⟨rfl, rfl⟩, by rw [ei]; simpa using hlen, ?_, ?_, ?_⟩ t1 m1 ok
  · rintro D i acc M hi ⟨rfl, rfl⟩
    exact st D _
  · rintro D i acc M u hu _ ⟨rfl, rfl⟩
    rw [ei, List.getElem?_map] at hu
    cases q : xs[i]? with
    | none => rw [q] at hu; cases hu
    | some x =>
      rw [q] at hu
      cases hu
      intro v σ' H' m' s' r' Q' c'
      refine turn D _ x (List.mem_of_getElem? q) v σ' H' m' s' r' Q' fun M2 ρ2 σ2 H2 h2 => c' M2 ρ2 σ2 H2 ?_
      refine h2.imp fun bb M3 ⟨e1, e2, e3⟩ => ?_
      subst e1
      refine ⟨fun hb => (e3 hb).imp fun y M4 ⟨e4, e5⟩ => ⟨M, e5, rfl, ?_⟩, fun hb => ⟨M, e2, rfl, ?_⟩⟩
      · rw [e4, List.take_add_one, q, List.filter_append, List.map_append]
        simp [hb]
      · rw [List.take_add_one, q, List.filter_append, List.map_append]
        simp [hb]
  · rintro D acc M _ ⟨rfl, rfl⟩
    rw [ei, List.length_map, List.take_length]
    exact fin D
end
end Wl
set_option Elab.async false
set_option linter.all false
set_option maxRecDepth 100000
set_option maxHeartbeats 4000000
namespace Wl
open PySem PySem.Spec PyProof.Rows L2
section
variable {K : PySem.W.Frag} {M : Mem} {ρ : Rho}
theorem sz1 {n : Nat} (h : n ≤ 100000) : n ≤ sizeLine := Nat.le_trans h (by decide)
theorem sz2 {n : Nat} (h : n ≤ 100000) : n < sizeLine := Nat.lt_of_le_of_lt h (by decide)
/-! ### lengths -/
abbrev rLenX (K : PySem.W.Frag) : List V → Hp → VK → Prop := fun xs H Q => ∃ p ys, xs = [.ref p] ∧ (SqL K H p ys ∨ SqT K H p ys) ∧ Q (.int ys.length) H
theorem rc_len {p : Addr} {us : List U} {k : U → Mem → Prop} (hp : (p, MO.l us) ∈ M) (h : k (.int us.length) M) : RCA K (rLenX K) [.ptr p] M k := fun vs H m r Q c => by
  cases r with
  | cons a b =>
    cases b
    cases a
    obtain ⟨ws, hw, ra⟩ := m.lst hp
    refine ⟨p, ws, rfl, .inl (SqL.of hw), ?_⟩
    rw [ra.length]
    exact c _ M _ H h (Tp.refl H) m (.int _)
theorem rc_lenT {us : List U} {k : U → Mem → Prop} (h : k (.int us.length) M) : RCA K (rLenX K) [.tup us] M k := fun vs H m r Q c => by
  cases r with
  | cons a b =>
    cases b
    cases a with
    | @tup p ws _ hw ra =>
      refine ⟨p, ws, rfl, .inr (SqT.of hw), ?_⟩
      rw [ra.length]
      exact c _ M _ H h (Tp.refl H) m (.int _)
theorem rc_lenF {us : List U} {k : U → Mem → Prop} (h : k (.int us.length) M) : RCA K (rLenX K) [.fl us] M k := fun vs H m r Q c => by
  cases r with
  | cons a b =>
    cases b
    cases a with
    | @fl p ws _ hw ra =>
      refine ⟨p, ws, rfl, .inl hw.sq, ?_⟩
      rw [ra.length]
      exact c _ M _ H h (Tp.refl H) m (.int _)
theorem rc_lenS {z : Str} {k : U → Mem → Prop} (hz : z.length ≤ 100000) (h : k (.int z.length) M) : RCA K (fun xs H Q => ∃ z, xs = [.str z] ∧ z.length ≤ sizeLine ∧ Q (.int z.length) H) [.str z] M k := fun vs H m r Q c => by
  cases r with
  | cons a b =>
    cases b
    cases a
    exact ⟨z, rfl, sz1 hz, c _ M _ H h (Tp.refl H) m (.int _)⟩
/-! ### subscripts -/
theorem atI_rp {H : Hp} {vs : List V} {us : List U} {i : Int} {u : U} (r : RpA K H vs us) (e : atI us i = some u) : ∃ v, atI vs i = some v ∧ Rp K H v u := by
  unfold atI at e ⊢
  rw [r.length]
  cases q : ixN us.length i with
  | none => rw [q] at e; cases e
  | some j =>
    rw [q] at e
    exact r.get e
theorem r_ixL {p : Addr} {us : List U} {i : Int} {u : U} {k : U → Mem → Prop} (hp : (p, MO.l us) ∈ M) (e : atI us i = some u) (h : k u M) : R2A K (rIxL K) (.ptr p) (.int i) M k := fun v w H m a b Q c => by
  cases a
  cases b
  obtain ⟨ws, hw, ra⟩ := m.lst hp
  obtain ⟨x, hx, rx⟩ := atI_rp ra e
  exact ⟨p, ws, i, x, rfl, rfl, SqL.of hw, hx, c u M x H h (Tp.refl H) m rx⟩
theorem r_ixF {us : List U} {i : Int} {u : U} {k : U → Mem → Prop} (e : atI us i = some u) (h : k u M) : R2A K (rIxL K) (.fl us) (.int i) M k := fun v w H m a b Q c => by
  cases a with
  | @fl p ws _ hw ra =>
    cases b
    obtain ⟨x, hx, rx⟩ := atI_rp ra e
    exact ⟨p, ws, i, x, rfl, rfl, hw.sq, hx, c u M x H h (Tp.refl H) m rx⟩
theorem r_ixT {us : List U} {i : Int} {u : U} {k : U → Mem → Prop} (e : atI us i = some u) (h : k u M) : R2A K (rIxT K) (.tup us) (.int i) M k := fun v w H m a b Q c => by
  cases a with
  | @tup p ws _ hw ra =>
    cases b
    obtain ⟨x, hx, rx⟩ := atI_rp ra e
    exact ⟨p, ws, i, x, rfl, rfl, SqT.of hw, hx, c u M x H h (Tp.refl H) m rx⟩
theorem r_ixS {z : Str} {i : Int} {d : Nat} {k : U → Mem → Prop} (hz : z.length ≤ 100000) (e : atI z.cps.toList i = some d) (h : k (.str ⟨#[d]⟩) M) : R2A K rIxS (.str z) (.int i) M k := fun v w H m a b Q c => by
  cases a
  cases b
  exact ⟨z, i, d, rfl, rfl, sz1 hz, e, c _ M _ H h (Tp.refl H) m (.str _)⟩
/-! ### slices -/
theorem wo_none {k : Option Int → Mem → Prop} (h : k none M) : WO K tNoPart M ρ k := fun σ H m s Q c => c none M H h (Tp.refl H) m
theorem wo_some {te : TE} {k : Option Int → Mem → Prop} (h : W K te M ρ fun x M1 => ∃ i, x = .int i ∧ k (some i) M1) : WO K (tPart te) M ρ k := fun σ H m s Q c =>
  h σ H m s _ fun x M1 v H1 ⟨i, e, h1⟩ t1 m1 r1 => by
    subst e
    cases r1
    exact ⟨i, rfl, c _ M1 H1 h1 t1 m1⟩
def RSA (K : PySem.W.Frag) (r : V → Option Int → Option Int → Hp → VK → Prop) (x : U) (lo hi : Option Int) (M : Mem) (k : U → Mem → Prop) : Prop := ∀ v H, MemOk K H M → Rp K H v x → ∀ Q : VK,
  (∀ u M' z H', k u M' → Tp H H' → MemOk K H' M' → Rp K H' z u → Q z H') → r v lo hi H Q
theorem w_sl {r : V → Option Int → Option Int → Hp → VK → Prop} {te : TE} {tl th : TO} {k : U → Mem → Prop} (h : W K te M ρ fun x M1 => WO K tl M1 ρ fun lo M2 => WO K th M2 ρ fun hi M3 => RSA K r x lo hi M3 k) : W K (tSl r te tl th) M ρ k := fun σ H m s Q c =>
  h σ H m s _ fun x M1 v H1 h1 t1 m1 r1 => h1 σ H1 m1 (s.mono t1) _ fun lo M2 H2 h2 t2 m2 => h2 σ H2 m2 (s.mono (t1.trans t2)) _ fun hi M3 H3 h3 t3 m3 =>
    h3 v H3 m3 (r1.mono (t2.trans t3)) Q fun u M4 z H4 h4 t4 m4 r4 => c u M4 z H4 h4 (((t1.trans t2).trans t3).trans t4) m4 r4
def cutU (xs : List U) (lo hi : Option Int) : List U := (xs.drop (HT.sIx xs.length 0 lo)).take (HT.sIx xs.length xs.length hi - HT.sIx xs.length 0 lo)
theorem cut_rp {H : Hp} {vs : List V} {us : List U} (r : RpA K H vs us) (lo hi : Option Int) : RpA K H (cutV vs lo hi) (cutU us lo hi) := by
  unfold cutV cutU
  rw [r.length]
  exact (r.drop _).take _
theorem rs_L {p : Addr} {us : List U} {lo hi : Option Int} {k : U → Mem → Prop} (hp : (p, MO.l us) ∈ M) (h : ∀ q, k (.ptr q) ((q, .l (cutU us lo hi)) :: M)) : RSA K (rSlL K) (.ptr p) lo hi M k := fun v H m a Q c => by
  cases a
  obtain ⟨ws, hw, ra⟩ := m.lst hp
  refine ⟨p, ws, rfl, SqL.of hw, fun q nq => c _ _ _ _ (h q) (Tp.new nq) (m.new nq ⟨_, upd_same, (cut_rp ra lo hi).mono (Tp.new nq)⟩) (.ptr q)⟩
theorem cut_all {us : List U} {lo hi : Option Int} (h0 : HT.sIx us.length 0 lo = 0) (h1 : HT.sIx us.length us.length hi = us.length) : cutU us lo hi = us := by
  unfold cutU
  rw [h0, h1, List.drop_zero, Nat.sub_zero, List.take_length]
theorem rs_T {us : List U} {lo hi : Option Int} {k : U → Mem → Prop} (h : k (.tup (cutU us lo hi)) M) : RSA K (rSlA K) (.tup us) lo hi M k := fun v H m a Q c => by
  cases a with
  | @tup p xs _ hx ra =>
    have e1 := ra.length
    refine ⟨p, xs, rfl, SqT.of hx, fun e2 => ?_, fun e2 q nq => c _ M _ _ h (Tp.new nq) (m.skipNew nq) (.tup upd_same ((cut_rp ra lo hi).mono (Tp.new nq)))⟩
    have e3 : cutU us lo hi = us := by
      apply cut_all
      · rw [← e1]; exact e2.1
      · rw [← e1]; exact e2.2
    rw [e3] at h
    exact c _ M _ H h (Tp.refl H) m (.tup hx ra)
/-! ### tuples put together -/
theorem r_catT {us ws : List U} {k : U → Mem → Prop} (hl : us.length + ws.length ≤ 100000) (h : k (.tup (us ++ ws)) M) : R2A K (rCatA K) (.tup us) (.tup ws) M k := fun v w H m a b Q c => by
  cases a with
  | @tup p xs _ hx ra =>
    cases b with
    | @tup q ys _ hy rb =>
      have e1 := ra.length
      have e2 := rb.length
      refine ⟨p, q, xs, ys, rfl, rfl, SqT.of hx, SqT.of hy, sz1 (by omega), fun e => ?_, fun e d => ?_, fun e d r nr => ?_⟩
      · subst e
        cases ra
        exact c _ M _ H h (Tp.refl H) m (.tup hy rb)
      · subst d
        cases rb
        rw [List.append_nil] at h
        exact c _ M _ H h (Tp.refl H) m (.tup hx ra)
      · exact c _ M _ _ h (Tp.new nr) (m.skipNew nr) (.tup upd_same ((ra.append rb).mono (Tp.new nr)))
/-! ### list methods -/
theorem w_bm {T : String} {r : V → List V → Hp → VK → Prop} {to : TE} {ta : TA} {k : U → Mem → Prop} (h : W K to M ρ fun x M1 => (∃ p us, x = .ptr p ∧ T = "list" ∧ (p, MO.l us) ∈ M1) ∧ WA K ta M1 ρ fun xs M2 => RMA K r x xs M2 k) : W K (tBM K T r to ta) M ρ k := fun σ H m s Q c =>
  h σ H m s _ fun x M1 v H1 ⟨⟨p, us, e, eT, hp⟩, h1⟩ t1 m1 r1 => by
    subst e
    have r1' := r1
    cases r1
    obtain ⟨ws, hw, ra⟩ := m1.lst hp
    exact ⟨.inl ⟨eT, ws, SqL.of hw⟩, h1 σ H1 m1 (s.mono t1) _ fun xs M2 vs H2 h2 t2 m2 r2 => h2 _ vs H2 m2 (.ptr p) r2 Q fun u M3 z H3 h3 t3 m3 r3 => c u M3 z H3 h3 ((t1.trans t2).trans t3) m3 r3⟩
theorem rm_append {p : Addr} {us : List U} {u : U} {M' : Mem} {k : U → Mem → Prop} (hp : Put p (.l us) (.l (us ++ [u])) M M') (hl : us.length ≤ 100000) (h : k .non M') : RMA K rAppend (.ptr p) [u] M k := fun v vs H m a r Q c => by
  cases a
  cases r with
  | @cons y _ _ _ r1 r2 =>
    cases r2
    obtain ⟨ws, hw, ra⟩ := m.lst hp.mem
    have tm : Tp H (upd H p (.lst (ws ++ [y]))) := Tp.mut hw trivial
    obtain ⟨q1, q2⟩ := m.put hp (w := .lst (ws ++ [y])) ⟨_, upd_same, (ra.append (.cons r1 .nil)).mono tm⟩
    exact ⟨p, ws, _, rfl, rfl, hw, by rw [ra.length]; exact sz2 hl, c _ M' _ _ h q2 q1 .non⟩
theorem rm_extend {p q : Addr} {us xs : List U} {M' : Mem} {k : U → Mem → Prop} (hp : Put p (.l us) (.l (us ++ xs)) M M') (hq : (q, MO.l xs) ∈ M) (hl : us.length + xs.length ≤ 100000) (h : k .non M') : RMA K rExtend (.ptr p) [.ptr q] M k := fun v vs H m a r Q c => by
  cases a
  cases r with
  | cons r1 r2 =>
    cases r2
    cases r1
    obtain ⟨ws, hw, ra⟩ := m.lst hp.mem
    obtain ⟨zs, hz, rb⟩ := m.lst hq
    have tm : Tp H (upd H p (.lst (ws ++ zs))) := Tp.mut hw trivial
    obtain ⟨q1, q2⟩ := m.put hp (w := .lst (ws ++ zs)) ⟨_, upd_same, (ra.append rb).mono tm⟩
    exact ⟨p, q, ws, zs, rfl, rfl, hw, hz, by rw [ra.length, rb.length]; exact sz1 hl, c _ M' _ _ h q2 q1 .non⟩
theorem rm_pop0 {p : Addr} {u : U} {us : List U} {M' : Mem} {k : U → Mem → Prop} (hp : Put p (.l (u :: us)) (.l us) M M') (h : k u M') : RMA K rPopAt (.ptr p) [.int 0] M k := fun v vs H m a r Q c => by
  cases a
  cases r with
  | cons r1 r2 =>
    cases r2
    cases r1
    obtain ⟨ws, hw, ra⟩ := m.lst hp.mem
    cases ra with
    | @cons x xs _ _ rx rs =>
      have tm : Tp H (upd H p (.lst xs)) := Tp.mut hw trivial
      obtain ⟨q1, q2⟩ := m.put hp (w := .lst xs) ⟨_, upd_same, rs.mono tm⟩
      refine ⟨p, x :: xs, 0, 0, x, rfl, rfl, hw, by decide, by decide, ?_, rfl, c u M' x _ h q2 q1 (rx.mono q2)⟩
      unfold seqIndex?
      simp
/-! ### o[i] = v -/
theorem wg_sub {o : Option (List Nat)} {to ti : TE} {u : U} {k : Mem → Rho → Prop} (h : W K to M ρ fun x M1 => W K ti M1 ρ fun y M2 => ∃ p us i j M', x = .ptr p ∧ y = .int i ∧ ixN us.length i = some j ∧ Put p (.l us) (.l (us.set j u)) M2 M' ∧ k M' ρ) : WG K o (gSub to ti rSetL) u M ρ k := fun v σ H m s r Q c =>
  h σ H m s _ fun x M1 xv H1 h1 t1 m1 r1 => h1 σ H1 m1 (s.mono t1) _ fun y M2 yv H2 ⟨p, us, i, j, M', e1, e2, hj, hp, h2⟩ t2 m2 r2 => by
    subst e1 e2
    cases r1
    cases r2
    obtain ⟨ws, hw, ra⟩ := m2.lst hp.mem
    have T2 := t1.trans t2
    have tm : Tp H2 (upd H2 p (.lst (ws.set j v))) := Tp.mut hw trivial
    obtain ⟨q1, q2⟩ := m2.put hp (w := .lst (ws.set j v)) ⟨_, upd_same, ((ra.set (r.mono T2) j)).mono tm⟩
    exact ⟨p, ws, i, j, rfl, rfl, hw, by rw [ra.length]; exact hj, c M' ρ σ _ h2 (T2.trans q2) q1 (s.mono (T2.trans q2)) (Off.refl o σ)⟩
/-! ### numbers -/
theorem rc_abs {i : Int} {k : U → Mem → Prop} (h : k (.int (if i < 0 then -i else i)) M) : RCA K (fun xs H Q => ∃ i, xs = [.int i] ∧ Q (.int (if i < 0 then -i else i)) H) [.int i] M k := fun vs H m r Q c => by
  cases r with
  | cons a b =>
    cases b
    cases a
    exact ⟨i, rfl, c _ M _ H h (Tp.refl H) m (.int _)⟩
theorem rc_intB {b : Bool} {k : U → Mem → Prop} (h : k (.int (if b then 1 else 0)) M) : RCA K (fun xs H Q => (∃ i, xs = [.int i] ∧ Q (.int i) H) ∨ ∃ k, xs = [.bl k] ∧ Q (.int (if k then 1 else 0)) H) [.bl b] M k := fun vs H m r Q c => by
  cases r with
  | cons a b' =>
    cases b'
    cases a
    exact .inr ⟨b, rfl, c _ M _ H h (Tp.refl H) m (.int _)⟩
theorem rc_min {i j : Int} {k : U → Mem → Prop} (h : k (.int (if j < i then j else i)) M) : RCA K (fun xs H Q => ∃ i j, xs = [.int i, .int j] ∧ Q (.int (if j < i then j else i)) H) [.int i, .int j] M k := fun vs H m r Q c => by
  cases r with
  | cons a b =>
    cases b with
    | cons b d =>
      cases d
      cases a
      cases b
      exact ⟨i, j, rfl, c _ M _ H h (Tp.refl H) m (.int _)⟩
theorem rc_max2 {i j : Int} {k : U → Mem → Prop} (h : k (.int (if j > i then j else i)) M) : RCA K (fun xs H Q => ∃ i j, xs = [.int i, .int j] ∧ Q (.int (if j > i then j else i)) H) [.int i, .int j] M k := fun vs H m r Q c => by
  cases r with
  | cons a b =>
    cases b with
    | cons b d =>
      cases d
      cases a
      cases b
      exact ⟨i, j, rfl, c _ M _ H h (Tp.refl H) m (.int _)⟩
theorem rc_maxL {p : Addr} {ns : List Int} {k : U → Mem → Prop} (hp : (p, MO.l (ns.map U.int)) ∈ M) (hn : 0 < ns.length) (h : ∀ m, m ∈ ns → (∀ y, y ∈ ns → y ≤ m) → k (.int m) M) : RCA K (rMax K) [.ptr p] M k := fun vs H m r Q c => by
  cases r with
  | cons a b =>
    cases b
    cases a
    obtain ⟨ws, hw, ra⟩ := m.lst hp
    have e := ra.ints
    subst e
    exact ⟨p, ns, rfl, SqL.of hw, hn, fun x h1 h2 => c _ M _ H (h x h1 h2) (Tp.refl H) m (.int _)⟩
theorem rc_all {p : Addr} {bs : List Bool} {k : U → Mem → Prop} (hp : (p, MO.l (bs.map U.bl)) ∈ M) (h : k (.bl (bs.all id)) M) : RCA K (rAll K) [.ptr p] M k := fun vs H m r Q c => by
  cases r with
  | cons a b =>
    cases b
    cases a
    obtain ⟨ws, hw, ra⟩ := m.lst hp
    have e := ra.bls
    subst e
    exact ⟨p, bs, rfl, SqL.of hw, c _ M _ H h (Tp.refl H) m (.bl _)⟩
theorem rc_any {p : Addr} {bs : List Bool} {k : U → Mem → Prop} (hp : (p, MO.l (bs.map U.bl)) ∈ M) (h : k (.bl (bs.any id)) M) : RCA K (rAny K) [.ptr p] M k := fun vs H m r Q c => by
  cases r with
  | cons a b =>
    cases b
    cases a
    obtain ⟨ws, hw, ra⟩ := m.lst hp
    have e := ra.bls
    subst e
    exact ⟨p, bs, rfl, SqL.of hw, c _ M _ H h (Tp.refl H) m (.bl _)⟩
/-! ### a list as a tuple -/
theorem rc_tupleL {p : Addr} {us : List U} {k : U → Mem → Prop} (hp : (p, MO.l us) ∈ M) (h : k (.tup us) M) : RCA K (fun xs H Q => ∃ p ys, xs = [.ref p] ∧ ((SqL K H p ys ∧ ∀ l, H l = none → Q (.ref l) (upd H l (.tup ys))) ∨ (SqT K H p ys ∧ Q (.ref p) H))) [.ptr p] M k := fun vs H m r Q c => by
  cases r with
  | cons a b =>
    cases b
    cases a
    obtain ⟨ws, hw, ra⟩ := m.lst hp
    exact ⟨p, ws, rfl, .inl ⟨SqL.of hw, fun l nl => c _ M _ _ h (Tp.new nl) (m.skipNew nl) (.tup upd_same (ra.mono (Tp.new nl)))⟩⟩
/-! ### in, over texts -/
theorem inV_str {x : Str} : ∀ {xs : List Str}, inV (.str x) (xs.map V.str) = decide (x ∈ xs)
  | [] => by simp [inV]
  | y :: ys => by
    have ih := inV_str (x := x) (xs := ys)
    unfold inV at ih ⊢
    rw [List.map_cons, List.any_cons, ih]
    have e : eqV (V.str y) (V.str x) = decide (y = x) := by
      first | rfl | (unfold eqV; simp) | (unfold eqV; rw [Bool.eq_iff_iff]; simp)
    rw [e]
    by_cases h : y = x
    · simp [h]
    · have h2 : ¬ x = y := fun z => h z.symm
      simp [h, h2]
theorem inV_int {x : Int} : ∀ {xs : List Int}, inV (.int x) (xs.map V.int) = decide (x ∈ xs)
  | [] => by simp [inV]
  | y :: ys => by
    have ih := inV_int (x := x) (xs := ys)
    unfold inV at ih ⊢
    rw [List.map_cons, List.any_cons, ih]
    have e : eqV (V.int y) (V.int x) = decide (y = x) := by
      first | rfl | (unfold eqV; simp) | (unfold eqV; rw [Bool.eq_iff_iff]; simp)
    rw [e]
    by_cases h : y = x
    · simp [h]
    · have h2 : ¬ x = y := fun z => h z.symm
      simp [h, h2]
theorem flat_strs (xs : List Str) : (xs.map V.str).all flatV = true := by simp [flatV]
theorem flat_ints (xs : List Int) : (xs.map V.int).all flatV = true := by simp [flatV]
theorem r_inS {neg : Bool} {p : Addr} {x : Str} {xs : List Str} {k : U → Mem → Prop} (hp : (p, MO.l (xs.map U.str)) ∈ M) (h : k (.bl (if neg then !decide (x ∈ xs) else decide (x ∈ xs))) M) : R2A K (rIn K neg) (.str x) (.ptr p) M k := fun v w H m a b Q c => by
  cases a
  cases b
  obtain ⟨ws, hw, ra⟩ := m.lst hp
  have e := ra.strs
  subst e
  refine ⟨p, _, rfl, .inl (SqL.of hw), rfl, flat_strs xs, ?_⟩
  rw [inV_str]
  exact c _ M _ H h (Tp.refl H) m (.bl _)
theorem r_inI {neg : Bool} {p : Addr} {x : Int} {xs : List Int} {k : U → Mem → Prop} (hp : (p, MO.l (xs.map U.int)) ∈ M) (h : k (.bl (if neg then !decide (x ∈ xs) else decide (x ∈ xs))) M) : R2A K (rIn K neg) (.int x) (.ptr p) M k := fun v w H m a b Q c => by
  cases a
  cases b
  obtain ⟨ws, hw, ra⟩ := m.lst hp
  have e := ra.ints
  subst e
  refine ⟨p, _, rfl, .inl (SqL.of hw), rfl, flat_ints xs, ?_⟩
  rw [inV_int]
  exact c _ M _ H h (Tp.refl H) m (.bl _)
theorem r_inT {neg : Bool} {x : Str} {xs : List Str} {k : U → Mem → Prop} (h : k (.bl (if neg then !decide (x ∈ xs) else decide (x ∈ xs))) M) : R2A K (rIn K neg) (.str x) (.tup (xs.map U.str)) M k := fun v w H m a b Q c => by
  cases a
  cases b with
  | @tup q ws _ hw ra =>
    have e := ra.strs
    subst e
    refine ⟨q, _, rfl, .inr (SqT.of hw), rfl, flat_strs xs, ?_⟩
    rw [inV_str]
    exact c _ M _ H h (Tp.refl H) m (.bl _)
theorem r_inK {neg : Bool} {a : Addr} {x : Str} {xs : List Str} {k : U → Mem → Prop} (hk : ∀ H : Hp, SqT K H a (xs.map V.str)) (h : k (.bl (if neg then !decide (x ∈ xs) else decide (x ∈ xs))) M) : R2A K (rIn K neg) (.str x) (.ptr a) M k := fun v w H m q b Q c => by
  cases q
  cases b
  refine ⟨a, _, rfl, .inr (hk H), rfl, flat_strs xs, ?_⟩
  rw [inV_str]
  exact c _ M _ H h (Tp.refl H) m (.bl _)
abbrev rSign : R2 := fun x y H Q => ∃ (c : Nat) (z : Str), x = .str ⟨#[c]⟩ ∧ y = .str z ∧ Q (.bl (decide (c ∈ z.cps.toList))) H
theorem r_sign {d : Nat} {z : Str} {k : U → Mem → Prop} (h : k (.bl (decide (d ∈ z.cps.toList))) M) : R2A K rSign (.str ⟨#[d]⟩) (.str z) M k := fun v w H m a b Q c => by
  cases a
  cases b
  exact ⟨d, z, rfl, rfl, c _ M _ H h (Tp.refl H) m (.bl _)⟩
/-! ### is None -/
abbrev rIsN : R2 := fun x y H Q => y = .non ∧ Q (.bl (decide (x = .non))) H
abbrev rNoN : R2 := fun x y H Q => y = .non ∧ Q (.bl (!decide (x = .non))) H
theorem r_isN {k : U → Mem → Prop} (h : k (.bl true) M) : R2A K rIsN .non .non M k := fun v w H m a b Q c => by
  cases a
  cases b
  exact ⟨rfl, c _ M _ H h (Tp.refl H) m (.bl _)⟩
theorem r_noN {k : U → Mem → Prop} (h : k (.bl false) M) : R2A K rNoN .non .non M k := fun v w H m a b Q c => by
  cases a
  cases b
  exact ⟨rfl, c _ M _ H h (Tp.refl H) m (.bl _)⟩
/-! ### isinstance -/
theorem rc_isi {H0 : Hp} {x : U} {n : String} {t : String} {b : Bool} {k : U → Mem → Prop} (ht : (match x with | .int _ => "int" | .str _ => "str" | .tup _ => "tuple" | .bl _ => "bool" | _ => "") = t) (h0 : t ≠ "") (hb : PySem.W.kitOne K (.type t) (.type n) = some b) (h : k (.bl b) M) :
    ∀ vs H, MemOk K H M → (∃ v, vs = [v, .ty n] ∧ Rp K H v x) → ∀ Q : VK, (∀ u M' z H', k u M' → Tp H H' → MemOk K H' M' → Rp K H' z u → Q z H') → rIsi K vs H Q := by
  rintro vs H m ⟨v, rfl, r⟩ Q c
  refine ⟨v, .ty n, .type t, .type n, b, rfl, .ty n, .base ?_, hb, c _ M _ H h (Tp.refl H) m (.bl _)⟩
  subst ht
  cases r with
  | int i => exact .int i
  | str z => exact .str z
  | bl z => exact .bl z
  | tup e r => exact .tup e
  | _ => exact absurd rfl h0
end
end Wl
set_option Elab.async false
set_option linter.all false
set_option maxRecDepth 100000
set_option maxHeartbeats 4000000
namespace Wl
open PySem PySem.Spec PyProof.Rows L2
/-! ### plain data, compared -/
mutual
def toPy : U → PyData
  | .non => .none
  | .bl b => .bool b
  | .int i => .int i
  | .str x => .str x
  | .tup l => .tuple (toPyA l)
  | .tf l => .tuple (toPyA l)
  | .fl l => .list (toPyA l)
  | .ptr _ => .none
def toPyA : List U → List PyData
  | [] => []
  | u :: us => toPy u :: toPyA us
end
theorem toPyA_map : ∀ us : List U, toPyA us = us.map toPy
  | [] => by simp [toPyA]
  | u :: us => by simp [toPyA, toPyA_map us]
mutual
/-- ints, texts, tuples of such, not deep -/
def pln : Nat → U → Bool
  | _, .int _ => true
  | _, .str x => PyData.strOk x
  | n, .tup l => decide (0 < n) && plnA (n - 1) l
  | n, .tf l => decide (0 < n) && plnA (n - 1) l
  | _, _ => false
def plnA : Nat → List U → Bool
  | _, [] => true
  | n, u :: us => pln n u && plnA n us
end
theorem plnA_all : ∀ (n : Nat) (us : List U), plnA n us = us.all (pln n)
  | _, [] => by simp [plnA]
  | n, u :: us => by simp [plnA, plnA_all n us]
theorem and2 {a b : Bool} (h : (a && b) = true) : a = true ∧ b = true := Bool.and_eq_true_iff.mp h
mutual
theorem pln_ok : ∀ (n : Nat) (u : U), pln n u = true → (toPy u).canLay0 = true ∧ (toPy u).depth ≤ n
  | _, .int i, _ => by simp [toPy, PyData.canLay0, PyData.depth]
  | _, .str x, h => by
    have h' : PyData.strOk x = true := by simpa [pln] using h
    simp [toPy, PyData.canLay0, PyData.depth, h']
  | n, .tup l, h => by
    obtain ⟨h1, h2⟩ := and2 (show (decide (0 < n) && plnA (n - 1) l) = true by simpa only [pln] using h)
    have h3 := of_decide_eq_true h1
    obtain ⟨h4, h5⟩ := plnA_ok (n - 1) l h2
    simp only [toPy, PyData.canLay0, PyData.depth]
    exact ⟨h4, by omega⟩
  | n, .tf l, h => by
    obtain ⟨h1, h2⟩ := and2 (show (decide (0 < n) && plnA (n - 1) l) = true by simpa only [pln] using h)
    have h3 := of_decide_eq_true h1
    obtain ⟨h4, h5⟩ := plnA_ok (n - 1) l h2
    simp only [toPy, PyData.canLay0, PyData.depth]
    exact ⟨h4, by omega⟩
  | _, .non, h => by simp [pln] at h
  | _, .bl _, h => by simp [pln] at h
  | _, .ptr _, h => by simp [pln] at h
  | _, .fl _, h => by simp [pln] at h
theorem plnA_ok : ∀ (n : Nat) (us : List U), plnA n us = true → PyData.canLayAll0 (toPyA us) = true ∧ PyData.depthAll (toPyA us) ≤ n
  | _, [], _ => by simp [toPyA, PyData.canLayAll0, PyData.depthAll]
  | n, u :: us, h => by
    obtain ⟨h1, h2⟩ := and2 (show (pln n u && plnA n us) = true by simpa only [plnA] using h)
    obtain ⟨a1, a2⟩ := pln_ok n u h1
    obtain ⟨b1, b2⟩ := plnA_ok n us h2
    simp only [toPyA, PyData.canLayAll0, PyData.depthAll, a1, b1, Bool.and_self]
    exact ⟨trivial, by omega⟩
end
theorem shaped_pln {n : Nat} {u : U} (h : pln n u = true) (hn : n ≤ 60) : SeqAt.shaped (toPy u) = true := by
  obtain ⟨h1, h2⟩ := pln_ok n u h
  unfold SeqAt.shaped
  rw [h1, decide_eq_true (show (toPy u).depth ≤ 64 by omega)]
  rfl
theorem shaped_list {n : Nat} {us : List U} (h : plnA n us = true) (hn : n ≤ 60) : SeqAt.shaped (.list (toPyA us)) = true := by
  obtain ⟨h1, h2⟩ := plnA_ok n us h
  unfold SeqAt.shaped
  simp only [PyData.canLay0, PyData.depth, h1, Bool.true_and]
  exact decide_eq_true (by omega)
mutual
theorem eqv_py : ∀ (n m : Nat) (x y : U), pln n x = true → pln m y = true → (PyData.eqv (toPy x) (toPy y) = true ↔ toPy x = toPy y)
  | _, _, .int i, .int j, _, _ => by simp [toPy, PyData.eqv]
  | _, _, .int i, .str j, _, _ => by simp [toPy, PyData.eqv]
  | _, _, .int i, .tup j, _, _ => by simp [toPy, PyData.eqv]
  | _, _, .int i, .tf j, _, _ => by simp [toPy, PyData.eqv]
  | _, _, .str i, .int j, _, _ => by simp [toPy, PyData.eqv]
  | _, _, .str i, .str j, _, _ => by simp [toPy, PyData.eqv]
  | _, _, .str i, .tup j, _, _ => by simp [toPy, PyData.eqv]
  | _, _, .str i, .tf j, _, _ => by simp [toPy, PyData.eqv]
  | _, _, .tup i, .int j, _, _ => by simp [toPy, PyData.eqv]
  | _, _, .tup i, .str j, _, _ => by simp [toPy, PyData.eqv]
  | n, m, .tup i, .tup j, h, h' => by
    have q := eqvA_py (n - 1) (m - 1) i j (and2 (by simpa only [pln] using h)).2 (and2 (by simpa only [pln] using h')).2
    simp only [toPy, PyData.eqv, PyData.tuple.injEq]
    exact q
  | n, m, .tup i, .tf j, h, h' => by
    have q := eqvA_py (n - 1) (m - 1) i j (and2 (by simpa only [pln] using h)).2 (and2 (by simpa only [pln] using h')).2
    simp only [toPy, PyData.eqv, PyData.tuple.injEq]
    exact q
  | _, _, .tf i, .int j, _, _ => by simp [toPy, PyData.eqv]
  | _, _, .tf i, .str j, _, _ => by simp [toPy, PyData.eqv]
  | n, m, .tf i, .tup j, h, h' => by
    have q := eqvA_py (n - 1) (m - 1) i j (and2 (by simpa only [pln] using h)).2 (and2 (by simpa only [pln] using h')).2
    simp only [toPy, PyData.eqv, PyData.tuple.injEq]
    exact q
  | n, m, .tf i, .tf j, h, h' => by
    have q := eqvA_py (n - 1) (m - 1) i j (and2 (by simpa only [pln] using h)).2 (and2 (by simpa only [pln] using h')).2
    simp only [toPy, PyData.eqv, PyData.tuple.injEq]
    exact q
  | _, _, .non, _, h, _ => by simp [pln] at h
  | _, _, .bl _, _, h, _ => by simp [pln] at h
  | _, _, .ptr _, _, h, _ => by simp [pln] at h
  | _, _, .fl _, _, h, _ => by simp [pln] at h
  | _, _, .int _, .non, _, h => by simp [pln] at h
  | _, _, .int _, .bl _, _, h => by simp [pln] at h
  | _, _, .int _, .ptr _, _, h => by simp [pln] at h
  | _, _, .int _, .fl _, _, h => by simp [pln] at h
  | _, _, .str _, .non, _, h => by simp [pln] at h
  | _, _, .str _, .bl _, _, h => by simp [pln] at h
  | _, _, .str _, .ptr _, _, h => by simp [pln] at h
  | _, _, .str _, .fl _, _, h => by simp [pln] at h
  | _, _, .tup _, .non, _, h => by simp [pln] at h
  | _, _, .tup _, .bl _, _, h => by simp [pln] at h
  | _, _, .tup _, .ptr _, _, h => by simp [pln] at h
  | _, _, .tup _, .fl _, _, h => by simp [pln] at h
  | _, _, .tf _, .non, _, h => by simp [pln] at h
  | _, _, .tf _, .bl _, _, h => by simp [pln] at h
  | _, _, .tf _, .ptr _, _, h => by simp [pln] at h
  | _, _, .tf _, .fl _, _, h => by simp [pln] at h
theorem eqvA_py : ∀ (n m : Nat) (xs ys : List U), plnA n xs = true → plnA m ys = true → (PyData.eqvAll (toPyA xs) (toPyA ys) = true ↔ toPyA xs = toPyA ys)
  | _, _, [], [], _, _ => by simp [toPyA, PyData.eqvAll]
  | _, _, [], _ :: _, _, _ => by simp [toPyA, PyData.eqvAll]
  | _, _, _ :: _, [], _, _ => by simp [toPyA, PyData.eqvAll]
  | n, m, x :: xs, y :: ys, h, h' => by
    obtain ⟨h1, h2⟩ := and2 (show (pln n x && plnA n xs) = true by simpa only [plnA] using h)
    obtain ⟨k1, k2⟩ := and2 (show (pln m y && plnA m ys) = true by simpa only [plnA] using h')
    have q1 := eqv_py n m x y h1 k1
    have q2 := eqvA_py n m xs ys h2 k2
    simp only [toPyA, PyData.eqvAll, Bool.and_eq_true, q1, q2, List.cons.injEq]
end
section
variable {K : PySem.W.Frag} {M : Mem} {ρ : Rho}
mutual
theorem dp_of {H : Hp} : ∀ (n : Nat) {v : V} {u : U}, pln n u = true → Rp K H v u → Dp K H v (toPy u)
  | _, _, .int i, _, .int _ => by simp only [toPy]; exact .int i
  | _, _, .str i, _, .str _ => by simp only [toPy]; exact .str i
  | n, _, .tup l, h, .tup e r => by
    simp only [toPy]
    exact .tup (SqT.of e) (dpA_of (n - 1) (and2 (by simpa only [pln] using h)).2 r)
  | n, _, .tf l, h, .tf e d r => by
    simp only [toPy]
    exact .tup (.inl (.inr ⟨_, e⟩)) (dpA_of (n - 1) (and2 (by simpa only [pln] using h)).2 r)
  | _, _, .non, h, _ => by simp [pln] at h
  | _, _, .bl _, h, _ => by simp [pln] at h
  | _, _, .ptr _, h, _ => by simp [pln] at h
  | _, _, .fl _, h, _ => by simp [pln] at h
theorem dpA_of {H : Hp} : ∀ (n : Nat) {vs : List V} {us : List U}, plnA n us = true → RpA K H vs us → DpAll K H vs (toPyA us)
  | _, _, [], _, .nil => by simp only [toPyA]; exact .nil
  | n, _, u :: us, h, .cons r s => by
    obtain ⟨h1, h2⟩ := and2 (show (pln n u && plnA n us) = true by simpa only [plnA] using h)
    simp only [toPyA]
    exact .cons (dp_of n h1 r) (dpA_of n h2 s)
end
theorem dec_iff {p : Prop} [Decidable p] {b : Bool} (h : b = true ↔ p) : b = decide p := by
  by_cases q : p
  · rw [decide_eq_true q]
    exact h.mpr q
  · rw [decide_eq_false q]
    cases b with
    | false => rfl
    | true => exact absurd (h.mp rfl) q
theorem r_eqD {n m : Nat} {x y : U} {b : Bool} {k : U → Mem → Prop} (hx : pln n x = true) (hy : pln m y = true) (hn : n ≤ 60) (hm : m ≤ 60) (e : b = true ↔ toPy x = toPy y) (h : k (.bl b) M) : R2A K (rEqD K) x y M k := fun v w H mo a b' Q c => by
  refine ⟨toPy x, toPy y, dp_of n hx a, dp_of m hy b', shaped_pln hx hn, shaped_pln hy hm, ?_⟩
  have : PyData.eqv (toPy x) (toPy y) = b := by
    rw [Bool.eq_iff_iff, e]
    exact eqv_py n m x y hx hy
  rw [this]
  exact c _ M _ H h (Tp.refl H) mo (.bl _)
theorem r_neD {n m : Nat} {x y : U} {b : Bool} {k : U → Mem → Prop} (hx : pln n x = true) (hy : pln m y = true) (hn : n ≤ 60) (hm : m ≤ 60) (e : b = true ↔ toPy x = toPy y) (h : k (.bl (!b)) M) : R2A K (rNeD K) x y M k := fun v w H mo a b' Q c => by
  refine ⟨toPy x, toPy y, dp_of n hx a, dp_of m hy b', shaped_pln hx hn, shaped_pln hy hm, ?_⟩
  have : PyData.eqv (toPy x) (toPy y) = b := by
    rw [Bool.eq_iff_iff, e]
    exact eqv_py n m x y hx hy
  rw [this]
  exact c _ M _ H h (Tp.refl H) mo (.bl _)
/-- two lists of plain data -/
theorem r_neL {n m : Nat} {p q : Addr} {xs ys : List U} {b : Bool} {k : U → Mem → Prop} (hp : (p, MO.l xs) ∈ M) (hq : (q, MO.l ys) ∈ M) (hx : plnA n xs = true) (hy : plnA m ys = true) (hn : n ≤ 60) (hm : m ≤ 60) (e : b = true ↔ toPyA xs = toPyA ys) (h : k (.bl (!b)) M) : R2A K (rNeD K) (.ptr p) (.ptr q) M k := fun v w H mo a b' Q c => by
  cases a
  cases b'
  obtain ⟨vs, hv, ra⟩ := mo.lst hp
  obtain ⟨ws, hw, rb⟩ := mo.lst hq
  refine ⟨_, _, .lst (SqL.of hv) (dpA_of n hx ra), .lst (SqL.of hw) (dpA_of m hy rb), shaped_list hx hn, shaped_list hy hm, ?_⟩
  have : PyData.eqv (.list (toPyA xs)) (.list (toPyA ys)) = b := by
    rw [Bool.eq_iff_iff, e]
    simp only [PyData.eqv]
    exact eqvA_py n m xs ys hx hy
  rw [this]
  exact c _ M _ H h (Tp.refl H) mo (.bl _)
/-- in a list of plain data -/
theorem any_eqv {n m : Nat} {x : U} (hx : pln n x = true) : ∀ {ys : List U}, plnA m ys = true → ((toPyA ys).any (fun z => PyData.eqv z (toPy x)) = true ↔ toPy x ∈ toPyA ys)
  | [], _ => by simp [toPyA]
  | y :: ys, h => by
    obtain ⟨h1, h2⟩ := and2 (show (pln m y && plnA m ys) = true by simpa only [plnA] using h)
    have q := eqv_py m n y x h1 hx
    simp only [toPyA, List.any_cons, Bool.or_eq_true, q, any_eqv hx h2, List.mem_cons]
    constructor
    · rintro (z | z)
      · exact .inl z.symm
      · exact .inr z
    · rintro (z | z)
      · exact .inl z.symm
      · exact .inr z
theorem r_inD {n m : Nat} {p : Addr} {x : U} {ys : List U} {b : Bool} {k : U → Mem → Prop} (hp : (p, MO.l ys) ∈ M) (hx : pln n x = true) (hy : plnA m ys = true) (hn : n ≤ 60) (hm : m ≤ 60) (e : b = true ↔ toPy x ∈ toPyA ys) (h : k (.bl b) M) : R2A K (rInD K) x (.ptr p) M k := fun v w H mo a b' Q c => by
  cases b'
  obtain ⟨vs, hv, ra⟩ := mo.lst hp
  refine ⟨toPy x, toPyA ys, dp_of n hx a, .lst (SqL.of hv) (dpA_of m hy ra), shaped_pln hx hn, shaped_list hy hm, ?_⟩
  have : ((toPyA ys).any fun z => PyData.eqv z (toPy x)) = b := by
    rw [Bool.eq_iff_iff, e]
    exact any_eqv hx hy
  rw [this]
  exact c _ M _ H h (Tp.refl H) mo (.bl _)
theorem r_notInD {n m : Nat} {p : Addr} {x : U} {ys : List U} {b : Bool} {k : U → Mem → Prop} (hp : (p, MO.l ys) ∈ M) (hx : pln n x = true) (hy : plnA m ys = true) (hn : n ≤ 60) (hm : m ≤ 60) (e : b = true ↔ toPy x ∈ toPyA ys) (h : k (.bl (!b)) M) : R2A K (rNotInD K) x (.ptr p) M k := fun v w H mo a b' Q c => by
  cases b'
  obtain ⟨vs, hv, ra⟩ := mo.lst hp
  refine ⟨toPy x, toPyA ys, dp_of n hx a, .lst (SqL.of hv) (dpA_of m hy ra), shaped_pln hx hn, shaped_list hy hm, ?_⟩
  have : ((toPyA ys).any fun z => PyData.eqv z (toPy x)) = b := by
    rw [Bool.eq_iff_iff, e]
    exact any_eqv hx hy
  rw [this]
  exact c _ M _ H h (Tp.refl H) mo (.bl _)
/-! ### isinstance(x, a built-in class) -/
def tyU : U → String
  | .int _ => "int"
  | .str _ => "str"
  | .tup _ => "tuple"
  | .bl _ => "bool"
  | _ => ""
theorem w_isi {tx : TE} {n : String} {k : U → Mem → Prop} (h : W K tx M ρ fun x M1 => tyU x ≠ "" ∧ ∃ b, PySem.W.kitOne K (.type (tyU x)) (.type n) = some b ∧ k (.bl b) M1) : W K (tCB (rIsi K) (tCons tx (tCons (tC (.ty n)) tNil))) M ρ k := fun σ H m s Q c =>
  h σ H m s _ fun x M1 v H1 ⟨h0, b, hb, h1⟩ t1 m1 r1 => by
    refine ⟨v, .ty n, .type (tyU x), .type n, b, rfl, .ty n, .base ?_, hb, c _ M1 _ H1 h1 t1 m1 (.bl _)⟩
    cases r1 with
    | int i => exact .int i
    | str z => exact .str z
    | bl z => exact .bl z
    | tup e r => exact .tup e
    | _ => exact absurd rfl h0
/-! ### dicts -/
theorem MemOk.dt {H : Hp} {p : Addr} {kvs : List (List Int × U)} (m : MemOk K H M) (h : (p, MO.dt kvs) ∈ M) : ∃ ks, H p = some (.dT ks) ∧ RpT K H ks kvs := m.ok _ h
theorem MemOk.dk {H : Hp} {p : Addr} {kvs : List (Int × U)} (m : MemOk K H M) (h : (p, MO.dk kvs) ∈ M) : ∃ ks, H p = some (.dK ks) ∧ RpK K H ks kvs := m.ok _ h
def look {κ α : Type} [DecidableEq κ] (kvs : List (κ × α)) (k : κ) : Option α := (kvs.find? fun kv => decide (kv.1 = k)).map (·.2)
theorem map_inl_inj {a b : List Int} (h : a.map (Sum.inl : Int → Key) = b.map Sum.inl) : a = b := (List.map_inj_right (fun x y e => Sum.inl.inj e)).mp h
theorem valV_t {H : Hp} {ks : List (List Key × V)} {kvs : List (List Int × U)} (r : RpT K H ks kvs) (k : List Int) : (look kvs k = none → valV ks (k.map Sum.inl) = none) ∧ ∀ u, look kvs k = some u → ∃ v, valV ks (k.map Sum.inl) = some v ∧ Rp K H v u := by
  induction r with
  | nil => exact ⟨fun _ => rfl, fun u e => by cases e⟩
  | @cons p q ps qs h t ih =>
    obtain ⟨h1, h2⟩ := h
    unfold look at ih ⊢
    unfold valV at ih ⊢
    rw [List.find?_cons, List.find?_cons]
    by_cases e : q.1 = k
    · have e' : p.1 = k.map Sum.inl := by rw [h1, e]
      rw [decide_eq_true e, decide_eq_true e']
      exact ⟨(fun z => by cases z), fun u z => by cases z; exact ⟨_, rfl, h2⟩⟩
    · have e' : ¬ p.1 = k.map Sum.inl := fun z => e (map_inl_inj (h1.symm.trans z))
      rw [decide_eq_false e, decide_eq_false e']
      exact ih
theorem valV_k {H : Hp} {ks : List (Key × V)} {kvs : List (Int × U)} (r : RpK K H ks kvs) (k : Int) : (look kvs k = none → valV ks (Sum.inl k) = none) ∧ ∀ u, look kvs k = some u → ∃ v, valV ks (Sum.inl k) = some v ∧ Rp K H v u := by
  induction r with
  | nil => exact ⟨fun _ => rfl, fun u e => by cases e⟩
  | @cons p q ps qs h t ih =>
    obtain ⟨h1, h2⟩ := h
    unfold look at ih ⊢
    unfold valV at ih ⊢
    rw [List.find?_cons, List.find?_cons]
    by_cases e : q.1 = k
    · have e' : p.1 = Sum.inl k := by rw [h1, e]
      rw [decide_eq_true e, decide_eq_true e']
      exact ⟨(fun z => by cases z), fun u z => by cases z; exact ⟨_, rfl, h2⟩⟩
    · have e' : ¬ p.1 = Sum.inl k := fun z => e (Sum.inl.inj (h1.symm.trans z))
      rw [decide_eq_false e, decide_eq_false e']
      exact ih
theorem key_tup {H : Hp} {v : V} {ns : List Int} (r : Rp K H v (.tup (ns.map U.int))) : ∃ b, v = .ref b ∧ H b = some (.tup ((ns.map Sum.inl : List Key).map kV)) := by
  cases r with
  | @tup a xs _ e ra =>
    refine ⟨a, rfl, ?_⟩
    rw [e, ra.ints, List.map_map]
    rfl
theorem w_dget {td ty tx : TE} {k : U → Mem → Prop} (h : W K td M ρ fun x M1 => ∃ p kvs, x = .ptr p ∧ (p, MO.dt kvs) ∈ M1 ∧ W K ty M1 ρ fun y M2 => (p, MO.dt kvs) ∈ M2 ∧ ∃ ns, y = .tup (ns.map U.int) ∧ W K tx M2 ρ fun z M3 => (p, MO.dt kvs) ∈ M3 ∧ k ((look kvs ns).getD z) M3) : W K (tDGet2 td ty tx) M ρ k := fun σ H m s Q c =>
  h σ H m s _ fun x M1 v H1 ⟨p, kvs, e, hp, h1⟩ t1 m1 r1 => by
    subst e
    cases r1
    obtain ⟨ks, hk, rk⟩ := m1.dt hp
    refine ⟨p, rfl, .inr ⟨ks, .inl hk⟩, h1 σ H1 m1 (s.mono t1) _ fun y M2 yv H2 ⟨hp2, ns, e2, h2⟩ t2 m2 r2 => ?_⟩
    refine h2 σ H2 m2 (s.mono (t1.trans t2)) _ fun z M3 zv H3 ⟨hp3, h3⟩ t3 m3 r3 => ?_
    subst e2
    obtain ⟨b, eb, hb⟩ := key_tup (r2.mono t3)
    subst eb
    obtain ⟨ks3, hk3, rk3⟩ := m3.dt hp3
    refine ⟨_, DGet.t hk3 hb, ?_⟩
    obtain ⟨q1, q2⟩ := valV_t rk3 ns
    cases q : look kvs ns with
    | none =>
      rw [q] at h3
      rw [q1 q]
      exact c _ M3 _ H3 h3 ((t1.trans t2).trans t3) m3 r3
    | some u =>
      rw [q] at h3
      obtain ⟨w, hw, rw'⟩ := q2 u q
      rw [hw]
      exact c _ M3 _ H3 h3 ((t1.trans t2).trans t3) m3 rw'
theorem w_dinT {ty td : TE} {k : U → Mem → Prop} (h : W K ty M ρ fun y M1 => ∃ ns, y = .tup (ns.map U.int) ∧ W K td M1 ρ fun x M2 => ∃ p kvs, x = .ptr p ∧ (p, MO.dt kvs) ∈ M2 ∧ k (.bl (look kvs ns).isSome) M2) : W K (tDIn ty td) M ρ k := fun σ H m s Q c =>
  h σ H m s _ fun y M1 yv H1 ⟨ns, e, h1⟩ t1 m1 r1 => by
    subst e
    refine h1 σ H1 m1 (s.mono t1) _ fun x M2 v H2 ⟨p, kvs, e2, hp, h2⟩ t2 m2 r2 => ?_
    subst e2
    cases r2
    obtain ⟨b, eb, hb⟩ := key_tup (r1.mono t2)
    subst eb
    obtain ⟨ks, hk, rk⟩ := m2.dt hp
    obtain ⟨q1, q2⟩ := valV_t rk ns
    refine ⟨p, _, rfl, DGet.t hk hb, ?_⟩
    have e3 : (valV ks (ns.map Sum.inl)).isSome = (look kvs ns).isSome := by
      cases q : look kvs ns with
      | none => rw [q1 q]; rfl
      | some u =>
        obtain ⟨w, hw, _⟩ := q2 u q
        rw [hw]
        rfl
    rw [e3]
    exact c _ M2 _ H2 h2 (t1.trans t2) m2 (.bl _)
theorem w_dinK {ty td : TE} {k : U → Mem → Prop} (h : W K ty M ρ fun y M1 => ∃ n, y = .int n ∧ W K td M1 ρ fun x M2 => ∃ p kvs, x = .ptr p ∧ (p, MO.dk kvs) ∈ M2 ∧ k (.bl (look kvs n).isSome) M2) : W K (tDIn ty td) M ρ k := fun σ H m s Q c =>
  h σ H m s _ fun y M1 yv H1 ⟨n, e, h1⟩ t1 m1 r1 => by
    subst e
    refine h1 σ H1 m1 (s.mono t1) _ fun x M2 v H2 ⟨p, kvs, e2, hp, h2⟩ t2 m2 r2 => ?_
    subst e2
    cases r2
    cases r1
    obtain ⟨ks, hk, rk⟩ := m2.dk hp
    obtain ⟨q1, q2⟩ := valV_k rk n
    refine ⟨p, _, rfl, DGet.k (k := Sum.inl n) hk, ?_⟩
    have e3 : (valV ks (Sum.inl n)).isSome = (look kvs n).isSome := by
      cases q : look kvs n with
      | none => rw [q1 q]; rfl
      | some u =>
        obtain ⟨w, hw, _⟩ := q2 u q
        rw [hw]
        rfl
    rw [e3]
    exact c _ M2 _ H2 h2 (t1.trans t2) m2 (.bl _)
theorem w_dnew {k : U → Mem → Prop} (h : ∀ p, k (.ptr p) ((p, MO.dk []) :: M)) : W K tDNewK M ρ k := fun σ H m s Q c p np =>
  c _ _ _ _ (h p) (Tp.new np) (m.new np ⟨[], upd_same, .nil⟩) (.ptr p)
theorem look_none {κ α : Type} [DecidableEq κ] {kvs : List (κ × α)} {k : κ} (h : look kvs k = none) : ∀ kv ∈ kvs, kv.1 ≠ k := fun kv hkv e => by
  unfold look at h
  rw [Option.map_eq_none_iff, List.find?_eq_none] at h
  have := h kv hkv
  simp [e] at this
/-- a new key -/
theorem ws_dput {td ty tv : TE} {D : AE} (h : W K tv M ρ fun z M1 => W K td M1 ρ fun x M2 => W K ty M2 ρ fun y M3 => ∃ p kvs n M4, x = .ptr p ∧ y = .int n ∧ look kvs n = none ∧ kvs.length ≤ 100000 ∧ Put p (.dk kvs) (.dk (kvs ++ [(n, z)])) M3 M4 ∧ D.nx M4 ρ) : WS K (sDPut td ty tv) M ρ D := fun H0 σ H t m s E d =>
  h σ H m s _ fun z M1 zv H1 h1 t1 m1 r1 => h1 σ H1 m1 (s.mono t1) _ fun x M2 xv H2 h2 t2 m2 r2 => h2 σ H2 m2 (s.mono (t1.trans t2)) _ fun y M3 yv H3 ⟨p, kvs, n, M4, e1, e2, hn, hl, hp, h3⟩ t3 m3 r3 => by
    subst e1 e2
    cases r2
    cases r3
    obtain ⟨ks, hk, rk⟩ := m3.dk hp.mem
    have T := (t1.trans t2).trans t3
    have e3 : putK ks (Sum.inl n) zv = ks ++ [(Sum.inl n, zv)] := by
      unfold putK
      rw [if_neg]
      rw [valV_any, (valV_k rk n).1 hn]
      exact Bool.false_ne_true
    have el : ks.length = kvs.length := Paired.length rk
    have tm : Tp H3 (upd H3 p (.dK (ks ++ [(Sum.inl n, zv)]))) := Tp.mut hk trivial
    have rs : RpK K (upd H3 p (.dK (ks ++ [(Sum.inl n, zv)]))) (ks ++ [(Sum.inl n, zv)]) (kvs ++ [(n, z)]) :=
      Paired.snoc (Paired.mono2 rk fun a b q => ⟨q.1, q.2.mono tm⟩) ⟨rfl, (r1.mono (t2.trans t3)).mono tm⟩
    obtain ⟨q1, q2⟩ := m3.put hp (w := .dK (ks ++ [(Sum.inl n, zv)])) ⟨_, upd_same, rs⟩
    refine ⟨p, _, rfl, DPut.k (k := Sum.inl n) hk (by rw [el]; exact sz2 hl), ?_⟩
    rw [e3]
    exact d.nx M4 ρ σ _ h3 ((t.trans T).trans q2) q1 (s.mono (T.trans q2))
/-! ### texts joined -/
abbrev rJoin (K : PySem.W.Frag) : V → List V → Hp → VK → Prop := fun x xs H Q => ∃ a p, ∃ ys : List Str, x = .str a ∧ xs = [.ref p] ∧ (SqL K H p (ys.map V.str) ∨ SqT K H p (ys.map V.str)) ∧
    (ys.map (·.length)).sum + ys.length * a.length ≤ 16777216 ∧ Q (.str (Txt.join a ys)) H
theorem w_join {to te : TE} {k : U → Mem → Prop} (h : W K to M ρ fun x M1 => ∃ a, x = .str a ∧ W K te M1 ρ fun y M2 => ∃ p ys, y = .ptr p ∧ (p, MO.l (ys.map U.str)) ∈ M2 ∧ (ys.map (·.length)).sum + ys.length * a.length ≤ 16777216 ∧ k (.str (Txt.join a ys)) M2) : W K (tM1 (rJoin K) to te) M ρ k := fun σ H m s Q c =>
  h σ H m s _ fun x M1 v H1 ⟨a, e, h1⟩ t1 m1 r1 => by
    subst e
    cases r1
    refine ⟨⟨a, rfl⟩, h1 σ H1 m1 (s.mono t1) _ fun y M2 w H2 ⟨p, ys, e2, hp, hl, h2⟩ t2 m2 r2 => ?_⟩
    subst e2
    cases r2
    obtain ⟨ws, hw, ra⟩ := m2.lst hp
    have e3 := ra.strs
    subst e3
    exact ⟨a, p, ys, rfl, rfl, .inl (SqL.of hw), hl, c _ M2 _ H2 h2 (t1.trans t2) m2 (.str _)⟩
/-! ### sorted ints -/
theorem rc_sorted {p : Addr} {ns : List Int} {k : U → Mem → Prop} (hp : (p, MO.l (ns.map U.int)) ∈ M) (hl : ns.length < 64) (h : ∀ ms : List Int, ms.Perm ns → ms.Pairwise (· ≤ ·) → ∀ q, k (.ptr q) ((q, MO.l (ms.map U.int)) :: M)) : RCA K (rSorted K) [.ptr p] M k := fun vs H m r Q c => by
  cases r with
  | cons a b =>
    cases b
    cases a
    obtain ⟨ws, hw, ra⟩ := m.lst hp
    have e := ra.ints
    subst e
    exact ⟨p, ns, rfl, SqL.of hw, hl, fun ms q h1 h2 nq => c _ _ _ _ (h ms h1 h2 q) (Tp.new nq) (m.new nq ⟨_, upd_same, RpA.of_ints ms⟩) (.ptr q)⟩
end
end Wl
set_option Elab.async false
set_option linter.all false
set_option maxRecDepth 100000
set_option maxHeartbeats 4000000
namespace Wl
open PySem PySem.Spec PyProof.Rows L2
/-! ### sorted(a list of plain data) -/
section
variable {X : Cx}
/-- by the model's own order of data -/
abbrev leU (x y : U) : Bool := PySem.W.dataLe false toPy x y
def rSortD (K : PySem.W.Frag) : List V → Hp → VK → Prop := fun vs H Q => ∃ (p : Addr) (xs : List V) (us : List U) (n : Nat), vs = [.ref p] ∧ SqL K H p xs ∧ RpA K H xs us ∧ plnA n us = true ∧ n ≤ 40 ∧
  PySem.W.AllAlike (us.map toPy) ∧ PySem.W.Sortable (us.map toPy) ∧ us.length ≤ 100000 ∧ ∀ ys q, RpA K H ys (us.mergeSort leU) → H q = none → Q (.ref q) (upd H q (.lst ys))
theorem zip_maps : ∀ {xs : List V} {us : List U} {K : PySem.W.Frag} {H : Hp}, RpA K H xs us → (xs.zip us).map Prod.snd = us ∧ (xs.zip us).map Prod.fst = xs ∧ ∀ z ∈ xs.zip us, Rp K H z.1 z.2
  | _, _, _, _, .nil => ⟨rfl, rfl, fun z h => by cases h⟩
  | _, _, _, _, .cons r t => by
    obtain ⟨h1, h2, h3⟩ := zip_maps t
    refine ⟨by simp [h1], by simp [h2], fun z hz => ?_⟩
    rcases List.mem_cons.mp (show z ∈ (_, _) :: _ from hz) with e | hz
    · subst e
      exact r
    · exact h3 z hz
theorem rpA_of : ∀ {K : PySem.W.Frag} {H : Hp} (zs : List (V × U)), (∀ z ∈ zs, Rp K H z.1 z.2) → RpA K H (zs.map Prod.fst) (zs.map Prod.snd)
  | _, _, [], _ => .nil
  | _, _, z :: zs, h => .cons (h z (List.mem_cons_self ..)) (rpA_of zs fun y hy => h y (List.mem_cons_of_mem _ hy))
theorem each_zip {R : Value → V × U → Prop} : ∀ {xs : List V} {us : List U} {its : List Value}, xs.length = us.length → Vals xs its → (∀ v z, RelV z.1 v → z ∈ xs.zip us → R v z) → PySem.W.EachIs R its (xs.zip us)
  | [], [], _, _, .nil, _ => .nil
  | x :: xs, u :: us, _, hl, .cons r t, h => .cons (h _ (x, u) r (List.mem_cons_self ..)) (each_zip (by simpa using hl) t fun v z hz hm => h v z hz (List.mem_cons_of_mem _ hm))
theorem vals_each : ∀ {out : List Value} {zs : List (V × U)}, PySem.W.EachIs (fun v z => RelV z.1 v) out zs → Vals (zs.map Prod.fst) out
  | _, _, .nil => .nil
  | _, _, .cons r t => .cons r (vals_each t)
theorem cr_sortD (hu : X.A.units + 50 < cLine) : CallR X (.builtin "sorted") (rSortD X.K) := by
  intro pins s σ H vs us Q I r h
  obtain ⟨p, xs, ud, n, rfl, hs, ra, hp, hn, hal, hso, hlen, q⟩ := h
  obtain ⟨its, rv, hl, hz⟩ := I.list hs
  rw [Vals.ref1 r]
  obtain ⟨z1, z2, z3⟩ := zip_maps ra
  have el := ra.length
  have em : ((xs.zip ud).map fun z => toPy z.2) = ud.map toPy :=
    (List.map_map (l := xs.zip ud) (f := Prod.snd) (g := toPy)).symm.trans (congrArg (List.map toPy) z1)
  have pl : ∀ z ∈ xs.zip ud, pln n z.2 = true := fun z hz' => by
    rw [plnA_all, List.all_eq_true] at hp
    refine hp z.2 ?_
    rw [← z1]
    exact List.mem_map.mpr ⟨z, hz', rfl⟩
  refine PySem.W.sorted_data (vs := its) (bs := xs.zip ud) (R := fun v z => RelV z.1 v) (enc := fun z : V × U => toPy z.2) hl.isList (each_zip el rv fun v z a _ => a) (each_zip el rv fun v z a m => Dp.reads I _ _ _ (dp_of n (pl z m) (z3 z m)) a) (by rw [em]; exact hal) (by rw [em]; exact hso) ?_ (fun z hz' => ?_) fun out h1 h2 => ?_
  · rw [List.length_zip, el]
    exact sz1 (by omega)
  · have := (pln_ok n z.2 (pl z hz')).2
    omega
  · obtain ⟨ep, he'⟩ := PyProof.Rows.sortedAll_at s.heap its out.toArray
    have e3 : ((xs.zip ud).mergeSort (PySem.W.dataLe false fun z : V × U => toPy z.2)).map Prod.snd = ud.mergeSort leU :=
      (PySem.W.sort_maps (r := PySem.W.dataLe false fun z : V × U => toPy z.2) (s := leU) Prod.snd (fun a _ b _ => rfl)).trans (congrArg (fun l => List.mergeSort l leU) z1)
    have hv := vals_each h2
    have rb := rpA_of (K := X.K) (H := H) ((xs.zip ud).mergeSort (PySem.W.dataLe false fun z : V × U => toPy z.2)) (fun z hz' => z3 z ((List.mergeSort_perm _ _).subset hz'))
    rw [e3] at rb
    have hl2 : (((xs.zip ud).mergeSort (PySem.W.dataLe false fun z : V × U => toPy z.2)).map Prod.fst).length ≤ sizeLine := by
      rw [List.length_map, List.length_mergeSort, List.length_zip, el]
      exact sz1 (by omega)
    exact ⟨.ref _, upd H (s.heap.objs.size + 1) (.lst (((xs.zip ud).mergeSort (PySem.W.dataLe false fun z : V × U => toPy z.2)).map Prod.fst)), I.laid (t' := s.toks) (fun _ _ => PyProof.Rows.sortedAll_old) (Nat.le_succ _) ⟨hl2, out, ep, hv, he'⟩, rfl, q _ _ rb (I.hok.fresh (Nat.le_succ _))⟩
end
section
variable {K : PySem.W.Frag} {M : Mem} {ρ : Rho}
theorem rc_sortD {p : Addr} {us : List U} {n : Nat} {k : U → Mem → Prop} (hp : (p, MO.l us) ∈ M) (h1 : plnA n us = true) (h2 : n ≤ 40) (h3 : PySem.W.AllAlike (us.map toPy)) (h4 : PySem.W.Sortable (us.map toPy)) (h5 : us.length ≤ 100000) (h : ∀ q, k (.ptr q) ((q, MO.l (us.mergeSort leU)) :: M)) : RCA K (rSortD K) [.ptr p] M k := fun vs H m r Q c => by
  cases r with
  | cons a b =>
    cases b
    cases a
    obtain ⟨ws, hw, ra⟩ := m.lst hp
    exact ⟨p, ws, us, n, rfl, SqL.of hw, ra, h1, h2, h3, h4, h5, fun ys q rb nq => c _ _ _ _ (h q) (Tp.new nq) (m.new nq ⟨_, upd_same, rb.mono (Tp.new nq)⟩) (.ptr q)⟩
/-! ### tuples that bear no dict -/
def tTupF (t : TA) : TE := fun σ H Q => t σ H fun xs H1 => xs.length ≤ sizeLine ∧ ∀ p o, H1 p = none → o.dict = none → Q (.ref p) (upd H1 p (.frz o (.tup xs)))
theorem pe_tupF {X : Cx} {es : List Expr} {t : TA} {x1 : Nat} {pos : Pos} (h : PA X es t) : PE X (.Tuple es x1 pos) (tTupF t) := by
  refine ⟨fun pins s σ H Q I hq => ?_⟩
  refine wpAny_Tuple_spliced (thn (h.run pos pins s σ H _ I hq) fun us s1 ⟨xs, H1, I1, r, z, q⟩ => ⟨by rw [← r.length]; exact z, ?_⟩)
  have hf : H1 s1.heap.objs.size = none := I1.hok.fresh (Nat.le_refl _)
  have new : ObjOk X.prog X.w (upd H1 s1.heap.objs.size (.frz { cls := .type "tuple", data := .seq us.toArray } (.tup xs))) (s1.heap.push { cls := .type "tuple", data := .seq us.toArray }) s1.heap.objs.size (.frz { cls := .type "tuple", data := .seq us.toArray } (.tup xs)) :=
    ⟨Heap.get?_push_size _ rfl, z, us, r, IsTup.new _ _⟩
  exact ⟨.ref s1.heap.objs.size, _, I1.laid (t' := s1.toks) (fun b u e => Heap.get?_push_of_some _ e) (Nat.le_refl _) new, rfl, q _ _ hf rfl⟩
theorem w_tupF {ta : TA} {k : U → Mem → Prop} (h : WA K ta M ρ fun xs M1 => xs.length ≤ 1000 ∧ k (.tf xs) M1) : W K (tTupF ta) M ρ k := fun σ H m s Q c =>
  h σ H m s _ fun xs M1 vs H1 ⟨hl, h1⟩ t1 m1 r1 => ⟨by rw [r1.length]; exact Nat.le_of_lt (small1000 hl), fun p o n d => c _ M1 _ _ h1 (t1.trans (Tp.new n)) (m1.skipNew n) (.tf upd_same d (r1.mono (Tp.new n)))⟩
def rTupF (K : PySem.W.Frag) : List V → Hp → VK → Prop := fun xs H Q => ∃ p ys, xs = [.ref p] ∧ SqL K H p ys ∧ ∀ l o, H l = none → o.dict = none → Q (.ref l) (upd H l (.frz o (.tup ys)))
theorem cr_tupF {X : Cx} : CallR X (.type "tuple") (rTupF X.K) := by
  intro pins s σ H xs us Q I r h
  obtain ⟨p, ys, rfl, hq, q⟩ := h
  obtain ⟨u, rfl, rx⟩ := vals1 r
  cases rx
  obtain ⟨its, r', pl, hz⟩ := I.list hq
  have hlen := r'.length
  refine call_tuple_list pl.isList (fun h' kp => ?_) (by simp only [List.size_toArray] <;> omega)
  have I1 : Inv X pins σ H { s with heap := h' } := I.kept (t' := s.toks) kp
  have new : ObjOk X.prog X.w (upd H h'.objs.size (.frz { cls := .type "tuple", data := .seq its.toArray } (.tup ys))) (h'.push { cls := .type "tuple", data := .seq its.toArray }) h'.objs.size (.frz { cls := .type "tuple", data := .seq its.toArray } (.tup ys)) :=
    ⟨Heap.get?_push_size _ rfl, hz, its, r', IsTup.new _ _⟩
  exact ⟨.ref h'.objs.size, _, I1.laid (t' := s.toks) (fun b o e => Heap.get?_push_of_some _ e) (Nat.le_refl _) new, rfl, q _ _ (I1.hok.fresh (Nat.le_refl _)) rfl⟩
theorem rc_tupF {p : Addr} {us : List U} {k : U → Mem → Prop} (hp : (p, MO.l us) ∈ M) (h : k (.tf us) M) : RCA K (rTupF K) [.ptr p] M k := fun vs H m r Q c => by
  cases r with
  | cons a b =>
    cases b
    cases a
    obtain ⟨ws, hw, ra⟩ := m.lst hp
    exact ⟨p, ws, rfl, SqL.of hw, fun l o nl d => c _ M _ _ h (Tp.new nl) (m.skipNew nl) (.tf upd_same d (ra.mono (Tp.new nl)))⟩
theorem rc_lenTf {us : List U} {k : U → Mem → Prop} (h : k (.int us.length) M) : RCA K (rLenX K) [.tf us] M k := fun vs H m r Q c => by
  cases r with
  | cons a b =>
    cases b
    cases a with
    | @tf p o ws _ hw d ra =>
      refine ⟨p, ws, rfl, .inr (.inl (.inr ⟨o, hw⟩)), ?_⟩
      rw [ra.length]
      exact c _ M _ H h (Tp.refl H) m (.int _)
end
end Wl
set_option Elab.async false
set_option linter.all false
set_option maxRecDepth 100000
set_option maxHeartbeats 4000000
namespace Wl
open PySem PySem.Spec PyProof.Rows L2
/-! ### dict(pairs), the keys tuples of ints -/
/-- a pair: its own place, its key's place, the key, the value -/
structure Pr where
  at_ : Addr
  kat : Addr
  key : List Int
  val : V
def PrOk (H : Hp) (z : Pr) : Prop := H z.at_ = some (.tup [.ref z.kat, z.val]) ∧ H z.kat = some (.tup ((z.key.map Sum.inl : List Key).map kV))
def Pr.kv (z : Pr) : List Key × V := (z.key.map Sum.inl, z.val)
def rDictT (K : PySem.W.Frag) : List V → Hp → VK → Prop := fun xs H Q => ∃ (a : Addr) (zs : List Pr), xs = [.ref a] ∧ (SqL K H a (zs.map fun z => V.ref z.at_) ∨ ∃ o, H a = some (.frz o (.tup (zs.map fun z => V.ref z.at_))) ∧ o.dict = none) ∧ (∀ z ∈ zs, PrOk H z) ∧ (zs.map (·.key)).Nodup ∧ zs.length ≤ 100000 ∧
  ∀ q, H q = none → Q (.ref q) (upd H q (.dT (zs.map Pr.kv)))
section
variable {X : Cx} {pins : List (Addr × Obj)} {σ : L2.St} {H : Hp} {s : Shared}
theorem refs_prs : ∀ {zs : List Pr} {us : List Value}, Vals (zs.map fun z => V.ref z.at_) us → us = zs.map fun z => Value.ref z.at_
  | [], _, r => by cases r; rfl
  | z :: zs, _, r => by
    have r' : Vals (V.ref z.at_ :: zs.map fun z => V.ref z.at_) _ := r
    cases r' with
    | cons a b =>
      cases a
      rw [refs_prs b]
      rfl
/-- the values in the pairs -/
theorem pr_vals (I : L2.Inv X pins σ H s) : ∀ {zs : List Pr}, (∀ z ∈ zs, PrOk H z) → ∃ us : List Value, us.length = zs.length ∧ ∀ (j : Nat) (z : Pr) (u : Value), zs[j]? = some z → us[j]? = some u → RelV z.val u ∧ s.heap.IsTuple z.at_ #[.ref z.kat, u]
  | [], _ => ⟨[], rfl, fun j z u h => by simp at h⟩
  | z :: zs, h => by
    obtain ⟨us, h1, h2⟩ := pr_vals I (zs := zs) fun y hy => h y (List.mem_cons_of_mem _ hy)
    obtain ⟨ha, _⟩ := h z (List.mem_cons_self ..)
    obtain ⟨_, its, rv, ob⟩ := (show ObjOk X.prog X.w H s.heap z.at_ (.tup [.ref z.kat, z.val]) from I.hok _ _ ha)
    cases rv with
    | cons r1 rr =>
      cases rr with
      | @cons _ u _ _ r2 r3 =>
        cases r3
        cases r1
        refine ⟨u :: us, by simp [h1], fun j y w hy hw => ?_⟩
        cases j with
        | zero =>
          simp only [List.getElem?_cons_zero, Option.some.injEq] at hy hw
          subst hy hw
          exact ⟨r2, ob⟩
        | succ j =>
          simp only [List.getElem?_cons_succ] at hy hw
          exact h2 j y w hy hw
theorem kt_zip {H' : Hp} : ∀ {zs : List Pr} {us : List Value}, us.length = zs.length → (∀ z ∈ zs, H' z.kat = some (.tup ((z.key.map Sum.inl : List Key).map kV))) → (∀ (j : Nat) (z : Pr) (u : Value), zs[j]? = some z → us[j]? = some u → RelV z.val u) →
    Paired (fun (p : List Key × V) (q : List Key × Addr × Value) => p.1 = q.1 ∧ H' q.2.1 = some (.tup (p.1.map kV)) ∧ RelV p.2 q.2.2) (zs.map Pr.kv) ((zs.zip us).map fun q => (q.1.key.map Sum.inl, q.1.kat, q.2))
  | [], [], _, _, _ => .nil
  | z :: zs, u :: us, hl, hk, hv => .cons ⟨rfl, hk z (List.mem_cons_self ..), hv 0 z u rfl rfl⟩ (kt_zip (by simpa using hl) (fun y hy => hk y (List.mem_cons_of_mem _ hy)) fun j y w hy hw => hv (j + 1) y w (by simpa using hy) (by simpa using hw))
  | [], _ :: _, hl, _, _ => by cases hl
  | _ :: _, [], hl, _, _ => by cases hl
theorem zip_at {zs : List Pr} {us : List Value} (hl : us.length = zs.length) {j : Nat} {z : Pr} (hz : zs[j]? = some z) : ∃ u, us[j]? = some u ∧ (zs.zip us)[j]? = some (z, u) := by
  have hj : j < zs.length := (List.getElem?_eq_some_iff.mp hz).1
  have hj2 : j < us.length := by omega
  refine ⟨us[j], by simp [hj2], ?_⟩
  rw [List.getElem?_zip_eq_some]
  exact ⟨hz, by simp [hj2]⟩
theorem nodup_keys {zs : List Pr} {us : List Value} (hl : us.length = zs.length) (h : (zs.map (·.key)).Nodup) : (((zs.zip us).map fun q => ((q.1.key.map Sum.inl : List Key), q.1.kat, q.2)).map (·.1)).Nodup := by
  rw [List.map_map]
  have e : (zs.zip us).map ((fun x : List Key × Addr × Value => x.1) ∘ fun q : Pr × Value => ((q.1.key.map Sum.inl : List Key), q.1.kat, q.2)) = (zs.map (·.key)).map fun k => (k.map Sum.inl : List Key) := by
    rw [List.map_map]
    have e2 : (zs.zip us).map Prod.fst = zs := List.map_fst_zip (by omega)
    have e3 := congrArg (List.map fun z : Pr => (z.key.map Sum.inl : List Key)) e2
    rw [List.map_map] at e3
    exact e3
  rw [e]
  exact List.Pairwise.map _ (fun a b (hab : a ≠ b) (q : a.map (Sum.inl : Int → Key) = b.map Sum.inl) => hab (map_inl_inj q)) h
theorem cr_dictT (hc : X.calm = true) (hu : X.A.units + 64 < cLine) : CallR X (.type "dict") (rDictT X.K) := by
  intro pins s σ H xs us Q I r h
  obtain ⟨a, zs, rfl, hq, hz, hnd, hlen, q⟩ := h
  obtain ⟨u0, rfl, rx⟩ := vals1 r
  cases rx
  obtain ⟨ws, wl, hw⟩ := pr_vals I hz
  have hm : (s.heap.objs.size == sysModules) = false := beq_eq_false_iff_ne.mpr (Nat.ne_of_gt I.big)
  let prs : List (Value × Value) := (zs.zip ws).map fun q => (Value.ref q.1.kat, q.2)
  let ps : List (List Key × Addr × Value) := (zs.zip ws).map fun q => (q.1.key.map Sum.inl, q.1.kat, q.2)
  have pl : prs.length = zs.length := by simp [prs, wl]
  have psl : ps.length = zs.length := by simp [ps, wl]
  have prat : ∀ (j : Nat) (k v : Value), prs[j]? = some (k, v) → ∃ z, zs[j]? = some z ∧ ws[j]? = some v ∧ k = .ref z.kat ∧ ps[j]? = some (z.key.map Sum.inl, z.kat, v) := fun j k v e => by
    have hj : j < zs.length := by
      have := (List.getElem?_eq_some_iff.mp e).1
      omega
    obtain ⟨u, h1, h2⟩ := zip_at wl (z := zs[j]) (List.getElem?_eq_getElem hj)
    have e2 : prs[j]? = some (Value.ref zs[j].kat, u) := by
      show ((zs.zip ws).map _)[j]? = _
      rw [List.getElem?_map, h2]
      rfl
    rw [e2] at e
    cases e
    refine ⟨zs[j], List.getElem?_eq_getElem hj, h1, rfl, ?_⟩
    show ((zs.zip ws).map _)[j]? = _
    rw [List.getElem?_map, h2]
    rfl
  have hc2 : PairsHaveH (tupleKind (mixKind X.prog X.w)) prs.length (PairRel prs) ps := ⟨by rw [pl, psl], fun i key v e => by
    obtain ⟨z, _, _, e1, e2⟩ := prat i key v e
    exact ⟨_, _, e2, e1⟩⟩
  have hst : KeysStay (tupleKind (mixKind X.prog X.w)) s.heap s.heap.objs.size [] ps := fun h' kp x hx => by
    have ok' : HOk X.prog X.w H h' := I.hok.kept fun b o e => kp b o (Nat.ne_of_lt (Heap.lt_size e)) List.not_mem_nil e
    obtain ⟨q', hq', rfl⟩ := List.mem_map.mp hx
    obtain ⟨z, v⟩ := q'
    have hzm : z ∈ zs := (List.of_mem_zip hq').1
    exact key_of ok' (hz z hzm).2
  have fin : ∀ (h' : Heap) (tk : Nat), h'.DictOfH (tupleKind (mixKind X.prog X.w)) s.heap.objs.size (storedAllH [] ps) → (∀ b o, b ∉ ([] : List Addr) → s.heap.get? b = some o → h'.get? b = some o) → EP X pins σ Q (.ref s.heap.objs.size) { s with heap := h', toks := tk } := fun h' tk hd kp => by
    rw [storedAllH_nil_of_nodup ps (nodup_keys wl hnd)] at hd
    obtain ⟨o, es, ep, h1, h2, h3, h4, _, h6⟩ := hd
    have hn : H s.heap.objs.size = none := I.hok.fresh (Nat.le_refl _)
    have tq : Tp H (upd H s.heap.objs.size (.dT (zs.map Pr.kv))) := Tp.new hn
    have new : ObjOk X.prog X.w (upd H s.heap.objs.size (.dT (zs.map Pr.kv))) h' s.heap.objs.size (.dT (zs.map Pr.kv)) :=
      ⟨by rw [List.length_map]; exact sz1 hlen, hm, ps, kt_zip wl (fun z hz' => tq.tup _ _ (hz z hz').2) (fun j z u a b => (hw j z u a b).1), o, es, ep, h1, h2, h3, h4, h6⟩
    exact ⟨.ref s.heap.objs.size, _, I.laid (t' := tk) (fun b o' e => kp b o' List.not_mem_nil e) (Nat.le_refl _) new, rfl, q _ hn⟩
  let Ts : Nat → Addr := fun j => (zs.map (·.at_)).getD j 0
  have tsat : ∀ (j : Nat) (z : Pr), zs[j]? = some z → Ts j = z.at_ := fun j z e => by
    show (zs.map (·.at_)).getD j 0 = _
    rw [List.getD_eq_getElem?_getD, List.getElem?_map, e]
    rfl
  have items : ∀ its : List Value, its = zs.map (fun z => Value.ref z.at_) → PairItems s.heap its.toArray Ts prs := fun its ei => by
    refine ⟨by rw [List.size_toArray, ei, List.length_map, pl], fun j k v e => ?_⟩
    obtain ⟨z, e1, e2, e3, _⟩ := prat j k v e
    refine ⟨?_, ?_⟩
    · rw [List.getElem?_toArray, ei, List.getElem?_map, e1, tsat j z e1]
      rfl
    · rw [tsat j z e1, e3]
      exact .inl (hw j z v e1 e2).2
  have room : (tupleKind (mixKind X.prog X.w)).room X.A.in1.in1 := by
    show X.A.in1.in1.units < cLine
    have e1 : X.A.in1.in1.units = X.A.units + 1 + 1 := rfl
    omega
  rcases hq with hq | ⟨o, hq, hd⟩
  · obtain ⟨its, rv, plain, hz2⟩ := I.list hq
    obtain ⟨o, n, ho, hcl, hdn, hdat⟩ := plain
    exact call_dict_pairsH (PairArg.list a its.toArray Ts prs) (I.ok.hd hc) room ⟨⟨o, n, ho, hcl, hdn, hdat⟩, items its (refs_prs rv)⟩ hc2 hst (by rw [pl]; exact sz1 hlen) fin
  · obtain ⟨ho, _, its, rv, ⟨o2, ho2, hcl, n, hdat⟩⟩ := (show ObjOk X.prog X.w H s.heap a (.frz o (.tup (zs.map fun z => V.ref z.at_))) from I.hok a _ hq)
    have eo : o = o2 := by
      rw [ho] at ho2
      exact Option.some.inj ho2
    subst eo
    exact call_dict_pairsH (PairArg.tuple a its.toArray Ts prs) (I.ok.hd hc) room ⟨⟨o, n, ho, hcl, hd, hdat⟩, items its (refs_prs rv)⟩ hc2 hst (by rw [pl]; exact sz1 hlen) fin
end
section
variable {K : PySem.W.Frag} {M : Mem} {ρ : Rho}
def pairU (kv : List Int × U) : U := .tup [.tup (kv.1.map U.int), kv.2]
theorem prs_of {H : Hp} : ∀ {vs : List V} {kvs : List (List Int × U)}, RpA K H vs (kvs.map pairU) → ∃ zs : List Pr, vs = zs.map (fun z => V.ref z.at_) ∧ (∀ z ∈ zs, PrOk H z) ∧ zs.map (·.key) = kvs.map (·.1) ∧ RpT K H (zs.map Pr.kv) kvs
  | _, [], h => by
    cases h
    exact ⟨[], rfl, (fun z hz => by cases hz), rfl, .nil⟩
  | _, kv :: kvs, h => by
    have h' : RpA K H _ (pairU kv :: kvs.map pairU) := h
    cases h' with
    | cons r t =>
      obtain ⟨zs, h1, h2, h3, h4⟩ := prs_of t
      have r' : Rp K H _ (.tup [.tup (kv.1.map U.int), kv.2]) := r
      cases r' with
      | @tup a xs _ e ra =>
        cases ra with
        | cons r1 rr =>
          cases rr with
          | @cons v _ _ _ r2 r3 =>
            cases r3
            obtain ⟨b, eb, hb⟩ := key_tup r1
            subst eb
            refine ⟨⟨a, b, kv.1, v⟩ :: zs, by rw [h1]; rfl, fun z hz => ?_, by rw [List.map_cons, List.map_cons, h3], .cons ⟨rfl, r2⟩ h4⟩
            rcases List.mem_cons.mp hz with z1 | z1
            · subst z1
              exact ⟨e, hb⟩
            · exact h2 z z1
theorem RpT.mono {H H' : Hp} {ks : List (List Key × V)} {kvs : List (List Int × U)} (t : Tp H H') (r : RpT K H ks kvs) : RpT K H' ks kvs := Paired.mono2 r fun a b q => ⟨q.1, q.2.mono t⟩
theorem rc_dictL {p : Addr} {kvs : List (List Int × U)} {k : U → Mem → Prop} (hp : (p, MO.l (kvs.map pairU)) ∈ M) (hn : (kvs.map (·.1)).Nodup) (hl : kvs.length ≤ 100000) (h : ∀ q, k (.ptr q) ((q, MO.dt kvs) :: M)) : RCA K (rDictT K) [.ptr p] M k := fun vs H m r Q c => by
  cases r with
  | cons a b =>
    cases b
    cases a
    obtain ⟨ws, hw, ra⟩ := m.lst hp
    obtain ⟨zs, h1, h2, h3, h4⟩ := prs_of ra
    refine ⟨p, zs, rfl, .inl (SqL.of (by rw [hw, h1])), h2, by rw [h3]; exact hn, ?_, fun q nq => c _ _ _ _ (h q) (Tp.new nq) (m.new nq ⟨_, upd_same, h4.mono (Tp.new nq)⟩) (.ptr q)⟩
    have e1 := congrArg List.length h3
    rw [List.length_map, List.length_map] at e1
    omega
theorem rc_dictF {kvs : List (List Int × U)} {k : U → Mem → Prop} (hn : (kvs.map (·.1)).Nodup) (hl : kvs.length ≤ 100000) (h : ∀ q, k (.ptr q) ((q, MO.dt kvs) :: M)) : RCA K (rDictT K) [.tf (kvs.map pairU)] M k := fun vs H m r Q c => by
  cases r with
  | cons a b =>
    cases b
    cases a with
    | @tf p o ws _ hw d ra =>
      obtain ⟨zs, h1, h2, h3, h4⟩ := prs_of ra
      refine ⟨p, zs, rfl, .inr ⟨o, by rw [hw, h1], d⟩, h2, by rw [h3]; exact hn, ?_, fun q nq => c _ _ _ _ (h q) (Tp.new nq) (m.new nq ⟨_, upd_same, h4.mono (Tp.new nq)⟩) (.ptr q)⟩
      have e1 := congrArg List.length h3
      rw [List.length_map, List.length_map] at e1
      omega
end
end Wl
set_option Elab.async false
set_option linter.all false
set_option maxRecDepth 100000
set_option maxHeartbeats 4000000
namespace Wl
open PySem PySem.Spec PyProof.Rows L2
/-- what the top has left -/
structure Txt (K : PySem.W.Frag) (mg : Str → Option Value) : Prop where
  at_ : ∃ h : Heap, K.In h ∧ h.Ns mainGlobals mg
  says : He.SaysD faL fnL K
  ex : exB K = true
section
variable {K : PySem.W.Frag} {mg : Str → Option Value}
theorem Txt.c_LETTERS (T : Txt K mg) : ∃ t, mg "LETTERS" = some (.str "abcdefghijklmnopqrstuvwxyz" t) := by
  obtain ⟨h, X, G⟩ := T.at_
  exact He.str_ok X G (T.says.fact 46 (f := .str "LETTERS" "abcdefghijklmnopqrstuvwxyz") rfl)
theorem Txt.c_MOST_LETTERS (T : Txt K mg) : ∃ t, mg "MOST_LETTERS" = some (.int 8 t) := by
  obtain ⟨h, X, G⟩ := T.at_
  exact He.int_ok X G (T.says.fact 47 (f := .int "MOST_LETTERS" 8) rfl)
theorem Txt.c_OPENER (T : Txt K mg) : ∃ t, mg "OPENER" = some (.str "opener" t) := by
  obtain ⟨h, X, G⟩ := T.at_
  exact He.str_ok X G (T.says.fact 48 (f := .str "OPENER" "opener") rfl)
theorem Txt.c_MOST_ADDRESS (T : Txt K mg) : ∃ t, mg "MOST_ADDRESS" = some (.int 99 t) := by
  obtain ⟨h, X, G⟩ := T.at_
  exact He.int_ok X G (T.says.fact 49 (f := .int "MOST_ADDRESS" 99) rfl)
theorem Txt.c_MOST_DEVICES (T : Txt K mg) : ∃ t, mg "MOST_DEVICES" = some (.int 30 t) := by
  obtain ⟨h, X, G⟩ := T.at_
  exact He.int_ok X G (T.says.fact 50 (f := .int "MOST_DEVICES" 30) rfl)
theorem Txt.c_MOST_LOOPS (T : Txt K mg) : ∃ t, mg "MOST_LOOPS" = some (.int 3 t) := by
  obtain ⟨h, X, G⟩ := T.at_
  exact He.int_ok X G (T.says.fact 51 (f := .int "MOST_LOOPS" 3) rfl)
theorem Txt.c_MOST_PLACES (T : Txt K mg) : ∃ t, mg "MOST_PLACES" = some (.int 12 t) := by
  obtain ⟨h, X, G⟩ := T.at_
  exact He.int_ok X G (T.says.fact 52 (f := .int "MOST_PLACES" 12) rfl)
theorem Txt.c_MOST_SPUR (T : Txt K mg) : ∃ t, mg "MOST_SPUR" = some (.int 3 t) := by
  obtain ⟨h, X, G⟩ := T.at_
  exact He.int_ok X G (T.says.fact 53 (f := .int "MOST_SPUR" 3) rfl)
theorem Txt.c_MOST_ZONES (T : Txt K mg) : ∃ t, mg "MOST_ZONES" = some (.int 8 t) := by
  obtain ⟨h, X, G⟩ := T.at_
  exact He.int_ok X G (T.says.fact 54 (f := .int "MOST_ZONES" 8) rfl)
theorem Txt.f_isinstance (T : Txt K mg) : mg "isinstance" = none := by
  obtain ⟨h, X, G⟩ := T.at_
  exact He.free_ok X G (T.says.fact 55 (f := .free "isinstance") rfl)
theorem Txt.f_int (T : Txt K mg) : mg "int" = none := by
  obtain ⟨h, X, G⟩ := T.at_
  exact He.free_ok X G (T.says.fact 56 (f := .free "int") rfl)
theorem Txt.f_bool (T : Txt K mg) : mg "bool" = none := by
  obtain ⟨h, X, G⟩ := T.at_
  exact He.free_ok X G (T.says.fact 57 (f := .free "bool") rfl)
theorem Txt.f_str (T : Txt K mg) : mg "str" = none := by
  obtain ⟨h, X, G⟩ := T.at_
  exact He.free_ok X G (T.says.fact 58 (f := .free "str") rfl)
theorem Txt.f_tuple (T : Txt K mg) : mg "tuple" = none := by
  obtain ⟨h, X, G⟩ := T.at_
  exact He.free_ok X G (T.says.fact 59 (f := .free "tuple") rfl)
theorem Txt.f_len (T : Txt K mg) : mg "len" = none := by
  obtain ⟨h, X, G⟩ := T.at_
  exact He.free_ok X G (T.says.fact 60 (f := .free "len") rfl)
theorem Txt.f_all (T : Txt K mg) : mg "all" = none := by
  obtain ⟨h, X, G⟩ := T.at_
  exact He.free_ok X G (T.says.fact 61 (f := .free "all") rfl)
theorem Txt.f_any (T : Txt K mg) : mg "any" = none := by
  obtain ⟨h, X, G⟩ := T.at_
  exact He.free_ok X G (T.says.fact 62 (f := .free "any") rfl)
theorem Txt.f_range (T : Txt K mg) : mg "range" = none := by
  obtain ⟨h, X, G⟩ := T.at_
  exact He.free_ok X G (T.says.fact 63 (f := .free "range") rfl)
theorem Txt.f_enumerate (T : Txt K mg) : mg "enumerate" = none := by
  obtain ⟨h, X, G⟩ := T.at_
  exact He.free_ok X G (T.says.fact 64 (f := .free "enumerate") rfl)
theorem Txt.f_set (T : Txt K mg) : mg "set" = none := by
  obtain ⟨h, X, G⟩ := T.at_
  exact He.free_ok X G (T.says.fact 65 (f := .free "set") rfl)
theorem Txt.f_dict (T : Txt K mg) : mg "dict" = none := by
  obtain ⟨h, X, G⟩ := T.at_
  exact He.free_ok X G (T.says.fact 66 (f := .free "dict") rfl)
theorem Txt.f_sorted (T : Txt K mg) : mg "sorted" = none := by
  obtain ⟨h, X, G⟩ := T.at_
  exact He.free_ok X G (T.says.fact 67 (f := .free "sorted") rfl)
theorem Txt.f_min (T : Txt K mg) : mg "min" = none := by
  obtain ⟨h, X, G⟩ := T.at_
  exact He.free_ok X G (T.says.fact 68 (f := .free "min") rfl)
theorem Txt.f_max (T : Txt K mg) : mg "max" = none := by
  obtain ⟨h, X, G⟩ := T.at_
  exact He.free_ok X G (T.says.fact 69 (f := .free "max") rfl)
theorem Txt.f_abs (T : Txt K mg) : mg "abs" = none := by
  obtain ⟨h, X, G⟩ := T.at_
  exact He.free_ok X G (T.says.fact 70 (f := .free "abs") rfl)
theorem Txt.k_KINDS (T : Txt K mg) : ∀ H : Hp, SqT K H (He.ga K "KINDS") ((["seeker", "knob", "bell", "door"] : List Str).map V.str) := fun H => He.tupB_ok (vs := [.str "seeker", .str "knob", .str "bell", .str "door"]) (and2 (and2 T.ex).1).1 H
theorem Txt.g_KINDS (T : Txt K mg) : mg "KINDS" = some (.ref (He.ga K "KINDS")) := by
  obtain ⟨h, X, G⟩ := T.at_
  exact He.glo_ok X G (T.says.fact 71 (f := .glo "KINDS") rfl)
theorem Txt.k_TOLD_BY (T : Txt K mg) : ∀ H : Hp, SqT K H (He.ga K "TOLD_BY") ((["seeker", "knob"] : List Str).map V.str) := fun H => He.tupB_ok (vs := [.str "seeker", .str "knob"]) (and2 (and2 T.ex).1).2 H
theorem Txt.g_TOLD_BY (T : Txt K mg) : mg "TOLD_BY" = some (.ref (He.ga K "TOLD_BY")) := by
  obtain ⟨h, X, G⟩ := T.at_
  exact He.glo_ok X G (T.says.fact 72 (f := .glo "TOLD_BY") rfl)
theorem Txt.k_HOWS (T : Txt K mg) : ∀ H : Hp, SqT K H (He.ga K "HOWS") ((["cut", "short"] : List Str).map V.str) := fun H => He.tupB_ok (vs := [.str "cut", .str "short"]) (and2 T.ex).2 H
theorem Txt.g_HOWS (T : Txt K mg) : mg "HOWS" = some (.ref (He.ga K "HOWS")) := by
  obtain ⟨h, X, G⟩ := T.at_
  exact He.glo_ok X G (T.says.fact 73 (f := .glo "HOWS") rfl)
end
/-- a def of the top keeps its promise -/
structure Fn (P : Program) (w : World) (K : PySem.W.Frag) (mg : Str → Option Value) (base : Heap) (k : Nat) (x : Str) (ps : List Str) (C : CU) : Prop where
  ex : ∃ f fd, FnOk P w K mg base CX0 k f fd ps (SpC K C) ∧ mg x = some (.ref f) ∧ PySem.W.keepIn K (.ref f) = true ∧ Binds K fd ps []
abbrev XD (P : Program) (w : World) (K : PySem.W.Frag) (mg : Str → Option Value) (base : Heap) (N : List Str) (x : Str) (j : Nat) (f : Addr) (cdv : Value) (A : Around) (outer : List Env) (s : Shared) (H : Hp) (E : XK) : Cx :=
  (cxOf CX0 P w K mg base N x (defScope (atTop j)) f cdv A outer s H E).nox
def startR (N : List Str) (us : List U) : Rho := us.map some ++ List.replicate (N.length - us.length) none
theorem slOk_start {K : PySem.W.Frag} {H : Hp} {N : List Str} {vs : List V} {us : List U} (r : RpA K H vs us) : SlOk K H (L2.start N vs) (startR N us) := by
  have hl := r.length
  refine ⟨by simp [L2.start, startR, hl], fun i u e => ?_⟩
  unfold startR at e
  unfold L2.start
  by_cases hi : i < us.length
  · rw [List.getElem?_append_left (by simpa using hi), List.getElem?_map] at e
    rw [List.getElem?_append_left (by simpa [hl] using hi), List.getElem?_map]
    cases q : us[i]? with
    | none =>
      rw [q] at e
      cases e
    | some u2 =>
      rw [q] at e
      cases e
      obtain ⟨v, h1, h2⟩ := r.get q
      exact ⟨v, by rw [h1]; rfl, h2⟩
  · rw [List.getElem?_append_right (by simpa using hi), List.getElem?_replicate] at e
    split at e <;> cases e
section
variable {P : Program} {w : World} {K : PySem.W.Frag} {mg : Str → Option Value} {base : Heap}
theorem Fn.of {j k : Nat} {x : Str} {N ps : List Str} {C : CU} (T : Txt K mg) (i : Nat) (hd : fnL[i]? = some (dAt j x)) (hg : faL[i]? = some (.glo x)) (S : FnScope N ps (defScope (atTop j)))
    (hb : ∀ (kV doc pm : Value) (an : Option Addr) (cdv ct : Value) (us : List Value), us.length = ps.length → bindArgs (PySem.W.fnOf x x (defArgs (atTop j)) (defBody (atTop j)) (defScope (atTop j)) .none kV doc pm an cdv ct) ⟨us, []⟩ = pure (ps.zip us))
    (len : ∀ us M q, C us M q → us.length = ps.length)
    (body : ∀ (f : Addr) (cdv : Value) (A : Around) (outer : List Env) (s : Shared) (H : Hp) (E : XK), Room k (A.deeper (envOfC x (defScope (atTop j)) s.heap.objs.size f cdv)) →
      ∃ t, PSs (XD P w K mg base N x j f cdv A outer s H E) (defBody (atTop j)) t ∧ ∀ us M q, C us M q → WS K t M (startR N us) { nx := fun M' _ => ∃ M2, Sub M2 M' ∧ q .non M2, rt := fun u M' => ∃ M2, Sub M2 M' ∧ q u M2 }) : Fn P w K mg base (k + 1) x ps C := by
  obtain ⟨h, X, G⟩ := T.at_
  obtain ⟨fd, F⟩ := T.says.def_ i hd
  refine ⟨_, fd, F.ok S ?_ ?_, He.glo_ok X G (T.says.fact i hg), F.kp, F.bindsN hb⟩
  · rintro vs H Q E ⟨us, M, q, r, m, c, _⟩
    rw [r.length]
    exact len us M q c
  · rintro cdv A outer s H vs Q E hr ⟨us, M, q, r, m, c, cont⟩
    obtain ⟨t, h1, h2⟩ := body _ cdv A outer s H E hr
    refine ⟨t, h1.nox, h2 us M q c H (L2.start N vs) H (Tp.refl H) m (slOk_start r) _ ⟨fun M' ρ' σ' H' ⟨M2, a1, a⟩ b d e => cont .non M2 .non H' a b (d.sub a1) .non, fun u M' v H' ⟨M2, a1, a⟩ b d e => cont u M2 v H' a b (d.sub a1) e, fun _ _ _ _ z => z.elim, fun _ _ _ _ z => z.elim⟩⟩
end
theorem pe_fn {X : Cx} {k : Nat} {x : Str} {ps : List Str} {C : CU} {e : Expr} {es : List Expr} {t : TA} {p pos : Pos} (F : Fn X.prog X.w X.K X.mg X.base k x ps C) (hr : Room k X.A) (hg : Gl X x) (ha : PA X (e :: es) t) (hdb : (x == ("__debug__" : Str)) = false := by decide) (hn : starEach (e :: es) X.env = (false, eval e X.env) :: starEach es X.env := by rfl) (hpl : (backTo pos (starEach es X.env)).any (·.1) = false := by rfl) :
    PE X (.Call (.Name x p) (e :: es) [] pos) (tCall (SpC X.K C) [] E0 t) := by
  obtain ⟨f, fd, h1, h2, h3, h4⟩ := F.ex
  exact pe_call h1 hr hg h2 h3 h4 .nil pass0 ha hdb hn hpl
theorem pe_constI {X : Cx} {x : Str} {i : Int} {pos : Pos} (hg : Gl X x) (hm : ∃ t, X.mg x = some (.int i t)) (hd : (x == ("__debug__" : Str)) = false := by decide) : PE X (.Name x pos) (tC (.int i)) := by
  obtain ⟨t, hm⟩ := hm
  exact pe_glob hg hm ⟨t, rfl⟩ hd
theorem pe_constS {X : Cx} {x : Str} {i : Str} {pos : Pos} (hg : Gl X x) (hm : ∃ t, X.mg x = some (.str i t)) (hd : (x == ("__debug__" : Str)) = false := by decide) : PE X (.Name x pos) (tC (.str i)) := by
  obtain ⟨t, hm⟩ := hm
  exact pe_glob hg hm ⟨t, rfl⟩ hd
end Wl
set_option Elab.async false
set_option linter.all false
set_option maxRecDepth 100000
set_option maxHeartbeats 4000000
/-! the data, as plain Lean, and what the defs make of it -/
namespace Wl
open PySem PySem.Spec PyProof.Rows L2
structure Dev where
  kind : Str
  addr : Int
inductive Pl where
  | op
  | dev (d : Dev) (sp : List Dev)
structure Plan where
  most : Int
  loops : List (List Pl)
  zones : List (Str × List Int)
def eDev (d : Dev) : U := .tup [.str d.kind, .int d.addr]
def ePl : Pl → U
  | .op => .tup [.str "opener", .int 0, .tup []]
  | .dev d sp => .tup [.str d.kind, .int d.addr, .tup (sp.map eDev)]
def eLoop (l : List Pl) : U := .tup (l.map ePl)
def eZone (z : Str × List Int) : U := .tup [.str z.1, .tup (z.2.map U.int)]
def ePlan (p : Plan) : U := .tup [.int p.most, .tup (p.loops.map eLoop), .tup (p.zones.map eZone)]
abbrev Spot := Nat × Nat × Nat
abbrev Gate := Nat × Nat
def kSp (s : Spot) : List Int := [(s.1 : Nat), (s.2.1 : Nat), (s.2.2 : Nat)]
def kGt (g : Gate) : List Int := [(g.1 : Nat), (g.2 : Nat)]
def eSp (s : Spot) : U := .tup [.int (s.1 : Nat), .int (s.2.1 : Nat), .int (s.2.2 : Nat)]
def eGt (g : Gate) : U := .tup [.int (g.1 : Nat), .int (g.2 : Nat)]
theorem eSp_k (s : Spot) : eSp s = .tup ((kSp s).map U.int) := rfl
theorem eGt_k (g : Gate) : eGt g = .tup ((kGt g).map U.int) := rfl
theorem kSp_inj {s t : Spot} (h : kSp s = kSp t) : s = t := by
  obtain ⟨a, b, c⟩ := s
  obtain ⟨d, e, f⟩ := t
  unfold kSp at h
  simp only [List.cons.injEq, and_true] at h
  obtain ⟨h1, h2, h3⟩ := h
  have e1 : a = d := by exact_mod_cast h1
  have e2 : b = e := by exact_mod_cast h2
  have e3 : c = f := by exact_mod_cast h3
  subst e1 e2 e3
  rfl
theorem kGt_inj {s t : Gate} (h : kGt s = kGt t) : s = t := by
  obtain ⟨a, b⟩ := s
  obtain ⟨d, e⟩ := t
  unfold kGt at h
  simp only [List.cons.injEq, and_true] at h
  obtain ⟨h1, h2⟩ := h
  have e1 : a = d := by exact_mod_cast h1
  have e2 : b = e := by exact_mod_cast h2
  subst e1 e2
  rfl
/-! ### lists -/
theorem flat_next {α β : Type} {xs : List α} {g : α → List β} {i : Nat} {x : α} (h : xs[i]? = some x) : (xs.take (i + 1)).flatMap g = (xs.take i).flatMap g ++ g x := by
  rw [List.take_add_one, h, List.flatMap_append]
  simp
theorem flat_le {α β : Type} {xs : List α} {g : α → List β} (i : Nat) : ((xs.take i).flatMap g).length ≤ (xs.flatMap g).length := by
  have e : xs.flatMap g = (xs.take i).flatMap g ++ (xs.drop i).flatMap g := by rw [← List.flatMap_append, List.take_append_drop]
  rw [e, List.length_append]
  omega
theorem flat_bound {α β : Type} {g : α → List β} {k : Nat} : ∀ {xs : List α}, (∀ x ∈ xs, (g x).length ≤ k) → (xs.flatMap g).length ≤ xs.length * k
  | [], _ => by simp
  | x :: xs, h => by
    rw [List.flatMap_cons, List.length_append, List.length_cons, Nat.succ_mul]
    have h1 := h x (List.mem_cons_self ..)
    have h2 := flat_bound (xs := xs) fun y hy => h y (List.mem_cons_of_mem _ hy)
    omega
theorem pairs_map {α : Type} (enc : α → U) (xs : List α) : pairs (xs.map enc) = xs.zipIdx.map fun x => U.tup [.int (x.2 : Nat), enc x.1] := by
  unfold pairs
  rw [List.zipIdx_map, List.map_map]
  rfl
theorem zip_mem {α : Type} {xs : List α} {x : α × Nat} (h : x ∈ xs.zipIdx) : x.1 ∈ xs ∧ x.2 < xs.length ∧ xs[x.2]? = some x.1 := by
  have q := List.mem_zipIdx_iff_getElem?.mp h
  exact ⟨List.mem_of_getElem? q, (List.getElem?_eq_some_iff.mp q).1, q⟩
/-! ### places -/
def Pl.spur : Pl → List Dev
  | .op => []
  | .dev _ sp => sp
def Pl.isOp : Pl → Bool
  | .op => true
  | .dev _ _ => false
def Pl.devs : Pl → List Dev
  | .op => []
  | .dev d sp => d :: sp
/-- the form alone -/
def PlShp : Pl → Prop
  | .op => True
  | .dev d sp => d.kind ≠ "opener" ∧ sp.length ≤ 3
structure Shp (p : Plan) : Prop where
  loops : p.loops.length ≤ 3
  places : ∀ l ∈ p.loops, l.length ≤ 12
  pl : ∀ l ∈ p.loops, ∀ x ∈ l, PlShp x
def Pl.rows (i a : Nat) : Pl → List (Spot × Dev)
  | .op => []
  | .dev d sp => ((i, a + 1, 0), d) :: sp.zipIdx.map fun x => ((i, a + 1, x.2 + 1), x.1)
def loopRows (i : Nat) (l : List Pl) : List (Spot × Dev) := l.zipIdx.flatMap fun x => x.1.rows i x.2
def devicesOf (p : Plan) : List (Spot × Dev) := p.loops.zipIdx.flatMap fun x => loopRows x.2 x.1
def eRow (r : Spot × Dev) : U := .tup [eSp r.1, .str r.2.kind, .int r.2.addr]
def plStr (i a : Nat) (x : Pl) : List Spot := (List.range (x.spur.length + 1)).map fun w => (i, a + 1, w)
def loopStr (i : Nat) (l : List Pl) : List Spot := (i, 0, 0) :: l.zipIdx.flatMap fun x => plStr i x.2 x.1
def stretchesOf (p : Plan) : List Spot := p.loops.zipIdx.flatMap fun x => loopStr x.2 x.1
def loopGates (i : Nat) (l : List Pl) : List Gate := (i, 0) :: ((l.zipIdx.filter fun x => x.1.isOp).map fun x => (i, x.2 + 1)) ++ [(i, l.length + 1)]
def openersOf (p : Plan) : List Gate := p.loops.zipIdx.flatMap fun x => loopGates x.2 x.1
end Wl
set_option Elab.async false
set_option linter.all false
set_option maxRecDepth 100000
set_option maxHeartbeats 4000000
namespace Wl
open PySem PySem.Spec PyProof.Rows L2
section
variable {K : PySem.W.Frag} {M : Mem} {ρ : Rho}
def isiU : U → String → Option Bool
  | .int _, "int" => some true
  | .int _, "bool" => some false
  | .str _, "str" => some true
  | .tup _, "tuple" => some true
  | _, _ => none
theorem isiU_ok {x : U} {n : String} {b : Bool} (h : isiU x n = some b) : tyU x ≠ "" ∧ PySem.W.kitOne K (.type (tyU x)) (.type n) = some b := by
  unfold isiU at h
  split at h
  · cases h; exact ⟨by simp [tyU], kit_ty (show kitB "int" "int" = some true by decide +kernel)⟩
  · cases h; exact ⟨by simp [tyU], kit_ty (show kitB "int" "bool" = some false by decide +kernel)⟩
  · cases h; exact ⟨by simp [tyU], kit_ty (show kitB "str" "str" = some true by decide +kernel)⟩
  · cases h; exact ⟨by simp [tyU], kit_ty (show kitB "tuple" "tuple" = some true by decide +kernel)⟩
  · cases h
theorem w_isi2 {tx : TE} {n : String} {k : U → Mem → Prop} (h : W K tx M ρ fun x M1 => ∃ b, isiU x n = some b ∧ k (.bl b) M1) : W K (tCB (rIsi K) (tCons tx (tCons (tC (.ty n)) tNil))) M ρ k :=
  w_isi (h.imp fun x M1 ⟨b, e, q⟩ => ⟨(isiU_ok (K := K) e).1, b, (isiU_ok e).2, q⟩)
/-- a loop over what stands for xs: I by the number of turns -/
theorem ws_forX {α : Type} {wi : TI} {g : TG} {tb : TS} {D : AE} (h : WI K wi M ρ fun A M1 => ∃ (xs : List α) (enc : α → U), A.items = xs.map enc ∧ ∃ I : Nat → Mem → Rho → Prop, I 0 M1 ρ ∧ (∀ i M ρ, I i M ρ → A.stay M) ∧
      (∀ i x M ρ, xs[i]? = some x → I i M ρ → WG K none g (enc x) M ρ fun M2 ρ2 => WS K tb M2 ρ2 { D with nx := I (i + 1), ct := I (i + 1), bk := D.nx }) ∧ (∀ M ρ, I xs.length M ρ → D.nx M ρ)) : WS K (tFor wi g tb) M ρ D := by
  refine ws_for fun σ H m s R c => h σ H m s R fun A M1 J H1 ⟨xs, enc, e, I, i0, ist, turn, fin⟩ t1 m1 ok => c A M1 J H1 ⟨I, i0, fun i M ρ _ => ist i M ρ, fun i u M ρ hu => ?_, ?_⟩ t1 m1 ok
  · rw [e, List.getElem?_map] at hu
    cases q : xs[i]? with
    | none => rw [q] at hu; cases hu
    | some x =>
      rw [q] at hu
      cases hu
      exact turn i x M ρ q
  · rw [e, List.length_map]
    exact fin
theorem WS.nx {ts : TS} {D D' : AE} (h : WS K ts M ρ D') (hn : ∀ M ρ, D'.nx M ρ → D.nx M ρ) (hr : ∀ u M, D'.rt u M → D.rt u M) (hb : ∀ M ρ, D'.bk M ρ → D.bk M ρ) (hc : ∀ M ρ, D'.ct M ρ → D.ct M ρ) : WS K ts M ρ D := fun H0 σ H t m s E d =>
  h H0 σ H t m s E ⟨fun M ρ σ H a b c e => d.nx M ρ σ H (hn _ _ a) b c e, fun u M v H a b c e => d.rt u M v H (hr _ _ a) b c e, fun M ρ σ H a b c e => d.bk M ρ σ H (hb _ _ a) b c e, fun M ρ σ H a b c e => d.ct M ρ σ H (hc _ _ a) b c e⟩
/-- what a block leaves may be told with less -/
theorem ws_less {ts : TS} {D : AE} (h : WS K ts M ρ { D with nx := fun M' ρ' => ∃ M2 ρ2, Sub M2 M' ∧ RLe ρ2 ρ' ∧ D.nx M2 ρ2 }) : WS K ts M ρ D := fun H0 σ H t m s E d =>
  h H0 σ H t m s E ⟨fun M ρ σ H ⟨M2, ρ2, a1, a2, a⟩ b c e => d.nx M2 ρ2 σ H a b (c.sub a1) (e.le a2), d.rt, d.bk, d.ct⟩
theorem ws_lessR {ts : TS} {D : AE} (h : WS K ts M ρ { D with rt := fun u M' => ∃ M2, Sub M2 M' ∧ D.rt u M2 }) : WS K ts M ρ D := fun H0 σ H t m s E d =>
  h H0 σ H t m s E ⟨d.nx, fun u M v H ⟨M2, a1, a⟩ b c e => d.rt u M2 v H a b (c.sub a1) e, d.bk, d.ct⟩
/-- a comprehension without a test that changes nothing -/
theorem w_lcm {wi : TI} {g : TG} {te : TE} {vs : List Nat} {k : U → Mem → Prop} {α : Type} (h : WI K wi M ρ fun A M1 => ∃ (xs : List α) (enc : α → U) (f : α → U), A.items = xs.map enc ∧ xs.length ≤ 100000 ∧ (∀ D acc, A.stay ((D, MO.l acc) :: M1)) ∧
      (∀ D acc x, x ∈ xs → WG K (some vs) g (enc x) ((D, MO.l acc) :: M1) (wipeR ρ vs) fun M2 ρ2 => Sub ((D, MO.l acc) :: M1) M2 ∧ W K te M2 ρ2 fun y M4 => y = f x ∧ Sub ((D, MO.l acc) :: M1) M4) ∧
      (∀ D, k (.ptr D) ((D, MO.l (xs.map f)) :: M1))) : W K (tLc wi g tYes te vs) M ρ k := by
  refine w_lcp (α := α) fun σ H m s R c => h σ H m s R fun A M1 J H1 ⟨xs, enc, f, e, hl, st, turn, fin⟩ t1 m1 ok => c A M1 J H1 ⟨xs, enc, fun _ => true, f, e, hl, st, fun D acc x hx v σ' H' m' s' r' Q' c' => ?_, fun D => ?_⟩ t1 m1 ok
  · refine turn D acc x hx v σ' H' m' s' r' Q' fun M2 ρ2 σ2 H2 h2 t2 m2 s2 o2 => c' M2 ρ2 σ2 H2 (wt_yes ⟨rfl, h2.1, fun _ => h2.2⟩) t2 m2 s2 o2
  · rw [List.filter_eq_self.mpr fun _ _ => rfl]
    exact fin D
theorem bls_of : ∀ {us : List U}, (∀ u ∈ us, u = .bl true) → us = (us.map fun _ => true).map U.bl
  | [], _ => rfl
  | u :: us, h => by
    rw [List.map_cons, List.map_cons, h u (List.mem_cons_self ..), ← bls_of (us := us) fun x hx => h x (List.mem_cons_of_mem _ hx)]
/-- all of a list that holds True alone -/
theorem rc_allT {p : Addr} {us : List U} {k : U → Mem → Prop} (hp : (p, MO.l us) ∈ M) (ht : ∀ u ∈ us, u = .bl true) (h : k (.bl true) M) : RCA K (rAll K) [.ptr p] M k := by
  rw [bls_of ht] at hp
  refine rc_all hp ?_
  have e : (us.map fun _ => true).all id = true := by simp
  rw [e]
  exact h
theorem put1 {p : Addr} {o o' : MO} : Put p o o' ((p, o) :: M) ((p, o') :: M) := .here
theorem RLe.refl (ρ : Rho) : RLe ρ ρ := ⟨rfl, fun _ _ h => h⟩
end
end Wl
set_option Elab.async false
set_option linter.all false
set_option maxRecDepth 100000
set_option maxHeartbeats 4000000
/-! the rules once more, the written part by its own letter (a comprehension's block has another context) -/
namespace Wl
open PySem PySem.Spec PyProof.Rows L2
section
variable {X : Cx} {K : PySem.W.Frag}
theorem isiK (hK : X.K = K) : CallR X (.builtin "isinstance") (rIsi K) := hK ▸ call_isi
theorem lenK (hK : X.K = K) : CallR X (.builtin "len") (rLenX K) := hK ▸ call_len_seq
abbrev rLenS : List V → Hp → VK → Prop := fun xs H Q => ∃ z, xs = [.str z] ∧ z.length ≤ sizeLine ∧ Q (.int z.length) H
theorem lenS : CallR X (.builtin "len") rLenS := call_len_str
theorem ixL (hK : X.K = K) : IxR X (rIxL K) := hK ▸ ix_list
theorem ixT (hK : X.K = K) : IxR X (rIxT K) := hK ▸ ix_tup
theorem slL (hK : X.K = K) : SlR X (rSlL K) := hK ▸ sl_list
theorem slT (hK : X.K = K) : SlR X (rSlA K) := hK ▸ sl_tupA
theorem inK (hK : X.K = K) : OpR X (compareOp .In) (rIn K false) := hK ▸ op_in_seq
theorem notInK (hK : X.K = K) : OpR X (compareOp .NotIn) (rIn K true) := hK ▸ op_notIn_seq
theorem inD (hK : X.K = K) (hu : X.A.units + 65 < cLine) : OpR X (compareOp .In) (rInD K) := hK ▸ op_inD hu
theorem notInD (hK : X.K = K) (hu : X.A.units + 65 < cLine) : OpR X (compareOp .NotIn) (rNotInD K) := hK ▸ op_notInD hu
theorem eqD (hK : X.K = K) (hu : X.A.units + 64 < cLine) : OpR X (compareOp .Eq) (rEqD K) := hK ▸ op_eqD hu
theorem neD (hK : X.K = K) (hu : X.A.units + 64 < cLine) : OpR X (compareOp .NotEq) (rNeD K) := hK ▸ op_neD hu
theorem catT (hK : X.K = K) : OpR X (binaryOp .Add) (rCatA K) := hK ▸ op_catA
theorem allK (hK : X.K = K) (hc : X.calm = true) : CallR X (.builtin "all") (rAll K) := hK ▸ cr_all hc
theorem anyK (hK : X.K = K) (hc : X.calm = true) : CallR X (.builtin "any") (rAny K) := hK ▸ cr_any hc
theorem maxK (hK : X.K = K) (hc : X.calm = true) : CallR X (.builtin "max") (rMax K) := hK ▸ cr_max hc
theorem sortI (hK : X.K = K) : CallR X (.builtin "sorted") (rSorted K) := hK ▸ cr_sorted
theorem sortD (hK : X.K = K) (hu : X.A.units + 50 < cLine) : CallR X (.builtin "sorted") (rSortD K) := hK ▸ cr_sortD hu
abbrev rTupL (K : PySem.W.Frag) : List V → Hp → VK → Prop := fun xs H Q => ∃ p ys, xs = [.ref p] ∧ ((SqL K H p ys ∧ ∀ l, H l = none → Q (.ref l) (upd H l (.tup ys))) ∨ (SqT K H p ys ∧ Q (.ref p) H))
theorem tupL (hK : X.K = K) : CallR X (.type "tuple") (rTupL K) := hK ▸ call_tuple_of
theorem tupFK (hK : X.K = K) : CallR X (.type "tuple") (rTupF K) := hK ▸ cr_tupF
theorem dictK (hK : X.K = K) (hc : X.calm = true) (hu : X.A.units + 64 < cLine) : CallR X (.type "dict") (rDictT K) := hK ▸ cr_dictT hc hu
theorem piL {tg l : Expr} {tl : TE} (hK : X.K = K) (hl : PE X l tl) : PI X tg l (iList K tl) := hK ▸ pi_list hl
theorem piT {tg l : Expr} {tl : TE} (hK : X.K = K) (hl : PE X l tl) : PI X tg l (iTup K tl) := hK ▸ pi_tup hl
theorem piE {e : Expr} {ta : TA} {p pos tpos : Pos} {elts : List Expr} {kk : Nat} (hK : X.K = K) (hg : Gl X "enumerate") (hm : X.mg "enumerate" = none) (ha : PA X [e] ta) (hs : starEach [e] X.env = [(false, eval e X.env)] := by rfl) :
    PI X (.Tuple elts kk tpos) (.Call (.Name "enumerate" p) [e] [] pos) (iEnum K ta) := hK ▸ pi_enum hg hm ha hs
theorem piET {e : Expr} {ta : TA} {p pos tpos : Pos} {elts : List Expr} {kk : Nat} (hK : X.K = K) (hg : Gl X "enumerate") (hm : X.mg "enumerate" = none) (ha : PA X [e] ta) (hs : starEach [e] X.env = [(false, eval e X.env)] := by rfl) :
    PI X (.Tuple elts kk tpos) (.Call (.Name "enumerate" p) [e] [] pos) (iEnumT K ta) := hK ▸ pi_enumT hg hm ha hs
theorem pgT {es : List Expr} {k : Nat} {pos : Pos} {t : TGs} {n : Nat} (hK : X.K = K) (hc : X.calm = true) (h : PGs X es t) (hn : (assignEach es X.env).length = n := by rfl) (hst : (assignEach es X.env).findIdx? (·.1) = none := by rfl) : PG X (.Tuple es k pos) (gTup K n t) := hK ▸ pg_tup hc h hn hst
theorem pFn {P : Program} {w : World} {mg : Str → Option Value} {base : Heap} {k : Nat} {x : Str} {ps : List Str} {C : CU} {e : Expr} {es : List Expr} {t : TA} {p pos : Pos} (F : Fn P w K mg base k x ps C) (h1 : X.prog = P ∧ X.w = w ∧ X.K = K ∧ X.mg = mg ∧ X.base = base) (hr : Room k X.A) (hg : Gl X x) (ha : PA X (e :: es) t) (hdb : (x == ("__debug__" : Str)) = false := by decide) (hn : starEach (e :: es) X.env = (false, eval e X.env) :: starEach es X.env := by rfl) (hpl : (backTo pos (starEach es X.env)).any (·.1) = false := by rfl) :
    PE X (.Call (.Name x p) (e :: es) [] pos) (tCall (SpC K C) [] E0 t) := by
  obtain ⟨rfl, rfl, rfl, rfl, rfl⟩ := h1
  exact pe_fn F hr hg ha hdb hn hpl
theorem joinK {o e : Expr} {to te : TE} {apos pos : Pos} (hK : X.K = K) (ho : PE X o to) (he : PE X e te) (hs : starEach [e] X.env = [(false, eval e X.env)] := by rfl) (hbase : attributeBase o "join" X.env (eval o X.env) = eval o X.env := by rfl) (hline : (apos.endLine == pos.line) = true := by rfl) :
    PE X (.Call (.Attribute o "join" apos) [e] [] pos) (tM1 (rJoin K) to te) := hK ▸ pe_join ho he hs hbase hline
end
theorem u65 {k : Nat} {A : Around} (r : Room k A) : A.units + 65 < cLine := by have := r.un; omega
theorem u50 {k : Nat} {A : Around} (r : Room k A) : A.units + 50 < cLine := by have := r.un; omega
end Wl
set_option Elab.async false
set_option linter.all false
set_option maxRecDepth 100000
set_option maxHeartbeats 4000000
/-! what each def promises -/
namespace Wl
open PySem PySem.Spec PyProof.Rows L2
abbrev kindsL : List Str := ["seeker", "knob", "bell", "door"]
structure DevOk (d : Dev) : Prop where
  kind : d.kind ∈ kindsL
  lo : 1 ≤ d.addr
  hi : d.addr ≤ 99
def PlOk : Pl → Prop
  | .op => True
  | .dev d sp => DevOk d ∧ sp.length ≤ 3 ∧ ∀ e ∈ sp, DevOk e
def LoopOk (l : List Pl) : Prop := 1 ≤ l.length ∧ l.length ≤ 12 ∧ ∀ x ∈ l, PlOk x
def NameOk (n : Str) : Prop := 1 ≤ n.length ∧ n.length ≤ 8 ∧ ∀ c ∈ n.cps.toList, c ∈ ("abcdefghijklmnopqrstuvwxyz" : Str).cps.toList
def Rises (ns : List Int) : Prop := ∀ i (x y : Int), ns[i]? = some x → ns[i + 1]? = some y → x < y
structure ZoneOk (z : Str × List Int) : Prop where
  name : NameOk z.1
  few : z.2.length ≤ 30
  some_ : 0 < z.2.length
  in_ : ∀ n ∈ z.2, 1 ≤ n ∧ n ≤ 99
  rise : Rises z.2
def C_is_whole : CU := fun us M q => ∃ i lo hi, us = [.int i, .int lo, .int hi] ∧ lo ≤ i ∧ i ≤ hi ∧ q (.bl true) M
def C_is_device : CU := fun us M q => ∃ d, us = [eDev d] ∧ DevOk d ∧ q (.bl true) M
def C_is_place : CU := fun us M q => ∃ x, us = [ePl x] ∧ PlOk x ∧ q (.bl true) M
def C_is_loop : CU := fun us M q => ∃ l, us = [eLoop l] ∧ LoopOk l ∧ q (.bl true) M
def C_is_name : CU := fun us M q => ∃ n, us = [.str n] ∧ NameOk n ∧ q (.bl true) M
def C_rises : CU := fun us M q => ∃ ns : List Int, us = [.tup (ns.map U.int)] ∧ ns.length ≤ 1000 ∧ Rises ns ∧ q (.bl true) M
def C_are_rising : CU := fun us M q => ∃ (ns : List Int) (m lo hi : Int), us = [.tup (ns.map U.int), .int m, .int lo, .int hi] ∧ (ns.length : Int) ≤ m ∧ ns.length ≤ 1000 ∧ Rises ns ∧ (∀ n ∈ ns, lo ≤ n ∧ n ≤ hi) ∧ q (.bl true) M
def C_is_zone : CU := fun us M q => ∃ z, us = [eZone z] ∧ ZoneOk z ∧ q (.bl true) M
end Wl
set_option Elab.async false
set_option linter.all false
set_option maxRecDepth 100000
set_option maxHeartbeats 4000000
/-! loops and blocks with a frame -/
namespace Wl
open PySem PySem.Spec PyProof.Rows L2
theorem RLe.nil : RLe [] [] := ⟨rfl, fun _ _ h => h⟩
theorem RLe.keep {x : Option U} {ρ' ρ : Rho} (h : RLe ρ' ρ) : RLe (x :: ρ') (x :: ρ) := ⟨by simp [h.1], fun i u e => by
  cases i with
  | zero => simpa using e
  | succ i =>
    simp only [List.getElem?_cons_succ] at e ⊢
    exact h.2 i u e⟩
theorem RLe.hole {x : Option U} {ρ' ρ : Rho} (h : RLe ρ' ρ) : RLe (none :: ρ') (x :: ρ) := ⟨by simp [h.1], fun i u e => by
  cases i with
  | zero => simp at e
  | succ i =>
    simp only [List.getElem?_cons_succ] at e ⊢
    exact h.2 i u e⟩
theorem RLe.trans {a b c : Rho} (h : RLe a b) (g : RLe b c) : RLe a c := ⟨h.1.trans g.1, fun i u e => g.2 i u (h.2 i u e)⟩
section
variable {K : PySem.W.Frag} {M : Mem} {ρ : Rho}
theorem ws_forF {α : Type} {wi : TI} {g : TG} {tb : TS} {D : AE} (ρ0 : Rho) (Mf : List α → Nat → Mem) (hr : RLe ρ0 ρ) (h : WI K wi M ρ fun A M1 => ∃ (xs : List α) (enc : α → U), A.items = xs.map enc ∧ Sub (Mf xs 0) M1 ∧ (∀ i M, Sub (Mf xs i) M → A.stay M) ∧
      (∀ i x, xs[i]? = some x → WG K none g (enc x) (Mf xs i) ρ0 fun M2 ρ2 => WS K tb M2 ρ2 { D with nx := fun M' ρ' => Sub (Mf xs (i + 1)) M' ∧ RLe ρ0 ρ', ct := fun M' ρ' => Sub (Mf xs (i + 1)) M' ∧ RLe ρ0 ρ', bk := D.nx }) ∧
      (∀ M ρ, Sub (Mf xs xs.length) M → RLe ρ0 ρ → D.nx M ρ)) : WS K (tFor wi g tb) M ρ D :=
  ws_forX (α := α) fun σ H m s R c => h σ H m s R fun A M1 J H1 ⟨xs, enc, e, s0, st, turn, fin⟩ t1 m1 ok =>
    c A M1 J H1 ⟨xs, enc, e, fun i M ρ => Sub (Mf xs i) M ∧ RLe ρ0 ρ, ⟨s0, hr⟩, fun i M ρ q => st i M q.1, fun i x M ρ hx q v σ H m s => turn i x hx v σ H (m.sub q.1) (s.le q.2), fun M ρ q => fin M ρ q.1 q.2⟩ t1 m1 ok
theorem ws_forE {α : Type} {ta : TA} {g : TG} {tb : TS} {D : AE} (ρ0 : Rho) (Mf : List α → Nat → Mem) (hr : RLe ρ0 ρ) (h : WA K ta M ρ fun us M1 => ∃ (xs : List α) (enc : α → U), us = [.tup (xs.map enc)] ∧ Sub (Mf xs 0) M1 ∧
      (∀ i x, xs[i]? = some x → WG K none g (.tup [.int (i : Nat), enc x]) (Mf xs i) ρ0 fun M2 ρ2 => WS K tb M2 ρ2 { D with nx := fun M' ρ' => Sub (Mf xs (i + 1)) M' ∧ RLe ρ0 ρ', ct := fun M' ρ' => Sub (Mf xs (i + 1)) M' ∧ RLe ρ0 ρ', bk := D.nx }) ∧
      (∀ M ρ, Sub (Mf xs xs.length) M → RLe ρ0 ρ → D.nx M ρ)) : WS K (tFor (iEnumT K ta) g tb) M ρ D :=
  ws_forF (α := α × Nat) ρ0 (fun zs => Mf (zs.map (·.1))) hr (wi_enumT fun σ H m s R c => h σ H m s R fun us M1 vs H1 ⟨xs, enc, e, s0, turn, fin⟩ t1 m1 ok => by
    have z : xs.zipIdx.map (·.1) = xs := by simp
    refine c us M1 vs H1 ⟨_, e, xs.zipIdx, _, pairs_map _ _, ?_, fun _ _ _ => trivial, fun i x hx => ?_, fun M ρ h1 h2 => ?_⟩ t1 m1 ok
    · rw [z]; exact s0
    · rw [z]
      rw [List.getElem?_zipIdx] at hx
      cases q : xs[i]? with
      | none => rw [q] at hx; cases hx
      | some y =>
        rw [q] at hx
        cases hx
        rw [Nat.zero_add]
        exact turn i y q
    · rw [z, List.length_zipIdx] at h1
      exact fin M ρ h1 h2)
theorem w_allT {wi : TI} {g : TG} {te : TE} {vs : List Nat} {k : U → Mem → Prop} {α : Type} (h : WI K wi M ρ fun A M1 => ∃ (xs : List α) (enc : α → U), A.items = xs.map enc ∧ xs.length ≤ 100000 ∧ (∀ D acc, A.stay ((D, MO.l acc) :: M1)) ∧
      (∀ D acc x, x ∈ xs → WG K (some vs) g (enc x) ((D, MO.l acc) :: M1) (wipeR ρ vs) fun M2 ρ2 => Sub ((D, MO.l acc) :: M1) M2 ∧ W K te M2 ρ2 fun y M4 => y = .bl true ∧ Sub ((D, MO.l acc) :: M1) M4) ∧
      k (.bl true) M1) : W K (tCB (rAll K) (tCons (tLc wi g tYes te vs) tNil)) M ρ k := by
  refine W.less (w_cb (wa_cons (w_lcm (α := α) fun σ H m s R c => h σ H m s R fun A M1 J H1 ⟨xs, enc, e, hl, st, turn, fin⟩ t1 m1 ok => c A M1 J H1 ⟨xs, enc, fun _ => .bl true, e, hl, st, turn, fun D => wa_nil ?_⟩ t1 m1 ok)))
  refine rc_allT (List.mem_cons_self ..) (fun u hu => ?_) ⟨M1, .skip (Sub.refl _), fin⟩
  obtain ⟨_, _, rfl⟩ := List.mem_map.mp hu
  rfl
theorem w_anyB {wi : TI} {g : TG} {te : TE} {vs : List Nat} {k : U → Mem → Prop} {α : Type} (h : WI K wi M ρ fun A M1 => ∃ (xs : List α) (enc : α → U) (b : α → Bool), A.items = xs.map enc ∧ xs.length ≤ 100000 ∧ (∀ D acc, A.stay ((D, MO.l acc) :: M1)) ∧
      (∀ D acc x, x ∈ xs → WG K (some vs) g (enc x) ((D, MO.l acc) :: M1) (wipeR ρ vs) fun M2 ρ2 => Sub ((D, MO.l acc) :: M1) M2 ∧ W K te M2 ρ2 fun y M4 => y = .bl (b x) ∧ Sub ((D, MO.l acc) :: M1) M4) ∧
      k (.bl (xs.any b)) M1) : W K (tCB (rAny K) (tCons (tLc wi g tYes te vs) tNil)) M ρ k := by
  refine W.less (w_cb (wa_cons (w_lcm (α := α) fun σ H m s R c => h σ H m s R fun A M1 J H1 ⟨xs, enc, b, e, hl, st, turn, fin⟩ t1 m1 ok => c A M1 J H1 ⟨xs, enc, fun x => .bl (b x), e, hl, st, turn, fun D => wa_nil ?_⟩ t1 m1 ok)))
  have z : (xs.map fun x => U.bl (b x)) = (xs.map b).map U.bl := by rw [List.map_map]; rfl
  rw [z]
  refine rc_any (List.mem_cons_self ..) ⟨M1, .skip (Sub.refl _), ?_⟩
  rw [List.any_map]
  exact fin
/-- the next statement in a smaller world -/
theorem WS.fr {ts : TS} {M' : Mem} {ρ' : Rho} {D : AE} (s : Sub M' M) (l : RLe ρ' ρ) (h : WS K ts M' ρ' D) : WS K ts M ρ D := (h.le l).sub s
end
end Wl
namespace Wl
open PySem PySem.Spec PyProof.Rows L2
section
variable {K : PySem.W.Frag} {M : Mem} {ρ : Rho}
theorem ws_forG {α : Type} {wi : TI} {g : TG} {tb : TS} {D : AE} (h : WI K wi M ρ fun A M1 => ∃ (xs : List α) (enc : α → U), A.items = xs.map enc ∧ ∃ (ρ0 : Rho) (Mf : Nat → Mem), RLe ρ0 ρ ∧ Sub (Mf 0) M1 ∧ (∀ i M, Sub (Mf i) M → A.stay M) ∧
      (∀ i x, xs[i]? = some x → WG K none g (enc x) (Mf i) ρ0 fun M2 ρ2 => WS K tb M2 ρ2 { D with nx := fun M' ρ' => Sub (Mf (i + 1)) M' ∧ RLe ρ0 ρ', ct := fun M' ρ' => Sub (Mf (i + 1)) M' ∧ RLe ρ0 ρ', bk := D.nx }) ∧
      (∀ M ρ, Sub (Mf xs.length) M → RLe ρ0 ρ → D.nx M ρ)) : WS K (tFor wi g tb) M ρ D :=
  ws_forX (α := α) fun σ H m s R c => h σ H m s R fun A M1 J H1 ⟨xs, enc, e, ρ0, Mf, hr, s0, st, turn, fin⟩ t1 m1 ok =>
    c A M1 J H1 ⟨xs, enc, e, fun i M ρ => Sub (Mf i) M ∧ RLe ρ0 ρ, ⟨s0, hr⟩, fun i M ρ q => st i M q.1, fun i x M ρ hx q v σ H m s => turn i x hx v σ H (m.sub q.1) (s.le q.2), fun M ρ q => fin M ρ q.1 q.2⟩ t1 m1 ok
end
theorem Put.app {p : Addr} {o o' : MO} {M M' : Mem} (h : Put p o o' M M') : ∀ A : Mem, Put p o o' (A ++ M) (A ++ M')
  | [] => h
  | _ :: A => .there (Put.app h A)
theorem Sub.app {M M' : Mem} (h : Sub M M') : ∀ A : Mem, Sub (A ++ M) (A ++ M')
  | [] => h
  | _ :: A => .keep (Sub.app h A)
theorem Sub.skips {M : Mem} : ∀ A : Mem, Sub M (A ++ M)
  | [] => Sub.refl _
  | _ :: A => .skip (Sub.skips A)
theorem atI_last {α : Type} (xs : List α) (x : α) : atI (xs ++ [x]) (-1) = some x := by
  unfold atI ixN
  rw [List.length_append, List.length_singleton, if_neg (by omega), if_pos (by omega), Option.bind_some, show ((-1 : Int) + ((xs.length + 1 : Nat) : Int)).toNat = xs.length from by omega, List.getElem?_append_right (Nat.le_refl _), Nat.sub_self]
  rfl
theorem look_no {κ α : Type} [DecidableEq κ] {kvs : List (κ × α)} {k : κ} (h : ∀ kv ∈ kvs, kv.1 ≠ k) : look kvs k = none := by
  unfold look
  rw [List.find?_eq_none.mpr (fun kv hkv => by simpa using h kv hkv)]
  rfl
theorem nodup_take {α β : Type} {f : α → β} {xs : List α} {i : Nat} {x : α} (h : (xs.map f).Nodup) (e : xs[i]? = some x) : ∀ y ∈ xs.take i, f y ≠ f x := fun y hy q => by
  have e2 : xs = xs.take i ++ x :: xs.drop (i + 1) := by
    obtain ⟨hi, e⟩ := List.getElem?_eq_some_iff.mp e
    rw [← e, List.getElem_cons_drop, List.take_append_drop]
  rw [e2, List.map_append, List.map_cons, List.nodup_append] at h
  exact h.2.2 _ (List.mem_map_of_mem hy) _ (List.mem_cons_self ..) q
end Wl
namespace Wl
open PySem PySem.Spec PyProof.Rows L2
theorem WG.fr {K : PySem.W.Frag} {M M' : Mem} {ρ ρ' : Rho} {o : Option (List Nat)} {g : TG} {u : U} {k : Mem → Rho → Prop} (s : Sub M' M) (l : RLe ρ' ρ) (h : WG K o g u M' ρ' k) : WG K o g u M ρ k := fun v σ H m sl => h v σ H (m.sub s) (sl.le l)
end Wl
set_option Elab.async false
set_option linter.all false
set_option maxRecDepth 100000
set_option maxHeartbeats 4000000
/-! the reach, the hearing, the sets: plain Lean -/
namespace Wl
open PySem PySem.Spec PyProof.Rows L2
abbrev Fl := Spot × Str
def eFl (f : Fl) : U := .tup [eSp f.1, .str f.2]
def eFs (F : List Fl) : U := .tf (F.map eFl)
def hkv (F : List Fl) : List (List Int × U) := F.map fun f => (kSp f.1, .str f.2)
def gkv (G : List Gate) : List (List Int × U) := G.map fun g => (kGt g, .bl true)
def skv (S : List Spot) : List (List Int × U) := S.map fun g => (kSp g, .bl true)
def isHow (F : List Fl) (h : Str) (s : Spot) : Bool := decide (look F s = some h)
def spurLen (l : List Pl) (c : Nat) : Nat := match l[c - 1]? with
  | some x => x.spur.length
  | none => 0
def nxt (up : Bool) (c : Nat) : Nat := if up then c + 1 else c - 1
def edg (up : Bool) (c : Nat) : Nat := if up then c else c - 1
section
variable (F : List Fl) (G : List Gate) (i : Nat) (l : List Pl)
def waysOf (c : Nat) : List Spot := ((List.range (spurLen l c)).map fun w => ((i, c, w + 1) : Spot)).takeWhile fun s => !isHow F "cut" s
def visit (up : Bool) : Nat → Nat → List Spot × List Spot
  | 0, _ => ([], [])
  | n + 1, c => if isHow F "cut" (i, edg up c, 0) then ([], []) else
    if nxt up c < 1 ∨ l.length < nxt up c then ([(i, edg up c, 0)], []) else
    let r := if (i, nxt up c) ∈ G then ([], []) else visit up n (nxt up c)
    ((i, edg up c, 0) :: waysOf F i l (nxt up c) ++ r.1, (i, nxt up c, 0) :: waysOf F i l (nxt up c) ++ r.2)
def walkM (up : Bool) (c : Nat) : List Spot × List Spot := visit F G i l up (if up then l.length + 1 - c else c) c
def feelsM (c : Nat) : Bool := (walkM F G i l true c).1.any (isHow F "short") || (walkM F G i l false c).1.any (isHow F "short")
def endOf (up : Bool) : Nat := if up then 0 else l.length + 1
def heardM (up : Bool) : List Spot := if (i, endOf l up) ∈ G then [] else if (walkM F G i l up (endOf l up)).1.any (isHow F "short") then [] else (walkM F G i l up (endOf l up)).2
def stopsM : List Gate := (loopGates i l).filter fun g => feelsM F (loopGates i l) i l g.2
def heardP (D : List Spot) (up : Bool) : List U := (((heardM F (stopsM F i l) i l up).filter fun s => decide (s ∈ D)).map eSp).mergeSort leU
def heardU (D : List Spot) : U := .tup [.tup (heardP F i l D true), .tup (heardP F i l D false)]
end
def devL (i : Nat) (l : List Pl) : List Spot := (loopRows i l).map (·.1)
def stepsM (l : List Pl) (c : Nat) : List Int := if c = 0 then [1] else if l.length < c then [-1] else [-1, 1]
def singlesOf (i : Nat) (l : List Pl) : List Fl := (loopStr i l).flatMap fun s => [(s, "cut"), (s, "short")]
def setsOf (S : List Fl) (m : Int) : List (List Fl) := [[]] ++ (if 0 < m then S.map fun s => [s] else []) ++ (if 1 < m then S.zipIdx.flatMap fun x => ((S.drop (x.2 + 1)).filter fun o => !decide (o.1 = x.1.1)).map fun o => [x.1, o] else [])
def stepL (s : List Nat × Nat) (x : Pl) : List Nat × Nat := match x with
  | .op => (s.1 ++ [s.2], 0)
  | .dev _ sp => (s.1, s.2 + 1 + sp.length)
def lensOf (l : List Pl) : List Nat := (l.foldl stepL ([], 0)).1 ++ [(l.foldl stepL ([], 0)).2]
def knownOf (p : Plan) : List Int := ((devicesOf p).filter fun r => decide (r.2.kind ∈ (["seeker", "knob"] : List Str))).map (·.2.addr)
structure PlanOk (p : Plan) : Prop where
  m1 : 1 ≤ p.most
  m2 : p.most ≤ 30
  l1 : 1 ≤ p.loops.length
  l2 : p.loops.length ≤ 3
  lo : ∀ l ∈ p.loops, LoopOk l
  z8 : p.zones.length ≤ 8
  zo : ∀ z ∈ p.zones, ZoneOk z
  zn : (p.zones.map (·.1)).Nodup
  d1 : 1 ≤ (devicesOf p).length
  d2 : (devicesOf p).length ≤ 30
  ad : ((devicesOf p).map (·.2.addr)).Nodup
  pt : ∀ l ∈ p.loops, ∀ n ∈ lensOf l, (n : Int) ≤ p.most
  kn : ∀ z ∈ p.zones, ∀ a ∈ z.2, a ∈ knownOf p
  dj : p.zones.Pairwise fun a b => ∀ x ∈ a.2, x ∉ b.2
theorem kind_no {d : Dev} (h : DevOk d) : d.kind ≠ "opener" := fun e => by
  have k := h.kind
  rw [e] at k
  revert k
  decide +kernel
theorem PlOk.shp {x : Pl} (h : PlOk x) : PlShp x := by
  cases x with
  | op => trivial
  | dev d sp => exact ⟨kind_no h.1, h.2.1⟩
theorem PlanOk.shp {p : Plan} (h : PlanOk p) : Shp p := ⟨h.l2, fun l hl => (h.lo l hl).2.1, fun l hl x hx => ((h.lo l hl).2.2 x hx).shp⟩
theorem Sub.l_eq {a : Addr} {us vs : List U} {M M' : Mem} (e : us = vs) (s : Sub M M') : Sub ((a, MO.l us) :: M) ((a, MO.l vs) :: M') := e ▸ .keep s
theorem rows_len {x : Pl} (i a : Nat) (h : PlShp x) : (x.rows i a).length ≤ 4 := by
  cases x with
  | op => simp [Pl.rows]
  | dev d sp =>
    simp only [Pl.rows, List.length_cons, List.length_map, List.length_zipIdx]
    have := h.2
    omega
theorem zip_mem1 {α : Type} {xs : List α} {x : α × Nat} (h : x ∈ xs.zipIdx) : x.1 ∈ xs := (zip_mem h).1
theorem take_flat {α β : Type} {g : α → List β} {k : Nat} {xs : List α} (h : ∀ x ∈ xs, (g x).length ≤ k) (n : Nat) : ((xs.take n).flatMap g).length ≤ xs.length * k := Nat.le_trans (flat_le n) (flat_bound h)
theorem loopRows_len {p : Plan} (h : Shp p) {l : List Pl} (hl : l ∈ p.loops) (i : Nat) : (loopRows i l).length ≤ 48 := by
  have b := flat_bound (xs := l.zipIdx) (g := fun x => x.1.rows i x.2) (k := 4) fun x hx => rows_len _ _ (h.pl l hl _ (zip_mem1 hx))
  have := h.places l hl
  rw [List.length_zipIdx] at b
  have e : (loopRows i l).length = (l.zipIdx.flatMap fun x => x.1.rows i x.2).length := rfl
  omega
theorem devs_take {p : Plan} (h : Shp p) (n : Nat) : ((p.loops.zipIdx.take n).flatMap fun x => loopRows x.2 x.1).length ≤ 144 := by
  have b := take_flat (xs := p.loops.zipIdx) (g := fun x => loopRows x.2 x.1) (k := 48) (fun x hx => loopRows_len h (zip_mem1 hx) _) n
  have := h.loops
  rw [List.length_zipIdx] at b
  omega
theorem zip_get {α : Type} {xs : List α} {i : Nat} {x : α} (h : xs[i]? = some x) : xs.zipIdx[i]? = some (x, i) := by
  rw [List.getElem?_zipIdx, h]
  simp
theorem plStr_len {x : Pl} (i a : Nat) (h : PlShp x) : (plStr i a x).length ≤ 4 := by
  unfold plStr
  rw [List.length_map, List.length_range]
  cases x with
  | op => simp [Pl.spur]
  | dev d sp => have := h.2; simpa [Pl.spur] using this
theorem loopStr_len {p : Plan} (h : Shp p) {l : List Pl} (hl : l ∈ p.loops) (i : Nat) : (loopStr i l).length ≤ 49 := by
  have b := flat_bound (xs := l.zipIdx) (g := fun x => plStr i x.2 x.1) (k := 4) fun x hx => plStr_len _ _ (h.pl l hl _ (zip_mem1 hx))
  have := h.places l hl
  rw [List.length_zipIdx] at b
  have e : (loopStr i l).length = (l.zipIdx.flatMap fun x => plStr i x.2 x.1).length + 1 := rfl
  omega
theorem strs_take {p : Plan} (h : Shp p) (n : Nat) : ((p.loops.zipIdx.take n).flatMap fun x => loopStr x.2 x.1).length ≤ 147 := by
  have b := take_flat (xs := p.loops.zipIdx) (g := fun x => loopStr x.2 x.1) (k := 49) (fun x hx => loopStr_len h (zip_mem1 hx) _) n
  have := h.loops
  rw [List.length_zipIdx] at b
  omega
theorem loopGates_len (i : Nat) (l : List Pl) : (loopGates i l).length ≤ l.length + 2 := by
  unfold loopGates
  have := List.length_filter_le (fun x : Pl × Nat => x.1.isOp) l.zipIdx
  rw [List.length_zipIdx] at this
  simp only [List.length_append, List.length_cons, List.length_map, List.length_nil]
  omega
theorem gates_take {p : Plan} (h : Shp p) (n : Nat) : ((p.loops.zipIdx.take n).flatMap fun x => loopGates x.2 x.1).length ≤ 42 := by
  have b := take_flat (xs := p.loops.zipIdx) (g := fun x => loopGates x.2 x.1) (k := 14) (fun x hx => by
    have := loopGates_len x.2 x.1
    have := h.places _ (zip_mem1 hx)
    omega) n
  have := h.loops
  rw [List.length_zipIdx] at b
  omega
/-! ### promises -/
def C_are_zones : CU := fun us M q => ∃ zs : List (Str × List Int), us = [.tup (zs.map eZone)] ∧ zs.length ≤ 8 ∧ (∀ z ∈ zs, ZoneOk z) ∧ (zs.map (·.1)).Nodup ∧ q (.bl true) M
def C_is_plan : CU := fun us M q => ∃ p, us = [ePlan p] ∧ PlanOk p ∧ q (.bl true) M
def C_is_let_by : CU := C_is_plan
def C_need_plan : CU := fun us M q => ∃ p, us = [ePlan p] ∧ PlanOk p ∧ q .non M
def C_devices : CU := fun us M q => ∃ p, us = [ePlan p] ∧ Shp p ∧ ∀ a, q (.ptr a) ((a, .l ((devicesOf p).map eRow)) :: M)
def C_stretches : CU := fun us M q => ∃ p, us = [ePlan p] ∧ Shp p ∧ ∀ a, q (.ptr a) ((a, .l ((stretchesOf p).map eSp)) :: M)
def C_openers : CU := fun us M q => ∃ p, us = [ePlan p] ∧ Shp p ∧ ∀ a, q (.ptr a) ((a, .l ((openersOf p).map eGt)) :: M)
def bMem (bs : List (Addr × List U)) : Mem := bs.map fun b => (b.1, MO.l b.2)
def C_parts : CU := fun us M q => ∃ p i l, us = [ePlan p, .int (i : Nat)] ∧ Shp p ∧ p.loops[i]? = some l ∧ ∀ a (bs : List (Addr × List U)), bs.map (·.2.length) = lensOf l → q (.ptr a) (bMem bs.reverse ++ (a, .l (bs.map fun b => .ptr b.1)) :: M)
def C_told_twice : CU := C_need_plan
def C_crowded : CU := C_need_plan
def C_zone_at_odds : CU := C_need_plan
def C_wrong : CU := C_need_plan
def C_spur_come_to : CU := fun us M q => ∃ p F h i l c, us = [ePlan p, .ptr h, .int (i : Nat), .int (c : Nat)] ∧ Shp p ∧ p.loops[i]? = some l ∧ 1 ≤ c ∧ c ≤ l.length ∧ (h, MO.dt (hkv F)) ∈ M ∧ ∀ a b, q (.tup [.ptr a, .ptr b]) ((a, .l ((waysOf F i l c).map eSp)) :: (b, .l (((i, c, 0) :: waysOf F i l c).map eSp)) :: M)
def C_come_to : CU := fun us M q => ∃ p F G h s i l c up, us = [ePlan p, .ptr h, .ptr s, .int (i : Nat), .int (c : Nat), .int (if up = true then 1 else -1)] ∧ Shp p ∧ p.loops[i]? = some l ∧ (up = true → c ≤ l.length) ∧ (up = false → 1 ≤ c ∧ c ≤ l.length + 1) ∧
  (h, MO.dt (hkv F)) ∈ M ∧ (s, MO.dt (gkv G)) ∈ M ∧ ∀ a b, q (.tup [.ptr a, .ptr b]) ((a, .l ((walkM F G i l up c).1.map eSp)) :: (b, .l ((walkM F G i l up c).2.map eSp)) :: M)
def C_steps_of : CU := fun us M q => ∃ p i l c, us = [ePlan p, eGt (i, c)] ∧ Shp p ∧ p.loops[i]? = some l ∧ c ≤ l.length + 1 ∧ ∀ a, q (.ptr a) ((a, .l ((stepsM l c).map U.int)) :: M)
def C_feels : CU := fun us M q => ∃ p F G h s i l c, us = [ePlan p, .ptr h, .ptr s, eGt (i, c)] ∧ Shp p ∧ p.loops[i]? = some l ∧ c ≤ l.length + 1 ∧ (h, MO.dt (hkv F)) ∈ M ∧ (s, MO.dt (gkv G)) ∈ M ∧ q (.bl (feelsM F G i l c)) M
def C_heard_by : CU := fun us M q => ∃ p F G h s i l up, us = [ePlan p, .ptr h, .ptr s, .int (i : Nat), .str (if up = true then "A" else "B")] ∧ Shp p ∧ p.loops[i]? = some l ∧ (h, MO.dt (hkv F)) ∈ M ∧ (s, MO.dt (gkv G)) ∈ M ∧ ∀ a, q (.ptr a) ((a, .l ((heardM F G i l up).map eSp)) :: M)
def C_heard_so : CU := fun us M q => ∃ p F i l a g, us = [ePlan p, .ptr a, .ptr g, eFs F] ∧ Shp p ∧ p.loops[i]? = some l ∧ (F.map (·.1)).Nodup ∧ F.length ≤ 1000 ∧ (a, MO.dt (skv (devL i l))) ∈ M ∧ (g, MO.l ((loopGates i l).map eGt)) ∈ M ∧ q (heardU F i l (devL i l)) M
def C_of_loop : CU := fun us M q => ∃ p i l, us = [ePlan p, .int (i : Nat)] ∧ Shp p ∧ p.loops[i]? = some l ∧ ∀ a g, q (.tup [.ptr a, .ptr g]) ((g, .l ((loopGates i l).map eGt)) :: (a, .dt (skv (devL i l))) :: M)
def C_single_faults : CU := fun us M q => ∃ p i l, us = [ePlan p, .int (i : Nat)] ∧ Shp p ∧ p.loops[i]? = some l ∧ ∀ a, q (.ptr a) ((a, .l ((singlesOf i l).map eFl)) :: M)
def C_fault_sets : CU := fun us M q => ∃ p i l m, us = [ePlan p, .int (i : Nat), .int m] ∧ Shp p ∧ p.loops[i]? = some l ∧ ∀ a, q (.ptr a) ((a, .l ((setsOf (singlesOf i l) m).map eFs)) :: M)
open Classical in
noncomputable def agB (i : Nat) (l : List Pl) (fa fb : U) (F : List Fl) : Bool := decide (toPy (heardU F i l (devL i l)) = toPy (.tup [fa, fb]))
def C_agreeing : CU := fun us M q => ∃ p i l fa fb m n, us = [ePlan p, .int (i : Nat), fa, fb, .int m] ∧ PlanOk p ∧ p.loops[i]? = some l ∧ pln n (.tup [fa, fb]) = true ∧ n ≤ 60 ∧ ∀ a, q (.ptr a) ((a, .l (((setsOf (singlesOf i l) m).filter (agB i l fa fb)).map eFs)) :: M)
end Wl
set_option Elab.async false
set_option linter.all false
set_option maxRecDepth 100000
set_option maxHeartbeats 4000000
/-! facts of the reach -/
namespace Wl
open PySem PySem.Spec PyProof.Rows L2
theorem WT.fr {K : PySem.W.Frag} {M M' : Mem} {ρ ρ' : Rho} {t : TT} {k : Bool → Mem → Prop} (s : Sub M' M) (l : RLe ρ' ρ) (h : WT K t M' ρ' k) : WT K t M ρ k := fun σ H m sl => h σ H (m.sub s) (sl.le l)
theorem look_map {κ κ' α β : Type} [DecidableEq κ] [DecidableEq κ'] {f : κ → κ'} (hf : ∀ x y, f x = f y → x = y) (g : α → β) (k : κ) : ∀ xs : List (κ × α), look (xs.map fun x => (f x.1, g x.2)) (f k) = (look xs k).map g
  | [] => rfl
  | x :: xs => by
    have ih := look_map hf g k xs
    unfold look at ih ⊢
    rw [List.map_cons, List.find?_cons, List.find?_cons]
    by_cases e : x.1 = k
    · simp [e]
    · have e2 : f x.1 ≠ f k := fun z => e (hf _ _ z)
      simp only [e, e2, decide_false]
      exact ih
theorem look_hkv (F : List Fl) (s : Spot) : look (hkv F) (kSp s) = (look F s).map U.str := look_map (fun _ _ => kSp_inj) U.str s F
theorem getD_str (o : Option Str) (d : Str) : (o.map U.str).getD (.str d) = .str (o.getD d) := by cases o <;> rfl
theorem howD {F : List Fl} {s : Spot} {d h : Str} (hd : d ≠ h) : decide ((look F s).getD d = h) = isHow F h s := by
  unfold isHow
  cases look F s with
  | none => simp [hd]
  | some x => simp
theorem how_cut (F : List Fl) (s : Spot) : decide ((look F s).getD "" = "cut") = isHow F "cut" s := howD (by decide +kernel)
theorem how_short (F : List Fl) (s : Spot) : decide ((look F s).getD "" = "short") = isHow F "short" s := howD (by decide +kernel)
theorem how_cutW (F : List Fl) (s : Spot) : decide ((look F s).getD "whole" = "cut") = isHow F "cut" s := howD (by decide +kernel)
theorem how_shortW (F : List Fl) (s : Spot) : decide ((look F s).getD "whole" = "short") = isHow F "short" s := howD (by decide +kernel)
theorem look_keys {κ α : Type} [DecidableEq κ] {xs : List (κ × α)} {k : κ} : (look xs k).isSome = decide (k ∈ xs.map (·.1)) := by
  unfold look
  rw [Option.isSome_map]
  by_cases h : k ∈ xs.map (·.1)
  · rw [decide_eq_true h]
    obtain ⟨x, hx, rfl⟩ := List.mem_map.mp h
    exact List.find?_isSome.mpr ⟨x, hx, by simp⟩
  · rw [decide_eq_false h]
    cases q : List.find? (fun kv => decide (kv.1 = k)) xs with
    | none => rfl
    | some y =>
      have h1 := List.find?_some q
      have h2 := List.mem_of_find?_eq_some q
      exact absurd (List.mem_map.mpr ⟨y, h2, by simpa using h1⟩) h
theorem look_gkv (G : List Gate) (g : Gate) : (look (gkv G) (kGt g)).isSome = decide (g ∈ G) := by
  rw [look_keys]
  unfold gkv
  rw [List.map_map]
  refine decide_eq_decide.mpr ⟨fun h => ?_, fun h => List.mem_map.mpr ⟨g, h, rfl⟩⟩
  obtain ⟨x, hx, e⟩ := List.mem_map.mp h
  exact kGt_inj e ▸ hx
theorem look_skv (G : List Spot) (g : Spot) : (look (skv G) (kSp g)).isSome = decide (g ∈ G) := by
  rw [look_keys]
  unfold skv
  rw [List.map_map]
  refine decide_eq_decide.mpr ⟨fun h => ?_, fun h => List.mem_map.mpr ⟨g, h, rfl⟩⟩
  obtain ⟨x, hx, e⟩ := List.mem_map.mp h
  exact kSp_inj e ▸ hx
theorem tw_all {α : Type} {p : α → Bool} : ∀ {xs : List α}, (∀ y ∈ xs, p y = true) → xs.takeWhile p = xs
  | [], _ => rfl
  | x :: xs, h => by
    rw [List.takeWhile_cons, h x (List.mem_cons_self ..)]
    simp [tw_all (xs := xs) fun y hy => h y (List.mem_cons_of_mem _ hy)]
theorem tw_stop {α : Type} {p : α → Bool} : ∀ {xs : List α} {w : Nat} {x : α}, (∀ y ∈ xs.take w, p y = true) → xs[w]? = some x → p x = false → xs.takeWhile p = xs.take w
  | [], _, _, _, e, _ => by simp at e
  | y :: ys, 0, x, _, e, hx => by
    simp at e
    subst e
    simp [List.takeWhile_cons, hx]
  | y :: ys, w + 1, x, h, e, hx => by
    rw [List.takeWhile_cons, h y (by simp)]
    have := tw_stop (xs := ys) (w := w) (x := x) (fun z hz => h z (by simp [hz])) (by simpa using e) hx
    simp [this]
theorem spurLen_of {l : List Pl} {c : Nat} {x : Pl} (h : l[c - 1]? = some x) : spurLen l c = x.spur.length := by
  unfold spurLen
  rw [h]
theorem spur_le {p : Plan} (hp : Shp p) {i : Nat} {l : List Pl} (hl : p.loops[i]? = some l) (c : Nat) : spurLen l c ≤ 3 := by
  unfold spurLen
  cases h : l[c - 1]? with
  | none => exact Nat.zero_le _
  | some x =>
    have := hp.pl l (List.mem_of_getElem? hl) x (List.mem_of_getElem? h)
    cases x with
    | op => exact Nat.zero_le _
    | dev d sp => exact this.2
theorem ways_len (F : List Fl) (i : Nat) (l : List Pl) (c : Nat) : (waysOf F i l c).length ≤ spurLen l c := by
  unfold waysOf
  refine Nat.le_trans (List.takeWhile_sublist _).length_le ?_
  rw [List.length_map, List.length_range]
  exact Nat.le_refl _
theorem visit_len {p : Plan} (hp : Shp p) {i : Nat} {l : List Pl} (hl : p.loops[i]? = some l) (F : List Fl) (G : List Gate) (up : Bool) : ∀ n c, (visit F G i l up n c).1.length ≤ 4 * n ∧ (visit F G i l up n c).2.length ≤ 4 * n
  | 0, c => ⟨Nat.le_refl _, Nat.le_refl _⟩
  | n + 1, c => by
    have ih := visit_len hp hl F G up n (nxt up c)
    have hw := ways_len F i l (nxt up c)
    have hs := spur_le hp hl (nxt up c)
    unfold visit
    split
    · simp
    · split
      · simp
        omega
      · by_cases hg : (i, nxt up c) ∈ G
        · simp only [hg, if_true, List.length_append, List.length_cons, List.length_nil]
          omega
        · simp only [hg, if_false, List.length_append, List.length_cons]
          omega
theorem walk_len {p : Plan} (hp : Shp p) {i : Nat} {l : List Pl} (hl : p.loops[i]? = some l) (F : List Fl) (G : List Gate) (up : Bool) {c : Nat} (hc : c ≤ l.length + 1) : (walkM F G i l up c).1.length ≤ 60 ∧ (walkM F G i l up c).2.length ≤ 60 := by
  have h12 := hp.places l (List.mem_of_getElem? hl)
  have h := visit_len hp hl F G up (if up = true then l.length + 1 - c else c) c
  unfold walkM
  have : (if up = true then l.length + 1 - c else c) ≤ 13 := by split <;> omega
  omega
end Wl
namespace Wl
open PySem PySem.Spec PyProof.Rows L2
def upsM (l : List Pl) (c : Nat) : List Bool := if c = 0 then [true] else if l.length < c then [false] else [false, true]
theorem steps_ups (l : List Pl) (c : Nat) : stepsM l c = (upsM l c).map fun u => if u = true then 1 else -1 := by
  unfold stepsM upsM
  split
  · rfl
  · split
    · rfl
    · rfl
theorem feels_ups (F : List Fl) (G : List Gate) (i : Nat) (l : List Pl) {c : Nat} (hc : c ≤ l.length + 1) : feelsM F G i l c = (upsM l c).any fun u => (walkM F G i l u c).1.any (isHow F "short") := by
  unfold feelsM upsM
  split
  · rename_i h
    subst h
    have : walkM F G i l false 0 = ([], []) := rfl
    rw [this]
    simp
  · split
    · have e : c = l.length + 1 := by omega
      have : walkM F G i l true c = ([], []) := by
        unfold walkM
        rw [if_pos rfl, e, Nat.sub_self]
        rfl
      rw [this]
      simp
    · simp only [List.any_cons, List.any_nil, Bool.or_false]
      rw [Bool.or_comm]
theorem ups_ok {l : List Pl} {c : Nat} (hc : c ≤ l.length + 1) {u : Bool} (h : u ∈ upsM l c) : (u = true → c ≤ l.length) ∧ (u = false → 1 ≤ c ∧ c ≤ l.length + 1) := by
  unfold upsM at h
  split at h
  · rename_i h0
    simp at h
    subst h
    exact ⟨fun _ => by omega, fun z => by cases z⟩
  · split at h
    · simp at h
      subst h
      exact ⟨fun z => by (cases z), fun _ => by omega⟩
    · exact ⟨fun _ => by omega, fun _ => by omega⟩
theorem ws_cut {K : PySem.W.Frag} {M : Mem} {ρ : Rho} {t : TS} {D : AE} (M1 : Mem) (ρ1 : Rho) (h1 : WS K t M ρ { D with nx := fun M' ρ' => M' = M1 ∧ ρ' = ρ1 }) (h2 : D.nx M1 ρ1) : WS K t M ρ D :=
  WS.nx h1 (fun M' ρ' e => by
    obtain ⟨e1, e2⟩ := e
    subst e1 e2
    exact h2) (fun _ _ h => h) (fun _ _ h => h) (fun _ _ h => h)
end Wl
set_option Elab.async false
set_option linter.all false
set_option maxRecDepth 100000
set_option maxHeartbeats 4000000
/-! facts of the hearing -/
namespace Wl
open PySem PySem.Spec PyProof.Rows L2
theorem gates_mem {i : Nat} {l : List Pl} {g : Gate} (h : g ∈ loopGates i l) : g.1 = i ∧ g.2 ≤ l.length + 1 ∧ (g.2 = 0 ∨ g.2 = l.length + 1 ∨ ∃ x, l[g.2 - 1]? = some x ∧ x.isOp = true ∧ 1 ≤ g.2) := by
  unfold loopGates at h
  simp only [List.cons_append, List.mem_cons, List.mem_append, List.mem_map, List.mem_filter, List.mem_singleton, List.not_mem_nil, or_false] at h
  rcases h with h | ⟨x, ⟨hx, ho⟩, h⟩ | h
  · subst h
    exact ⟨rfl, Nat.zero_le _, Or.inl rfl⟩
  · subst h
    obtain ⟨h1, h2, h3⟩ := zip_mem hx
    exact ⟨rfl, by show x.2 + 1 ≤ _; omega, Or.inr (Or.inr ⟨x.1, h3, ho, by show 1 ≤ x.2 + 1; omega⟩)⟩
  · subst h
    exact ⟨rfl, Nat.le_refl _, Or.inr (Or.inl rfl)⟩
theorem gates_in {i : Nat} {l : List Pl} {c : Nat} (h1 : 1 ≤ c) (h2 : c ≤ l.length) : (i, c) ∈ loopGates i l ↔ ∃ x, l[c - 1]? = some x ∧ x.isOp = true := by
  constructor
  · intro h
    obtain ⟨_, _, h | h | ⟨x, h, ho, _⟩⟩ := gates_mem h
    · omega
    · have : c = l.length + 1 := h
      omega
    · exact ⟨x, h, ho⟩
  · intro ⟨x, hx, ho⟩
    unfold loopGates
    simp only [List.cons_append, List.mem_cons, List.mem_append, List.mem_map, List.mem_filter, List.mem_singleton]
    refine Or.inr (Or.inl ⟨(x, c - 1), ⟨List.mem_zipIdx_iff_getElem?.mpr hx, ho⟩, ?_⟩)
    show (i, c - 1 + 1) = (i, c)
    rw [Nat.sub_add_cancel h1]
theorem nodup_inj {α β : Type} {f : α → β} {xs : List α} (hf : ∀ a b, f a = f b → a = b) (h : xs.Nodup) : (xs.map f).Nodup := by
  unfold List.Nodup at h ⊢
  rw [List.pairwise_map]
  exact h.imp fun hab e => hab (hf _ _ e)
theorem zip_snd {α : Type} (xs : List α) : (xs.zipIdx.map (·.2)) = List.range xs.length := by
  rw [List.zipIdx_map_snd]
  exact List.range_eq_range'.symm
theorem gates_nodup (i : Nat) (l : List Pl) : (loopGates i l).Nodup := by
  unfold loopGates
  have h1 : ((l.zipIdx.filter fun x => x.1.isOp).map fun x => ((i, x.2 + 1) : Gate)).Nodup := by
    have h2 : (l.zipIdx.map fun x => ((i, x.2 + 1) : Gate)).Nodup := by
      have e : (l.zipIdx.map fun x => ((i, x.2 + 1) : Gate)) = (List.range l.length).map fun j => ((i, j + 1) : Gate) := by
        rw [← zip_snd, List.map_map]
        rfl
      rw [e]
      exact nodup_inj (fun a b h => by simpa using h) List.nodup_range
    exact h2.sublist (List.filter_sublist.map _)
  rw [List.cons_append, List.nodup_cons, List.nodup_append]
  refine ⟨fun h => ?_, h1, by simp, fun a ha b hb e => ?_⟩
  · rcases List.mem_append.mp h with h | h
    · obtain ⟨x, _, e⟩ := List.mem_map.mp h
      have := congrArg Prod.snd e
      simp at this
    · have := congrArg Prod.snd (List.mem_singleton.mp h)
      simp at this
  · obtain ⟨x, hx, rfl⟩ := List.mem_map.mp ha
    rw [List.mem_singleton.mp hb] at e
    have := congrArg Prod.snd e
    have h3 := (zip_mem (List.mem_filter.mp hx).1).2.1
    simp at this
    omega
theorem gkv_nodup {G : List Gate} (h : G.Nodup) : ((gkv G).map (·.1)).Nodup := by
  unfold gkv
  rw [List.map_map]
  exact nodup_inj (f := kGt) (fun a b => kGt_inj) h
theorem skv_nodup {G : List Spot} (h : G.Nodup) : ((skv G).map (·.1)).Nodup := by
  unfold skv
  rw [List.map_map]
  exact nodup_inj (f := kSp) (fun a b => kSp_inj) h
theorem hkv_nodup {F : List Fl} (h : (F.map (·.1)).Nodup) : ((hkv F).map (·.1)).Nodup := by
  unfold hkv
  rw [List.map_map, show ((fun x => x.1) ∘ fun f : Fl => (kSp f.1, U.str f.2)) = kSp ∘ (·.1) from rfl, ← List.map_map]
  exact nodup_inj (f := kSp) (fun a b => kSp_inj) h
theorem eFs_pair (F : List Fl) : eFs F = .tf ((hkv F).map pairU) := by
  unfold eFs hkv
  rw [List.map_map]
  rfl
theorem gkv_pair (G : List Gate) : (G.map fun g => U.tup [eGt g, .bl true]) = (gkv G).map pairU := by
  unfold gkv
  rw [List.map_map]
  rfl
theorem skv_pair (G : List Spot) : (G.map fun g => U.tup [eSp g, .bl true]) = (skv G).map pairU := by
  unfold skv
  rw [List.map_map]
  rfl
theorem pln_sp (s : Spot) : pln 1 (eSp s) = true := rfl
theorem plnA_sp (xs : List Spot) : plnA 1 (xs.map eSp) = true := by
  rw [plnA_all, List.all_eq_true]
  intro u hu
  obtain ⟨s, _, rfl⟩ := List.mem_map.mp hu
  rfl
theorem alike_sp (xs : List Spot) : PySem.W.AllAlike ((xs.map eSp).map toPy) := by
  rw [List.map_map]
  exact PySem.W.AllAlike.of fun a b => by
    simp only [Function.comp, eSp, toPy, toPyA, PySem.W.alike, PySem.W.alikeAll, Bool.and_self]
theorem sort_sp (xs : List Spot) : PySem.W.Sortable ((xs.map eSp).map toPy) := by
  rw [List.map_map]
  exact PySem.W.Sortable.tuples fun b => ⟨_, _, by simp only [Function.comp, eSp, toPy, toPyA]; rfl⟩
theorem heard_len {p : Plan} (hp : Shp p) {i : Nat} {l : List Pl} (hl : p.loops[i]? = some l) (F : List Fl) (G : List Gate) (up : Bool) : (heardM F G i l up).length ≤ 60 := by
  have hwl := walk_len hp hl F G up (c := endOf l up) (by unfold endOf; split <;> omega)
  unfold heardM
  split
  · simp
  · split
    · simp
    · exact hwl.2
/-! of one loop -/
theorem flat_one {α β : Type} {f : α → Nat → List β} {c : β → Nat} (hc : ∀ x j, ∀ b ∈ f x j, c b = j) {i : Nat} : ∀ {xs : List α} {n : Nat}, ((xs.zipIdx n).flatMap fun x => f x.1 x.2).filter (fun b => decide (c b = i)) = if h : n ≤ i ∧ i < n + xs.length then f (xs[i - n]'(by omega)) i else []
  | [], n => by
    rw [dif_neg (by simp only [List.length_nil]; omega)]
    rfl
  | x :: xs, n => by
    rw [List.zipIdx_cons, List.flatMap_cons, List.filter_append, flat_one hc (xs := xs) (n := n + 1)]
    by_cases e : n = i
    · subst e
      have h1 : (f x n).filter (fun b => decide (c b = n)) = f x n := List.filter_eq_self.mpr fun b hb => by simpa using hc x n b hb
      rw [h1, dif_neg (by omega), dif_pos (by simp), List.append_nil]
      simp
    · have h1 : (f x n).filter (fun b => decide (c b = i)) = [] := List.filter_eq_nil_iff.mpr fun b hb => by
        have := hc x n b hb
        simp only [decide_eq_true_eq]
        omega
      rw [h1, List.nil_append]
      by_cases h2 : n + 1 ≤ i ∧ i < n + 1 + xs.length
      · rw [dif_pos h2, dif_pos (by simp only [List.length_cons]; omega)]
        have e3 : i - n = (i - (n + 1)) + 1 := by omega
        simp only [e3, List.getElem_cons_succ]
      · rw [dif_neg h2, dif_neg (by simp only [List.length_cons]; omega)]
theorem rows_of {x : Pl} {i a : Nat} {r : Spot × Dev} (h : r ∈ x.rows i a) : r.1.1 = i := by
  cases x with
  | op => cases h
  | dev d sp =>
    rcases List.mem_cons.mp h with e | h
    · rw [e]
    · obtain ⟨y, _, rfl⟩ := List.mem_map.mp h
      rfl
theorem loopRows_of {l : List Pl} {i : Nat} {r : Spot × Dev} (h : r ∈ loopRows i l) : r.1.1 = i := by
  obtain ⟨x, _, hx⟩ := List.mem_flatMap.mp h
  exact rows_of hx
theorem devs_loop {p : Plan} {i : Nat} {l : List Pl} (hl : p.loops[i]? = some l) : (devicesOf p).filter (fun r => decide (r.1.1 = i)) = loopRows i l := by
  obtain ⟨h1, h2⟩ := List.getElem?_eq_some_iff.mp hl
  have := flat_one (f := fun l i => loopRows i l) (c := fun r : Spot × Dev => r.1.1) (fun x j b hb => loopRows_of hb) (i := i) (xs := p.loops) (n := 0)
  unfold devicesOf
  rw [this, dif_pos (by omega)]
  simp only [Nat.sub_zero, h2]
theorem gates_loop {p : Plan} {i : Nat} {l : List Pl} (hl : p.loops[i]? = some l) : (openersOf p).filter (fun g => decide (g.1 = i)) = loopGates i l := by
  obtain ⟨h1, h2⟩ := List.getElem?_eq_some_iff.mp hl
  have := flat_one (f := fun l i => loopGates i l) (c := fun r : Gate => r.1) (fun x j b hb => (gates_mem hb).1) (i := i) (xs := p.loops) (n := 0)
  unfold openersOf
  rw [this, dif_pos (by omega)]
  simp only [Nat.sub_zero, h2]
theorem loopStr_of {l : List Pl} {i : Nat} {r : Spot} (h : r ∈ loopStr i l) : r.1 = i := by
  rcases List.mem_cons.mp h with e | h
  · rw [e]
  · obtain ⟨x, _, hx⟩ := List.mem_flatMap.mp h
    obtain ⟨w, _, rfl⟩ := List.mem_map.mp hx
    rfl
theorem str_loop {p : Plan} {i : Nat} {l : List Pl} (hl : p.loops[i]? = some l) : (stretchesOf p).filter (fun g => decide (g.1 = i)) = loopStr i l := by
  obtain ⟨h1, h2⟩ := List.getElem?_eq_some_iff.mp hl
  have := flat_one (f := fun l i => loopStr i l) (c := fun r : Spot => r.1) (fun x j b hb => loopStr_of hb) (i := i) (xs := p.loops) (n := 0)
  unfold stretchesOf
  rw [this, dif_pos (by omega)]
  simp only [Nat.sub_zero, h2]
theorem flat_nodup {α β : Type} {f : α → Nat → List β} {c : β → Nat} (hc : ∀ x j, ∀ b ∈ f x j, c b = j) (hn : ∀ x j, (f x j).Nodup) : ∀ {xs : List α} {n : Nat}, ((xs.zipIdx n).flatMap fun x => f x.1 x.2).Nodup ∧ ∀ b ∈ (xs.zipIdx n).flatMap (fun x => f x.1 x.2), n ≤ c b
  | [], n => ⟨by simp, by simp⟩
  | x :: xs, n => by
    obtain ⟨h1, h2⟩ := flat_nodup hc hn (xs := xs) (n := n + 1)
    rw [List.zipIdx_cons, List.flatMap_cons]
    refine ⟨List.nodup_append.mpr ⟨hn x n, h1, fun a ha b hb e => ?_⟩, fun b hb => ?_⟩
    · have e1 := hc x n a ha
      have e2 := h2 b hb
      rw [e] at e1
      omega
    · rcases List.mem_append.mp hb with hb | hb
      · have := hc x n b hb
        omega
      · have := h2 b hb
        omega
theorem devL_flat (i : Nat) (l : List Pl) : devL i l = l.zipIdx.flatMap fun x => (x.1.rows i x.2).map (·.1) := by
  unfold devL loopRows
  rw [List.map_flatMap]
theorem rows_nodup (x : Pl) (i a : Nat) : ((x.rows i a).map (·.1)).Nodup := by
  cases x with
  | op => simp [Pl.rows]
  | dev d sp =>
    have e : ((Pl.dev d sp).rows i a).map (·.1) = (i, a + 1, 0) :: (sp.zipIdx.map (·.2)).map fun w => ((i, a + 1, w + 1) : Spot) := by
      simp only [Pl.rows, List.map_cons, List.map_map]
      rfl
    rw [e, zip_snd, List.nodup_cons]
    refine ⟨fun h => ?_, nodup_inj (fun a b h => by simpa using h) List.nodup_range⟩
    obtain ⟨w, _, e⟩ := List.mem_map.mp h
    have := congrArg (fun s : Spot => s.2.2) e
    simp at this
theorem rows_at {x : Pl} {i a : Nat} {s : Spot} (h : s ∈ (x.rows i a).map (·.1)) : s.1 = i ∧ s.2.1 = a + 1 ∧ x.isOp = false ∧ s.2.2 ≤ x.spur.length := by
  cases x with
  | op => simp [Pl.rows] at h
  | dev d sp =>
    simp only [Pl.rows, List.map_cons, List.map_map, List.mem_cons] at h
    rcases h with h | h
    · rw [h]
      exact ⟨rfl, rfl, rfl, Nat.zero_le _⟩
    · obtain ⟨y, hy, rfl⟩ := List.mem_map.mp h
      have := (zip_mem hy).2.1
      exact ⟨rfl, rfl, rfl, this⟩
theorem devL_nodup (i : Nat) (l : List Pl) : (devL i l).Nodup := by
  rw [devL_flat]
  exact (flat_nodup (f := fun (x : Pl) a => (x.rows i a).map (·.1)) (c := fun s : Spot => s.2.1 - 1) (fun x j b hb => by rw [(rows_at hb).2.1]; rfl) (fun x j => rows_nodup x i j) (xs := l) (n := 0)).1
/-- a spot of the loop: at a device place, not beyond its spur -/
theorem devL_iff {i : Nat} {l : List Pl} {c w : Nat} (h1 : 1 ≤ c) {x : Pl} (hx : l[c - 1]? = some x) (hw : w ≤ x.spur.length) : (i, c, w) ∈ devL i l ↔ x.isOp = false := by
  rw [devL_flat]
  constructor
  · intro h
    obtain ⟨y, hy, hm⟩ := List.mem_flatMap.mp h
    obtain ⟨_, h3, h4, _⟩ := rows_at hm
    have hz := (zip_mem hy).2.2
    have : y.2 = c - 1 := by
      have : c = y.2 + 1 := h3
      omega
    rw [this, hx] at hz
    rw [Option.some.inj hz]
    exact h4
  · intro ho
    refine List.mem_flatMap.mpr ⟨(x, c - 1), List.mem_zipIdx_iff_getElem?.mpr hx, ?_⟩
    cases x with
    | op => cases ho
    | dev d sp =>
      show (i, c, w) ∈ List.map (·.1) (((i, c - 1 + 1, 0), d) :: sp.zipIdx.map fun x => ((i, c - 1 + 1, x.2 + 1), x.1))
      rw [Nat.sub_add_cancel h1]
      cases w with
      | zero => exact List.mem_cons_self ..
      | succ w =>
        have hw' : w < sp.length := hw
        refine List.mem_cons_of_mem _ ?_
        rw [List.map_map]
        exact List.mem_map.mpr ⟨(sp[w], w), List.mem_zipIdx_iff_getElem?.mpr (List.getElem?_eq_getElem hw'), rfl⟩
theorem sort_pln {n : Nat} (us : List U) (h : plnA n us = true) : plnA n (us.mergeSort leU) = true := by
  rw [plnA_all, List.all_eq_true] at h ⊢
  exact fun u hu => h u (List.mem_mergeSort.mp hu)
theorem heardU_pln (F : List Fl) (i : Nat) (l : List Pl) (D : List Spot) : pln 3 (heardU F i l D) = true := by
  have h : ∀ up, plnA 1 (heardP F i l D up) = true := fun up => sort_pln _ (plnA_sp _)
  simp only [heardU, pln, plnA, h, Nat.reduceSub, Nat.reduceLT, decide_true, Bool.and_self]
theorem toPy_sp {s t : Spot} : toPy (eSp s) = toPy (eSp t) ↔ s = t := by
  constructor
  · intro h
    unfold eSp at h
    simp only [toPy, toPyA, PyData.tuple.injEq, List.cons.injEq, PyData.int.injEq, and_true] at h
    obtain ⟨h1, h2, h3⟩ := h
    obtain ⟨a, b, c⟩ := s
    obtain ⟨d, e, f⟩ := t
    have e1 : a = d := by exact_mod_cast h1
    have e2 : b = e := by exact_mod_cast h2
    have e3 : c = f := by exact_mod_cast h3
    subst e1 e2 e3
    rfl
  · rintro rfl
    rfl
theorem cut_drop (us : List U) (k : Nat) : cutU us (some (k : Int)) none = us.drop k := by
  unfold cutU
  have h1 : HT.sIx us.length 0 (some (k : Int)) = min k us.length := by
    simp only [HT.sIx]
    split <;> omega
  have h2 : HT.sIx us.length us.length none = us.length := rfl
  rw [h1, h2]
  by_cases h : k ≤ us.length
  · rw [Nat.min_eq_left h, List.take_of_length_le (by rw [List.length_drop]; omega)]
  · rw [Nat.min_eq_right (by omega), List.drop_eq_nil_of_le (Nat.le_refl _), List.drop_eq_nil_of_le (by omega), List.take_nil]
theorem singles_len {p : Plan} (hp : Shp p) {l : List Pl} (hl : l ∈ p.loops) (i : Nat) : (singlesOf i l).length ≤ 98 := by
  have h1 := loopStr_len hp hl i
  have h2 := flat_bound (xs := loopStr i l) (g := fun s => [((s, "cut") : Fl), (s, "short")]) (k := 2) (fun _ _ => by simp)
  unfold singlesOf
  omega
theorem sets_ok {S : List Fl} {m : Int} {F : List Fl} (h : F ∈ setsOf S m) : (F.map (·.1)).Nodup ∧ F.length ≤ 2 := by
  unfold setsOf at h
  simp only [List.cons_append, List.nil_append, List.mem_cons, List.mem_append] at h
  rcases h with h | h | h
  · subst h
    simp
  · split at h
    · obtain ⟨s, _, rfl⟩ := List.mem_map.mp h
      simp
    · simp at h
  · split at h
    · obtain ⟨x, _, hx⟩ := List.mem_flatMap.mp h
      obtain ⟨o, ho, rfl⟩ := List.mem_map.mp hx
      have := (List.mem_filter.mp ho).2
      simp only [Bool.not_eq_true', decide_eq_false_iff_not] at this
      simp only [List.map_cons, List.map_nil, List.nodup_cons, List.mem_singleton, List.not_mem_nil, not_false_eq_true, List.nodup_nil, and_true, List.length_cons, List.length_nil]
      exact ⟨fun e => this e.symm, Nat.le_refl _⟩
    · simp at h
theorem sets_len {S : List Fl} (m : Int) (h : S.length ≤ 98) : (setsOf S m).length ≤ 10000 := by
  unfold setsOf
  have h1 : (if 0 < m then S.map (fun s => [s]) else []).length ≤ 98 := by
    split
    · rw [List.length_map]; exact h
    · simp
  have h2 : (if 1 < m then S.zipIdx.flatMap (fun x => ((S.drop (x.2 + 1)).filter fun o => !decide (o.1 = x.1.1)).map fun o => [x.1, o]) else []).length ≤ 98 * 98 := by
    split
    · have := flat_bound (xs := S.zipIdx) (g := fun x => ((S.drop (x.2 + 1)).filter fun o => !decide (o.1 = x.1.1)).map fun o => [x.1, o]) (k := 98) (fun x _ => by
        rw [List.length_map]
        refine Nat.le_trans (List.length_filter_le _ _) ?_
        rw [List.length_drop]
        omega)
      rw [List.length_zipIdx] at this
      refine Nat.le_trans this (Nat.mul_le_mul_right _ h)
    · simp
  simp only [List.length_append, List.length_cons, List.length_nil]
  omega
theorem ws_cutS {K : PySem.W.Frag} {M : Mem} {ρ : Rho} {t : TS} {D : AE} (M1 : Mem) (ρ1 : Rho) (h1 : WS K t M ρ { D with nx := fun M' ρ' => Sub M1 M' ∧ RLe ρ1 ρ' }) (h2 : ∀ M' ρ', Sub M1 M' → RLe ρ1 ρ' → D.nx M' ρ') : WS K t M ρ D :=
  WS.nx h1 (fun M' ρ' e => h2 M' ρ' e.1 e.2) (fun _ _ h => h) (fun _ _ h => h) (fun _ _ h => h)
end Wl
set_option Elab.async false
set_option linter.all false
set_option maxRecDepth 100000
set_option maxHeartbeats 4000000
/-! what the law's helpers promise -/
namespace Wl
open PySem PySem.Spec PyProof.Rows L2
structure Bg where
  n0 : Int
  n1 : Int
  n2 : Int
def eBg (g : Bg) : MO := .l [.int g.n0, .int g.n1, .int g.n2]
structure Bk (B : Nat) (g : Bg) : Prop where
  a : 0 ≤ g.n0
  b : 0 ≤ g.n1
  c : g.n1 ≤ 4294967296
  d : 0 ≤ g.n2
  e : g.n2 ≤ B
theorem Bk.le {B B' : Nat} {g : Bg} (h : Bk B g) (l : B ≤ B') : Bk B' g := ⟨h.a, h.b, h.c, h.d, by have := h.e; omega⟩
def C_law_take : CU := fun us M q => ∃ b m, us = [.ptr b, .int (m : Nat)] ∧ 1 ≤ m ∧ m ≤ 1000 ∧ ∃ A M0 g B, M = A ++ (b, eBg g) :: M0 ∧ Bk B g ∧ B ≤ 100000 ∧ ∀ r g', r < m → Bk (B + 1) g' → q (.int (r : Nat)) (A ++ (b, eBg g') :: M0)
def C_law_bag : CU := fun us M q => ∃ (ns : List Int) (k : Nat), us = [.fl (ns.map U.int), .int (k : Nat)] ∧ k ≤ 1 ∧ ∀ b g, Bk 0 g → q (.ptr b) ((b, eBg g) :: M)
def C_law_name : CU := fun us M q => ∃ b g M0 B, us = [.ptr b] ∧ M = (b, eBg g) :: M0 ∧ Bk B g ∧ B ≤ 90000 ∧ ∀ n g', NameOk n → Bk (B + 9) g' → q (.str n) ((b, eBg g') :: M0)
def C_law_names : CU := fun us M q => ∃ b m g M0 B, us = [.ptr b, .int (m : Nat)] ∧ m ≤ 4 ∧ M = (b, eBg g) :: M0 ∧ Bk B g ∧ B ≤ 80000 ∧ ∀ a (ns : List Str) g', ns.length = m → (∀ n ∈ ns, NameOk n) → ns.Nodup → Bk (B + 40) g' → q (.ptr a) ((b, eBg g') :: (a, .l (ns.map U.str)) :: M0)
def addrsOf (l : List Pl) : List Int := l.flatMap fun x => x.devs.map (·.addr)
def C_law_loop : CU := fun us M q => ∃ b n g M0 B, ∃ (ns : List Int) (mp : Nat), us = [.ptr b, .ptr n, .int (mp : Nat)] ∧ 1 ≤ mp ∧ mp ≤ 12 ∧ M = (b, eBg g) :: (n, .l (ns.map U.int)) :: M0 ∧ Bk B g ∧ B ≤ 80000 ∧ (∀ x ∈ ns, 1 ≤ x ∧ x ≤ 99) ∧ ns.length ≤ 30 ∧
  ∀ l rest g', LoopOk l → l.length ≤ mp → ns = addrsOf l ++ rest → Bk (B + 100) g' → q (eLoop l) ((b, eBg g') :: (n, .l (rest.map U.int)) :: M0)
def C_law_parts : CU := fun us M q => ∃ l, us = [eLoop l] ∧ l.length ≤ 12 ∧ (∀ x ∈ l, PlShp x) ∧ ∀ a, q (.ptr a) ((a, .l ((lensOf l).map fun n : Nat => .int (n : Nat))) :: M)
def C_law_plan : CU := fun us M q => ∃ b g M0 B, ∃ (ml mp : Nat), us = [.ptr b, .int (ml : Nat), .int (mp : Nat)] ∧ 1 ≤ ml ∧ ml ≤ 3 ∧ 2 ≤ mp ∧ mp ≤ 8 ∧ M = (b, eBg g) :: M0 ∧ Bk B g ∧ B ≤ 1000 ∧ ∀ p g', PlanOk p → Bk (B + 2000) g' → q (ePlan p) ((b, eBg g') :: M0)
def C_law_walk : CU := fun us M q => ∃ p F G h s i l c up, us = [ePlan p, .ptr h, .ptr s, .int (i : Nat), .int (c : Nat), .int (if up = true then 1 else -1)] ∧ Shp p ∧ p.loops[i]? = some l ∧ c ≤ l.length + 1 ∧
  (h, MO.dt (hkv F)) ∈ M ∧ (s, MO.dt (gkv G)) ∈ M ∧ ∀ a, q (.tup [.bl ((walkM F G i l up c).1.any (isHow F "short")), .ptr a]) ((a, .l ((walkM F G i l up c).2.map eSp)) :: M)
def C_law_gates : CU := C_openers
def C_law_feels : CU := C_feels
def C_law_singles : CU := C_single_faults
def C_law_due : CU := fun us M q => ∃ p F i l, us = [ePlan p, .int (i : Nat), eFs F] ∧ Shp p ∧ p.loops[i]? = some l ∧ (F.map (·.1)).Nodup ∧ F.length ≤ 1000 ∧ q (heardU F i l (devL i l)) M
def C_law_spots : CU := fun us M q => ∃ p, us = [ePlan p] ∧ Shp p ∧ ∀ a, q (.ptr a) ((a, .l ((devicesOf p).map fun r => eSp r.1)) :: M)
def C_law_sets : CU := fun us M q => ∃ S s m, us = [.ptr s, .int m] ∧ S.length ≤ 98 ∧ (s, MO.l (S.map eFl)) ∈ M ∧ ∀ a, q (.ptr a) ((a, .l ((setsOf S m).map eFs)) :: M)
def C_law_drawn : CU := fun us M q => ∃ b g M0 B i l s, us = [.ptr b, .ptr s] ∧ M = (b, eBg g) :: M0 ∧ Bk B g ∧ B ≤ 80000 ∧ (s, MO.l ((singlesOf i l).map eFl)) ∈ M0 ∧ (singlesOf i l).length ≤ 98 ∧ ∀ F g', (∀ m : Int, (F.length : Int) ≤ m → F ∈ setsOf (singlesOf i l) m) → Bk (B + 3) g' → q (eFs F) ((b, eBg g') :: M0)
def C_law : CU := fun us M q => ∃ ns : List Int, us = [.fl (ns.map U.int)] ∧ q (.bl true) M
theorem ws_bag {K : PySem.W.Frag} {A M0 : Mem} {e : Addr × MO} {ρ : Rho} {ts : TS} {D : AE} (h : WS K ts (e :: (A ++ M0)) ρ { D with nx := fun M' ρ' => False, rt := fun u M' => ∃ e', Sub (e' :: (A ++ M0)) M' ∧ D.rt u (A ++ e' :: M0), bk := fun _ _ => False, ct := fun _ _ => False }) : WS K ts (A ++ e :: M0) ρ D := fun H0 σ H t m s E d =>
  (WS.perm (List.perm_middle) h) H0 σ H t m s E ⟨fun M ρ σ H a => a.elim, fun u M v H ⟨e', s', r⟩ t' m' => d.rt u _ v H r t' ((m'.sub s').perm List.perm_middle.symm), fun M ρ σ H a => a.elim, fun M ρ σ H a => a.elim⟩
theorem flat_congr {α β : Type} {f g : α → List β} : ∀ {xs : List α}, (∀ x ∈ xs, f x = g x) → xs.flatMap f = xs.flatMap g
  | [], _ => rfl
  | x :: xs, h => by
    rw [List.flatMap_cons, List.flatMap_cons, h x (List.mem_cons_self ..), flat_congr (xs := xs) fun y hy => h y (List.mem_cons_of_mem _ hy)]
theorem range_u (n : Nat) : upTo 0 n = (List.range n).map fun i => U.int (i : Nat) := by
  unfold upTo
  refine List.map_congr_left fun i _ => ?_
  rw [Int.zero_add]
theorem range_at {n k x : Nat} (h : (List.range n)[k]? = some x) : x = k ∧ k < n := by
  obtain ⟨h1, h2⟩ := List.getElem?_eq_some_iff.mp h
  rw [List.getElem_range] at h2
  exact ⟨h2.symm, by simpa using h1⟩
theorem upTo_zip {α : Type} (xs : List α) : upTo 0 xs.length = xs.zipIdx.map fun x => U.int (x.2 : Nat) := by
  rw [range_u, ← zip_snd, List.map_map]
  rfl
theorem range_flat {α β : Type} (g : α → Nat → List β) (xs : List α) (f : Nat → List β) (h : ∀ k x, xs[k]? = some x → f k = g x k) : (List.range xs.length).flatMap f = xs.zipIdx.flatMap fun x => g x.1 x.2 := by
  rw [← zip_snd, List.flatMap_map]
  refine flat_congr fun x hx => ?_
  exact h x.2 x.1 (zip_mem hx).2.2
def manyOf (l : List Pl) (c : Nat) : Nat := if c = 0 then 1 else spurLen l c + 1
def strAt (i : Nat) (l : List Pl) (c : Nat) : List Spot := (List.range (manyOf l c)).map fun w => (i, c, w)
theorem loopStr_at (i : Nat) (l : List Pl) : loopStr i l = (List.range (l.length + 1)).flatMap (strAt i l) := by
  rw [List.range_succ_eq_map, List.flatMap_cons, List.flatMap_map, range_flat (fun x k => plStr i k x) l]
  · rfl
  · intro k x hx
    show strAt i l (k + 1) = plStr i k x
    unfold strAt manyOf plStr
    rw [if_neg (by omega), spurLen_of (c := k + 1) hx]
abbrev sg (s : Spot) : List Fl := [(s, "cut"), (s, "short")]
theorem singles_at (i : Nat) (l : List Pl) : singlesOf i l = (List.range (l.length + 1)).flatMap fun c => (strAt i l c).flatMap sg := by
  unfold singlesOf
  rw [loopStr_at, List.flatMap_assoc]
theorem rows_range (d : Dev) (sp : List Dev) (i j : Nat) : ((Pl.dev d sp).rows i j).map (·.1) = (List.range (sp.length + 1)).map fun w => ((i, j + 1, w) : Spot) := by
  have e : ((Pl.dev d sp).rows i j).map (·.1) = (i, j + 1, 0) :: (sp.zipIdx.map (·.2)).map fun w => ((i, j + 1, w + 1) : Spot) := by
    simp only [Pl.rows, List.map_cons, List.map_map]
    rfl
  rw [e, zip_snd, List.range_succ_eq_map, List.map_cons, List.map_map]
  rfl
theorem devs_flat (p : Plan) : (devicesOf p).map (·.1) = p.loops.zipIdx.flatMap fun x => x.1.zipIdx.flatMap fun y => (y.1.rows x.2 y.2).map (·.1) := by
  unfold devicesOf loopRows
  rw [List.map_flatMap]
  refine flat_congr fun x _ => ?_
  rw [List.map_flatMap]
theorem ws_mid {K : PySem.W.Frag} {M : Mem} {ρ : Rho} {t : TS} {D : AE} (I : Mem → Rho → Prop) (h1 : WS K t M ρ { D with nx := I }) (h2 : ∀ M' ρ', I M' ρ' → D.nx M' ρ') : WS K t M ρ D :=
  WS.nx h1 h2 (fun _ _ h => h) (fun _ _ h => h) (fun _ _ h => h)
theorem w_orP {K : PySem.W.Frag} {M : Mem} {ρ : Rho} {t u : TE} {k : U → Mem → Prop} (h : W K t M ρ fun x M1 => ∃ b c, x = .bl b ∧ W K u M1 ρ (fun y M2 => y = .bl c ∧ M2 = M1) ∧ k (.bl (b || c)) M1) : W K (tOrV t u) M ρ k := by
  refine w_orV (h.imp fun x M1 ⟨b, c, e, h1, h2⟩ => ⟨b, e, fun hb => h1.imp fun y M2 e2 => ?_, fun hb => ?_⟩)
  · obtain ⟨e1, e2⟩ := e2
    subst hb e1 e2
    exact h2
  · subst hb
    exact h2
end Wl
set_option Elab.async false
set_option linter.all false
set_option maxRecDepth 100000
set_option maxHeartbeats 4000000
/-! an end that is not stopped hears no short; what it hears is told by the gates -/
namespace Wl
open PySem PySem.Spec PyProof.Rows L2
/-- a walk whose every feeling gate stops it meets no short, if the gate it starts at feels none -/
theorem noShort {F : List Fl} {i : Nat} {l : List Pl} (up : Bool) : ∀ (n c : Nat), n = (if up = true then l.length + 1 - c else c) → (visit F (loopGates i l) i l up n c).1.any (isHow F "short") = false → (visit F (stopsM F i l) i l up n c).1.any (isHow F "short") = false
  | 0, _, _, _ => rfl
  | n + 1, c, hn, h => by
    unfold visit at h ⊢
    cases hct : isHow F "cut" (i, edg up c, 0) with
    | true => simp
    | false =>
      rw [hct, if_neg Bool.false_ne_true] at h
      rw [if_neg Bool.false_ne_true]
      by_cases ho : nxt up c < 1 ∨ l.length < nxt up c
      · rw [if_pos ho] at h ⊢
        exact h
      · rw [if_neg ho] at h ⊢
        have hnn : n = (if up = true then l.length + 1 - nxt up c else nxt up c) := by
          unfold nxt
          cases up with
          | true => simp at hn ⊢; omega
          | false => simp at hn ⊢; omega
        simp only [List.any_append, Bool.or_eq_false_iff] at h ⊢
        refine ⟨h.1, ?_⟩
        by_cases hg : (i, nxt up c) ∈ loopGates i l
        · by_cases hs : (i, nxt up c) ∈ stopsM F i l
          · rw [if_pos hs]
            rfl
          · rw [if_neg hs]
            refine noShort up n (nxt up c) hnn ?_
            have hf : feelsM F (loopGates i l) i l (nxt up c) = false := by
              cases hh : feelsM F (loopGates i l) i l (nxt up c) with
              | false => rfl
              | true => exact absurd (List.mem_filter.mpr ⟨hg, hh⟩) hs
            unfold feelsM walkM at hf
            rw [Bool.or_eq_false_iff] at hf
            cases up with
            | true =>
              rw [if_pos rfl] at hnn
              have := hf.1
              rw [if_pos rfl, ← hnn] at this
              exact this
            | false =>
              rw [if_neg Bool.false_ne_true] at hnn
              have := hf.2
              rw [if_neg Bool.false_ne_true] at this
              generalize nxt false c = d at *
              subst hnn
              exact this
        · have hs : (i, nxt up c) ∉ stopsM F i l := fun z => hg (List.mem_filter.mp z).1
          rw [if_neg hs]
          rw [if_neg hg] at h
          exact noShort up n (nxt up c) hnn h.2
theorem heard_plain (F : List Fl) (i : Nat) (l : List Pl) (up : Bool) : heardM F (stopsM F i l) i l up = if (i, endOf l up) ∈ stopsM F i l then [] else (walkM F (stopsM F i l) i l up (endOf l up)).2 := by
  unfold heardM
  by_cases hs : (i, endOf l up) ∈ stopsM F i l
  · rw [if_pos hs, if_pos hs]
  · rw [if_neg hs, if_neg hs, if_neg]
    have hg : (i, endOf l up) ∈ loopGates i l := by
      unfold loopGates endOf
      cases up with
      | true => simp
      | false => simp
    have hf : feelsM F (loopGates i l) i l (endOf l up) = false := by
      cases hh : feelsM F (loopGates i l) i l (endOf l up) with
      | false => rfl
      | true => exact absurd (List.mem_filter.mpr ⟨hg, hh⟩) hs
    have := noShort (F := F) (i := i) (l := l) up _ (endOf l up) rfl (by
      unfold feelsM walkM at hf
      rw [Bool.or_eq_false_iff] at hf
      cases up with
      | true => exact hf.1
      | false => exact hf.2)
    unfold walkM
    rw [this]
    exact Bool.false_ne_true
/-- where a walk's spots lie -/
theorem visit_spots {F : List Fl} {G : List Gate} {i : Nat} {l : List Pl} (up : Bool) : ∀ (n c : Nat), ∀ s ∈ (visit F G i l up n c).2, s.1 = i ∧ 1 ≤ s.2.1 ∧ s.2.1 ≤ l.length ∧ s.2.2 ≤ spurLen l s.2.1
  | 0, _, s, h => by simp [visit] at h
  | n + 1, c, s, h => by
    unfold visit at h
    split at h
    · simp at h
    · split at h
      · simp at h
      · rename_i ho
        simp only [List.cons_append, List.mem_cons, List.mem_append] at h
        rcases h with h | h | h
        · subst h
          exact ⟨rfl, by show 1 ≤ nxt up c; omega, by show nxt up c ≤ l.length; omega, Nat.zero_le _⟩
        · have := List.takeWhile_subset _ h
          obtain ⟨w, hw, rfl⟩ := List.mem_map.mp this
          have := List.mem_range.mp hw
          exact ⟨rfl, by show 1 ≤ nxt up c; omega, by show nxt up c ≤ l.length; omega, this⟩
        · split at h
          · simp at h
          · exact visit_spots up n (nxt up c) s h
theorem heard_filt (F : List Fl) (i : Nat) (l : List Pl) (up : Bool) : (heardM F (stopsM F i l) i l up).filter (fun s => decide (s ∈ devL i l)) = (heardM F (stopsM F i l) i l up).filter (fun s => !decide ((s.1, s.2.1) ∈ loopGates i l)) := by
  refine List.filter_congr fun s hs => ?_
  rw [heard_plain] at hs
  split at hs
  · simp at hs
  · obtain ⟨h1, h2, h3, h4⟩ := visit_spots up _ _ s hs
    obtain ⟨a, c, w⟩ := s
    dsimp only at h1 h2 h3 h4
    subst h1
    have hx : l[c - 1]? = some l[c - 1] := List.getElem?_eq_getElem (by omega)
    have e1 := devL_iff (i := a) h2 hx (by rw [spurLen_of hx] at h4; exact h4)
    have e2 := gates_in (i := a) h2 h3
    revert hx e1 e2
    generalize l[c - 1] = x
    intro hx e1 e2
    cases ho : x.isOp with
    | false =>
      have hn : (a, c) ∉ loopGates a l := fun z => by
        obtain ⟨y, hy, hyo⟩ := e2.mp z
        rw [hx] at hy
        rw [Option.some.inj hy, hyo] at ho
        exact Bool.noConfusion ho
      rw [decide_eq_true (e1.mpr ho), show decide (((a, c, w).1, (a, c, w).2.1) ∈ loopGates a l) = false from decide_eq_false hn]
      rfl
    | true =>
      have hn : (a, c, w) ∉ devL a l := fun z => by
        rw [e1.mp z] at ho
        exact Bool.noConfusion ho
      rw [decide_eq_false hn, show decide (((a, c, w).1, (a, c, w).2.1) ∈ loopGates a l) = true from decide_eq_true (e2.mpr ⟨x, hx, ho⟩)]
      rfl
theorem toPy_gt {s t : Gate} : toPy (eGt s) = toPy (eGt t) ↔ s = t := by
  constructor
  · intro h
    unfold eGt at h
    simp only [toPy, toPyA, PyData.tuple.injEq, List.cons.injEq, PyData.int.injEq, and_true] at h
    obtain ⟨h1, h2⟩ := h
    obtain ⟨a, b⟩ := s
    obtain ⟨d, e⟩ := t
    have e1 : a = d := by exact_mod_cast h1
    have e2 : b = e := by exact_mod_cast h2
    subst e1 e2
    rfl
  · rintro rfl
    rfl
theorem in_gates (G : List Gate) (g : Gate) : decide (g ∈ G) = true ↔ toPy (eGt g) ∈ toPyA (G.map eGt) := by
  rw [decide_eq_true_iff, toPyA_map, List.map_map]
  constructor
  · exact fun h => List.mem_map.mpr ⟨g, h, rfl⟩
  · intro h
    obtain ⟨x, hx, e⟩ := List.mem_map.mp h
    rw [← toPy_gt.mp e]
    exact hx
theorem plnA_gt (xs : List Gate) : plnA 1 (xs.map eGt) = true := by
  rw [plnA_all, List.all_eq_true]
  intro u hu
  obtain ⟨s, _, rfl⟩ := List.mem_map.mp hu
  rfl
end Wl
set_option Elab.async false
set_option linter.all false
set_option maxRecDepth 100000
set_option maxHeartbeats 4000000
/-! names, as plain Lean -/
namespace Wl
open PySem PySem.Spec PyProof.Rows L2
section
variable {K : PySem.W.Frag} {M : Mem} {ρ : Rho}
theorem rs_S {z : Str} {lo hi : Option Int} {k : U → Mem → Prop} (hz : z.length ≤ 1000) (h : k (.str (cutS z lo hi)) M) : RSA K rSlS (.str z) lo hi M k := fun v H m a Q c => by
  cases a
  exact ⟨z, rfl, Nat.le_trans hz (by decide), c _ _ _ _ h (Tp.refl H) m (.str _)⟩
theorem r_addS {x y : Str} {k : U → Mem → Prop} (hz : x.length + y.length ≤ 1000) (h : k (.str (x ++ y)) M) : R2A K (fun x y H Q => ∃ i j, x = .str i ∧ y = .str j ∧ i.length + j.length ≤ sizeLine ∧ Q (.str (i ++ j)) H) (.str x) (.str y) M k := fun v w H m a b Q c => by
  cases a
  cases b
  exact ⟨x, y, rfl, rfl, Nat.le_trans hz (by decide), c _ _ _ _ h (Tp.refl H) m (.str _)⟩
end
def lets : List Nat := ("abcdefghijklmnopqrstuvwxyz" : Str).cps.toList
theorem lets_len : lets.length = 26 := by decide +kernel
theorem lets_nd : lets.Nodup := by decide +kernel
theorem joinL_nil : ∀ ps : List (List Nat), TL.joinL [] ps = ps.flatten
  | [] => rfl
  | [p] => by simp [TL.joinL]
  | p :: q :: r => by
    have := joinL_nil (q :: r)
    simp only [TL.joinL, List.nil_append, this, List.flatten_cons]
theorem join_cps (ys : List Str) : (Txt.join "" ys).cps.toList = (ys.map fun y => y.cps.toList).flatten := by
  rw [TL.join_eq]
  have := TL.tl_join "" ys
  rw [show TL.tl "" = [] from by decide +kernel, joinL_nil] at this
  exact this
theorem join_one (cs : List Nat) : (Txt.join "" (cs.map fun c => (⟨#[c]⟩ : Str))).cps.toList = cs := by
  rw [join_cps, List.map_map]
  induction cs with
  | nil => rfl
  | cons c cs ih =>
    rw [List.map_cons, List.flatten_cons, ih]
    rfl
theorem name_of {n : Str} {cs : List Nat} (e : n.cps.toList = cs) (h1 : 1 ≤ cs.length) (h2 : cs.length ≤ 8) (h3 : ∀ c ∈ cs, c ∈ lets) : NameOk n := by
  have hl : n.length = cs.length := by rw [← e]; rfl
  exact ⟨by omega, by omega, fun c hc => h3 c (e ▸ hc)⟩
theorem cand_cps (c : Nat) (n : Str) : ((⟨#[c]⟩ : Str) ++ cutS n (some 1) none).cps.toList = c :: n.cps.toList.drop 1 := by
  have h1 : HT.sIx n.length 0 (some 1) = min 1 n.length := HT.sIx_nat n.length 0 1
  have h2 : HT.sIx n.length n.length none = n.length := rfl
  have h3 : (cutS n (some 1) none).cps.toList = n.cps.toList.drop 1 := by
    unfold cutS
    rw [h1, h2]
    have hl : n.length = n.cps.toList.length := rfl
    rw [List.toList_toArray]
    by_cases h : 1 ≤ n.length
    · rw [Nat.min_eq_left h, List.take_of_length_le (by rw [List.length_drop]; omega)]
    · have e0 : n.cps.toList = [] := List.length_eq_zero_iff.mp (by omega)
      rw [e0]
      simp
  show (Str.append _ _).cps.toList = _
  unfold Str.append
  rw [Array.toList_append, h3]
  rfl
theorem cand_len (c : Nat) (n : Str) : (cutS n (some 1) none).length ≤ n.length := by
  have h := congrArg List.length (cand_cps c n)
  have e : ((⟨#[c]⟩ : Str) ++ cutS n (some 1) none).cps.toList.length = 1 + (cutS n (some 1) none).length := by
    show (Str.append _ _).cps.toList.length = _
    unfold Str.append
    rw [Array.toList_append, List.length_append]
    rfl
  rw [e, List.length_cons, List.length_drop] at h
  have : n.cps.toList.length = n.length := rfl
  omega
theorem cand_ok {c : Nat} {n : Str} (hc : c ∈ lets) (h : NameOk n) : NameOk ((⟨#[c]⟩ : Str) ++ cutS n (some 1) none) := by
  have hl : n.cps.toList.length = n.length := rfl
  have h1 := h.1
  have h2 := h.2.1
  refine name_of (cand_cps c n) (by simp) (by rw [List.length_cons, List.length_drop]; omega) fun d hd => ?_
  rcases List.mem_cons.mp hd with e | hd
  · exact e ▸ hc
  · exact h.2.2 d (List.mem_of_mem_drop hd)
theorem pigeon {α : Type} [DecidableEq α] : ∀ (F L : List α), L.Nodup → F.length < L.length → ∃ x ∈ L, x ∉ F
  | [], x :: L, _, _ => ⟨x, List.mem_cons_self .., by simp⟩
  | [], [], _, h => by simp at h
  | y :: F, L, hn, h => by
    have hl : (L.erase y).length + 1 ≥ L.length := by
      rw [List.length_erase]
      split <;> omega
    obtain ⟨x, hx, hxf⟩ := pigeon F (L.erase y) (hn.erase y) (by rw [List.length_cons] at h; omega)
    have := (List.Nodup.mem_erase_iff hn).mp hx
    exact ⟨x, this.2, fun z => by
      rcases List.mem_cons.mp z with e | z
      · exact this.1 e
      · exact hxf z⟩
theorem cand_ex (n : Str) (F : List Str) (hF : F.length ≤ 3) : ∃ c ∈ lets, ((⟨#[c]⟩ : Str) ++ cutS n (some 1) none) ∉ F := by
  have hn : (lets.map fun c => (⟨#[c]⟩ : Str) ++ cutS n (some 1) none).Nodup := nodup_inj (fun a b e => by
    have := congrArg (fun s : Str => s.cps.toList) e
    rw [cand_cps, cand_cps] at this
    exact (List.cons.inj this).1) lets_nd
  obtain ⟨x, hx, hxf⟩ := pigeon F _ hn (by rw [List.length_map, lets_len]; omega)
  obtain ⟨c, hc, rfl⟩ := List.mem_map.mp hx
  exact ⟨c, hc, hxf⟩
end Wl
set_option Elab.async false
set_option linter.all false
set_option maxRecDepth 100000
set_option maxHeartbeats 4000000
/-! every drawn plan is let by -/
namespace Wl
open PySem PySem.Spec PyProof.Rows L2
def toldOf (x : Pl) : List Int := (x.devs.filter fun d => decide (d.kind ∈ (["seeker", "knob"] : List Str))).map (·.addr)
def toldL (l : List Pl) : List Int := l.flatMap toldOf
theorem rows_devs (x : Pl) (i a : Nat) : (x.rows i a).map (·.2) = x.devs := by
  cases x with
  | op => rfl
  | dev d sp =>
    simp only [Pl.rows, Pl.devs, List.map_cons, List.map_map]
    refine congrArg (d :: ·) ?_
    rw [show ((fun x : Spot × Dev => x.2) ∘ fun x : Dev × Nat => (((i, a + 1, x.2 + 1) : Spot), x.1)) = Prod.fst from rfl]
    simp
theorem zip_flat {α β : Type} (g : α → List β) (xs : List α) : (xs.zipIdx.flatMap fun x => g x.1) = xs.flatMap g := by
  rw [show (xs.zipIdx.flatMap fun x => g x.1) = (xs.zipIdx.map (·.1)).flatMap g from (List.flatMap_map ..).symm]
  simp
theorem devs_plain (p : Plan) : (devicesOf p).map (·.2) = p.loops.flatMap fun l => l.flatMap Pl.devs := by
  unfold devicesOf
  rw [List.map_flatMap, ← zip_flat (fun l => l.flatMap Pl.devs) p.loops]
  refine flat_congr fun x _ => ?_
  unfold loopRows
  rw [List.map_flatMap, ← zip_flat Pl.devs x.1]
  exact flat_congr fun y _ => rows_devs y.1 x.2 y.2
theorem addr_plain (p : Plan) : (devicesOf p).map (·.2.addr) = p.loops.flatMap addrsOf := by
  rw [show (fun r : Spot × Dev => r.2.addr) = (·.addr) ∘ (·.2) from rfl, ← List.map_map, devs_plain, List.map_flatMap]
  refine flat_congr fun l _ => ?_
  rw [List.map_flatMap]
  rfl
theorem known_plain (p : Plan) : knownOf p = p.loops.flatMap toldL := by
  unfold knownOf
  have e : (devicesOf p).filter (fun r => decide (r.2.kind ∈ (["seeker", "knob"] : List Str))) = (devicesOf p).filter ((fun d : Dev => decide (d.kind ∈ (["seeker", "knob"] : List Str))) ∘ (·.2)) := rfl
  rw [show (fun r : Spot × Dev => r.2.addr) = (·.addr) ∘ (·.2) from rfl, ← List.map_map, e, ← List.filter_map, devs_plain, List.filter_flatMap, List.map_flatMap]
  refine flat_congr fun l _ => ?_
  rw [List.filter_flatMap, List.map_flatMap]
  rfl
theorem told_sub (l : List Pl) : (toldL l).Sublist (addrsOf l) := by
  unfold toldL addrsOf
  induction l with
  | nil => exact List.Sublist.refl _
  | cons x l ih =>
    rw [List.flatMap_cons, List.flatMap_cons]
    exact List.Sublist.append (List.filter_sublist.map _) ih
theorem toldS_sub : ∀ ls : List (List Pl), (ls.flatMap toldL).Sublist (ls.flatMap addrsOf)
  | [] => List.Sublist.refl _
  | l :: ls => by
    rw [List.flatMap_cons, List.flatMap_cons]
    exact (told_sub l).append (toldS_sub ls)
theorem lens_sum_aux : ∀ (l : List Pl) (s : List Nat × Nat), (l.foldl stepL s).1.sum + (l.foldl stepL s).2 = s.1.sum + s.2 + (l.flatMap Pl.devs).length
  | [], s => by simp
  | x :: l, s => by
    rw [List.foldl_cons, lens_sum_aux l, List.flatMap_cons, List.length_append]
    cases x with
    | op => simp [stepL, Pl.devs]
    | dev d sp =>
      simp only [stepL, Pl.devs, List.length_cons]
      omega
theorem lens_sum (l : List Pl) : (lensOf l).sum = (addrsOf l).length := by
  unfold lensOf addrsOf
  have h := lens_sum_aux l ([], 0)
  rw [← List.map_flatMap, List.length_map]
  simp at h ⊢
  omega
theorem le_sum {ns : List Nat} {n : Nat} (h : n ∈ ns) : n ≤ ns.sum := by
  induction ns with
  | nil => cases h
  | cons a ns ih =>
    rw [List.sum_cons]
    rcases List.mem_cons.mp h with e | h
    · omega
    · have := ih h
      omega
theorem sum_zero {ns : List Nat} (h : ∀ n ∈ ns, n = 0) : ns.sum = 0 := by
  induction ns with
  | nil => rfl
  | cons a ns ih =>
    rw [List.sum_cons, h a (List.mem_cons_self ..), ih fun n hn => h n (List.mem_cons_of_mem _ hn)]
theorem flat_mem_len {α β : Type} {g : α → List β} {xs : List α} {x : α} (h : x ∈ xs) : (g x).length ≤ (xs.flatMap g).length := by
  induction xs with
  | nil => cases h
  | cons a xs ih =>
    rw [List.flatMap_cons, List.length_append]
    rcases List.mem_cons.mp h with e | h
    · rw [e]
      omega
    · have := ih h
      omega
structure ZInv (kn : List Int) (names : List Str) (k : Nat) (zs : List (Str × List Int)) (told : List Int) : Prop where
  sub : (zs.map (·.1)).Sublist (names.take k)
  ok : ∀ z ∈ zs, NameOk z.1 ∧ 0 < z.2.length ∧ z.2.length ≤ 30 ∧ Rises z.2 ∧ ∀ a ∈ z.2, a ∈ kn
  tk : ∀ a ∈ told, a ∈ kn
  tn : told.Nodup
  tl : told.length ≤ 30
  dj : zs.Pairwise fun a b => ∀ x ∈ a.2, x ∉ b.2
  td : ∀ z ∈ zs, ∀ a ∈ z.2, a ∉ told
theorem rises_of {ms : List Int} (h : ms.Pairwise (· ≤ ·)) (hn : ms.Nodup) : Rises ms := fun i x y hx hy => by
  have hlt : ms.Pairwise (· < ·) := (h.and hn).imp fun ⟨a, b⟩ => by omega
  obtain ⟨h1, e1⟩ := List.getElem?_eq_some_iff.mp hx
  obtain ⟨h2, e2⟩ := List.getElem?_eq_some_iff.mp hy
  have := List.pairwise_iff_getElem.mp hlt i (i + 1) h1 h2 (by omega)
  rw [e1, e2] at this
  exact this
theorem ZInv.step {kn : List Int} {names : List Str} {k : Nat} {zs : List (Str × List Int)} {told sel ms : List Int} {n : Str} (h : ZInv kn names k zs told) (hn : names[k]? = some n) (hno : NameOk n) (hs : sel.Sublist told) (hp : ms.Perm sel) (hw : ms.Pairwise (· ≤ ·)) :
    (0 < ms.length → ZInv kn names (k + 1) (zs ++ [(n, ms)]) (told.filter fun a => !decide (a ∈ ms))) ∧ (ms.length = 0 → ZInv kn names (k + 1) zs (told.filter fun a => !decide (a ∈ ms))) := by
  have hmt : ∀ a ∈ ms, a ∈ told := fun a ha => hs.subset (hp.subset ha)
  have hmn : ms.Nodup := hp.nodup_iff.mpr (h.tn.sublist hs)
  have htk : ∀ a ∈ told.filter (fun a => !decide (a ∈ ms)), a ∈ kn := fun a ha => h.tk a (List.mem_filter.mp ha).1
  have htl : (told.filter fun a => !decide (a ∈ ms)).length ≤ 30 := Nat.le_trans (List.length_filter_le _ _) h.tl
  have hml : ms.length ≤ 30 := by
    rw [hp.length_eq]
    exact Nat.le_trans hs.length_le h.tl
  have htake : names.take (k + 1) = names.take k ++ [n] := by
    rw [List.take_add_one, hn]
    rfl
  refine ⟨fun h0 => ⟨?_, fun z hz => ?_, htk, h.tn.sublist List.filter_sublist, htl, ?_, fun z hz a ha hat => ?_⟩, fun _ => ⟨?_, h.ok, htk, h.tn.sublist List.filter_sublist, htl, h.dj, fun z hz a ha hat => h.td z hz a ha (List.mem_filter.mp hat).1⟩⟩
  · rw [htake, List.map_append]
    exact h.sub.append (List.Sublist.refl _)
  · rcases List.mem_append.mp hz with hz | hz
    · exact h.ok z hz
    · rw [List.mem_singleton.mp hz]
      exact ⟨hno, h0, hml, rises_of hw hmn, fun a ha => h.tk a (hmt a ha)⟩
  · refine List.pairwise_append.mpr ⟨h.dj, List.pairwise_singleton .., fun a ha b hb x hx hxb => ?_⟩
    rw [List.mem_singleton.mp hb] at hxb
    exact h.td a ha x hx (hmt x hxb)
  · obtain ⟨h1, h2⟩ := List.mem_filter.mp hat
    rcases List.mem_append.mp hz with hz | hz
    · exact h.td z hz a ha h1
    · rw [List.mem_singleton.mp hz] at ha
      simp [show a ∈ ms from ha] at h2
  · rw [htake]
    exact h.sub.trans (List.sublist_append_left ..)
theorem plan_ok {ls : List (List Pl)} {names : List Str} {k : Nat} {zs : List (Str × List Int)} {told : List Int} {m : Nat} {r : Nat} (h1 : 1 ≤ ls.length) (h2 : ls.length ≤ 3) (lo : ∀ l ∈ ls, LoopOk l) (ad : (ls.flatMap addrsOf).Nodup) (a1 : 1 ≤ (ls.flatMap addrsOf).length) (a2 : (ls.flatMap addrsOf).length ≤ 30)
    (hm : ∀ l ∈ ls, ∀ n ∈ lensOf l, n ≤ m) (ha : ∀ a ∈ ls.flatMap addrsOf, 1 ≤ a ∧ a ≤ 99) (hnd : names.Nodup) (hnl : names.length ≤ 4) (hz : ZInv (ls.flatMap toldL) names k zs told) : PlanOk ⟨if (m : Int) + (r : Nat) < 30 then (m : Int) + (r : Nat) else 30, ls, zs⟩ := by
  have hsum : ∀ l ∈ ls, ∀ n ∈ lensOf l, n ≤ 30 := fun l hl n hn => by
    have q1 := le_sum hn
    rw [lens_sum] at q1
    have q2 := flat_mem_len (g := addrsOf) hl
    omega
  have hpos : 1 ≤ m := by
    refine Nat.pos_of_ne_zero fun e => ?_
    subst e
    have : (ls.flatMap addrsOf) = [] := List.flatMap_eq_nil_iff.mpr fun l hl => by
      have q := lens_sum l
      rw [sum_zero fun n hn => Nat.le_zero.mp (hm l hl n hn)] at q
      exact List.length_eq_zero_iff.mp q.symm
    rw [this] at a1
    simp at a1
  have hdl : (devicesOf ⟨if (m : Int) + (r : Nat) < 30 then (m : Int) + (r : Nat) else 30, ls, zs⟩).length = (ls.flatMap addrsOf).length := by
    have := congrArg List.length (addr_plain ⟨if (m : Int) + (r : Nat) < 30 then (m : Int) + (r : Nat) else 30, ls, zs⟩)
    rw [List.length_map] at this
    exact this
  have hzl : zs.length ≤ 4 := by
    have := hz.sub.length_le
    rw [List.length_map, List.length_take] at this
    omega
  refine ⟨?_, ?_, h1, h2, lo, by show zs.length ≤ 8; omega, fun z hzz => ?_, ?_, by rw [hdl]; exact a1, by rw [hdl]; exact a2, by rw [addr_plain]; exact ad, fun l hl n hn => ?_, fun z hzz a haa => ?_, hz.dj⟩
  · dsimp only
    split <;> omega
  · dsimp only
    split <;> omega
  · obtain ⟨q1, q2, q3, q4, q5⟩ := hz.ok z hzz
    exact ⟨q1, q3, q2, fun n hn => ha n ((toldS_sub ls).subset (q5 n hn)), q4⟩
  · exact hnd.sublist (hz.sub.trans (List.take_sublist ..))
  · have q1 := hm l hl n hn
    have q2 := hsum l hl n hn
    dsimp only
    split <;> omega
  · rw [known_plain]
    exact (hz.ok z hzz).2.2.2.2 a haa
abbrev strides : List Int := [1, 2, 4, 5, 7, 8, 10, 13, 98]
def numsOf (st s : Int) : List Int := (List.range 30).map fun k : Nat => (st + s * (k : Nat)) % 99 + 1
theorem nums_ok {st s : Int} : ∀ x ∈ numsOf st s, 1 ≤ x ∧ x ≤ 99 := fun x hx => by
  obtain ⟨k, _, rfl⟩ := List.mem_map.mp hx
  have h1 := Int.emod_nonneg (st + s * (k : Nat)) (b := 99) (by omega)
  have h2 := Int.emod_lt_of_pos (st + s * (k : Nat)) (b := 99) (by omega)
  omega
theorem nums_len (st s : Int) : (numsOf st s).length = 30 := by simp [numsOf]
theorem nums_nodup {st s : Int} (h : s ∈ strides) : (numsOf st s).Nodup := by
  unfold numsOf List.Nodup
  rw [List.pairwise_map]
  refine List.pairwise_iff_getElem.mpr fun i j hi hj hij e => ?_
  rw [List.length_range] at hi hj
  rw [List.getElem_range, List.getElem_range] at e
  simp only [strides, List.mem_cons, List.not_mem_nil, or_false] at h
  rcases h with rfl | rfl | rfl | rfl | rfl | rfl | rfl | rfl | rfl <;> omega
theorem stride_at {r : Nat} (h : r < 9) : ∃ s : Int, atI (strides.map U.int) ((r : Nat) : Int) = some (.int s) ∧ s ∈ strides := by
  have hr : strides[r]? = some strides[r] := List.getElem?_eq_getElem h
  exact ⟨strides[r], atI_nat (by rw [List.getElem?_map, hr]; rfl), List.getElem_mem _⟩
def maxN : List Nat → Nat
  | [] => 0
  | n :: ns => max n (maxN ns)
theorem le_maxN {ns : List Nat} {n : Nat} (h : n ∈ ns) : n ≤ maxN ns := by
  induction ns with
  | nil => cases h
  | cons a ns ih =>
    show n ≤ max a (maxN ns)
    rcases List.mem_cons.mp h with e | h
    · omega
    · have := ih h
      omega
theorem maxN_le {ns : List Nat} {m : Nat} (h : ∀ n ∈ ns, n ≤ m) : maxN ns ≤ m := by
  induction ns with
  | nil => exact Nat.zero_le _
  | cons a ns ih =>
    show max a (maxN ns) ≤ m
    have h1 := h a (List.mem_cons_self ..)
    have h2 := ih fun n hn => h n (List.mem_cons_of_mem _ hn)
    omega
theorem max_eq {ns : List Nat} {m : Int} (h1 : m ∈ ns.map fun n : Nat => (n : Int)) (h2 : ∀ y ∈ ns.map (fun n : Nat => (n : Int)), y ≤ m) : m = (maxN ns : Nat) := by
  obtain ⟨n, hn, rfl⟩ := List.mem_map.mp h1
  have := le_maxN hn
  have := maxN_le (ns := ns) (m := n) fun y hy => by
    have := h2 _ (List.mem_map.mpr ⟨y, hy, rfl⟩)
    omega
  omega
theorem cut_take (us : List U) (k : Nat) : cutU us none (some (k : Int)) = us.take k := by
  unfold cutU
  have h1 : HT.sIx us.length us.length (some (k : Int)) = min k us.length := HT.sIx_nat us.length us.length k
  have h2 : HT.sIx us.length 0 none = 0 := rfl
  rw [h1, h2, List.drop_zero, Nat.sub_zero]
  by_cases h : k ≤ us.length
  · rw [Nat.min_eq_left h]
  · rw [Nat.min_eq_right (by omega), List.take_of_length_le (Nat.le_refl _), List.take_of_length_le (by omega)]
def prs : Pl → List Dev
  | .op => [⟨"opener", 0⟩]
  | .dev d sp => d :: sp
theorem prs_told (x : Pl) : ((prs x).filter fun d => decide (d.kind ∈ (["seeker", "knob"] : List Str))).map (·.addr) = toldOf x := by
  cases x with
  | op =>
    have e : decide (("opener" : Str) ∈ (["seeker", "knob"] : List Str)) = false := by decide +kernel
    simp only [prs, toldOf, Pl.devs, List.filter_cons, List.filter_nil, e, Bool.false_eq_true, if_false, List.map_nil]
  | dev d sp => rfl
theorem own_ok (fi : List Pl) (own : Int) (r : Nat) (rest : List Int) : (addrsOf (fi.take r ++ [Pl.dev ⟨"seeker", own⟩ []] ++ fi.drop r) ++ rest).Perm (own :: (addrsOf fi ++ rest)) := by
  have e : addrsOf (fi.take r ++ [Pl.dev ⟨"seeker", own⟩ []] ++ fi.drop r) = addrsOf (fi.take r) ++ own :: addrsOf (fi.drop r) := by
    unfold addrsOf
    rw [List.flatMap_append, List.flatMap_append, List.append_assoc]
    rfl
  have e2 : addrsOf fi = addrsOf (fi.take r) ++ addrsOf (fi.drop r) := by
    unfold addrsOf
    rw [← List.flatMap_append, List.take_append_drop]
  rw [e, e2]
  exact (List.perm_middle.append_right rest)
end Wl
set_option Elab.async false
set_option linter.all false
set_option maxRecDepth 100000
set_option maxHeartbeats 4000000
/-! two drawn faults, sorted, stand in the order of the singles -/
namespace Wl
open PySem PySem.Spec PyProof.Rows L2
def ltSp (s t : Spot) : Prop := s.1 = t.1 ∧ (s.2.1 < t.2.1 ∨ (s.2.1 = t.2.1 ∧ s.2.2 < t.2.2))
theorem str_pair (i : Nat) (l : List Pl) : (loopStr i l).Pairwise ltSp := by
  rw [loopStr_at, List.pairwise_flatMap]
  refine ⟨fun c _ => ?_, List.pairwise_lt_range.imp fun {a b} hab x hx y hy => ?_⟩
  · unfold strAt
    rw [List.pairwise_map]
    exact List.pairwise_lt_range.imp fun {a b} hab => ⟨rfl, Or.inr ⟨rfl, hab⟩⟩
  · obtain ⟨_, _, rfl⟩ := List.mem_map.mp hx
    obtain ⟨_, _, rfl⟩ := List.mem_map.mp hy
    exact ⟨rfl, Or.inl hab⟩
theorem singles_pair (i : Nat) (l : List Pl) : (singlesOf i l).Pairwise fun a b => a.1 = b.1 ∨ ltSp a.1 b.1 := by
  unfold singlesOf
  rw [List.pairwise_flatMap]
  refine ⟨fun s _ => ?_, (str_pair i l).imp fun {a b} hab x hx y hy => ?_⟩
  · refine List.pairwise_cons.mpr ⟨fun y hy => ?_, List.pairwise_singleton ..⟩
    rw [List.mem_singleton.mp hy]
    exact Or.inl rfl
  · have e1 : x.1 = a := by
      rcases List.mem_cons.mp hx with e | hx
      · rw [e]
      · rw [List.mem_singleton.mp hx]
    have e2 : y.1 = b := by
      rcases List.mem_cons.mp hy with e | hy
      · rw [e]
      · rw [List.mem_singleton.mp hy]
    rw [e1, e2]
    exact Or.inr hab
theorem singles_lt {i : Nat} {l : List Pl} {a b : Nat} {x y : Fl} (hx : (singlesOf i l)[a]? = some x) (hy : (singlesOf i l)[b]? = some y) (hab : a < b) (hne : x.1 ≠ y.1) : ltSp x.1 y.1 := by
  obtain ⟨h1, e1⟩ := List.getElem?_eq_some_iff.mp hx
  obtain ⟨h2, e2⟩ := List.getElem?_eq_some_iff.mp hy
  have := List.pairwise_iff_getElem.mp (singles_pair i l) a b h1 h2 hab
  rw [e1, e2] at this
  exact this.resolve_left hne
theorem toks_fl (s : Spot) (h : Str) : PySem.W.keyToks (toPy (eFl (s, h))) = [.inl 1, .inl 1, .inl (s.1 : Nat), .inl 1, .inl (s.2.1 : Nat), .inl 1, .inl (s.2.2 : Nat), .inl 0, .inl 1, .inr h.cps.toList, .inl 0] := by
  simp only [eFl, eSp, toPy, toPyA, PySem.W.keyToks, PySem.W.keyToksAll, List.cons_append, List.nil_append, List.append_nil]
theorem item_irr (a : Int) : itemLt (.inl a) (.inl a) = false := by
  show decide (a < a) = false
  simp
theorem lex_lt {s t : Spot} (h : ltSp s t) (g k : Str) : PyProof.Rows.lexLt itemOrd (PySem.W.keyToks (toPy (eFl (s, g)))) (PySem.W.keyToks (toPy (eFl (t, k)))) = true ∧ PyProof.Rows.lexLt itemOrd (PySem.W.keyToks (toPy (eFl (t, k)))) (PySem.W.keyToks (toPy (eFl (s, g)))) = false := by
  obtain ⟨a, b, c⟩ := s
  obtain ⟨a', b', c'⟩ := t
  obtain ⟨e, h⟩ := h
  dsimp only at e h
  subst e
  rw [toks_fl, toks_fl]
  rcases h with h | ⟨e, h⟩
  · have h1 : itemLt (.inl ((b : Nat) : Int)) (.inl ((b' : Nat) : Int)) = true := decide_eq_true (by omega)
    have h2 : itemLt (.inl ((b' : Nat) : Int)) (.inl ((b : Nat) : Int)) = false := decide_eq_false (by omega)
    simp only [PyProof.Rows.lexLt, itemOrd, item_irr, h1, h2, Bool.not_false, Bool.not_true, Bool.true_and, Bool.false_and, Bool.or_false, Bool.false_or, Bool.true_or, and_self, Bool.and_true]
  · subst e
    have h1 : itemLt (.inl ((c : Nat) : Int)) (.inl ((c' : Nat) : Int)) = true := decide_eq_true (by omega)
    have h2 : itemLt (.inl ((c' : Nat) : Int)) (.inl ((c : Nat) : Int)) = false := decide_eq_false (by omega)
    simp only [PyProof.Rows.lexLt, itemOrd, item_irr, h1, h2, Bool.not_false, Bool.not_true, Bool.true_and, Bool.false_and, Bool.or_false, Bool.false_or, Bool.true_or, and_self, Bool.and_true]
theorem le_fl {x y : Fl} (h : ltSp x.1 y.1) : leU (eFl x) (eFl y) = true ∧ leU (eFl y) (eFl x) = false := by
  obtain ⟨h1, h2⟩ := lex_lt h x.2 y.2
  constructor
  · show (!PyProof.Rows.lexLt itemOrd (PySem.W.keyToks (toPy (eFl y))) (PySem.W.keyToks (toPy (eFl x)))) = true
    rw [show eFl y = eFl (y.1, y.2) from rfl, show eFl x = eFl (x.1, x.2) from rfl, h2]
    rfl
  · show (!PyProof.Rows.lexLt itemOrd (PySem.W.keyToks (toPy (eFl x))) (PySem.W.keyToks (toPy (eFl y)))) = false
    rw [show eFl y = eFl (y.1, y.2) from rfl, show eFl x = eFl (x.1, x.2) from rfl, h1]
    rfl
theorem sort_two {a b : U} (h1 : leU a b = true) : [a, b].mergeSort leU = [a, b] := by
  simp [List.mergeSort, List.MergeSort.Internal.splitInTwo, h1]
theorem sort_two' {a b : U} (h1 : leU a b = false) : [a, b].mergeSort leU = [b, a] := by
  simp [List.mergeSort, List.MergeSort.Internal.splitInTwo, h1]
theorem pair_in {S : List Fl} {a b : Nat} {x y : Fl} (hx : S[a]? = some x) (hy : S[b]? = some y) (hab : a < b) (hne : x.1 ≠ y.1) {m : Int} (hm : 2 ≤ m) : [x, y] ∈ setsOf S m := by
  unfold setsOf
  rw [if_pos (show (1 : Int) < m by omega)]
  refine List.mem_append_right _ (List.mem_flatMap.mpr ⟨(x, a), List.mem_zipIdx_iff_getElem?.mpr hx, List.mem_map.mpr ⟨y, List.mem_filter.mpr ⟨?_, by simpa using fun e => hne e.symm⟩, rfl⟩⟩)
  refine List.mem_of_getElem? (i := b - (a + 1)) ?_
  rw [List.getElem?_drop, show a + 1 + (b - (a + 1)) = b from by omega]
  exact hy
theorem one_in {S : List Fl} {x : Fl} (hx : x ∈ S) {m : Int} (hm : 1 ≤ m) : [x] ∈ setsOf S m := by
  unfold setsOf
  rw [if_pos (show (0 : Int) < m by omega)]
  exact List.mem_append_left _ (List.mem_append_right _ (List.mem_map.mpr ⟨x, hx, rfl⟩))
theorem none_in (S : List Fl) (m : Int) : [] ∈ setsOf S m := by
  unfold setsOf
  exact List.mem_append_left _ (List.mem_append_left _ (List.mem_singleton.mpr rfl))
theorem singles_how {i : Nat} {l : List Pl} {x : Fl} (h : x ∈ singlesOf i l) : x.2 = "cut" ∨ x.2 = "short" := by
  obtain ⟨s, _, hx⟩ := List.mem_flatMap.mp h
  rcases List.mem_cons.mp hx with e | hx
  · rw [e]; exact Or.inl rfl
  · rw [List.mem_singleton.mp hx]; exact Or.inr rfl
theorem pln_fl {x : Fl} (h : x.2 = "cut" ∨ x.2 = "short") : pln 2 (eFl x) = true := by
  obtain ⟨s, k⟩ := x
  dsimp only at h
  rcases h with rfl | rfl
  · show (decide (0 < 2) && (pln 1 (eSp s) && (PyData.strOk "cut" && true))) = true
    rw [pln_sp]
    decide +kernel
  · show (decide (0 < 2) && (pln 1 (eSp s) && (PyData.strOk "short" && true))) = true
    rw [pln_sp]
    decide +kernel
theorem alike_fl (xs : List Fl) : PySem.W.AllAlike ((xs.map eFl).map toPy) := by
  rw [List.map_map]
  exact PySem.W.AllAlike.of fun a b => by
    simp only [Function.comp, eFl, eSp, toPy, toPyA, PySem.W.alike, PySem.W.alikeAll, Bool.and_self]
theorem sort_fl (xs : List Fl) : PySem.W.Sortable ((xs.map eFl).map toPy) := by
  rw [List.map_map]
  exact PySem.W.Sortable.tuples fun b => ⟨_, _, by simp only [Function.comp, eFl, toPy, toPyA]; rfl⟩
theorem singles_pos (i : Nat) (l : List Pl) : 1 ≤ (singlesOf i l).length := by
  unfold singlesOf loopStr
  simp
end Wl
set_option Elab.async false
set_option linter.all false
set_option maxRecDepth 100000
set_option maxHeartbeats 4000000
/-! set(t), t a tuple of tuples of ints; len(set(xs)), xs unlike texts -/
namespace Wl
open PySem PySem.Spec PyProof.Rows L2
abbrev set0 (w : World) : Obj := { cls := .type "set", dict := none, data := .set #[] 0 (.fresh 0 0 (!w.params.followText "set-order")) }
section
variable {P : Program} {w : World} {A : Around} {E : Value → Shared → Prop} {s : Shared}
theorem none_past {h : Heap} {b : Addr} (hb : h.objs.size ≤ b) : h.get? b = none := by
  cases q : h.get? b with
  | none => rfl
  | some o => exact absurd (Nat.lt_of_lt_of_le (Heap.lt_size q) hb) (Nat.lt_irrefl _)
theorem set_of_tup {l : Addr} {items : Array Value} (ks : List (Addr × List Int)) {Q : Value → Shared → Prop} (hh : A.handled = none) (hl : s.heap.IsTuple l items) (hit : items.toList = ks.map fun p => Value.ref p.1) (hk : ∀ p ∈ ks, IsT P w s.heap p.2 p.1)
    (hfew : ks.length < 64) (hu : A.units + 3 < cLine)
    (h : ∀ (h' : Heap) (tk : Nat) L es ep t, SetTR P w h' s.heap.objs.size L es ep t → Got ks ks.length L → (∀ b o, s.heap.get? b = some o → h'.get? b = some o) → Q (.ref s.heap.objs.size) { s with heap := h', toks := tk }) :
    wpAny (model P w) A (call (.type "set") [.ref l]) Q E s := by
  have hn : items.size = ks.length := by
    rw [← Array.length_toList, hit, List.length_map]
  obtain ⟨c, tl, hmro⟩ := PySem.F.called_set.mro
  have m1 := PySem.F.called_set.made
  have m2 := PySem.F.called_set.sub
  refine wpAny_call (codeAny_of_tree ?_)
  show wpAny _ _ (callAny (.type "set") _) _ _ _
  refine wpAny_pure ⟨Code.quiet_builtin _ (by decide +kernel), codeAny_builtin PySem.F.entry_type_call ?_⟩
  rw [Around.under_plain (weight_type_call_type "set" [.ref l] []) rfl]
  have m3 := PySem.F.called_set.notType
  have m4 := PySem.F.called_set.canCreate
  have m5 := PySem.F.typeCall_set_1 (.ref l)
  repeat (any_goals (first | assumption | wp_step))
  refine codeAny_mono (code_set_led1 (.ref l) (E := E) (Q₁ := fun x s2 => x = .ref s.heap.objs.size ∧ s2 = { s with heap := s.heap.push (set0 w) }) ⟨rfl, rfl⟩) fun r s2 hr => ?_
  cases r with
  | error e => exact hr
  | ok fl =>
    cases fl with
    | ret x =>
      obtain ⟨rfl, rfl⟩ := hr
      have hS : (s.heap.push (set0 w)).get? s.heap.objs.size = some (set0 w) := Heap.get?_push_size _ rfl
      have hT : Shared.TypeIs { s with heap := s.heap.push (set0 w) } (.ref s.heap.objs.size) "set" := ⟨_, hS, rfl⟩
      have m6 := PySem.F.called_set.init.lookup
      have m7 := PySem.F.called_set.init.bind (.ref s.heap.objs.size)
      repeat (any_goals (first | assumption | wp_step))
      refine codeAny_mono (codeAny_call_builtin (R := wants (fun r s3 => r = .none ∧ ∃ h' tk L es ep t, s3 = { s with heap := h', toks := tk } ∧ SetTR P w h' s.heap.objs.size L es ep t ∧ Got ks ks.length L ∧ (∀ b o, s.heap.get? b = some o → h'.get? b = some o)) E) PySem.F.called_set.init.plain PySem.F.entry_set_init (check_set_init_1 hT ?_)) fun r3 s3 hr3 => ?_
      · obtain ⟨⟨ocls, odict, odata, oslots⟩, hol, hcl, nl, hdl⟩ := hl
        simp only at hcl hdl
        subst hcl hdl
        have hol' : (s.heap.push (set0 w)).get? l = some { cls := .type "tuple", dict := odict, data := .seq items nl, slots := oslots } := Heap.get?_push_of_some _ hol
        have m8 := PySem.F.sub_tuple_set
        have m9 := PySem.F.sub_tuple_frozenset
        have m10 : (Value.type "tuple" == Value.type "dict") = false := by decide
        have hl1 : (s.heap.push (set0 w)).IsTuple l items := ⟨_, hol', rfl, nl, rfl⟩
        unfold Builtin.«set.__init__» noKeywords Builtin.Frozenset.updateFrom
        generalize hPI : pyIter = PI
        wp_walk
        subst hPI
        refine wpAny_pyIter_tuple hl1 ?_
        refine wpAny_bind (wpAny_runValue ?_)
        have hlS : l < s.heap.objs.size := Heap.lt_size hol
        have hh3 : A.in1.in1.in1.handled = none := by simp [hh]
        have hz : (s.heap.push (set0 w)).objs.size = s.heap.objs.size + 1 := Heap.size_push ..
        have hneI : l ≠ (s.heap.push (set0 w)).objs.size := by
          rw [hz]
          exact Nat.ne_of_lt (Nat.lt_succ_of_lt hlS)
        have hSf : s.heap.objs.size ∉ [(s.heap.push (set0 w)).objs.size, l] := by
          rw [hz]
          simp only [List.mem_cons, List.not_mem_nil, or_false, not_or]
          exact ⟨Nat.ne_of_lt (Nat.lt_succ_self _), Nat.ne_of_gt hlS⟩
        have hval : ∀ (i : Nat) (v : Value), items[i]? = some v → ∃ p, ks[i]? = some p ∧ v = .ref p.1 := fun i v hv => by
          rw [← Array.getElem?_toList, hit, List.getElem?_map] at hv
          cases hq : ks[i]? with
          | none => rw [hq] at hv; cases hv
          | some p =>
            rw [hq] at hv
            exact ⟨p, rfl, (Option.some.inj hv).symm⟩
        refine set_update_tups ((Walks.tuple hh3 _ l hneI items).toS) s.heap.objs.size hSf ks hn hfew hval s.heap hk (none_past (Nat.le_refl _)) (fun b hb => none_past (by
            rw [List.mem_singleton.mp hb, hz]
            exact Nat.le_succ _)) hu (items.size - 0) 0 _ (by omega) (Nat.zero_le _) ⟨⟨_, Heap.get?_push_size _ rfl, rfl, rfl⟩, (hl1.push _)⟩ (fun b o e => Heap.get?_push_of_some _ (Heap.get?_push_of_some _ e)) ⟨[], #[], 0, _, setTR_fresh (Heap.get?_push_of_some _ hS), Got.zero ks⟩ fun s4 L es ep t hm hS4 g4 hkp => ?_
        obtain ⟨h4, gs, ds, tk, os⟩ := s4
        obtain rfl : gs = s.gens := hm.gens
        obtain rfl : ds = s.drawn := hm.drawn
        obtain rfl : os = s.os := hm.os
        show wpAny _ _ _ _ _ _
        refine wpAny_pure ?_
        show wpAny _ _ (ret Value.none) _ _ _
        rw [hn] at g4
        exact wpAny_pure ⟨rfl, h4, tk, L, es, ep, t, rfl, hS4, g4, hkp⟩
      · cases r3 with
        | error e => exact hr3
        | ok fl3 =>
          cases fl3 with
          | ret y =>
            obtain ⟨rfl, h4, tk, L, es, ep, t, rfl, q1, q2, q3⟩ := hr3
            repeat (any_goals (first | assumption | wp_step))
            exact h _ _ _ _ _ _ q1 q2 q3
          | _ => exact hr3.elim
    | _ => exact hr.elim
end
/-! texts -/
section
variable {P : Program} {w : World} {A : Around} {E : Value → Shared → Prop} {s : Shared}
theorem text_at {us : List Value} {xs : List Str} (h : StrsAre us xs) {i : Nat} {v : Value} (e : us[i]? = some v) : ∃ x t, xs[i]? = some x ∧ v = .str x t := by
  induction h generalizing i with
  | nil => simp at e
  | cons n t hr ih =>
    cases i with
    | zero =>
      simp only [List.getElem?_cons_zero, Option.some.injEq] at e
      exact ⟨n, t, rfl, e.symm⟩
    | succ i =>
      simp only [List.getElem?_cons_succ] at e ⊢
      exact ih e
theorem text_new {xs : List Str} {i : Nat} {x : Str} (hn : xs.Nodup) (e : xs[i]? = some x) : (xs.take i).any (· == x) = false := by
  obtain ⟨hi, e⟩ := List.getElem?_eq_some_iff.mp e
  rw [List.any_eq_false]
  intro y hy q
  obtain ⟨j, hj, e2⟩ := List.getElem_of_mem hy
  rw [List.length_take] at hj
  rw [List.getElem_take] at e2
  have q2 : y = x := eq_of_beq q
  have := List.pairwise_iff_getElem.mp hn j i (by omega) hi (by omega)
  exact this (e2.trans (q2.trans e.symm))
theorem texts_loop {I : Addr} {fp wr : List Addr} {G : Array GenState → Array GenState → Prop} {n : Nat} {Pv : Nat → Value → Prop} {St : Nat → Shared → Prop} {R : Result → Shared → Prop} (W : WalksS P w A.in1 I fp wr G n Pv St) (S : Addr) (hSf : S ∉ fp) (xs : List Str) (hl : xs.length = n) (hf : n < 1000) (hnd : xs.Nodup) (hval : ∀ i v, Pv i v → ∃ x t, xs[i]? = some x ∧ v = .str x t) :
    ∀ (k i : Nat) (s : Shared), n - i = k → i ≤ n → St i s → s.heap.SetOf (PySem.strKind P w) S (fun z => (xs.take i).any (· == z)) i → (∀ s', Moved (S :: wr) G s s' → s'.heap.SetOf (PySem.strKind P w) S (fun z => (xs.take n).any (· == z)) n → R (.ok (.ret .none)) s') →
      codeAny (model P w) A (.builtin "set.update.loop" ⟨[.ref S, .ref I], []⟩) R s := by
  have hSw : S ∉ wr := fun h => hSf (W.sub _ h)
  have up : ∀ b ∈ wr, b ∈ S :: wr := fun b hb => List.mem_cons_of_mem _ hb
  have still : ∀ {a a' : Shared} {F : Str → Bool} {m : Nat}, Moved wr G a a' → a.heap.SetOf (PySem.strKind P w) S F m → a'.heap.SetOf (PySem.strKind P w) S F m := fun hm ⟨o, es, ep, t, ho, rest⟩ => ⟨o, es, ep, t, hm.heap S _ hSw ho, rest⟩
  intro k
  induction k with
  | zero =>
    intro i s hk hi hst hS hR
    obtain rfl : i = n := by omega
    refine codeAny_builtin PyProof.Rows.F.entry_set_update_loop ?_
    rw [Around.under_plainId PyProof.Rows.F.plain_set_update_loop _]
    show wpAny _ A.in1 (pyNext (.ref I) >>= _) _ _ s
    refine wpAny_bind (W.done s _ _ hst fun s2 hm => ?_)
    show wpAny _ A.in1 (ret Value.none) _ _ s2
    exact wpAny_pure (hR s2 (hm.mono up) (still hm hS))
  | succ k ih =>
    intro i s hk hi hst hS hR
    refine codeAny_builtin PyProof.Rows.F.entry_set_update_loop ?_
    rw [Around.under_plainId PyProof.Rows.F.plain_set_update_loop _]
    show wpAny _ A.in1 (pyNext (.ref I) >>= _) _ _ s
    refine wpAny_bind (W.item i s _ _ (by omega) hst fun v s2 hP hst2 hm => ?_)
    obtain ⟨x, t, hx, rfl⟩ := hval i v hP
    show wpAny _ A.in1 (holding [Value.str x t] (setAdd S (.str x t)) >>= _) _ _ s2
    refine wpAny_bind (wpAny_holding ?_)
    unfold setAdd
    refine wpAny_holding ?_
    refine wpAny_bind ((PySem.strKind P w).pyHash (k := x) (strKind_is _ _ _ _) ?_)
    have hS2 := still hm hS
    refine wpAny_setAddHashed_of (knd := PySem.strKind P w) (s := { s2 with toks := s2.toks + 1 }) (strKind_is _ _ _ _) rfl hS2 (by unfold scanBound; omega) fun h3 hsb hS3 => ?_
    have hS4 : h3.SetOf (PySem.strKind P w) S (fun z => (xs.take (i + 1)).any (· == z)) (i + 1) := by
      refine SetOf_congr hS3 (fun z => ?_) (by rw [text_new hnd hx]; rfl)
      rw [List.take_add_one, hx, List.any_append]
      refine congrArg _ ?_
      show decide (z = x) = ((x == z) || false)
      rw [Bool.or_false]
      by_cases e : z = x
      · subst e
        simp
      · rw [decide_eq_false e]
        exact (beq_eq_false_iff_ne.mpr fun q => e q.symm).symm
    refine wpAny_pure ⟨plainId_quiet PyProof.Rows.F.plain_set_update_loop _, ih (i + 1) _ (by omega) (by omega) (W.frame _ s2 _ _ hst2 (Nat.le_succ _) fun b hb o e => ?_) hS4 fun s5 hm5 hS5 => hR s5 (Moved.trans W.gtrans ((hm.mono up).then_heap (Nat.le_succ _) fun b o hb e => ?_) hm5) hS5⟩
    · exact (hsb.2 b fun q => hSf (q ▸ hb)).trans e
    · exact (hsb.2 b fun q => hb (q ▸ List.mem_cons_self)).trans e
theorem set_of_texts {l : Addr} {items : Array Value} {xs : List Str} {Q : Value → Shared → Prop} (hh : A.handled = none) (hl : s.heap.IsList l items) (hi : StrsAre items.toList xs) (hf : xs.length < 1000) (hnd : xs.Nodup)
    (h : ∀ (h' : Heap) (tk : Nat), h'.SetOf (PySem.strKind P w) s.heap.objs.size (fun z => (xs.take items.size).any (· == z)) items.size → (∀ b o, s.heap.get? b = some o → h'.get? b = some o) → Q (.ref s.heap.objs.size) { s with heap := h', toks := tk }) :
    wpAny (model P w) A (call (.type "set") [.ref l]) Q E s := by
  have hn : xs.length = items.size := by rw [← StrsAre.len_eq hi, Array.length_toList]
  obtain ⟨c, tl, hmro⟩ := PySem.F.called_set.mro
  have m1 := PySem.F.called_set.made
  have m2 := PySem.F.called_set.sub
  refine wpAny_call (codeAny_of_tree ?_)
  show wpAny _ _ (callAny (.type "set") _) _ _ _
  refine wpAny_pure ⟨Code.quiet_builtin _ (by decide +kernel), codeAny_builtin PySem.F.entry_type_call ?_⟩
  rw [Around.under_plain (weight_type_call_type "set" [.ref l] []) rfl]
  have m3 := PySem.F.called_set.notType
  have m4 := PySem.F.called_set.canCreate
  have m5 := PySem.F.typeCall_set_1 (.ref l)
  repeat (any_goals (first | assumption | wp_step))
  refine codeAny_mono (code_set_led1 (.ref l) (E := E) (Q₁ := fun x s2 => x = .ref s.heap.objs.size ∧ s2 = { s with heap := s.heap.push (set0 w) }) ⟨rfl, rfl⟩) fun r s2 hr => ?_
  cases r with
  | error e => exact hr
  | ok fl =>
    cases fl with
    | ret x =>
      obtain ⟨rfl, rfl⟩ := hr
      have hS : (s.heap.push (set0 w)).get? s.heap.objs.size = some (set0 w) := Heap.get?_push_size _ rfl
      have hT : Shared.TypeIs { s with heap := s.heap.push (set0 w) } (.ref s.heap.objs.size) "set" := ⟨_, hS, rfl⟩
      have m6 := PySem.F.called_set.init.lookup
      have m7 := PySem.F.called_set.init.bind (.ref s.heap.objs.size)
      repeat (any_goals (first | assumption | wp_step))
      refine codeAny_mono (codeAny_call_builtin (R := wants (fun r s3 => r = .none ∧ ∃ h' tk, s3 = { s with heap := h', toks := tk } ∧ h'.SetOf (PySem.strKind P w) s.heap.objs.size (fun z => (xs.take items.size).any (· == z)) items.size ∧ (∀ b o, s.heap.get? b = some o → h'.get? b = some o)) E) PySem.F.called_set.init.plain PySem.F.entry_set_init (check_set_init_1 hT ?_)) fun r3 s3 hr3 => ?_
      · obtain ⟨⟨ocls, odict, odata, oslots⟩, hol, hcl, nl, hdl⟩ := hl
        simp only at hcl hdl
        subst hcl hdl
        have hol' : (s.heap.push (set0 w)).get? l = some { cls := .type "list", dict := odict, data := .seq items nl, slots := oslots } := Heap.get?_push_of_some _ hol
        have m8 := PySem.F.sub_list_set
        have m9 := PySem.F.sub_list_frozenset
        have m10 : (Value.type "list" == Value.type "dict") = false := by decide
        have hl1 : (s.heap.push (set0 w)).IsList l items := ⟨_, hol', rfl, nl, rfl⟩
        unfold Builtin.«set.__init__» noKeywords Builtin.Frozenset.updateFrom
        generalize hPI : pyIter = PI
        wp_walk
        subst hPI
        refine wpAny_pyIter_list hl1 ?_
        refine wpAny_bind (wpAny_runValue ?_)
        have hlS : l < s.heap.objs.size := Heap.lt_size hol
        have hh3 : A.in1.in1.in1.handled = none := by simp [hh]
        have hz : (s.heap.push (set0 w)).objs.size = s.heap.objs.size + 1 := Heap.size_push ..
        have hneI : l ≠ (s.heap.push (set0 w)).objs.size := by
          rw [hz]
          exact Nat.ne_of_lt (Nat.lt_succ_of_lt hlS)
        have hSf : s.heap.objs.size ∉ [(s.heap.push (set0 w)).objs.size, l] := by
          rw [hz]
          simp only [List.mem_cons, List.not_mem_nil, or_false, not_or]
          exact ⟨Nat.ne_of_lt (Nat.lt_succ_self _), Nat.ne_of_gt hlS⟩
        have hval : ∀ (i : Nat) (v : Value), items[i]? = some v → ∃ x t, xs[i]? = some x ∧ v = .str x t := fun i v hv => text_at hi (by rw [Array.getElem?_toList]; exact hv)
        refine texts_loop ((Walks.list hh3 _ l hneI items).toS) s.heap.objs.size hSf xs hn (by omega) hnd hval (items.size - 0) 0 _ (by omega) (Nat.zero_le _) ⟨⟨_, Heap.get?_push_size _ rfl, rfl, rfl⟩, (hl1.push _)⟩
          (SetOf_congr ((setObjOf_fresh (knd := PySem.strKind P w) _).setOf (Heap.get?_push_of_some _ hS) (by unfold scanBound; omega)) (fun _ => rfl) rfl) fun s4 hm hS4 => ?_
        obtain ⟨h4, gs, ds, tk, os⟩ := s4
        obtain rfl : gs = s.gens := hm.gens
        obtain rfl : ds = s.drawn := hm.drawn
        obtain rfl : os = s.os := hm.os
        show wpAny _ _ _ _ _ _
        refine wpAny_pure ?_
        show wpAny _ _ (ret Value.none) _ _ _
        refine wpAny_pure ⟨rfl, h4, tk, rfl, hS4, fun b o e => hm.heap b o (fun hb => ?_) (Heap.get?_push_of_some _ (Heap.get?_push_of_some _ e))⟩
        have hlt := Heap.lt_size e
        simp only [List.mem_cons, List.not_mem_nil, or_false] at hb
        rcases hb with rfl | rfl
        · exact Nat.lt_irrefl _ hlt
        · rw [hz] at hlt
          exact Nat.lt_irrefl _ (Nat.lt_of_succ_lt hlt)
      · cases r3 with
        | error e => exact hr3
        | ok fl3 =>
          cases fl3 with
          | ret y =>
            obtain ⟨rfl, h4, tk, rfl, q1, q2⟩ := hr3
            repeat (any_goals (first | assumption | wp_step))
            exact h _ _ q1 q2
          | _ => exact hr3.elim
    | _ => exact hr.elim
end
def tLenSS (K : PySem.W.Frag) (ta : TE) : TE := fun σ H Q => ta σ H fun x H1 => ∃ (l : Addr) (xs : List Str), x = .ref l ∧ SqL K H1 l (xs.map V.str) ∧ xs.Nodup ∧ xs.length < 1000 ∧ Q (.int xs.length) H1
theorem pe_lenSetS {X : Cx} {ta : TE} {a : Expr} {p p2 q pos : Pos} (hc : X.calm = true) (hg : Gl X "len") (hm : X.mg "len" = none) (hg2 : Gl X "set") (hm2 : X.mg "set" = none) (ha : PE X a ta)
    (na : starEach [a] X.env = (false, eval a X.env) :: starEach [] X.env := by rfl) : PE X (.Call (.Name "len" p) [.Call (.Name "set" p2) [a] [] q] [] pos) (tLenSS X.K ta) := by
  refine ⟨fun pins s σ H Q I h => ?_⟩
  refine Call_ (ld_blt I hg hm PySem.boot_len ?_)
  refine callWith_builtin1 (args_cons ?_ rfl) rfl rfl
  refine Call_ (ld_blt I hg2 hm2 boot_set ?_)
  refine callWith_type1 (args_cons (thn (ha.run pins s σ H _ I h) fun v s1 ⟨x, H1, I1, r1, q1⟩ => args_nil ?_) na) na rfl
  obtain ⟨l, xs, rfl, hq, hnd, hl, q1⟩ := q1
  cases r1
  obtain ⟨its, r, pl, hz⟩ := I1.list hq
  have hn : its.toArray.size = xs.length := by rw [List.size_toArray, ← r.length, List.length_map]
  refine set_of_texts (P := X.prog) (w := X.w) (I1.ok.hd hc) pl.isList (by simpa using strsAre_of r) hl hnd fun h' tk hS hk => args_nil ?_
  rw [hn] at hS
  obtain ⟨o, es, ep, t, ho, hex, hd, _, _, _, hf, hnn⟩ := hS
  have I2 : Inv X pins σ H1 { s1 with heap := h', toks := tk } := I1.kept fun b o e => hk b o e
  exact call_len_set ho hex hd hf (by rw [hnn]; omega) ⟨.int xs.length, H1, I2.tok _, ⟨_, by rw [hnn]⟩, q1⟩
def rSetTT (K : PySem.W.Frag) (P : Program) (w : World) : List V → Hp → VK → Prop := fun xs H Q => ∃ (l : Addr) (ks : List (Addr × List Int)), xs = [V.ref l] ∧ SqT K H l (ks.map fun p => V.ref p.1) ∧ ks.length < 64 ∧ (∀ p ∈ ks, SqT K H p.1 (p.2.map V.int)) ∧
  ∀ a L, H a = none → (∀ p ∈ L, p ∈ ks) → Q (.ref a) (upd H a (SetTO P w a L))
theorem cr_setTT {X : Cx} (hc : X.calm = true) (hu : X.A.units + 64 < cLine) : CallR X (.type "set") (rSetTT X.K X.prog X.w) := by
  intro pins s σ H xs us Q I r h
  obtain ⟨l, ks, rfl, hl, hf, hk, q⟩ := h
  rw [Vals.ref1 r]
  obtain ⟨its, rv, pl, hz⟩ := I.tuple hl
  have hn : H s.heap.objs.size = none := I.hok.fresh (Nat.le_refl _)
  refine set_of_tup (P := X.prog) (w := X.w) ks (I.ok.hd hc) pl (by simpa using refs_of_vals rv) (fun p hp => I.isT (hk p hp)) hf (by omega) fun h' tk L es ep t R g k => ?_
  exact ⟨.ref s.heap.objs.size, upd H s.heap.objs.size (SetTO X.prog X.w s.heap.objs.size L), I.laid (t' := tk) k (Nat.le_refl _) (setTO_new R.t0), rfl, q _ L hn fun p hp => List.mem_of_mem_take (g.sub p hp)⟩
end Wl
set_option Elab.async false
set_option linter.all false
set_option maxRecDepth 100000
set_option maxHeartbeats 4000000
/-! sorted(set(spots)) and the law's own facts -/
namespace Wl
open PySem PySem.Spec PyProof.Rows L2
theorem spots_refs {K : PySem.W.Frag} {H : Hp} : ∀ {vs : List V} {S : List Spot}, RpA K H vs (S.map eSp) → ∃ ks : List (Addr × Spot), vs = ks.map (fun p => V.ref p.1) ∧ ks.length = S.length ∧ ∀ p ∈ ks, p.2 ∈ S ∧ ∃ xs, H p.1 = some (.tup xs) ∧ RpA K H xs ((kSp p.2).map U.int)
  | _, [], r => by
    cases r
    exact ⟨[], rfl, rfl, by simp⟩
  | _, s :: S, r => by
    cases r with
    | cons a t =>
      obtain ⟨ks, h1, h2, h3⟩ := spots_refs t
      rw [eSp_k] at a
      cases a with
      | tup ha hr =>
        refine ⟨(_, s) :: ks, by rw [h1]; rfl, by rw [List.length_cons, List.length_cons, h2], fun p hp => ?_⟩
        rcases List.mem_cons.mp hp with e | hp
        · subst e
          exact ⟨List.mem_cons_self .., _, ha, hr⟩
        · obtain ⟨q1, q2⟩ := h3 p hp
          exact ⟨List.mem_cons_of_mem _ q1, q2⟩
theorem refs_spots {K : PySem.W.Frag} {H : Hp} {S : List Spot} : ∀ (L : List (Addr × List Int)), (∀ p ∈ L, ∃ s ∈ S, p.2 = kSp s ∧ ∃ xs, H p.1 = some (.tup xs) ∧ RpA K H xs ((kSp s).map U.int)) → ∃ S' : List Spot, RpA K H (L.map fun q => V.ref q.1) (S'.map eSp) ∧ ∀ s ∈ S', s ∈ S
  | [], _ => ⟨[], .nil, by simp⟩
  | p :: L, h => by
    obtain ⟨S', h1, h2⟩ := refs_spots L fun q hq => h q (List.mem_cons_of_mem _ hq)
    obtain ⟨s, hs, _, xs, ha, hr⟩ := h p (List.mem_cons_self ..)
    refine ⟨s :: S', .cons ?_ h1, fun t ht => ?_⟩
    · rw [eSp_k]
      exact .tup ha hr
    · rcases List.mem_cons.mp ht with e | ht
      · exact e ▸ hs
      · exact h2 t ht
theorem w_sortSet {K : PySem.W.Frag} {P : Program} {w : World} {M : Mem} {ρ : Rho} {te : TE} {k : U → Mem → Prop} (h : W K te M ρ fun x M1 => ∃ S : List Spot, x = .tup (S.map eSp) ∧ S.length < 64 ∧ ∀ (S' : List Spot) q, (∀ s ∈ S', s ∈ S) → S'.length < 64 → k (.ptr q) ((q, .l (S'.map eSp)) :: M1)) :
    W K (tCB (rSortedT K P w) (tCons (tCB (rSetTT K P w) (tCons te tNil)) tNil)) M ρ k := fun σ H m s Q c =>
  h σ H m s _ fun x M1 v H1 ⟨S, e, hl, hk⟩ t1 m1 r1 => by
    subst e
    cases r1 with
    | tup ha hr =>
      obtain ⟨ks, e1, e2, e3⟩ := spots_refs hr
      subst e1
      have sq : ∀ p ∈ ks, SqT K H1 p.1 ((kSp p.2).map V.int) := fun p hp => by
        obtain ⟨_, xs, hx, hrx⟩ := e3 p hp
        rw [hrx.ints] at hx
        exact .inl (.inl hx)
      refine ⟨_, ks.map fun p => (p.1, kSp p.2), rfl, ?_, by rw [List.length_map, e2]; exact hl, fun p hp => ?_, fun a L hn hL => ?_⟩
      · rw [List.map_map]
        exact .inl (.inl ha)
      · obtain ⟨y, hy, rfl⟩ := List.mem_map.mp hp
        exact sq y hy
      have t2 : Tp H1 (upd H1 a (SetTO P w a L)) := Tp.new hn
      have hin : ∀ p ∈ L, ∃ y ∈ ks, p = (y.1, kSp y.2) := fun p hp => by
        obtain ⟨y, hy, e⟩ := List.mem_map.mp (hL p hp)
        exact ⟨y, hy, e.symm⟩
      have htup : ∀ p ∈ L, ∃ s ∈ S, p.2 = kSp s ∧ ∃ xs, upd H1 a (SetTO P w a L) p.1 = some (.tup xs) ∧ RpA K (upd H1 a (SetTO P w a L)) xs ((kSp s).map U.int) := fun p hp => by
        obtain ⟨y, hy, rfl⟩ := hin p hp
        obtain ⟨q1, xs, q2, q3⟩ := e3 y hy
        exact ⟨y.2, q1, rfl, xs, t2.tup _ _ q2, q3.mono t2⟩
      refine ⟨a, L, 3, ((maxN (S.flatMap fun s => [s.1, s.2.1, s.2.2]) + 1 : Nat) : Int), rfl, upd_same, fun p hp => ?_, by omega, fun p hp => ?_, fun L' q hp hnd hl2 hpw hq => ?_⟩
      · obtain ⟨s, _, e, xs, hx, hrx⟩ := htup p hp
        rw [e]
        rw [hrx.ints] at hx
        exact .inl (.inl hx)
      · obtain ⟨s, hs, e, _⟩ := htup p hp
        rw [e]
        refine ⟨rfl, fun x hx => ?_⟩
        have hb : ∀ n : Nat, n ∈ [s.1, s.2.1, s.2.2] → n ≤ maxN (S.flatMap fun s => [s.1, s.2.1, s.2.2]) := fun n hn => le_maxN (List.mem_flatMap.mpr ⟨s, hs, hn⟩)
        have b1 := hb s.1 (by simp)
        have b2 := hb s.2.1 (by simp)
        have b3 := hb s.2.2 (by simp)
        simp only [kSp, List.mem_cons, List.not_mem_nil, or_false] at hx
        rcases hx with rfl | rfl | rfl <;> omega
      · obtain ⟨S', h1, h2⟩ := refs_spots (K := K) (H := upd H1 a (SetTO P w a L)) (S := S) L' fun p hp' => htup p (hp.subset hp')
        have t3 : Tp (upd H1 a (SetTO P w a L)) (upd (upd H1 a (SetTO P w a L)) q (.lst (L'.map fun z => V.ref z.1))) := Tp.new hq
        have hS' : S'.length < 64 := by
          have := h1.length
          rw [List.length_map, List.length_map] at this
          omega
        exact c _ _ _ _ (hk S' q h2 hS') ((t1.trans t2).trans t3) ((m1.skipNew hn).new hq ⟨_, upd_same, h1.mono t3⟩) (.ptr q)
theorem sp_list : ∀ {us : List U}, (∀ u ∈ us, ∃ s : Spot, u = eSp s) → ∃ S : List Spot, us = S.map eSp
  | [], _ => ⟨[], rfl⟩
  | u :: us, h => by
    obtain ⟨s, rfl⟩ := h u (List.mem_cons_self ..)
    obtain ⟨S, rfl⟩ := sp_list (us := us) fun v hv => h v (List.mem_cons_of_mem _ hv)
    exact ⟨s :: S, rfl⟩
theorem heardP_sp (F : List Fl) (i : Nat) (l : List Pl) (D : List Spot) (up : Bool) : ∃ S : List Spot, heardP F i l D up = S.map eSp := sp_list fun u hu => by
  unfold heardP at hu
  obtain ⟨s, _, rfl⟩ := List.mem_map.mp (List.mem_mergeSort.mp hu)
  exact ⟨s, rfl⟩
theorem heardP_len {p : Plan} (hp : Shp p) {i : Nat} {l : List Pl} (hl : p.loops[i]? = some l) (F : List Fl) (D : List Spot) (up : Bool) : (heardP F i l D up).length ≤ 60 := by
  unfold heardP
  rw [List.length_mergeSort, List.length_map]
  exact Nat.le_trans (List.length_filter_le _ _) (heard_len hp hl F _ up)
theorem sets_mem {S : List Fl} {m : Int} {F : List Fl} (h : F ∈ setsOf S m) : ∀ x ∈ F, x ∈ S := by
  unfold setsOf at h
  simp only [List.cons_append, List.nil_append, List.mem_cons, List.mem_append] at h
  rcases h with h | h | h
  · subst h
    simp
  · split at h
    · obtain ⟨s, hs, rfl⟩ := List.mem_map.mp h
      intro x hx
      rw [List.mem_singleton.mp hx]
      exact hs
    · simp at h
  · split at h
    · obtain ⟨x, hx, hx2⟩ := List.mem_flatMap.mp h
      obtain ⟨o, ho, rfl⟩ := List.mem_map.mp hx2
      intro y hy
      rcases List.mem_cons.mp hy with e | hy
      · rw [e]
        exact zip_mem1 hx
      · rw [List.mem_singleton.mp hy]
        exact List.mem_of_mem_drop (List.mem_filter.mp ho).1
    · simp at h
theorem pln_fs {i : Nat} {l : List Pl} {F : List Fl} (h : ∀ x ∈ F, x ∈ singlesOf i l) : pln 3 (eFs F) = true := by
  show (decide (0 < 3) && plnA 2 (F.map eFl)) = true
  rw [plnA_all]
  simp only [Nat.reduceLT, decide_true, Bool.true_and, List.all_eq_true]
  intro u hu
  obtain ⟨x, hx, rfl⟩ := List.mem_map.mp hu
  exact pln_fl (singles_how (h x hx))
theorem told_pln (i : Nat) (l : List Pl) (m : Int) (b : List Fl → Bool) : plnA 3 (((setsOf (singlesOf i l) m).filter b).map eFs) = true := by
  rw [plnA_all, List.all_eq_true]
  intro u hu
  obtain ⟨F, hF, rfl⟩ := List.mem_map.mp hu
  exact pln_fs (sets_mem (List.mem_filter.mp hF).1)
theorem due_pln (S B : List Spot) : pln 3 (.tup [.tup (S.map eSp), .tup (B.map eSp)]) = true := by
  simp only [pln, plnA, Nat.reduceSub, Nat.reduceLT, decide_true, plnA_sp, Bool.and_self]
end Wl
set_option Elab.async false
set_option linter.all false
set_option maxRecDepth 100000
set_option maxHeartbeats 4000000
namespace Wl
open PySem PySem.Spec PyProof.Rows L2
local macro_rules | `(tactic| walk_at "w1") => `(tactic| first
  | with_reducible refine ws_seq ?_
  | with_reducible refine ws_ret ?_
  | with_reducible refine ws_asg ?_
  | with_reducible refine ws_drop ?_
  | with_reducible refine ws_if ?_
  | with_reducible refine ws_next ?_
  | with_reducible refine w_var (by with_unfolding_all rfl) ?_
  | with_reducible refine w_int ?_
  | with_reducible refine w_str ?_
  | with_reducible refine w_bl ?_
  | with_reducible refine w_non ?_
  | with_reducible refine w_ref ?_
  | with_reducible refine w_isi2 ?_
  | with_reducible refine w_op ?_
  | with_reducible refine w_andV ?_
  | with_reducible refine w_notV ?_
  | with_reducible refine w_chain ?_
  | with_reducible refine wa_nil ?_
  | with_reducible refine wa_cons ?_
  | with_reducible refine w_tup ?_
  | with_reducible refine w_lst ?_
  | with_reducible refine w_tupF ?_
  | with_reducible refine w_call ?_
  | ((fail_if_success (with_reducible refine w_allT (α := Unit) ?_)); (fail_if_success (with_reducible refine w_anyB (α := Unit) ?_)); with_reducible refine w_cb ?_)
  | with_reducible refine w_bm ?_
  | with_reducible refine wt_test ?_
  | with_reducible refine wt_B ?_
  | with_reducible refine wt_not ?_
  | with_reducible refine wt_and ?_
  | with_reducible refine wt_or ?_
  | with_reducible refine wt_yes ?_
  | with_reducible refine wg_name ?_ (by with_unfolding_all rfl)
  | with_reducible refine wg_name ?_
  | with_reducible refine wgs_nil ?_
  | with_reducible refine wgs_cons ?_
  | with_reducible refine wg_tup (by with_unfolding_all rfl) ?_
  | with_reducible refine w_un ?_
  | with_reducible refine w_sl ?_
  | with_reducible refine wo_none ?_
  | with_reducible refine wo_some ?_
  | with_reducible refine r_ii ?_
  | with_reducible refine r_ib ?_
  | with_reducible refine r_eqI ?_
  | with_reducible refine r_eqS ?_
  | with_reducible refine r_neI ?_
  | with_reducible refine r_neS ?_
  | with_reducible refine rs_T ?_
  | with_reducible refine rc_lenT ?_
  | with_reducible refine rc_lenTf ?_
  | with_reducible refine rc_min ?_
  | with_reducible refine r_isN ?_
  | with_reducible refine r_noN ?_
  | with_reducible refine ws_break ?_
  | with_reducible refine ws_dput ?_
  | (with_reducible refine r_ixT (by with_unfolding_all rfl) ?_)
  | exact ⟨rfl, Sub.refl _⟩
  | refine ⟨Sub.refl _, ?_⟩
  | refine ⟨Nat.le_of_ble_eq_true (by with_unfolding_all rfl), ?_⟩
  | refine ⟨_, rfl, ?_⟩
  | refine ⟨true, rfl, fun _ => ?_, fun z => Bool.noConfusion z⟩
  | refine ⟨false, rfl, fun z => Bool.noConfusion z, fun _ => ?_⟩
  | refine ⟨false, rfl, fun _ => ?_, fun z => Bool.noConfusion z⟩
  | refine ⟨true, rfl, fun z => Bool.noConfusion z, fun _ => ?_⟩
  | refine ⟨fun _ => ?_, fun z => Bool.noConfusion z⟩
  | refine ⟨fun z => Bool.noConfusion z, fun _ => ?_⟩)
local macro_rules | `(tactic| walk_at "w") => `(tactic| repeat walk_at "w1")
local macro_rules | `(tactic| walk_at "in") => `(tactic| try dsimp only [XD, cxOf, Cx.nox, Cx.wish])
local macro_rules | `(tactic| walk_at "ro") => `(tactic| try simp only [startR, List.map_cons, List.map_nil, List.length_cons, List.length_nil, Nat.reduceAdd, Nat.reduceSub, Nat.zero_add, List.replicate_zero, List.replicate_succ, List.cons_append, List.nil_append, List.append_nil, List.set_cons_zero, List.set_cons_succ])
local macro_rules | `(tactic| walk_at "sub") => `(tactic| repeat (first | exact Sub.refl _ | exact Sub.nil' _ | refine Sub.keep ?_ | refine Sub.skip ?_))
local macro_rules | `(tactic| walk_at "go") => `(tactic| (walk_at "in"; walk_at "ro"; walk_at "w"))
local macro_rules | `(tactic| walk_at "rle") => `(tactic| repeat (first | exact RLe.refl _ | exact RLe.nil | refine RLe.keep ?_ | refine RLe.hole ?_))
local macro_rules | `(tactic| walk_at "mem") => `(tactic| repeat (first | exact List.mem_cons_self .. | refine List.mem_cons_of_mem _ ?_))
local macro_rules | `(tactic| walk_at "put") => `(tactic| repeat (first | exact Put.here | refine Put.there ?_))
local macro_rules | `(tactic| walk_at "bm") => `(tactic| (first | refine ⟨⟨_, _, rfl, rfl, (by walk_at "mem")⟩, ?_⟩ | refine ⟨⟨_, _, rfl, trivial, (by walk_at "mem")⟩, ?_⟩))
local macro_rules | `(tactic| walk_at "end") => `(tactic| (first | exact ⟨Sub.refl _, by walk_at "rle"⟩ | walk_at "rle"))
abbrev N_is_whole : List Str := ["thing", "least", "most"]
theorem sc_is_whole : FnScope N_is_whole ["thing", "least", "most"] (defScope (atTop 6)) := ⟨rfl, rfl, rfl, by decide +kernel, rfl, by decide +kernel, by decide +kernel⟩
theorem fn_is_whole {P : Program} {w : World} {K : PySem.W.Frag} {mg : Str → Option Value} {base : Heap} (T : Txt K mg) : Fn P w K mg base 1 "is_whole" ["thing", "least", "most"] C_is_whole := by
  have sc := sc_is_whole
  refine Fn.of T 0 rfl rfl sc (fun _ _ _ _ _ _ us hl => match us, hl with | [_, _, _], _ => rfl) ?len (fun f cdv A outer s H E hr => ⟨_, (pss_one (ps_ret (pe_and (pe_callB (isiK (K := K) (by rfl)) (by rfl) T.f_isinstance (by decide +kernel) (pa_cons (pv 0) (pa_cons (pe_bltn (v := .ty "int") (by rfl) T.f_int (by decide +kernel) rfl) pa_nil))) (pe_and (pe_not (pe_callB (isiK (K := K) (by rfl)) (by rfl) T.f_isinstance (by decide +kernel) (pa_cons (pv 0) (pa_cons (pe_bltn (v := .ty "bool") (by rfl) T.f_bool (by decide +kernel) rfl) pa_nil)))) (pe_one (pe_chain op_le op_le (pv 1) (pv 0) (pv 2))))))), fun us M q h => ?_⟩)
  case len => rintro us M q ⟨i, lo, hi, rfl, _⟩; rfl
  obtain ⟨i, lo, hi, rfl, h1, h2, hq⟩ := h
  walk_at "in"
  walk_at "ro"
  walk_at "w"
  simp only [h1, decide_true]
  walk_at "w"
  simp only [h2, decide_true]
  exact ⟨M, by walk_at "sub", hq⟩
abbrev N_is_device : List Str := ["thing"]
theorem sc_is_device : FnScope N_is_device ["thing"] (defScope (atTop 20)) := ⟨rfl, rfl, rfl, by decide +kernel, rfl, by decide +kernel, by decide +kernel⟩
theorem fn_is_device {P : Program} {w : World} {K : PySem.W.Frag} {mg : Str → Option Value} {base : Heap} (T : Txt K mg) (F_is_whole : Fn P w K mg base 1 "is_whole" ["thing", "least", "most"] C_is_whole) : Fn P w K mg base 2 "is_device" ["thing"] C_is_device := by
  have sc := sc_is_device
  refine Fn.of T 4 rfl rfl sc (fun _ _ _ _ _ _ us hl => match us, hl with | [_], _ => rfl) ?len (fun f cdv A outer s H E hr => ⟨_, (pss_cons (ps_if (PW.pt (pw_or (pt_not (pt_val (pe_callB (isiK (K := K) (by rfl)) (by rfl) T.f_isinstance (by decide +kernel) (pa_cons (pv 0) (pa_cons (pe_bltn (v := .ty "tuple") (by rfl) T.f_tuple (by decide +kernel) rfl) pa_nil))))) (pw_or (pt_cmpR op_ne (pe_callB (lenK (K := K) (by rfl)) (by rfl) T.f_len (by decide +kernel) (pa_cons (pv 0) pa_nil)) pe_int (nomark _)) (pw_or1 (pt_not (pt_val (pe_callB (isiK (K := K) (by rfl)) (by rfl) T.f_isinstance (by decide +kernel) (pa_cons (pe_ix (ixT (K := K) (by rfl)) (pv 0) pe_int (fun _ _ => rfl)) (pa_cons (pe_bltn (v := .ty "str") (by rfl) T.f_str (by decide +kernel) rfl) pa_nil))))))))) (pss_one (ps_ret pe_bl)) pss_nil)
      (pss_one (ps_ret (pe_and (pe_cmpR (inK (K := K) (by rfl)) (pe_ix (ixT (K := K) (by rfl)) (pv 0) pe_int (fun _ _ => rfl)) (pe_glob (v := .ref (He.ga K "KINDS")) (by rfl) T.g_KINDS rfl) (by rfl)) (pe_one (pFn F_is_whole (by exact ⟨rfl, rfl, rfl, rfl, rfl⟩) (hr.mono (by decide)) (by rfl) (pa_cons (pe_ix (ixT (K := K) (by rfl)) (pv 0) pe_int (fun _ _ => rfl)) (pa_cons pe_int (pa_cons (pe_constI (by rfl) T.c_MOST_ADDRESS) pa_nil))))))))), fun us M q h => ?_⟩)
  case len => rintro us M q ⟨d, rfl, _⟩; rfl
  obtain ⟨d, rfl, hd, hq⟩ := h
  walk_at "in"
  walk_at "ro"
  unfold eDev
  walk_at "w"
  refine r_inK T.k_KINDS ?_
  have e : decide (d.kind ∈ kindsL) = true := decide_eq_true hd.kind
  walk_at "w"
  refine ⟨fun _ => ?_, fun z => ?_⟩
  · walk_at "w"
    exact ⟨_, _, _, rfl, hd.lo, hd.hi, ⟨M, by walk_at "sub", hq⟩⟩
  · rw [if_neg Bool.false_ne_true] at z
    rw [e] at z
    cases z
abbrev N_is_place : List Str := ["thing", "kind", "address", "spur", "one"]
theorem sc_is_place : FnScope N_is_place ["thing"] (defScope (atTop 21)) := ⟨rfl, rfl, rfl, by decide +kernel, rfl, by decide +kernel, by decide +kernel⟩
theorem fn_is_place {P : Program} {w : World} {K : PySem.W.Frag} {mg : Str → Option Value} {base : Heap} (T : Txt K mg) (F_is_whole : Fn P w K mg base 1 "is_whole" ["thing", "least", "most"] C_is_whole) (F_is_device : Fn P w K mg base 2 "is_device" ["thing"] C_is_device) : Fn P w K mg base 3 "is_place" ["thing"] C_is_place := by
  have sc := sc_is_place
  refine Fn.of T 5 rfl rfl sc (fun _ _ _ _ _ _ us hl => match us, hl with | [_], _ => rfl) ?len (fun f cdv A outer s H E hr => ⟨_, (pss_cons (ps_if (PW.pt (pw_or (pt_not (pt_val (pe_callB (isiK (K := K) (by rfl)) (by rfl) T.f_isinstance (by decide +kernel) (pa_cons (pv 0) (pa_cons (pe_bltn (v := .ty "tuple") (by rfl) T.f_tuple (by decide +kernel) rfl) pa_nil))))) (pw_or (pt_cmpR op_ne (pe_callB (lenK (K := K) (by rfl)) (by rfl) T.f_len (by decide +kernel) (pa_cons (pv 0) pa_nil)) pe_int (nomark _)) (pw_or1 (pt_not (pt_val (pe_callB (isiK (K := K) (by rfl)) (by rfl) T.f_isinstance (by decide +kernel) (pa_cons (pe_ix (ixT (K := K) (by rfl)) (pv 0) pe_int (fun _ _ => rfl)) (pa_cons (pe_bltn (v := .ty "tuple") (by rfl) T.f_tuple (by decide +kernel) rfl) pa_nil))))))))) (pss_one (ps_ret pe_bl)) pss_nil)
      (pss_cons (ps_asg (pv 0) (pgT (K := K) (n := 3) (by rfl) rfl (pgs_cons (pg_name (i := 1) sc.nd rfl (by first | exact Or.inl rfl | exact Or.inr rfl)) (pgs_cons (pg_name (i := 2) sc.nd rfl (by first | exact Or.inl rfl | exact Or.inr rfl)) (pgs_cons (pg_name (i := 3) sc.nd rfl (by first | exact Or.inl rfl | exact Or.inr rfl)) pgs_nil)))))
      (pss_cons (ps_if (PW.pt (pw_and (pt_val (pe_callB (isiK (K := K) (by rfl)) (by rfl) T.f_isinstance (by decide +kernel) (pa_cons (pv 1) (pa_cons (pe_bltn (v := .ty "str") (by rfl) T.f_str (by decide +kernel) rfl) pa_nil)))) (pw_and1 (pt_cmpR op_eq (pv 1) (pe_constS (by rfl) T.c_OPENER) (nomark _))))) (pss_one (ps_ret (pe_and (pFn F_is_whole (by exact ⟨rfl, rfl, rfl, rfl, rfl⟩) (hr.mono (by decide)) (by rfl) (pa_cons (pv 2) (pa_cons pe_int (pa_cons pe_int pa_nil)))) (pe_one (pe_cmpR op_eq (pe_callB (lenK (K := K) (by rfl)) (by rfl) T.f_len (by decide +kernel) (pa_cons (pv 3) pa_nil)) pe_int (nomark _)))))) pss_nil)
      (pss_one (ps_ret (pe_and (pFn F_is_device (by exact ⟨rfl, rfl, rfl, rfl, rfl⟩) (hr.mono (by decide)) (by rfl) (pa_cons (pe_tup (pa_cons (pv 1) (pa_cons (pv 2) pa_nil))) pa_nil)) (pe_and (pe_cmpR op_le (pe_callB (lenK (K := K) (by rfl)) (by rfl) T.f_len (by decide +kernel) (pa_cons (pv 3) pa_nil)) (pe_constI (by rfl) T.c_MOST_SPUR) (nomark _)) (pe_one (pe_callB (allK (K := K) (by rfl) rfl) (by rfl) T.f_all (by decide +kernel) (pa_cons (pe_lc (own := [("one", 4)]) rfl sc.nd (piT (K := K) (by rfl) (pv 3)) (blkOk_by (own := [("one", 4)]) (N := N_is_place) (sc := defScope (atTop 21)) (by decide +kernel)) (fun _ _ _ _ _ => (pg_name (i := 4) sc.nd rfl (by first | exact Or.inl rfl | exact Or.inr rfl))) (fun _ _ _ _ _ => pts_nil) (fun _ _ _ _ _ => (pFn F_is_device (by exact ⟨rfl, rfl, rfl, rfl, rfl⟩) (hr.mono (by decide)) (by rfl) (pa_cons (pv 4) pa_nil)))) pa_nil)))))))))), fun us M q h => ?_⟩)
  case len => rintro us M q ⟨d, rfl, _⟩; rfl
  obtain ⟨x, rfl, hd, hq⟩ := h
  walk_at "in"
  walk_at "ro"
  cases x with
  | op =>
    simp only [ePl]
    walk_at "w"
    refine ⟨_, _, _, rfl, Int.le_refl _, Int.le_refl _, ?_⟩
    walk_at "w"
    exact ⟨M, by walk_at "sub", hq⟩
  | dev d sp => 
    obtain ⟨hd1, hd2, hd3⟩ := hd
    simp only [ePl]
    walk_at "w"
    have e : decide (d.kind = "opener") = false := decide_eq_false (kind_no hd1)
    rw [e]
    walk_at "w"
    refine ⟨hd1, ?_⟩
    walk_at "w"
    have e2 : decide (((sp.map eDev).length : Int) ≤ 3) = true := decide_eq_true (by rw [List.length_map]; omega)
    rw [e2]
    walk_at "w"
    refine w_allT (α := Dev) (wi_tup ?_)
    walk_at "w"
    refine ⟨sp, eDev, rfl, by omega, fun _ _ => trivial, fun D acc e he => ?_, ?_⟩
    · walk_at "w"
      refine ⟨hd3 e he, ?_⟩
      walk_at "w"
    · exact ⟨M, by walk_at "sub", hq⟩
end Wl
set_option Elab.async false
set_option linter.all false
set_option maxRecDepth 100000
set_option maxHeartbeats 4000000
namespace Wl
open PySem PySem.Spec PyProof.Rows L2
local macro_rules | `(tactic| walk_at "w1") => `(tactic| first
  | with_reducible refine ws_seq ?_
  | with_reducible refine ws_ret ?_
  | with_reducible refine ws_asg ?_
  | with_reducible refine ws_drop ?_
  | with_reducible refine ws_if ?_
  | with_reducible refine ws_next ?_
  | with_reducible refine w_var (by with_unfolding_all rfl) ?_
  | with_reducible refine w_int ?_
  | with_reducible refine w_str ?_
  | with_reducible refine w_bl ?_
  | with_reducible refine w_non ?_
  | with_reducible refine w_ref ?_
  | with_reducible refine w_isi2 ?_
  | with_reducible refine w_op ?_
  | with_reducible refine w_andV ?_
  | with_reducible refine w_notV ?_
  | with_reducible refine w_chain ?_
  | with_reducible refine wa_nil ?_
  | with_reducible refine wa_cons ?_
  | with_reducible refine w_tup ?_
  | with_reducible refine w_lst ?_
  | with_reducible refine w_tupF ?_
  | with_reducible refine w_call ?_
  | ((fail_if_success (with_reducible refine w_allT (α := Unit) ?_)); (fail_if_success (with_reducible refine w_anyB (α := Unit) ?_)); with_reducible refine w_cb ?_)
  | with_reducible refine w_bm ?_
  | with_reducible refine wt_test ?_
  | with_reducible refine wt_B ?_
  | with_reducible refine wt_not ?_
  | with_reducible refine wt_and ?_
  | with_reducible refine wt_or ?_
  | with_reducible refine wt_yes ?_
  | with_reducible refine wg_name ?_ (by with_unfolding_all rfl)
  | with_reducible refine wg_name ?_
  | with_reducible refine wgs_nil ?_
  | with_reducible refine wgs_cons ?_
  | with_reducible refine wg_tup (by with_unfolding_all rfl) ?_
  | with_reducible refine w_un ?_
  | with_reducible refine w_sl ?_
  | with_reducible refine wo_none ?_
  | with_reducible refine wo_some ?_
  | with_reducible refine r_ii ?_
  | with_reducible refine r_ib ?_
  | with_reducible refine r_eqI ?_
  | with_reducible refine r_eqS ?_
  | with_reducible refine r_neI ?_
  | with_reducible refine r_neS ?_
  | with_reducible refine rs_T ?_
  | with_reducible refine rc_lenT ?_
  | with_reducible refine rc_lenTf ?_
  | with_reducible refine rc_min ?_
  | with_reducible refine r_isN ?_
  | with_reducible refine r_noN ?_
  | with_reducible refine ws_break ?_
  | with_reducible refine ws_dput ?_
  | (with_reducible refine r_ixT (by with_unfolding_all rfl) ?_)
  | exact ⟨rfl, Sub.refl _⟩
  | refine ⟨Sub.refl _, ?_⟩
  | refine ⟨Nat.le_of_ble_eq_true (by with_unfolding_all rfl), ?_⟩
  | refine ⟨_, rfl, ?_⟩
  | refine ⟨true, rfl, fun _ => ?_, fun z => Bool.noConfusion z⟩
  | refine ⟨false, rfl, fun z => Bool.noConfusion z, fun _ => ?_⟩
  | refine ⟨false, rfl, fun _ => ?_, fun z => Bool.noConfusion z⟩
  | refine ⟨true, rfl, fun z => Bool.noConfusion z, fun _ => ?_⟩
  | refine ⟨fun _ => ?_, fun z => Bool.noConfusion z⟩
  | refine ⟨fun z => Bool.noConfusion z, fun _ => ?_⟩)
local macro_rules | `(tactic| walk_at "w") => `(tactic| repeat walk_at "w1")
local macro_rules | `(tactic| walk_at "in") => `(tactic| try dsimp only [XD, cxOf, Cx.nox, Cx.wish])
local macro_rules | `(tactic| walk_at "ro") => `(tactic| try simp only [startR, List.map_cons, List.map_nil, List.length_cons, List.length_nil, Nat.reduceAdd, Nat.reduceSub, Nat.zero_add, List.replicate_zero, List.replicate_succ, List.cons_append, List.nil_append, List.append_nil, List.set_cons_zero, List.set_cons_succ])
local macro_rules | `(tactic| walk_at "sub") => `(tactic| repeat (first | exact Sub.refl _ | exact Sub.nil' _ | refine Sub.keep ?_ | refine Sub.skip ?_))
local macro_rules | `(tactic| walk_at "go") => `(tactic| (walk_at "in"; walk_at "ro"; walk_at "w"))
local macro_rules | `(tactic| walk_at "rle") => `(tactic| repeat (first | exact RLe.refl _ | exact RLe.nil | refine RLe.keep ?_ | refine RLe.hole ?_))
local macro_rules | `(tactic| walk_at "mem") => `(tactic| repeat (first | exact List.mem_cons_self .. | refine List.mem_cons_of_mem _ ?_))
local macro_rules | `(tactic| walk_at "put") => `(tactic| repeat (first | exact Put.here | refine Put.there ?_))
local macro_rules | `(tactic| walk_at "bm") => `(tactic| (first | refine ⟨⟨_, _, rfl, rfl, (by walk_at "mem")⟩, ?_⟩ | refine ⟨⟨_, _, rfl, trivial, (by walk_at "mem")⟩, ?_⟩))
local macro_rules | `(tactic| walk_at "end") => `(tactic| (first | exact ⟨Sub.refl _, by walk_at "rle"⟩ | walk_at "rle"))
abbrev N_is_loop : List Str := ["thing", "one"]
theorem sc_is_loop : FnScope N_is_loop ["thing"] (defScope (atTop 22)) := ⟨rfl, rfl, rfl, by decide +kernel, rfl, by decide +kernel, by decide +kernel⟩
theorem fn_is_loop {P : Program} {w : World} {K : PySem.W.Frag} {mg : Str → Option Value} {base : Heap} (T : Txt K mg) (F_is_place : Fn P w K mg base 3 "is_place" ["thing"] C_is_place) : Fn P w K mg base 4 "is_loop" ["thing"] C_is_loop := by
  have sc := sc_is_loop
  refine Fn.of T 6 rfl rfl sc (fun _ _ _ _ _ _ us hl => match us, hl with | [_], _ => rfl) ?len (fun f cdv A outer s H E hr => ⟨_, (pss_one (ps_ret (pe_and (pe_callB (isiK (K := K) (by rfl)) (by rfl) T.f_isinstance (by decide +kernel) (pa_cons (pv 0) (pa_cons (pe_bltn (v := .ty "tuple") (by rfl) T.f_tuple (by decide +kernel) rfl) pa_nil))) (pe_and (pe_chain op_le op_le pe_int (pe_callB (lenK (K := K) (by rfl)) (by rfl) T.f_len (by decide +kernel) (pa_cons (pv 0) pa_nil)) (pe_constI (by rfl) T.c_MOST_PLACES)) (pe_one (pe_callB (allK (K := K) (by rfl) rfl) (by rfl) T.f_all (by decide +kernel) (pa_cons (pe_lc (own := [("one", 1)]) rfl sc.nd (piT (K := K) (by rfl) (pv 0)) (blkOk_by (own := [("one", 1)]) (N := N_is_loop) (sc := defScope (atTop 22)) (by decide +kernel)) (fun _ _ _ _ _ => (pg_name (i := 1) sc.nd rfl (by first | exact Or.inl rfl | exact Or.inr rfl))) (fun _ _ _ _ _ => pts_nil) (fun _ _ _ _ _ => (pFn F_is_place (by exact ⟨rfl, rfl, rfl, rfl, rfl⟩) (hr.mono (by decide)) (by rfl) (pa_cons (pv 1) pa_nil)))) pa_nil))))))), fun us M q h => ?_⟩)
  case len => rintro us M q ⟨d, rfl, _⟩; rfl
  obtain ⟨l, rfl, ⟨h1, h2, h3⟩, hq⟩ := h
  unfold eLoop
  walk_at "go"
  have e1 : decide ((1 : Int) ≤ ((l.map ePl).length : Nat)) = true := decide_eq_true (by rw [List.length_map]; omega)
  have e2 : decide (((l.map ePl).length : Int) ≤ 12) = true := decide_eq_true (by rw [List.length_map]; omega)
  rw [e1]
  walk_at "w"
  rw [e2]
  walk_at "w"
  refine w_allT (α := Pl) (wi_tup ?_)
  walk_at "w"
  refine ⟨l, ePl, rfl, by omega, fun _ _ => trivial, fun D acc e he => ?_, ?_⟩
  · walk_at "w"
    refine ⟨h3 e he, ?_⟩
    walk_at "w"
  · exact ⟨M, by walk_at "sub", hq⟩
abbrev N_rises : List Str := ["things", "k"]
theorem sc_rises : FnScope N_rises ["things"] (defScope (atTop 8)) := ⟨rfl, rfl, rfl, by decide +kernel, rfl, by decide +kernel, by decide +kernel⟩
theorem fn_rises {P : Program} {w : World} {K : PySem.W.Frag} {mg : Str → Option Value} {base : Heap} (T : Txt K mg) : Fn P w K mg base 1 "rises" ["things"] C_rises := by
  have sc := sc_rises
  refine Fn.of T 2 rfl rfl sc (fun _ _ _ _ _ _ us hl => match us, hl with | [_], _ => rfl) ?len (fun f cdv A outer s H E hr => ⟨_, (pss_one (ps_ret (pe_callB (allK (K := K) (by rfl) rfl) (by rfl) T.f_all (by decide +kernel) (pa_cons (pe_lc (own := [("k", 1)]) rfl sc.nd (pi_range1 (by rfl) T.f_range (pa_cons (pe_op op_sub (pe_callB (lenK (K := K) (by rfl)) (by rfl) T.f_len (by decide +kernel) (pa_cons (pv 0) pa_nil)) pe_int) pa_nil)) (blkOk_by (own := [("k", 1)]) (N := N_rises) (sc := defScope (atTop 8)) (by decide +kernel)) (fun _ _ _ _ _ => (pg_name (i := 1) sc.nd rfl (by first | exact Or.inl rfl | exact Or.inr rfl))) (fun _ _ _ _ _ => pts_nil) (fun _ _ _ _ _ => (pe_cmpR op_lt (pe_ix (ixT (K := K) (by rfl)) (pv 0) (pv 1) (fun _ _ => rfl)) (pe_ix (ixT (K := K) (by rfl)) (pv 0) (pe_op op_add (pv 1) pe_int) (fun _ _ => rfl)) (nomark _)))) pa_nil)))), fun us M q h => ?_⟩)
  case len => rintro us M q ⟨d, rfl, _⟩; rfl
  obtain ⟨ns, rfl, h1, h2, hq⟩ := h
  walk_at "go"
  refine w_allT (α := Nat) (wi_rng1 ?_)
  walk_at "w"
  rw [List.length_map]
  refine ⟨by omega, by omega, ?_⟩
  refine ⟨List.range (((ns.length : Int) - 1).toNat), fun i => .int (0 + (i : Nat)), rfl, by rw [List.length_range]; omega, fun _ _ => trivial, fun D acc i hi => ?_, ?_⟩
  · have hi' : i + 1 < ns.length := by
      have := List.mem_range.mp hi
      omega
    have a1 : atI (ns.map U.int) (0 + (i : Nat)) = some (.int ns[i]) := by
      rw [Int.zero_add]
      exact atI_nat (by rw [List.getElem?_map, List.getElem?_eq_getElem (by omega)]; rfl)
    have a2 : atI (ns.map U.int) (0 + (i : Nat) + 1) = some (.int ns[i + 1]) := by
      rw [Int.zero_add]
      exact atI_nat (j := i + 1) (by rw [List.getElem?_map, List.getElem?_eq_getElem (by omega)]; rfl)
    walk_at "w"
    refine r_ixT a1 ?_
    walk_at "w"
    refine r_ixT a2 ?_
    walk_at "w"
    have := h2 i ns[i] ns[i + 1] (List.getElem?_eq_getElem (by omega)) (List.getElem?_eq_getElem (by omega))
    rw [decide_eq_true this]
    exact ⟨rfl, Sub.refl _⟩
  · exact ⟨M, by walk_at "sub", hq⟩
abbrev N_are_rising : List Str := ["thing", "many", "least", "most", "one"]
theorem sc_are_rising : FnScope N_are_rising ["thing", "many", "least", "most"] (defScope (atTop 9)) := ⟨rfl, rfl, rfl, by decide +kernel, rfl, by decide +kernel, by decide +kernel⟩
theorem fn_are_rising {P : Program} {w : World} {K : PySem.W.Frag} {mg : Str → Option Value} {base : Heap} (T : Txt K mg) (F_is_whole : Fn P w K mg base 1 "is_whole" ["thing", "least", "most"] C_is_whole) (F_rises : Fn P w K mg base 1 "rises" ["things"] C_rises) : Fn P w K mg base 2 "are_rising" ["thing", "many", "least", "most"] C_are_rising := by
  have sc := sc_are_rising
  refine Fn.of T 3 rfl rfl sc (fun _ _ _ _ _ _ us hl => match us, hl with | [_, _, _, _], _ => rfl) ?len (fun f cdv A outer s H E hr => ⟨_, (pss_cons (ps_if (PW.pt (pw_or (pt_not (pt_val (pe_callB (isiK (K := K) (by rfl)) (by rfl) T.f_isinstance (by decide +kernel) (pa_cons (pv 0) (pa_cons (pe_bltn (v := .ty "tuple") (by rfl) T.f_tuple (by decide +kernel) rfl) pa_nil))))) (pw_or1 (pt_cmpR op_gt (pe_callB (lenK (K := K) (by rfl)) (by rfl) T.f_len (by decide +kernel) (pa_cons (pv 0) pa_nil)) (pv 1) (nomark _))))) (pss_one (ps_ret pe_bl)) pss_nil)
      (pss_one (ps_ret (pe_and (pe_callB (allK (K := K) (by rfl) rfl) (by rfl) T.f_all (by decide +kernel) (pa_cons (pe_lc (own := [("one", 4)]) rfl sc.nd (piT (K := K) (by rfl) (pv 0)) (blkOk_by (own := [("one", 4)]) (N := N_are_rising) (sc := defScope (atTop 9)) (by decide +kernel)) (fun _ _ _ _ _ => (pg_name (i := 4) sc.nd rfl (by first | exact Or.inl rfl | exact Or.inr rfl))) (fun _ _ _ _ _ => pts_nil) (fun _ _ _ _ _ => (pFn F_is_whole (by exact ⟨rfl, rfl, rfl, rfl, rfl⟩) (hr.mono (by decide)) (by rfl) (pa_cons (pv 4) (pa_cons (pv 2) (pa_cons (pv 3) pa_nil)))))) pa_nil)) (pe_one (pFn F_rises (by exact ⟨rfl, rfl, rfl, rfl, rfl⟩) (hr.mono (by decide)) (by rfl) (pa_cons (pv 0) pa_nil))))))), fun us M q h => ?_⟩)
  case len => rintro us M q ⟨_, _, _, _, rfl, _⟩; rfl
  obtain ⟨ns, m, lo, hi, rfl, h1, h2, h3, h4, hq⟩ := h
  walk_at "go"
  rw [show decide (m < ((ns.map U.int).length : Nat)) = false from decide_eq_false (by rw [List.length_map]; omega)]
  walk_at "w"
  refine w_allT (α := Int) (wi_tup ?_)
  walk_at "w"
  refine ⟨ns, U.int, rfl, by omega, fun _ _ => trivial, fun D acc e he => ?_, ?_⟩
  · walk_at "w"
    refine ⟨_, _, _, rfl, (h4 e he).1, (h4 e he).2, ?_⟩
    walk_at "w"
  · walk_at "w"
    exact ⟨by omega, h3, M, by walk_at "sub", hq⟩
end Wl
set_option Elab.async false
set_option linter.all false
set_option maxRecDepth 100000
set_option maxHeartbeats 4000000
namespace Wl
open PySem PySem.Spec PyProof.Rows L2
local macro_rules | `(tactic| walk_at "w1") => `(tactic| first
  | with_reducible refine ws_seq ?_
  | with_reducible refine ws_ret ?_
  | with_reducible refine ws_asg ?_
  | with_reducible refine ws_drop ?_
  | with_reducible refine ws_if ?_
  | with_reducible refine ws_next ?_
  | with_reducible refine w_var (by with_unfolding_all rfl) ?_
  | with_reducible refine w_int ?_
  | with_reducible refine w_str ?_
  | with_reducible refine w_bl ?_
  | with_reducible refine w_non ?_
  | with_reducible refine w_ref ?_
  | with_reducible refine w_isi2 ?_
  | with_reducible refine w_op ?_
  | with_reducible refine w_andV ?_
  | with_reducible refine w_notV ?_
  | with_reducible refine w_chain ?_
  | with_reducible refine wa_nil ?_
  | with_reducible refine wa_cons ?_
  | with_reducible refine w_tup ?_
  | with_reducible refine w_lst ?_
  | with_reducible refine w_tupF ?_
  | with_reducible refine w_call ?_
  | ((fail_if_success (with_reducible refine w_allT (α := Unit) ?_)); (fail_if_success (with_reducible refine w_anyB (α := Unit) ?_)); with_reducible refine w_cb ?_)
  | with_reducible refine w_bm ?_
  | with_reducible refine wt_test ?_
  | with_reducible refine wt_B ?_
  | with_reducible refine wt_not ?_
  | with_reducible refine wt_and ?_
  | with_reducible refine wt_or ?_
  | with_reducible refine wt_yes ?_
  | with_reducible refine wg_name ?_ (by with_unfolding_all rfl)
  | with_reducible refine wg_name ?_
  | with_reducible refine wgs_nil ?_
  | with_reducible refine wgs_cons ?_
  | with_reducible refine wg_tup (by with_unfolding_all rfl) ?_
  | with_reducible refine w_un ?_
  | with_reducible refine w_sl ?_
  | with_reducible refine wo_none ?_
  | with_reducible refine wo_some ?_
  | with_reducible refine r_ii ?_
  | with_reducible refine r_ib ?_
  | with_reducible refine r_eqI ?_
  | with_reducible refine r_eqS ?_
  | with_reducible refine r_neI ?_
  | with_reducible refine r_neS ?_
  | with_reducible refine rs_T ?_
  | with_reducible refine rc_lenT ?_
  | with_reducible refine rc_lenTf ?_
  | with_reducible refine rc_min ?_
  | with_reducible refine r_isN ?_
  | with_reducible refine r_noN ?_
  | with_reducible refine ws_break ?_
  | with_reducible refine ws_dput ?_
  | (with_reducible refine r_ixT (by with_unfolding_all rfl) ?_)
  | exact ⟨rfl, Sub.refl _⟩
  | refine ⟨Sub.refl _, ?_⟩
  | refine ⟨Nat.le_of_ble_eq_true (by with_unfolding_all rfl), ?_⟩
  | refine ⟨_, rfl, ?_⟩
  | refine ⟨true, rfl, fun _ => ?_, fun z => Bool.noConfusion z⟩
  | refine ⟨false, rfl, fun z => Bool.noConfusion z, fun _ => ?_⟩
  | refine ⟨false, rfl, fun _ => ?_, fun z => Bool.noConfusion z⟩
  | refine ⟨true, rfl, fun z => Bool.noConfusion z, fun _ => ?_⟩
  | refine ⟨fun _ => ?_, fun z => Bool.noConfusion z⟩
  | refine ⟨fun z => Bool.noConfusion z, fun _ => ?_⟩)
local macro_rules | `(tactic| walk_at "w") => `(tactic| repeat walk_at "w1")
local macro_rules | `(tactic| walk_at "in") => `(tactic| try dsimp only [XD, cxOf, Cx.nox, Cx.wish])
local macro_rules | `(tactic| walk_at "ro") => `(tactic| try simp only [startR, List.map_cons, List.map_nil, List.length_cons, List.length_nil, Nat.reduceAdd, Nat.reduceSub, Nat.zero_add, List.replicate_zero, List.replicate_succ, List.cons_append, List.nil_append, List.append_nil, List.set_cons_zero, List.set_cons_succ])
local macro_rules | `(tactic| walk_at "sub") => `(tactic| repeat (first | exact Sub.refl _ | exact Sub.nil' _ | refine Sub.keep ?_ | refine Sub.skip ?_))
local macro_rules | `(tactic| walk_at "go") => `(tactic| (walk_at "in"; walk_at "ro"; walk_at "w"))
local macro_rules | `(tactic| walk_at "rle") => `(tactic| repeat (first | exact RLe.refl _ | exact RLe.nil | refine RLe.keep ?_ | refine RLe.hole ?_))
local macro_rules | `(tactic| walk_at "mem") => `(tactic| repeat (first | exact List.mem_cons_self .. | refine List.mem_cons_of_mem _ ?_))
local macro_rules | `(tactic| walk_at "put") => `(tactic| repeat (first | exact Put.here | refine Put.there ?_))
local macro_rules | `(tactic| walk_at "bm") => `(tactic| (first | refine ⟨⟨_, _, rfl, rfl, (by walk_at "mem")⟩, ?_⟩ | refine ⟨⟨_, _, rfl, trivial, (by walk_at "mem")⟩, ?_⟩))
local macro_rules | `(tactic| walk_at "end") => `(tactic| (first | exact ⟨Sub.refl _, by walk_at "rle"⟩ | walk_at "rle"))
theorem signs_map (z : Str) : signs z = z.cps.toList.map fun c => U.str ⟨#[c]⟩ := rfl
abbrev N_is_name : List Str := ["thing", "sign"]
theorem sc_is_name : FnScope N_is_name ["thing"] (defScope (atTop 7)) := ⟨rfl, rfl, rfl, by decide +kernel, rfl, by decide +kernel, by decide +kernel⟩
theorem fn_is_name {P : Program} {w : World} {K : PySem.W.Frag} {mg : Str → Option Value} {base : Heap} (T : Txt K mg) : Fn P w K mg base 1 "is_name" ["thing"] C_is_name := by
  have sc := sc_is_name
  refine Fn.of T 1 rfl rfl sc (fun _ _ _ _ _ _ us hl => match us, hl with | [_], _ => rfl) ?len (fun f cdv A outer s H E hr => ⟨_, (pss_cons (ps_if (PW.pt (pw_or (pt_not (pt_val (pe_callB (isiK (K := K) (by rfl)) (by rfl) T.f_isinstance (by decide +kernel) (pa_cons (pv 0) (pa_cons (pe_bltn (v := .ty "str") (by rfl) T.f_str (by decide +kernel) rfl) pa_nil))))) (pw_or1 (pt_not (pt_chain op_le op_le pe_int (pe_callB lenS (by rfl) T.f_len (by decide +kernel) (pa_cons (pv 0) pa_nil)) (pe_constI (by rfl) T.c_MOST_LETTERS)))))) (pss_one (ps_ret pe_bl)) pss_nil)
      (pss_one (ps_ret (pe_callB (allK (K := K) (by rfl) rfl) (by rfl) T.f_all (by decide +kernel) (pa_cons (pe_lc (own := [("sign", 1)]) rfl sc.nd (pi_str (pv 0)) (blkOk_by (own := [("sign", 1)]) (N := N_is_name) (sc := defScope (atTop 7)) (by decide +kernel)) (fun _ _ _ _ _ => (pg_name (i := 1) sc.nd rfl (by first | exact Or.inl rfl | exact Or.inr rfl))) (fun _ _ _ _ _ => pts_nil) (fun _ _ _ _ _ => (pe_cmpR op_in_sign (pv 1) (pe_constS (by rfl) T.c_LETTERS) (by rfl)))) pa_nil))))), fun us M q h => ?_⟩)
  case len => rintro us M q ⟨d, rfl, _⟩; rfl
  obtain ⟨n, rfl, ⟨h1, h2, h3⟩, hq⟩ := h
  walk_at "go"
  refine rc_lenS (by omega) ?_
  walk_at "w"
  rw [show decide ((1 : Int) ≤ (n.length : Nat)) = true from decide_eq_true (by omega)]
  walk_at "w"
  rw [show decide (((n.length : Nat) : Int) ≤ 8) = true from decide_eq_true (by omega)]
  walk_at "w"
  refine w_allT (α := Nat) (wi_str ?_)
  walk_at "w"
  refine ⟨n.cps.toList, _, signs_map n, by have : n.cps.toList.length = n.length := by first | rfl | simp [Str.length]
                                           omega, fun _ _ => trivial, fun D acc e he => ?_, ?_⟩
  · walk_at "w"
    refine r_sign ?_
    rw [decide_eq_true (h3 e he)]
    exact ⟨rfl, Sub.refl _⟩
  · exact ⟨M, by walk_at "sub", hq⟩
abbrev N_is_zone : List Str := ["thing"]
theorem sc_is_zone : FnScope N_is_zone ["thing"] (defScope (atTop 23)) := ⟨rfl, rfl, rfl, by decide +kernel, rfl, by decide +kernel, by decide +kernel⟩
theorem fn_is_zone {P : Program} {w : World} {K : PySem.W.Frag} {mg : Str → Option Value} {base : Heap} (T : Txt K mg) (F_is_name : Fn P w K mg base 1 "is_name" ["thing"] C_is_name) (F_are_rising : Fn P w K mg base 2 "are_rising" ["thing", "many", "least", "most"] C_are_rising) : Fn P w K mg base 3 "is_zone" ["thing"] C_is_zone := by
  have sc := sc_is_zone
  refine Fn.of T 7 rfl rfl sc (fun _ _ _ _ _ _ us hl => match us, hl with | [_], _ => rfl) ?len (fun f cdv A outer s H E hr => ⟨_, (pss_cons (ps_if (PW.pt (pw_or (pt_not (pt_val (pe_callB (isiK (K := K) (by rfl)) (by rfl) T.f_isinstance (by decide +kernel) (pa_cons (pv 0) (pa_cons (pe_bltn (v := .ty "tuple") (by rfl) T.f_tuple (by decide +kernel) rfl) pa_nil))))) (pw_or (pt_cmpR op_ne (pe_callB (lenK (K := K) (by rfl)) (by rfl) T.f_len (by decide +kernel) (pa_cons (pv 0) pa_nil)) pe_int (nomark _)) (pw_or1 (pt_not (pt_val (pFn F_is_name (by exact ⟨rfl, rfl, rfl, rfl, rfl⟩) (hr.mono (by decide)) (by rfl) (pa_cons (pe_ix (ixT (K := K) (by rfl)) (pv 0) pe_int (fun _ _ => rfl)) pa_nil)))))))) (pss_one (ps_ret pe_bl)) pss_nil)
      (pss_one (ps_ret (pe_and (pFn F_are_rising (by exact ⟨rfl, rfl, rfl, rfl, rfl⟩) (hr.mono (by decide)) (by rfl) (pa_cons (pe_ix (ixT (K := K) (by rfl)) (pv 0) pe_int (fun _ _ => rfl)) (pa_cons (pe_constI (by rfl) T.c_MOST_DEVICES) (pa_cons pe_int (pa_cons (pe_constI (by rfl) T.c_MOST_ADDRESS) pa_nil))))) (pe_one (pe_cmpR op_gt (pe_callB (lenK (K := K) (by rfl)) (by rfl) T.f_len (by decide +kernel) (pa_cons (pe_ix (ixT (K := K) (by rfl)) (pv 0) pe_int (fun _ _ => rfl)) pa_nil)) pe_int (nomark _))))))), fun us M q h => ?_⟩)
  case len => rintro us M q ⟨d, rfl, _⟩; rfl
  obtain ⟨z, rfl, hz, hq⟩ := h
  unfold eZone
  walk_at "go"
  refine ⟨hz.name, ?_⟩
  walk_at "w"
  refine ⟨_, _, _, _, rfl, by have := hz.few; omega, by have := hz.few; omega, hz.rise, hz.in_, ?_⟩
  walk_at "w"
  rw [show decide ((0 : Int) < ((z.2.map U.int).length : Nat)) = true from decide_eq_true (by rw [List.length_map]; have := hz.some_; omega)]
  exact ⟨M, by walk_at "sub", hq⟩
end Wl
set_option Elab.async false
set_option linter.all false
set_option maxRecDepth 100000
set_option maxHeartbeats 4000000
namespace Wl
open PySem PySem.Spec PyProof.Rows L2
local macro_rules | `(tactic| walk_at "w1") => `(tactic| first
  | with_reducible refine ws_seq ?_
  | with_reducible refine ws_ret ?_
  | with_reducible refine ws_asg ?_
  | with_reducible refine ws_drop ?_
  | with_reducible refine ws_if ?_
  | with_reducible refine ws_next ?_
  | with_reducible refine w_var (by with_unfolding_all rfl) ?_
  | with_reducible refine w_int ?_
  | with_reducible refine w_str ?_
  | with_reducible refine w_bl ?_
  | with_reducible refine w_non ?_
  | with_reducible refine w_ref ?_
  | with_reducible refine w_isi2 ?_
  | with_reducible refine w_op ?_
  | with_reducible refine w_andV ?_
  | with_reducible refine w_notV ?_
  | with_reducible refine w_chain ?_
  | with_reducible refine wa_nil ?_
  | with_reducible refine wa_cons ?_
  | with_reducible refine w_tup ?_
  | with_reducible refine w_lst ?_
  | with_reducible refine w_tupF ?_
  | with_reducible refine w_call ?_
  | ((fail_if_success (with_reducible refine w_allT (α := Unit) ?_)); (fail_if_success (with_reducible refine w_anyB (α := Unit) ?_)); with_reducible refine w_cb ?_)
  | with_reducible refine w_bm ?_
  | with_reducible refine wt_test ?_
  | with_reducible refine wt_B ?_
  | with_reducible refine wt_not ?_
  | with_reducible refine wt_and ?_
  | with_reducible refine wt_or ?_
  | with_reducible refine wt_yes ?_
  | with_reducible refine wg_name ?_ (by with_unfolding_all rfl)
  | with_reducible refine wg_name ?_
  | with_reducible refine wgs_nil ?_
  | with_reducible refine wgs_cons ?_
  | with_reducible refine wg_tup (by with_unfolding_all rfl) ?_
  | with_reducible refine w_un ?_
  | with_reducible refine w_sl ?_
  | with_reducible refine wo_none ?_
  | with_reducible refine wo_some ?_
  | with_reducible refine r_ii ?_
  | with_reducible refine r_ib ?_
  | with_reducible refine r_eqI ?_
  | with_reducible refine r_eqS ?_
  | with_reducible refine r_neI ?_
  | with_reducible refine r_neS ?_
  | with_reducible refine rs_T ?_
  | with_reducible refine rc_lenT ?_
  | with_reducible refine rc_lenTf ?_
  | with_reducible refine rc_min ?_
  | with_reducible refine r_isN ?_
  | with_reducible refine r_noN ?_
  | with_reducible refine ws_break ?_
  | with_reducible refine ws_dput ?_
  | (with_reducible refine r_ixT (by with_unfolding_all rfl) ?_)
  | exact ⟨rfl, Sub.refl _⟩
  | refine ⟨Sub.refl _, ?_⟩
  | refine ⟨Nat.le_of_ble_eq_true (by with_unfolding_all rfl), ?_⟩
  | refine ⟨_, rfl, ?_⟩
  | refine ⟨true, rfl, fun _ => ?_, fun z => Bool.noConfusion z⟩
  | refine ⟨false, rfl, fun z => Bool.noConfusion z, fun _ => ?_⟩
  | refine ⟨false, rfl, fun _ => ?_, fun z => Bool.noConfusion z⟩
  | refine ⟨true, rfl, fun z => Bool.noConfusion z, fun _ => ?_⟩
  | refine ⟨fun _ => ?_, fun z => Bool.noConfusion z⟩
  | refine ⟨fun z => Bool.noConfusion z, fun _ => ?_⟩)
local macro_rules | `(tactic| walk_at "w") => `(tactic| repeat walk_at "w1")
local macro_rules | `(tactic| walk_at "in") => `(tactic| try dsimp only [XD, cxOf, Cx.nox, Cx.wish])
local macro_rules | `(tactic| walk_at "ro") => `(tactic| try simp only [startR, List.map_cons, List.map_nil, List.length_cons, List.length_nil, Nat.reduceAdd, Nat.reduceSub, Nat.zero_add, List.replicate_zero, List.replicate_succ, List.cons_append, List.nil_append, List.append_nil, List.set_cons_zero, List.set_cons_succ])
local macro_rules | `(tactic| walk_at "sub") => `(tactic| repeat (first | exact Sub.refl _ | exact Sub.nil' _ | refine Sub.keep ?_ | refine Sub.skip ?_))
local macro_rules | `(tactic| walk_at "go") => `(tactic| (walk_at "in"; walk_at "ro"; walk_at "w"))
local macro_rules | `(tactic| walk_at "rle") => `(tactic| repeat (first | exact RLe.refl _ | exact RLe.nil | refine RLe.keep ?_ | refine RLe.hole ?_))
local macro_rules | `(tactic| walk_at "mem") => `(tactic| repeat (first | exact List.mem_cons_self .. | refine List.mem_cons_of_mem _ ?_))
local macro_rules | `(tactic| walk_at "put") => `(tactic| repeat (first | exact Put.here | refine Put.there ?_))
local macro_rules | `(tactic| walk_at "bm") => `(tactic| (first | refine ⟨⟨_, _, rfl, rfl, (by walk_at "mem")⟩, ?_⟩ | refine ⟨⟨_, _, rfl, trivial, (by walk_at "mem")⟩, ?_⟩))
local macro_rules | `(tactic| walk_at "end") => `(tactic| (first | exact ⟨Sub.refl _, by walk_at "rle"⟩ | walk_at "rle"))
abbrev N_devices : List Str := ["plan", "found", "loop", "places", "at", "kind", "address", "spur", "way", "other", "number"]
theorem sc_devices : FnScope N_devices ["plan"] (defScope (atTop 26)) := ⟨rfl, rfl, rfl, by decide +kernel, rfl, by decide +kernel, by decide +kernel⟩
theorem fn_devices {P : Program} {w : World} {K : PySem.W.Frag} {mg : Str → Option Value} {base : Heap} (T : Txt K mg) : Fn P w K mg base 1 "devices" ["plan"] C_devices := by
  have sc := sc_devices
  refine Fn.of T 10 rfl rfl sc (fun _ _ _ _ _ _ us hl => match us, hl with | [_], _ => rfl) ?len (fun f cdv A outer s H E hr => ⟨_, (pss_cons (ps_set (i := 1) sc.nd rfl (Or.inl rfl) (pe_lst pa_nil))
      (pss_cons (ps_for PassesOwn.never rfl (piET (K := K) (by rfl) (by rfl) T.f_enumerate (pa_cons (pe_ix (ixT (K := K) (by rfl)) (pv 0) pe_int (fun _ _ => rfl)) pa_nil)) (pgT (K := K) (n := 2) (by rfl) rfl (pgs_cons (pg_name (i := 2) sc.nd rfl (by first | exact Or.inl rfl | exact Or.inr rfl)) (pgs_cons (pg_name (i := 3) sc.nd rfl (by first | exact Or.inl rfl | exact Or.inr rfl)) pgs_nil)))
        (pss_one (ps_for PassesOwn.never rfl (piET (K := K) (by rfl) (by rfl) T.f_enumerate (pa_cons (pv 3) pa_nil)) (pgT (K := K) (n := 2) (by rfl) rfl (pgs_cons (pg_name (i := 4) sc.nd rfl (by first | exact Or.inl rfl | exact Or.inr rfl)) (pgs_cons (pgT (K := K) (n := 3) (by rfl) rfl (pgs_cons (pg_name (i := 5) sc.nd rfl (by first | exact Or.inl rfl | exact Or.inr rfl)) (pgs_cons (pg_name (i := 6) sc.nd rfl (by first | exact Or.inl rfl | exact Or.inr rfl)) (pgs_cons (pg_name (i := 7) sc.nd rfl (by first | exact Or.inl rfl | exact Or.inr rfl)) pgs_nil)))) pgs_nil)))
            (pss_cons (ps_if (pt_cmpR op_ne (pv 5) (pe_constS (by rfl) T.c_OPENER) (nomark _)) (pss_one (ps_expr (pe_bm PySem.F.plainAttrs_list PySem.F.slot_list_append PySem.F.type_list_append mt_append (pv 1) (pa_cons (pe_tup (pa_cons (pe_tup (pa_cons (pv 2) (pa_cons (pe_op op_add (pv 4) pe_int) (pa_cons pe_int pa_nil)))) (pa_cons (pv 5) (pa_cons (pv 6) pa_nil)))) pa_nil)))) pss_nil)
              (pss_one (ps_for PassesOwn.never rfl (piET (K := K) (by rfl) (by rfl) T.f_enumerate (pa_cons (pv 7) pa_nil)) (pgT (K := K) (n := 2) (by rfl) rfl (pgs_cons (pg_name (i := 8) sc.nd rfl (by first | exact Or.inl rfl | exact Or.inr rfl)) (pgs_cons (pgT (K := K) (n := 2) (by rfl) rfl (pgs_cons (pg_name (i := 9) sc.nd rfl (by first | exact Or.inl rfl | exact Or.inr rfl)) (pgs_cons (pg_name (i := 10) sc.nd rfl (by first | exact Or.inl rfl | exact Or.inr rfl)) pgs_nil))) pgs_nil)))
                (pss_one (ps_expr (pe_bm PySem.F.plainAttrs_list PySem.F.slot_list_append PySem.F.type_list_append mt_append (pv 1) (pa_cons (pe_tup (pa_cons (pe_tup (pa_cons (pv 2) (pa_cons (pe_op op_add (pv 4) pe_int) (pa_cons (pe_op op_add (pv 8) pe_int) pa_nil)))) (pa_cons (pv 9) (pa_cons (pv 10) pa_nil)))) pa_nil))))))))))
      (pss_one (ps_ret (pv 1))))), fun us M q h => ?_⟩)
  case len => rintro us M q ⟨_, rfl, _⟩; rfl
  obtain ⟨p, rfl, hp, hq⟩ := h
  unfold ePlan
  walk_at "go"
  intro a
  walk_at "w"
  walk_at "ro"
  refine ws_forE (α := List Pl) [some (ePlan p), some (.ptr a), none, none, none, none, none, none, none, none, none] (fun ls i => (a, .l (((ls.zipIdx.take i).flatMap fun x => loopRows x.2 x.1).map eRow)) :: M) (by walk_at "rle") ?_
  walk_at "w"
  refine ⟨p.loops, eLoop, rfl, Sub.refl _, fun i l hl => ?_, fun M' ρ' hs hr => ?_⟩
  · have hlm := List.mem_of_getElem? hl
    walk_at "w"
    walk_at "ro"
    rw [flat_next (zip_get hl)]
    have b1 := devs_take hp i
    revert b1
    generalize ((p.loops.zipIdx.take i).flatMap fun x => loopRows x.2 x.1) = A1
    intro b1
    refine ws_forE (α := Pl) [some (ePlan p), some (.ptr a), some (.int (i : Nat)), none, none, none, none, none, none, none, none] (fun xs j => (a, .l ((A1 ++ (xs.zipIdx.take j).flatMap fun x => x.1.rows i x.2).map eRow)) :: M) (by walk_at "rle") ?_
    walk_at "w"
    refine ⟨l, ePl, rfl, by rw [List.take_zero, List.flatMap_nil, List.append_nil]; exact Sub.refl _, fun j x hx => ?_, fun M' ρ' hs hr => ?_⟩
    · have hs := hp.pl l hlm x (List.mem_of_getElem? hx)
      rw [flat_next (zip_get hx), ← List.append_assoc]
      have b2 : ((l.zipIdx.take j).flatMap fun x => x.1.rows i x.2).length ≤ 48 := Nat.le_trans (flat_le (xs := l.zipIdx) (g := fun x => x.1.rows i x.2) j) (loopRows_len hp hlm i)
      revert b2
      generalize (l.zipIdx.take j).flatMap (fun x => x.1.rows i x.2) = A2
      intro b2
      cases x with
      | op =>
        simp only [ePl]
        walk_at "w"
        walk_at "ro"
        walk_at "w"
        refine ws_forE (α := Dev) [some (ePlan p), some (.ptr a), some (.int (i : Nat)), none, none, none, none, none, none, none, none] (fun ws k => (a, .l ((A1 ++ A2).map eRow)) :: M) (by walk_at "rle") ?_
        walk_at "w"
        refine ⟨[], eDev, rfl, Sub.refl _, fun k e he => by simp at he, fun M' ρ' hs hr => ⟨?_, hr⟩⟩
        simpa [Pl.rows] using hs
      | dev d sp =>
        simp only [ePl]
        walk_at "w"
        walk_at "ro"
        walk_at "w"
        rw [show decide (d.kind = "opener") = false from decide_eq_false hs.1]
        walk_at "w"
        walk_at "bm"
        walk_at "w"
        refine rm_append put1 (by rw [List.length_map, List.length_append]; omega) ?_
        walk_at "w"
        refine ws_forE (α := Dev) [some (ePlan p), some (.ptr a), some (.int (i : Nat)), none, some (.int (j : Nat)), none, none, none, none, none, none] (fun ws k => (a, .l ((A1 ++ A2 ++ ((i, j + 1, 0), d) :: (ws.zipIdx.take k).map fun x : Dev × Nat => ((i, j + 1, x.2 + 1), x.1)).map eRow)) :: M) (by walk_at "rle") ?_
        walk_at "w"
        refine ⟨sp, eDev, rfl, Sub.l_eq (by rw [List.map_append, List.take_zero]; rfl) (Sub.refl _), fun k e he => ?_, fun M' ρ' hs hr => ⟨?_, ?_⟩⟩
        · have hk := (List.getElem?_eq_some_iff.mp he).1
          have := hs.2
          simp only [eDev]
          walk_at "w"
          walk_at "ro"
          walk_at "w"
          walk_at "bm"
          walk_at "w"
          refine rm_append put1 (by simp only [List.length_map, List.length_append, List.length_cons, List.length_take]; omega) ?_
          walk_at "w"
          refine ⟨Sub.l_eq ?_ (Sub.refl _), by walk_at "rle"⟩
          rw [List.take_add_one, zip_get he]
          simp only [List.map_append, List.map_cons, List.append_assoc, List.cons_append]
          rfl
        · rw [show sp.zipIdx.take sp.length = sp.zipIdx from List.take_of_length_le (by simp)] at hs
          exact hs
        · exact RLe.trans (by walk_at "rle") hr
    · rw [show l.zipIdx.take l.length = l.zipIdx from List.take_of_length_le (by simp)] at hs
      exact ⟨hs, RLe.trans (by walk_at "rle") hr⟩
  · rw [show p.loops.zipIdx.take p.loops.length = p.loops.zipIdx from List.take_of_length_le (by simp)] at hs
    refine WS.fr hs hr ?_
    walk_at "w"
    exact ⟨_, Sub.refl _, hq a⟩
end Wl
set_option Elab.async false
set_option linter.all false
set_option maxRecDepth 100000
set_option maxHeartbeats 4000000
namespace Wl
open PySem PySem.Spec PyProof.Rows L2
local macro_rules | `(tactic| walk_at "w1") => `(tactic| first
  | with_reducible refine ws_seq ?_
  | with_reducible refine ws_ret ?_
  | with_reducible refine ws_asg ?_
  | with_reducible refine ws_drop ?_
  | with_reducible refine ws_if ?_
  | with_reducible refine ws_next ?_
  | with_reducible refine w_var (by with_unfolding_all rfl) ?_
  | with_reducible refine w_int ?_
  | with_reducible refine w_str ?_
  | with_reducible refine w_bl ?_
  | with_reducible refine w_non ?_
  | with_reducible refine w_ref ?_
  | with_reducible refine w_isi2 ?_
  | with_reducible refine w_op ?_
  | with_reducible refine w_andV ?_
  | with_reducible refine w_notV ?_
  | with_reducible refine w_chain ?_
  | with_reducible refine wa_nil ?_
  | with_reducible refine wa_cons ?_
  | with_reducible refine w_tup ?_
  | with_reducible refine w_lst ?_
  | with_reducible refine w_tupF ?_
  | with_reducible refine w_call ?_
  | ((fail_if_success (with_reducible refine w_allT (α := Unit) ?_)); (fail_if_success (with_reducible refine w_anyB (α := Unit) ?_)); with_reducible refine w_cb ?_)
  | with_reducible refine w_bm ?_
  | with_reducible refine wt_test ?_
  | with_reducible refine wt_B ?_
  | with_reducible refine wt_not ?_
  | with_reducible refine wt_and ?_
  | with_reducible refine wt_or ?_
  | with_reducible refine wt_yes ?_
  | with_reducible refine wg_name ?_ (by with_unfolding_all rfl)
  | with_reducible refine wg_name ?_
  | with_reducible refine wgs_nil ?_
  | with_reducible refine wgs_cons ?_
  | with_reducible refine wg_tup (by with_unfolding_all rfl) ?_
  | with_reducible refine w_un ?_
  | with_reducible refine w_sl ?_
  | with_reducible refine wo_none ?_
  | with_reducible refine wo_some ?_
  | with_reducible refine r_ii ?_
  | with_reducible refine r_ib ?_
  | with_reducible refine r_eqI ?_
  | with_reducible refine r_eqS ?_
  | with_reducible refine r_neI ?_
  | with_reducible refine r_neS ?_
  | with_reducible refine rs_T ?_
  | with_reducible refine rc_lenT ?_
  | with_reducible refine rc_lenTf ?_
  | with_reducible refine rc_min ?_
  | with_reducible refine r_isN ?_
  | with_reducible refine r_noN ?_
  | with_reducible refine ws_break ?_
  | with_reducible refine ws_dput ?_
  | (with_reducible refine r_ixT (by with_unfolding_all rfl) ?_)
  | exact ⟨rfl, Sub.refl _⟩
  | refine ⟨Sub.refl _, ?_⟩
  | refine ⟨Nat.le_of_ble_eq_true (by with_unfolding_all rfl), ?_⟩
  | refine ⟨_, rfl, ?_⟩
  | refine ⟨true, rfl, fun _ => ?_, fun z => Bool.noConfusion z⟩
  | refine ⟨false, rfl, fun z => Bool.noConfusion z, fun _ => ?_⟩
  | refine ⟨false, rfl, fun _ => ?_, fun z => Bool.noConfusion z⟩
  | refine ⟨true, rfl, fun z => Bool.noConfusion z, fun _ => ?_⟩
  | refine ⟨fun _ => ?_, fun z => Bool.noConfusion z⟩
  | refine ⟨fun z => Bool.noConfusion z, fun _ => ?_⟩)
local macro_rules | `(tactic| walk_at "w") => `(tactic| repeat walk_at "w1")
local macro_rules | `(tactic| walk_at "in") => `(tactic| try dsimp only [XD, cxOf, Cx.nox, Cx.wish])
local macro_rules | `(tactic| walk_at "ro") => `(tactic| try simp only [startR, List.map_cons, List.map_nil, List.length_cons, List.length_nil, Nat.reduceAdd, Nat.reduceSub, Nat.zero_add, List.replicate_zero, List.replicate_succ, List.cons_append, List.nil_append, List.append_nil, List.set_cons_zero, List.set_cons_succ])
local macro_rules | `(tactic| walk_at "sub") => `(tactic| repeat (first | exact Sub.refl _ | exact Sub.nil' _ | refine Sub.keep ?_ | refine Sub.skip ?_))
local macro_rules | `(tactic| walk_at "go") => `(tactic| (walk_at "in"; walk_at "ro"; walk_at "w"))
local macro_rules | `(tactic| walk_at "rle") => `(tactic| repeat (first | exact RLe.refl _ | exact RLe.nil | refine RLe.keep ?_ | refine RLe.hole ?_))
local macro_rules | `(tactic| walk_at "mem") => `(tactic| repeat (first | exact List.mem_cons_self .. | refine List.mem_cons_of_mem _ ?_))
local macro_rules | `(tactic| walk_at "put") => `(tactic| repeat (first | exact Put.here | refine Put.there ?_))
local macro_rules | `(tactic| walk_at "bm") => `(tactic| (first | refine ⟨⟨_, _, rfl, rfl, (by walk_at "mem")⟩, ?_⟩ | refine ⟨⟨_, _, rfl, trivial, (by walk_at "mem")⟩, ?_⟩))
local macro_rules | `(tactic| walk_at "end") => `(tactic| (first | exact ⟨Sub.refl _, by walk_at "rle"⟩ | walk_at "rle"))
theorem range_wi (n : Nat) : upTo 0 n = (List.range n).map fun i => U.int (i : Nat) := by
  unfold upTo
  refine List.map_congr_left fun i _ => ?_
  rw [Int.zero_add]
abbrev N_stretches : List Str := ["plan", "found", "loop", "places", "at", "place", "way"]
theorem sc_stretches : FnScope N_stretches ["plan"] (defScope (atTop 27)) := ⟨rfl, rfl, rfl, by decide +kernel, rfl, by decide +kernel, by decide +kernel⟩
theorem fn_stretches {P : Program} {w : World} {K : PySem.W.Frag} {mg : Str → Option Value} {base : Heap} (T : Txt K mg) : Fn P w K mg base 1 "stretches" ["plan"] C_stretches := by
  have sc := sc_stretches
  refine Fn.of T 11 rfl rfl sc (fun _ _ _ _ _ _ us hl => match us, hl with | [_], _ => rfl) ?len (fun f cdv A outer s H E hr => ⟨_, (pss_cons (ps_set (i := 1) sc.nd rfl (Or.inl rfl) (pe_lst pa_nil))
      (pss_cons (ps_for PassesOwn.never rfl (piET (K := K) (by rfl) (by rfl) T.f_enumerate (pa_cons (pe_ix (ixT (K := K) (by rfl)) (pv 0) pe_int (fun _ _ => rfl)) pa_nil)) (pgT (K := K) (n := 2) (by rfl) rfl (pgs_cons (pg_name (i := 2) sc.nd rfl (by first | exact Or.inl rfl | exact Or.inr rfl)) (pgs_cons (pg_name (i := 3) sc.nd rfl (by first | exact Or.inl rfl | exact Or.inr rfl)) pgs_nil)))
        (pss_cons (ps_expr (pe_bm PySem.F.plainAttrs_list PySem.F.slot_list_append PySem.F.type_list_append mt_append (pv 1) (pa_cons (pe_tup (pa_cons (pv 2) (pa_cons pe_int (pa_cons pe_int pa_nil)))) pa_nil)))
          (pss_one (ps_for PassesOwn.never rfl (piET (K := K) (by rfl) (by rfl) T.f_enumerate (pa_cons (pv 3) pa_nil)) (pgT (K := K) (n := 2) (by rfl) rfl (pgs_cons (pg_name (i := 4) sc.nd rfl (by first | exact Or.inl rfl | exact Or.inr rfl)) (pgs_cons (pg_name (i := 5) sc.nd rfl (by first | exact Or.inl rfl | exact Or.inr rfl)) pgs_nil)))
            (pss_one (ps_expr (pe_bm PySem.F.plainAttrs_list PySem.F.slot_list_extend PySem.F.type_list_extend mt_extend (pv 1) (pa_cons (pe_lc (own := [("way", 6)]) rfl sc.nd (pi_range1 (by rfl) T.f_range (pa_cons (pe_op op_add (pe_callB (lenK (K := K) (by rfl)) (by rfl) T.f_len (by decide +kernel) (pa_cons (pe_ix (ixT (K := K) (by rfl)) (pv 5) pe_int (fun _ _ => rfl)) pa_nil)) pe_int) pa_nil)) (blkOk_by (own := [("way", 6)]) (N := N_stretches) (sc := defScope (atTop 27)) (by decide +kernel)) (fun _ _ _ _ _ => (pg_name (i := 6) sc.nd rfl (by first | exact Or.inl rfl | exact Or.inr rfl))) (fun _ _ _ _ _ => pts_nil) (fun _ _ _ _ _ => (pe_tup (pa_cons (pv 2) (pa_cons (pe_op op_add (pv 4) pe_int) (pa_cons (pv 6) pa_nil)))))) pa_nil))))))))
      (pss_one (ps_ret (pv 1))))), fun us M q h => ?_⟩)
  case len => rintro us M q ⟨_, rfl, _⟩; rfl
  obtain ⟨p, rfl, hp, hq⟩ := h
  unfold ePlan
  walk_at "go"
  intro a
  walk_at "w"
  walk_at "ro"
  refine ws_forE (α := List Pl) [some (ePlan p), some (.ptr a), none, none, none, none, none] (fun ls i => (a, .l (((ls.zipIdx.take i).flatMap fun x => loopStr x.2 x.1).map eSp)) :: M) (by walk_at "rle") ?_
  walk_at "w"
  refine ⟨p.loops, eLoop, rfl, Sub.refl _, fun i l hl => ?_, fun M' ρ' hs hr => ?_⟩
  · have hlm := List.mem_of_getElem? hl
    walk_at "w"
    walk_at "ro"
    rw [flat_next (zip_get hl)]
    have b1 := strs_take hp i
    revert b1
    generalize ((p.loops.zipIdx.take i).flatMap fun x => loopStr x.2 x.1) = A1
    intro b1
    walk_at "w"
    walk_at "bm"
    walk_at "w"
    refine rm_append put1 (by rw [List.length_map]; omega) ?_
    walk_at "w"
    refine ws_forE (α := Pl) [some (ePlan p), some (.ptr a), some (.int (i : Nat)), none, none, none, none] (fun xs j => (a, .l ((A1 ++ (i, 0, 0) :: (xs.zipIdx.take j).flatMap fun x => plStr i x.2 x.1).map eSp)) :: M) (by walk_at "rle") ?_
    walk_at "w"
    refine ⟨l, ePl, rfl, Sub.l_eq (by rw [List.map_append, List.take_zero]; rfl) (Sub.refl _), fun j x hx => ?_, fun M' ρ' hs hr => ?_⟩
    · have hs := hp.pl l hlm x (List.mem_of_getElem? hx)
      have hw := plStr_len i j hs
      have b2 : ((l.zipIdx.take j).flatMap fun x => plStr i x.2 x.1).length ≤ 49 := by
        have h1 := flat_le (xs := l.zipIdx) (g := fun x => plStr i x.2 x.1) j
        have h2 := loopStr_len hp hlm i
        have e : (loopStr i l).length = (l.zipIdx.flatMap fun x => plStr i x.2 x.1).length + 1 := rfl
        omega
      rw [flat_next (zip_get hx)]
      revert b2
      generalize (l.zipIdx.take j).flatMap (fun x => plStr i x.2 x.1) = A2
      intro b2
      have ex : ∃ k ad, ePl x = .tup [.str k, .int ad, .tup (x.spur.map eDev)] := by
        cases x with
        | op => exact ⟨_, _, rfl⟩
        | dev d sp => exact ⟨_, _, rfl⟩
      obtain ⟨k, ad, ex⟩ := ex
      rw [ex]
      walk_at "w"
      walk_at "ro"
      walk_at "w"
      walk_at "bm"
      walk_at "w"
      refine w_lcm (α := Nat) (wi_rng1 ?_)
      walk_at "w"
      rw [List.length_map]
      have hl4 : x.spur.length + 1 ≤ 4 := by simpa [plStr] using hw
      refine ⟨by omega, by omega, ?_⟩
      refine ⟨List.range (x.spur.length + 1), fun w => .int (w : Nat), fun w => eSp (i, j + 1, w), by
        rw [show ((x.spur.length : Nat) + 1 : Int).toNat = x.spur.length + 1 from by omega]; exact range_wi _, by rw [List.length_range]; omega, fun _ _ => trivial, fun D acc w hw => ?_, fun D => ?_⟩
      · walk_at "w"
        walk_at "ro"
        walk_at "w"
      · walk_at "w"
        refine rm_extend (.there .here) (List.mem_cons_self ..) (by simp only [List.length_map, List.length_append, List.length_cons, List.length_range]; omega) ?_
        walk_at "w"
        refine ⟨.skip (Sub.l_eq ?_ (Sub.refl _)), by walk_at "rle"⟩
        simp only [List.map_append, List.map_cons, List.append_assoc, List.cons_append]
        unfold plStr
        rw [List.map_map]
        rfl
    · rw [show l.zipIdx.take l.length = l.zipIdx from List.take_of_length_le (by simp)] at hs
      exact ⟨hs, RLe.trans (by walk_at "rle") hr⟩
  · rw [show p.loops.zipIdx.take p.loops.length = p.loops.zipIdx from List.take_of_length_le (by simp)] at hs
    refine WS.fr hs hr ?_
    walk_at "w"
    exact ⟨_, Sub.refl _, hq a⟩
abbrev N_openers : List Str := ["plan", "found", "loop", "places", "at", "place"]
theorem sc_openers : FnScope N_openers ["plan"] (defScope (atTop 28)) := ⟨rfl, rfl, rfl, by decide +kernel, rfl, by decide +kernel, by decide +kernel⟩
theorem fn_openers {P : Program} {w : World} {K : PySem.W.Frag} {mg : Str → Option Value} {base : Heap} (T : Txt K mg) : Fn P w K mg base 1 "openers" ["plan"] C_openers := by
  have sc := sc_openers
  refine Fn.of T 12 rfl rfl sc (fun _ _ _ _ _ _ us hl => match us, hl with | [_], _ => rfl) ?len (fun f cdv A outer s H E hr => ⟨_, (pss_cons (ps_set (i := 1) sc.nd rfl (Or.inl rfl) (pe_lst pa_nil))
      (pss_cons (ps_for PassesOwn.never rfl (piET (K := K) (by rfl) (by rfl) T.f_enumerate (pa_cons (pe_ix (ixT (K := K) (by rfl)) (pv 0) pe_int (fun _ _ => rfl)) pa_nil)) (pgT (K := K) (n := 2) (by rfl) rfl (pgs_cons (pg_name (i := 2) sc.nd rfl (by first | exact Or.inl rfl | exact Or.inr rfl)) (pgs_cons (pg_name (i := 3) sc.nd rfl (by first | exact Or.inl rfl | exact Or.inr rfl)) pgs_nil)))
        (pss_cons (ps_expr (pe_bm PySem.F.plainAttrs_list PySem.F.slot_list_append PySem.F.type_list_append mt_append (pv 1) (pa_cons (pe_tup (pa_cons (pv 2) (pa_cons pe_int pa_nil))) pa_nil)))
          (pss_cons (ps_expr (pe_bm PySem.F.plainAttrs_list PySem.F.slot_list_extend PySem.F.type_list_extend mt_extend (pv 1) (pa_cons (pe_lc (own := [("at", 4), ("place", 5)]) rfl sc.nd (piET (K := K) (by rfl) (by rfl) T.f_enumerate (pa_cons (pv 3) pa_nil)) (blkOk_by (own := [("at", 4), ("place", 5)]) (N := N_openers) (sc := defScope (atTop 28)) (by decide +kernel)) (fun _ _ _ _ _ => (pgT (K := K) (n := 2) (by rfl) rfl (pgs_cons (pg_name (i := 4) sc.nd rfl (by first | exact Or.inl rfl | exact Or.inr rfl)) (pgs_cons (pg_name (i := 5) sc.nd rfl (by first | exact Or.inl rfl | exact Or.inr rfl)) pgs_nil)))) (fun _ _ _ _ _ => (pts_one (pt_cmpR op_eq (pe_ix (ixT (K := K) (by rfl)) (pv 5) pe_int (fun _ _ => rfl)) (pe_constS (by rfl) T.c_OPENER) (nomark _)))) (fun _ _ _ _ _ => (pe_tup (pa_cons (pv 2) (pa_cons (pe_op op_add (pv 4) pe_int) pa_nil))))) pa_nil)))
          (pss_one (ps_expr (pe_bm PySem.F.plainAttrs_list PySem.F.slot_list_append PySem.F.type_list_append mt_append (pv 1) (pa_cons (pe_tup (pa_cons (pv 2) (pa_cons (pe_op op_add (pe_callB (lenK (K := K) (by rfl)) (by rfl) T.f_len (by decide +kernel) (pa_cons (pv 3) pa_nil)) pe_int) pa_nil))) pa_nil)))))))
      (pss_one (ps_ret (pv 1))))), fun us M q h => ?_⟩)
  case len => rintro us M q ⟨_, rfl, _⟩; rfl
  obtain ⟨p, rfl, hp, hq⟩ := h
  unfold ePlan
  walk_at "go"
  intro a
  walk_at "w"
  walk_at "ro"
  refine ws_forE (α := List Pl) [some (ePlan p), some (.ptr a), none, none, none, none] (fun ls i => (a, .l (((ls.zipIdx.take i).flatMap fun x => loopGates x.2 x.1).map eGt)) :: M) (by walk_at "rle") ?_
  walk_at "w"
  refine ⟨p.loops, eLoop, rfl, Sub.refl _, fun i l hl => ?_, fun M' ρ' hs hr => ?_⟩
  · have hlm := List.mem_of_getElem? hl
    have hl12 := hp.places l hlm
    walk_at "w"
    walk_at "ro"
    rw [flat_next (zip_get hl)]
    have b1 := gates_take hp i
    revert b1
    generalize ((p.loops.zipIdx.take i).flatMap fun x => loopGates x.2 x.1) = A1
    intro b1
    unfold eLoop
    walk_at "w"
    walk_at "bm"
    walk_at "w"
    refine rm_append put1 (by rw [List.length_map]; omega) ?_
    walk_at "w"
    walk_at "bm"
    walk_at "w"
    refine w_lcp (α := Pl × Nat) (wi_enumT ?_)
    walk_at "w"
    refine ⟨l.zipIdx, _, fun x => x.1.isOp, fun x => eGt (i, x.2 + 1), pairs_map _ _, by rw [List.length_zipIdx]; omega, fun _ _ => trivial, fun D acc x hx => ?_, fun D => ?_⟩
    · have hs := hp.pl l hlm _ (zip_mem1 hx)
      obtain ⟨x, j⟩ := x
      cases x with
      | op =>
        simp only [ePl]
        walk_at "w"
        walk_at "ro"
        walk_at "w"
        refine ⟨rfl, Sub.refl _, fun _ => ?_⟩
        walk_at "w"
      | dev d sp =>
        simp only [ePl]
        walk_at "w"
        walk_at "ro"
        walk_at "w"
        rw [show decide (d.kind = "opener") = false from decide_eq_false hs.1]
        exact ⟨rfl, Sub.refl _, fun z => by cases z⟩
    · walk_at "w"
      have hf := List.length_filter_le (fun x : Pl × Nat => x.1.isOp) l.zipIdx
      rw [List.length_zipIdx] at hf
      refine rm_extend (.there .here) (List.mem_cons_self ..) (by simp only [List.length_map, List.length_append, List.length_cons, List.length_nil]; omega) ?_
      walk_at "w"
      walk_at "bm"
      walk_at "w"
      refine rm_append (.there .here) (by simp only [List.length_map, List.length_append, List.length_cons, List.length_nil]; omega) ?_
      walk_at "w"
      refine ⟨.skip (Sub.l_eq ?_ (Sub.refl _)), by walk_at "rle"⟩
      unfold loopGates
      simp only [List.map_append, List.map_cons, List.append_assoc, List.cons_append, List.nil_append, List.map_map, List.map_nil, List.length_map]
      rfl
  · rw [show p.loops.zipIdx.take p.loops.length = p.loops.zipIdx from List.take_of_length_le (by simp)] at hs
    refine WS.fr hs hr ?_
    walk_at "w"
    exact ⟨_, Sub.refl _, hq a⟩
end Wl
set_option Elab.async false
set_option linter.all false
set_option maxRecDepth 100000
set_option maxHeartbeats 4000000
namespace Wl
open PySem PySem.Spec PyProof.Rows L2
local macro_rules | `(tactic| walk_at "w1") => `(tactic| first
  | with_reducible refine ws_seq ?_
  | with_reducible refine ws_ret ?_
  | with_reducible refine ws_asg ?_
  | with_reducible refine ws_drop ?_
  | with_reducible refine ws_if ?_
  | with_reducible refine ws_next ?_
  | with_reducible refine w_var (by with_unfolding_all rfl) ?_
  | with_reducible refine w_int ?_
  | with_reducible refine w_str ?_
  | with_reducible refine w_bl ?_
  | with_reducible refine w_non ?_
  | with_reducible refine w_ref ?_
  | with_reducible refine w_isi2 ?_
  | with_reducible refine w_op ?_
  | with_reducible refine w_andV ?_
  | with_reducible refine w_notV ?_
  | with_reducible refine w_chain ?_
  | with_reducible refine wa_nil ?_
  | with_reducible refine wa_cons ?_
  | with_reducible refine w_tup ?_
  | with_reducible refine w_lst ?_
  | with_reducible refine w_tupF ?_
  | with_reducible refine w_call ?_
  | ((fail_if_success (with_reducible refine w_allT (α := Unit) ?_)); (fail_if_success (with_reducible refine w_anyB (α := Unit) ?_)); with_reducible refine w_cb ?_)
  | with_reducible refine w_bm ?_
  | with_reducible refine wt_test ?_
  | with_reducible refine wt_B ?_
  | with_reducible refine wt_not ?_
  | with_reducible refine wt_and ?_
  | with_reducible refine wt_or ?_
  | with_reducible refine wt_yes ?_
  | with_reducible refine wg_name ?_ (by with_unfolding_all rfl)
  | with_reducible refine wg_name ?_
  | with_reducible refine wgs_nil ?_
  | with_reducible refine wgs_cons ?_
  | with_reducible refine wg_tup (by with_unfolding_all rfl) ?_
  | with_reducible refine w_un ?_
  | with_reducible refine w_sl ?_
  | with_reducible refine wo_none ?_
  | with_reducible refine wo_some ?_
  | with_reducible refine r_ii ?_
  | with_reducible refine r_ib ?_
  | with_reducible refine r_eqI ?_
  | with_reducible refine r_eqS ?_
  | with_reducible refine r_neI ?_
  | with_reducible refine r_neS ?_
  | with_reducible refine rs_T ?_
  | with_reducible refine rc_lenT ?_
  | with_reducible refine rc_lenTf ?_
  | with_reducible refine rc_min ?_
  | with_reducible refine r_isN ?_
  | with_reducible refine r_noN ?_
  | with_reducible refine ws_break ?_
  | with_reducible refine ws_dput ?_
  | (with_reducible refine r_ixT (by with_unfolding_all rfl) ?_)
  | exact ⟨rfl, Sub.refl _⟩
  | refine ⟨Sub.refl _, ?_⟩
  | refine ⟨Nat.le_of_ble_eq_true (by with_unfolding_all rfl), ?_⟩
  | refine ⟨_, rfl, ?_⟩
  | refine ⟨true, rfl, fun _ => ?_, fun z => Bool.noConfusion z⟩
  | refine ⟨false, rfl, fun z => Bool.noConfusion z, fun _ => ?_⟩
  | refine ⟨false, rfl, fun _ => ?_, fun z => Bool.noConfusion z⟩
  | refine ⟨true, rfl, fun z => Bool.noConfusion z, fun _ => ?_⟩
  | refine ⟨fun _ => ?_, fun z => Bool.noConfusion z⟩
  | refine ⟨fun z => Bool.noConfusion z, fun _ => ?_⟩)
local macro_rules | `(tactic| walk_at "w") => `(tactic| repeat walk_at "w1")
local macro_rules | `(tactic| walk_at "in") => `(tactic| try dsimp only [XD, cxOf, Cx.nox, Cx.wish])
local macro_rules | `(tactic| walk_at "ro") => `(tactic| try simp only [startR, List.map_cons, List.map_nil, List.length_cons, List.length_nil, Nat.reduceAdd, Nat.reduceSub, Nat.zero_add, List.replicate_zero, List.replicate_succ, List.cons_append, List.nil_append, List.append_nil, List.set_cons_zero, List.set_cons_succ])
local macro_rules | `(tactic| walk_at "sub") => `(tactic| repeat (first | exact Sub.refl _ | exact Sub.nil' _ | refine Sub.keep ?_ | refine Sub.skip ?_))
local macro_rules | `(tactic| walk_at "go") => `(tactic| (walk_at "in"; walk_at "ro"; walk_at "w"))
local macro_rules | `(tactic| walk_at "rle") => `(tactic| repeat (first | exact RLe.refl _ | exact RLe.nil | refine RLe.keep ?_ | refine RLe.hole ?_))
local macro_rules | `(tactic| walk_at "mem") => `(tactic| repeat (first | exact List.mem_cons_self .. | refine List.mem_cons_of_mem _ ?_))
local macro_rules | `(tactic| walk_at "put") => `(tactic| repeat (first | exact Put.here | refine Put.there ?_))
local macro_rules | `(tactic| walk_at "bm") => `(tactic| (first | refine ⟨⟨_, _, rfl, rfl, (by walk_at "mem")⟩, ?_⟩ | refine ⟨⟨_, _, rfl, trivial, (by walk_at "mem")⟩, ?_⟩))
local macro_rules | `(tactic| walk_at "end") => `(tactic| (first | exact ⟨Sub.refl _, by walk_at "rle"⟩ | walk_at "rle"))
theorem range_wi2 (n : Nat) : upTo 0 n = (List.range n).map fun i => U.int (i : Nat) := by
  unfold upTo
  refine List.map_congr_left fun i _ => ?_
  rw [Int.zero_add]
abbrev N_parts : List Str := ["plan", "loop", "found", "at", "kind", "address", "spur", "way"]
theorem sc_parts : FnScope N_parts ["plan", "loop"] (defScope (atTop 29)) := ⟨rfl, rfl, rfl, by decide +kernel, rfl, by decide +kernel, by decide +kernel⟩
theorem fn_parts {P : Program} {w : World} {K : PySem.W.Frag} {mg : Str → Option Value} {base : Heap} (T : Txt K mg) : Fn P w K mg base 1 "parts" ["plan", "loop"] C_parts := by
  have sc := sc_parts
  refine Fn.of T 13 rfl rfl sc (fun _ _ _ _ _ _ us hl => match us, hl with | [_, _], _ => rfl) ?len (fun f cdv A outer s H E hr => ⟨_, (pss_cons (ps_set (i := 2) sc.nd rfl (Or.inl rfl) (pe_lst (pa_cons (pe_lst pa_nil) pa_nil)))
      (pss_cons (ps_for PassesOwn.never rfl (piET (K := K) (by rfl) (by rfl) T.f_enumerate (pa_cons (pe_ix (ixT (K := K) (by rfl)) (pe_ix (ixT (K := K) (by rfl)) (pv 0) pe_int (fun _ _ => rfl)) (pv 1) (fun _ _ => rfl)) pa_nil)) (pgT (K := K) (n := 2) (by rfl) rfl (pgs_cons (pg_name (i := 3) sc.nd rfl (by first | exact Or.inl rfl | exact Or.inr rfl)) (pgs_cons (pgT (K := K) (n := 3) (by rfl) rfl (pgs_cons (pg_name (i := 4) sc.nd rfl (by first | exact Or.inl rfl | exact Or.inr rfl)) (pgs_cons (pg_name (i := 5) sc.nd rfl (by first | exact Or.inl rfl | exact Or.inr rfl)) (pgs_cons (pg_name (i := 6) sc.nd rfl (by first | exact Or.inl rfl | exact Or.inr rfl)) pgs_nil)))) pgs_nil)))
        (pss_one (ps_if (pt_cmpR op_eq (pv 4) (pe_constS (by rfl) T.c_OPENER) (nomark _)) (pss_one (ps_expr (pe_bm PySem.F.plainAttrs_list PySem.F.slot_list_append PySem.F.type_list_append mt_append (pv 2) (pa_cons (pe_lst pa_nil) pa_nil)))) (pss_one (ps_expr (pe_bm PySem.F.plainAttrs_list PySem.F.slot_list_extend PySem.F.type_list_extend mt_extend (pe_ix (ixL (K := K) (by rfl)) (pv 2) (pe_un un_neg pe_int) (fun _ _ => rfl)) (pa_cons (pe_lc (own := [("way", 7)]) rfl sc.nd (pi_range1 (by rfl) T.f_range (pa_cons (pe_op op_add (pe_callB (lenK (K := K) (by rfl)) (by rfl) T.f_len (by decide +kernel) (pa_cons (pv 6) pa_nil)) pe_int) pa_nil)) (blkOk_by (own := [("way", 7)]) (N := N_parts) (sc := defScope (atTop 29)) (by decide +kernel)) (fun _ _ _ _ _ => (pg_name (i := 7) sc.nd rfl (by first | exact Or.inl rfl | exact Or.inr rfl))) (fun _ _ _ _ _ => pts_nil) (fun _ _ _ _ _ => (pe_tup (pa_cons (pv 1) (pa_cons (pe_op op_add (pv 3) pe_int) (pa_cons (pv 7) pa_nil)))))) pa_nil)))))))
      (pss_one (ps_ret (pv 2))))), fun us M q h => ?_⟩)
  case len => rintro us M q ⟨_, _, _, rfl, _⟩; rfl
  obtain ⟨p, i, l, rfl, hp, hl, hq⟩ := h
  have hlm := List.mem_of_getElem? hl
  have hl12 := hp.places l hlm
  unfold ePlan
  walk_at "go"
  intro b0
  walk_at "w"
  intro a
  walk_at "w"
  walk_at "ro"
  refine WS.perm (List.Perm.swap ..) ?_
  refine ws_forX (α := Pl × Nat) (wi_enumT ?_)
  walk_at "w"
  refine r_ixT (u := eLoop l) (atI_nat (by rw [List.getElem?_map, hl]; rfl)) ?_
  walk_at "w"
  refine ⟨l.zipIdx, _, pairs_map _ _, fun j M' ρ' => ∃ (bs : List (Addr × List U)) (cur : Addr) (us : List U), RLe [some (ePlan p), some (.int (i : Nat)), some (.ptr a), none, none, none, none, none] ρ' ∧
    Sub (bMem ((cur, us) :: bs.reverse) ++ (a, .l ((bs.map fun b => .ptr b.1) ++ [.ptr cur])) :: M) M' ∧ (bs.map (·.2.length), us.length) = (l.take j).foldl stepL ([], 0) ∧ us.length ≤ 4 * j ∧ bs.length ≤ j, ⟨[], b0, [], by walk_at "rle", Sub.refl _, rfl, Nat.zero_le _, Nat.zero_le _⟩, fun _ _ _ _ => trivial, fun j x M' ρ' hx ⟨bs, cur, us, hr, hs, hb, hu, hbl⟩ => ?_, fun M' ρ' ⟨bs, cur, us, hr, hs, hb, hu, hbl⟩ => ?_⟩
  · obtain ⟨x, j'⟩ := x
    obtain ⟨hx1, hx2, hx3⟩ := zip_mem (List.mem_of_getElem? hx)
    have hjj : j' = j := by
      rw [List.getElem?_zipIdx] at hx
      cases z : l[j]? with
      | none => rw [z] at hx; cases hx
      | some y =>
        rw [z, Nat.zero_add] at hx
        exact (congrArg Prod.snd (Option.some.inj hx)).symm
    subst hjj
    have hxs := hp.pl l hlm x hx1
    refine WG.fr hs hr ?_
    have hst : (l.take (j' + 1)).foldl stepL ([], 0) = stepL (bs.map (·.2.length), us.length) x := by
      rw [List.take_add_one, hx3, List.foldl_append, ← hb]
      rfl
    cases x with
    | op =>
      simp only [ePl]
      walk_at "w"
      walk_at "ro"
      walk_at "w"
      refine ⟨⟨a, _, rfl, (by first | rfl | trivial), List.mem_append_right _ (List.mem_cons_self ..)⟩, ?_⟩
      walk_at "w"
      intro b
      walk_at "w"
      refine rm_append (Put.there (Put.app Put.here _)) (by simp only [List.length_map, List.length_append, List.length_cons, List.length_nil]; omega) ?_
      walk_at "w"
      refine ⟨bs ++ [(cur, us)], b, [], by walk_at "rle", ?_, ?_, Nat.zero_le _, by simp only [List.length_append, List.length_cons, List.length_nil]; omega⟩
      · rw [List.reverse_append, List.map_append]
        exact Sub.refl _
      · rw [hst, List.map_append]
        rfl
    | dev d sp =>
      simp only [ePl]
      walk_at "w"
      walk_at "ro"
      walk_at "w"
      rw [show decide (d.kind = "opener") = false from decide_eq_false hxs.1]
      walk_at "w"
      refine r_ixL (List.mem_append_right _ (List.mem_cons_self ..)) (atI_last _ _) ?_
      walk_at "w"
      refine ⟨⟨cur, _, rfl, (by first | rfl | trivial), List.mem_cons_self ..⟩, ?_⟩
      walk_at "w"
      refine w_lcm (α := Nat) (wi_rng1 ?_)
      walk_at "w"
      rw [List.length_map]
      have h3 := hxs.2
      refine ⟨by omega, by omega, ?_⟩
      refine ⟨List.range (sp.length + 1), fun w => .int (w : Nat), fun w => eSp (i, j' + 1, w), by
        rw [show ((sp.length : Nat) + 1 : Int).toNat = sp.length + 1 from by omega]; exact range_wi2 _, by rw [List.length_range]; omega, fun _ _ => trivial, fun D acc w hw => ?_, fun D => ?_⟩
      · walk_at "w"
        walk_at "ro"
        walk_at "w"
      · walk_at "w"
        refine rm_extend (.there .here) (List.mem_cons_self ..) (by simp only [List.length_map, List.length_range]; omega) ?_
        walk_at "w"
        refine ⟨bs, cur, us ++ (List.range (sp.length + 1)).map fun w => eSp (i, j' + 1, w), by walk_at "rle", .skip (Sub.refl _), ?_, ?_, by omega⟩
        · rw [hst]
          simp only [stepL, List.length_append, List.length_map, List.length_range]
          rw [Nat.add_right_comm, Nat.add_assoc]
        · simp only [List.length_append, List.length_map, List.length_range]
          omega
  · refine WS.fr hs hr ?_
    walk_at "w"
    refine ⟨_, Sub.refl _, ?_⟩
    have z := hq a (bs ++ [(cur, us)]) (by
      rw [List.length_zipIdx, List.take_length] at hb
      unfold lensOf
      rw [List.map_append, ← hb]
      rfl)
    rw [List.map_append, List.reverse_append] at z
    exact z
abbrev N_told_twice : List Str := ["plan", "met", "spot", "kind", "address"]
theorem sc_told_twice : FnScope N_told_twice ["plan"] (defScope (atTop 30)) := ⟨rfl, rfl, rfl, by decide +kernel, rfl, by decide +kernel, by decide +kernel⟩
theorem fn_told_twice {P : Program} {w : World} {K : PySem.W.Frag} {mg : Str → Option Value} {base : Heap} (T : Txt K mg) (F_devices : Fn P w K mg base 1 "devices" ["plan"] C_devices) : Fn P w K mg base 2 "told_twice" ["plan"] C_told_twice := by
  have sc := sc_told_twice
  refine Fn.of T 14 rfl rfl sc (fun _ _ _ _ _ _ us hl => match us, hl with | [_], _ => rfl) ?len (fun f cdv A outer s H E hr => ⟨_, (pss_cons (ps_set (i := 1) sc.nd rfl (Or.inl rfl) pe_dnewK)
      (pss_cons (ps_for PassesOwn.never rfl (piL (K := K) (by rfl) (pFn F_devices (by exact ⟨rfl, rfl, rfl, rfl, rfl⟩) (hr.mono (by decide)) (by rfl) (pa_cons (pv 0) pa_nil))) (pgT (K := K) (n := 3) (by rfl) rfl (pgs_cons (pg_name (i := 2) sc.nd rfl (by first | exact Or.inl rfl | exact Or.inr rfl)) (pgs_cons (pg_name (i := 3) sc.nd rfl (by first | exact Or.inl rfl | exact Or.inr rfl)) (pgs_cons (pg_name (i := 4) sc.nd rfl (by first | exact Or.inl rfl | exact Or.inr rfl)) pgs_nil))))
        (pss_cons (ps_if (pt_cmp (pc_din (hu_of hr) (pv 4) (pv 1))) (pss_one (ps_ret (pe_tup (pa_cons pe_str (pa_cons (pv 4) pa_nil))))) pss_nil)
          (pss_one (ps_dput (hu_of hr) (pv 1) (pv 4) pe_bl rfl))))
      (pss_one (ps_ret pe_non)))), fun us M q h => ?_⟩)
  case len => rintro us M q ⟨_, rfl, _⟩; rfl
  obtain ⟨p, rfl, hp, hq⟩ := h
  walk_at "go"
  refine w_dnew fun d => ?_
  walk_at "w"
  walk_at "ro"
  refine ws_forG (α := Spot × Dev) (wi_list ?_)
  walk_at "w"
  refine ⟨hp.shp, fun a => ?_⟩
  refine ⟨a, _, rfl, List.mem_cons_self .., ?_⟩
  refine ⟨devicesOf p, eRow, rfl, [some (ePlan p), some (.ptr d), none, none, none], fun i => (a, .l ((devicesOf p).map eRow)) :: (d, .dk (((devicesOf p).take i).map fun r => (r.2.addr, .bl true))) :: M, by walk_at "rle", Sub.refl _, fun i M' hs => hs.mem (List.mem_cons_self ..), fun i r hr => ?_, fun M' ρ' hs hr => ?_⟩
  · have hn : look (((devicesOf p).take i).map fun r => (r.2.addr, U.bl true)) r.2.addr = none := look_no fun kv hkv e => by
      obtain ⟨y, hy, rfl⟩ := List.mem_map.mp hkv
      exact nodup_take hp.ad hr y hy e
    have hd2 := hp.d2
    unfold eRow
    walk_at "w"
    walk_at "ro"
    walk_at "w"
    refine w_dinK ?_
    walk_at "w"
    refine ⟨_, _, rfl, .tail _ (.head _), ?_⟩
    rw [hn]
    walk_at "w"
    refine ⟨_, _, _, _, rfl, rfl, hn, by rw [List.length_map, List.length_take]; omega, .there .here, ?_⟩
    refine ⟨.keep ?_, by walk_at "rle"⟩
    rw [List.take_add_one, hr, List.map_append]
    exact Sub.refl _
  · refine WS.fr hs hr ?_
    walk_at "w"
    exact ⟨M, by walk_at "sub", hq⟩
abbrev N_crowded : List Str := ["plan", "loop", "number", "part"]
theorem sc_crowded : FnScope N_crowded ["plan"] (defScope (atTop 31)) := ⟨rfl, rfl, rfl, by decide +kernel, rfl, by decide +kernel, by decide +kernel⟩
theorem fn_crowded {P : Program} {w : World} {K : PySem.W.Frag} {mg : Str → Option Value} {base : Heap} (T : Txt K mg) (F_parts : Fn P w K mg base 1 "parts" ["plan", "loop"] C_parts) : Fn P w K mg base 2 "crowded" ["plan"] C_crowded := by
  have sc := sc_crowded
  refine Fn.of T 15 rfl rfl sc (fun _ _ _ _ _ _ us hl => match us, hl with | [_], _ => rfl) ?len (fun f cdv A outer s H E hr => ⟨_, (pss_cons (ps_for PassesOwn.never rfl (pi_range1 (by rfl) T.f_range (pa_cons (pe_callB (lenK (K := K) (by rfl)) (by rfl) T.f_len (by decide +kernel) (pa_cons (pe_ix (ixT (K := K) (by rfl)) (pv 0) pe_int (fun _ _ => rfl)) pa_nil)) pa_nil)) (pg_name (i := 1) sc.nd rfl (by first | exact Or.inl rfl | exact Or.inr rfl))
        (pss_one (ps_for PassesOwn.never rfl (piE (K := K) (by rfl) (by rfl) T.f_enumerate (pa_cons (pFn F_parts (by exact ⟨rfl, rfl, rfl, rfl, rfl⟩) (hr.mono (by decide)) (by rfl) (pa_cons (pv 0) (pa_cons (pv 1) pa_nil))) pa_nil)) (pgT (K := K) (n := 2) (by rfl) rfl (pgs_cons (pg_name (i := 2) sc.nd rfl (by first | exact Or.inl rfl | exact Or.inr rfl)) (pgs_cons (pg_name (i := 3) sc.nd rfl (by first | exact Or.inl rfl | exact Or.inr rfl)) pgs_nil)))
            (pss_one (ps_if (pt_cmpR op_gt (pe_callB (lenK (K := K) (by rfl)) (by rfl) T.f_len (by decide +kernel) (pa_cons (pv 3) pa_nil)) (pe_ix (ixT (K := K) (by rfl)) (pv 0) pe_int (fun _ _ => rfl)) (nomark _)) (pss_one (ps_ret (pe_tup (pa_cons pe_str (pa_cons (pv 1) (pa_cons (pv 2) pa_nil)))))) pss_nil)))))
      (pss_one (ps_ret pe_non))), fun us M q h => ?_⟩)
  case len => rintro us M q ⟨_, rfl, _⟩; rfl
  obtain ⟨p, rfl, hp, hq⟩ := h
  have hl2 := hp.l2
  unfold ePlan
  walk_at "go"
  refine ws_forF (α := Nat) [some (ePlan p), none, none, none] (fun _ _ => M) (by walk_at "rle") (wi_rng1 ?_)
  walk_at "w"
  rw [List.length_map]
  refine ⟨by omega, by omega, ?_⟩
  refine ⟨List.range p.loops.length, fun w => .int (w : Nat), range_wi2 _, Sub.refl _, fun _ _ _ => trivial, fun i x hx => ?_, fun M' ρ' hs hr => ?_⟩
  · have hxi : x < p.loops.length := List.mem_range.mp (List.mem_of_getElem? hx)
    have hl : p.loops[x]? = some p.loops[x] := List.getElem?_eq_getElem hxi
    walk_at "w"
    walk_at "ro"
    refine ws_forG (α := (Addr × List U) × Nat) (wi_enum ?_)
    walk_at "w"
    refine ⟨p, x, _, rfl, hp.shp, hl, fun a bs hb => ?_⟩
    walk_at "w"
    have hlo := hp.lo _ (List.mem_of_getElem? hl)
    refine ⟨a, _, rfl, List.mem_append_right _ (List.mem_cons_self ..), ?_⟩
    refine ⟨bs.zipIdx, _, pairs_map _ _, [some (ePlan p), some (.int (x : Nat)), none, none], fun _ => bMem bs.reverse ++ (a, .l (bs.map fun b => .ptr b.1)) :: M, by walk_at "rle", Sub.refl _, fun i M' hs => hs.mem (List.mem_append_right _ (List.mem_cons_self ..)), fun k b hk => ?_, fun M' ρ' hs hr => ⟨(Sub.skips _).trans ((Sub.skip (Sub.refl _)).app _ |>.trans hs), RLe.trans (by walk_at "rle") hr⟩⟩
    have hbm := zip_mem1 (List.mem_of_getElem? hk)
    walk_at "w"
    walk_at "ro"
    walk_at "w"
    refine rc_len (us := b.1.2) (List.mem_append_left _ (List.mem_map.mpr ⟨b.1, List.mem_reverse.mpr hbm, rfl⟩)) ?_
    walk_at "w"
    unfold ePlan
    walk_at "w"
    rw [show decide (p.most < ((b.1.2.length : Nat) : Int)) = false from decide_eq_false (by
      have := hp.pt _ (List.mem_of_getElem? hl) b.1.2.length (by rw [← hb]; exact List.mem_map.mpr ⟨b.1, hbm, rfl⟩)
      omega)]
    walk_at "w"
    walk_at "end"
  · refine WS.fr hs hr ?_
    walk_at "w"
    exact ⟨M, by walk_at "sub", hq⟩
end Wl
set_option Elab.async false
set_option linter.all false
set_option maxRecDepth 100000
set_option maxHeartbeats 4000000
namespace Wl
open PySem PySem.Spec PyProof.Rows L2
local macro_rules | `(tactic| walk_at "w1") => `(tactic| first
  | with_reducible refine ws_seq ?_
  | with_reducible refine ws_ret ?_
  | with_reducible refine ws_asg ?_
  | with_reducible refine ws_drop ?_
  | with_reducible refine ws_if ?_
  | with_reducible refine ws_next ?_
  | with_reducible refine w_var (by with_unfolding_all rfl) ?_
  | with_reducible refine w_int ?_
  | with_reducible refine w_str ?_
  | with_reducible refine w_bl ?_
  | with_reducible refine w_non ?_
  | with_reducible refine w_ref ?_
  | with_reducible refine w_isi2 ?_
  | with_reducible refine w_op ?_
  | with_reducible refine w_andV ?_
  | with_reducible refine w_notV ?_
  | with_reducible refine w_chain ?_
  | with_reducible refine wa_nil ?_
  | with_reducible refine wa_cons ?_
  | with_reducible refine w_tup ?_
  | with_reducible refine w_lst ?_
  | with_reducible refine w_tupF ?_
  | with_reducible refine w_call ?_
  | ((fail_if_success (with_reducible refine w_allT (α := Unit) ?_)); (fail_if_success (with_reducible refine w_anyB (α := Unit) ?_)); with_reducible refine w_cb ?_)
  | with_reducible refine w_bm ?_
  | with_reducible refine wt_test ?_
  | with_reducible refine wt_B ?_
  | with_reducible refine wt_not ?_
  | with_reducible refine wt_and ?_
  | with_reducible refine wt_or ?_
  | with_reducible refine wt_yes ?_
  | with_reducible refine wg_name ?_ (by with_unfolding_all rfl)
  | with_reducible refine wg_name ?_
  | with_reducible refine wgs_nil ?_
  | with_reducible refine wgs_cons ?_
  | with_reducible refine wg_tup (by with_unfolding_all rfl) ?_
  | with_reducible refine w_un ?_
  | with_reducible refine w_sl ?_
  | with_reducible refine wo_none ?_
  | with_reducible refine wo_some ?_
  | with_reducible refine r_ii ?_
  | with_reducible refine r_ib ?_
  | with_reducible refine r_eqI ?_
  | with_reducible refine r_eqS ?_
  | with_reducible refine r_neI ?_
  | with_reducible refine r_neS ?_
  | with_reducible refine rs_T ?_
  | with_reducible refine rc_lenT ?_
  | with_reducible refine rc_lenTf ?_
  | with_reducible refine rc_min ?_
  | with_reducible refine r_isN ?_
  | with_reducible refine r_noN ?_
  | with_reducible refine ws_break ?_
  | with_reducible refine ws_dput ?_
  | (with_reducible refine r_ixT (by with_unfolding_all rfl) ?_)
  | exact ⟨rfl, Sub.refl _⟩
  | refine ⟨Sub.refl _, ?_⟩
  | refine ⟨Nat.le_of_ble_eq_true (by with_unfolding_all rfl), ?_⟩
  | refine ⟨_, rfl, ?_⟩
  | refine ⟨true, rfl, fun _ => ?_, fun z => Bool.noConfusion z⟩
  | refine ⟨false, rfl, fun z => Bool.noConfusion z, fun _ => ?_⟩
  | refine ⟨false, rfl, fun _ => ?_, fun z => Bool.noConfusion z⟩
  | refine ⟨true, rfl, fun z => Bool.noConfusion z, fun _ => ?_⟩
  | refine ⟨fun _ => ?_, fun z => Bool.noConfusion z⟩
  | refine ⟨fun z => Bool.noConfusion z, fun _ => ?_⟩)
local macro_rules | `(tactic| walk_at "w") => `(tactic| repeat walk_at "w1")
local macro_rules | `(tactic| walk_at "in") => `(tactic| try dsimp only [XD, cxOf, Cx.nox, Cx.wish])
local macro_rules | `(tactic| walk_at "ro") => `(tactic| try simp only [startR, List.map_cons, List.map_nil, List.length_cons, List.length_nil, Nat.reduceAdd, Nat.reduceSub, Nat.zero_add, List.replicate_zero, List.replicate_succ, List.cons_append, List.nil_append, List.append_nil, List.set_cons_zero, List.set_cons_succ])
local macro_rules | `(tactic| walk_at "sub") => `(tactic| repeat (first | exact Sub.refl _ | exact Sub.nil' _ | refine Sub.keep ?_ | refine Sub.skip ?_))
local macro_rules | `(tactic| walk_at "go") => `(tactic| (walk_at "in"; walk_at "ro"; walk_at "w"))
local macro_rules | `(tactic| walk_at "rle") => `(tactic| repeat (first | exact RLe.refl _ | exact RLe.nil | refine RLe.keep ?_ | refine RLe.hole ?_))
local macro_rules | `(tactic| walk_at "mem") => `(tactic| repeat (first | exact List.mem_cons_self .. | refine List.mem_cons_of_mem _ ?_))
local macro_rules | `(tactic| walk_at "put") => `(tactic| repeat (first | exact Put.here | refine Put.there ?_))
local macro_rules | `(tactic| walk_at "bm") => `(tactic| (first | refine ⟨⟨_, _, rfl, rfl, (by walk_at "mem")⟩, ?_⟩ | refine ⟨⟨_, _, rfl, trivial, (by walk_at "mem")⟩, ?_⟩))
local macro_rules | `(tactic| walk_at "end") => `(tactic| (first | exact ⟨Sub.refl _, by walk_at "rle"⟩ | walk_at "rle"))
theorem rises_lt {ns : List Int} (h : Rises ns) : ∀ (d i : Nat) (x y : Int), ns[i]? = some x → ns[i + d + 1]? = some y → x < y
  | 0, i, x, y, hx, hy => h i x y hx hy
  | d + 1, i, x, y, hx, hy => by
    have hl := (List.getElem?_eq_some_iff.mp hy).1
    have e : ns[i + d + 1]? = some ns[i + d + 1] := List.getElem?_eq_getElem (by omega)
    have := rises_lt h d i x _ hx e
    have := h (i + d + 1) _ y e hy
    omega
theorem rises_take {ns : List Int} (h : Rises ns) {j : Nat} {x : Int} (hx : ns[j]? = some x) : ∀ y ∈ ns.take j, y ≠ x := fun y hy => by
  obtain ⟨i, hi, e⟩ := List.getElem_of_mem hy
  rw [List.length_take] at hi
  have e2 : ns[i]? = some y := by
    rw [← e, List.getElem_take]
    exact List.getElem?_eq_getElem (by omega)
  obtain ⟨d, rfl⟩ : ∃ d, j = i + d + 1 := ⟨j - i - 1, by omega⟩
  have := rises_lt h d i y x e2 hx
  omega
abbrev N_wrong : List Str := ["plan", "found"]
theorem sc_wrong : FnScope N_wrong ["plan"] (defScope (atTop 33)) := ⟨rfl, rfl, rfl, by decide +kernel, rfl, by decide +kernel, by decide +kernel⟩
theorem fn_wrong {P : Program} {w : World} {K : PySem.W.Frag} {mg : Str → Option Value} {base : Heap} (T : Txt K mg) (F_told_twice : Fn P w K mg base 2 "told_twice" ["plan"] C_told_twice) (F_crowded : Fn P w K mg base 2 "crowded" ["plan"] C_crowded) (F_zone_at_odds : Fn P w K mg base 2 "zone_at_odds" ["plan"] C_zone_at_odds) : Fn P w K mg base 3 "wrong" ["plan"] C_wrong := by
  have sc := sc_wrong
  refine Fn.of T 17 rfl rfl sc (fun _ _ _ _ _ _ us hl => match us, hl with | [_], _ => rfl) ?len (fun f cdv A outer s H E hr => ⟨_, (pss_cons (ps_for PassesOwn.never rfl (piT (K := K) (by rfl) (pe_tup (pa_cons (pFn F_told_twice (by exact ⟨rfl, rfl, rfl, rfl, rfl⟩) (hr.mono (by decide)) (by rfl) (pa_cons (pv 0) pa_nil)) (pa_cons (pFn F_crowded (by exact ⟨rfl, rfl, rfl, rfl, rfl⟩) (hr.mono (by decide)) (by rfl) (pa_cons (pv 0) pa_nil)) (pa_cons (pFn F_zone_at_odds (by exact ⟨rfl, rfl, rfl, rfl, rfl⟩) (hr.mono (by decide)) (by rfl) (pa_cons (pv 0) pa_nil)) pa_nil))))) (pg_name (i := 1) sc.nd rfl (by first | exact Or.inl rfl | exact Or.inr rfl))
        (pss_one (ps_if (pt_cmpR op_notN (pv 1) pe_non (nomark _)) (pss_one (ps_ret (pv 1))) pss_nil)))
      (pss_one (ps_ret pe_non))), fun us M q h => ?_⟩)
  case len => rintro us M q ⟨_, rfl, _⟩; rfl
  obtain ⟨p, rfl, hp, hq⟩ := h
  walk_at "go"
  refine ws_forF (α := Unit) [some (ePlan p), none] (fun _ _ => M) (by walk_at "rle") (wi_tup ?_)
  walk_at "w"
  refine ⟨hp, ?_⟩
  walk_at "w"
  refine ⟨hp, ?_⟩
  walk_at "w"
  refine ⟨hp, ?_⟩
  walk_at "w"
  refine ⟨[(), (), ()], fun _ => .non, rfl, Sub.refl _, fun _ _ _ => trivial, fun i x hx => ?_, fun M' ρ' hs hr => ?_⟩
  · walk_at "w"
    walk_at "ro"
    walk_at "w"
    walk_at "end"
  · refine WS.fr hs hr ?_
    walk_at "w"
    exact ⟨M, by walk_at "sub", hq⟩
abbrev N_is_let_by : List Str := ["thing"]
theorem sc_is_let_by : FnScope N_is_let_by ["thing"] (defScope (atTop 34)) := ⟨rfl, rfl, rfl, by decide +kernel, rfl, by decide +kernel, by decide +kernel⟩
theorem fn_is_let_by {P : Program} {w : World} {K : PySem.W.Frag} {mg : Str → Option Value} {base : Heap} (T : Txt K mg) (F_is_plan : Fn P w K mg base 5 "is_plan" ["thing"] C_is_plan) (F_wrong : Fn P w K mg base 3 "wrong" ["plan"] C_wrong) : Fn P w K mg base 6 "is_let_by" ["thing"] C_is_let_by := by
  have sc := sc_is_let_by
  refine Fn.of T 18 rfl rfl sc (fun _ _ _ _ _ _ us hl => match us, hl with | [_], _ => rfl) ?len (fun f cdv A outer s H E hr => ⟨_, (pss_one (ps_ret (pe_and (pFn F_is_plan (by exact ⟨rfl, rfl, rfl, rfl, rfl⟩) (hr.mono (by decide)) (by rfl) (pa_cons (pv 0) pa_nil)) (pe_one (pe_cmpR op_isN (pFn F_wrong (by exact ⟨rfl, rfl, rfl, rfl, rfl⟩) (hr.mono (by decide)) (by rfl) (pa_cons (pv 0) pa_nil)) pe_non (nomark _)))))), fun us M q h => ?_⟩)
  case len => rintro us M q ⟨_, rfl, _⟩; rfl
  obtain ⟨p, rfl, hp, hq⟩ := h
  walk_at "go"
  refine ⟨hp, ?_⟩
  walk_at "w"
  refine ⟨hp, ?_⟩
  walk_at "w"
  exact ⟨M, by walk_at "sub", hq⟩
abbrev N_need_plan : List Str := ["plan"]
theorem sc_need_plan : FnScope N_need_plan ["plan"] (defScope (atTop 43)) := ⟨rfl, rfl, rfl, by decide +kernel, rfl, by decide +kernel, by decide +kernel⟩
theorem fn_need_plan {P : Program} {w : World} {K : PySem.W.Frag} {mg : Str → Option Value} {base : Heap} (T : Txt K mg) (F_is_let_by : Fn P w K mg base 6 "is_let_by" ["thing"] C_is_let_by) : Fn P w K mg base 7 "need_plan" ["plan"] C_need_plan := by
  have sc := sc_need_plan
  refine Fn.of T 24 rfl rfl sc (fun _ _ _ _ _ _ us hl => match us, hl with | [_], _ => rfl) ?len (fun f cdv A outer s H E hr => ⟨_, (pss_one (ps_if (pt_not (pt_val (pFn F_is_let_by (by exact ⟨rfl, rfl, rfl, rfl, rfl⟩) (hr.mono (by decide)) (by rfl) (pa_cons (pv 0) pa_nil)))) (pss_one ps_never) pss_nil)), fun us M q h => ?_⟩)
  case len => rintro us M q ⟨_, rfl, _⟩; rfl
  obtain ⟨p, rfl, hp, hq⟩ := h
  walk_at "go"
  refine ⟨hp, ?_⟩
  walk_at "w"
  exact ⟨M, by walk_at "sub", hq⟩
abbrev N_zone_at_odds : List Str := ["plan", "known", "shared", "met", "name", "addresses", "address", "spot", "kind"]
theorem sc_zone_at_odds : FnScope N_zone_at_odds ["plan"] (defScope (atTop 32)) := ⟨rfl, rfl, rfl, by decide +kernel, rfl, by decide +kernel, by decide +kernel⟩
theorem fn_zone_at_odds {P : Program} {w : World} {K : PySem.W.Frag} {mg : Str → Option Value} {base : Heap} (T : Txt K mg) (F_devices : Fn P w K mg base 1 "devices" ["plan"] C_devices) : Fn P w K mg base 2 "zone_at_odds" ["plan"] C_zone_at_odds := by
  have sc := sc_zone_at_odds
  refine Fn.of T 16 rfl rfl sc (fun _ _ _ _ _ _ us hl => match us, hl with | [_], _ => rfl) ?len (fun f cdv A outer s H E hr => ⟨_, (pss_cons (ps_setLc (i := 1) (own := [("spot", 7), ("kind", 8), ("address", 6)]) rfl sc.nd rfl rfl (sw_true rfl rfl rfl (by decide +kernel)) (piL (K := K) (by rfl) (pFn F_devices (by exact ⟨rfl, rfl, rfl, rfl, rfl⟩) (hr.mono (by decide)) (by rfl) (pa_cons (pv 0) pa_nil))) (blkOk_by (own := [("spot", 7), ("kind", 8), ("address", 6)]) (N := N_zone_at_odds) (sc := defScope (atTop 32)) (by decide +kernel)) (fun _ _ _ _ _ => (pgT (K := K) (n := 3) (by rfl) rfl (pgs_cons (pg_name (i := 7) sc.nd rfl (by first | exact Or.inl rfl | exact Or.inr rfl)) (pgs_cons (pg_name (i := 8) sc.nd rfl (by first | exact Or.inl rfl | exact Or.inr rfl)) (pgs_cons (pg_name (i := 6) sc.nd rfl (by first | exact Or.inl rfl | exact Or.inr rfl)) pgs_nil))))) (fun _ _ _ _ _ => (pts_one (pt_cmpR (inK (K := K) (by rfl)) (pv 8) (pe_glob (v := .ref (He.ga K "TOLD_BY")) (by rfl) T.g_TOLD_BY rfl) (by rfl)))) (fun _ _ _ _ _ => (pv 6)))
      (pss_cons (ps_set (i := 2) sc.nd rfl (Or.inl rfl) pe_non)
      (pss_cons (ps_set (i := 3) sc.nd rfl (Or.inl rfl) pe_dnewK)
      (pss_cons (ps_for PassesOwn.never rfl (piT (K := K) (by rfl) (pe_ix (ixT (K := K) (by rfl)) (pv 0) pe_int (fun _ _ => rfl))) (pgT (K := K) (n := 2) (by rfl) rfl (pgs_cons (pg_name (i := 4) sc.nd rfl (by first | exact Or.inl rfl | exact Or.inr rfl)) (pgs_cons (pg_name (i := 5) sc.nd rfl (by first | exact Or.inl rfl | exact Or.inr rfl)) pgs_nil)))
        (pss_cons (ps_for PassesOwn.never rfl (piT (K := K) (by rfl) (pv 5)) (pg_name (i := 6) sc.nd rfl (by first | exact Or.inl rfl | exact Or.inr rfl))
            (pss_cons (ps_if (pt_cmpR (notInK (K := K) (by rfl)) (pv 6) (pv 1) (by rfl)) (pss_one (ps_ret (pe_tup (pa_cons pe_str (pa_cons (pv 4) (pa_cons (pv 6) pa_nil)))))) pss_nil)
              (pss_one (ps_if (PW.pt (pw_and (pt_cmp (pc_din (hu_of hr) (pv 6) (pv 3))) (pw_and1 (pt_cmpR op_isN (pv 2) pe_non (nomark _))))) (pss_one (ps_set (i := 2) sc.nd rfl (Or.inl rfl) (pe_tup (pa_cons pe_str (pa_cons (pv 4) (pa_cons (pv 6) pa_nil)))))) pss_nil))))
          (pss_one (ps_for PassesOwn.never rfl (piT (K := K) (by rfl) (pv 5)) (pg_name (i := 6) sc.nd rfl (by first | exact Or.inl rfl | exact Or.inr rfl))
            (pss_one (ps_dput (hu_of hr) (pv 3) (pv 6) pe_bl rfl))))))
      (pss_one (ps_ret (pv 2))))))), fun us M q h => ?_⟩)
  case len => rintro us M q ⟨_, rfl, _⟩; rfl
  obtain ⟨p, rfl, hp, hq⟩ := h
  have hd2 := hp.d2
  unfold ePlan
  walk_at "go"
  refine w_lcp (α := Spot × Dev) (wi_list ?_)
  walk_at "w"
  refine ⟨hp.shp, fun a => ?_⟩
  refine ⟨a, _, rfl, List.mem_cons_self .., ?_⟩
  refine ⟨devicesOf p, eRow, fun r => decide (r.2.kind ∈ (["seeker", "knob"] : List Str)), fun r => .int r.2.addr, rfl, by omega, fun _ _ => List.mem_cons_of_mem _ (List.mem_cons_self ..), fun D acc r hr => ?_, fun kn => ?_⟩
  · unfold eRow
    walk_at "w"
    walk_at "ro"
    walk_at "w"
    refine r_inK T.k_TOLD_BY ?_
    walk_at "w"
    refine ⟨rfl, Sub.refl _, fun _ => ?_⟩
    walk_at "w"
  · have hkn : (((devicesOf p).filter fun r => decide (r.2.kind ∈ (["seeker", "knob"] : List Str))).map fun r => U.int r.2.addr) = (knownOf p).map U.int := by
      unfold knownOf
      rw [List.map_map]
      rfl
    rw [hkn]
    walk_at "w"
    refine w_dnew fun d => ?_
    walk_at "w"
    walk_at "ro"
    refine ws_forF (α := Str × List Int) [some (ePlan p), some (.ptr kn), some .non, some (.ptr d), none, none, none, none, none] (fun zs i => (d, .dk (((zs.take i).flatMap (·.2)).map fun x => (x, U.bl true))) :: (kn, .l ((knownOf p).map U.int)) :: M) (by walk_at "rle") (wi_tup ?_)
    walk_at "w"
    refine ⟨p.zones, eZone, rfl, .keep (.keep (.skip (Sub.refl _))), fun _ _ _ => trivial, fun i z hz => ?_, fun M' ρ' hs hr => ?_⟩
    · have hzm := List.mem_of_getElem? hz
      have hzo := hp.zo z hzm
      have hfr : ∀ x ∈ z.2, x ∉ (p.zones.take i).flatMap (·.2) := fun x hx hy => by
        obtain ⟨y, hy, hxy⟩ := List.mem_flatMap.mp hy
        have e2 : p.zones = p.zones.take i ++ z :: p.zones.drop (i + 1) := by
          obtain ⟨hi, e⟩ := List.getElem?_eq_some_iff.mp hz
          rw [← e, List.getElem_cons_drop, List.take_append_drop]
        have pw := hp.dj
        rw [e2] at pw
        exact (List.pairwise_append.mp pw).2.2 y hy z (List.mem_cons_self ..) x hxy hx
      have hA : ((p.zones.take i).flatMap (·.2)).length ≤ 240 := by
        have := take_flat (xs := p.zones) (g := (·.2)) (k := 30) (fun x hx => (hp.zo x hx).few) i
        have := hp.z8
        omega
      rw [flat_next hz]
      revert hfr hA
      generalize (p.zones.take i).flatMap (·.2) = A1
      intro hfr hA
      unfold eZone
      walk_at "w"
      walk_at "ro"
      refine ws_forF (α := Int) [some (ePlan p), some (.ptr kn), some .non, some (.ptr d), none, some (.tup (z.2.map U.int)), none, none, none] (fun _ _ => (d, .dk (A1.map fun x => (x, U.bl true))) :: (kn, .l ((knownOf p).map U.int)) :: M) (by walk_at "rle") (wi_tup ?_)
      walk_at "w"
      refine ⟨z.2, U.int, rfl, Sub.refl _, fun _ _ _ => trivial, fun j x hx => ?_, fun M' ρ' hs hr => ?_⟩
      · have hxm := List.mem_of_getElem? hx
        walk_at "w"
        walk_at "ro"
        walk_at "w"
        refine r_inI (.tail _ (.head _)) ?_
        rw [show decide (x ∈ knownOf p) = true from decide_eq_true (hp.kn z hzm x hxm)]
        walk_at "w"
        refine w_dinK ?_
        walk_at "w"
        refine ⟨_, _, rfl, .head _, ?_⟩
        rw [look_no (kvs := A1.map fun x => (x, U.bl true)) (k := x) (fun kv hkv e => by
          obtain ⟨y, hy, rfl⟩ := List.mem_map.mp hkv
          exact hfr x hxm (e ▸ hy))]
        walk_at "w"
        walk_at "end"
      · refine WS.fr hs hr ?_
        refine ws_forF (α := Int) [some (ePlan p), some (.ptr kn), some .non, some (.ptr d), none, none, none, none, none] (fun ns j => (d, .dk ((A1 ++ ns.take j).map fun x => (x, U.bl true))) :: (kn, .l ((knownOf p).map U.int)) :: M) (by walk_at "rle") (wi_tup ?_)
        walk_at "w"
        refine ⟨z.2, U.int, rfl, by rw [List.take_zero, List.append_nil]; exact Sub.refl _, fun _ _ _ => trivial, fun j x hx => ?_, fun M' ρ' hs hr => ?_⟩
        · have hxm := List.mem_of_getElem? hx
          have hfew := hzo.few
          walk_at "w"
          walk_at "ro"
          walk_at "w"
          refine ⟨_, _, _, _, rfl, rfl, look_no fun kv hkv e => ?_, by rw [List.length_map, List.length_append, List.length_take]; omega, .here, ?_⟩
          · obtain ⟨y, hy, rfl⟩ := List.mem_map.mp hkv
            rcases List.mem_append.mp hy with hy | hy
            · exact hfr x hxm (e ▸ hy)
            · exact rises_take hzo.rise hx y hy e
          · rw [List.take_add_one, hx, ← List.append_assoc, List.map_append (l₂ := (some x).toList)]
            walk_at "end"
        · rw [List.take_length] at hs
          exact ⟨hs, RLe.trans (by walk_at "rle") hr⟩
    · refine WS.fr hs hr ?_
      walk_at "w"
      exact ⟨M, by walk_at "sub", hq⟩
end Wl
set_option Elab.async false
set_option linter.all false
set_option maxRecDepth 100000
set_option maxHeartbeats 4000000
namespace Wl
open PySem PySem.Spec PyProof.Rows L2
local macro_rules | `(tactic| walk_at "w1") => `(tactic| first
  | with_reducible refine ws_seq ?_
  | with_reducible refine ws_ret ?_
  | with_reducible refine ws_asg ?_
  | with_reducible refine ws_drop ?_
  | with_reducible refine ws_if ?_
  | with_reducible refine ws_next ?_
  | with_reducible refine w_var (by with_unfolding_all rfl) ?_
  | with_reducible refine w_int ?_
  | with_reducible refine w_str ?_
  | with_reducible refine w_bl ?_
  | with_reducible refine w_non ?_
  | with_reducible refine w_ref ?_
  | with_reducible refine w_isi2 ?_
  | with_reducible refine w_op ?_
  | with_reducible refine w_andV ?_
  | with_reducible refine w_notV ?_
  | with_reducible refine w_chain ?_
  | with_reducible refine wa_nil ?_
  | with_reducible refine wa_cons ?_
  | with_reducible refine w_tup ?_
  | with_reducible refine w_lst ?_
  | with_reducible refine w_tupF ?_
  | with_reducible refine w_call ?_
  | ((fail_if_success (with_reducible refine w_allT (α := Unit) ?_)); (fail_if_success (with_reducible refine w_anyB (α := Unit) ?_)); with_reducible refine w_cb ?_)
  | with_reducible refine w_bm ?_
  | with_reducible refine wt_test ?_
  | with_reducible refine wt_B ?_
  | with_reducible refine wt_not ?_
  | with_reducible refine wt_and ?_
  | with_reducible refine wt_or ?_
  | with_reducible refine wt_yes ?_
  | with_reducible refine wg_name ?_ (by with_unfolding_all rfl)
  | with_reducible refine wg_name ?_
  | with_reducible refine wgs_nil ?_
  | with_reducible refine wgs_cons ?_
  | with_reducible refine wg_tup (by with_unfolding_all rfl) ?_
  | with_reducible refine w_un ?_
  | with_reducible refine w_sl ?_
  | with_reducible refine wo_none ?_
  | with_reducible refine wo_some ?_
  | with_reducible refine r_ii ?_
  | with_reducible refine r_ib ?_
  | with_reducible refine r_eqI ?_
  | with_reducible refine r_eqS ?_
  | with_reducible refine r_neI ?_
  | with_reducible refine r_neS ?_
  | with_reducible refine rs_T ?_
  | with_reducible refine rc_lenT ?_
  | with_reducible refine rc_lenTf ?_
  | with_reducible refine rc_min ?_
  | with_reducible refine r_isN ?_
  | with_reducible refine r_noN ?_
  | with_reducible refine ws_break ?_
  | with_reducible refine ws_dput ?_
  | (with_reducible refine r_ixT (by with_unfolding_all rfl) ?_)
  | exact ⟨rfl, Sub.refl _⟩
  | refine ⟨Sub.refl _, ?_⟩
  | refine ⟨Nat.le_of_ble_eq_true (by with_unfolding_all rfl), ?_⟩
  | refine ⟨_, rfl, ?_⟩
  | refine ⟨true, rfl, fun _ => ?_, fun z => Bool.noConfusion z⟩
  | refine ⟨false, rfl, fun z => Bool.noConfusion z, fun _ => ?_⟩
  | refine ⟨false, rfl, fun _ => ?_, fun z => Bool.noConfusion z⟩
  | refine ⟨true, rfl, fun z => Bool.noConfusion z, fun _ => ?_⟩
  | refine ⟨fun _ => ?_, fun z => Bool.noConfusion z⟩
  | refine ⟨fun z => Bool.noConfusion z, fun _ => ?_⟩)
local macro_rules | `(tactic| walk_at "w") => `(tactic| repeat walk_at "w1")
local macro_rules | `(tactic| walk_at "in") => `(tactic| try dsimp only [XD, cxOf, Cx.nox, Cx.wish])
local macro_rules | `(tactic| walk_at "ro") => `(tactic| try simp only [startR, List.map_cons, List.map_nil, List.length_cons, List.length_nil, Nat.reduceAdd, Nat.reduceSub, Nat.zero_add, List.replicate_zero, List.replicate_succ, List.cons_append, List.nil_append, List.append_nil, List.set_cons_zero, List.set_cons_succ])
local macro_rules | `(tactic| walk_at "sub") => `(tactic| repeat (first | exact Sub.refl _ | exact Sub.nil' _ | refine Sub.keep ?_ | refine Sub.skip ?_))
local macro_rules | `(tactic| walk_at "go") => `(tactic| (walk_at "in"; walk_at "ro"; walk_at "w"))
local macro_rules | `(tactic| walk_at "rle") => `(tactic| repeat (first | exact RLe.refl _ | exact RLe.nil | refine RLe.keep ?_ | refine RLe.hole ?_))
local macro_rules | `(tactic| walk_at "mem") => `(tactic| repeat (first | exact List.mem_cons_self .. | refine List.mem_cons_of_mem _ ?_))
local macro_rules | `(tactic| walk_at "put") => `(tactic| repeat (first | exact Put.here | refine Put.there ?_))
local macro_rules | `(tactic| walk_at "bm") => `(tactic| (first | refine ⟨⟨_, _, rfl, rfl, (by walk_at "mem")⟩, ?_⟩ | refine ⟨⟨_, _, rfl, trivial, (by walk_at "mem")⟩, ?_⟩))
local macro_rules | `(tactic| walk_at "end") => `(tactic| (first | exact ⟨Sub.refl _, by walk_at "rle"⟩ | walk_at "rle"))
theorem w_lenSS {K : PySem.W.Frag} {M : Mem} {ρ : Rho} {ta : TE} {k : U → Mem → Prop} (h : W K ta M ρ fun x M1 => ∃ p, ∃ xs : List Str, x = .ptr p ∧ (p, MO.l (xs.map U.str)) ∈ M1 ∧ xs.Nodup ∧ xs.length < 1000 ∧ k (.int xs.length) M1) : W K (tLenSS K ta) M ρ k := fun σ H m s Q c =>
  h σ H m s _ fun x M1 v H1 ⟨p, xs, e, hp, hn, hl, hk⟩ t1 m1 r1 => by
    subst e
    cases r1
    obtain ⟨vs, h1, h2⟩ := m1.lst hp
    have e2 := h2.strs
    subst e2
    exact ⟨p, xs, rfl, Or.inl (Or.inl h1), hn, hl, c _ _ _ _ hk t1 m1 (.int _)⟩
abbrev N_are_zones : List Str := ["thing", "one", "zone"]
theorem sc_are_zones : FnScope N_are_zones ["thing"] (defScope (atTop 24)) := ⟨rfl, rfl, rfl, by decide +kernel, rfl, by decide +kernel, by decide +kernel⟩
theorem fn_are_zones {P : Program} {w : World} {K : PySem.W.Frag} {mg : Str → Option Value} {base : Heap} (T : Txt K mg) (F_is_zone : Fn P w K mg base 3 "is_zone" ["thing"] C_is_zone) : Fn P w K mg base 4 "are_zones" ["thing"] C_are_zones := by
  have sc := sc_are_zones
  refine Fn.of T 8 rfl rfl sc (fun _ _ _ _ _ _ us hl => match us, hl with | [_], _ => rfl) ?len (fun f cdv A outer s H E hr => ⟨_, (pss_cons (ps_if (PW.pt (pw_or (pt_not (pt_val (pe_callB (isiK (K := K) (by rfl)) (by rfl) T.f_isinstance (by decide +kernel) (pa_cons (pv 0) (pa_cons (pe_bltn (v := .ty "tuple") (by rfl) T.f_tuple (by decide +kernel) rfl) pa_nil))))) (pw_or (pt_cmpR op_gt (pe_callB (lenK (K := K) (by rfl)) (by rfl) T.f_len (by decide +kernel) (pa_cons (pv 0) pa_nil)) (pe_constI (by rfl) T.c_MOST_ZONES) (nomark _)) (pw_or1 (pt_not (pt_val (pe_callB (allK (K := K) (by rfl) rfl) (by rfl) T.f_all (by decide +kernel) (pa_cons (pe_lc (own := [("one", 1)]) rfl sc.nd (piT (K := K) (by rfl) (pv 0)) (blkOk_by (own := [("one", 1)]) (N := N_are_zones) (sc := defScope (atTop 24)) (by decide +kernel)) (fun _ _ _ _ _ => (pg_name (i := 1) sc.nd rfl (by first | exact Or.inl rfl | exact Or.inr rfl))) (fun _ _ _ _ _ => pts_nil) (fun _ _ _ _ _ => (pFn F_is_zone (by exact ⟨rfl, rfl, rfl, rfl, rfl⟩) (hr.mono (by decide)) (by rfl) (pa_cons (pv 1) pa_nil)))) pa_nil)))))))) (pss_one (ps_ret pe_bl)) pss_nil)
      (pss_one (ps_ret (pe_cmpR op_eq (pe_lenSetS rfl (by rfl) T.f_len (by rfl) T.f_set (pe_lc (own := [("zone", 2)]) rfl sc.nd (piT (K := K) (by rfl) (pv 0)) (blkOk_by (own := [("zone", 2)]) (N := N_are_zones) (sc := defScope (atTop 24)) (by decide +kernel)) (fun _ _ _ _ _ => (pg_name (i := 2) sc.nd rfl (by first | exact Or.inl rfl | exact Or.inr rfl))) (fun _ _ _ _ _ => pts_nil) (fun _ _ _ _ _ => (pe_ix (ixT (K := K) (by rfl)) (pv 2) pe_int (fun _ _ => rfl))))) (pe_callB (lenK (K := K) (by rfl)) (by rfl) T.f_len (by decide +kernel) (pa_cons (pv 0) pa_nil)) (nomark _))))), fun us M q h => ?_⟩)
  case len => rintro us M q ⟨_, rfl, _⟩; rfl
  obtain ⟨zs, rfl, h1, h2, h3, hq⟩ := h
  walk_at "go"
  rw [show decide ((8 : Int) < ((zs.map eZone).length : Nat)) = false from decide_eq_false (by rw [List.length_map]; omega)]
  walk_at "w"
  refine w_allT (α := Str × List Int) (wi_tup ?_)
  walk_at "w"
  refine ⟨zs, eZone, rfl, by omega, fun _ _ => trivial, fun D acc e he => ?_, ?_⟩
  · walk_at "w"
    refine ⟨h2 e he, ?_⟩
    walk_at "w"
  · walk_at "w"
    refine w_lenSS (w_lcm (α := Str × List Int) (wi_tup ?_))
    walk_at "w"
    refine ⟨zs, eZone, fun z => .str z.1, rfl, by omega, fun _ _ => trivial, fun D acc e he => ?_, fun D => ?_⟩
    · unfold eZone
      walk_at "w"
      walk_at "ro"
      walk_at "w"
    · refine ⟨D, zs.map (·.1), rfl, by rw [List.map_map]; exact List.mem_cons_self .., h3, by rw [List.length_map]; omega, ?_⟩
      walk_at "w"
      rw [show decide ((((zs.map (·.1)).length : Nat) : Int) = ((zs.map eZone).length : Nat)) = true from decide_eq_true (by rw [List.length_map, List.length_map])]
      exact ⟨M, by walk_at "sub", hq⟩
abbrev N_is_plan : List Str := ["thing", "loops", "one"]
theorem sc_is_plan : FnScope N_is_plan ["thing"] (defScope (atTop 25)) := ⟨rfl, rfl, rfl, by decide +kernel, rfl, by decide +kernel, by decide +kernel⟩
theorem fn_is_plan {P : Program} {w : World} {K : PySem.W.Frag} {mg : Str → Option Value} {base : Heap} (T : Txt K mg) (F_is_whole : Fn P w K mg base 1 "is_whole" ["thing", "least", "most"] C_is_whole) (F_is_loop : Fn P w K mg base 4 "is_loop" ["thing"] C_is_loop) (F_are_zones : Fn P w K mg base 4 "are_zones" ["thing"] C_are_zones) (F_devices : Fn P w K mg base 1 "devices" ["plan"] C_devices) : Fn P w K mg base 5 "is_plan" ["thing"] C_is_plan := by
  have sc := sc_is_plan
  refine Fn.of T 9 rfl rfl sc (fun _ _ _ _ _ _ us hl => match us, hl with | [_], _ => rfl) ?len (fun f cdv A outer s H E hr => ⟨_, (pss_cons (ps_if (PW.pt (pw_or (pt_not (pt_val (pe_callB (isiK (K := K) (by rfl)) (by rfl) T.f_isinstance (by decide +kernel) (pa_cons (pv 0) (pa_cons (pe_bltn (v := .ty "tuple") (by rfl) T.f_tuple (by decide +kernel) rfl) pa_nil))))) (pw_or (pt_cmpR op_ne (pe_callB (lenK (K := K) (by rfl)) (by rfl) T.f_len (by decide +kernel) (pa_cons (pv 0) pa_nil)) pe_int (nomark _)) (pw_or1 (pt_not (pt_val (pFn F_is_whole (by exact ⟨rfl, rfl, rfl, rfl, rfl⟩) (hr.mono (by decide)) (by rfl) (pa_cons (pe_ix (ixT (K := K) (by rfl)) (pv 0) pe_int (fun _ _ => rfl)) (pa_cons pe_int (pa_cons (pe_constI (by rfl) T.c_MOST_DEVICES) pa_nil)))))))))) (pss_one (ps_ret pe_bl)) pss_nil)
      (pss_cons (ps_set (i := 1) sc.nd rfl (Or.inl rfl) (pe_ix (ixT (K := K) (by rfl)) (pv 0) pe_int (fun _ _ => rfl)))
      (pss_cons (ps_if (PW.pt (pw_or (pt_not (pt_val (pe_callB (isiK (K := K) (by rfl)) (by rfl) T.f_isinstance (by decide +kernel) (pa_cons (pv 1) (pa_cons (pe_bltn (v := .ty "tuple") (by rfl) T.f_tuple (by decide +kernel) rfl) pa_nil))))) (pw_or (pt_not (pt_chain op_le op_le pe_int (pe_callB (lenK (K := K) (by rfl)) (by rfl) T.f_len (by decide +kernel) (pa_cons (pv 1) pa_nil)) (pe_constI (by rfl) T.c_MOST_LOOPS))) (pw_or1 (pt_not (pt_val (pe_callB (allK (K := K) (by rfl) rfl) (by rfl) T.f_all (by decide +kernel) (pa_cons (pe_lc (own := [("one", 2)]) rfl sc.nd (piT (K := K) (by rfl) (pv 1)) (blkOk_by (own := [("one", 2)]) (N := N_is_plan) (sc := defScope (atTop 25)) (by decide +kernel)) (fun _ _ _ _ _ => (pg_name (i := 2) sc.nd rfl (by first | exact Or.inl rfl | exact Or.inr rfl))) (fun _ _ _ _ _ => pts_nil) (fun _ _ _ _ _ => (pFn F_is_loop (by exact ⟨rfl, rfl, rfl, rfl, rfl⟩) (hr.mono (by decide)) (by rfl) (pa_cons (pv 2) pa_nil)))) pa_nil)))))))) (pss_one (ps_ret pe_bl)) pss_nil)
      (pss_one (ps_ret (pe_and (pFn F_are_zones (by exact ⟨rfl, rfl, rfl, rfl, rfl⟩) (hr.mono (by decide)) (by rfl) (pa_cons (pe_ix (ixT (K := K) (by rfl)) (pv 0) pe_int (fun _ _ => rfl)) pa_nil)) (pe_one (pe_chain op_le op_le pe_int (pe_callB (lenK (K := K) (by rfl)) (by rfl) T.f_len (by decide +kernel) (pa_cons (pFn F_devices (by exact ⟨rfl, rfl, rfl, rfl, rfl⟩) (hr.mono (by decide)) (by rfl) (pa_cons (pv 0) pa_nil)) pa_nil)) (pe_constI (by rfl) T.c_MOST_DEVICES))))))))), fun us M q h => ?_⟩)
  case len => rintro us M q ⟨_, rfl, _⟩; rfl
  obtain ⟨p, rfl, hp, hq⟩ := h
  have := hp.l1
  have := hp.l2
  have := hp.d1
  have := hp.d2
  unfold ePlan
  walk_at "go"
  refine ⟨_, _, _, rfl, hp.m1, hp.m2, ?_⟩
  walk_at "w"
  rw [show decide ((1 : Int) ≤ ((p.loops.map eLoop).length : Nat)) = true from decide_eq_true (by rw [List.length_map]; omega)]
  walk_at "w"
  rw [show decide (((p.loops.map eLoop).length : Int) ≤ 3) = true from decide_eq_true (by rw [List.length_map]; omega)]
  walk_at "w"
  refine w_allT (α := List Pl) (wi_tup ?_)
  walk_at "w"
  refine ⟨p.loops, eLoop, rfl, by omega, fun _ _ => trivial, fun D acc e he => ?_, ?_⟩
  · walk_at "w"
    refine ⟨hp.lo e he, ?_⟩
    walk_at "w"
  · walk_at "w"
    refine ⟨hp.z8, hp.zo, hp.zn, ?_⟩
    walk_at "w"
    refine ⟨hp.shp, fun a => ?_⟩
    walk_at "w"
    refine rc_len (List.mem_cons_self ..) ?_
    walk_at "w"
    rw [show decide ((1 : Int) ≤ (((devicesOf p).map eRow).length : Nat)) = true from decide_eq_true (by rw [List.length_map]; omega)]
    walk_at "w"
    rw [show decide ((((devicesOf p).map eRow).length : Int) ≤ 30) = true from decide_eq_true (by rw [List.length_map]; omega)]
    exact ⟨M, by walk_at "sub", hq⟩
end Wl
set_option Elab.async false
set_option linter.all false
set_option maxRecDepth 100000
set_option maxHeartbeats 4000000
namespace Wl
open PySem PySem.Spec PyProof.Rows L2
local macro_rules | `(tactic| walk_at "w1") => `(tactic| first
  | with_reducible refine ws_seq ?_
  | with_reducible refine ws_ret ?_
  | with_reducible refine ws_asg ?_
  | with_reducible refine ws_drop ?_
  | with_reducible refine ws_if ?_
  | with_reducible refine ws_next ?_
  | with_reducible refine w_var (by with_unfolding_all rfl) ?_
  | with_reducible refine w_int ?_
  | with_reducible refine w_str ?_
  | with_reducible refine w_bl ?_
  | with_reducible refine w_non ?_
  | with_reducible refine w_ref ?_
  | with_reducible refine w_isi2 ?_
  | with_reducible refine w_op ?_
  | with_reducible refine w_andV ?_
  | with_reducible refine w_notV ?_
  | with_reducible refine w_chain ?_
  | with_reducible refine wa_nil ?_
  | with_reducible refine wa_cons ?_
  | with_reducible refine w_tup ?_
  | with_reducible refine w_lst ?_
  | with_reducible refine w_tupF ?_
  | with_reducible refine w_call ?_
  | ((fail_if_success (with_reducible refine w_allT (α := Unit) ?_)); (fail_if_success (with_reducible refine w_anyB (α := Unit) ?_)); with_reducible refine w_cb ?_)
  | with_reducible refine w_bm ?_
  | with_reducible refine wt_test ?_
  | with_reducible refine wt_B ?_
  | with_reducible refine wt_not ?_
  | with_reducible refine wt_and ?_
  | with_reducible refine wt_or ?_
  | with_reducible refine wt_yes ?_
  | with_reducible refine wg_name ?_ (by with_unfolding_all rfl)
  | with_reducible refine wg_name ?_
  | with_reducible refine wgs_nil ?_
  | with_reducible refine wgs_cons ?_
  | with_reducible refine wg_tup (by with_unfolding_all rfl) ?_
  | with_reducible refine w_un ?_
  | with_reducible refine w_sl ?_
  | with_reducible refine wo_none ?_
  | with_reducible refine wo_some ?_
  | with_reducible refine r_ii ?_
  | with_reducible refine r_ib ?_
  | with_reducible refine r_eqI ?_
  | with_reducible refine r_eqS ?_
  | with_reducible refine r_neI ?_
  | with_reducible refine r_neS ?_
  | with_reducible refine rs_T ?_
  | with_reducible refine rc_lenT ?_
  | with_reducible refine rc_lenTf ?_
  | with_reducible refine rc_min ?_
  | with_reducible refine r_isN ?_
  | with_reducible refine r_noN ?_
  | with_reducible refine ws_break ?_
  | with_reducible refine ws_dput ?_
  | (with_reducible refine r_ixT (by with_unfolding_all rfl) ?_)
  | exact ⟨rfl, Sub.refl _⟩
  | refine ⟨Sub.refl _, ?_⟩
  | refine ⟨Nat.le_of_ble_eq_true (by with_unfolding_all rfl), ?_⟩
  | refine ⟨_, rfl, ?_⟩
  | refine ⟨true, rfl, fun _ => ?_, fun z => Bool.noConfusion z⟩
  | refine ⟨false, rfl, fun z => Bool.noConfusion z, fun _ => ?_⟩
  | refine ⟨false, rfl, fun _ => ?_, fun z => Bool.noConfusion z⟩
  | refine ⟨true, rfl, fun z => Bool.noConfusion z, fun _ => ?_⟩
  | refine ⟨fun _ => ?_, fun z => Bool.noConfusion z⟩
  | refine ⟨fun z => Bool.noConfusion z, fun _ => ?_⟩)
local macro_rules | `(tactic| walk_at "w") => `(tactic| repeat walk_at "w1")
local macro_rules | `(tactic| walk_at "in") => `(tactic| try dsimp only [XD, cxOf, Cx.nox, Cx.wish])
local macro_rules | `(tactic| walk_at "ro") => `(tactic| try simp only [startR, List.map_cons, List.map_nil, List.length_cons, List.length_nil, Nat.reduceAdd, Nat.reduceSub, Nat.zero_add, List.replicate_zero, List.replicate_succ, List.cons_append, List.nil_append, List.append_nil, List.set_cons_zero, List.set_cons_succ])
local macro_rules | `(tactic| walk_at "sub") => `(tactic| repeat (first | exact Sub.refl _ | exact Sub.nil' _ | refine Sub.keep ?_ | refine Sub.skip ?_))
local macro_rules | `(tactic| walk_at "go") => `(tactic| (walk_at "in"; walk_at "ro"; walk_at "w"))
local macro_rules | `(tactic| walk_at "rle") => `(tactic| repeat (first | exact RLe.refl _ | exact RLe.nil | refine RLe.keep ?_ | refine RLe.hole ?_))
local macro_rules | `(tactic| walk_at "mem") => `(tactic| repeat (first | exact List.mem_cons_self .. | refine List.mem_cons_of_mem _ ?_))
local macro_rules | `(tactic| walk_at "put") => `(tactic| repeat (first | exact Put.here | refine Put.there ?_))
local macro_rules | `(tactic| walk_at "bm") => `(tactic| (first | refine ⟨⟨_, _, rfl, rfl, (by walk_at "mem")⟩, ?_⟩ | refine ⟨⟨_, _, rfl, trivial, (by walk_at "mem")⟩, ?_⟩))
local macro_rules | `(tactic| walk_at "end") => `(tactic| (first | exact ⟨Sub.refl _, by walk_at "rle"⟩ | walk_at "rle"))
abbrev N_spur_come_to : List Str := ["plan", "hows", "loop", "at", "passed", "spots", "way"]
theorem sc_spur_come_to : FnScope N_spur_come_to ["plan", "hows", "loop", "at"] (defScope (atTop 36)) := ⟨rfl, rfl, rfl, by decide +kernel, rfl, by decide +kernel, by decide +kernel⟩
theorem fn_spur_come_to {P : Program} {w : World} {K : PySem.W.Frag} {mg : Str → Option Value} {base : Heap} (T : Txt K mg) : Fn P w K mg base 1 "spur_come_to" ["plan", "hows", "loop", "at"] C_spur_come_to := by
  have sc := sc_spur_come_to
  refine Fn.of T 19 rfl rfl sc (fun _ _ _ _ _ _ us hl => match us, hl with | [_, _, _, _], _ => rfl) ?len (fun f cdv A outer s H E hr => ⟨_, (pss_cons (ps_set (i := 4) sc.nd rfl (Or.inl rfl) (pe_lst pa_nil))
      (pss_cons (ps_set (i := 5) sc.nd rfl (Or.inl rfl) (pe_lst (pa_cons (pe_tup (pa_cons (pv 2) (pa_cons (pv 3) (pa_cons pe_int pa_nil)))) pa_nil)))
      (pss_cons (ps_for PassesOwn.never rfl (pi_range2 (by rfl) T.f_range (pa_cons pe_int (pa_cons (pe_op op_add (pe_callB (lenK (K := K) (by rfl)) (by rfl) T.f_len (by decide +kernel) (pa_cons (pe_ix (ixT (K := K) (by rfl)) (pe_ix (ixT (K := K) (by rfl)) (pe_ix (ixT (K := K) (by rfl)) (pe_ix (ixT (K := K) (by rfl)) (pv 0) pe_int (fun _ _ => rfl)) (pv 2) (fun _ _ => rfl)) (pe_op op_sub (pv 3) pe_int) (fun _ _ => rfl)) pe_int (fun _ _ => rfl)) pa_nil)) pe_int) pa_nil))) (pg_name (i := 6) sc.nd rfl (by first | exact Or.inl rfl | exact Or.inr rfl))
        (pss_cons (ps_if (pt_cmpR op_eq (pe_dget2 (hu_of hr) (pv 1) (pe_tup (pa_cons (pv 2) (pa_cons (pv 3) (pa_cons (pv 6) pa_nil)))) pe_str ⟨rfl, rfl, rfl, rfl⟩) pe_str (nomark _)) (pss_one ps_break) pss_nil)
          (pss_cons (ps_expr (pe_bm PySem.F.plainAttrs_list PySem.F.slot_list_append PySem.F.type_list_append mt_append (pv 4) (pa_cons (pe_tup (pa_cons (pv 2) (pa_cons (pv 3) (pa_cons (pv 6) pa_nil)))) pa_nil)))
          (pss_one (ps_expr (pe_bm PySem.F.plainAttrs_list PySem.F.slot_list_append PySem.F.type_list_append mt_append (pv 5) (pa_cons (pe_tup (pa_cons (pv 2) (pa_cons (pv 3) (pa_cons (pv 6) pa_nil)))) pa_nil)))))))
      (pss_one (ps_ret (pe_tup (pa_cons (pv 4) (pa_cons (pv 5) pa_nil)))))))), fun us M q h => ?_⟩)
  case len => rintro us M q ⟨_, _, _, _, _, _, rfl, _⟩; rfl
  obtain ⟨p, F, h, i, l, c, rfl, hp, hl, hc1, hc2, hh, hq⟩ := h
  have hx : l[c - 1]? = some l[c - 1] := List.getElem?_eq_getElem (by omega)
  have hsl := spur_le hp hl c
  have hse := spurLen_of hx
  revert hx hse
  generalize l[c - 1] = x
  intro hx hse
  unfold ePlan
  walk_at "go"
  intro a
  walk_at "w"
  walk_at "ro"
  walk_at "w"
  intro b
  walk_at "w"
  walk_at "ro"
  have ex : ∃ k ad, ePl x = .tup [.str k, .int ad, .tup (x.spur.map eDev)] := by
    cases x with
    | op => exact ⟨_, _, rfl⟩
    | dev d sp => exact ⟨_, _, rfl⟩
  obtain ⟨k, ad, ex⟩ := ex
  refine WS.perm (List.Perm.swap ..) ?_
  refine ws_forX (α := Nat) (wi_rng2 ?_)
  walk_at "w"
  refine r_ixT (u := eLoop l) (atI_nat (by rw [List.getElem?_map, hl]; rfl)) ?_
  walk_at "w"
  refine r_ixT (u := ePl x) (by rw [show ((c : Int) - 1) = ((c - 1 : Nat) : Int) from by omega]; exact atI_nat (by rw [List.getElem?_map, hx]; rfl)) ?_
  rw [ex]
  walk_at "w"
  rw [List.length_map]
  refine ⟨_, _, rfl, ⟨by omega, by omega, by omega, by omega⟩, ?_⟩
  rw [show (((x.spur.length : Nat) : Int) + 1 - 1).toNat = x.spur.length from by omega]
  refine ⟨List.range x.spur.length, fun w => .int (1 + (w : Nat)), rfl, fun w M' ρ' => RLe [some (ePlan p), some (.ptr h), some (.int (i : Nat)), some (.int (c : Nat)), some (.ptr a), some (.ptr b), none] ρ' ∧
    Sub ((a, .l ((((List.range x.spur.length).map fun w => ((i, c, w + 1) : Spot)).take w).map eSp)) :: (b, .l (((i, c, 0) :: ((List.range x.spur.length).map fun w => ((i, c, w + 1) : Spot)).take w).map eSp)) :: M) M' ∧
    ∀ y ∈ ((List.range x.spur.length).map fun w => ((i, c, w + 1) : Spot)).take w, (!isHow F "cut" y) = true, ⟨by walk_at "rle", by rw [List.take_zero]; exact Sub.refl _, by simp⟩, fun _ _ _ _ => trivial, fun w' w M' ρ' hw ⟨hr, hs, hn⟩ => ?_, fun M' ρ' ⟨hr, hs, hn⟩ => ?_⟩
  · have hww : w = w' := by
      obtain ⟨h1, h2⟩ := List.getElem?_eq_some_iff.mp hw
      rw [List.getElem_range] at h2
      exact h2.symm
    subst hww
    have hwl : w < x.spur.length := by simpa using (List.getElem?_eq_some_iff.mp hw).1
    have hg : ((List.range x.spur.length).map fun w => ((i, c, w + 1) : Spot))[w]? = some (i, c, w + 1) := by rw [List.getElem?_map, hw]; rfl
    revert hs hn hg
    generalize hws : ((List.range x.spur.length).map fun w => ((i, c, w + 1) : Spot)) = ws
    intro hs hn hg
    have hwsl : (ws.take w).length ≤ 3 := by
      rw [← hws, List.length_take, List.length_map, List.length_range]
      omega
    refine WG.fr hs hr ?_
    walk_at "w"
    walk_at "ro"
    walk_at "w"
    refine w_dget ?_
    walk_at "w"
    refine ⟨_, _, rfl, .tail _ (.tail _ hh), ?_⟩
    walk_at "w"
    refine ⟨.tail _ (.tail _ hh), kSp (i, c, w + 1), by rw [Int.add_comm 1]; rfl, ?_⟩
    walk_at "w"
    refine ⟨.tail _ (.tail _ hh), ?_⟩
    rw [look_hkv, getD_str]
    walk_at "w"
    rw [how_cut]
    refine ⟨fun hb => ?_, fun hb => ?_⟩
    · walk_at "w"
      refine ⟨_, Sub.refl _, ?_⟩
      have e : waysOf F i l c = ws.take w := by
        unfold waysOf
        rw [hse, hws]
        exact tw_stop hn hg (by simp [hb])
      have z := hq a b
      rw [e] at z
      exact z
    · walk_at "w"
      walk_at "bm"
      walk_at "w"
      refine rm_append put1 (by rw [List.length_map]; omega) ?_
      walk_at "w"
      walk_at "bm"
      walk_at "w"
      refine rm_append (.there .here) (by simp only [List.length_map, List.length_cons]; omega) ?_
      walk_at "w"
      have ea : ws.take (w + 1) = ws.take w ++ [(i, c, w + 1)] := by
        rw [List.take_add_one, hg]
        rfl
      refine ⟨by walk_at "rle", Sub.l_eq ?_ (Sub.l_eq ?_ (Sub.refl _)), fun y hy => ?_⟩
      · rw [ea, List.map_append, Int.add_comm 1]
        rfl
      · rw [ea, List.map_append, Int.add_comm 1]
        rfl
      · rw [ea] at hy
        rcases List.mem_append.mp hy with hy | hy
        · exact hn y hy
        · rw [List.mem_singleton.mp hy]
          rw [hb]
          rfl
  · refine WS.fr hs hr ?_
    walk_at "w"
    refine ⟨_, Sub.refl _, ?_⟩
    have e : waysOf F i l c = ((List.range x.spur.length).map fun w => ((i, c, w + 1) : Spot)) := by
      unfold waysOf
      rw [hse]
      refine tw_all fun y hy => hn y ?_
      rw [List.take_of_length_le (by simp)]
      exact hy
    have z := hq a b
    rw [e] at z
    rw [List.take_of_length_le (by simp)]
    exact z
abbrev N_steps_of : List Str := ["plan", "opener", "loop", "place"]
theorem sc_steps_of : FnScope N_steps_of ["plan", "opener"] (defScope (atTop 38)) := ⟨rfl, rfl, rfl, by decide +kernel, rfl, by decide +kernel, by decide +kernel⟩
theorem fn_steps_of {P : Program} {w : World} {K : PySem.W.Frag} {mg : Str → Option Value} {base : Heap} (T : Txt K mg) : Fn P w K mg base 1 "steps_of" ["plan", "opener"] C_steps_of := by
  have sc := sc_steps_of
  refine Fn.of T 21 rfl rfl sc (fun _ _ _ _ _ _ us hl => match us, hl with | [_, _], _ => rfl) ?len (fun f cdv A outer s H E hr => ⟨_, (pss_cons (ps_asg (pv 1) (pgT (K := K) (n := 2) (by rfl) rfl (pgs_cons (pg_name (i := 2) sc.nd rfl (by first | exact Or.inl rfl | exact Or.inr rfl)) (pgs_cons (pg_name (i := 3) sc.nd rfl (by first | exact Or.inl rfl | exact Or.inr rfl)) pgs_nil))))
      (pss_cons (ps_if (pt_cmpR op_eq (pv 3) pe_int (nomark _)) (pss_one (ps_ret (pe_lst (pa_cons pe_int pa_nil)))) pss_nil)
      (pss_cons (ps_if (pt_cmpR op_gt (pv 3) (pe_callB (lenK (K := K) (by rfl)) (by rfl) T.f_len (by decide +kernel) (pa_cons (pe_ix (ixT (K := K) (by rfl)) (pe_ix (ixT (K := K) (by rfl)) (pv 0) pe_int (fun _ _ => rfl)) (pv 2) (fun _ _ => rfl)) pa_nil)) (nomark _)) (pss_one (ps_ret (pe_lst (pa_cons (pe_un un_neg pe_int) pa_nil)))) pss_nil)
      (pss_one (ps_ret (pe_lst (pa_cons (pe_un un_neg pe_int) (pa_cons pe_int pa_nil)))))))), fun us M q h => ?_⟩)
  case len => rintro us M q ⟨_, _, _, _, rfl, _⟩; rfl
  obtain ⟨p, i, l, c, rfl, hp, hl, hc, hq⟩ := h
  unfold ePlan eGt
  walk_at "go"
  by_cases h0 : c = 0
  · rw [show decide (((c : Nat) : Int) = 0) = true from decide_eq_true (by omega)]
    walk_at "w"
    intro a
    refine ⟨_, Sub.refl _, ?_⟩
    have z := hq a
    unfold stepsM at z
    rw [if_pos h0] at z
    exact z
  · rw [show decide (((c : Nat) : Int) = 0) = false from decide_eq_false (by omega)]
    walk_at "w"
    refine r_ixT (u := eLoop l) (atI_nat (by rw [List.getElem?_map, hl]; rfl)) ?_
    unfold eLoop
    walk_at "w"
    by_cases h1 : l.length < c
    · rw [show decide (((l.map ePl).length : Int) < (c : Nat)) = true from decide_eq_true (by rw [List.length_map]; omega)]
      walk_at "w"
      intro a
      refine ⟨_, Sub.refl _, ?_⟩
      have z := hq a
      unfold stepsM at z
      rw [if_neg h0, if_pos h1] at z
      exact z
    · rw [show decide (((l.map ePl).length : Int) < (c : Nat)) = false from decide_eq_false (by rw [List.length_map]; omega)]
      walk_at "w"
      intro a
      refine ⟨_, Sub.refl _, ?_⟩
      have z := hq a
      unfold stepsM at z
      rw [if_neg h0, if_neg h1] at z
      exact z
end Wl
set_option Elab.async false
set_option linter.all false
set_option maxRecDepth 100000
set_option maxHeartbeats 4000000
namespace Wl
open PySem PySem.Spec PyProof.Rows L2
local macro_rules | `(tactic| walk_at "w1") => `(tactic| first
  | with_reducible refine ws_seq ?_
  | with_reducible refine ws_ret ?_
  | with_reducible refine ws_asg ?_
  | with_reducible refine ws_drop ?_
  | with_reducible refine ws_if ?_
  | with_reducible refine ws_next ?_
  | with_reducible refine w_var (by with_unfolding_all rfl) ?_
  | with_reducible refine w_int ?_
  | with_reducible refine w_str ?_
  | with_reducible refine w_bl ?_
  | with_reducible refine w_non ?_
  | with_reducible refine w_ref ?_
  | with_reducible refine w_isi2 ?_
  | with_reducible refine w_op ?_
  | with_reducible refine w_andV ?_
  | with_reducible refine w_notV ?_
  | with_reducible refine w_chain ?_
  | with_reducible refine wa_nil ?_
  | with_reducible refine wa_cons ?_
  | with_reducible refine w_tup ?_
  | with_reducible refine w_lst ?_
  | with_reducible refine w_tupF ?_
  | with_reducible refine w_call ?_
  | ((fail_if_success (with_reducible refine w_allT (α := Unit) ?_)); (fail_if_success (with_reducible refine w_anyB (α := Unit) ?_)); with_reducible refine w_cb ?_)
  | with_reducible refine w_bm ?_
  | with_reducible refine wt_test ?_
  | with_reducible refine wt_B ?_
  | with_reducible refine wt_not ?_
  | with_reducible refine wt_and ?_
  | with_reducible refine wt_or ?_
  | with_reducible refine wt_yes ?_
  | with_reducible refine wg_name ?_ (by with_unfolding_all rfl)
  | with_reducible refine wg_name ?_
  | with_reducible refine wgs_nil ?_
  | with_reducible refine wgs_cons ?_
  | with_reducible refine wg_tup (by with_unfolding_all rfl) ?_
  | with_reducible refine w_un ?_
  | with_reducible refine w_sl ?_
  | with_reducible refine wo_none ?_
  | with_reducible refine wo_some ?_
  | with_reducible refine r_ii ?_
  | with_reducible refine r_ib ?_
  | with_reducible refine r_eqI ?_
  | with_reducible refine r_eqS ?_
  | with_reducible refine r_neI ?_
  | with_reducible refine r_neS ?_
  | with_reducible refine rs_T ?_
  | with_reducible refine rc_lenT ?_
  | with_reducible refine rc_lenTf ?_
  | with_reducible refine rc_min ?_
  | with_reducible refine r_isN ?_
  | with_reducible refine r_noN ?_
  | with_reducible refine ws_break ?_
  | with_reducible refine ws_dput ?_
  | (with_reducible refine r_ixT (by with_unfolding_all rfl) ?_)
  | exact ⟨rfl, Sub.refl _⟩
  | refine ⟨Sub.refl _, ?_⟩
  | refine ⟨Nat.le_of_ble_eq_true (by with_unfolding_all rfl), ?_⟩
  | refine ⟨_, rfl, ?_⟩
  | refine ⟨true, rfl, fun _ => ?_, fun z => Bool.noConfusion z⟩
  | refine ⟨false, rfl, fun z => Bool.noConfusion z, fun _ => ?_⟩
  | refine ⟨false, rfl, fun _ => ?_, fun z => Bool.noConfusion z⟩
  | refine ⟨true, rfl, fun z => Bool.noConfusion z, fun _ => ?_⟩
  | refine ⟨fun _ => ?_, fun z => Bool.noConfusion z⟩
  | refine ⟨fun z => Bool.noConfusion z, fun _ => ?_⟩)
local macro_rules | `(tactic| walk_at "w") => `(tactic| repeat walk_at "w1")
local macro_rules | `(tactic| walk_at "in") => `(tactic| try dsimp only [XD, cxOf, Cx.nox, Cx.wish])
local macro_rules | `(tactic| walk_at "ro") => `(tactic| try simp only [startR, List.map_cons, List.map_nil, List.length_cons, List.length_nil, Nat.reduceAdd, Nat.reduceSub, Nat.zero_add, List.replicate_zero, List.replicate_succ, List.cons_append, List.nil_append, List.append_nil, List.set_cons_zero, List.set_cons_succ])
local macro_rules | `(tactic| walk_at "sub") => `(tactic| repeat (first | exact Sub.refl _ | exact Sub.nil' _ | refine Sub.keep ?_ | refine Sub.skip ?_))
local macro_rules | `(tactic| walk_at "go") => `(tactic| (walk_at "in"; walk_at "ro"; walk_at "w"))
local macro_rules | `(tactic| walk_at "rle") => `(tactic| repeat (first | exact RLe.refl _ | exact RLe.nil | refine RLe.keep ?_ | refine RLe.hole ?_))
local macro_rules | `(tactic| walk_at "mem") => `(tactic| repeat (first | exact List.mem_cons_self .. | refine List.mem_cons_of_mem _ ?_))
local macro_rules | `(tactic| walk_at "put") => `(tactic| repeat (first | exact Put.here | refine Put.there ?_))
local macro_rules | `(tactic| walk_at "bm") => `(tactic| (first | refine ⟨⟨_, _, rfl, rfl, (by walk_at "mem")⟩, ?_⟩ | refine ⟨⟨_, _, rfl, trivial, (by walk_at "mem")⟩, ?_⟩))
local macro_rules | `(tactic| walk_at "end") => `(tactic| (first | exact ⟨Sub.refl _, by walk_at "rle"⟩ | walk_at "rle"))
theorem edg_min (up : Bool) {c : Nat} (h : up = false → 1 ≤ c) : (if ((c : Int) + (if up = true then 1 else -1)) < c then ((c : Int) + (if up = true then 1 else -1)) else c) = (edg up c : Nat) := by
  unfold edg
  cases up with
  | true => simp; omega
  | false =>
    have := h rfl
    simp
    omega
theorem nxt_add (up : Bool) {c : Nat} (h : up = false → 1 ≤ c) : (c : Int) + (if up = true then 1 else -1) = (nxt up c : Nat) := by
  unfold nxt
  cases up with
  | true => simp
  | false =>
    have := h rfl
    simp
    omega
abbrev N_come_to : List Str := ["plan", "hows", "stops", "loop", "place", "step", "many", "passed", "spots", "at", "more", "others"]
theorem sc_come_to : FnScope N_come_to ["plan", "hows", "stops", "loop", "place", "step"] (defScope (atTop 37)) := ⟨rfl, rfl, rfl, by decide +kernel, rfl, by decide +kernel, by decide +kernel⟩
theorem fn_come_to {P : Program} {w : World} {K : PySem.W.Frag} {mg : Str → Option Value} {base : Heap} (T : Txt K mg) (F_spur_come_to : Fn P w K mg base 1 "spur_come_to" ["plan", "hows", "loop", "at"] C_spur_come_to) : Fn P w K mg base 2 "come_to" ["plan", "hows", "stops", "loop", "place", "step"] C_come_to := by
  have sc := sc_come_to
  refine Fn.of T 20 rfl rfl sc (fun _ _ _ _ _ _ us hl => match us, hl with | [_, _, _, _, _, _], _ => rfl) ?len (fun f cdv A outer s H E hr => ⟨_, (pss_cons (ps_set (i := 6) sc.nd rfl (Or.inl rfl) (pe_callB (lenK (K := K) (by rfl)) (by rfl) T.f_len (by decide +kernel) (pa_cons (pe_ix (ixT (K := K) (by rfl)) (pe_ix (ixT (K := K) (by rfl)) (pv 0) pe_int (fun _ _ => rfl)) (pv 3) (fun _ _ => rfl)) pa_nil)))
      (pss_cons (ps_set (i := 7) sc.nd rfl (Or.inl rfl) (pe_lst pa_nil))
      (pss_cons (ps_set (i := 8) sc.nd rfl (Or.inl rfl) (pe_lst pa_nil))
      (pss_cons (ps_set (i := 9) sc.nd rfl (Or.inl rfl) (pv 4))
      (pss_cons (ps_while PassesOwn.never (pt_cmpR op_ne (pe_dget2 (hu_of hr) (pv 1) (pe_tup (pa_cons (pv 3) (pa_cons (pe_callB (call_min2 rfl) (by rfl) T.f_min (by decide +kernel) (pa_cons (pv 9) (pa_cons (pe_op op_add (pv 9) (pv 5)) pa_nil))) (pa_cons pe_int pa_nil)))) pe_str ⟨rfl, rfl, rfl, rfl⟩) pe_str (nomark _))
        (pss_cons (ps_expr (pe_bm PySem.F.plainAttrs_list PySem.F.slot_list_append PySem.F.type_list_append mt_append (pv 7) (pa_cons (pe_tup (pa_cons (pv 3) (pa_cons (pe_callB (call_min2 rfl) (by rfl) T.f_min (by decide +kernel) (pa_cons (pv 9) (pa_cons (pe_op op_add (pv 9) (pv 5)) pa_nil))) (pa_cons pe_int pa_nil)))) pa_nil)))
          (pss_cons (ps_set (i := 9) sc.nd rfl (Or.inl rfl) (pe_op op_add (pv 9) (pv 5)))
          (pss_cons (ps_if (PW.pt (pw_or (pt_cmpR op_lt (pv 9) pe_int (nomark _)) (pw_or1 (pt_cmpR op_gt (pv 9) (pv 6) (nomark _))))) (pss_one ps_break) pss_nil)
          (pss_cons (ps_asg (pFn F_spur_come_to (by exact ⟨rfl, rfl, rfl, rfl, rfl⟩) (hr.mono (by decide)) (by rfl) (pa_cons (pv 0) (pa_cons (pv 1) (pa_cons (pv 3) (pa_cons (pv 9) pa_nil))))) (pgT (K := K) (n := 2) (by rfl) rfl (pgs_cons (pg_name (i := 10) sc.nd rfl (by first | exact Or.inl rfl | exact Or.inr rfl)) (pgs_cons (pg_name (i := 11) sc.nd rfl (by first | exact Or.inl rfl | exact Or.inr rfl)) pgs_nil))))
          (pss_cons (ps_expr (pe_bm PySem.F.plainAttrs_list PySem.F.slot_list_extend PySem.F.type_list_extend mt_extend (pv 7) (pa_cons (pv 10) pa_nil)))
          (pss_cons (ps_expr (pe_bm PySem.F.plainAttrs_list PySem.F.slot_list_extend PySem.F.type_list_extend mt_extend (pv 8) (pa_cons (pv 11) pa_nil)))
          (pss_one (ps_if (pt_cmp (pc_din (hu_of hr) (pe_tup (pa_cons (pv 3) (pa_cons (pv 9) pa_nil))) (pv 2))) (pss_one ps_break) pss_nil)))))))))
      (pss_one (ps_ret (pe_tup (pa_cons (pv 7) (pa_cons (pv 8) pa_nil)))))))))), fun us M q h => ?_⟩)
  case len => rintro us M q ⟨_, _, _, _, _, _, _, _, _, rfl, _⟩; rfl
  obtain ⟨p, F, G, h, s, i, l, c0, up, rfl, hp, hl, hu1, hu2, hh, hs0, hq⟩ := h
  have hlm := List.mem_of_getElem? hl
  have hl12 := hp.places l hlm
  unfold ePlan
  walk_at "go"
  refine r_ixT (u := eLoop l) (atI_nat (by rw [List.getElem?_map, hl]; rfl)) ?_
  unfold eLoop
  walk_at "w"
  walk_at "ro"
  walk_at "w"
  intro a
  walk_at "w"
  walk_at "ro"
  walk_at "w"
  intro b
  walk_at "w"
  walk_at "ro"
  walk_at "w"
  walk_at "ro"
  rw [List.length_map]
  refine WS.perm (List.Perm.swap ..) ?_
  refine ws_while (fun n M' ρ' => ∃ (c : Nat) (P S : List Spot), RLe [some (ePlan p), some (.ptr h), some (.ptr s), some (.int (i : Nat)), none, some (.int (if up = true then 1 else -1)), some (.int (l.length : Nat)), some (.ptr a), some (.ptr b), some (.int (c : Nat)), none, none] ρ' ∧
    Sub ((a, .l (P.map eSp)) :: (b, .l (S.map eSp)) :: M) M' ∧ walkM F G i l up c0 = (P ++ (visit F G i l up n c).1, S ++ (visit F G i l up n c).2) ∧ (up = true → c ≤ l.length) ∧ (up = false → 1 ≤ c ∧ c ≤ l.length + 1) ∧ n = if up = true then l.length + 1 - c else c)
    ⟨_, c0, [], [], by walk_at "rle", Sub.refl _, rfl, hu1, hu2, rfl⟩ fun n M' ρ' ⟨c, P, S, hr, hs, hT, hc1, hc2, hn⟩ => ?_
  have hwl : P.length ≤ 60 ∧ S.length ≤ 60 := by
    have := walk_len hp hl F G up (c := c0) (by cases up <;> simp_all <;> omega)
    rw [hT] at this
    simp only [List.length_append] at this
    omega
  have hcu : up = false → 1 ≤ c := fun z => (hc2 z).1
  refine WT.fr hs hr ?_
  obtain ⟨n', hn'⟩ : ∃ n', n = n' + 1 := by
    cases up with
    | true => exact ⟨l.length - c, by have := hc1 rfl; simp at hn; omega⟩
    | false => exact ⟨c - 1, by have := hc2 rfl; simp at hn; omega⟩
  have hnn : n' = if up = true then l.length + 1 - nxt up c else nxt up c := by
    unfold nxt
    cases up with
    | true => have := hc1 rfl; simp at hn ⊢; omega
    | false => have := hc2 rfl; simp at hn ⊢; omega
  clear hn
  subst hn'
  walk_at "w"
  refine w_dget ?_
  walk_at "w"
  refine ⟨_, _, rfl, .tail _ (.tail _ hh), ?_⟩
  walk_at "w"
  rw [edg_min up hcu]
  refine ⟨.tail _ (.tail _ hh), kSp (i, edg up c, 0), rfl, ?_⟩
  walk_at "w"
  refine ⟨.tail _ (.tail _ hh), ?_⟩
  rw [look_hkv, getD_str]
  walk_at "w"
  rw [how_cut]
  unfold visit at hT
  cases hct : isHow F "cut" (i, edg up c, 0) with
  | true =>
    rw [hct, if_pos rfl, List.append_nil, List.append_nil] at hT
    refine ⟨fun z => Bool.noConfusion z, fun _ => WS.fr (Sub.refl _) hr ?_⟩
    walk_at "w"
    refine ⟨_, Sub.refl _, ?_⟩
    have z := hq a b
    rw [hT] at z
    exact z
  | false =>
    rw [hct, if_neg Bool.false_ne_true] at hT
    refine ⟨fun _ => WS.fr (Sub.refl _) hr ?_, fun z => Bool.noConfusion z⟩
    walk_at "w"
    walk_at "bm"
    walk_at "w"
    rw [edg_min up hcu]
    refine rm_append put1 (by rw [List.length_map]; omega) ?_
    walk_at "w"
    rw [nxt_add up hcu]
    walk_at "ro"
    walk_at "w"
    have hP : P.map eSp ++ [U.tup [.int (i : Nat), .int (edg up c : Nat), .int 0]] = (P ++ [(i, edg up c, 0)]).map eSp := by
      rw [List.map_append]
      rfl
    rw [hP]
    by_cases ho : nxt up c < 1 ∨ l.length < nxt up c
    · rw [if_pos ho] at hT
      by_cases h1 : nxt up c < 1
      · rw [show decide (((nxt up c : Nat) : Int) < 1) = true from decide_eq_true (by omega)]
        walk_at "w"
        refine ⟨_, Sub.refl _, ?_⟩
        have z := hq a b
        rw [hT, List.append_nil] at z
        exact z
      · rw [show decide (((nxt up c : Nat) : Int) < 1) = false from decide_eq_false (by omega)]
        walk_at "w"
        rw [show decide (((l.length : Nat) : Int) < (nxt up c : Nat)) = true from decide_eq_true (by omega)]
        walk_at "w"
        refine ⟨_, Sub.refl _, ?_⟩
        have z := hq a b
        rw [hT, List.append_nil] at z
        exact z
    · rw [if_neg ho] at hT
      rw [show decide (((nxt up c : Nat) : Int) < 1) = false from decide_eq_false (by omega)]
      walk_at "w"
      rw [show decide (((l.length : Nat) : Int) < (nxt up c : Nat)) = false from decide_eq_false (by omega)]
      walk_at "w"
      refine ⟨p, F, h, i, l, nxt up c, rfl, hp, hl, by omega, by omega, .tail _ (.tail _ hh), fun a2 b2 => ?_⟩
      have hwy := ways_len F i l (nxt up c)
      have hsp := spur_le hp hl (nxt up c)
      walk_at "w"
      walk_at "ro"
      walk_at "w"
      walk_at "bm"
      walk_at "w"
      refine rm_extend (.there (.there .here)) (.head _) (by simp only [List.length_map, List.length_append, List.length_cons, List.length_nil]; omega) ?_
      walk_at "w"
      walk_at "bm"
      walk_at "w"
      refine rm_extend (.there (.there (.there .here))) (.tail _ (.head _)) (by simp only [List.length_map, List.length_append, List.length_cons, List.length_nil]; omega) ?_
      walk_at "w"
      refine w_dinT ?_
      walk_at "w"
      refine ⟨kGt (i, nxt up c), rfl, ?_⟩
      walk_at "w"
      refine ⟨_, _, rfl, .tail _ (.tail _ (.tail _ (.tail _ hs0))), ?_⟩
      rw [look_gkv]
      have hm1 : ((P ++ [(i, edg up c, 0)]).map eSp ++ (waysOf F i l (nxt up c)).map eSp) = (P ++ (i, edg up c, 0) :: waysOf F i l (nxt up c)).map eSp := by
        simp only [List.map_append, List.map_cons, List.map_nil, List.append_assoc, List.cons_append, List.nil_append]
      have hm2 : (S.map eSp ++ eSp (i, nxt up c, 0) :: (waysOf F i l (nxt up c)).map eSp) = (S ++ (i, nxt up c, 0) :: waysOf F i l (nxt up c)).map eSp := by
        rw [List.map_append]
        rfl
      rw [hm1, hm2]
      by_cases hg : (i, nxt up c) ∈ G
      · rw [decide_eq_true hg]
        walk_at "w"
        refine ⟨(a, _) :: (b, _) :: M, .skip (.skip (Sub.refl _)), ?_⟩
        have z := hq a b
        simp only [hg, if_true, List.append_nil] at hT
        rw [hT] at z
        exact z
      · rw [decide_eq_false hg]
        walk_at "w"
        simp only [hg, if_false] at hT
        refine ⟨n', by omega, nxt up c, _, _, by walk_at "rle", .skip (.skip (Sub.refl _)), ?_, ?_, ?_, hnn⟩
        · rw [hT]
          simp only [List.append_assoc, List.cons_append]
        · intro z
          omega
        · intro z
          omega
end Wl
set_option Elab.async false
set_option linter.all false
set_option maxRecDepth 100000
set_option maxHeartbeats 4000000
namespace Wl
open PySem PySem.Spec PyProof.Rows L2
local macro_rules | `(tactic| walk_at "w1") => `(tactic| first
  | with_reducible refine ws_seq ?_
  | with_reducible refine ws_ret ?_
  | with_reducible refine ws_asg ?_
  | with_reducible refine ws_drop ?_
  | with_reducible refine ws_if ?_
  | with_reducible refine ws_next ?_
  | with_reducible refine w_var (by with_unfolding_all rfl) ?_
  | with_reducible refine w_int ?_
  | with_reducible refine w_str ?_
  | with_reducible refine w_bl ?_
  | with_reducible refine w_non ?_
  | with_reducible refine w_ref ?_
  | with_reducible refine w_isi2 ?_
  | with_reducible refine w_op ?_
  | with_reducible refine w_andV ?_
  | with_reducible refine w_notV ?_
  | with_reducible refine w_chain ?_
  | with_reducible refine wa_nil ?_
  | with_reducible refine wa_cons ?_
  | with_reducible refine w_tup ?_
  | with_reducible refine w_lst ?_
  | with_reducible refine w_tupF ?_
  | with_reducible refine w_call ?_
  | ((fail_if_success (with_reducible refine w_allT (α := Unit) ?_)); (fail_if_success (with_reducible refine w_anyB (α := Unit) ?_)); with_reducible refine w_cb ?_)
  | with_reducible refine w_bm ?_
  | with_reducible refine wt_test ?_
  | with_reducible refine wt_B ?_
  | with_reducible refine wt_not ?_
  | with_reducible refine wt_and ?_
  | with_reducible refine wt_or ?_
  | with_reducible refine wt_yes ?_
  | with_reducible refine wg_name ?_ (by with_unfolding_all rfl)
  | with_reducible refine wg_name ?_
  | with_reducible refine wgs_nil ?_
  | with_reducible refine wgs_cons ?_
  | with_reducible refine wg_tup (by with_unfolding_all rfl) ?_
  | with_reducible refine w_un ?_
  | with_reducible refine w_sl ?_
  | with_reducible refine wo_none ?_
  | with_reducible refine wo_some ?_
  | with_reducible refine r_ii ?_
  | with_reducible refine r_ib ?_
  | with_reducible refine r_eqI ?_
  | with_reducible refine r_eqS ?_
  | with_reducible refine r_neI ?_
  | with_reducible refine r_neS ?_
  | with_reducible refine rs_T ?_
  | with_reducible refine rc_lenT ?_
  | with_reducible refine rc_lenTf ?_
  | with_reducible refine rc_min ?_
  | with_reducible refine r_isN ?_
  | with_reducible refine r_noN ?_
  | with_reducible refine ws_break ?_
  | with_reducible refine ws_dput ?_
  | (with_reducible refine r_ixT (by with_unfolding_all rfl) ?_)
  | exact ⟨rfl, Sub.refl _⟩
  | refine ⟨Sub.refl _, ?_⟩
  | refine ⟨Nat.le_of_ble_eq_true (by with_unfolding_all rfl), ?_⟩
  | refine ⟨_, rfl, ?_⟩
  | refine ⟨true, rfl, fun _ => ?_, fun z => Bool.noConfusion z⟩
  | refine ⟨false, rfl, fun z => Bool.noConfusion z, fun _ => ?_⟩
  | refine ⟨false, rfl, fun _ => ?_, fun z => Bool.noConfusion z⟩
  | refine ⟨true, rfl, fun z => Bool.noConfusion z, fun _ => ?_⟩
  | refine ⟨fun _ => ?_, fun z => Bool.noConfusion z⟩
  | refine ⟨fun z => Bool.noConfusion z, fun _ => ?_⟩)
local macro_rules | `(tactic| walk_at "w") => `(tactic| repeat walk_at "w1")
local macro_rules | `(tactic| walk_at "in") => `(tactic| try dsimp only [XD, cxOf, Cx.nox, Cx.wish])
local macro_rules | `(tactic| walk_at "ro") => `(tactic| try simp only [startR, List.map_cons, List.map_nil, List.length_cons, List.length_nil, Nat.reduceAdd, Nat.reduceSub, Nat.zero_add, List.replicate_zero, List.replicate_succ, List.cons_append, List.nil_append, List.append_nil, List.set_cons_zero, List.set_cons_succ])
local macro_rules | `(tactic| walk_at "sub") => `(tactic| repeat (first | exact Sub.refl _ | exact Sub.nil' _ | refine Sub.keep ?_ | refine Sub.skip ?_))
local macro_rules | `(tactic| walk_at "go") => `(tactic| (walk_at "in"; walk_at "ro"; walk_at "w"))
local macro_rules | `(tactic| walk_at "rle") => `(tactic| repeat (first | exact RLe.refl _ | exact RLe.nil | refine RLe.keep ?_ | refine RLe.hole ?_))
local macro_rules | `(tactic| walk_at "mem") => `(tactic| repeat (first | exact List.mem_cons_self .. | refine List.mem_cons_of_mem _ ?_))
local macro_rules | `(tactic| walk_at "put") => `(tactic| repeat (first | exact Put.here | refine Put.there ?_))
local macro_rules | `(tactic| walk_at "bm") => `(tactic| (first | refine ⟨⟨_, _, rfl, rfl, (by walk_at "mem")⟩, ?_⟩ | refine ⟨⟨_, _, rfl, trivial, (by walk_at "mem")⟩, ?_⟩))
local macro_rules | `(tactic| walk_at "end") => `(tactic| (first | exact ⟨Sub.refl _, by walk_at "rle"⟩ | walk_at "rle"))
abbrev N_feels : List Str := ["plan", "hows", "stops", "opener", "step", "passed", "spots", "stretch"]
theorem sc_feels : FnScope N_feels ["plan", "hows", "stops", "opener"] (defScope (atTop 39)) := ⟨rfl, rfl, rfl, by decide +kernel, rfl, by decide +kernel, by decide +kernel⟩
theorem fn_feels {P : Program} {w : World} {K : PySem.W.Frag} {mg : Str → Option Value} {base : Heap} (T : Txt K mg) (F_come_to : Fn P w K mg base 2 "come_to" ["plan", "hows", "stops", "loop", "place", "step"] C_come_to) (F_steps_of : Fn P w K mg base 1 "steps_of" ["plan", "opener"] C_steps_of) : Fn P w K mg base 3 "feels" ["plan", "hows", "stops", "opener"] C_feels := by
  have sc := sc_feels
  refine Fn.of T 22 rfl rfl sc (fun _ _ _ _ _ _ us hl => match us, hl with | [_, _, _, _], _ => rfl) ?len (fun f cdv A outer s H E hr => ⟨_, (pss_cons (ps_for PassesOwn.never rfl (piL (K := K) (by rfl) (pFn F_steps_of (by exact ⟨rfl, rfl, rfl, rfl, rfl⟩) (hr.mono (by decide)) (by rfl) (pa_cons (pv 0) (pa_cons (pv 3) pa_nil)))) (pg_name (i := 4) sc.nd rfl (by first | exact Or.inl rfl | exact Or.inr rfl))
        (pss_cons (ps_asg (pFn F_come_to (by exact ⟨rfl, rfl, rfl, rfl, rfl⟩) (hr.mono (by decide)) (by rfl) (pa_cons (pv 0) (pa_cons (pv 1) (pa_cons (pv 2) (pa_cons (pe_ix (ixT (K := K) (by rfl)) (pv 3) pe_int (fun _ _ => rfl)) (pa_cons (pe_ix (ixT (K := K) (by rfl)) (pv 3) pe_int (fun _ _ => rfl)) (pa_cons (pv 4) pa_nil))))))) (pgT (K := K) (n := 2) (by rfl) rfl (pgs_cons (pg_name (i := 5) sc.nd rfl (by first | exact Or.inl rfl | exact Or.inr rfl)) (pgs_cons (pg_name (i := 6) sc.nd rfl (by first | exact Or.inl rfl | exact Or.inr rfl)) pgs_nil))))
          (pss_one (ps_if (pt_val (pe_callB (anyK (K := K) (by rfl) rfl) (by rfl) T.f_any (by decide +kernel) (pa_cons (pe_lc (own := [("stretch", 7)]) rfl sc.nd (piL (K := K) (by rfl) (pv 5)) (blkOk_by (own := [("stretch", 7)]) (N := N_feels) (sc := defScope (atTop 39)) (by decide +kernel)) (fun _ _ _ _ _ => (pg_name (i := 7) sc.nd rfl (by first | exact Or.inl rfl | exact Or.inr rfl))) (fun _ _ _ _ _ => pts_nil) (fun _ _ _ _ _ => (pe_cmpR op_eq (pe_dget2 (hu_of hr) (pv 1) (pv 7) pe_str ⟨rfl, rfl, rfl, rfl⟩) pe_str (nomark _)))) pa_nil))) (pss_one (ps_ret pe_bl)) pss_nil))))
      (pss_one (ps_ret pe_bl))), fun us M q h => ?_⟩)
  case len => rintro us M q ⟨_, _, _, _, _, _, _, _, rfl, _⟩; rfl
  obtain ⟨p, F, G, h, s, i, l, c, rfl, hp, hl, hc, hh, hs0, hq⟩ := h
  unfold eGt
  walk_at "go"
  refine ws_forX (α := Bool) (wi_list ?_)
  walk_at "w"
  refine ⟨p, i, l, c, rfl, hp, hl, hc, fun a => ?_⟩
  refine ⟨a, _, rfl, List.mem_cons_self .., ?_⟩
  refine ⟨upsM l c, fun u => .int (if u = true then 1 else -1), by rw [steps_ups, List.map_map]; rfl, fun k M' ρ' => RLe [some (ePlan p), some (.ptr h), some (.ptr s), some (.tup [.int (i : Nat), .int (c : Nat)]), none, none, none, none] ρ' ∧
    Sub ((a, .l ((stepsM l c).map U.int)) :: M) M' ∧ ∀ u ∈ (upsM l c).take k, (walkM F G i l u c).1.any (isHow F "short") = false, ⟨by walk_at "rle", Sub.refl _, by simp⟩, fun k M' ρ' ⟨_, hs, _⟩ => hs.mem (List.mem_cons_self ..), fun k u M' ρ' hu ⟨hr, hs, hn⟩ => ?_, fun M' ρ' ⟨hr, hs, hn⟩ => ?_⟩
  · have hum := List.mem_of_getElem? hu
    obtain ⟨h1, h2⟩ := ups_ok hc hum
    have hwl := walk_len hp hl F G u hc
    refine WG.fr hs hr ?_
    walk_at "w"
    walk_at "ro"
    walk_at "w"
    refine ⟨p, F, G, h, s, i, l, c, u, rfl, hp, hl, h1, h2, .tail _ hh, .tail _ hs0, fun a1 b1 => ?_⟩
    walk_at "w"
    walk_at "ro"
    walk_at "w"
    refine w_anyB (α := Spot) (wi_list ?_)
    walk_at "w"
    refine ⟨_, _, rfl, List.mem_cons_self .., ?_⟩
    refine ⟨(walkM F G i l u c).1, eSp, isHow F "short", rfl, by omega, fun _ _ => .tail _ (.head _), fun D acc x hx => ?_, ?_⟩
    · walk_at "w"
      walk_at "ro"
      walk_at "w"
      refine w_dget ?_
      walk_at "w"
      refine ⟨_, _, rfl, .tail _ (.tail _ (.tail _ (.tail _ hh))), ?_⟩
      walk_at "w"
      refine ⟨.tail _ (.tail _ (.tail _ (.tail _ hh))), kSp x, rfl, ?_⟩
      walk_at "w"
      refine ⟨.tail _ (.tail _ (.tail _ (.tail _ hh))), ?_⟩
      rw [look_hkv, getD_str]
      walk_at "w"
      rw [how_short]
      exact ⟨rfl, Sub.refl _⟩
    · walk_at "w"
      refine ⟨fun hb => ?_, fun hb => ?_⟩
      · walk_at "w"
        refine ⟨M, .skip (.skip (.skip (Sub.refl _))), ?_⟩
        have e : feelsM F G i l c = true := by
          rw [feels_ups F G i l hc, List.any_eq_true]
          exact ⟨u, hum, hb⟩
        rw [← e]
        exact hq
      · walk_at "w"
        refine ⟨by walk_at "rle", .skip (.skip (Sub.refl _)), fun y hy => ?_⟩
        rw [List.take_add_one, hu] at hy
        rcases List.mem_append.mp hy with hy | hy
        · exact hn y hy
        · rw [List.mem_singleton.mp hy]
          exact hb
  · refine WS.fr hs hr ?_
    walk_at "w"
    refine ⟨M, .skip (Sub.refl _), ?_⟩
    have e : feelsM F G i l c = false := by
      rw [feels_ups F G i l hc, List.any_eq_false]
      intro u hu
      rw [hn u (by rw [List.take_length]; exact hu)]
      exact Bool.false_ne_true
    rw [← e]
    exact hq
abbrev N_heard_by : List Str := ["plan", "hows", "stops", "loop", "end", "place", "step", "passed", "spots", "stretch"]
theorem sc_heard_by : FnScope N_heard_by ["plan", "hows", "stops", "loop", "end"] (defScope (atTop 40)) := ⟨rfl, rfl, rfl, by decide +kernel, rfl, by decide +kernel, by decide +kernel⟩
theorem fn_heard_by {P : Program} {w : World} {K : PySem.W.Frag} {mg : Str → Option Value} {base : Heap} (T : Txt K mg) (F_come_to : Fn P w K mg base 2 "come_to" ["plan", "hows", "stops", "loop", "place", "step"] C_come_to) : Fn P w K mg base 3 "heard_by" ["plan", "hows", "stops", "loop", "end"] C_heard_by := by
  have sc := sc_heard_by
  refine Fn.of T 23 rfl rfl sc (fun _ _ _ _ _ _ us hl => match us, hl with | [_, _, _, _, _], _ => rfl) ?len (fun f cdv A outer s H E hr => ⟨_, (pss_cons (ps_set (i := 5) sc.nd rfl (Or.inl rfl) pe_int)
      (pss_cons (ps_set (i := 6) sc.nd rfl (Or.inl rfl) pe_int)
      (pss_cons (ps_if (pt_cmpR op_eq (pv 4) pe_str (nomark _)) (pss_cons (ps_set (i := 5) sc.nd rfl (Or.inl rfl) (pe_op op_add (pe_callB (lenK (K := K) (by rfl)) (by rfl) T.f_len (by decide +kernel) (pa_cons (pe_ix (ixT (K := K) (by rfl)) (pe_ix (ixT (K := K) (by rfl)) (pv 0) pe_int (fun _ _ => rfl)) (pv 3) (fun _ _ => rfl)) pa_nil)) pe_int))
          (pss_one (ps_set (i := 6) sc.nd rfl (Or.inl rfl) (pe_un un_neg pe_int)))) pss_nil)
      (pss_cons (ps_if (pt_cmp (pc_din (hu_of hr) (pe_tup (pa_cons (pv 3) (pa_cons (pv 5) pa_nil))) (pv 2))) (pss_one (ps_ret (pe_lst pa_nil))) pss_nil)
      (pss_cons (ps_asg (pFn F_come_to (by exact ⟨rfl, rfl, rfl, rfl, rfl⟩) (hr.mono (by decide)) (by rfl) (pa_cons (pv 0) (pa_cons (pv 1) (pa_cons (pv 2) (pa_cons (pv 3) (pa_cons (pv 5) (pa_cons (pv 6) pa_nil))))))) (pgT (K := K) (n := 2) (by rfl) rfl (pgs_cons (pg_name (i := 7) sc.nd rfl (by first | exact Or.inl rfl | exact Or.inr rfl)) (pgs_cons (pg_name (i := 8) sc.nd rfl (by first | exact Or.inl rfl | exact Or.inr rfl)) pgs_nil))))
      (pss_cons (ps_if (pt_val (pe_callB (anyK (K := K) (by rfl) rfl) (by rfl) T.f_any (by decide +kernel) (pa_cons (pe_lc (own := [("stretch", 9)]) rfl sc.nd (piL (K := K) (by rfl) (pv 7)) (blkOk_by (own := [("stretch", 9)]) (N := N_heard_by) (sc := defScope (atTop 40)) (by decide +kernel)) (fun _ _ _ _ _ => (pg_name (i := 9) sc.nd rfl (by first | exact Or.inl rfl | exact Or.inr rfl))) (fun _ _ _ _ _ => pts_nil) (fun _ _ _ _ _ => (pe_cmpR op_eq (pe_dget2 (hu_of hr) (pv 1) (pv 9) pe_str ⟨rfl, rfl, rfl, rfl⟩) pe_str (nomark _)))) pa_nil))) (pss_one (ps_ret (pe_lst pa_nil))) pss_nil)
      (pss_one (ps_ret (pv 8))))))))), fun us M q h => ?_⟩)
  case len => rintro us M q ⟨_, _, _, _, _, _, _, _, rfl, _⟩; rfl
  obtain ⟨p, F, G, h, s, i, l, up, rfl, hp, hl, hh, hs0, hq⟩ := h
  walk_at "in"
  walk_at "ro"
  walk_at "w1"
  walk_at "w1"
  walk_at "w1"
  walk_at "w1"
  walk_at "w1"
  walk_at "w1"
  walk_at "w1"
  walk_at "w1"
  walk_at "ro"
  walk_at "w1"
  refine ws_cut M [some (ePlan p), some (.ptr h), some (.ptr s), some (.int (i : Nat)), some (.str (if up = true then "A" else "B")), some (.int (endOf l up : Nat)), some (.int (if up = true then 1 else -1)), none, none, none] ?_ ?_
  · cases up with
    | true =>
      walk_at "w"
      first | exact ⟨rfl, rfl⟩ | exact ⟨trivial, rfl⟩
    | false =>
      unfold ePlan
      walk_at "w"
      refine r_ixT (u := eLoop l) (atI_nat (by rw [List.getElem?_map, hl]; rfl)) ?_
      unfold eLoop
      walk_at "w"
      walk_at "ro"
      walk_at "w"
      walk_at "ro"
      rw [List.length_map]
      first | exact ⟨rfl, rfl⟩ | exact ⟨trivial, rfl⟩
  · walk_at "w"
    refine w_dinT ?_
    walk_at "w"
    refine ⟨kGt (i, endOf l up), rfl, ?_⟩
    walk_at "w"
    refine ⟨_, _, rfl, hs0, ?_⟩
    rw [look_gkv]
    walk_at "w"
    by_cases hg : (i, endOf l up) ∈ G
    · rw [decide_eq_true hg]
      walk_at "w"
      intro a
      refine ⟨_, Sub.refl _, ?_⟩
      have z := hq a
      unfold heardM at z
      rw [if_pos hg] at z
      exact z
    · rw [decide_eq_false hg]
      walk_at "w"
      have hc : endOf l up ≤ l.length + 1 := by unfold endOf; split <;> omega
      have hwl := walk_len hp hl F G up hc
      refine ⟨p, F, G, h, s, i, l, endOf l up, up, rfl, hp, hl, fun z => by unfold endOf; rw [if_pos z]; omega, fun z => by unfold endOf; rw [z, if_neg Bool.false_ne_true]; omega, hh, hs0, fun a1 b1 => ?_⟩
      walk_at "w"
      walk_at "ro"
      walk_at "w"
      refine w_anyB (α := Spot) (wi_list ?_)
      walk_at "w"
      refine ⟨_, _, rfl, List.mem_cons_self .., ?_⟩
      refine ⟨(walkM F G i l up (endOf l up)).1, eSp, isHow F "short", rfl, by omega, fun _ _ => .tail _ (.head _), fun D acc x hx => ?_, ?_⟩
      · walk_at "w"
        walk_at "ro"
        walk_at "w"
        refine w_dget ?_
        walk_at "w"
        refine ⟨_, _, rfl, .tail _ (.tail _ (.tail _ hh)), ?_⟩
        walk_at "w"
        refine ⟨.tail _ (.tail _ (.tail _ hh)), kSp x, rfl, ?_⟩
        walk_at "w"
        refine ⟨.tail _ (.tail _ (.tail _ hh)), ?_⟩
        rw [look_hkv, getD_str]
        walk_at "w"
        rw [how_short]
        exact ⟨rfl, Sub.refl _⟩
      · walk_at "w"
        refine ⟨fun hb => ?_, fun hb => ?_⟩
        · walk_at "w"
          intro a
          refine ⟨(a, _) :: M, .keep (.skip (.skip (Sub.refl _))), ?_⟩
          have z := hq a
          unfold heardM at z
          rw [if_neg hg, if_pos hb] at z
          exact z
        · walk_at "w"
          refine ⟨_, .skip (Sub.refl _), ?_⟩
          have z := hq b1
          unfold heardM at z
          rw [if_neg hg, if_neg (by rw [hb]; exact Bool.false_ne_true)] at z
          exact z
end Wl
set_option Elab.async false
set_option linter.all false
set_option maxRecDepth 100000
set_option maxHeartbeats 4000000
namespace Wl
open PySem PySem.Spec PyProof.Rows L2
local macro_rules | `(tactic| walk_at "w1") => `(tactic| first
  | with_reducible refine ws_seq ?_
  | with_reducible refine ws_ret ?_
  | with_reducible refine ws_asg ?_
  | with_reducible refine ws_drop ?_
  | with_reducible refine ws_if ?_
  | with_reducible refine ws_next ?_
  | with_reducible refine w_var (by with_unfolding_all rfl) ?_
  | with_reducible refine w_int ?_
  | with_reducible refine w_str ?_
  | with_reducible refine w_bl ?_
  | with_reducible refine w_non ?_
  | with_reducible refine w_ref ?_
  | with_reducible refine w_isi2 ?_
  | with_reducible refine w_op ?_
  | with_reducible refine w_andV ?_
  | with_reducible refine w_notV ?_
  | with_reducible refine w_chain ?_
  | with_reducible refine wa_nil ?_
  | with_reducible refine wa_cons ?_
  | with_reducible refine w_tup ?_
  | with_reducible refine w_lst ?_
  | with_reducible refine w_tupF ?_
  | with_reducible refine w_call ?_
  | ((fail_if_success (with_reducible refine w_allT (α := Unit) ?_)); (fail_if_success (with_reducible refine w_anyB (α := Unit) ?_)); with_reducible refine w_cb ?_)
  | with_reducible refine w_bm ?_
  | with_reducible refine wt_test ?_
  | with_reducible refine wt_B ?_
  | with_reducible refine wt_not ?_
  | with_reducible refine wt_and ?_
  | with_reducible refine wt_or ?_
  | with_reducible refine wt_yes ?_
  | with_reducible refine wg_name ?_ (by with_unfolding_all rfl)
  | with_reducible refine wg_name ?_
  | with_reducible refine wgs_nil ?_
  | with_reducible refine wgs_cons ?_
  | with_reducible refine wg_tup (by with_unfolding_all rfl) ?_
  | with_reducible refine w_un ?_
  | with_reducible refine w_sl ?_
  | with_reducible refine wo_none ?_
  | with_reducible refine wo_some ?_
  | with_reducible refine r_ii ?_
  | with_reducible refine r_ib ?_
  | with_reducible refine r_eqI ?_
  | with_reducible refine r_eqS ?_
  | with_reducible refine r_neI ?_
  | with_reducible refine r_neS ?_
  | with_reducible refine rs_T ?_
  | with_reducible refine rc_lenT ?_
  | with_reducible refine rc_lenTf ?_
  | with_reducible refine rc_min ?_
  | with_reducible refine r_isN ?_
  | with_reducible refine r_noN ?_
  | with_reducible refine ws_break ?_
  | with_reducible refine ws_dput ?_
  | (with_reducible refine r_ixT (by with_unfolding_all rfl) ?_)
  | exact ⟨rfl, Sub.refl _⟩
  | refine ⟨Sub.refl _, ?_⟩
  | refine ⟨Nat.le_of_ble_eq_true (by with_unfolding_all rfl), ?_⟩
  | refine ⟨_, rfl, ?_⟩
  | refine ⟨true, rfl, fun _ => ?_, fun z => Bool.noConfusion z⟩
  | refine ⟨false, rfl, fun z => Bool.noConfusion z, fun _ => ?_⟩
  | refine ⟨false, rfl, fun _ => ?_, fun z => Bool.noConfusion z⟩
  | refine ⟨true, rfl, fun z => Bool.noConfusion z, fun _ => ?_⟩
  | refine ⟨fun _ => ?_, fun z => Bool.noConfusion z⟩
  | refine ⟨fun z => Bool.noConfusion z, fun _ => ?_⟩)
local macro_rules | `(tactic| walk_at "w") => `(tactic| repeat walk_at "w1")
local macro_rules | `(tactic| walk_at "in") => `(tactic| try dsimp only [XD, cxOf, Cx.nox, Cx.wish])
local macro_rules | `(tactic| walk_at "ro") => `(tactic| try simp only [startR, List.map_cons, List.map_nil, List.length_cons, List.length_nil, Nat.reduceAdd, Nat.reduceSub, Nat.zero_add, List.replicate_zero, List.replicate_succ, List.cons_append, List.nil_append, List.append_nil, List.set_cons_zero, List.set_cons_succ])
local macro_rules | `(tactic| walk_at "sub") => `(tactic| repeat (first | exact Sub.refl _ | exact Sub.nil' _ | refine Sub.keep ?_ | refine Sub.skip ?_))
local macro_rules | `(tactic| walk_at "go") => `(tactic| (walk_at "in"; walk_at "ro"; walk_at "w"))
local macro_rules | `(tactic| walk_at "rle") => `(tactic| repeat (first | exact RLe.refl _ | exact RLe.nil | refine RLe.keep ?_ | refine RLe.hole ?_))
local macro_rules | `(tactic| walk_at "mem") => `(tactic| repeat (first | exact List.mem_cons_self .. | refine List.mem_cons_of_mem _ ?_))
local macro_rules | `(tactic| walk_at "put") => `(tactic| repeat (first | exact Put.here | refine Put.there ?_))
local macro_rules | `(tactic| walk_at "bm") => `(tactic| (first | refine ⟨⟨_, _, rfl, rfl, (by walk_at "mem")⟩, ?_⟩ | refine ⟨⟨_, _, rfl, trivial, (by walk_at "mem")⟩, ?_⟩))
local macro_rules | `(tactic| walk_at "end") => `(tactic| (first | exact ⟨Sub.refl _, by walk_at "rle"⟩ | walk_at "rle"))
abbrev N_of_loop : List Str := ["plan", "loop", "spots", "gate", "spot", "kind", "address"]
theorem sc_of_loop : FnScope N_of_loop ["plan", "loop"] (defScope (atTop 45)) := ⟨rfl, rfl, rfl, by decide +kernel, rfl, by decide +kernel, by decide +kernel⟩
theorem fn_of_loop {P : Program} {w : World} {K : PySem.W.Frag} {mg : Str → Option Value} {base : Heap} (T : Txt K mg) (F_devices : Fn P w K mg base 1 "devices" ["plan"] C_devices) (F_openers : Fn P w K mg base 1 "openers" ["plan"] C_openers) : Fn P w K mg base 2 "of_loop" ["plan", "loop"] C_of_loop := by
  have sc := sc_of_loop
  refine Fn.of T 26 rfl rfl sc (fun _ _ _ _ _ _ us hl => match us, hl with | [_, _], _ => rfl) ?len (fun f cdv A outer s H E hr => ⟨_, (pss_cons (ps_set (i := 2) sc.nd rfl (Or.inl rfl) (pe_callTy (dictK (K := K) (by rfl) rfl hr.units) (by rfl) T.f_dict (by decide +kernel) (pa_cons (pe_lc (own := [("spot", 4), ("kind", 5), ("address", 6)]) rfl sc.nd (piL (K := K) (by rfl) (pFn F_devices (by exact ⟨rfl, rfl, rfl, rfl, rfl⟩) (hr.mono (by decide)) (by rfl) (pa_cons (pv 0) pa_nil))) (blkOk_by (own := [("spot", 4), ("kind", 5), ("address", 6)]) (N := N_of_loop) (sc := defScope (atTop 45)) (by decide +kernel)) (fun _ _ _ _ _ => (pgT (K := K) (n := 3) (by rfl) rfl (pgs_cons (pg_name (i := 4) sc.nd rfl (by first | exact Or.inl rfl | exact Or.inr rfl)) (pgs_cons (pg_name (i := 5) sc.nd rfl (by first | exact Or.inl rfl | exact Or.inr rfl)) (pgs_cons (pg_name (i := 6) sc.nd rfl (by first | exact Or.inl rfl | exact Or.inr rfl)) pgs_nil))))) (fun _ _ _ _ _ => (pts_one (pt_cmpR op_eq (pe_ix (ixT (K := K) (by rfl)) (pv 4) pe_int (fun _ _ => rfl)) (pv 1) (nomark _)))) (fun _ _ _ _ _ => (pe_tup (pa_cons (pv 4) (pa_cons pe_bl pa_nil))))) pa_nil)))
      (pss_one (ps_ret (pe_tup (pa_cons (pv 2) (pa_cons (pe_lc (own := [("gate", 3)]) rfl sc.nd (piL (K := K) (by rfl) (pFn F_openers (by exact ⟨rfl, rfl, rfl, rfl, rfl⟩) (hr.mono (by decide)) (by rfl) (pa_cons (pv 0) pa_nil))) (blkOk_by (own := [("gate", 3)]) (N := N_of_loop) (sc := defScope (atTop 45)) (by decide +kernel)) (fun _ _ _ _ _ => (pg_name (i := 3) sc.nd rfl (by first | exact Or.inl rfl | exact Or.inr rfl))) (fun _ _ _ _ _ => (pts_one (pt_cmpR op_eq (pe_ix (ixT (K := K) (by rfl)) (pv 3) pe_int (fun _ _ => rfl)) (pv 1) (nomark _)))) (fun _ _ _ _ _ => (pv 3))) pa_nil)))))), fun us M q h => ?_⟩)
  case len => rintro us M q ⟨_, _, _, rfl, _⟩; rfl
  obtain ⟨p, i, l, rfl, hp, hl, hq⟩ := h
  have hlm := List.mem_of_getElem? hl
  have hd := devs_take hp p.loops.length
  rw [show p.loops.zipIdx.take p.loops.length = p.loops.zipIdx from List.take_of_length_le (by simp)] at hd
  have hg := gates_take hp p.loops.length
  rw [show p.loops.zipIdx.take p.loops.length = p.loops.zipIdx from List.take_of_length_le (by simp)] at hg
  have hdl : (devicesOf p).length ≤ 144 := hd
  have hgl : (openersOf p).length ≤ 42 := hg
  walk_at "go"
  refine w_lcp (α := Spot × Dev) (wi_list ?_)
  walk_at "w"
  refine ⟨hp, fun a => ?_⟩
  refine ⟨a, _, rfl, List.mem_cons_self .., ?_⟩
  refine ⟨devicesOf p, eRow, fun r => decide (r.1.1 = i), fun r => .tup [eSp r.1, .bl true], rfl, by omega, fun _ _ => .tail _ (.head _), fun D acc r hr => ?_, fun D => ?_⟩
  · unfold eRow
    walk_at "w"
    walk_at "ro"
    unfold eSp
    walk_at "w"
    refine ⟨?_, Sub.refl _, fun _ => ?_⟩
    · exact decide_eq_decide.mpr (by omega)
    · walk_at "w"
  · rw [devs_loop hl]
    have e : ((loopRows i l).map fun r => U.tup [eSp r.1, .bl true]) = (skv (devL i l)).map pairU := by
      rw [← skv_pair]
      unfold devL
      rw [List.map_map]
      rfl
    rw [e]
    walk_at "w"
    have hdn : (devL i l).length ≤ 48 := by
      have := loopRows_len hp hlm i
      unfold devL
      rw [List.length_map]
      exact this
    refine rc_dictL (List.mem_cons_self ..) (skv_nodup (devL_nodup i l)) (by unfold skv; rw [List.length_map]; omega) fun d => ?_
    walk_at "w"
    walk_at "ro"
    walk_at "w"
    refine w_lcp (α := Gate) (wi_list ?_)
    walk_at "w"
    refine ⟨hp, fun b => ?_⟩
    refine ⟨b, _, rfl, List.mem_cons_self .., ?_⟩
    refine ⟨openersOf p, eGt, fun r => decide (r.1 = i), eGt, rfl, by omega, fun _ _ => .tail _ (.head _), fun D acc r hr => ?_, fun D => ?_⟩
    · unfold eGt
      walk_at "w"
      walk_at "ro"
      walk_at "w"
      refine ⟨?_, Sub.refl _, fun _ => ?_⟩
      · exact decide_eq_decide.mpr (by omega)
      · walk_at "w"
    · rw [gates_loop hl]
      walk_at "w"
      refine ⟨(D, .l ((loopGates i l).map eGt)) :: (d, .dt (skv (devL i l))) :: M, by walk_at "sub", hq d D⟩
abbrev N_heard_so : List Str := ["plan", "spots", "gates", "faults", "hows", "every", "stops", "found", "end", "some", "gate", "spot"]
theorem sc_heard_so : FnScope N_heard_so ["plan", "spots", "gates", "faults"] (defScope (atTop 44)) := ⟨rfl, rfl, rfl, by decide +kernel, rfl, by decide +kernel, by decide +kernel⟩
theorem fn_heard_so {P : Program} {w : World} {K : PySem.W.Frag} {mg : Str → Option Value} {base : Heap} (T : Txt K mg) (F_feels : Fn P w K mg base 3 "feels" ["plan", "hows", "stops", "opener"] C_feels) (F_heard_by : Fn P w K mg base 3 "heard_by" ["plan", "hows", "stops", "loop", "end"] C_heard_by) : Fn P w K mg base 4 "heard_so" ["plan", "spots", "gates", "faults"] C_heard_so := by
  have sc := sc_heard_so
  refine Fn.of T 25 rfl rfl sc (fun _ _ _ _ _ _ us hl => match us, hl with | [_, _, _, _], _ => rfl) ?len (fun f cdv A outer s H E hr => ⟨_, (pss_cons (ps_set (i := 4) sc.nd rfl (Or.inr rfl) (pe_callTy (dictK (K := K) (by rfl) rfl hr.units) (by rfl) T.f_dict (by decide +kernel) (pa_cons (pv 3) pa_nil)))
      (pss_cons (ps_set (i := 5) sc.nd rfl (Or.inr rfl) (pe_callTy (dictK (K := K) (by rfl) rfl hr.units) (by rfl) T.f_dict (by decide +kernel) (pa_cons (pe_lc (own := [("gate", 10)]) rfl sc.nd (piL (K := K) (by rfl) (pv 2)) (blkOk_by (own := [("gate", 10)]) (N := N_heard_so) (sc := defScope (atTop 44)) (by decide +kernel)) (fun _ _ _ _ _ => (pg_name (i := 10) sc.nd rfl (by first | exact Or.inl rfl | exact Or.inr rfl))) (fun _ _ _ _ _ => pts_nil) (fun _ _ _ _ _ => (pe_tup (pa_cons (pv 10) (pa_cons pe_bl pa_nil))))) pa_nil)))
      (pss_cons (ps_set (i := 6) sc.nd rfl (Or.inl rfl) (pe_callTy (dictK (K := K) (by rfl) rfl hr.units) (by rfl) T.f_dict (by decide +kernel) (pa_cons (pe_lc (own := [("gate", 10)]) rfl sc.nd (piL (K := K) (by rfl) (pv 2)) (blkOk_by (own := [("gate", 10)]) (N := N_heard_so) (sc := defScope (atTop 44)) (by decide +kernel)) (fun _ _ _ _ _ => (pg_name (i := 10) sc.nd rfl (by first | exact Or.inl rfl | exact Or.inr rfl))) (fun _ _ _ _ _ => (pts_one (pt_val (pFn F_feels (by exact ⟨rfl, rfl, rfl, rfl, rfl⟩) (hr.mono (by decide)) (by rfl) (pa_cons (pv 0) (pa_cons (pv 4) (pa_cons (pv 5) (pa_cons (pv 10) pa_nil)))))))) (fun _ _ _ _ _ => (pe_tup (pa_cons (pv 10) (pa_cons pe_bl pa_nil))))) pa_nil)))
      (pss_cons (ps_set (i := 7) sc.nd rfl (Or.inl rfl) (pe_lst pa_nil))
      (pss_cons (ps_for PassesOwn.never rfl (piT (K := K) (by rfl) (pe_tup (pa_cons pe_str (pa_cons pe_str pa_nil)))) (pg_name (i := 8) sc.nd rfl (by first | exact Or.inl rfl | exact Or.inr rfl))
        (pss_cons (ps_set (i := 9) sc.nd rfl (Or.inl rfl) (pFn F_heard_by (by exact ⟨rfl, rfl, rfl, rfl, rfl⟩) (hr.mono (by decide)) (by rfl) (pa_cons (pv 0) (pa_cons (pv 4) (pa_cons (pv 6) (pa_cons (pe_ix (ixT (K := K) (by rfl)) (pe_ix (ixL (K := K) (by rfl)) (pv 2) pe_int (fun _ _ => rfl)) pe_int (fun _ _ => rfl)) (pa_cons (pv 8) pa_nil)))))))
          (pss_one (ps_expr (pe_bm PySem.F.plainAttrs_list PySem.F.slot_list_append PySem.F.type_list_append mt_append (pv 7) (pa_cons (pe_callTy (tupL (K := K) (by rfl)) (by rfl) T.f_tuple (by decide +kernel) (pa_cons (pe_callB (sortD (K := K) (by rfl) (u50 hr)) (by rfl) T.f_sorted (by decide +kernel) (pa_cons (pe_lc (own := [("spot", 11)]) rfl sc.nd (piL (K := K) (by rfl) (pv 9)) (blkOk_by (own := [("spot", 11)]) (N := N_heard_so) (sc := defScope (atTop 44)) (by decide +kernel)) (fun _ _ _ _ _ => (pg_name (i := 11) sc.nd rfl (by first | exact Or.inl rfl | exact Or.inr rfl))) (fun _ _ _ _ _ => (pts_one (pt_cmp (pc_din (hu_of hr) (pv 11) (pv 1))))) (fun _ _ _ _ _ => (pv 11))) pa_nil)) pa_nil)) pa_nil))))))
      (pss_one (ps_ret (pe_callTy (tupL (K := K) (by rfl)) (by rfl) T.f_tuple (by decide +kernel) (pa_cons (pv 7) pa_nil))))))))), fun us M q h => ?_⟩)
  case len => rintro us M q ⟨_, _, _, _, _, _, rfl, _⟩; rfl
  obtain ⟨p, F, i, l, a, g, rfl, hp, hl, hF, hFl, ha, hg, hq⟩ := h
  have hlm := List.mem_of_getElem? hl
  have hl12 := hp.places l hlm
  have hgl := loopGates_len i l
  rw [eFs_pair]
  walk_at "go"
  refine rc_dictF (hkv_nodup hF) (by unfold hkv; rw [List.length_map]; omega) fun hw => ?_
  walk_at "w"
  walk_at "ro"
  walk_at "w"
  refine w_lcm (α := Gate) (wi_list ?_)
  walk_at "w"
  refine ⟨_, _, rfl, .tail _ hg, ?_⟩
  refine ⟨loopGates i l, eGt, fun r => .tup [eGt r, .bl true], rfl, by omega, fun _ _ => .tail _ (.tail _ hg), fun D acc r hr => ?_, fun D => ?_⟩
  · walk_at "w"
    walk_at "ro"
    walk_at "w"
  rw [gkv_pair]
  walk_at "w"
  refine rc_dictL (List.mem_cons_self ..) (gkv_nodup (gates_nodup i l)) (by unfold gkv; rw [List.length_map]; omega) fun ev => ?_
  walk_at "w"
  walk_at "ro"
  walk_at "w"
  refine w_lcp (α := Gate) (wi_list ?_)
  walk_at "w"
  refine ⟨_, _, rfl, .tail _ (.tail _ (.tail _ hg)), ?_⟩
  refine ⟨loopGates i l, eGt, fun r => feelsM F (loopGates i l) i l r.2, fun r => .tup [eGt r, .bl true], rfl, by omega, fun _ _ => .tail _ (.tail _ (.tail _ (.tail _ hg))), fun D2 acc r hr => ?_, fun D2 => ?_⟩
  · obtain ⟨h1, h2, _⟩ := gates_mem hr
    walk_at "w"
    walk_at "ro"
    walk_at "w"
    refine ⟨p, F, loopGates i l, hw, ev, i, l, r.2, by rw [← h1], hp, hl, h2, .tail _ (.tail _ (.tail _ (.head _))), .tail _ (.head _), ?_⟩
    walk_at "w"
    refine ⟨rfl, Sub.refl _, fun _ => ?_⟩
    walk_at "w"
  rw [gkv_pair]
  have hsl : ((loopGates i l).filter fun r => feelsM F (loopGates i l) i l r.2).length ≤ 14 := Nat.le_trans (List.length_filter_le _ _) (by omega)
  walk_at "w"
  refine rc_dictL (List.mem_cons_self ..) (gkv_nodup ((gates_nodup i l).sublist List.filter_sublist)) (by unfold gkv; rw [List.length_map]; omega) fun st => ?_
  walk_at "w"
  walk_at "ro"
  walk_at "w"
  intro f
  walk_at "w"
  walk_at "ro"
  refine ws_forF (α := Bool) [some (ePlan p), some (.ptr a), some (.ptr g), none, some (.ptr hw), none, some (.ptr st), some (.ptr f), none, none, none, none] (fun ups k => (f, .l ((ups.take k).map fun u => .tup (heardP F i l (devL i l) u))) :: (st, .dt (gkv (stopsM F i l))) :: (hw, .dt (hkv F)) :: M) (by walk_at "rle") (wi_tup ?_)
  walk_at "w"
  refine ⟨[true, false], fun u => .str (if u = true then "A" else "B"), rfl, .keep (.keep (.skip (.skip (.skip (.keep (Sub.refl _)))))), fun _ _ _ => trivial, fun k u hu => ?_, fun M' ρ' hs hr => ?_⟩
  · have hk := (List.getElem?_eq_some_iff.mp hu).1
    have hhl := heard_len hp hl F (stopsM F i l) u
    walk_at "w"
    walk_at "ro"
    walk_at "w"
    refine r_ixL (u := eGt (i, 0)) (.tail _ (.tail _ (.tail _ hg))) (atI_nat (j := 0) rfl) ?_
    unfold eGt
    walk_at "w"
    refine ⟨p, F, stopsM F i l, hw, st, i, l, u, rfl, hp, hl, .tail _ (.tail _ (.head _)), .tail _ (.head _), fun sm => ?_⟩
    walk_at "w"
    walk_at "ro"
    walk_at "w"
    walk_at "bm"
    walk_at "w"
    refine w_lcp (α := Spot) (wi_list ?_)
    walk_at "w"
    refine ⟨_, _, rfl, .head _, ?_⟩
    refine ⟨heardM F (stopsM F i l) i l u, eSp, fun s => decide (s ∈ devL i l), eSp, rfl, by omega, fun _ _ => .tail _ (.head _), fun D3 acc r hr => ?_, fun D3 => ?_⟩
    · walk_at "w"
      walk_at "ro"
      walk_at "w"
      refine w_dinT ?_
      walk_at "w"
      refine ⟨kSp r, rfl, ?_⟩
      walk_at "w"
      refine ⟨_, _, rfl, .tail _ (.tail _ (.tail _ (.tail _ (.tail _ ha)))), ?_⟩
      rw [look_skv]
      walk_at "w"
      refine ⟨rfl, Sub.refl _, fun _ => ?_⟩
      walk_at "w"
    · have hfl : ((heardM F (stopsM F i l) i l u).filter fun s => decide (s ∈ devL i l)).length ≤ 60 := Nat.le_trans (List.length_filter_le _ _) hhl
      walk_at "w"
      refine rc_sortD (n := 1) (List.mem_cons_self ..) (plnA_sp _) (by omega) (alike_sp _) (sort_sp _) (by rw [List.length_map]; omega) fun sq => ?_
      walk_at "w"
      refine rc_tupleL (List.mem_cons_self ..) ?_
      walk_at "w"
      refine rm_append (.there (.there (.there .here))) (by simp only [List.length_map, List.length_take, List.length_cons, List.length_nil]; omega) ?_
      walk_at "w"
      refine ⟨.skip (.skip (.skip (Sub.l_eq ?_ (Sub.refl _)))), by walk_at "rle"⟩
      rw [List.take_add_one, hu, List.map_append]
      rfl
  · refine WS.fr hs hr ?_
    walk_at "w"
    refine rc_tupleL (List.mem_cons_self ..) ?_
    walk_at "w"
    exact ⟨M, by walk_at "sub", hq⟩
end Wl
set_option Elab.async false
set_option linter.all false
set_option maxRecDepth 100000
set_option maxHeartbeats 4000000
namespace Wl
open PySem PySem.Spec PyProof.Rows L2
local macro_rules | `(tactic| walk_at "w1") => `(tactic| first
  | with_reducible refine ws_seq ?_
  | with_reducible refine ws_ret ?_
  | with_reducible refine ws_asg ?_
  | with_reducible refine ws_drop ?_
  | with_reducible refine ws_if ?_
  | with_reducible refine ws_next ?_
  | with_reducible refine w_var (by with_unfolding_all rfl) ?_
  | with_reducible refine w_int ?_
  | with_reducible refine w_str ?_
  | with_reducible refine w_bl ?_
  | with_reducible refine w_non ?_
  | with_reducible refine w_ref ?_
  | with_reducible refine w_isi2 ?_
  | with_reducible refine w_op ?_
  | with_reducible refine w_andV ?_
  | with_reducible refine w_notV ?_
  | with_reducible refine w_chain ?_
  | with_reducible refine wa_nil ?_
  | with_reducible refine wa_cons ?_
  | with_reducible refine w_tup ?_
  | with_reducible refine w_lst ?_
  | with_reducible refine w_tupF ?_
  | with_reducible refine w_call ?_
  | ((fail_if_success (with_reducible refine w_allT (α := Unit) ?_)); (fail_if_success (with_reducible refine w_anyB (α := Unit) ?_)); with_reducible refine w_cb ?_)
  | with_reducible refine w_bm ?_
  | with_reducible refine wt_test ?_
  | with_reducible refine wt_B ?_
  | with_reducible refine wt_not ?_
  | with_reducible refine wt_and ?_
  | with_reducible refine wt_or ?_
  | with_reducible refine wt_yes ?_
  | with_reducible refine wg_name ?_ (by with_unfolding_all rfl)
  | with_reducible refine wg_name ?_
  | with_reducible refine wgs_nil ?_
  | with_reducible refine wgs_cons ?_
  | with_reducible refine wg_tup (by with_unfolding_all rfl) ?_
  | with_reducible refine w_un ?_
  | with_reducible refine w_sl ?_
  | with_reducible refine wo_none ?_
  | with_reducible refine wo_some ?_
  | with_reducible refine r_ii ?_
  | with_reducible refine r_ib ?_
  | with_reducible refine r_eqI ?_
  | with_reducible refine r_eqS ?_
  | with_reducible refine r_neI ?_
  | with_reducible refine r_neS ?_
  | with_reducible refine rs_T ?_
  | with_reducible refine rc_lenT ?_
  | with_reducible refine rc_lenTf ?_
  | with_reducible refine rc_min ?_
  | with_reducible refine r_isN ?_
  | with_reducible refine r_noN ?_
  | with_reducible refine ws_break ?_
  | with_reducible refine ws_dput ?_
  | (with_reducible refine r_ixT (by with_unfolding_all rfl) ?_)
  | exact ⟨rfl, Sub.refl _⟩
  | refine ⟨Sub.refl _, ?_⟩
  | refine ⟨Nat.le_of_ble_eq_true (by with_unfolding_all rfl), ?_⟩
  | refine ⟨_, rfl, ?_⟩
  | refine ⟨true, rfl, fun _ => ?_, fun z => Bool.noConfusion z⟩
  | refine ⟨false, rfl, fun z => Bool.noConfusion z, fun _ => ?_⟩
  | refine ⟨false, rfl, fun _ => ?_, fun z => Bool.noConfusion z⟩
  | refine ⟨true, rfl, fun z => Bool.noConfusion z, fun _ => ?_⟩
  | refine ⟨fun _ => ?_, fun z => Bool.noConfusion z⟩
  | refine ⟨fun z => Bool.noConfusion z, fun _ => ?_⟩)
local macro_rules | `(tactic| walk_at "w") => `(tactic| repeat walk_at "w1")
local macro_rules | `(tactic| walk_at "in") => `(tactic| try dsimp only [XD, cxOf, Cx.nox, Cx.wish])
local macro_rules | `(tactic| walk_at "ro") => `(tactic| try simp only [startR, List.map_cons, List.map_nil, List.length_cons, List.length_nil, Nat.reduceAdd, Nat.reduceSub, Nat.zero_add, List.replicate_zero, List.replicate_succ, List.cons_append, List.nil_append, List.append_nil, List.set_cons_zero, List.set_cons_succ])
local macro_rules | `(tactic| walk_at "sub") => `(tactic| repeat (first | exact Sub.refl _ | exact Sub.nil' _ | refine Sub.keep ?_ | refine Sub.skip ?_))
local macro_rules | `(tactic| walk_at "go") => `(tactic| (walk_at "in"; walk_at "ro"; walk_at "w"))
local macro_rules | `(tactic| walk_at "rle") => `(tactic| repeat (first | exact RLe.refl _ | exact RLe.nil | refine RLe.keep ?_ | refine RLe.hole ?_))
local macro_rules | `(tactic| walk_at "mem") => `(tactic| repeat (first | exact List.mem_cons_self .. | refine List.mem_cons_of_mem _ ?_))
local macro_rules | `(tactic| walk_at "put") => `(tactic| repeat (first | exact Put.here | refine Put.there ?_))
local macro_rules | `(tactic| walk_at "bm") => `(tactic| (first | refine ⟨⟨_, _, rfl, rfl, (by walk_at "mem")⟩, ?_⟩ | refine ⟨⟨_, _, rfl, trivial, (by walk_at "mem")⟩, ?_⟩))
local macro_rules | `(tactic| walk_at "end") => `(tactic| (first | exact ⟨Sub.refl _, by walk_at "rle"⟩ | walk_at "rle"))
abbrev N_single_faults : List Str := ["plan", "loop", "found", "stretch", "how"]
theorem sc_single_faults : FnScope N_single_faults ["plan", "loop"] (defScope (atTop 46)) := ⟨rfl, rfl, rfl, by decide +kernel, rfl, by decide +kernel, by decide +kernel⟩
theorem fn_single_faults {P : Program} {w : World} {K : PySem.W.Frag} {mg : Str → Option Value} {base : Heap} (T : Txt K mg) (F_stretches : Fn P w K mg base 1 "stretches" ["plan"] C_stretches) : Fn P w K mg base 2 "single_faults" ["plan", "loop"] C_single_faults := by
  have sc := sc_single_faults
  refine Fn.of T 27 rfl rfl sc (fun _ _ _ _ _ _ us hl => match us, hl with | [_, _], _ => rfl) ?len (fun f cdv A outer s H E hr => ⟨_, (pss_cons (ps_set (i := 2) sc.nd rfl (Or.inl rfl) (pe_lst pa_nil))
      (pss_cons (ps_for PassesOwn.never rfl (piL (K := K) (by rfl) (pFn F_stretches (by exact ⟨rfl, rfl, rfl, rfl, rfl⟩) (hr.mono (by decide)) (by rfl) (pa_cons (pv 0) pa_nil))) (pg_name (i := 3) sc.nd rfl (by first | exact Or.inl rfl | exact Or.inr rfl))
        (pss_one (ps_if (pt_cmpR op_eq (pe_ix (ixT (K := K) (by rfl)) (pv 3) pe_int (fun _ _ => rfl)) (pv 1) (nomark _)) (pss_one (ps_expr (pe_bm PySem.F.plainAttrs_list PySem.F.slot_list_extend PySem.F.type_list_extend mt_extend (pv 2) (pa_cons (pe_lc (own := [("how", 4)]) rfl sc.nd (piT (K := K) (by rfl) (pe_glob (v := .ref (He.ga K "HOWS")) (by rfl) T.g_HOWS rfl)) (blkOk_by (own := [("how", 4)]) (N := N_single_faults) (sc := defScope (atTop 46)) (by decide +kernel)) (fun _ _ _ _ _ => (pg_name (i := 4) sc.nd rfl (by first | exact Or.inl rfl | exact Or.inr rfl))) (fun _ _ _ _ _ => pts_nil) (fun _ _ _ _ _ => (pe_tup (pa_cons (pv 3) (pa_cons (pv 4) pa_nil))))) pa_nil)))) pss_nil)))
      (pss_one (ps_ret (pv 2))))), fun us M q h => ?_⟩)
  case len => rintro us M q ⟨_, _, _, rfl, _⟩; rfl
  obtain ⟨p, i, l, rfl, hp, hl, hq⟩ := h
  have hst := strs_take hp p.loops.length
  rw [show p.loops.zipIdx.take p.loops.length = p.loops.zipIdx from List.take_of_length_le (by simp)] at hst
  have hstl : (stretchesOf p).length ≤ 147 := hst
  walk_at "go"
  intro a
  walk_at "w"
  walk_at "ro"
  refine ws_forG (α := Spot) (wi_list ?_)
  walk_at "w"
  refine ⟨hp, fun st => ?_⟩
  refine ⟨st, _, rfl, List.mem_cons_self .., ?_⟩
  refine ⟨stretchesOf p, eSp, rfl, [some (ePlan p), some (.int (i : Nat)), some (.ptr a), none, none], fun k => (st, .l ((stretchesOf p).map eSp)) :: (a, .l (((((stretchesOf p).take k).filter fun s => decide (s.1 = i)).flatMap fun s => [((s, "cut") : Fl), (s, "short")]).map eFl)) :: M, by walk_at "rle", Sub.refl _, fun k M' hs => hs.mem (List.mem_cons_self ..), fun k s hs => ?_, fun M' ρ' hs hr => ?_⟩
  · have hA : ((((stretchesOf p).take k).filter fun s => decide (s.1 = i)).flatMap fun s => [((s, "cut") : Fl), (s, "short")]).length ≤ 294 := by
      have h2 := flat_bound (xs := ((stretchesOf p).take k).filter fun s => decide (s.1 = i)) (g := fun s => [((s, "cut") : Fl), (s, "short")]) (k := 2) (fun _ _ => by simp)
      have h3 := List.length_filter_le (fun s : Spot => decide (s.1 = i)) ((stretchesOf p).take k)
      rw [List.length_take] at h3
      omega
    dsimp only
    rw [List.take_add_one, hs, List.filter_append, List.flatMap_append]
    revert hA
    generalize ((((stretchesOf p).take k).filter fun s => decide (s.1 = i)).flatMap fun s => [((s, "cut") : Fl), (s, "short")]) = A1
    intro hA
    unfold eSp
    walk_at "w"
    walk_at "ro"
    walk_at "w"
    by_cases hi : s.1 = i
    · rw [show decide (((s.1 : Nat) : Int) = (i : Nat)) = true from decide_eq_true (by omega)]
      walk_at "w"
      walk_at "bm"
      walk_at "w"
      refine w_lcm (α := Str) (wi_kt T.k_HOWS ?_)
      walk_at "w"
      refine ⟨rfl, ["cut", "short"], U.str, fun h => .tup [eSp s, .str h], rfl, by simp, fun _ _ => trivial, fun D acc r hr => ?_, fun D => ?_⟩
      · walk_at "w"
        walk_at "ro"
        walk_at "w"
      · walk_at "w"
        refine rm_extend (.there (.there .here)) (List.mem_cons_self ..) (by simp only [List.length_map, List.length_cons, List.length_nil]; omega) ?_
        walk_at "w"
        refine ⟨.skip (.keep (Sub.l_eq ?_ (Sub.refl _))), by walk_at "rle"⟩
        rw [List.map_append, show List.filter (fun s : Spot => decide (s.1 = i)) (some s).toList = [s] from by simp [hi]]
        rfl
    · rw [show decide (((s.1 : Nat) : Int) = (i : Nat)) = false from decide_eq_false (by omega)]
      walk_at "w"
      rw [show List.filter (fun s : Spot => decide (s.1 = i)) (some s).toList = [] from by simp [hi], List.flatMap_nil, List.append_nil]
      walk_at "end"
  · refine WS.fr hs hr ?_
    walk_at "w"
    dsimp only
    rw [List.take_length, str_loop hl]
    exact ⟨_, .skip (Sub.refl _), hq a⟩
abbrev N_fault_sets : List Str := ["plan", "loop", "most", "singles", "found", "place", "one", "other"]
theorem sc_fault_sets : FnScope N_fault_sets ["plan", "loop", "most"] (defScope (atTop 47)) := ⟨rfl, rfl, rfl, by decide +kernel, rfl, by decide +kernel, by decide +kernel⟩
theorem fn_fault_sets {P : Program} {w : World} {K : PySem.W.Frag} {mg : Str → Option Value} {base : Heap} (T : Txt K mg) (F_single_faults : Fn P w K mg base 2 "single_faults" ["plan", "loop"] C_single_faults) : Fn P w K mg base 3 "fault_sets" ["plan", "loop", "most"] C_fault_sets := by
  have sc := sc_fault_sets
  refine Fn.of T 28 rfl rfl sc (fun _ _ _ _ _ _ us hl => match us, hl with | [_, _, _], _ => rfl) ?len (fun f cdv A outer s H E hr => ⟨_, (pss_cons (ps_set (i := 3) sc.nd rfl (Or.inl rfl) (pFn F_single_faults (by exact ⟨rfl, rfl, rfl, rfl, rfl⟩) (hr.mono (by decide)) (by rfl) (pa_cons (pv 0) (pa_cons (pv 1) pa_nil))))
      (pss_cons (ps_set (i := 4) sc.nd rfl (Or.inl rfl) (pe_lst (pa_cons (pe_tupF pa_nil) pa_nil)))
      (pss_cons (ps_if (pt_cmpR op_gt (pv 2) pe_int (nomark _)) (pss_one (ps_expr (pe_bm PySem.F.plainAttrs_list PySem.F.slot_list_extend PySem.F.type_list_extend mt_extend (pv 4) (pa_cons (pe_lc (own := [("one", 6)]) rfl sc.nd (piL (K := K) (by rfl) (pv 3)) (blkOk_by (own := [("one", 6)]) (N := N_fault_sets) (sc := defScope (atTop 47)) (by decide +kernel)) (fun _ _ _ _ _ => (pg_name (i := 6) sc.nd rfl (by first | exact Or.inl rfl | exact Or.inr rfl))) (fun _ _ _ _ _ => pts_nil) (fun _ _ _ _ _ => (pe_tupF (pa_cons (pv 6) pa_nil)))) pa_nil)))) pss_nil)
      (pss_cons (ps_if (pt_cmpR op_gt (pv 2) pe_int (nomark _)) (pss_one (ps_for PassesOwn.never rfl (piE (K := K) (by rfl) (by rfl) T.f_enumerate (pa_cons (pv 3) pa_nil)) (pgT (K := K) (n := 2) (by rfl) rfl (pgs_cons (pg_name (i := 5) sc.nd rfl (by first | exact Or.inl rfl | exact Or.inr rfl)) (pgs_cons (pg_name (i := 6) sc.nd rfl (by first | exact Or.inl rfl | exact Or.inr rfl)) pgs_nil)))
            (pss_one (ps_expr (pe_bm PySem.F.plainAttrs_list PySem.F.slot_list_extend PySem.F.type_list_extend mt_extend (pv 4) (pa_cons (pe_lc (own := [("other", 7)]) rfl sc.nd (piL (K := K) (by rfl) (pe_slice (slL (K := K) (by rfl)) (pv 3) (po_some (pe_op op_add (pv 5) pe_int)) po_none)) (blkOk_by (own := [("other", 7)]) (N := N_fault_sets) (sc := defScope (atTop 47)) (by decide +kernel)) (fun _ _ _ _ _ => (pg_name (i := 7) sc.nd rfl (by first | exact Or.inl rfl | exact Or.inr rfl))) (fun _ _ _ _ _ => (pts_one (pt_cmpR (neD (K := K) (by rfl) hr.units) (pe_ix (ixT (K := K) (by rfl)) (pv 7) pe_int (fun _ _ => rfl)) (pe_ix (ixT (K := K) (by rfl)) (pv 6) pe_int (fun _ _ => rfl)) (nomark _)))) (fun _ _ _ _ _ => (pe_tupF (pa_cons (pv 6) (pa_cons (pv 7) pa_nil))))) pa_nil)))))) pss_nil)
      (pss_one (ps_ret (pv 4))))))), fun us M q h => ?_⟩)
  case len => rintro us M q ⟨_, _, _, _, rfl, _⟩; rfl
  obtain ⟨p, i, l, m, rfl, hp, hl, hq⟩ := h
  have hlm := List.mem_of_getElem? hl
  have hSl := singles_len hp hlm i
  walk_at "go"
  refine ⟨p, i, l, rfl, hp, hl, fun s => ?_⟩
  unfold setsOf at hq
  revert hq hSl
  generalize singlesOf i l = S
  intro hq hSl
  walk_at "w"
  walk_at "ro"
  walk_at "w"
  intro f
  refine wg_name ?_ (by with_unfolding_all rfl)
  walk_at "ro"
  refine ws_seq ?_
  refine ws_cutS ((f, .l (([[]] ++ (if 0 < m then S.map fun s => [s] else [])).map eFs)) :: (s, .l (S.map eFl)) :: M) [some (ePlan p), some (.int (i : Nat)), some (.int m), some (.ptr s), some (.ptr f), none, none, none] ?_ fun M' ρ' hs hr => WS.fr hs hr ?_
  · walk_at "w"
    by_cases h0 : 0 < m
    · rw [decide_eq_true h0, if_pos h0]
      walk_at "w"
      walk_at "bm"
      walk_at "w"
      refine w_lcm (α := Fl) (wi_list ?_)
      walk_at "w"
      refine ⟨_, _, rfl, .tail _ (.head _), ?_⟩
      refine ⟨S, eFl, fun o => eFs [o], rfl, by omega, fun _ _ => .tail _ (.tail _ (.head _)), fun D acc r hr => ?_, fun D => ?_⟩
      · walk_at "w"
        walk_at "ro"
        walk_at "w"
      · walk_at "w"
        refine rm_extend (.there .here) (List.mem_cons_self ..) (by simp only [List.length_map, List.length_cons, List.length_nil]; omega) ?_
        walk_at "w"
        refine ⟨.skip (Sub.l_eq ?_ (Sub.refl _)), by walk_at "rle"⟩
        rw [List.map_append, List.map_map]
        rfl
    · rw [decide_eq_false h0, if_neg h0]
      walk_at "w"
      first | exact ⟨Sub.l_eq rfl (Sub.refl _), by walk_at "rle"⟩ | walk_at "rle"
  · have hB : ([[]] ++ (if 0 < m then S.map (fun s => [s]) else [])).length ≤ 99 := by
      split
      · simp only [List.length_append, List.length_map, List.length_cons, List.length_nil]
        omega
      · simp
    revert hq hB
    generalize ([[]] ++ (if 0 < m then S.map (fun s => [s]) else [])) = B
    intro hq hB
    refine ws_seq ?_
    refine ws_cutS ((f, .l ((B ++ (if 1 < m then S.zipIdx.flatMap (fun x => ((S.drop (x.2 + 1)).filter fun o => !decide (o.1 = x.1.1)).map fun o => [x.1, o]) else [])).map eFs)) :: M) [none, none, none, none, some (.ptr f), none, none, none] ?_ fun M' ρ' hs hr => WS.fr hs hr ?_
    · walk_at "w"
      by_cases h1 : 1 < m
      · rw [decide_eq_true h1, if_pos h1]
        walk_at "w"
        refine ws_forG (α := Fl × Nat) (wi_enum ?_)
        walk_at "w"
        refine ⟨_, _, rfl, .tail _ (.head _), ?_⟩
        refine ⟨S.zipIdx, _, pairs_map _ _, [some (ePlan p), some (.int (i : Nat)), some (.int m), some (.ptr s), some (.ptr f), none, none, none], fun k => (f, .l ((B ++ (S.zipIdx.take k).flatMap (fun x => ((S.drop (x.2 + 1)).filter fun o => !decide (o.1 = x.1.1)).map fun o => [x.1, o])).map eFs)) :: (s, .l (S.map eFl)) :: M, by walk_at "rle", by dsimp only; rw [List.take_zero, List.flatMap_nil, List.append_nil]; exact Sub.refl _, fun i M' hs => hs.mem (.tail _ (.head _)), fun k x hx => ?_, fun M' ρ' hs hr => ?_⟩
        · have hk := (List.getElem?_eq_some_iff.mp hx).1
          rw [List.length_zipIdx] at hk
          dsimp only
          rw [flat_next hx]
          have hA : ((S.zipIdx.take k).flatMap (fun x => ((S.drop (x.2 + 1)).filter fun o => !decide (o.1 = x.1.1)).map fun o => [x.1, o])).length ≤ 98 * 98 := by
            have := take_flat (xs := S.zipIdx) (g := fun x => ((S.drop (x.2 + 1)).filter fun o => !decide (o.1 = x.1.1)).map fun o => [x.1, o]) (k := 98) (fun x _ => by
              rw [List.length_map]
              refine Nat.le_trans (List.length_filter_le _ _) ?_
              rw [List.length_drop]
              omega) k
            rw [List.length_zipIdx] at this
            exact Nat.le_trans this (Nat.mul_le_mul_right _ hSl)
          revert hA
          generalize (S.zipIdx.take k).flatMap (fun x => ((S.drop (x.2 + 1)).filter fun o => !decide (o.1 = x.1.1)).map fun o => [x.1, o]) = A1
          intro hA
          have hfl : ((S.drop (x.2 + 1)).filter fun o => !decide (o.1 = x.1.1)).length ≤ 98 := by
            refine Nat.le_trans (List.length_filter_le _ _) ?_
            rw [List.length_drop]
            omega
          walk_at "w"
          walk_at "ro"
          walk_at "w"
          walk_at "bm"
          walk_at "w"
          refine w_lcp (α := Fl) (wi_list ?_)
          walk_at "w"
          refine rs_L (.tail _ (.head _)) fun sl => ?_
          refine ⟨_, _, rfl, .head _, ?_⟩
          rw [show ((x.2 : Nat) : Int) + 1 = ((x.2 + 1 : Nat) : Int) from rfl, cut_drop, ← List.map_drop]
          refine ⟨S.drop (x.2 + 1), eFl, fun o => !decide (o.1 = x.1.1), fun o => eFs [x.1, o], rfl, by rw [List.length_drop]; omega, fun _ _ => .tail _ (.head _), fun D acc r hr => ?_, fun D => ?_⟩
          · unfold eFl
            walk_at "w"
            walk_at "ro"
            walk_at "w"
            refine r_neD (n := 1) (m := 1) (b := decide (r.1 = x.1.1)) rfl rfl (by omega) (by omega) (decide_eq_true_iff.trans toPy_sp.symm) ?_
            walk_at "w"
            refine ⟨rfl, Sub.refl _, fun _ => ?_⟩
            walk_at "w"
          · walk_at "w"
            refine rm_extend (.there (.there .here)) (List.mem_cons_self ..) (by simp only [List.length_map, List.length_append]; omega) ?_
            walk_at "w"
            refine ⟨.skip (.skip (Sub.l_eq ?_ (Sub.refl _))), by walk_at "rle"⟩
            rw [← List.append_assoc, List.map_append (l₁ := B ++ A1), List.map_map]
            rfl
        · dsimp only at hs
          rw [List.take_length] at hs
          exact ⟨Sub.trans (.keep (.skip (Sub.refl _))) hs, RLe.trans (by walk_at "rle") hr⟩
      · rw [decide_eq_false h1, if_neg h1, List.append_nil]
        walk_at "w"
        exact ⟨.keep (.skip (Sub.refl _)), by walk_at "rle"⟩
    · walk_at "w"
      exact ⟨_, Sub.refl _, hq f⟩
end Wl
set_option Elab.async false
set_option linter.all false
set_option maxRecDepth 100000
set_option maxHeartbeats 4000000
namespace Wl
open PySem PySem.Spec PyProof.Rows L2
local macro_rules | `(tactic| walk_at "w1") => `(tactic| first
  | with_reducible refine ws_seq ?_
  | with_reducible refine ws_ret ?_
  | with_reducible refine ws_asg ?_
  | with_reducible refine ws_drop ?_
  | with_reducible refine ws_if ?_
  | with_reducible refine ws_next ?_
  | with_reducible refine w_var (by with_unfolding_all rfl) ?_
  | with_reducible refine w_int ?_
  | with_reducible refine w_str ?_
  | with_reducible refine w_bl ?_
  | with_reducible refine w_non ?_
  | with_reducible refine w_ref ?_
  | with_reducible refine w_isi2 ?_
  | with_reducible refine w_op ?_
  | with_reducible refine w_andV ?_
  | with_reducible refine w_notV ?_
  | with_reducible refine w_chain ?_
  | with_reducible refine wa_nil ?_
  | with_reducible refine wa_cons ?_
  | with_reducible refine w_tup ?_
  | with_reducible refine w_lst ?_
  | with_reducible refine w_tupF ?_
  | with_reducible refine w_call ?_
  | ((fail_if_success (with_reducible refine w_allT (α := Unit) ?_)); (fail_if_success (with_reducible refine w_anyB (α := Unit) ?_)); with_reducible refine w_cb ?_)
  | with_reducible refine w_bm ?_
  | with_reducible refine wt_test ?_
  | with_reducible refine wt_B ?_
  | with_reducible refine wt_not ?_
  | with_reducible refine wt_and ?_
  | with_reducible refine wt_or ?_
  | with_reducible refine wt_yes ?_
  | with_reducible refine wg_name ?_ (by with_unfolding_all rfl)
  | with_reducible refine wg_name ?_
  | with_reducible refine wgs_nil ?_
  | with_reducible refine wgs_cons ?_
  | with_reducible refine wg_tup (by with_unfolding_all rfl) ?_
  | with_reducible refine w_un ?_
  | with_reducible refine w_sl ?_
  | with_reducible refine wo_none ?_
  | with_reducible refine wo_some ?_
  | with_reducible refine r_ii ?_
  | with_reducible refine r_ib ?_
  | with_reducible refine r_eqI ?_
  | with_reducible refine r_eqS ?_
  | with_reducible refine r_neI ?_
  | with_reducible refine r_neS ?_
  | with_reducible refine rs_T ?_
  | with_reducible refine rc_lenT ?_
  | with_reducible refine rc_lenTf ?_
  | with_reducible refine rc_min ?_
  | with_reducible refine r_isN ?_
  | with_reducible refine r_noN ?_
  | with_reducible refine ws_break ?_
  | with_reducible refine ws_dput ?_
  | (with_reducible refine r_ixT (by with_unfolding_all rfl) ?_)
  | exact ⟨rfl, Sub.refl _⟩
  | refine ⟨Sub.refl _, ?_⟩
  | refine ⟨Nat.le_of_ble_eq_true (by with_unfolding_all rfl), ?_⟩
  | refine ⟨_, rfl, ?_⟩
  | refine ⟨true, rfl, fun _ => ?_, fun z => Bool.noConfusion z⟩
  | refine ⟨false, rfl, fun z => Bool.noConfusion z, fun _ => ?_⟩
  | refine ⟨false, rfl, fun _ => ?_, fun z => Bool.noConfusion z⟩
  | refine ⟨true, rfl, fun z => Bool.noConfusion z, fun _ => ?_⟩
  | refine ⟨fun _ => ?_, fun z => Bool.noConfusion z⟩
  | refine ⟨fun z => Bool.noConfusion z, fun _ => ?_⟩)
local macro_rules | `(tactic| walk_at "w") => `(tactic| repeat walk_at "w1")
local macro_rules | `(tactic| walk_at "in") => `(tactic| try dsimp only [XD, cxOf, Cx.nox, Cx.wish])
local macro_rules | `(tactic| walk_at "ro") => `(tactic| try simp only [startR, List.map_cons, List.map_nil, List.length_cons, List.length_nil, Nat.reduceAdd, Nat.reduceSub, Nat.zero_add, List.replicate_zero, List.replicate_succ, List.cons_append, List.nil_append, List.append_nil, List.set_cons_zero, List.set_cons_succ])
local macro_rules | `(tactic| walk_at "sub") => `(tactic| repeat (first | exact Sub.refl _ | exact Sub.nil' _ | refine Sub.keep ?_ | refine Sub.skip ?_))
local macro_rules | `(tactic| walk_at "go") => `(tactic| (walk_at "in"; walk_at "ro"; walk_at "w"))
local macro_rules | `(tactic| walk_at "rle") => `(tactic| repeat (first | exact RLe.refl _ | exact RLe.nil | refine RLe.keep ?_ | refine RLe.hole ?_))
local macro_rules | `(tactic| walk_at "mem") => `(tactic| repeat (first | exact List.mem_cons_self .. | refine List.mem_cons_of_mem _ ?_))
local macro_rules | `(tactic| walk_at "put") => `(tactic| repeat (first | exact Put.here | refine Put.there ?_))
local macro_rules | `(tactic| walk_at "bm") => `(tactic| (first | refine ⟨⟨_, _, rfl, rfl, (by walk_at "mem")⟩, ?_⟩ | refine ⟨⟨_, _, rfl, trivial, (by walk_at "mem")⟩, ?_⟩))
local macro_rules | `(tactic| walk_at "end") => `(tactic| (first | exact ⟨Sub.refl _, by walk_at "rle"⟩ | walk_at "rle"))
abbrev N_agreeing : List Str := ["plan", "loop", "from_a", "from_b", "most", "due", "spots", "gates", "faults"]
theorem sc_agreeing : FnScope N_agreeing ["plan", "loop", "from_a", "from_b", "most"] (defScope (atTop 48)) := ⟨rfl, rfl, rfl, by decide +kernel, rfl, by decide +kernel, by decide +kernel⟩
theorem fn_agreeing {P : Program} {w : World} {K : PySem.W.Frag} {mg : Str → Option Value} {base : Heap} (T : Txt K mg) (F_need_plan : Fn P w K mg base 7 "need_plan" ["plan"] C_need_plan) (F_heard_so : Fn P w K mg base 4 "heard_so" ["plan", "spots", "gates", "faults"] C_heard_so) (F_of_loop : Fn P w K mg base 2 "of_loop" ["plan", "loop"] C_of_loop) (F_fault_sets : Fn P w K mg base 3 "fault_sets" ["plan", "loop", "most"] C_fault_sets) : Fn P w K mg base 8 "agreeing" ["plan", "loop", "from_a", "from_b", "most"] C_agreeing := by
  have sc := sc_agreeing
  refine Fn.of T 29 rfl rfl sc (fun _ _ _ _ _ _ us hl => match us, hl with | [_, _, _, _, _], _ => rfl) ?len (fun f cdv A outer s H E hr => ⟨_, (pss_cons (ps_expr (pFn F_need_plan (by exact ⟨rfl, rfl, rfl, rfl, rfl⟩) (hr.mono (by decide)) (by rfl) (pa_cons (pv 0) pa_nil)))
      (pss_cons (ps_asg (pFn F_of_loop (by exact ⟨rfl, rfl, rfl, rfl, rfl⟩) (hr.mono (by decide)) (by rfl) (pa_cons (pv 0) (pa_cons (pv 1) pa_nil))) (pgT (K := K) (n := 2) (by rfl) rfl (pgs_cons (pg_name (i := 6) sc.nd rfl (by first | exact Or.inl rfl | exact Or.inr rfl)) (pgs_cons (pg_name (i := 7) sc.nd rfl (by first | exact Or.inl rfl | exact Or.inr rfl)) pgs_nil))))
      (pss_cons (ps_set (i := 5) sc.nd rfl (Or.inr rfl) (pe_tup (pa_cons (pv 2) (pa_cons (pv 3) pa_nil))))
      (pss_one (ps_ret (pe_lc (own := [("faults", 8)]) rfl sc.nd (piL (K := K) (by rfl) (pFn F_fault_sets (by exact ⟨rfl, rfl, rfl, rfl, rfl⟩) (hr.mono (by decide)) (by rfl) (pa_cons (pv 0) (pa_cons (pv 1) (pa_cons (pv 4) pa_nil))))) (blkOk_by (own := [("faults", 8)]) (N := N_agreeing) (sc := defScope (atTop 48)) (by decide +kernel)) (fun _ _ _ _ _ => (pg_name (i := 8) sc.nd rfl (by first | exact Or.inl rfl | exact Or.inr rfl))) (fun _ _ _ _ _ => (pts_one (pt_cmpR (eqD (K := K) (by rfl) hr.units) (pFn F_heard_so (by exact ⟨rfl, rfl, rfl, rfl, rfl⟩) (hr.mono (by decide)) (by rfl) (pa_cons (pv 0) (pa_cons (pv 6) (pa_cons (pv 7) (pa_cons (pv 8) pa_nil))))) (pv 5) (nomark _)))) (fun _ _ _ _ _ => (pv 8)))))))), fun us M q h => ?_⟩)
  case len => rintro us M q ⟨_, _, _, _, _, _, _, rfl, _⟩; rfl
  obtain ⟨p, i, l, fa, fb, m, n, rfl, hp, hl, hpl, hn, hq⟩ := h
  have hlm := List.mem_of_getElem? hl
  have hSl := singles_len hp.shp hlm i
  have hsl := sets_len m hSl
  walk_at "go"
  refine ⟨hp, ?_⟩
  walk_at "w"
  refine ⟨p, i, l, rfl, hp.shp, hl, fun a g => ?_⟩
  walk_at "w"
  walk_at "ro"
  walk_at "w"
  walk_at "ro"
  walk_at "w"
  refine w_lcp (α := List Fl) (wi_list ?_)
  walk_at "w"
  refine ⟨p, i, l, m, rfl, hp.shp, hl, fun fs => ?_⟩
  refine ⟨fs, _, rfl, List.mem_cons_self .., ?_⟩
  refine ⟨setsOf (singlesOf i l) m, eFs, agB i l fa fb, eFs, rfl, by omega, fun _ _ => .tail _ (.head _), fun D acc F hF => ?_, fun D => ?_⟩
  · obtain ⟨hF1, hF2⟩ := sets_ok hF
    walk_at "w"
    walk_at "ro"
    walk_at "w"
    refine ⟨p, F, i, l, a, g, rfl, hp.shp, hl, hF1, by omega, .tail _ (.tail _ (.tail _ (.head _))), .tail _ (.tail _ (.head _)), ?_⟩
    walk_at "w"
    refine r_eqD (n := 3) (m := n) (b := agB i l fa fb F) (heardU_pln _ _ _ _) hpl (by omega) hn (by unfold agB; exact @decide_eq_true_iff _ (Classical.propDecidable _)) ?_
    walk_at "w"
    refine ⟨rfl, Sub.refl _, fun _ => ?_⟩
    walk_at "w"
  · walk_at "w"
    exact ⟨_, .keep (.skip (.skip (.skip (Sub.refl _)))), hq D⟩
end Wl
set_option Elab.async false
set_option linter.all false
set_option maxRecDepth 100000
set_option maxHeartbeats 4000000
namespace Wl
open PySem PySem.Spec PyProof.Rows L2
local macro_rules | `(tactic| walk_at "w1") => `(tactic| first
  | with_reducible refine ws_seq ?_
  | with_reducible refine ws_ret ?_
  | with_reducible refine ws_asg ?_
  | with_reducible refine ws_drop ?_
  | with_reducible refine ws_if ?_
  | with_reducible refine ws_next ?_
  | with_reducible refine w_var (by with_unfolding_all rfl) ?_
  | with_reducible refine w_int ?_
  | with_reducible refine w_str ?_
  | with_reducible refine w_bl ?_
  | with_reducible refine w_non ?_
  | with_reducible refine w_ref ?_
  | with_reducible refine w_isi2 ?_
  | with_reducible refine w_op ?_
  | with_reducible refine w_andV ?_
  | with_reducible refine w_notV ?_
  | with_reducible refine w_chain ?_
  | with_reducible refine wa_nil ?_
  | with_reducible refine wa_cons ?_
  | with_reducible refine w_tup ?_
  | with_reducible refine w_lst ?_
  | with_reducible refine w_tupF ?_
  | with_reducible refine w_call ?_
  | ((fail_if_success (with_reducible refine w_allT (α := Unit) ?_)); (fail_if_success (with_reducible refine w_anyB (α := Unit) ?_)); with_reducible refine w_cb ?_)
  | with_reducible refine w_bm ?_
  | with_reducible refine wt_test ?_
  | with_reducible refine wt_B ?_
  | with_reducible refine wt_not ?_
  | with_reducible refine wt_and ?_
  | with_reducible refine wt_or ?_
  | with_reducible refine wt_yes ?_
  | with_reducible refine wg_name ?_ (by with_unfolding_all rfl)
  | with_reducible refine wg_name ?_
  | with_reducible refine wgs_nil ?_
  | with_reducible refine wgs_cons ?_
  | with_reducible refine wg_tup (by with_unfolding_all rfl) ?_
  | with_reducible refine w_un ?_
  | with_reducible refine w_sl ?_
  | with_reducible refine wo_none ?_
  | with_reducible refine wo_some ?_
  | with_reducible refine r_ii ?_
  | with_reducible refine r_ib ?_
  | with_reducible refine r_eqI ?_
  | with_reducible refine r_eqS ?_
  | with_reducible refine r_neI ?_
  | with_reducible refine r_neS ?_
  | with_reducible refine rs_T ?_
  | with_reducible refine rc_lenT ?_
  | with_reducible refine rc_lenTf ?_
  | with_reducible refine rc_min ?_
  | with_reducible refine r_isN ?_
  | with_reducible refine r_noN ?_
  | with_reducible refine ws_break ?_
  | with_reducible refine ws_dput ?_
  | (with_reducible refine r_ixT (by with_unfolding_all rfl) ?_)
  | exact ⟨rfl, Sub.refl _⟩
  | refine ⟨Sub.refl _, ?_⟩
  | refine ⟨Nat.le_of_ble_eq_true (by with_unfolding_all rfl), ?_⟩
  | refine ⟨_, rfl, ?_⟩
  | refine ⟨true, rfl, fun _ => ?_, fun z => Bool.noConfusion z⟩
  | refine ⟨false, rfl, fun z => Bool.noConfusion z, fun _ => ?_⟩
  | refine ⟨false, rfl, fun _ => ?_, fun z => Bool.noConfusion z⟩
  | refine ⟨true, rfl, fun z => Bool.noConfusion z, fun _ => ?_⟩
  | refine ⟨fun _ => ?_, fun z => Bool.noConfusion z⟩
  | refine ⟨fun z => Bool.noConfusion z, fun _ => ?_⟩)
local macro_rules | `(tactic| walk_at "w") => `(tactic| repeat walk_at "w1")
local macro_rules | `(tactic| walk_at "in") => `(tactic| try dsimp only [XD, cxOf, Cx.nox, Cx.wish])
local macro_rules | `(tactic| walk_at "ro") => `(tactic| try simp only [startR, List.map_cons, List.map_nil, List.length_cons, List.length_nil, Nat.reduceAdd, Nat.reduceSub, Nat.zero_add, List.replicate_zero, List.replicate_succ, List.cons_append, List.nil_append, List.append_nil, List.set_cons_zero, List.set_cons_succ])
local macro_rules | `(tactic| walk_at "sub") => `(tactic| repeat (first | exact Sub.refl _ | exact Sub.nil' _ | refine Sub.keep ?_ | refine Sub.skip ?_))
local macro_rules | `(tactic| walk_at "go") => `(tactic| (walk_at "in"; walk_at "ro"; walk_at "w"))
local macro_rules | `(tactic| walk_at "rle") => `(tactic| repeat (first | exact RLe.refl _ | exact RLe.nil | refine RLe.keep ?_ | refine RLe.hole ?_))
local macro_rules | `(tactic| walk_at "mem") => `(tactic| repeat (first | exact List.mem_cons_self .. | refine List.mem_cons_of_mem _ ?_))
local macro_rules | `(tactic| walk_at "put") => `(tactic| repeat (first | exact Put.here | refine Put.there ?_))
local macro_rules | `(tactic| walk_at "bm") => `(tactic| (first | refine ⟨⟨_, _, rfl, rfl, (by walk_at "mem")⟩, ?_⟩ | refine ⟨⟨_, _, rfl, trivial, (by walk_at "mem")⟩, ?_⟩))
local macro_rules | `(tactic| walk_at "end") => `(tactic| (first | exact ⟨Sub.refl _, by walk_at "rle"⟩ | walk_at "rle"))
abbrev N__law_gates : List Str := ["_law_plan_here", "_law_found", "_law_loop_here", "_law_places", "_law_at"]
theorem sc__law_gates : FnScope N__law_gates ["_law_plan_here"] (defScope (atTop 58)) := ⟨rfl, rfl, rfl, by decide +kernel, rfl, by decide +kernel, by decide +kernel⟩
theorem fn_law_gates {P : Program} {w : World} {K : PySem.W.Frag} {mg : Str → Option Value} {base : Heap} (T : Txt K mg) : Fn P w K mg base 1 "_law_gates" ["_law_plan_here"] C_law_gates := by
  have sc := sc__law_gates
  refine Fn.of T 38 rfl rfl sc (fun _ _ _ _ _ _ us hl => match us, hl with | [_], _ => rfl) ?len (fun f cdv A outer s H E hr => ⟨_, (pss_cons (ps_set (i := 1) sc.nd rfl (Or.inl rfl) (pe_lst pa_nil))
      (pss_cons (ps_for PassesOwn.never rfl (pi_range1 (by rfl) T.f_range (pa_cons (pe_callB (lenK (K := K) (by rfl)) (by rfl) T.f_len (by decide +kernel) (pa_cons (pe_ix (ixT (K := K) (by rfl)) (pv 0) pe_int (fun _ _ => rfl)) pa_nil)) pa_nil)) (pg_name (i := 2) sc.nd rfl (by first | exact Or.inl rfl | exact Or.inr rfl))
        (pss_cons (ps_set (i := 3) sc.nd rfl (Or.inr rfl) (pe_ix (ixT (K := K) (by rfl)) (pe_ix (ixT (K := K) (by rfl)) (pv 0) pe_int (fun _ _ => rfl)) (pv 2) (fun _ _ => rfl)))
          (pss_cons (ps_expr (pe_bm PySem.F.plainAttrs_list PySem.F.slot_list_append PySem.F.type_list_append mt_append (pv 1) (pa_cons (pe_tup (pa_cons (pv 2) (pa_cons pe_int pa_nil))) pa_nil)))
          (pss_cons (ps_expr (pe_bm PySem.F.plainAttrs_list PySem.F.slot_list_extend PySem.F.type_list_extend mt_extend (pv 1) (pa_cons (pe_lc (own := [("_law_at", 4)]) rfl sc.nd (pi_range1 (by rfl) T.f_range (pa_cons (pe_callB (lenK (K := K) (by rfl)) (by rfl) T.f_len (by decide +kernel) (pa_cons (pv 3) pa_nil)) pa_nil)) (blkOk_by (own := [("_law_at", 4)]) (N := N__law_gates) (sc := defScope (atTop 58)) (by decide +kernel)) (fun _ _ _ _ _ => (pg_name (i := 4) sc.nd rfl (by first | exact Or.inl rfl | exact Or.inr rfl))) (fun _ _ _ _ _ => (pts_one (pt_cmpR op_eq (pe_ix (ixT (K := K) (by rfl)) (pe_ix (ixT (K := K) (by rfl)) (pv 3) (pv 4) (fun _ _ => rfl)) pe_int (fun _ _ => rfl)) pe_str (nomark _)))) (fun _ _ _ _ _ => (pe_tup (pa_cons (pv 2) (pa_cons (pe_op op_add (pv 4) pe_int) pa_nil))))) pa_nil)))
          (pss_one (ps_expr (pe_bm PySem.F.plainAttrs_list PySem.F.slot_list_append PySem.F.type_list_append mt_append (pv 1) (pa_cons (pe_tup (pa_cons (pv 2) (pa_cons (pe_op op_add (pe_callB (lenK (K := K) (by rfl)) (by rfl) T.f_len (by decide +kernel) (pa_cons (pv 3) pa_nil)) pe_int) pa_nil))) pa_nil))))))))
      (pss_one (ps_ret (pv 1))))), fun us M q h => ?_⟩)
  case len => rintro us M q ⟨_, rfl, _⟩; rfl
  obtain ⟨p, rfl, hp, hq⟩ := h
  have h3 := hp.loops
  unfold ePlan
  walk_at "go"
  intro a
  walk_at "w"
  walk_at "ro"
  refine ws_forF (α := Nat) [some (ePlan p), some (.ptr a), none, none, none] (fun _ i => (a, .l (((p.loops.zipIdx.take i).flatMap fun x => loopGates x.2 x.1).map eGt)) :: M) (by walk_at "rle") (wi_rng1 ?_)
  walk_at "w"
  rw [List.length_map]
  refine ⟨by omega, by omega, ?_⟩
  refine ⟨List.range p.loops.length, fun w => .int (w : Nat), range_u _, Sub.refl _, fun _ _ _ => trivial, fun k i hi => ?_, fun M' ρ' hs hr => ?_⟩
  · obtain ⟨rfl, hk⟩ := range_at hi
    have hl : p.loops[i]? = some p.loops[i] := List.getElem?_eq_getElem hk
    revert hl
    generalize p.loops[i] = l
    intro hl
    have hlm := List.mem_of_getElem? hl
    have hl12 := hp.places l hlm
    dsimp only
    rw [flat_next (zip_get hl)]
    have b1 := gates_take hp i
    revert b1
    generalize ((p.loops.zipIdx.take i).flatMap fun x => loopGates x.2 x.1) = A1
    intro b1
    unfold ePlan
    walk_at "w"
    walk_at "ro"
    walk_at "w"
    refine r_ixT (u := eLoop l) (atI_nat (by rw [List.getElem?_map, hl]; rfl)) ?_
    unfold eLoop
    walk_at "w"
    walk_at "ro"
    walk_at "w"
    walk_at "bm"
    walk_at "w"
    refine rm_append put1 (by rw [List.length_map]; omega) ?_
    walk_at "w"
    walk_at "bm"
    walk_at "w"
    refine w_lcp (α := Pl × Nat) (wi_rng1 ?_)
    walk_at "w"
    rw [List.length_map]
    refine ⟨by omega, by omega, ?_⟩
    refine ⟨l.zipIdx, _, fun x => x.1.isOp, fun x => eGt (i, x.2 + 1), upTo_zip _, by rw [List.length_zipIdx]; omega, fun _ _ => trivial, fun D acc x hx => ?_, fun D => ?_⟩
    · have hs := hp.pl l hlm _ (zip_mem1 hx)
      have hg := (zip_mem hx).2.2
      obtain ⟨x, j⟩ := x
      walk_at "w"
      walk_at "ro"
      walk_at "w"
      refine r_ixT (u := ePl x) (atI_nat (by rw [List.getElem?_map, hg]; rfl)) ?_
      cases x with
      | op =>
        simp only [ePl]
        walk_at "w"
        refine ⟨rfl, Sub.refl _, fun _ => ?_⟩
        walk_at "w"
      | dev d sp =>
        simp only [ePl]
        walk_at "w"
        rw [show decide (d.kind = "opener") = false from decide_eq_false hs.1]
        exact ⟨rfl, Sub.refl _, fun z => by cases z⟩
    · walk_at "w"
      have hf := List.length_filter_le (fun x : Pl × Nat => x.1.isOp) l.zipIdx
      rw [List.length_zipIdx] at hf
      refine rm_extend (.there .here) (List.mem_cons_self ..) (by simp only [List.length_map, List.length_append, List.length_cons, List.length_nil]; omega) ?_
      walk_at "w"
      walk_at "bm"
      walk_at "w"
      refine rm_append (.there .here) (by simp only [List.length_map, List.length_append, List.length_cons, List.length_nil]; omega) ?_
      walk_at "w"
      refine ⟨.skip (Sub.l_eq ?_ (Sub.refl _)), by walk_at "rle"⟩
      unfold loopGates
      simp only [List.map_append, List.map_cons, List.append_assoc, List.cons_append, List.nil_append, List.map_map, List.map_nil, List.length_map]
      rfl
  · rw [List.length_range, show p.loops.zipIdx.take p.loops.length = p.loops.zipIdx from List.take_of_length_le (by simp)] at hs
    refine WS.fr hs hr ?_
    walk_at "w"
    exact ⟨_, Sub.refl _, hq a⟩
abbrev N__law_spots : List Str := ["_law_plan_here", "_law_found", "_law_loop_here", "_law_at", "_law_kind", "_law_address", "_law_spur", "_law_way"]
theorem sc__law_spots : FnScope N__law_spots ["_law_plan_here"] (defScope (atTop 62)) := ⟨rfl, rfl, rfl, by decide +kernel, rfl, by decide +kernel, by decide +kernel⟩
theorem fn_law_spots {P : Program} {w : World} {K : PySem.W.Frag} {mg : Str → Option Value} {base : Heap} (T : Txt K mg) : Fn P w K mg base 1 "_law_spots" ["_law_plan_here"] C_law_spots := by
  have sc := sc__law_spots
  refine Fn.of T 42 rfl rfl sc (fun _ _ _ _ _ _ us hl => match us, hl with | [_], _ => rfl) ?len (fun f cdv A outer s H E hr => ⟨_, (pss_cons (ps_set (i := 1) sc.nd rfl (Or.inl rfl) (pe_lst pa_nil))
      (pss_cons (ps_for PassesOwn.never rfl (pi_range1 (by rfl) T.f_range (pa_cons (pe_callB (lenK (K := K) (by rfl)) (by rfl) T.f_len (by decide +kernel) (pa_cons (pe_ix (ixT (K := K) (by rfl)) (pv 0) pe_int (fun _ _ => rfl)) pa_nil)) pa_nil)) (pg_name (i := 2) sc.nd rfl (by first | exact Or.inl rfl | exact Or.inr rfl))
        (pss_one (ps_for PassesOwn.never rfl (pi_range1 (by rfl) T.f_range (pa_cons (pe_callB (lenK (K := K) (by rfl)) (by rfl) T.f_len (by decide +kernel) (pa_cons (pe_ix (ixT (K := K) (by rfl)) (pe_ix (ixT (K := K) (by rfl)) (pv 0) pe_int (fun _ _ => rfl)) (pv 2) (fun _ _ => rfl)) pa_nil)) pa_nil)) (pg_name (i := 3) sc.nd rfl (by first | exact Or.inl rfl | exact Or.inr rfl))
            (pss_cons (ps_asg (pe_ix (ixT (K := K) (by rfl)) (pe_ix (ixT (K := K) (by rfl)) (pe_ix (ixT (K := K) (by rfl)) (pv 0) pe_int (fun _ _ => rfl)) (pv 2) (fun _ _ => rfl)) (pv 3) (fun _ _ => rfl)) (pgT (K := K) (n := 3) (by rfl) rfl (pgs_cons (pg_name (i := 4) sc.nd rfl (by first | exact Or.inl rfl | exact Or.inr rfl)) (pgs_cons (pg_name (i := 5) sc.nd rfl (by first | exact Or.inl rfl | exact Or.inr rfl)) (pgs_cons (pg_name (i := 6) sc.nd rfl (by first | exact Or.inl rfl | exact Or.inr rfl)) pgs_nil)))))
              (pss_one (ps_if (pt_cmpR op_ne (pv 4) pe_str (nomark _)) (pss_one (ps_expr (pe_bm PySem.F.plainAttrs_list PySem.F.slot_list_extend PySem.F.type_list_extend mt_extend (pv 1) (pa_cons (pe_lc (own := [("_law_way", 7)]) rfl sc.nd (pi_range1 (by rfl) T.f_range (pa_cons (pe_op op_add (pe_callB (lenK (K := K) (by rfl)) (by rfl) T.f_len (by decide +kernel) (pa_cons (pv 6) pa_nil)) pe_int) pa_nil)) (blkOk_by (own := [("_law_way", 7)]) (N := N__law_spots) (sc := defScope (atTop 62)) (by decide +kernel)) (fun _ _ _ _ _ => (pg_name (i := 7) sc.nd rfl (by first | exact Or.inl rfl | exact Or.inr rfl))) (fun _ _ _ _ _ => pts_nil) (fun _ _ _ _ _ => (pe_tup (pa_cons (pv 2) (pa_cons (pe_op op_add (pv 3) pe_int) (pa_cons (pv 7) pa_nil)))))) pa_nil)))) pss_nil))))))
      (pss_one (ps_ret (pv 1))))), fun us M q h => ?_⟩)
  case len => rintro us M q ⟨_, rfl, _⟩; rfl
  obtain ⟨p, rfl, hp, hq⟩ := h
  have h3 := hp.loops
  unfold ePlan
  walk_at "go"
  intro a
  walk_at "w"
  walk_at "ro"
  refine ws_forF (α := Nat) [some (ePlan p), some (.ptr a), none, none, none, none, none, none] (fun _ i => (a, .l (((p.loops.zipIdx.take i).flatMap fun x => loopRows x.2 x.1).map fun r => eSp r.1)) :: M) (by walk_at "rle") (wi_rng1 ?_)
  walk_at "w"
  rw [List.length_map]
  refine ⟨by omega, by omega, ?_⟩
  refine ⟨List.range p.loops.length, fun w => .int (w : Nat), range_u _, Sub.refl _, fun _ _ _ => trivial, fun k i hi => ?_, fun M' ρ' hs hr => ?_⟩
  · obtain ⟨rfl, hk⟩ := range_at hi
    have hl : p.loops[i]? = some p.loops[i] := List.getElem?_eq_getElem hk
    revert hl
    generalize p.loops[i] = l
    intro hl
    have hlm := List.mem_of_getElem? hl
    have hl12 := hp.places l hlm
    dsimp only
    rw [flat_next (zip_get hl)]
    have b1 := devs_take hp i
    revert b1
    generalize ((p.loops.zipIdx.take i).flatMap fun x => loopRows x.2 x.1) = A1
    intro b1
    unfold ePlan
    walk_at "w"
    walk_at "ro"
    walk_at "w"
    refine ws_forF (α := Nat) [some (ePlan p), some (.ptr a), some (.int (i : Nat)), none, none, none, none, none] (fun _ j => (a, .l ((A1 ++ (l.zipIdx.take j).flatMap fun x => x.1.rows i x.2).map fun r => eSp r.1)) :: M) (by walk_at "rle") (wi_rng1 ?_)
    walk_at "w"
    refine r_ixT (u := eLoop l) (atI_nat (by rw [List.getElem?_map, hl]; rfl)) ?_
    unfold eLoop
    walk_at "w"
    rw [List.length_map]
    refine ⟨by omega, by omega, ?_⟩
    refine ⟨List.range l.length, fun w => .int (w : Nat), range_u _, by rw [List.take_zero, List.flatMap_nil, List.append_nil]; exact Sub.refl _, fun _ _ _ => trivial, fun k j hj => ?_, fun M' ρ' hs hr => ?_⟩
    · obtain ⟨rfl, hk⟩ := range_at hj
      have hx : l[j]? = some l[j] := List.getElem?_eq_getElem hk
      revert hx
      generalize l[j] = x
      intro hx
      have hs := hp.pl l hlm x (List.mem_of_getElem? hx)
      dsimp only
      rw [flat_next (zip_get hx), ← List.append_assoc]
      have b2 : ((l.zipIdx.take j).flatMap fun x => x.1.rows i x.2).length ≤ 48 := Nat.le_trans (flat_le (xs := l.zipIdx) (g := fun x => x.1.rows i x.2) j) (loopRows_len hp hlm i)
      revert b2
      generalize (l.zipIdx.take j).flatMap (fun x => x.1.rows i x.2) = A2
      intro b2
      unfold ePlan
      walk_at "w"
      walk_at "ro"
      walk_at "w"
      refine r_ixT (u := eLoop l) (atI_nat (by rw [List.getElem?_map, hl]; rfl)) ?_
      unfold eLoop
      walk_at "w"
      refine r_ixT (u := ePl x) (atI_nat (by rw [List.getElem?_map, hx]; rfl)) ?_
      cases x with
      | op =>
        simp only [ePl]
        walk_at "w"
        walk_at "ro"
        walk_at "w"
        refine ⟨?_, by walk_at "rle"⟩
        simp only [Pl.rows, List.append_nil]
        exact Sub.refl _
      | dev d sp =>
        have h3 := hs.2
        simp only [ePl]
        walk_at "w"
        walk_at "ro"
        walk_at "w"
        rw [show decide (d.kind = "opener") = false from decide_eq_false hs.1]
        walk_at "w"
        walk_at "bm"
        walk_at "w"
        refine w_lcm (α := Nat) (wi_rng1 ?_)
        walk_at "w"
        rw [List.length_map]
        refine ⟨by omega, by omega, ?_⟩
        refine ⟨List.range (sp.length + 1), fun w => .int (w : Nat), fun w => eSp (i, j + 1, w), by
          rw [show ((sp.length : Nat) + 1 : Int).toNat = sp.length + 1 from by omega]; exact range_u _, by rw [List.length_range]; omega, fun _ _ => trivial, fun D acc w hw => ?_, fun D => ?_⟩
        · walk_at "w"
          walk_at "ro"
          walk_at "w"
        · walk_at "w"
          refine rm_extend (.there .here) (List.mem_cons_self ..) (by simp only [List.length_map, List.length_append, List.length_range]; omega) ?_
          walk_at "w"
          refine ⟨.skip (Sub.l_eq ?_ (Sub.refl _)), by walk_at "rle"⟩
          rw [List.map_append (l₁ := A1 ++ A2)]
          have e := congrArg (List.map eSp) (rows_range d sp i j)
          rw [List.map_map, List.map_map] at e
          exact congrArg (((A1 ++ A2).map fun r => eSp r.1) ++ ·) e
    · rw [List.length_range, show l.zipIdx.take l.length = l.zipIdx from List.take_of_length_le (by simp)] at hs
      exact ⟨hs, RLe.trans (by walk_at "rle") hr⟩
  · rw [List.length_range, show p.loops.zipIdx.take p.loops.length = p.loops.zipIdx from List.take_of_length_le (by simp)] at hs
    refine WS.fr hs hr ?_
    walk_at "w"
    exact ⟨_, Sub.refl _, hq a⟩
abbrev N__law_singles : List Str := ["_law_plan_here", "_law_loop_here", "_law_found", "_law_at", "_law_many", "_law_way", "_law_how"]
theorem sc__law_singles : FnScope N__law_singles ["_law_plan_here", "_law_loop_here"] (defScope (atTop 60)) := ⟨rfl, rfl, rfl, by decide +kernel, rfl, by decide +kernel, by decide +kernel⟩
theorem fn_law_singles {P : Program} {w : World} {K : PySem.W.Frag} {mg : Str → Option Value} {base : Heap} (T : Txt K mg) : Fn P w K mg base 1 "_law_singles" ["_law_plan_here", "_law_loop_here"] C_law_singles := by
  have sc := sc__law_singles
  refine Fn.of T 40 rfl rfl sc (fun _ _ _ _ _ _ us hl => match us, hl with | [_, _], _ => rfl) ?len (fun f cdv A outer s H E hr => ⟨_, (pss_cons (ps_set (i := 2) sc.nd rfl (Or.inl rfl) (pe_lst pa_nil))
      (pss_cons (ps_for PassesOwn.never rfl (pi_range1 (by rfl) T.f_range (pa_cons (pe_op op_add (pe_callB (lenK (K := K) (by rfl)) (by rfl) T.f_len (by decide +kernel) (pa_cons (pe_ix (ixT (K := K) (by rfl)) (pe_ix (ixT (K := K) (by rfl)) (pv 0) pe_int (fun _ _ => rfl)) (pv 1) (fun _ _ => rfl)) pa_nil)) pe_int) pa_nil)) (pg_name (i := 3) sc.nd rfl (by first | exact Or.inl rfl | exact Or.inr rfl))
        (pss_cons (ps_set (i := 4) sc.nd rfl (Or.inl rfl) pe_int)
          (pss_cons (ps_if (pt_cmpR op_gt (pv 3) pe_int (nomark _)) (pss_one (ps_set (i := 4) sc.nd rfl (Or.inl rfl) (pe_op op_add pe_int (pe_callB (lenK (K := K) (by rfl)) (by rfl) T.f_len (by decide +kernel) (pa_cons (pe_ix (ixT (K := K) (by rfl)) (pe_ix (ixT (K := K) (by rfl)) (pe_ix (ixT (K := K) (by rfl)) (pe_ix (ixT (K := K) (by rfl)) (pv 0) pe_int (fun _ _ => rfl)) (pv 1) (fun _ _ => rfl)) (pe_op op_sub (pv 3) pe_int) (fun _ _ => rfl)) pe_int (fun _ _ => rfl)) pa_nil))))) pss_nil)
          (pss_one (ps_for PassesOwn.never rfl (pi_range1 (by rfl) T.f_range (pa_cons (pv 4) pa_nil)) (pg_name (i := 5) sc.nd rfl (by first | exact Or.inl rfl | exact Or.inr rfl))
            (pss_one (ps_expr (pe_bm PySem.F.plainAttrs_list PySem.F.slot_list_extend PySem.F.type_list_extend mt_extend (pv 2) (pa_cons (pe_lc (own := [("_law_how", 6)]) rfl sc.nd (piT (K := K) (by rfl) (pe_tup (pa_cons pe_str (pa_cons pe_str pa_nil)))) (blkOk_by (own := [("_law_how", 6)]) (N := N__law_singles) (sc := defScope (atTop 60)) (by decide +kernel)) (fun _ _ _ _ _ => (pg_name (i := 6) sc.nd rfl (by first | exact Or.inl rfl | exact Or.inr rfl))) (fun _ _ _ _ _ => pts_nil) (fun _ _ _ _ _ => (pe_tup (pa_cons (pe_tup (pa_cons (pv 1) (pa_cons (pv 3) (pa_cons (pv 5) pa_nil)))) (pa_cons (pv 6) pa_nil))))) pa_nil)))))))))
      (pss_one (ps_ret (pv 2))))), fun us M q h => ?_⟩)
  case len => rintro us M q ⟨_, _, _, rfl, _⟩; rfl
  obtain ⟨p, i, l, rfl, hp, hl, hq⟩ := h
  have hlm := List.mem_of_getElem? hl
  have hl12 := hp.places l hlm
  unfold ePlan
  walk_at "go"
  intro a
  walk_at "w"
  walk_at "ro"
  refine ws_forF (α := Nat) [some (ePlan p), some (.int (i : Nat)), some (.ptr a), none, none, none, none] (fun xs k => (a, .l (((xs.take k).flatMap fun c => (strAt i l c).flatMap sg).map eFl)) :: M) (by walk_at "rle") (wi_rng1 ?_)
  walk_at "w"
  refine r_ixT (u := eLoop l) (atI_nat (by rw [List.getElem?_map, hl]; rfl)) ?_
  unfold eLoop
  walk_at "w"
  rw [List.length_map]
  refine ⟨by omega, by omega, ?_⟩
  refine ⟨List.range (l.length + 1), fun w => .int (w : Nat), by rw [show ((l.length : Nat) + 1 : Int).toNat = l.length + 1 from by omega]; exact range_u _, Sub.refl _, fun _ _ _ => trivial, fun k c hc => ?_, fun M' ρ' hs hr => ?_⟩
  · have hA : (((List.range (l.length + 1)).take k).flatMap fun c => (strAt i l c).flatMap sg).length ≤ 98 := by
      have h1 := flat_le (xs := List.range (l.length + 1)) (g := fun c => (strAt i l c).flatMap sg) k
      rw [← singles_at] at h1
      have := singles_len hp hlm i
      omega
    dsimp only
    rw [flat_next hc]
    obtain ⟨rfl, hk⟩ := range_at hc
    revert hA
    generalize (((List.range (l.length + 1)).take c).flatMap fun c => (strAt i l c).flatMap sg) = A1
    intro hA
    have hsp := spur_le hp hl c
    have hmany : manyOf l c ≤ 4 := by unfold manyOf; split <;> omega
    unfold ePlan
    refine wg_name ?_ (by with_unfolding_all rfl)
    walk_at "ro"
    refine ws_seq ?_
    refine ws_asg ?_
    refine w_int ?_
    refine wg_name ?_ (by with_unfolding_all rfl)
    walk_at "ro"
    refine ws_seq ?_
    refine ws_cut ((a, .l (A1.map eFl)) :: M) [some (ePlan p), some (.int (i : Nat)), some (.ptr a), some (.int (c : Nat)), some (.int (manyOf l c : Nat)), none, none] ?_ ?_
    · walk_at "w"
      by_cases h0 : 0 < c
      · rw [show decide ((0 : Int) < (c : Nat)) = true from decide_eq_true (by omega)]
        have hx : l[c - 1]? = some l[c - 1] := List.getElem?_eq_getElem (by omega)
        have hse := spurLen_of hx
        revert hx hse
        generalize l[c - 1] = x
        intro hx hse
        have ex : ∃ k ad, ePl x = .tup [.str k, .int ad, .tup (x.spur.map eDev)] := by
          cases x with
          | op => exact ⟨_, _, rfl⟩
          | dev d sp => exact ⟨_, _, rfl⟩
        obtain ⟨kk, ad, ex⟩ := ex
        walk_at "w"
        refine r_ixT (u := eLoop l) (atI_nat (by rw [List.getElem?_map, hl]; rfl)) ?_
        unfold eLoop
        walk_at "w"
        refine r_ixT (u := ePl x) (by rw [show ((c : Int) - 1) = ((c - 1 : Nat) : Int) from by omega]; exact atI_nat (by rw [List.getElem?_map, hx]; rfl)) ?_
        rw [ex]
        walk_at "w"
        walk_at "ro"
        rw [List.length_map, show (1 : Int) + (x.spur.length : Nat) = (manyOf l c : Nat) from by unfold manyOf; rw [if_neg (by omega), hse]; omega]
        first | exact ⟨rfl, rfl⟩ | exact ⟨trivial, rfl⟩
      · rw [show decide ((0 : Int) < (c : Nat)) = false from decide_eq_false (by omega)]
        walk_at "w"
        rw [show manyOf l c = 1 from by unfold manyOf; rw [if_pos (by omega)]]
        first | exact ⟨rfl, rfl⟩ | exact ⟨trivial, rfl⟩
    · refine ws_forF (α := Nat) [some (ePlan p), some (.int (i : Nat)), some (.ptr a), some (.int (c : Nat)), none, none, none] (fun xs k => (a, .l ((A1 ++ ((xs.take k).map fun w => ((i, c, w) : Spot)).flatMap sg).map eFl)) :: M) (by walk_at "rle") (wi_rng1 ?_)
      walk_at "w"
      refine ⟨by omega, by omega, ?_⟩
      refine ⟨List.range (manyOf l c), fun w => .int (w : Nat), range_u _, by rw [List.take_zero, List.map_nil, List.flatMap_nil, List.append_nil]; exact Sub.refl _, fun _ _ _ => trivial, fun k w hw => ?_, fun M' ρ' hs hr => ?_⟩
      · have hB : (((List.range (manyOf l c)).take k).map fun w => ((i, c, w) : Spot)).length ≤ 4 := by
          rw [List.length_map, List.length_take, List.length_range]
          omega
        have hB2 := flat_bound (xs := ((List.range (manyOf l c)).take k).map fun w => ((i, c, w) : Spot)) (g := sg) (k := 2) (fun _ _ => by simp)
        walk_at "w"
        walk_at "ro"
        walk_at "w"
        walk_at "bm"
        walk_at "w"
        refine w_lcm (α := Str) (wi_tup ?_)
        walk_at "w"
        refine ⟨["cut", "short"], U.str, fun h => .tup [eSp (i, c, w), .str h], rfl, by simp, fun _ _ => trivial, fun D acc r hr => ?_, fun D => ?_⟩
        · walk_at "w"
          walk_at "ro"
          walk_at "w"
        · walk_at "w"
          refine rm_extend (.there .here) (List.mem_cons_self ..) (by simp only [List.length_map, List.length_append, List.length_cons, List.length_nil]; omega) ?_
          walk_at "w"
          refine ⟨.skip (Sub.l_eq ?_ (Sub.refl _)), by walk_at "rle"⟩
          rw [List.take_add_one, hw]
          simp only [List.map_append, List.flatMap_append, List.append_assoc]
          rfl
      · rw [List.take_length] at hs
        exact ⟨hs, RLe.trans (by walk_at "rle") hr⟩
  · rw [List.take_length, ← singles_at] at hs
    refine WS.fr hs hr ?_
    walk_at "w"
    exact ⟨_, Sub.refl _, hq a⟩
end Wl
set_option Elab.async false
set_option linter.all false
set_option maxRecDepth 100000
set_option maxHeartbeats 4000000
namespace Wl
open PySem PySem.Spec PyProof.Rows L2
local macro_rules | `(tactic| walk_at "w1") => `(tactic| first
  | with_reducible refine ws_seq ?_
  | with_reducible refine ws_ret ?_
  | with_reducible refine ws_asg ?_
  | with_reducible refine ws_drop ?_
  | with_reducible refine ws_if ?_
  | with_reducible refine ws_next ?_
  | with_reducible refine w_var (by with_unfolding_all rfl) ?_
  | with_reducible refine w_int ?_
  | with_reducible refine w_str ?_
  | with_reducible refine w_bl ?_
  | with_reducible refine w_non ?_
  | with_reducible refine w_ref ?_
  | with_reducible refine w_isi2 ?_
  | with_reducible refine w_op ?_
  | with_reducible refine w_andV ?_
  | with_reducible refine w_notV ?_
  | with_reducible refine w_chain ?_
  | with_reducible refine wa_nil ?_
  | with_reducible refine wa_cons ?_
  | with_reducible refine w_tup ?_
  | with_reducible refine w_lst ?_
  | with_reducible refine w_tupF ?_
  | with_reducible refine w_call ?_
  | ((fail_if_success (with_reducible refine w_allT (α := Unit) ?_)); (fail_if_success (with_reducible refine w_anyB (α := Unit) ?_)); with_reducible refine w_cb ?_)
  | with_reducible refine w_bm ?_
  | with_reducible refine wt_test ?_
  | with_reducible refine wt_B ?_
  | with_reducible refine wt_not ?_
  | with_reducible refine wt_and ?_
  | with_reducible refine wt_or ?_
  | with_reducible refine wt_yes ?_
  | with_reducible refine wg_name ?_ (by with_unfolding_all rfl)
  | with_reducible refine wg_name ?_
  | with_reducible refine wgs_nil ?_
  | with_reducible refine wgs_cons ?_
  | with_reducible refine wg_tup (by with_unfolding_all rfl) ?_
  | with_reducible refine w_un ?_
  | with_reducible refine w_sl ?_
  | with_reducible refine wo_none ?_
  | with_reducible refine wo_some ?_
  | with_reducible refine r_ii ?_
  | with_reducible refine r_ib ?_
  | with_reducible refine r_eqI ?_
  | with_reducible refine r_eqS ?_
  | with_reducible refine r_neI ?_
  | with_reducible refine r_neS ?_
  | with_reducible refine rs_T ?_
  | with_reducible refine rc_lenT ?_
  | with_reducible refine rc_lenTf ?_
  | with_reducible refine rc_min ?_
  | with_reducible refine r_isN ?_
  | with_reducible refine r_noN ?_
  | with_reducible refine ws_break ?_
  | with_reducible refine ws_dput ?_
  | (with_reducible refine r_ixT (by with_unfolding_all rfl) ?_)
  | exact ⟨rfl, Sub.refl _⟩
  | refine ⟨Sub.refl _, ?_⟩
  | refine ⟨Nat.le_of_ble_eq_true (by with_unfolding_all rfl), ?_⟩
  | refine ⟨_, rfl, ?_⟩
  | refine ⟨true, rfl, fun _ => ?_, fun z => Bool.noConfusion z⟩
  | refine ⟨false, rfl, fun z => Bool.noConfusion z, fun _ => ?_⟩
  | refine ⟨false, rfl, fun _ => ?_, fun z => Bool.noConfusion z⟩
  | refine ⟨true, rfl, fun z => Bool.noConfusion z, fun _ => ?_⟩
  | refine ⟨fun _ => ?_, fun z => Bool.noConfusion z⟩
  | refine ⟨fun z => Bool.noConfusion z, fun _ => ?_⟩)
local macro_rules | `(tactic| walk_at "w") => `(tactic| repeat walk_at "w1")
local macro_rules | `(tactic| walk_at "in") => `(tactic| try dsimp only [XD, cxOf, Cx.nox, Cx.wish])
local macro_rules | `(tactic| walk_at "ro") => `(tactic| try simp only [startR, List.map_cons, List.map_nil, List.length_cons, List.length_nil, Nat.reduceAdd, Nat.reduceSub, Nat.zero_add, List.replicate_zero, List.replicate_succ, List.cons_append, List.nil_append, List.append_nil, List.set_cons_zero, List.set_cons_succ])
local macro_rules | `(tactic| walk_at "sub") => `(tactic| repeat (first | exact Sub.refl _ | exact Sub.nil' _ | refine Sub.keep ?_ | refine Sub.skip ?_))
local macro_rules | `(tactic| walk_at "go") => `(tactic| (walk_at "in"; walk_at "ro"; walk_at "w"))
local macro_rules | `(tactic| walk_at "rle") => `(tactic| repeat (first | exact RLe.refl _ | exact RLe.nil | refine RLe.keep ?_ | refine RLe.hole ?_))
local macro_rules | `(tactic| walk_at "mem") => `(tactic| repeat (first | exact List.mem_cons_self .. | refine List.mem_cons_of_mem _ ?_))
local macro_rules | `(tactic| walk_at "put") => `(tactic| repeat (first | exact Put.here | refine Put.there ?_))
local macro_rules | `(tactic| walk_at "bm") => `(tactic| (first | refine ⟨⟨_, _, rfl, rfl, (by walk_at "mem")⟩, ?_⟩ | refine ⟨⟨_, _, rfl, trivial, (by walk_at "mem")⟩, ?_⟩))
local macro_rules | `(tactic| walk_at "end") => `(tactic| (first | exact ⟨Sub.refl _, by walk_at "rle"⟩ | walk_at "rle"))
abbrev N__law_feels : List Str := ["_law_plan_here", "_law_hows", "_law_stops", "_law_gate", "_law_loop_here", "_law_place", "_law_step"]
theorem sc__law_feels : FnScope N__law_feels ["_law_plan_here", "_law_hows", "_law_stops", "_law_gate"] (defScope (atTop 59)) := ⟨rfl, rfl, rfl, by decide +kernel, rfl, by decide +kernel, by decide +kernel⟩
theorem fn_law_feels {P : Program} {w : World} {K : PySem.W.Frag} {mg : Str → Option Value} {base : Heap} (T : Txt K mg) (F_law_walk : Fn P w K mg base 1 "_law_walk" ["_law_plan_here", "_law_hows", "_law_stops", "_law_loop_here", "_law_place", "_law_step"] C_law_walk) : Fn P w K mg base 2 "_law_feels" ["_law_plan_here", "_law_hows", "_law_stops", "_law_gate"] C_law_feels := by
  have sc := sc__law_feels
  refine Fn.of T 39 rfl rfl sc (fun _ _ _ _ _ _ us hl => match us, hl with | [_, _, _, _], _ => rfl) ?len (fun f cdv A outer s H E hr => ⟨_, (pss_cons (ps_asg (pv 3) (pgT (K := K) (n := 2) (by rfl) rfl (pgs_cons (pg_name (i := 4) sc.nd rfl (by first | exact Or.inl rfl | exact Or.inr rfl)) (pgs_cons (pg_name (i := 5) sc.nd rfl (by first | exact Or.inl rfl | exact Or.inr rfl)) pgs_nil))))
      (pss_one (ps_ret (pe_callB (anyK (K := K) (by rfl) rfl) (by rfl) T.f_any (by decide +kernel) (pa_cons (pe_lc (own := [("_law_step", 6)]) rfl sc.nd (piT (K := K) (by rfl) (pe_tup (pa_cons (pe_un un_neg pe_int) (pa_cons pe_int pa_nil)))) (blkOk_by (own := [("_law_step", 6)]) (N := N__law_feels) (sc := defScope (atTop 59)) (by decide +kernel)) (fun _ _ _ _ _ => (pg_name (i := 6) sc.nd rfl (by first | exact Or.inl rfl | exact Or.inr rfl))) (fun _ _ _ _ _ => pts_nil) (fun _ _ _ _ _ => (pe_ix (ixT (K := K) (by rfl)) (pFn F_law_walk (by exact ⟨rfl, rfl, rfl, rfl, rfl⟩) (hr.mono (by decide)) (by rfl) (pa_cons (pv 0) (pa_cons (pv 1) (pa_cons (pv 2) (pa_cons (pv 4) (pa_cons (pv 5) (pa_cons (pv 6) pa_nil))))))) pe_int (fun _ _ => rfl)))) pa_nil))))), fun us M q h => ?_⟩)
  case len => rintro us M q ⟨_, _, _, _, _, _, _, _, rfl, _⟩; rfl
  obtain ⟨p, F, G, h, s, i, l, c, rfl, hp, hl, hc, hh, hs0, hq⟩ := h
  unfold eGt
  walk_at "go"
  refine w_anyB (α := Bool) (wi_tup ?_)
  walk_at "w"
  refine ⟨[false, true], fun u => .int (if u = true then 1 else -1), fun u => (walkM F G i l u c).1.any (isHow F "short"), rfl, by simp, fun _ _ => trivial, fun D acc u hu => ?_, ?_⟩
  · walk_at "w"
    walk_at "ro"
    walk_at "w"
    refine ⟨p, F, G, h, s, i, l, c, u, rfl, hp, hl, hc, .tail _ hh, .tail _ hs0, fun a => ?_⟩
    walk_at "w"
    exact ⟨rfl, .skip (Sub.refl _)⟩
  · have e : [false, true].any (fun u => (walkM F G i l u c).1.any (isHow F "short")) = feelsM F G i l c := by
      unfold feelsM
      simp only [List.any_cons, List.any_nil, Bool.or_false]
      exact Bool.or_comm _ _
    rw [e]
    exact ⟨M, Sub.refl _, hq⟩
abbrev N__law_sets : List Str := ["_law_singles_here", "_law_most", "_law_found", "_law_k", "_law_one", "_law_other"]
theorem sc__law_sets : FnScope N__law_sets ["_law_singles_here", "_law_most"] (defScope (atTop 63)) := ⟨rfl, rfl, rfl, by decide +kernel, rfl, by decide +kernel, by decide +kernel⟩
theorem fn_law_sets {P : Program} {w : World} {K : PySem.W.Frag} {mg : Str → Option Value} {base : Heap} (T : Txt K mg) : Fn P w K mg base 1 "_law_sets" ["_law_singles_here", "_law_most"] C_law_sets := by
  have sc := sc__law_sets
  refine Fn.of T 43 rfl rfl sc (fun _ _ _ _ _ _ us hl => match us, hl with | [_, _], _ => rfl) ?len (fun f cdv A outer s H E hr => ⟨_, (pss_cons (ps_set (i := 2) sc.nd rfl (Or.inl rfl) (pe_lst (pa_cons (pe_tupF pa_nil) pa_nil)))
      (pss_cons (ps_if (pt_cmpR op_gt (pv 1) pe_int (nomark _)) (pss_one (ps_expr (pe_bm PySem.F.plainAttrs_list PySem.F.slot_list_extend PySem.F.type_list_extend mt_extend (pv 2) (pa_cons (pe_lc (own := [("_law_one", 4)]) rfl sc.nd (piL (K := K) (by rfl) (pv 0)) (blkOk_by (own := [("_law_one", 4)]) (N := N__law_sets) (sc := defScope (atTop 63)) (by decide +kernel)) (fun _ _ _ _ _ => (pg_name (i := 4) sc.nd rfl (by first | exact Or.inl rfl | exact Or.inr rfl))) (fun _ _ _ _ _ => pts_nil) (fun _ _ _ _ _ => (pe_tupF (pa_cons (pv 4) pa_nil)))) pa_nil)))) pss_nil)
      (pss_cons (ps_if (pt_cmpR op_gt (pv 1) pe_int (nomark _)) (pss_one (ps_for PassesOwn.never rfl (pi_range1 (by rfl) T.f_range (pa_cons (pe_callB (lenK (K := K) (by rfl)) (by rfl) T.f_len (by decide +kernel) (pa_cons (pv 0) pa_nil)) pa_nil)) (pg_name (i := 3) sc.nd rfl (by first | exact Or.inl rfl | exact Or.inr rfl))
            (pss_one (ps_expr (pe_bm PySem.F.plainAttrs_list PySem.F.slot_list_extend PySem.F.type_list_extend mt_extend (pv 2) (pa_cons (pe_lc (own := [("_law_other", 5)]) rfl sc.nd (piL (K := K) (by rfl) (pe_slice (slL (K := K) (by rfl)) (pv 0) (po_some (pe_op op_add (pv 3) pe_int)) po_none)) (blkOk_by (own := [("_law_other", 5)]) (N := N__law_sets) (sc := defScope (atTop 63)) (by decide +kernel)) (fun _ _ _ _ _ => (pg_name (i := 5) sc.nd rfl (by first | exact Or.inl rfl | exact Or.inr rfl))) (fun _ _ _ _ _ => (pts_one (pt_cmpR (neD (K := K) (by rfl) hr.units) (pe_ix (ixT (K := K) (by rfl)) (pv 5) pe_int (fun _ _ => rfl)) (pe_ix (ixT (K := K) (by rfl)) (pe_ix (ixL (K := K) (by rfl)) (pv 0) (pv 3) (fun _ _ => rfl)) pe_int (fun _ _ => rfl)) (nomark _)))) (fun _ _ _ _ _ => (pe_tupF (pa_cons (pe_ix (ixL (K := K) (by rfl)) (pv 0) (pv 3) (fun _ _ => rfl)) (pa_cons (pv 5) pa_nil))))) pa_nil)))))) pss_nil)
      (pss_one (ps_ret (pv 2)))))), fun us M q h => ?_⟩)
  case len => rintro us M q ⟨_, _, _, rfl, _⟩; rfl
  obtain ⟨S, s, m, rfl, hSl, hsm, hq⟩ := h
  unfold setsOf at hq
  walk_at "in"
  walk_at "ro"
  refine ws_seq ?_
  refine ws_asg ?_
  walk_at "w"
  intro f
  refine wg_name ?_ (by with_unfolding_all rfl)
  walk_at "ro"
  refine ws_seq ?_
  refine ws_cutS ((f, .l (([[]] ++ (if 0 < m then S.map fun s => [s] else [])).map eFs)) :: M) [some (.ptr s), some (.int m), some (.ptr f), none, none, none] ?_ fun M' ρ' hs hr => WS.fr hs hr ?_
  · walk_at "w"
    by_cases h0 : 0 < m
    · rw [decide_eq_true h0, if_pos h0]
      walk_at "w"
      walk_at "bm"
      walk_at "w"
      refine w_lcm (α := Fl) (wi_list ?_)
      walk_at "w"
      refine ⟨_, _, rfl, .tail _ hsm, ?_⟩
      refine ⟨S, eFl, fun o => eFs [o], rfl, by omega, fun _ _ => .tail _ (.tail _ hsm), fun D acc r hr => ?_, fun D => ?_⟩
      · walk_at "w"
        walk_at "ro"
        walk_at "w"
      · walk_at "w"
        refine rm_extend (.there .here) (List.mem_cons_self ..) (by simp only [List.length_map, List.length_cons, List.length_nil]; omega) ?_
        walk_at "w"
        refine ⟨.skip (Sub.l_eq ?_ (Sub.refl _)), by walk_at "rle"⟩
        rw [List.map_append, List.map_map]
        rfl
    · rw [decide_eq_false h0, if_neg h0]
      walk_at "w"
      first | exact ⟨Sub.l_eq rfl (Sub.refl _), by walk_at "rle"⟩ | walk_at "rle"
  · have hB : ([[]] ++ (if 0 < m then S.map (fun s => [s]) else [])).length ≤ 99 := by
      split
      · simp only [List.length_append, List.length_map, List.length_cons, List.length_nil]
        omega
      · simp
    revert hq hB
    generalize ([[]] ++ (if 0 < m then S.map (fun s => [s]) else [])) = B
    intro hq hB
    refine ws_seq ?_
    refine ws_cutS ((f, .l ((B ++ (if 1 < m then S.zipIdx.flatMap (fun x => ((S.drop (x.2 + 1)).filter fun o => !decide (o.1 = x.1.1)).map fun o => [x.1, o]) else [])).map eFs)) :: M) [none, none, some (.ptr f), none, none, none] ?_ fun M' ρ' hs hr => WS.fr hs hr ?_
    · walk_at "w"
      by_cases h1 : 1 < m
      · rw [decide_eq_true h1, if_pos h1]
        walk_at "w"
        refine ws_forG (α := Fl × Nat) (wi_rng1 ?_)
        walk_at "w"
        refine rc_len (.tail _ hsm) ?_
        walk_at "w"
        rw [List.length_map]
        refine ⟨by omega, by omega, ?_⟩
        refine ⟨S.zipIdx, _, upTo_zip _, [some (.ptr s), some (.int m), some (.ptr f), none, none, none], fun k => (f, .l ((B ++ (S.zipIdx.take k).flatMap (fun x => ((S.drop (x.2 + 1)).filter fun o => !decide (o.1 = x.1.1)).map fun o => [x.1, o])).map eFs)) :: M, by walk_at "rle", by dsimp only; rw [List.take_zero, List.flatMap_nil, List.append_nil]; exact Sub.refl _, fun _ _ _ => trivial, fun k x hx => ?_, fun M' ρ' hs hr => ?_⟩
        · have hk := (List.getElem?_eq_some_iff.mp hx).1
          have hg := (zip_mem (List.mem_of_getElem? hx)).2.2
          rw [List.length_zipIdx] at hk
          dsimp only
          rw [flat_next hx]
          have hA : ((S.zipIdx.take k).flatMap (fun x => ((S.drop (x.2 + 1)).filter fun o => !decide (o.1 = x.1.1)).map fun o => [x.1, o])).length ≤ 98 * 98 := by
            have := take_flat (xs := S.zipIdx) (g := fun x => ((S.drop (x.2 + 1)).filter fun o => !decide (o.1 = x.1.1)).map fun o => [x.1, o]) (k := 98) (fun x _ => by
              rw [List.length_map]
              refine Nat.le_trans (List.length_filter_le _ _) ?_
              rw [List.length_drop]
              omega) k
            rw [List.length_zipIdx] at this
            exact Nat.le_trans this (Nat.mul_le_mul_right _ hSl)
          revert hA
          generalize (S.zipIdx.take k).flatMap (fun x => ((S.drop (x.2 + 1)).filter fun o => !decide (o.1 = x.1.1)).map fun o => [x.1, o]) = A1
          intro hA
          have hfl : ((S.drop (x.2 + 1)).filter fun o => !decide (o.1 = x.1.1)).length ≤ 98 := by
            refine Nat.le_trans (List.length_filter_le _ _) ?_
            rw [List.length_drop]
            omega
          walk_at "w"
          walk_at "ro"
          walk_at "w"
          walk_at "bm"
          walk_at "w"
          refine w_lcp (α := Fl) (wi_list ?_)
          walk_at "w"
          refine rs_L (.tail _ hsm) fun sl => ?_
          refine ⟨_, _, rfl, .head _, ?_⟩
          rw [show ((x.2 : Nat) : Int) + 1 = ((x.2 + 1 : Nat) : Int) from rfl, cut_drop, ← List.map_drop]
          have hgx : atI (S.map eFl) ((x.2 : Nat) : Int) = some (eFl x.1) := atI_nat (by rw [List.getElem?_map, hg]; rfl)
          refine ⟨S.drop (x.2 + 1), eFl, fun o => !decide (o.1 = x.1.1), fun o => eFs [x.1, o], rfl, by rw [List.length_drop]; omega, fun _ _ => .tail _ (.head _), fun D acc r hr => ?_, fun D => ?_⟩
          · unfold eFl
            walk_at "w"
            walk_at "ro"
            walk_at "w"
            refine r_ixL (u := eFl x.1) (.tail _ (.tail _ (.tail _ hsm))) hgx ?_
            unfold eFl
            walk_at "w"
            refine r_neD (n := 1) (m := 1) (b := decide (r.1 = x.1.1)) rfl rfl (by omega) (by omega) (decide_eq_true_iff.trans toPy_sp.symm) ?_
            walk_at "w"
            refine ⟨rfl, Sub.refl _, fun _ => ?_⟩
            walk_at "w"
            refine r_ixL (u := eFl x.1) (.tail _ (.tail _ (.tail _ hsm))) hgx ?_
            walk_at "w"
          · walk_at "w"
            refine rm_extend (.there (.there .here)) (List.mem_cons_self ..) (by simp only [List.length_map, List.length_append]; omega) ?_
            walk_at "w"
            refine ⟨.skip (.skip (Sub.l_eq ?_ (Sub.refl _))), by walk_at "rle"⟩
            rw [← List.append_assoc, List.map_append (l₁ := B ++ A1), List.map_map]
            rfl
        · dsimp only at hs
          rw [List.take_length] at hs
          exact ⟨hs, RLe.trans (by walk_at "rle") hr⟩
      · rw [decide_eq_false h1, if_neg h1, List.append_nil]
        walk_at "w"
        first | exact ⟨Sub.refl _, by walk_at "rle"⟩ | walk_at "rle"
    · walk_at "w"
      exact ⟨_, Sub.refl _, hq f⟩
end Wl
set_option Elab.async false
set_option linter.all false
set_option maxRecDepth 100000
set_option maxHeartbeats 4000000
namespace Wl
open PySem PySem.Spec PyProof.Rows L2
local macro_rules | `(tactic| walk_at "w1") => `(tactic| first
  | with_reducible refine ws_seq ?_
  | with_reducible refine ws_ret ?_
  | with_reducible refine ws_asg ?_
  | with_reducible refine ws_drop ?_
  | with_reducible refine ws_if ?_
  | with_reducible refine ws_next ?_
  | with_reducible refine w_var (by with_unfolding_all rfl) ?_
  | with_reducible refine w_int ?_
  | with_reducible refine w_str ?_
  | with_reducible refine w_bl ?_
  | with_reducible refine w_non ?_
  | with_reducible refine w_ref ?_
  | with_reducible refine w_isi2 ?_
  | with_reducible refine w_op ?_
  | with_reducible refine w_andV ?_
  | with_reducible refine w_notV ?_
  | with_reducible refine w_chain ?_
  | with_reducible refine wa_nil ?_
  | with_reducible refine wa_cons ?_
  | with_reducible refine w_tup ?_
  | with_reducible refine w_lst ?_
  | with_reducible refine w_tupF ?_
  | with_reducible refine w_call ?_
  | ((fail_if_success (with_reducible refine w_allT (α := Unit) ?_)); (fail_if_success (with_reducible refine w_anyB (α := Unit) ?_)); with_reducible refine w_cb ?_)
  | with_reducible refine w_bm ?_
  | with_reducible refine wt_test ?_
  | with_reducible refine wt_B ?_
  | with_reducible refine wt_not ?_
  | with_reducible refine wt_and ?_
  | with_reducible refine wt_or ?_
  | with_reducible refine wt_yes ?_
  | with_reducible refine wg_name ?_ (by with_unfolding_all rfl)
  | with_reducible refine wg_name ?_
  | with_reducible refine wgs_nil ?_
  | with_reducible refine wgs_cons ?_
  | with_reducible refine wg_tup (by with_unfolding_all rfl) ?_
  | with_reducible refine w_un ?_
  | with_reducible refine w_sl ?_
  | with_reducible refine wo_none ?_
  | with_reducible refine wo_some ?_
  | with_reducible refine r_ii ?_
  | with_reducible refine r_ib ?_
  | with_reducible refine r_eqI ?_
  | with_reducible refine r_eqS ?_
  | with_reducible refine r_neI ?_
  | with_reducible refine r_neS ?_
  | with_reducible refine rs_T ?_
  | with_reducible refine rc_lenT ?_
  | with_reducible refine rc_lenTf ?_
  | with_reducible refine rc_min ?_
  | with_reducible refine r_isN ?_
  | with_reducible refine r_noN ?_
  | with_reducible refine ws_break ?_
  | with_reducible refine ws_dput ?_
  | (with_reducible refine r_ixT (by with_unfolding_all rfl) ?_)
  | exact ⟨rfl, Sub.refl _⟩
  | refine ⟨Sub.refl _, ?_⟩
  | refine ⟨Nat.le_of_ble_eq_true (by with_unfolding_all rfl), ?_⟩
  | refine ⟨_, rfl, ?_⟩
  | refine ⟨true, rfl, fun _ => ?_, fun z => Bool.noConfusion z⟩
  | refine ⟨false, rfl, fun z => Bool.noConfusion z, fun _ => ?_⟩
  | refine ⟨false, rfl, fun _ => ?_, fun z => Bool.noConfusion z⟩
  | refine ⟨true, rfl, fun z => Bool.noConfusion z, fun _ => ?_⟩
  | refine ⟨fun _ => ?_, fun z => Bool.noConfusion z⟩
  | refine ⟨fun z => Bool.noConfusion z, fun _ => ?_⟩)
local macro_rules | `(tactic| walk_at "w") => `(tactic| repeat walk_at "w1")
local macro_rules | `(tactic| walk_at "in") => `(tactic| try dsimp only [XD, cxOf, Cx.nox, Cx.wish])
local macro_rules | `(tactic| walk_at "ro") => `(tactic| try simp only [startR, List.map_cons, List.map_nil, List.length_cons, List.length_nil, Nat.reduceAdd, Nat.reduceSub, Nat.zero_add, List.replicate_zero, List.replicate_succ, List.cons_append, List.nil_append, List.append_nil, List.set_cons_zero, List.set_cons_succ])
local macro_rules | `(tactic| walk_at "sub") => `(tactic| repeat (first | exact Sub.refl _ | exact Sub.nil' _ | refine Sub.keep ?_ | refine Sub.skip ?_))
local macro_rules | `(tactic| walk_at "go") => `(tactic| (walk_at "in"; walk_at "ro"; walk_at "w"))
local macro_rules | `(tactic| walk_at "rle") => `(tactic| repeat (first | exact RLe.refl _ | exact RLe.nil | refine RLe.keep ?_ | refine RLe.hole ?_))
local macro_rules | `(tactic| walk_at "mem") => `(tactic| repeat (first | exact List.mem_cons_self .. | refine List.mem_cons_of_mem _ ?_))
local macro_rules | `(tactic| walk_at "put") => `(tactic| repeat (first | exact Put.here | refine Put.there ?_))
local macro_rules | `(tactic| walk_at "bm") => `(tactic| (first | refine ⟨⟨_, _, rfl, rfl, (by walk_at "mem")⟩, ?_⟩ | refine ⟨⟨_, _, rfl, trivial, (by walk_at "mem")⟩, ?_⟩))
local macro_rules | `(tactic| walk_at "end") => `(tactic| (first | exact ⟨Sub.refl _, by walk_at "rle"⟩ | walk_at "rle"))
theorem rgc_walk (up : Bool) {c n : Nat} (hc : c ≤ n + 1) (hn : n ≤ 12) : RgC ((c : Int) + (if up = true then 1 else -1)) (if up = true then (n : Int) + 2 else -1) (if up = true then 1 else -1) (if up = true then n + 1 - c else c) := by
  cases up with
  | true =>
    refine ⟨by decide, by decide, PySem.small_one ?_ ?_ ?_ ?_, ?_⟩
    · simp; omega
    · simp; omega
    · simp; omega
    · simp; omega
    · simp only [if_true]
      rw [PyProof.Rows.rangeSize_nat]
      congr 1
      omega
  | false =>
    have := RgC.neg (i := (c : Int) + -1) (j := -1) (by omega) (by omega) (by omega) (by omega)
    rw [show ((c : Int) + -1 - -1).toNat = c from by omega] at this
    exact this
def curOf (up : Bool) (c k : Nat) : Nat := if up then c + k else c - k
theorem edg_min2 (up : Bool) {c : Nat} (h : up = false → 1 ≤ c) : (if ((nxt up c : Nat) : Int) - (if up = true then 1 else -1) < (nxt up c : Nat) then ((nxt up c : Nat) : Int) - (if up = true then 1 else -1) else (nxt up c : Nat)) = (edg up c : Nat) := by
  unfold edg nxt
  cases up with
  | true => simp; omega
  | false =>
    have := h rfl
    simp
    omega
theorem nxt_add2 (up : Bool) {c : Nat} (h : up = false → 1 ≤ c) : (c : Int) + (if up = true then 1 else -1) = (nxt up c : Nat) := by
  unfold nxt
  cases up with
  | true => simp
  | false =>
    have := h rfl
    simp
    omega
abbrev N__law_walk : List Str := ["_law_plan_here", "_law_hows", "_law_stops", "_law_loop_here", "_law_place", "_law_step", "_law_places", "_law_short", "_law_spots_here", "_law_at", "_law_how", "_law_way"]
theorem sc__law_walk : FnScope N__law_walk ["_law_plan_here", "_law_hows", "_law_stops", "_law_loop_here", "_law_place", "_law_step"] (defScope (atTop 57)) := ⟨rfl, rfl, rfl, by decide +kernel, rfl, by decide +kernel, by decide +kernel⟩
theorem fn_law_walk {P : Program} {w : World} {K : PySem.W.Frag} {mg : Str → Option Value} {base : Heap} (T : Txt K mg) : Fn P w K mg base 1 "_law_walk" ["_law_plan_here", "_law_hows", "_law_stops", "_law_loop_here", "_law_place", "_law_step"] C_law_walk := by
  have sc := sc__law_walk
  refine Fn.of T 37 rfl rfl sc (fun _ _ _ _ _ _ us hl => match us, hl with | [_, _, _, _, _, _], _ => rfl) ?len (fun f cdv A outer s H E hr => ⟨_, (pss_cons (ps_set (i := 6) sc.nd rfl (Or.inl rfl) (pe_ix (ixT (K := K) (by rfl)) (pe_ix (ixT (K := K) (by rfl)) (pv 0) pe_int (fun _ _ => rfl)) (pv 3) (fun _ _ => rfl)))
      (pss_cons (ps_set (i := 7) sc.nd rfl (Or.inl rfl) pe_bl)
      (pss_cons (ps_set (i := 8) sc.nd rfl (Or.inl rfl) (pe_lst pa_nil))
      (pss_cons (ps_for PassesOwn.never rfl (pi_range3 (by rfl) T.f_range (pa_cons (pe_op op_add (pv 4) (pv 5)) (pa_cons (pe_ix (ixL (K := K) (by rfl)) (pe_lst (pa_cons (pe_un un_neg pe_int) (pa_cons (pe_op op_add (pe_callB (lenK (K := K) (by rfl)) (by rfl) T.f_len (by decide +kernel) (pa_cons (pv 6) pa_nil)) pe_int) pa_nil))) (pe_callTy call_int1 (by rfl) T.f_int (by decide +kernel) (pa_cons (pe_cmpR op_gt (pv 5) pe_int (nomark _)) pa_nil)) (fun _ _ => rfl)) (pa_cons (pv 5) pa_nil)))) (pg_name (i := 9) sc.nd rfl (by first | exact Or.inl rfl | exact Or.inr rfl))
        (pss_cons (ps_set (i := 10) sc.nd rfl (Or.inl rfl) (pe_dget2 (hu_of hr) (pv 1) (pe_tup (pa_cons (pv 3) (pa_cons (pe_callB (call_min2 rfl) (by rfl) T.f_min (by decide +kernel) (pa_cons (pv 9) (pa_cons (pe_op op_sub (pv 9) (pv 5)) pa_nil))) (pa_cons pe_int pa_nil)))) pe_str ⟨rfl, rfl, rfl, rfl⟩))
          (pss_cons (ps_if (pt_cmpR op_eq (pv 10) pe_str (nomark _)) (pss_one ps_break) pss_nil)
          (pss_cons (ps_set (i := 7) sc.nd rfl (Or.inl rfl) (pe_or (pv 7) (pe_one (pe_cmpR op_eq (pv 10) pe_str (nomark _)))))
          (pss_cons (ps_if (PW.pt (pw_or (pt_cmpR op_eq (pv 9) pe_int (nomark _)) (pw_or1 (pt_cmpR op_gt (pv 9) (pe_callB (lenK (K := K) (by rfl)) (by rfl) T.f_len (by decide +kernel) (pa_cons (pv 6) pa_nil)) (nomark _))))) (pss_one ps_break) pss_nil)
          (pss_cons (ps_expr (pe_bm PySem.F.plainAttrs_list PySem.F.slot_list_append PySem.F.type_list_append mt_append (pv 8) (pa_cons (pe_tup (pa_cons (pv 3) (pa_cons (pv 9) (pa_cons pe_int pa_nil)))) pa_nil)))
          (pss_cons (ps_for PassesOwn.never rfl (pi_range2 (by rfl) T.f_range (pa_cons pe_int (pa_cons (pe_op op_add (pe_callB (lenK (K := K) (by rfl)) (by rfl) T.f_len (by decide +kernel) (pa_cons (pe_ix (ixT (K := K) (by rfl)) (pe_ix (ixT (K := K) (by rfl)) (pv 6) (pe_op op_sub (pv 9) pe_int) (fun _ _ => rfl)) pe_int (fun _ _ => rfl)) pa_nil)) pe_int) pa_nil))) (pg_name (i := 11) sc.nd rfl (by first | exact Or.inl rfl | exact Or.inr rfl))
            (pss_cons (ps_set (i := 10) sc.nd rfl (Or.inl rfl) (pe_dget2 (hu_of hr) (pv 1) (pe_tup (pa_cons (pv 3) (pa_cons (pv 9) (pa_cons (pv 11) pa_nil)))) pe_str ⟨rfl, rfl, rfl, rfl⟩))
              (pss_cons (ps_if (pt_cmpR op_eq (pv 10) pe_str (nomark _)) (pss_one ps_break) pss_nil)
              (pss_cons (ps_set (i := 7) sc.nd rfl (Or.inl rfl) (pe_or (pv 7) (pe_one (pe_cmpR op_eq (pv 10) pe_str (nomark _)))))
              (pss_one (ps_expr (pe_bm PySem.F.plainAttrs_list PySem.F.slot_list_append PySem.F.type_list_append mt_append (pv 8) (pa_cons (pe_tup (pa_cons (pv 3) (pa_cons (pv 9) (pa_cons (pv 11) pa_nil)))) pa_nil))))))))
          (pss_one (ps_if (pt_cmp (pc_din (hu_of hr) (pe_tup (pa_cons (pv 3) (pa_cons (pv 9) pa_nil))) (pv 2))) (pss_one ps_break) pss_nil)))))))))
      (pss_one (ps_ret (pe_tup (pa_cons (pv 7) (pa_cons (pv 8) pa_nil))))))))), fun us M q h => ?_⟩)
  case len => rintro us M q ⟨_, _, _, _, _, _, _, _, _, rfl, _⟩; rfl
  obtain ⟨p, F, G, h, s, i, l, c0, up, rfl, hp, hl, hc0, hh, hs0, hq⟩ := h
  have hlm := List.mem_of_getElem? hl
  have hl12 := hp.places l hlm
  unfold ePlan
  walk_at "go"
  refine r_ixT (u := eLoop l) (atI_nat (by rw [List.getElem?_map, hl]; rfl)) ?_
  walk_at "w"
  walk_at "ro"
  walk_at "w"
  walk_at "ro"
  walk_at "w"
  intro a
  refine wg_name ?_ (by with_unfolding_all rfl)
  walk_at "ro"
  refine ws_seq ?_
  refine ws_forX (α := Nat) (wi_rng3 ?_)
  walk_at "w"
  unfold eLoop
  walk_at "w"
  intro tmp
  walk_at "w"
  rw [show decide ((0 : Int) < (if up = true then 1 else -1)) = up from by cases up <;> rfl]
  refine rc_intB ?_
  refine r_ixL (u := .int (if up = true then (l.length : Int) + 2 else -1)) (.head _) (by rw [List.length_map]; cases up <;> rfl) ?_
  walk_at "w"
  refine ⟨_, _, _, _, rfl, rgc_walk up hc0 hl12, ?_⟩
  have hku : ∀ k, k < (if up = true then l.length + 1 - c0 else c0) → (up = false → 1 ≤ curOf up c0 k) ∧ nxt up (curOf up c0 k) = curOf up c0 (k + 1) ∧ (c0 : Int) + (if up = true then 1 else -1) + (k : Int) * (if up = true then 1 else -1) = (nxt up (curOf up c0 k) : Nat) := fun k hk => by
    unfold nxt curOf
    cases up with
    | true =>
      simp at hk ⊢
      omega
    | false =>
      simp at hk ⊢
      omega
  have hW : walkM F G i l up c0 = visit F G i l up (if up = true then l.length + 1 - c0 else c0) c0 := rfl
  have hwl := walk_len hp hl F G up hc0
  revert hku hW
  generalize (if up = true then l.length + 1 - c0 else c0) = n
  intro hku hW
  refine ⟨List.range n, fun k => .int (nxt up (curOf up c0 k) : Nat), List.map_congr_left fun k hk => by rw [(hku k (List.mem_range.mp hk)).2.2], fun k M' ρ' => ∃ (P S : List Spot), RLe [some (ePlan p), some (.ptr h), some (.ptr s), some (.int (i : Nat)), none, some (.int (if up = true then 1 else -1)), some (eLoop l), some (.bl (P.any (isHow F "short"))), some (.ptr a), none, none, none] ρ' ∧
    Sub ((a, .l (S.map eSp)) :: M) M' ∧ walkM F G i l up c0 = (P ++ (visit F G i l up (n - k) (curOf up c0 k)).1, S ++ (visit F G i l up (n - k) (curOf up c0 k)).2), ⟨[], [], by walk_at "rle", .skip (Sub.refl _), by rw [hW, show curOf up c0 0 = c0 from by unfold curOf; split <;> rfl]; rfl⟩, fun _ _ _ _ => trivial, fun k x M' ρ' hx ⟨P, S, hr, hs, hT⟩ => ?_, fun M' ρ' ⟨P, S, hr, hs, hT⟩ => ?_⟩
  · obtain ⟨rfl, hk⟩ := range_at hx
    obtain ⟨hcu, hnx, _⟩ := hku x hk
    have hwl2 : P.length ≤ 60 ∧ S.length ≤ 60 := by
      rw [hT] at hwl
      simp only [List.length_append] at hwl
      omega
    rw [show n - x = (n - (x + 1)) + 1 from by omega] at hT
    dsimp only
    rw [← hnx]
    generalize hcc : curOf up c0 x = c at *
    unfold visit at hT
    unfold ePlan at hr
    refine WG.fr hs hr ?_
    walk_at "w"
    walk_at "ro"
    walk_at "w"
    refine w_dget ?_
    walk_at "w"
    refine ⟨_, _, rfl, .tail _ hh, ?_⟩
    walk_at "w"
    rw [edg_min2 up hcu]
    refine ⟨.tail _ hh, kSp (i, edg up c, 0), rfl, ?_⟩
    walk_at "w"
    refine ⟨.tail _ hh, ?_⟩
    rw [look_hkv, getD_str]
    walk_at "w"
    walk_at "ro"
    walk_at "w"
    rw [how_cutW]
    cases hct : isHow F "cut" (i, edg up c, 0) with
    | true =>
      rw [hct, if_pos rfl, List.append_nil, List.append_nil] at hT
      walk_at "w"
      refine ⟨_, Sub.refl _, ?_⟩
      have z := hq a
      rw [hT] at z
      exact z
    | false =>
      rw [hct, if_neg Bool.false_ne_true] at hT
      walk_at "w"
      refine w_orP (w_var (by with_unfolding_all rfl) ⟨_, isHow F "short" (i, edg up c, 0), rfl, ?_, ?_⟩)
      · walk_at "w"
        rw [how_shortW]
        exact ⟨rfl, rfl⟩
      have hP : (P.any (isHow F "short") || isHow F "short" (i, edg up c, 0)) = (P ++ [(i, edg up c, 0)]).any (isHow F "short") := by
        rw [List.any_append, List.any_cons, List.any_nil, Bool.or_false]
      rw [hP]
      walk_at "w"
      walk_at "ro"
      walk_at "w"
      by_cases ho : nxt up c < 1 ∨ l.length < nxt up c
      · rw [if_pos ho] at hT
        by_cases h1 : nxt up c < 1
        · rw [show decide (((nxt up c : Nat) : Int) = 0) = true from decide_eq_true (by omega)]
          walk_at "w"
          refine ⟨_, Sub.refl _, ?_⟩
          have z := hq a
          rw [hT, List.append_nil] at z
          exact z
        · rw [show decide (((nxt up c : Nat) : Int) = 0) = false from decide_eq_false (by omega)]
          walk_at "w"
          unfold eLoop
          walk_at "w"
          rw [List.length_map, show decide (((l.length : Nat) : Int) < (nxt up c : Nat)) = true from decide_eq_true (by omega)]
          walk_at "w"
          refine ⟨_, Sub.refl _, ?_⟩
          have z := hq a
          rw [hT, List.append_nil] at z
          exact z
      · rw [if_neg ho] at hT
        rw [show decide (((nxt up c : Nat) : Int) = 0) = false from decide_eq_false (by omega)]
        walk_at "w"
        unfold eLoop
        walk_at "w"
        rw [List.length_map, show decide (((l.length : Nat) : Int) < (nxt up c : Nat)) = false from decide_eq_false (by omega)]
        walk_at "w"
        walk_at "bm"
        walk_at "w"
        refine rm_append put1 (by rw [List.length_map]; omega) ?_
        walk_at "w"
        have hsl := spur_le hp hl (nxt up c)
        have hxx : l[nxt up c - 1]? = some l[nxt up c - 1] := List.getElem?_eq_getElem (by omega)
        have hse := spurLen_of hxx
        revert hxx hse
        generalize l[nxt up c - 1] = y
        intro hxx hse
        have ex : ∃ k ad, ePl y = .tup [.str k, .int ad, .tup (y.spur.map eDev)] := by
          cases y with
          | op => exact ⟨_, _, rfl⟩
          | dev d sp => exact ⟨_, _, rfl⟩
        obtain ⟨kk, ad, ex⟩ := ex
        have hcut1 : 1 ≤ nxt up c := by omega
        generalize hd : nxt up c = d at *
        generalize hE : ((i, edg up c, 0) : Spot) = E0
        generalize hws : ((List.range y.spur.length).map fun w => ((i, d, w + 1) : Spot)) = ws
        have hwsl : ws.length ≤ 3 := by
          rw [← hws, List.length_map, List.length_range]
          omega
        have hWays : waysOf F i l d = ws.takeWhile fun s => !isHow F "cut" s := by
          unfold waysOf
          rw [hse, hws]
        refine ws_cutS ((a, .l ((S ++ (i, d, 0) :: waysOf F i l d).map eSp)) :: M) [some (ePlan p), some (.ptr h), some (.ptr s), some (.int (i : Nat)), none, some (.int (if up = true then 1 else -1)), some (eLoop l), some (.bl ((P ++ E0 :: waysOf F i l d).any (isHow F "short"))), some (.ptr a), some (.int (d : Nat)), none, none] ?_ fun M2 ρ2 hs2 hr2 => WS.fr hs2 hr2 ?_
        · refine ws_forX (α := Nat) (wi_rng2 ?_)
          walk_at "w"
          refine r_ixT (u := ePl y) (by rw [show ((d : Int) - 1) = ((d - 1 : Nat) : Int) from by omega]; exact atI_nat (by rw [List.getElem?_map, hxx]; rfl)) ?_
          rw [ex]
          walk_at "w"
          rw [List.length_map]
          refine ⟨_, _, rfl, ⟨by omega, by omega, by omega, by omega⟩, ?_⟩
          rw [show (((y.spur.length : Nat) : Int) + 1 - 1).toNat = y.spur.length from by omega]
          refine ⟨List.range y.spur.length, fun w => .int (1 + (w : Nat)), rfl, fun w M' ρ' => RLe [some (ePlan p), some (.ptr h), some (.ptr s), some (.int (i : Nat)), none, some (.int (if up = true then 1 else -1)), some (eLoop l), some (.bl ((P ++ E0 :: ws.take w).any (isHow F "short"))), some (.ptr a), some (.int (d : Nat)), none, none] ρ' ∧
            Sub ((a, .l ((S ++ (i, d, 0) :: ws.take w).map eSp)) :: M) M' ∧ ∀ y ∈ ws.take w, (!isHow F "cut" y) = true, ⟨by rw [List.take_zero]; walk_at "rle", by rw [List.take_zero, List.map_append]; exact Sub.refl _, by simp⟩, fun _ _ _ _ => trivial, fun w' w M3 ρ3 hw ⟨hr3, hs3, hn3⟩ => ?_, fun M3 ρ3 ⟨hr3, hs3, hn3⟩ => ?_⟩
          · obtain ⟨rfl, hwl⟩ := range_at hw
            have hg : ws[w]? = some (i, d, w + 1) := by rw [← hws, List.getElem?_map, hw]; rfl
            have htl : (ws.take w).length ≤ 3 := by rw [List.length_take]; omega
            refine WG.fr hs3 hr3 ?_
            walk_at "w"
            walk_at "ro"
            walk_at "w"
            refine w_dget ?_
            walk_at "w"
            refine ⟨_, _, rfl, .tail _ hh, ?_⟩
            walk_at "w"
            refine ⟨.tail _ hh, kSp (i, d, w + 1), by rw [Int.add_comm 1]; rfl, ?_⟩
            walk_at "w"
            refine ⟨.tail _ hh, ?_⟩
            rw [look_hkv, getD_str]
            walk_at "w"
            walk_at "ro"
            walk_at "w"
            rw [how_cutW]
            cases hct2 : isHow F "cut" (i, d, w + 1) with
            | true =>
              walk_at "w"
              have e : waysOf F i l d = ws.take w := by
                rw [hWays]
                exact tw_stop hn3 hg (by simp [hct2])
              rw [e]
              first | exact ⟨Sub.refl _, by walk_at "rle"⟩ | walk_at "rle"
            | false =>
              walk_at "w"
              refine w_orP (w_var (by with_unfolding_all rfl) ⟨_, isHow F "short" (i, d, w + 1), rfl, ?_, ?_⟩)
              · walk_at "w"
                rw [how_shortW]
                exact ⟨rfl, rfl⟩
              walk_at "w"
              walk_at "ro"
              walk_at "w"
              walk_at "bm"
              walk_at "w"
              refine rm_append put1 (by simp only [List.length_map, List.length_append, List.length_cons]; omega) ?_
              walk_at "w"
              have ea : ws.take (w + 1) = ws.take w ++ [(i, d, w + 1)] := by
                rw [List.take_add_one, hg]
                rfl
              have eb : (P ++ E0 :: ws.take (w + 1)).any (isHow F "short") = ((P ++ E0 :: ws.take w).any (isHow F "short") || isHow F "short" (i, d, w + 1)) := by
                rw [ea]
                simp only [List.any_append, List.any_cons, List.any_nil, Bool.or_false, Bool.or_assoc]
              refine ⟨?_, Sub.l_eq ?_ (Sub.refl _), fun y hy => ?_⟩
              · rw [eb]
                walk_at "rle"
              · rw [ea, ← List.cons_append, ← List.append_assoc, List.map_append (l₂ := [_]), Int.add_comm 1]
                rfl
              · rw [ea] at hy
                rcases List.mem_append.mp hy with hy | hy
                · exact hn3 y hy
                · rw [List.mem_singleton.mp hy, hct2]
                  rfl
          · have e : waysOf F i l d = ws := by
              rw [hWays]
              refine tw_all fun y hy => hn3 y ?_
              rw [List.take_of_length_le (by rw [List.length_range, ← hws]; simp)]
              exact hy
            rw [List.take_of_length_le (by rw [List.length_range, ← hws]; simp)] at hs3 hr3
            rw [e]
            exact ⟨hs3, hr3⟩
        · walk_at "w"
          refine w_dinT ?_
          walk_at "w"
          refine ⟨kGt (i, d), rfl, ?_⟩
          walk_at "w"
          refine ⟨_, _, rfl, .tail _ hs0, ?_⟩
          rw [look_gkv]
          by_cases hgG : (i, d) ∈ G
          · rw [decide_eq_true hgG]
            walk_at "w"
            refine ⟨_, Sub.refl _, ?_⟩
            have z := hq a
            subst hE
            simp only [hgG, if_true, List.append_nil] at hT
            rw [hT] at z
            exact z
          · rw [decide_eq_false hgG]
            walk_at "w"
            simp only [hgG, if_false] at hT
            refine ⟨P ++ E0 :: waysOf F i l d, S ++ (i, d, 0) :: waysOf F i l d, by walk_at "rle", Sub.refl _, ?_⟩
            subst hE
            rw [hT]
            simp only [List.append_assoc, List.cons_append]
  · refine WS.fr hs hr ?_
    walk_at "w"
    rw [List.length_range, Nat.sub_self] at hT
    refine ⟨_, Sub.refl _, ?_⟩
    have z := hq a
    rw [hT] at z
    simp only [visit, List.append_nil] at z
    exact z
end Wl
set_option Elab.async false
set_option linter.all false
set_option maxRecDepth 100000
set_option maxHeartbeats 4000000
namespace Wl
open PySem PySem.Spec PyProof.Rows L2
local macro_rules | `(tactic| walk_at "w1") => `(tactic| first
  | with_reducible refine ws_seq ?_
  | with_reducible refine ws_ret ?_
  | with_reducible refine ws_asg ?_
  | with_reducible refine ws_drop ?_
  | with_reducible refine ws_if ?_
  | with_reducible refine ws_next ?_
  | with_reducible refine w_var (by with_unfolding_all rfl) ?_
  | with_reducible refine w_int ?_
  | with_reducible refine w_str ?_
  | with_reducible refine w_bl ?_
  | with_reducible refine w_non ?_
  | with_reducible refine w_ref ?_
  | with_reducible refine w_isi2 ?_
  | with_reducible refine w_op ?_
  | with_reducible refine w_andV ?_
  | with_reducible refine w_notV ?_
  | with_reducible refine w_chain ?_
  | with_reducible refine wa_nil ?_
  | with_reducible refine wa_cons ?_
  | with_reducible refine w_tup ?_
  | with_reducible refine w_lst ?_
  | with_reducible refine w_tupF ?_
  | with_reducible refine w_call ?_
  | ((fail_if_success (with_reducible refine w_allT (α := Unit) ?_)); (fail_if_success (with_reducible refine w_anyB (α := Unit) ?_)); with_reducible refine w_cb ?_)
  | with_reducible refine w_bm ?_
  | with_reducible refine wt_test ?_
  | with_reducible refine wt_B ?_
  | with_reducible refine wt_not ?_
  | with_reducible refine wt_and ?_
  | with_reducible refine wt_or ?_
  | with_reducible refine wt_yes ?_
  | with_reducible refine wg_name ?_ (by with_unfolding_all rfl)
  | with_reducible refine wg_name ?_
  | with_reducible refine wgs_nil ?_
  | with_reducible refine wgs_cons ?_
  | with_reducible refine wg_tup (by with_unfolding_all rfl) ?_
  | with_reducible refine w_un ?_
  | with_reducible refine w_sl ?_
  | with_reducible refine wo_none ?_
  | with_reducible refine wo_some ?_
  | with_reducible refine r_ii ?_
  | with_reducible refine r_ib ?_
  | with_reducible refine r_eqI ?_
  | with_reducible refine r_eqS ?_
  | with_reducible refine r_neI ?_
  | with_reducible refine r_neS ?_
  | with_reducible refine rs_T ?_
  | with_reducible refine rc_lenT ?_
  | with_reducible refine rc_lenTf ?_
  | with_reducible refine rc_min ?_
  | with_reducible refine r_isN ?_
  | with_reducible refine r_noN ?_
  | with_reducible refine ws_break ?_
  | with_reducible refine ws_dput ?_
  | (with_reducible refine r_ixT (by with_unfolding_all rfl) ?_)
  | exact ⟨rfl, Sub.refl _⟩
  | refine ⟨Sub.refl _, ?_⟩
  | refine ⟨Nat.le_of_ble_eq_true (by with_unfolding_all rfl), ?_⟩
  | refine ⟨_, rfl, ?_⟩
  | refine ⟨true, rfl, fun _ => ?_, fun z => Bool.noConfusion z⟩
  | refine ⟨false, rfl, fun z => Bool.noConfusion z, fun _ => ?_⟩
  | refine ⟨false, rfl, fun _ => ?_, fun z => Bool.noConfusion z⟩
  | refine ⟨true, rfl, fun z => Bool.noConfusion z, fun _ => ?_⟩
  | refine ⟨fun _ => ?_, fun z => Bool.noConfusion z⟩
  | refine ⟨fun z => Bool.noConfusion z, fun _ => ?_⟩)
local macro_rules | `(tactic| walk_at "w") => `(tactic| repeat walk_at "w1")
local macro_rules | `(tactic| walk_at "in") => `(tactic| try dsimp only [XD, cxOf, Cx.nox, Cx.wish])
local macro_rules | `(tactic| walk_at "ro") => `(tactic| try simp only [startR, List.map_cons, List.map_nil, List.length_cons, List.length_nil, Nat.reduceAdd, Nat.reduceSub, Nat.zero_add, List.replicate_zero, List.replicate_succ, List.cons_append, List.nil_append, List.append_nil, List.set_cons_zero, List.set_cons_succ])
local macro_rules | `(tactic| walk_at "sub") => `(tactic| repeat (first | exact Sub.refl _ | exact Sub.nil' _ | refine Sub.keep ?_ | refine Sub.skip ?_))
local macro_rules | `(tactic| walk_at "go") => `(tactic| (walk_at "in"; walk_at "ro"; walk_at "w"))
local macro_rules | `(tactic| walk_at "rle") => `(tactic| repeat (first | exact RLe.refl _ | exact RLe.nil | refine RLe.keep ?_ | refine RLe.hole ?_))
local macro_rules | `(tactic| walk_at "mem") => `(tactic| repeat (first | exact List.mem_cons_self .. | refine List.mem_cons_of_mem _ ?_))
local macro_rules | `(tactic| walk_at "put") => `(tactic| repeat (first | exact Put.here | refine Put.there ?_))
local macro_rules | `(tactic| walk_at "bm") => `(tactic| (first | refine ⟨⟨_, _, rfl, rfl, (by walk_at "mem")⟩, ?_⟩ | refine ⟨⟨_, _, rfl, trivial, (by walk_at "mem")⟩, ?_⟩))
local macro_rules | `(tactic| walk_at "end") => `(tactic| (first | exact ⟨Sub.refl _, by walk_at "rle"⟩ | walk_at "rle"))
abbrev N__law_due : List Str := ["_law_plan_here", "_law_loop_here", "_law_faults", "_law_hows", "_law_gates_here", "_law_every", "_law_stops", "_law_found", "_law_place", "_law_step", "_law_gate", "_law_spots_here", "_law_spot"]
theorem sc__law_due : FnScope N__law_due ["_law_plan_here", "_law_loop_here", "_law_faults"] (defScope (atTop 61)) := ⟨rfl, rfl, rfl, by decide +kernel, rfl, by decide +kernel, by decide +kernel⟩
theorem fn_law_due {P : Program} {w : World} {K : PySem.W.Frag} {mg : Str → Option Value} {base : Heap} (T : Txt K mg) (F_law_walk : Fn P w K mg base 1 "_law_walk" ["_law_plan_here", "_law_hows", "_law_stops", "_law_loop_here", "_law_place", "_law_step"] C_law_walk) (F_law_gates : Fn P w K mg base 1 "_law_gates" ["_law_plan_here"] C_law_gates) (F_law_feels : Fn P w K mg base 2 "_law_feels" ["_law_plan_here", "_law_hows", "_law_stops", "_law_gate"] C_law_feels) : Fn P w K mg base 3 "_law_due" ["_law_plan_here", "_law_loop_here", "_law_faults"] C_law_due := by
  have sc := sc__law_due
  refine Fn.of T 41 rfl rfl sc (fun _ _ _ _ _ _ us hl => match us, hl with | [_, _, _], _ => rfl) ?len (fun f cdv A outer s H E hr => ⟨_, (pss_cons (ps_set (i := 3) sc.nd rfl (Or.inr rfl) (pe_callTy (dictK (K := K) (by rfl) rfl hr.units) (by rfl) T.f_dict (by decide +kernel) (pa_cons (pv 2) pa_nil)))
      (pss_cons (ps_set (i := 4) sc.nd rfl (Or.inr rfl) (pe_lc (own := [("_law_gate", 10)]) rfl sc.nd (piL (K := K) (by rfl) (pFn F_law_gates (by exact ⟨rfl, rfl, rfl, rfl, rfl⟩) (hr.mono (by decide)) (by rfl) (pa_cons (pv 0) pa_nil))) (blkOk_by (own := [("_law_gate", 10)]) (N := N__law_due) (sc := defScope (atTop 61)) (by decide +kernel)) (fun _ _ _ _ _ => (pg_name (i := 10) sc.nd rfl (by first | exact Or.inl rfl | exact Or.inr rfl))) (fun _ _ _ _ _ => (pts_one (pt_cmpR op_eq (pe_ix (ixT (K := K) (by rfl)) (pv 10) pe_int (fun _ _ => rfl)) (pv 1) (nomark _)))) (fun _ _ _ _ _ => (pv 10))))
      (pss_cons (ps_set (i := 5) sc.nd rfl (Or.inr rfl) (pe_callTy (dictK (K := K) (by rfl) rfl hr.units) (by rfl) T.f_dict (by decide +kernel) (pa_cons (pe_lc (own := [("_law_gate", 10)]) rfl sc.nd (piL (K := K) (by rfl) (pv 4)) (blkOk_by (own := [("_law_gate", 10)]) (N := N__law_due) (sc := defScope (atTop 61)) (by decide +kernel)) (fun _ _ _ _ _ => (pg_name (i := 10) sc.nd rfl (by first | exact Or.inl rfl | exact Or.inr rfl))) (fun _ _ _ _ _ => pts_nil) (fun _ _ _ _ _ => (pe_tup (pa_cons (pv 10) (pa_cons pe_bl pa_nil))))) pa_nil)))
      (pss_cons (ps_set (i := 6) sc.nd rfl (Or.inl rfl) (pe_callTy (dictK (K := K) (by rfl) rfl hr.units) (by rfl) T.f_dict (by decide +kernel) (pa_cons (pe_lc (own := [("_law_gate", 10)]) rfl sc.nd (piL (K := K) (by rfl) (pv 4)) (blkOk_by (own := [("_law_gate", 10)]) (N := N__law_due) (sc := defScope (atTop 61)) (by decide +kernel)) (fun _ _ _ _ _ => (pg_name (i := 10) sc.nd rfl (by first | exact Or.inl rfl | exact Or.inr rfl))) (fun _ _ _ _ _ => (pts_one (pt_val (pFn F_law_feels (by exact ⟨rfl, rfl, rfl, rfl, rfl⟩) (hr.mono (by decide)) (by rfl) (pa_cons (pv 0) (pa_cons (pv 3) (pa_cons (pv 5) (pa_cons (pv 10) pa_nil)))))))) (fun _ _ _ _ _ => (pe_tup (pa_cons (pv 10) (pa_cons pe_bl pa_nil))))) pa_nil)))
      (pss_cons (ps_set (i := 7) sc.nd rfl (Or.inl rfl) (pe_lst pa_nil))
      (pss_cons (ps_for PassesOwn.never rfl (piT (K := K) (by rfl) (pe_tup (pa_cons (pe_tup (pa_cons pe_int (pa_cons pe_int pa_nil))) (pa_cons (pe_tup (pa_cons (pe_op op_add (pe_callB (lenK (K := K) (by rfl)) (by rfl) T.f_len (by decide +kernel) (pa_cons (pe_ix (ixT (K := K) (by rfl)) (pe_ix (ixT (K := K) (by rfl)) (pv 0) pe_int (fun _ _ => rfl)) (pv 1) (fun _ _ => rfl)) pa_nil)) pe_int) (pa_cons (pe_un un_neg pe_int) pa_nil))) pa_nil)))) (pgT (K := K) (n := 2) (by rfl) rfl (pgs_cons (pg_name (i := 8) sc.nd rfl (by first | exact Or.inl rfl | exact Or.inr rfl)) (pgs_cons (pg_name (i := 9) sc.nd rfl (by first | exact Or.inl rfl | exact Or.inr rfl)) pgs_nil)))
        (pss_one (ps_if (pt_cmp (pc_din (hu_of hr) (pe_tup (pa_cons (pv 1) (pa_cons (pv 8) pa_nil))) (pv 6))) (pss_one (ps_expr (pe_bm PySem.F.plainAttrs_list PySem.F.slot_list_append PySem.F.type_list_append mt_append (pv 7) (pa_cons (pe_tup pa_nil) pa_nil)))) (pss_cons (ps_set (i := 11) sc.nd rfl (Or.inl rfl) (pe_ix (ixT (K := K) (by rfl)) (pFn F_law_walk (by exact ⟨rfl, rfl, rfl, rfl, rfl⟩) (hr.mono (by decide)) (by rfl) (pa_cons (pv 0) (pa_cons (pv 3) (pa_cons (pv 6) (pa_cons (pv 1) (pa_cons (pv 8) (pa_cons (pv 9) pa_nil))))))) pe_int (fun _ _ => rfl)))
              (pss_one (ps_expr (pe_bm PySem.F.plainAttrs_list PySem.F.slot_list_append PySem.F.type_list_append mt_append (pv 7) (pa_cons (pe_callTy (tupL (K := K) (by rfl)) (by rfl) T.f_tuple (by decide +kernel) (pa_cons (pe_callB (sortD (K := K) (by rfl) (u50 hr)) (by rfl) T.f_sorted (by decide +kernel) (pa_cons (pe_lc (own := [("_law_spot", 12)]) rfl sc.nd (piL (K := K) (by rfl) (pv 11)) (blkOk_by (own := [("_law_spot", 12)]) (N := N__law_due) (sc := defScope (atTop 61)) (by decide +kernel)) (fun _ _ _ _ _ => (pg_name (i := 12) sc.nd rfl (by first | exact Or.inl rfl | exact Or.inr rfl))) (fun _ _ _ _ _ => (pts_one (pt_cmpR (notInD (K := K) (by rfl) (u65 hr)) (pe_tup (pa_cons (pe_ix (ixT (K := K) (by rfl)) (pv 12) pe_int (fun _ _ => rfl)) (pa_cons (pe_ix (ixT (K := K) (by rfl)) (pv 12) pe_int (fun _ _ => rfl)) pa_nil))) (pv 4) (by rfl)))) (fun _ _ _ _ _ => (pv 12))) pa_nil)) pa_nil)) pa_nil))))))))
      (pss_one (ps_ret (pe_callTy (tupL (K := K) (by rfl)) (by rfl) T.f_tuple (by decide +kernel) (pa_cons (pv 7) pa_nil)))))))))), fun us M q h => ?_⟩)
  case len => rintro us M q ⟨_, _, _, _, rfl, _⟩; rfl
  obtain ⟨p, F, i, l, rfl, hp, hl, hF, hFl, hq⟩ := h
  have hlm := List.mem_of_getElem? hl
  have hl12 := hp.places l hlm
  have hgl := loopGates_len i l
  have hg := gates_take hp p.loops.length
  rw [show p.loops.zipIdx.take p.loops.length = p.loops.zipIdx from List.take_of_length_le (by simp)] at hg
  have hogl : (openersOf p).length ≤ 42 := hg
  rw [eFs_pair]
  walk_at "go"
  refine rc_dictF (hkv_nodup hF) (by unfold hkv; rw [List.length_map]; omega) fun hw => ?_
  walk_at "w"
  walk_at "ro"
  walk_at "w"
  refine w_lcp (α := Gate) (wi_list ?_)
  walk_at "w"
  refine ⟨hp, fun b => ?_⟩
  refine ⟨b, _, rfl, List.mem_cons_self .., ?_⟩
  refine ⟨openersOf p, eGt, fun r => decide (r.1 = i), eGt, rfl, by omega, fun _ _ => .tail _ (.head _), fun D acc r hr => ?_, fun g => ?_⟩
  · unfold eGt
    walk_at "w"
    walk_at "ro"
    walk_at "w"
    refine ⟨?_, Sub.refl _, fun _ => ?_⟩
    · exact decide_eq_decide.mpr (by omega)
    · walk_at "w"
  rw [gates_loop hl]
  walk_at "w"
  walk_at "ro"
  walk_at "w"
  refine w_lcm (α := Gate) (wi_list ?_)
  walk_at "w"
  refine ⟨_, _, rfl, .head _, ?_⟩
  refine ⟨loopGates i l, eGt, fun r => .tup [eGt r, .bl true], rfl, by omega, fun _ _ => .tail _ (.head _), fun D acc r hr => ?_, fun D => ?_⟩
  · walk_at "w"
    walk_at "ro"
    walk_at "w"
  rw [gkv_pair]
  walk_at "w"
  refine rc_dictL (List.mem_cons_self ..) (gkv_nodup (gates_nodup i l)) (by unfold gkv; rw [List.length_map]; omega) fun ev => ?_
  walk_at "w"
  walk_at "ro"
  walk_at "w"
  refine w_lcp (α := Gate) (wi_list ?_)
  walk_at "w"
  refine ⟨_, _, rfl, .tail _ (.tail _ (.head _)), ?_⟩
  refine ⟨loopGates i l, eGt, fun r => feelsM F (loopGates i l) i l r.2, fun r => .tup [eGt r, .bl true], rfl, by omega, fun _ _ => .tail _ (.tail _ (.tail _ (.head _))), fun D2 acc r hr => ?_, fun D2 => ?_⟩
  · obtain ⟨h1, h2, _⟩ := gates_mem hr
    walk_at "w"
    walk_at "ro"
    walk_at "w"
    refine ⟨p, F, loopGates i l, hw, ev, i, l, r.2, by rw [← h1], hp, hl, h2, by walk_at "mem", .tail _ (.head _), ?_⟩
    walk_at "w"
    refine ⟨rfl, Sub.refl _, fun _ => ?_⟩
    walk_at "w"
  rw [gkv_pair]
  have hsl : ((loopGates i l).filter fun r => feelsM F (loopGates i l) i l r.2).length ≤ 14 := Nat.le_trans (List.length_filter_le _ _) (by omega)
  walk_at "w"
  refine rc_dictL (List.mem_cons_self ..) (gkv_nodup ((gates_nodup i l).sublist List.filter_sublist)) (by unfold gkv; rw [List.length_map]; omega) fun st => ?_
  walk_at "w"
  walk_at "ro"
  walk_at "w"
  intro f
  walk_at "w"
  walk_at "ro"
  refine ws_forF (α := Bool) [some (ePlan p), some (.int (i : Nat)), none, some (.ptr hw), some (.ptr g), none, some (.ptr st), some (.ptr f), none, none, none, none, none] (fun ups k => (f, .l ((ups.take k).map fun u => .tup (heardP F i l (devL i l) u))) :: (st, .dt (gkv (stopsM F i l))) :: (g, .l ((loopGates i l).map eGt)) :: (hw, .dt (hkv F)) :: M) (by walk_at "rle") (wi_tup ?_)
  walk_at "w"
  unfold ePlan
  walk_at "w"
  refine r_ixT (u := eLoop l) (atI_nat (by rw [List.getElem?_map, hl]; rfl)) ?_
  unfold eLoop
  walk_at "w"
  rw [List.length_map]
  refine ⟨[true, false], fun u => .tup [.int (endOf l u : Nat), .int (if u = true then 1 else -1)], rfl, by walk_at "sub", fun _ _ _ => trivial, fun k u hu => ?_, fun M' ρ' hs hr => ?_⟩
  · have hk := (List.getElem?_eq_some_iff.mp hu).1
    have hhl := heard_len hp hl F (stopsM F i l) u
    have hend : endOf l u ≤ l.length + 1 := by unfold endOf; split <;> omega
    have hwl := walk_len hp hl F (stopsM F i l) u hend
    walk_at "w"
    walk_at "ro"
    walk_at "w"
    refine w_dinT ?_
    walk_at "w"
    refine ⟨kGt (i, endOf l u), rfl, ?_⟩
    walk_at "w"
    refine ⟨_, _, rfl, .tail _ (.head _), ?_⟩
    rw [look_gkv]
    by_cases hg : (i, endOf l u) ∈ stopsM F i l
    · rw [decide_eq_true hg]
      have hP : heardP F i l (devL i l) u = [] := by
        unfold heardP
        rw [heard_plain, if_pos hg]
        simp
      walk_at "w"
      walk_at "bm"
      walk_at "w"
      refine rm_append put1 (by simp only [List.length_map, List.length_take, List.length_cons, List.length_nil]; omega) ?_
      walk_at "w"
      refine ⟨Sub.l_eq ?_ (Sub.refl _), by walk_at "rle"⟩
      rw [List.take_add_one, hu, List.map_append]
      simp only [Option.toList_some, List.map_cons, List.map_nil, hP]
    · rw [decide_eq_false hg]
      have hH : heardM F (stopsM F i l) i l u = (walkM F (stopsM F i l) i l u (endOf l u)).2 := by rw [heard_plain, if_neg hg]
      walk_at "w"
      refine ⟨p, F, stopsM F i l, hw, st, i, l, endOf l u, u, rfl, hp, hl, hend, by walk_at "mem", .tail _ (.head _), fun sm => ?_⟩
      rw [← hH]
      walk_at "w"
      walk_at "ro"
      walk_at "w"
      walk_at "bm"
      walk_at "w"
      refine w_lcp (α := Spot) (wi_list ?_)
      walk_at "w"
      refine ⟨_, _, rfl, .head _, ?_⟩
      refine ⟨heardM F (stopsM F i l) i l u, eSp, fun s => !decide ((s.1, s.2.1) ∈ loopGates i l), eSp, rfl, by omega, fun _ _ => .tail _ (.head _), fun D3 acc r hr => ?_, fun D3 => ?_⟩
      · unfold eSp
        walk_at "w"
        walk_at "ro"
        walk_at "w"
        refine r_notInD (n := 1) (m := 1) (b := decide ((r.1, r.2.1) ∈ loopGates i l)) (.tail _ (.tail _ (.tail _ (.tail _ (.head _))))) rfl (plnA_gt _) (by omega) (by omega) (in_gates _ _) ?_
        walk_at "w"
        refine ⟨rfl, Sub.refl _, fun _ => ?_⟩
        walk_at "w"
      · have hfl : ((heardM F (stopsM F i l) i l u).filter fun s => decide (s ∈ devL i l)).length ≤ 60 := Nat.le_trans (List.length_filter_le _ _) hhl
        rw [← heard_filt]
        walk_at "w"
        refine rc_sortD (n := 1) (List.mem_cons_self ..) (plnA_sp _) (by omega) (alike_sp _) (sort_sp _) (by rw [List.length_map]; omega) fun sq => ?_
        walk_at "w"
        refine rc_tupleL (List.mem_cons_self ..) ?_
        walk_at "w"
        refine rm_append (.there (.there (.there .here))) (by simp only [List.length_map, List.length_take, List.length_cons, List.length_nil]; omega) ?_
        walk_at "w"
        refine ⟨.skip (.skip (.skip (Sub.l_eq ?_ (Sub.refl _)))), by walk_at "rle"⟩
        rw [List.take_add_one, hu, List.map_append]
        rfl
  · refine WS.fr hs hr ?_
    walk_at "w"
    refine rc_tupleL (List.mem_cons_self ..) ?_
    walk_at "w"
    exact ⟨M, by walk_at "sub", hq⟩
end Wl
set_option Elab.async false
set_option linter.all false
set_option maxRecDepth 100000
set_option maxHeartbeats 4000000
namespace Wl
open PySem PySem.Spec PyProof.Rows L2
local macro_rules | `(tactic| walk_at "w1") => `(tactic| first
  | with_reducible refine ws_seq ?_
  | with_reducible refine ws_ret ?_
  | with_reducible refine ws_asg ?_
  | with_reducible refine ws_drop ?_
  | with_reducible refine ws_if ?_
  | with_reducible refine ws_next ?_
  | with_reducible refine w_var (by with_unfolding_all rfl) ?_
  | with_reducible refine w_int ?_
  | with_reducible refine w_str ?_
  | with_reducible refine w_bl ?_
  | with_reducible refine w_non ?_
  | with_reducible refine w_ref ?_
  | with_reducible refine w_isi2 ?_
  | with_reducible refine w_op ?_
  | with_reducible refine w_andV ?_
  | with_reducible refine w_notV ?_
  | with_reducible refine w_chain ?_
  | with_reducible refine wa_nil ?_
  | with_reducible refine wa_cons ?_
  | with_reducible refine w_tup ?_
  | with_reducible refine w_lst ?_
  | with_reducible refine w_tupF ?_
  | with_reducible refine w_call ?_
  | ((fail_if_success (with_reducible refine w_allT (α := Unit) ?_)); (fail_if_success (with_reducible refine w_anyB (α := Unit) ?_)); with_reducible refine w_cb ?_)
  | with_reducible refine w_bm ?_
  | with_reducible refine wt_test ?_
  | with_reducible refine wt_B ?_
  | with_reducible refine wt_not ?_
  | with_reducible refine wt_and ?_
  | with_reducible refine wt_or ?_
  | with_reducible refine wt_yes ?_
  | with_reducible refine wg_name ?_ (by with_unfolding_all rfl)
  | with_reducible refine wg_name ?_
  | with_reducible refine wgs_nil ?_
  | with_reducible refine wgs_cons ?_
  | with_reducible refine wg_tup (by with_unfolding_all rfl) ?_
  | with_reducible refine w_un ?_
  | with_reducible refine w_sl ?_
  | with_reducible refine wo_none ?_
  | with_reducible refine wo_some ?_
  | with_reducible refine r_ii ?_
  | with_reducible refine r_ib ?_
  | with_reducible refine r_eqI ?_
  | with_reducible refine r_eqS ?_
  | with_reducible refine r_neI ?_
  | with_reducible refine r_neS ?_
  | with_reducible refine rs_T ?_
  | with_reducible refine rc_lenT ?_
  | with_reducible refine rc_lenTf ?_
  | with_reducible refine rc_min ?_
  | with_reducible refine r_isN ?_
  | with_reducible refine r_noN ?_
  | with_reducible refine ws_break ?_
  | with_reducible refine ws_dput ?_
  | (with_reducible refine r_ixT (by with_unfolding_all rfl) ?_)
  | exact ⟨rfl, Sub.refl _⟩
  | refine ⟨Sub.refl _, ?_⟩
  | refine ⟨Nat.le_of_ble_eq_true (by with_unfolding_all rfl), ?_⟩
  | refine ⟨_, rfl, ?_⟩
  | refine ⟨true, rfl, fun _ => ?_, fun z => Bool.noConfusion z⟩
  | refine ⟨false, rfl, fun z => Bool.noConfusion z, fun _ => ?_⟩
  | refine ⟨false, rfl, fun _ => ?_, fun z => Bool.noConfusion z⟩
  | refine ⟨true, rfl, fun z => Bool.noConfusion z, fun _ => ?_⟩
  | refine ⟨fun _ => ?_, fun z => Bool.noConfusion z⟩
  | refine ⟨fun z => Bool.noConfusion z, fun _ => ?_⟩)
local macro_rules | `(tactic| walk_at "w") => `(tactic| repeat walk_at "w1")
local macro_rules | `(tactic| walk_at "in") => `(tactic| try dsimp only [XD, cxOf, Cx.nox, Cx.wish])
local macro_rules | `(tactic| walk_at "ro") => `(tactic| try simp only [startR, List.map_cons, List.map_nil, List.length_cons, List.length_nil, Nat.reduceAdd, Nat.reduceSub, Nat.zero_add, List.replicate_zero, List.replicate_succ, List.cons_append, List.nil_append, List.append_nil, List.set_cons_zero, List.set_cons_succ])
local macro_rules | `(tactic| walk_at "sub") => `(tactic| repeat (first | exact Sub.refl _ | exact Sub.nil' _ | refine Sub.keep ?_ | refine Sub.skip ?_))
local macro_rules | `(tactic| walk_at "go") => `(tactic| (walk_at "in"; walk_at "ro"; walk_at "w"))
local macro_rules | `(tactic| walk_at "rle") => `(tactic| repeat (first | exact RLe.refl _ | exact RLe.nil | refine RLe.keep ?_ | refine RLe.hole ?_))
local macro_rules | `(tactic| walk_at "mem") => `(tactic| repeat (first | exact List.mem_cons_self .. | refine List.mem_cons_of_mem _ ?_))
local macro_rules | `(tactic| walk_at "put") => `(tactic| repeat (first | exact Put.here | refine Put.there ?_))
local macro_rules | `(tactic| walk_at "bm") => `(tactic| (first | refine ⟨⟨_, _, rfl, rfl, (by walk_at "mem")⟩, ?_⟩ | refine ⟨⟨_, _, rfl, trivial, (by walk_at "mem")⟩, ?_⟩))
local macro_rules | `(tactic| walk_at "end") => `(tactic| (first | exact ⟨Sub.refl _, by walk_at "rle"⟩ | walk_at "rle"))
theorem atI_ok {us : List U} {j : Int} {k : Nat} {u : U} (h : j = (k : Nat)) (e : us[k]? = some u) : atI us j = some u := by
  rw [h]
  exact atI_nat e
theorem prime_at {j : Int} (h0 : 0 ≤ j) (h1 : j < 7) : ∃ x : Int, atI [U.int 2147483629, .int 2147483587, .int 2147483579, .int 2147483563, .int 2147483549, .int 2147483543, .int 2147483497] j = some (.int x) ∧ 2147483496 < x ∧ x < 2147483648 := by
  have : j = 0 ∨ j = 1 ∨ j = 2 ∨ j = 3 ∨ j = 4 ∨ j = 5 ∨ j = 6 := by omega
  rcases this with rfl | rfl | rfl | rfl | rfl | rfl | rfl
  · exact ⟨_, atI_ok (k := 0) rfl rfl, by omega, by omega⟩
  · exact ⟨_, atI_ok (k := 1) rfl rfl, by omega, by omega⟩
  · exact ⟨_, atI_ok (k := 2) rfl rfl, by omega, by omega⟩
  · exact ⟨_, atI_ok (k := 3) rfl rfl, by omega, by omega⟩
  · exact ⟨_, atI_ok (k := 4) rfl rfl, by omega, by omega⟩
  · exact ⟨_, atI_ok (k := 5) rfl rfl, by omega, by omega⟩
  · exact ⟨_, atI_ok (k := 6) rfl rfl, by omega, by omega⟩
theorem base_ok {n t : Int} (h0 : 0 ≤ n) (h1 : n ≤ 4294967296) (t0 : 0 ≤ t) (t1 : t ≤ 100001) : (n * (2 * t + 1) + 6007 * t * t + 29).natAbs < 2 ^ 64 := by
  have a1 : n * (2 * t + 1) ≤ 4294967296 * 200003 := Int.mul_le_mul h1 (by omega) (by omega) (by omega)
  have a2 : 0 ≤ n * (2 * t + 1) := Int.mul_nonneg h0 (by omega)
  have b1 : 6007 * t * t ≤ 600706007 * 100001 := Int.mul_le_mul (by omega) t1 t0 (by omega)
  have b2 : 0 ≤ 6007 * t * t := Int.mul_nonneg (by omega) t0
  omega
abbrev N__law_take : List Str := ["_law_bag_here", "_law_many", "_law_primes", "_law_step", "_law_base", "_law_found", "_law_digit"]
theorem sc__law_take : FnScope N__law_take ["_law_bag_here", "_law_many"] (defScope (atTop 51)) := ⟨rfl, rfl, rfl, by decide +kernel, rfl, by decide +kernel, by decide +kernel⟩
theorem fn_law_take {P : Program} {w : World} {K : PySem.W.Frag} {mg : Str → Option Value} {base : Heap} (T : Txt K mg) : Fn P w K mg base 1 "_law_take" ["_law_bag_here", "_law_many"] C_law_take := by
  have sc := sc__law_take
  refine Fn.of T 31 rfl rfl sc (fun _ _ _ _ _ _ us hl => match us, hl with | [_, _], _ => rfl) ?len (fun f cdv A outer s H E hr => ⟨_, (pss_cons (ps_if (pt_cmpR op_gt (pe_ix (ixL (K := K) (by rfl)) (pv 0) pe_int (fun _ _ => rfl)) pe_int (nomark _)) (pss_cons (ps_set (i := 6) sc.nd rfl (Or.inl rfl) (pe_op op_mod (pe_ix (ixL (K := K) (by rfl)) (pv 0) pe_int (fun _ _ => rfl)) (pv 1)))
          (pss_cons (ps_asg (pe_op op_fdiv (pe_ix (ixL (K := K) (by rfl)) (pv 0) pe_int (fun _ _ => rfl)) (pv 1)) (pg_sub (pv 0) pe_int set_list))
          (pss_one (ps_ret (pv 6))))) pss_nil)
      (pss_cons (ps_set (i := 2) sc.nd rfl (Or.inl rfl) (pe_tup (pa_cons pe_int (pa_cons pe_int (pa_cons pe_int (pa_cons pe_int (pa_cons pe_int (pa_cons pe_int (pa_cons pe_int pa_nil)))))))))
      (pss_cons (ps_asg (pe_op op_add (pe_ix (ixL (K := K) (by rfl)) (pv 0) pe_int (fun _ _ => rfl)) pe_int) (pg_sub (pv 0) pe_int set_list))
      (pss_cons (ps_set (i := 3) sc.nd rfl (Or.inl rfl) (pe_ix (ixL (K := K) (by rfl)) (pv 0) pe_int (fun _ _ => rfl)))
      (pss_cons (ps_set (i := 4) sc.nd rfl (Or.inl rfl) (pe_op op_add (pe_op op_add (pe_op op_mul (pe_ix (ixL (K := K) (by rfl)) (pv 0) pe_int (fun _ _ => rfl)) (pe_op op_add (pe_op op_mul pe_int (pv 3)) pe_int)) (pe_op op_mul (pe_op op_mul pe_int (pv 3)) (pv 3))) pe_int))
      (pss_cons (ps_set (i := 5) sc.nd rfl (Or.inl rfl) (pe_op op_mod (pe_op op_pow (pv 4) pe_int) (pe_ix (ixT (K := K) (by rfl)) (pv 2) (pe_op op_mod (pv 3) pe_int) (fun _ _ => rfl))))
      (pss_one (ps_ret (pe_op op_mod (pe_op op_fdiv (pe_op op_mod (pe_op op_mul (pv 5) (pe_op op_add (pe_op op_fdiv (pv 5) pe_int) pe_int)) (pe_ix (ixT (K := K) (by rfl)) (pv 2) (pe_op op_mod (pe_op op_add (pv 3) pe_int) pe_int) (fun _ _ => rfl))) pe_int) (pv 1)))))))))), fun us M q h => ?_⟩)
  case len => rintro us M q ⟨_, _, rfl, _⟩; rfl
  obtain ⟨b, m, rfl, hm1, hm2, A0, M0, g, B, rfl, hg, hB, hq⟩ := h
  obtain ⟨ga, gb, gc, gd, ge⟩ := hg
  obtain ⟨n0, n1, n2⟩ := g
  dsimp only at ga gb gc gd ge
  walk_at "in"
  walk_at "ro"
  refine ws_bag ?_
  generalize A0 ++ M0 = M1 at *
  walk_at "w"
  refine r_ixL (u := .int n0) (.head _) (atI_nat (j := 0) rfl) ?_
  walk_at "w"
  by_cases h0 : 0 < n0
  · rw [decide_eq_true h0]
    walk_at "w"
    refine r_ixL (u := .int n0) (.head _) (atI_nat (j := 0) rfl) ?_
    walk_at "w"
    refine r_iic (by show (0 : Int) < m; omega) ?_
    walk_at "w"
    walk_at "ro"
    walk_at "w"
    refine r_ixL (u := .int n0) (.head _) (atI_nat (j := 0) rfl) ?_
    walk_at "w"
    refine r_iic (by constructor <;> omega) ?_
    refine wg_sub ?_
    walk_at "w"
    refine ⟨_, _, _, 0, _, rfl, rfl, by rfl, .here, ?_⟩
    walk_at "w"
    refine ⟨(b, eBg ⟨n0 / m, n1, n2⟩), Sub.refl _, ?_⟩
    have hr0 : 0 ≤ n0 % m := Int.emod_nonneg _ (by omega)
    have hr1 : n0 % m < m := Int.emod_lt_of_pos _ (by omega)
    refine ⟨_, Sub.refl _, ?_⟩
    have z := hq (n0 % m).toNat ⟨n0 / m, n1, n2⟩ (by omega) ⟨Int.ediv_nonneg ga (by omega), gb, gc, gd, by show n2 ≤ ((B + 1 : Nat) : Int); omega⟩
    rw [Int.toNat_of_nonneg hr0] at z
    exact z
  · rw [decide_eq_false h0]
    walk_at "w"
    walk_at "ro"
    walk_at "w"
    refine r_ixL (u := .int n2) (.head _) (atI_nat (j := 2) rfl) ?_
    walk_at "w"
    refine wg_sub ?_
    walk_at "w"
    refine ⟨_, _, _, 2, _, rfl, rfl, by rfl, .here, ?_⟩
    walk_at "w"
    refine r_ixL (u := .int (n2 + 1)) (.head _) (atI_nat (j := 2) rfl) ?_
    walk_at "w"
    walk_at "ro"
    walk_at "w"
    generalize ht : n2 + 1 = t
    have t0 : 0 ≤ t := by omega
    have t1 : t ≤ 100001 := by omega
    refine r_ixL (u := .int n1) (.head _) (atI_nat (j := 1) rfl) ?_
    walk_at "w"
    refine r_iic (Or.inl (by omega)) ?_
    walk_at "w"
    refine r_iic (Or.inl (by omega)) ?_
    walk_at "w"
    refine r_iic (Or.inl (by omega)) ?_
    walk_at "w"
    refine r_iic (Or.inr (by omega)) ?_
    walk_at "w"
    walk_at "ro"
    walk_at "w"
    refine r_iic ⟨by omega, by omega, base_ok gb gc t0 t1⟩ ?_
    walk_at "w"
    refine r_iic (by show (0 : Int) < 7; omega) ?_
    obtain ⟨x, hx, hx1, hx2⟩ := prime_at (j := t % 7) (Int.emod_nonneg _ (by omega)) (Int.emod_lt_of_pos _ (by omega))
    refine r_ixT hx ?_
    refine r_iic (by show (0 : Int) < x; omega) ?_
    have f0 := Int.emod_nonneg ((n1 * (2 * t + 1) + 6007 * t * t + 29) ^ Int.toNat 3) (b := x) (by omega)
    have f1 := Int.emod_lt_of_pos ((n1 * (2 * t + 1) + 6007 * t * t + 29) ^ Int.toNat 3) (b := x) (by omega)
    revert f0 f1
    generalize (n1 * (2 * t + 1) + 6007 * t * t + 29) ^ Int.toNat 3 % x = y
    intro f0 f1
    walk_at "w"
    walk_at "ro"
    walk_at "w"
    refine r_iic (by constructor <;> omega) ?_
    walk_at "w"
    refine r_iic (Or.inl (by omega)) ?_
    walk_at "w"
    refine r_iic (by show (0 : Int) < 7; omega) ?_
    obtain ⟨x2, hx', hx3, hx4⟩ := prime_at (j := (t + 3) % 7) (Int.emod_nonneg _ (by omega)) (Int.emod_lt_of_pos _ (by omega))
    refine r_ixT hx' ?_
    refine r_iic (by show (0 : Int) < x2; omega) ?_
    walk_at "w"
    refine r_iic (by constructor <;> omega) ?_
    walk_at "w"
    refine r_iic (by show (0 : Int) < m; omega) ?_
    generalize y * (y / 4096 + 11) % x2 / 16 = w
    have hr0 : 0 ≤ w % m := Int.emod_nonneg _ (by omega)
    have hr1 : w % m < m := Int.emod_lt_of_pos _ (by omega)
    refine ⟨(b, eBg ⟨n0, n1, t⟩), Sub.refl _, ?_⟩
    refine ⟨_, Sub.refl _, ?_⟩
    have z := hq (w % m).toNat ⟨n0, n1, t⟩ (by omega) ⟨ga, gb, gc, t0, by show t ≤ ((B + 1 : Nat) : Int); omega⟩
    rw [Int.toNat_of_nonneg hr0] at z
    exact z
abbrev N__law_bag : List Str := ["_law_script", "_law_k", "_law_cell"]
theorem sc__law_bag : FnScope N__law_bag ["_law_script", "_law_k"] (defScope (atTop 50)) := ⟨rfl, rfl, rfl, by decide +kernel, rfl, by decide +kernel, by decide +kernel⟩
theorem fn_law_bag {P : Program} {w : World} {K : PySem.W.Frag} {mg : Str → Option Value} {base : Heap} (T : Txt K mg) : Fn P w K mg base 1 "_law_bag" ["_law_script", "_law_k"] C_law_bag := by
  have sc := sc__law_bag
  refine Fn.of T 30 rfl rfl sc (fun _ _ _ _ _ _ us hl => match us, hl with | [_, _], _ => rfl) ?len (fun f cdv A outer s H E hr => ⟨_, (pss_cons (ps_set (i := 2) sc.nd rfl (Or.inl rfl) (pe_op op_add (pe_op op_add (pe_op op_mul (pe_op op_mul pe_int (pv 1)) (pv 1)) (pe_op op_mul pe_int (pv 1))) pe_int))
      (pss_cons (ps_if (pt_cmpR op_lt (pv 1) (pe_callB (lenK (K := K) (by rfl)) (by rfl) T.f_len (by decide +kernel) (pa_cons (pv 0) pa_nil)) (nomark _)) (pss_one (ps_set (i := 2) sc.nd rfl (Or.inl rfl) (pe_ix (ixL (K := K) (by rfl)) (pv 0) (pv 1) (fun _ _ => rfl)))) pss_nil)
      (pss_one (ps_ret (pe_lst (pa_cons (pe_op op_mul (pe_callB call_abs (by rfl) T.f_abs (by decide +kernel) (pa_cons (pv 2) pa_nil)) (pe_callTy call_int1 (by rfl) T.f_int (by decide +kernel) (pa_cons (pe_cmpR op_ge (pe_callB call_abs (by rfl) T.f_abs (by decide +kernel) (pa_cons (pv 2) pa_nil)) (pe_op op_pow pe_int pe_int) (nomark _)) pa_nil))) (pa_cons (pe_op op_add (pe_op op_mod (pv 2) pe_int) (pe_op op_mul pe_int (pv 1))) (pa_cons pe_int pa_nil)))))))), fun us M q h => ?_⟩)
  case len => rintro us M q ⟨_, _, rfl, _⟩; rfl
  obtain ⟨ns, k, rfl, hk, hq⟩ := h
  walk_at "in"
  walk_at "ro"
  refine ws_seq ?_
  refine ws_asg ?_
  walk_at "w"
  refine r_iic (Or.inl (by omega)) ?_
  walk_at "w"
  refine r_iic (Or.inr (by omega)) ?_
  walk_at "w"
  refine r_iic (Or.inl (by omega)) ?_
  walk_at "w1"
  walk_at "w1"
  walk_at "w1"
  generalize (9973 * (k : Int) * k + 101 * k + 17) = cell
  refine wg_name ?_ (by with_unfolding_all rfl)
  walk_at "ro"
  refine ws_seq ?_
  refine ws_mid (fun M' ρ' => M' = M ∧ ∃ cell : Int, ρ' = [some (.fl (ns.map U.int)), some (.int (k : Nat)), some (.int cell)]) ?_ ?_
  · walk_at "w"
    refine rc_lenF ?_
    walk_at "w"
    rw [List.length_map]
    by_cases hkl : k < ns.length
    · rw [show decide (((k : Nat) : Int) < (ns.length : Nat)) = true from decide_eq_true (by omega)]
      walk_at "w"
      refine r_ixF (u := .int ns[k]) (atI_nat (by rw [List.getElem?_map, List.getElem?_eq_getElem hkl]; rfl)) ?_
      walk_at "w"
      walk_at "ro"
      first | exact ⟨rfl, _, rfl⟩ | exact ⟨trivial, _, rfl⟩ | exact ⟨_, rfl⟩
    · rw [show decide (((k : Nat) : Int) < (ns.length : Nat)) = false from decide_eq_false (by omega)]
      walk_at "w"
      first | exact ⟨rfl, _, rfl⟩ | exact ⟨trivial, _, rfl⟩ | exact ⟨_, rfl⟩
  · rintro M' ρ' ⟨rfl, cell, rfl⟩
    walk_at "w"
    refine rc_abs ?_
    generalize hc : (if cell < 0 then -cell else cell) = c
    have hc0 : 0 ≤ c := by rw [← hc]; split <;> omega
    walk_at "w"
    refine rc_abs ?_
    rw [hc]
    walk_at "w"
    refine r_iic ⟨by omega, by omega, by decide⟩ ?_
    walk_at "w"
    refine rc_intB ?_
    refine r_iic (Or.inr (by split <;> omega)) ?_
    walk_at "w"
    refine r_iic (by show (0 : Int) < 2147483647; omega) ?_
    walk_at "w"
    refine r_iic (Or.inl (by omega)) ?_
    walk_at "w"
    intro b
    refine ⟨_, Sub.refl _, ?_⟩
    have f0 := Int.emod_nonneg cell (b := 2147483647) (by omega)
    have f1 := Int.emod_lt_of_pos cell (b := 2147483647) (by omega)
    refine hq b ⟨_, _, 0⟩ ⟨?_, by show 0 ≤ cell % 2147483647 + 37 * (k : Int); omega, by show cell % 2147483647 + 37 * (k : Int) ≤ 4294967296; omega, by show (0 : Int) ≤ 0; omega, by show (0 : Int) ≤ ((0 : Nat) : Int); omega⟩
    show 0 ≤ c * _
    exact Int.mul_nonneg hc0 (by split <;> omega)
end Wl
set_option Elab.async false
set_option linter.all false
set_option maxRecDepth 100000
set_option maxHeartbeats 4000000
namespace Wl
open PySem PySem.Spec PyProof.Rows L2
local macro_rules | `(tactic| walk_at "w1") => `(tactic| first
  | with_reducible refine ws_seq ?_
  | with_reducible refine ws_ret ?_
  | with_reducible refine ws_asg ?_
  | with_reducible refine ws_drop ?_
  | with_reducible refine ws_if ?_
  | with_reducible refine ws_next ?_
  | with_reducible refine w_var (by with_unfolding_all rfl) ?_
  | with_reducible refine w_int ?_
  | with_reducible refine w_str ?_
  | with_reducible refine w_bl ?_
  | with_reducible refine w_non ?_
  | with_reducible refine w_ref ?_
  | with_reducible refine w_isi2 ?_
  | with_reducible refine w_op ?_
  | with_reducible refine w_andV ?_
  | with_reducible refine w_notV ?_
  | with_reducible refine w_chain ?_
  | with_reducible refine wa_nil ?_
  | with_reducible refine wa_cons ?_
  | with_reducible refine w_tup ?_
  | with_reducible refine w_lst ?_
  | with_reducible refine w_tupF ?_
  | with_reducible refine w_call ?_
  | ((fail_if_success (with_reducible refine w_allT (α := Unit) ?_)); (fail_if_success (with_reducible refine w_anyB (α := Unit) ?_)); with_reducible refine w_cb ?_)
  | with_reducible refine w_bm ?_
  | with_reducible refine wt_test ?_
  | with_reducible refine wt_B ?_
  | with_reducible refine wt_not ?_
  | with_reducible refine wt_and ?_
  | with_reducible refine wt_or ?_
  | with_reducible refine wt_yes ?_
  | with_reducible refine wg_name ?_ (by with_unfolding_all rfl)
  | with_reducible refine wg_name ?_
  | with_reducible refine wgs_nil ?_
  | with_reducible refine wgs_cons ?_
  | with_reducible refine wg_tup (by with_unfolding_all rfl) ?_
  | with_reducible refine w_un ?_
  | with_reducible refine w_sl ?_
  | with_reducible refine wo_none ?_
  | with_reducible refine wo_some ?_
  | with_reducible refine r_ii ?_
  | with_reducible refine r_ib ?_
  | with_reducible refine r_eqI ?_
  | with_reducible refine r_eqS ?_
  | with_reducible refine r_neI ?_
  | with_reducible refine r_neS ?_
  | with_reducible refine rs_T ?_
  | with_reducible refine rc_lenT ?_
  | with_reducible refine rc_lenTf ?_
  | with_reducible refine rc_min ?_
  | with_reducible refine r_isN ?_
  | with_reducible refine r_noN ?_
  | with_reducible refine ws_break ?_
  | with_reducible refine ws_dput ?_
  | (with_reducible refine r_ixT (by with_unfolding_all rfl) ?_)
  | exact ⟨rfl, Sub.refl _⟩
  | refine ⟨Sub.refl _, ?_⟩
  | refine ⟨Nat.le_of_ble_eq_true (by with_unfolding_all rfl), ?_⟩
  | refine ⟨_, rfl, ?_⟩
  | refine ⟨true, rfl, fun _ => ?_, fun z => Bool.noConfusion z⟩
  | refine ⟨false, rfl, fun z => Bool.noConfusion z, fun _ => ?_⟩
  | refine ⟨false, rfl, fun _ => ?_, fun z => Bool.noConfusion z⟩
  | refine ⟨true, rfl, fun z => Bool.noConfusion z, fun _ => ?_⟩
  | refine ⟨fun _ => ?_, fun z => Bool.noConfusion z⟩
  | refine ⟨fun z => Bool.noConfusion z, fun _ => ?_⟩)
local macro_rules | `(tactic| walk_at "w") => `(tactic| repeat walk_at "w1")
local macro_rules | `(tactic| walk_at "in") => `(tactic| try dsimp only [XD, cxOf, Cx.nox, Cx.wish])
local macro_rules | `(tactic| walk_at "ro") => `(tactic| try simp only [startR, List.map_cons, List.map_nil, List.length_cons, List.length_nil, Nat.reduceAdd, Nat.reduceSub, Nat.zero_add, List.replicate_zero, List.replicate_succ, List.cons_append, List.nil_append, List.append_nil, List.set_cons_zero, List.set_cons_succ])
local macro_rules | `(tactic| walk_at "sub") => `(tactic| repeat (first | exact Sub.refl _ | exact Sub.nil' _ | refine Sub.keep ?_ | refine Sub.skip ?_))
local macro_rules | `(tactic| walk_at "go") => `(tactic| (walk_at "in"; walk_at "ro"; walk_at "w"))
local macro_rules | `(tactic| walk_at "rle") => `(tactic| repeat (first | exact RLe.refl _ | exact RLe.nil | refine RLe.keep ?_ | refine RLe.hole ?_))
local macro_rules | `(tactic| walk_at "mem") => `(tactic| repeat (first | exact List.mem_cons_self .. | refine List.mem_cons_of_mem _ ?_))
local macro_rules | `(tactic| walk_at "put") => `(tactic| repeat (first | exact Put.here | refine Put.there ?_))
local macro_rules | `(tactic| walk_at "bm") => `(tactic| (first | refine ⟨⟨_, _, rfl, rfl, (by walk_at "mem")⟩, ?_⟩ | refine ⟨⟨_, _, rfl, trivial, (by walk_at "mem")⟩, ?_⟩))
local macro_rules | `(tactic| walk_at "end") => `(tactic| (first | exact ⟨Sub.refl _, by walk_at "rle"⟩ | walk_at "rle"))
theorem ones_sum : ∀ cs : List Nat, (((cs.map fun c => (⟨#[c]⟩ : Str)).map (·.length)).sum) = cs.length
  | [] => rfl
  | c :: cs => by
    have ih := ones_sum cs
    rw [List.map_cons, List.map_cons, List.sum_cons, ih, List.length_cons]
    show 1 + cs.length = _
    omega
abbrev N__law_name : List Str := ["_law_bag_here", "_law_letters", "_law_place"]
theorem sc__law_name : FnScope N__law_name ["_law_bag_here"] (defScope (atTop 52)) := ⟨rfl, rfl, rfl, by decide +kernel, rfl, by decide +kernel, by decide +kernel⟩
theorem fn_law_name {P : Program} {w : World} {K : PySem.W.Frag} {mg : Str → Option Value} {base : Heap} (T : Txt K mg) (F_law_take : Fn P w K mg base 1 "_law_take" ["_law_bag_here", "_law_many"] C_law_take) : Fn P w K mg base 2 "_law_name" ["_law_bag_here"] C_law_name := by
  have sc := sc__law_name
  refine Fn.of T 32 rfl rfl sc (fun _ _ _ _ _ _ us hl => match us, hl with | [_], _ => rfl) ?len (fun f cdv A outer s H E hr => ⟨_, (pss_cons (ps_set (i := 1) sc.nd rfl (Or.inr rfl) pe_str)
      (pss_one (ps_ret (joinK (K := K) (by rfl) pe_str (pe_lc (own := [("_law_place", 2)]) rfl sc.nd (pi_range1 (by rfl) T.f_range (pa_cons (pe_op op_add pe_int (pFn F_law_take (by exact ⟨rfl, rfl, rfl, rfl, rfl⟩) (hr.mono (by decide)) (by rfl) (pa_cons (pv 0) (pa_cons pe_int pa_nil)))) pa_nil)) (blkOk_by (own := [("_law_place", 2)]) (N := N__law_name) (sc := defScope (atTop 52)) (by decide +kernel)) (fun _ _ _ _ _ => (pg_name (i := 2) sc.nd rfl (by first | exact Or.inl rfl | exact Or.inr rfl))) (fun _ _ _ _ _ => pts_nil) (fun _ _ _ _ _ => (pe_ix ix_str (pv 1) (pFn F_law_take (by exact ⟨rfl, rfl, rfl, rfl, rfl⟩) (hr.mono (by decide)) (by rfl) (pa_cons (pv 0) (pa_cons pe_int pa_nil))) (fun _ _ => rfl)))))))), fun us M q h => ?_⟩)
  case len => rintro us M q ⟨_, _, _, _, rfl, _⟩; rfl
  obtain ⟨b, g, M0, B, rfl, rfl, hg, hB, hq⟩ := h
  walk_at "go"
  refine w_join ?_
  walk_at "w"
  refine w_lc (wi_rng1 ?_)
  walk_at "w"
  refine ⟨b, 8, rfl, by omega, by omega, [], M0, g, B, rfl, hg, by omega, fun r g1 hr hg1 => ?_⟩
  walk_at "w"
  refine ⟨by omega, by omega, ?_⟩
  rw [show ((1 : Int) + (r : Nat)).toNat = r + 1 from by omega]
  refine ⟨fun i acc M' => ∃ (cs : List Nat) (g' : Bg), acc = cs.map (fun c => U.str ⟨#[c]⟩) ∧ cs.length = i ∧ (∀ c ∈ cs, c ∈ lets) ∧ Bk (B + 1 + i) g' ∧ M' = (b, eBg g') :: M0, ⟨[], g1, rfl, rfl, by simp, hg1, rfl⟩, by rw [upTo_len]; omega, fun _ _ _ _ _ _ => trivial, fun D i acc M' u hu hai ⟨cs, g', e1, e2, e3, e4, e5⟩ => ?_, fun D acc M' hacc ⟨cs, g', e1, e2, e3, e4, e5⟩ => ?_⟩
  · subst e5
    obtain ⟨hi, rfl⟩ := upTo_get hu
    walk_at "w"
    walk_at "ro"
    walk_at "w"
    refine ⟨b, 26, rfl, by omega, by omega, [(D, .l acc)], M0, g', B + 1 + i, rfl, e4, by omega, fun r2 g2 hr2 hg2 => ?_⟩
    walk_at "w"
    have hd : lets[r2]? = some lets[r2] := List.getElem?_eq_getElem (by rw [lets_len]; omega)
    refine r_ixS (d := lets[r2]) (by decide +kernel) (atI_nat hd) ?_
    refine ⟨(b, eBg g2) :: M0, Sub.refl _, cs ++ [lets[r2]], g2, by rw [e1, List.map_append]; rfl, by rw [List.length_append, e2]; rfl, fun c hc => ?_, hg2, rfl⟩
    rcases List.mem_append.mp hc with hc | hc
    · exact e3 c hc
    · rw [List.mem_singleton.mp hc]
      exact List.getElem_mem _
  · subst e5 e1
    rw [upTo_len] at e2 e4
    refine ⟨D, cs.map fun c => ⟨#[c]⟩, rfl, by rw [List.map_map]; exact List.mem_cons_self .., ?_, ?_⟩
    · have h1 := ones_sum cs
      rw [h1, show ("" : Str).length = 0 from rfl]
      omega
    · walk_at "w"
      refine ⟨_, .skip (Sub.refl _), hq _ g' (name_of (join_one cs) (by omega) (by omega) e3) (e4.le (by omega))⟩
abbrev N__law_names : List Str := ["_law_bag_here", "_law_many", "_law_found", "_law_place", "_law_name_here", "_law_one"]
theorem sc__law_names : FnScope N__law_names ["_law_bag_here", "_law_many"] (defScope (atTop 53)) := ⟨rfl, rfl, rfl, by decide +kernel, rfl, by decide +kernel, by decide +kernel⟩
theorem fn_law_names {P : Program} {w : World} {K : PySem.W.Frag} {mg : Str → Option Value} {base : Heap} (T : Txt K mg) (F_law_name : Fn P w K mg base 2 "_law_name" ["_law_bag_here"] C_law_name) : Fn P w K mg base 3 "_law_names" ["_law_bag_here", "_law_many"] C_law_names := by
  have sc := sc__law_names
  refine Fn.of T 33 rfl rfl sc (fun _ _ _ _ _ _ us hl => match us, hl with | [_, _], _ => rfl) ?len (fun f cdv A outer s H E hr => ⟨_, (pss_cons (ps_set (i := 2) sc.nd rfl (Or.inr rfl) (pe_lst pa_nil))
      (pss_cons (ps_for PassesOwn.never rfl (pi_range1 (by rfl) T.f_range (pa_cons (pv 1) pa_nil)) (pg_name (i := 3) sc.nd rfl (by first | exact Or.inl rfl | exact Or.inr rfl))
        (pss_cons (ps_set (i := 4) sc.nd rfl (Or.inr rfl) (pFn F_law_name (by exact ⟨rfl, rfl, rfl, rfl, rfl⟩) (hr.mono (by decide)) (by rfl) (pa_cons (pv 0) pa_nil)))
          (pss_cons (ps_if (pt_cmpR (inK (K := K) (by rfl)) (pv 4) (pv 2) (by rfl)) (pss_one (ps_set (i := 4) sc.nd rfl (Or.inr rfl) (pe_ix (ixL (K := K) (by rfl)) (pe_lc (own := [("_law_one", 5)]) rfl sc.nd (pi_str pe_str) (blkOk_by (own := [("_law_one", 5)]) (N := N__law_names) (sc := defScope (atTop 53)) (by decide +kernel)) (fun _ _ _ _ _ => (pg_name (i := 5) sc.nd rfl (by first | exact Or.inl rfl | exact Or.inr rfl))) (fun _ _ _ _ _ => (pts_one (pt_cmpR (notInK (K := K) (by rfl)) (pe_op op_add_str (pv 5) (pe_slice sl_str (pv 4) (po_some pe_int) po_none)) (pv 2) (by rfl)))) (fun _ _ _ _ _ => (pe_op op_add_str (pv 5) (pe_slice sl_str (pv 4) (po_some pe_int) po_none)))) pe_int (fun _ _ => rfl)))) pss_nil)
          (pss_one (ps_expr (pe_bm PySem.F.plainAttrs_list PySem.F.slot_list_append PySem.F.type_list_append mt_append (pv 2) (pa_cons (pv 4) pa_nil)))))))
      (pss_one (ps_ret (pv 2))))), fun us M q h => ?_⟩)
  case len => rintro us M q ⟨_, _, _, _, _, rfl, _⟩; rfl
  obtain ⟨b, m, g, M0, B, rfl, hm, rfl, hg, hB, hq⟩ := h
  walk_at "in"
  walk_at "ro"
  refine ws_seq ?_
  refine ws_asg ?_
  walk_at "w"
  intro a
  refine wg_name ?_ (by with_unfolding_all rfl)
  walk_at "ro"
  refine ws_seq ?_
  refine WS.perm (List.Perm.swap ..) ?_
  refine ws_forX (α := Nat) (wi_rng1 ?_)
  walk_at "w"
  refine ⟨by omega, by omega, ?_⟩
  rw [show ((m : Nat) : Int).toNat = m from by omega]
  refine ⟨List.range m, fun w => .int (w : Nat), range_u _, fun k M' ρ' => ∃ (ns : List Str) (g' : Bg), RLe [some (.ptr b), some (.int (m : Nat)), some (.ptr a), none, none, none] ρ' ∧ Sub ((b, eBg g') :: (a, .l (ns.map U.str)) :: M0) M' ∧ ns.length = k ∧ (∀ n ∈ ns, NameOk n) ∧ ns.Nodup ∧ Bk (B + 9 * k) g', ⟨[], g, by walk_at "rle", Sub.refl _, rfl, by simp, by simp, hg⟩, fun _ _ _ _ => trivial, fun k x M' ρ' hx ⟨ns, g', hr, hs, e1, e2, e3, e4⟩ => ?_, fun M' ρ' ⟨ns, g', hr, hs, e1, e2, e3, e4⟩ => ?_⟩
  · obtain ⟨rfl, hk⟩ := range_at hx
    refine WG.fr hs hr ?_
    walk_at "w"
    walk_at "ro"
    walk_at "w"
    refine ⟨b, g', _, B + 9 * x, rfl, rfl, e4, by omega, fun n g2 hn hg2 => ?_⟩
    refine wg_name ?_ (by with_unfolding_all rfl)
    walk_at "ro"
    refine ws_seq ?_
    refine ws_mid (fun M2 ρ2 => ∃ n2 : Str, NameOk n2 ∧ n2 ∉ ns ∧ Sub ((b, eBg g2) :: (a, .l (ns.map U.str)) :: M0) M2 ∧ RLe [some (.ptr b), some (.int (m : Nat)), some (.ptr a), none, some (.str n2), none] ρ2) ?_ ?_
    · walk_at "w"
      refine r_inS (.tail _ (.head _)) ?_
      by_cases hin : n ∈ ns
      · rw [if_neg Bool.false_ne_true, decide_eq_true hin]
        walk_at "w"
        refine w_lcp (α := Nat) (wi_str ?_)
        walk_at "w"
        refine ⟨lets, fun c => U.str ⟨#[c]⟩, fun c => !decide (((⟨#[c]⟩ : Str) ++ cutS n (some 1) none) ∈ ns), fun c => .str ((⟨#[c]⟩ : Str) ++ cutS n (some 1) none), rfl, by rw [lets_len]; omega, fun _ _ => trivial, fun D acc c hc => ?_, fun D => ?_⟩
        · have hcl := cand_len c n
          have hn2 := hn.2.1
          walk_at "w"
          walk_at "ro"
          walk_at "w"
          refine rs_S (by omega) ?_
          refine r_addS (by show 1 + _ ≤ _; omega) ?_
          walk_at "w"
          refine r_inS (.tail _ (.tail _ (.head _))) ?_
          rw [if_pos rfl]
          walk_at "w"
          refine ⟨rfl, Sub.refl _, fun _ => ?_⟩
          walk_at "w"
          refine rs_S (by omega) ?_
          refine r_addS (by show 1 + _ ≤ _; omega) ?_
          exact ⟨rfl, Sub.refl _⟩
        · obtain ⟨c0, hc0, hc1⟩ := cand_ex n ns (by omega)
          have hne : lets.filter (fun c => !decide (((⟨#[c]⟩ : Str) ++ cutS n (some 1) none) ∈ ns)) ≠ [] := fun z => by
            have := List.filter_eq_nil_iff.mp z c0 hc0
            simp [hc1] at this
          have hall : ∀ c ∈ lets.filter (fun c => !decide (((⟨#[c]⟩ : Str) ++ cutS n (some 1) none) ∈ ns)), c ∈ lets ∧ ((⟨#[c]⟩ : Str) ++ cutS n (some 1) none) ∉ ns := fun c hc => by
            obtain ⟨h1, h2⟩ := List.mem_filter.mp hc
            exact ⟨h1, by simpa using h2⟩
          revert hne hall
          generalize lets.filter (fun c => !decide (((⟨#[c]⟩ : Str) ++ cutS n (some 1) none) ∈ ns)) = cs
          intro hne hall
          obtain ⟨c, cs', rfl⟩ := List.exists_cons_of_ne_nil hne
          obtain ⟨h1, h2⟩ := hall c (List.mem_cons_self ..)
          walk_at "w"
          refine r_ixL (u := .str ((⟨#[c]⟩ : Str) ++ cutS n (some 1) none)) (.head _) (atI_nat (j := 0) rfl) ?_
          walk_at "w"
          walk_at "ro"
          exact ⟨_, cand_ok h1 hn, h2, .skip (Sub.refl _), by walk_at "rle"⟩
      · rw [if_neg Bool.false_ne_true, decide_eq_false hin]
        walk_at "w"
        exact ⟨_, hn, hin, Sub.refl _, by walk_at "rle"⟩
    · rintro M2 ρ2 ⟨n2, h1, h2, hs2, hr2⟩
      refine WS.fr hs2 hr2 ?_
      walk_at "w"
      walk_at "bm"
      walk_at "w"
      refine rm_append (.there .here) (by rw [List.length_map]; omega) ?_
      walk_at "w"
      refine ⟨ns ++ [n2], g2, by walk_at "rle", ?_, by rw [List.length_append, e1]; rfl, fun n hn => ?_, ?_, hg2.le (by omega)⟩
      · rw [List.map_append]
        exact Sub.refl _
      · rcases List.mem_append.mp hn with hn | hn
        · exact e2 n hn
        · rw [List.mem_singleton.mp hn]
          exact h1
      · rw [List.nodup_append]
        refine ⟨e3, by simp, fun x hx y hy e => ?_⟩
        rw [List.mem_singleton.mp hy] at e
        exact h2 (e ▸ hx)
  · refine WS.fr hs hr ?_
    walk_at "w"
    rw [List.length_range] at e1 e4
    exact ⟨_, Sub.refl _, hq a ns g' e1 e2 e3 (e4.le (by omega))⟩
end Wl
set_option Elab.async false
set_option linter.all false
set_option maxRecDepth 100000
set_option maxHeartbeats 4000000
namespace Wl
open PySem PySem.Spec PyProof.Rows L2
local macro_rules | `(tactic| walk_at "w1") => `(tactic| first
  | with_reducible refine ws_seq ?_
  | with_reducible refine ws_ret ?_
  | with_reducible refine ws_asg ?_
  | with_reducible refine ws_drop ?_
  | with_reducible refine ws_if ?_
  | with_reducible refine ws_next ?_
  | with_reducible refine w_var (by with_unfolding_all rfl) ?_
  | with_reducible refine w_int ?_
  | with_reducible refine w_str ?_
  | with_reducible refine w_bl ?_
  | with_reducible refine w_non ?_
  | with_reducible refine w_ref ?_
  | with_reducible refine w_isi2 ?_
  | with_reducible refine w_op ?_
  | with_reducible refine w_andV ?_
  | with_reducible refine w_notV ?_
  | with_reducible refine w_chain ?_
  | with_reducible refine wa_nil ?_
  | with_reducible refine wa_cons ?_
  | with_reducible refine w_tup ?_
  | with_reducible refine w_lst ?_
  | with_reducible refine w_tupF ?_
  | with_reducible refine w_call ?_
  | ((fail_if_success (with_reducible refine w_allT (α := Unit) ?_)); (fail_if_success (with_reducible refine w_anyB (α := Unit) ?_)); with_reducible refine w_cb ?_)
  | with_reducible refine w_bm ?_
  | with_reducible refine wt_test ?_
  | with_reducible refine wt_B ?_
  | with_reducible refine wt_not ?_
  | with_reducible refine wt_and ?_
  | with_reducible refine wt_or ?_
  | with_reducible refine wt_yes ?_
  | with_reducible refine wg_name ?_ (by with_unfolding_all rfl)
  | with_reducible refine wg_name ?_
  | with_reducible refine wgs_nil ?_
  | with_reducible refine wgs_cons ?_
  | with_reducible refine wg_tup (by with_unfolding_all rfl) ?_
  | with_reducible refine w_un ?_
  | with_reducible refine w_sl ?_
  | with_reducible refine wo_none ?_
  | with_reducible refine wo_some ?_
  | with_reducible refine r_ii ?_
  | with_reducible refine r_ib ?_
  | with_reducible refine r_eqI ?_
  | with_reducible refine r_eqS ?_
  | with_reducible refine r_neI ?_
  | with_reducible refine r_neS ?_
  | with_reducible refine rs_T ?_
  | with_reducible refine rc_lenT ?_
  | with_reducible refine rc_lenTf ?_
  | with_reducible refine rc_min ?_
  | with_reducible refine r_isN ?_
  | with_reducible refine r_noN ?_
  | with_reducible refine ws_break ?_
  | with_reducible refine ws_dput ?_
  | (with_reducible refine r_ixT (by with_unfolding_all rfl) ?_)
  | exact ⟨rfl, Sub.refl _⟩
  | refine ⟨Sub.refl _, ?_⟩
  | refine ⟨Nat.le_of_ble_eq_true (by with_unfolding_all rfl), ?_⟩
  | refine ⟨_, rfl, ?_⟩
  | refine ⟨true, rfl, fun _ => ?_, fun z => Bool.noConfusion z⟩
  | refine ⟨false, rfl, fun z => Bool.noConfusion z, fun _ => ?_⟩
  | refine ⟨false, rfl, fun _ => ?_, fun z => Bool.noConfusion z⟩
  | refine ⟨true, rfl, fun z => Bool.noConfusion z, fun _ => ?_⟩
  | refine ⟨fun _ => ?_, fun z => Bool.noConfusion z⟩
  | refine ⟨fun z => Bool.noConfusion z, fun _ => ?_⟩)
local macro_rules | `(tactic| walk_at "w") => `(tactic| repeat walk_at "w1")
local macro_rules | `(tactic| walk_at "in") => `(tactic| try dsimp only [XD, cxOf, Cx.nox, Cx.wish])
local macro_rules | `(tactic| walk_at "ro") => `(tactic| try simp only [startR, List.map_cons, List.map_nil, List.length_cons, List.length_nil, Nat.reduceAdd, Nat.reduceSub, Nat.zero_add, List.replicate_zero, List.replicate_succ, List.cons_append, List.nil_append, List.append_nil, List.set_cons_zero, List.set_cons_succ])
local macro_rules | `(tactic| walk_at "sub") => `(tactic| repeat (first | exact Sub.refl _ | exact Sub.nil' _ | refine Sub.keep ?_ | refine Sub.skip ?_))
local macro_rules | `(tactic| walk_at "go") => `(tactic| (walk_at "in"; walk_at "ro"; walk_at "w"))
local macro_rules | `(tactic| walk_at "rle") => `(tactic| repeat (first | exact RLe.refl _ | exact RLe.nil | refine RLe.keep ?_ | refine RLe.hole ?_))
local macro_rules | `(tactic| walk_at "mem") => `(tactic| repeat (first | exact List.mem_cons_self .. | refine List.mem_cons_of_mem _ ?_))
local macro_rules | `(tactic| walk_at "put") => `(tactic| repeat (first | exact Put.here | refine Put.there ?_))
local macro_rules | `(tactic| walk_at "bm") => `(tactic| (first | refine ⟨⟨_, _, rfl, rfl, (by walk_at "mem")⟩, ?_⟩ | refine ⟨⟨_, _, rfl, trivial, (by walk_at "mem")⟩, ?_⟩))
local macro_rules | `(tactic| walk_at "end") => `(tactic| (first | exact ⟨Sub.refl _, by walk_at "rle"⟩ | walk_at "rle"))
theorem many_at {r : Nat} (h : r < 6) : ∃ v : Nat, atI [U.int 0, .int 0, .int 0, .int 1, .int 2, .int 3] ((r : Nat) : Int) = some (.int (v : Nat)) ∧ v ≤ 3 := by
  have : r = 0 ∨ r = 1 ∨ r = 2 ∨ r = 3 ∨ r = 4 ∨ r = 5 := by omega
  rcases this with rfl | rfl | rfl | rfl | rfl | rfl
  · exact ⟨0, rfl, by omega⟩
  · exact ⟨0, rfl, by omega⟩
  · exact ⟨0, rfl, by omega⟩
  · exact ⟨1, rfl, by omega⟩
  · exact ⟨2, rfl, by omega⟩
  · exact ⟨3, rfl, by omega⟩
theorem kind_at {r : Nat} (h : r < 4) : ∃ v : Str, atI [U.str "seeker", .str "knob", .str "bell", .str "door"] ((r : Nat) : Int) = some (.str v) ∧ v ∈ kindsL := by
  have : r = 0 ∨ r = 1 ∨ r = 2 ∨ r = 3 := by omega
  rcases this with rfl | rfl | rfl | rfl
  · exact ⟨_, rfl, by simp [kindsL]⟩
  · exact ⟨_, rfl, by simp [kindsL]⟩
  · exact ⟨_, rfl, by simp [kindsL]⟩
  · exact ⟨_, rfl, by simp [kindsL]⟩
theorem set_last {α : Type} (xs : List α) (x y : α) : (xs ++ [x]).set xs.length y = xs ++ [y] := by
  induction xs with
  | nil => rfl
  | cons z xs ih => simp [ih]
abbrev N__law_parts : List Str := ["_law_places", "_law_found", "_law_kind", "_law_address", "_law_spur"]
theorem sc__law_parts : FnScope N__law_parts ["_law_places"] (defScope (atTop 55)) := ⟨rfl, rfl, rfl, by decide +kernel, rfl, by decide +kernel, by decide +kernel⟩
theorem fn_law_parts {P : Program} {w : World} {K : PySem.W.Frag} {mg : Str → Option Value} {base : Heap} (T : Txt K mg) : Fn P w K mg base 1 "_law_parts" ["_law_places"] C_law_parts := by
  have sc := sc__law_parts
  refine Fn.of T 35 rfl rfl sc (fun _ _ _ _ _ _ us hl => match us, hl with | [_], _ => rfl) ?len (fun f cdv A outer s H E hr => ⟨_, (pss_cons (ps_set (i := 1) sc.nd rfl (Or.inl rfl) (pe_lst (pa_cons pe_int pa_nil)))
      (pss_cons (ps_for PassesOwn.never rfl (piT (K := K) (by rfl) (pv 0)) (pgT (K := K) (n := 3) (by rfl) rfl (pgs_cons (pg_name (i := 2) sc.nd rfl (by first | exact Or.inl rfl | exact Or.inr rfl)) (pgs_cons (pg_name (i := 3) sc.nd rfl (by first | exact Or.inl rfl | exact Or.inr rfl)) (pgs_cons (pg_name (i := 4) sc.nd rfl (by first | exact Or.inl rfl | exact Or.inr rfl)) pgs_nil))))
        (pss_one (ps_if (pt_cmpR op_eq (pv 2) pe_str (nomark _)) (pss_one (ps_expr (pe_bm PySem.F.plainAttrs_list PySem.F.slot_list_append PySem.F.type_list_append mt_append (pv 1) (pa_cons pe_int pa_nil)))) (pss_one (ps_asg (pe_op op_add (pe_op op_add (pe_ix (ixL (K := K) (by rfl)) (pv 1) (pe_un un_neg pe_int) (fun _ _ => rfl)) pe_int) (pe_callB (lenK (K := K) (by rfl)) (by rfl) T.f_len (by decide +kernel) (pa_cons (pv 4) pa_nil))) (pg_sub (pv 1) (pe_un un_neg pe_int) set_list))))))
      (pss_one (ps_ret (pv 1))))), fun us M q h => ?_⟩)
  case len => rintro us M q ⟨_, rfl, _⟩; rfl
  obtain ⟨l, rfl, hl12, hp, hq⟩ := h
  unfold eLoop
  walk_at "go"
  intro a
  walk_at "w"
  walk_at "ro"
  refine ws_forX (α := Pl) (wi_tup ?_)
  walk_at "w"
  refine ⟨l, ePl, rfl, fun k M' ρ' => ∃ (ds : List Nat) (c : Nat), RLe [none, some (.ptr a), none, none, none] ρ' ∧ Sub ((a, .l ((ds ++ [c]).map fun n : Nat => .int (n : Nat))) :: M) M' ∧ (ds, c) = (l.take k).foldl stepL ([], 0) ∧ ds.length ≤ k, ⟨[], 0, by walk_at "rle", Sub.refl _, rfl, Nat.le_refl _⟩, fun _ _ _ _ => trivial, fun k x M' ρ' hx ⟨ds, c, hr, hs, hd, hdl⟩ => ?_, fun M' ρ' ⟨ds, c, hr, hs, hd, hdl⟩ => ?_⟩
  · have hxs := hp x (List.mem_of_getElem? hx)
    have hk := (List.getElem?_eq_some_iff.mp hx).1
    have hst : (l.take (k + 1)).foldl stepL ([], 0) = stepL (ds, c) x := by
      rw [List.take_add_one, hx, List.foldl_append, ← hd]
      rfl
    refine WG.fr hs hr ?_
    cases x with
    | op =>
      simp only [ePl]
      walk_at "w"
      walk_at "ro"
      walk_at "w"
      walk_at "bm"
      walk_at "w"
      refine rm_append put1 (by simp only [List.length_map, List.length_append, List.length_cons, List.length_nil]; omega) ?_
      walk_at "w"
      refine ⟨ds ++ [c], 0, by walk_at "rle", Sub.l_eq ?_ (Sub.refl _), ?_, by simp only [List.length_append, List.length_cons, List.length_nil]; omega⟩
      · rw [List.map_append]
        rfl
      · rw [hst]
        rfl
    | dev d sp =>
      have h3 := hxs.2
      simp only [ePl]
      walk_at "w"
      walk_at "ro"
      walk_at "w"
      rw [show decide (d.kind = "opener") = false from decide_eq_false hxs.1]
      walk_at "w"
      refine r_ixL (u := .int (c : Nat)) (.head _) (by rw [List.map_append]; exact atI_last _ _) ?_
      walk_at "w"
      refine wg_sub ?_
      walk_at "w"
      refine ⟨_, _, _, ds.length, _, rfl, rfl, ?_, .here, ?_⟩
      · simp only [List.length_map, List.length_append, List.length_cons, List.length_nil]
        unfold ixN
        rw [if_neg (by omega), if_pos (by omega), show ((-1 : Int) + ((ds.length + (0 + 1) : Nat) : Int)).toNat = ds.length from by omega]
      · rw [List.map_append, List.map_cons, List.map_nil, show ds.length = (ds.map fun n : Nat => U.int (n : Nat)).length from by rw [List.length_map], set_last]
        refine ⟨ds, c + 1 + sp.length, by walk_at "rle", Sub.l_eq ?_ (Sub.refl _), ?_, by omega⟩
        · rw [List.map_append, List.length_map]
          rfl
        · rw [hst]
          rfl
  · refine WS.fr hs hr ?_
    walk_at "w"
    refine ⟨_, Sub.refl _, ?_⟩
    rw [List.take_length] at hd
    have z := hq a
    unfold lensOf at z
    rw [← hd] at z
    exact z
theorem addrs_snoc (l : List Pl) (x : Pl) : addrsOf (l ++ [x]) = addrsOf l ++ x.devs.map (·.addr) := by
  unfold addrsOf
  rw [List.flatMap_append, List.flatMap_cons, List.flatMap_nil, List.append_nil]
abbrev N__law_loop : List Str := ["_law_bag_here", "_law_numbers", "_law_most_places", "_law_places", "_law_at", "_law_many", "_law_some", "_law_way"]
theorem sc__law_loop : FnScope N__law_loop ["_law_bag_here", "_law_numbers", "_law_most_places"] (defScope (atTop 54)) := ⟨rfl, rfl, rfl, by decide +kernel, rfl, by decide +kernel, by decide +kernel⟩
theorem fn_law_loop {P : Program} {w : World} {K : PySem.W.Frag} {mg : Str → Option Value} {base : Heap} (T : Txt K mg) (F_law_take : Fn P w K mg base 1 "_law_take" ["_law_bag_here", "_law_many"] C_law_take) : Fn P w K mg base 2 "_law_loop" ["_law_bag_here", "_law_numbers", "_law_most_places"] C_law_loop := by
  have sc := sc__law_loop
  refine Fn.of T 34 rfl rfl sc (fun _ _ _ _ _ _ us hl => match us, hl with | [_, _, _], _ => rfl) ?len (fun f cdv A outer s H E hr => ⟨_, (pss_cons (ps_set (i := 3) sc.nd rfl (Or.inl rfl) (pe_lst pa_nil))
      (pss_cons (ps_for PassesOwn.never rfl (pi_range1 (by rfl) T.f_range (pa_cons (pe_op op_add pe_int (pFn F_law_take (by exact ⟨rfl, rfl, rfl, rfl, rfl⟩) (hr.mono (by decide)) (by rfl) (pa_cons (pv 0) (pa_cons (pv 2) pa_nil)))) pa_nil)) (pg_name (i := 4) sc.nd rfl (by first | exact Or.inl rfl | exact Or.inr rfl))
        (pss_cons (ps_set (i := 5) sc.nd rfl (Or.inl rfl) (pe_op op_add pe_int (pe_ix (ixL (K := K) (by rfl)) (pe_lst (pa_cons pe_int (pa_cons pe_int (pa_cons pe_int (pa_cons pe_int (pa_cons pe_int (pa_cons pe_int pa_nil))))))) (pFn F_law_take (by exact ⟨rfl, rfl, rfl, rfl, rfl⟩) (hr.mono (by decide)) (by rfl) (pa_cons (pv 0) (pa_cons pe_int pa_nil))) (fun _ _ => rfl))))
          (pss_one (ps_if (PW.pt (pw_or (pt_cmpR op_eq (pFn F_law_take (by exact ⟨rfl, rfl, rfl, rfl, rfl⟩) (hr.mono (by decide)) (by rfl) (pa_cons (pv 0) (pa_cons pe_int pa_nil))) pe_int (nomark _)) (pw_or1 (pt_cmpR op_lt (pe_callB (lenK (K := K) (by rfl)) (by rfl) T.f_len (by decide +kernel) (pa_cons (pv 1) pa_nil)) (pv 5) (nomark _))))) (pss_one (ps_expr (pe_bm PySem.F.plainAttrs_list PySem.F.slot_list_append PySem.F.type_list_append mt_append (pv 3) (pa_cons (pe_tup (pa_cons pe_str (pa_cons pe_int (pa_cons (pe_tup pa_nil) pa_nil)))) pa_nil)))) (pss_cons (ps_set (i := 6) sc.nd rfl (Or.inl rfl) (pe_lst pa_nil))
              (pss_cons (ps_for PassesOwn.never rfl (pi_range1 (by rfl) T.f_range (pa_cons (pv 5) pa_nil)) (pg_name (i := 7) sc.nd rfl (by first | exact Or.inl rfl | exact Or.inr rfl))
                (pss_one (ps_expr (pe_bm PySem.F.plainAttrs_list PySem.F.slot_list_append PySem.F.type_list_append mt_append (pv 6) (pa_cons (pe_tup (pa_cons (pe_ix (ixL (K := K) (by rfl)) (pe_lst (pa_cons pe_str (pa_cons pe_str (pa_cons pe_str (pa_cons pe_str pa_nil))))) (pFn F_law_take (by exact ⟨rfl, rfl, rfl, rfl, rfl⟩) (hr.mono (by decide)) (by rfl) (pa_cons (pv 0) (pa_cons pe_int pa_nil))) (fun _ _ => rfl)) (pa_cons (pe_bm PySem.F.plainAttrs_list PySem.F.slot_list_pop PySem.F.type_list_pop mt_popAt (pv 1) (pa_cons pe_int pa_nil)) pa_nil))) pa_nil)))))
              (pss_one (ps_expr (pe_bm PySem.F.plainAttrs_list PySem.F.slot_list_append PySem.F.type_list_append mt_append (pv 3) (pa_cons (pe_op (catT (K := K) (by rfl)) (pe_ix (ixL (K := K) (by rfl)) (pv 6) pe_int (fun _ _ => rfl)) (pe_tup (pa_cons (pe_callTy (tupL (K := K) (by rfl)) (by rfl) T.f_tuple (by decide +kernel) (pa_cons (pe_slice (slL (K := K) (by rfl)) (pv 6) (po_some pe_int) po_none) pa_nil)) pa_nil))) pa_nil))))))))))
      (pss_one (ps_ret (pe_callTy (tupL (K := K) (by rfl)) (by rfl) T.f_tuple (by decide +kernel) (pa_cons (pv 3) pa_nil)))))), fun us M q h => ?_⟩)
  case len => rintro us M q ⟨_, _, _, _, _, _, _, rfl, _⟩; rfl
  obtain ⟨b, n, g, M0, B, ns, mp, rfl, hm1, hm2, rfl, hg, hB, hns, hnl, hq⟩ := h
  walk_at "in"
  walk_at "ro"
  refine ws_seq ?_
  refine ws_asg ?_
  walk_at "w"
  intro a
  refine wg_name ?_ (by with_unfolding_all rfl)
  walk_at "ro"
  refine ws_seq ?_
  refine WS.perm ((List.Perm.swap _ _ _).trans ((List.Perm.swap _ _ _).cons _)) ?_
  refine ws_forX (α := Nat) (wi_rng1 ?_)
  walk_at "w"
  refine ⟨b, mp, rfl, by omega, by omega, [], _, g, B, rfl, hg, by omega, fun r g1 hr hg1 => ?_⟩
  walk_at "w"
  refine ⟨by omega, by omega, ?_⟩
  rw [show ((1 : Int) + (r : Nat)).toNat = r + 1 from by omega]
  refine ⟨List.range (r + 1), fun w => .int (w : Nat), range_u _, fun k M' ρ' => ∃ (l : List Pl) (rest : List Int) (g' : Bg), RLe [some (.ptr b), some (.ptr n), some (.int (mp : Nat)), some (.ptr a), none, none, none, none] ρ' ∧ Sub ((b, eBg g') :: (n, .l (rest.map U.int)) :: (a, .l (l.map ePl)) :: M0) M' ∧ ns = addrsOf l ++ rest ∧ l.length = k ∧ (∀ x ∈ l, PlOk x) ∧ Bk (B + 1 + 7 * k) g', ⟨[], ns, g1, by walk_at "rle", Sub.refl _, rfl, rfl, by simp, hg1⟩, fun _ _ _ _ => trivial, fun k x M' ρ' hx ⟨l, rest, g', hr1, hs, e1, e2, e3, e4⟩ => ?_, fun M' ρ' ⟨l, rest, g', hr1, hs, e1, e2, e3, e4⟩ => ?_⟩
  · obtain ⟨rfl, hk⟩ := range_at hx
    have hrest : ∀ y ∈ rest, 1 ≤ y ∧ y ≤ 99 := fun y hy => hns y (by rw [e1]; exact List.mem_append_right _ hy)
    have hrl : rest.length ≤ 30 := by
      rw [e1, List.length_append] at hnl
      omega
    refine WG.fr hs hr1 ?_
    walk_at "w"
    walk_at "ro"
    walk_at "w"
    intro tmp
    walk_at "w"
    refine ⟨b, 6, rfl, by omega, by omega, [(tmp, _)], _, g', _, rfl, e4, by omega, fun r2 g2 hr2 hg2 => ?_⟩
    obtain ⟨v, hv, hv3⟩ := many_at hr2
    refine r_ixL (.head _) hv ?_
    refine r_ii ?_
    refine wg_name ?_ (by with_unfolding_all rfl)
    walk_at "ro"
    refine WS.sub (.skip (Sub.refl _)) ?_
    refine ws_if ?_
    refine wt_or ?_
    walk_at "w"
    refine ⟨b, 4, rfl, by omega, by omega, [], _, g2, _, rfl, hg2, by omega, fun r3 g3 hr3 hg3 => ?_⟩
    have hopen : ∃ (l2 : List Pl) (rest2 : List Int) (g' : Bg), RLe [some (.ptr b), some (.ptr n), some (.int (mp : Nat)), some (.ptr a), none, none, none, none] [some (.ptr b), some (.ptr n), some (.int (mp : Nat)), some (.ptr a), some (.int (x : Nat)), some (.int (1 + (v : Nat))), none, none] ∧ Sub ((b, eBg g') :: (n, .l (rest2.map U.int)) :: (a, .l (l2.map ePl)) :: M0) ((b, eBg g3) :: (n, .l (rest.map U.int)) :: (a, .l (l.map ePl ++ [.tup [.str "opener", .int 0, .tup []]])) :: M0) ∧ ns = addrsOf l2 ++ rest2 ∧ l2.length = x + 1 ∧ (∀ x ∈ l2, PlOk x) ∧ Bk (B + 1 + 7 * (x + 1)) g' := by
      refine ⟨l ++ [.op], rest, g3, by walk_at "rle", .keep (.keep (Sub.l_eq (by rw [List.map_append]; rfl) (Sub.refl _))), by rw [addrs_snoc, e1]; simp [Pl.devs], by rw [List.length_append, e2]; rfl, fun y hy => ?_, hg3.le (by omega)⟩
      rcases List.mem_append.mp hy with hy | hy
      · exact e3 y hy
      · rw [List.mem_singleton.mp hy]
        trivial
    rw [List.nil_append]
    walk_at "w"
    by_cases h0 : r3 = 0
    · rw [show decide (((r3 : Nat) : Int) = 0) = true from decide_eq_true (by omega)]
      walk_at "w"
      walk_at "bm"
      walk_at "w"
      refine rm_append (.there (.there .here)) (by rw [List.length_map]; omega) ?_
      exact hopen
    · rw [show decide (((r3 : Nat) : Int) = 0) = false from decide_eq_false (by omega)]
      walk_at "w"
      refine rc_len (.tail _ (.head _)) ?_
      walk_at "w"
      rw [List.length_map]
      by_cases hlt : rest.length < 1 + v
      · rw [show decide (((rest.length : Nat) : Int) < 1 + (v : Nat)) = true from decide_eq_true (by omega)]
        walk_at "w"
        walk_at "bm"
        walk_at "w"
        refine rm_append (.there (.there .here)) (by rw [List.length_map]; omega) ?_
        exact hopen
      · rw [show decide (((rest.length : Nat) : Int) < 1 + (v : Nat)) = false from decide_eq_false (by omega)]
        clear hopen
        walk_at "w"
        intro so
        walk_at "w"
        walk_at "ro"
        refine ws_forX (α := Nat) (wi_rng1 ?_)
        walk_at "w"
        refine ⟨by omega, by omega, ?_⟩
        rw [show ((1 : Int) + (v : Nat)).toNat = v + 1 from by omega]
        refine ⟨List.range (v + 1), fun w => .int (w : Nat), range_u _, fun k M' ρ' => ∃ (ds : List Dev) (rest2 : List Int) (g' : Bg), RLe [some (.ptr b), some (.ptr n), some (.int (mp : Nat)), some (.ptr a), none, some (.int (1 + (v : Nat))), some (.ptr so), none] ρ' ∧ Sub ((so, .l (ds.map eDev)) :: (b, eBg g') :: (n, .l (rest2.map U.int)) :: (a, .l (l.map ePl)) :: M0) M' ∧ rest = ds.map (·.addr) ++ rest2 ∧ ds.length = k ∧ (∀ x ∈ ds, DevOk x) ∧ Bk (B + 1 + 7 * x + 2 + k) g', ⟨[], rest, g3, by walk_at "rle", Sub.refl _, rfl, rfl, by simp, hg3⟩, fun _ _ _ _ => trivial, fun k y M' ρ' hy ⟨ds, rest2, g4, hr4, hs4, f1, f2, f3, f4⟩ => ?_, fun M' ρ' ⟨ds, rest2, g4, hr4, hs4, f1, f2, f3, f4⟩ => ?_⟩
        · obtain ⟨rfl, hky⟩ := range_at hy
          have hrl2 : rest.length = ds.length + rest2.length := by rw [f1, List.length_append, List.length_map]
          obtain ⟨z, rest3, hz⟩ : ∃ z rest3, rest2 = z :: rest3 := by
            cases rest2 with
            | nil => simp at hrl2; omega
            | cons z r => exact ⟨z, r, rfl⟩
          subst hz
          have hzz := hrest z (by rw [f1]; exact List.mem_append_right _ (List.mem_cons_self ..))
          refine WG.fr hs4 hr4 ?_
          walk_at "w"
          walk_at "ro"
          walk_at "w"
          walk_at "bm"
          walk_at "w"
          intro kl
          walk_at "w"
          refine ⟨b, 4, rfl, by omega, by omega, [(kl, _), (so, _)], _, g4, _, rfl, f4, by omega, fun r5 g5 hr5 hg5 => ?_⟩
          obtain ⟨kd, hkd, hkd2⟩ := kind_at hr5
          refine r_ixL (.head _) hkd ?_
          walk_at "w"
          refine ⟨⟨n, _, rfl, by first | rfl | trivial, .tail _ (.tail _ (.tail _ (.head _)))⟩, ?_⟩
          walk_at "w"
          refine rm_pop0 (.there (.there (.there .here))) ?_
          walk_at "w"
          refine rm_append (.there .here) (by rw [List.length_map]; omega) ?_
          walk_at "w"
          refine ⟨ds ++ [⟨kd, z⟩], rest3, g5, by walk_at "rle", .skip (Sub.l_eq (by rw [List.map_append]; rfl) (Sub.refl _)), by rw [f1, List.map_append, List.append_assoc]; rfl, by rw [List.length_append, f2]; rfl, fun d hd => ?_, hg5.le (by omega)⟩
          rcases List.mem_append.mp hd with hd | hd
          · exact f3 d hd
          · rw [List.mem_singleton.mp hd]
            exact ⟨hkd2, hzz.1, hzz.2⟩
        · rw [List.length_range] at f2 f4
          obtain ⟨d, sp, hds⟩ : ∃ d sp, ds = d :: sp := by
            cases ds with
            | nil => simp at f2
            | cons z r => exact ⟨z, r, rfl⟩
          subst hds
          have hspl : sp.length = v := by simpa using f2
          refine WS.fr hs4 hr4 ?_
          walk_at "w"
          refine ⟨⟨a, _, rfl, by first | rfl | trivial, .tail _ (.tail _ (.tail _ (.head _)))⟩, ?_⟩
          walk_at "w"
          refine r_ixL (u := eDev d) (.head _) (atI_nat (j := 0) rfl) ?_
          unfold eDev
          walk_at "w"
          refine rs_L (.head _) fun sl => ?_
          walk_at "w"
          refine rc_tupleL (.head _) ?_
          walk_at "w"
          refine r_catT (by simp) ?_
          walk_at "w"
          refine rm_append (.there (.there (.there (.there .here)))) (by rw [List.length_map]; omega) ?_
          refine ⟨l ++ [.dev d sp], rest2, g4, by walk_at "rle", .skip (.skip (.keep (.keep (Sub.l_eq ?_ (Sub.refl _))))), ?_, by rw [List.length_append, e2]; rfl, fun y hy => ?_, f4.le (by omega)⟩
          · have hcut : cutU ((d :: sp).map eDev) (some 1) none = sp.map eDev := cut_drop _ 1
            rw [List.map_append]
            refine congrArg (l.map ePl ++ ·) ?_
            show [U.tup [.str d.kind, .int d.addr, .tup (sp.map eDev)]] = [U.tup [.str d.kind, .int d.addr, .tup (cutU ((d :: sp).map eDev) (some 1) none)]]
            rw [hcut]
          · rw [addrs_snoc, e1, f1, List.append_assoc]
            rfl
          · rcases List.mem_append.mp hy with hy | hy
            · exact e3 y hy
            · rw [List.mem_singleton.mp hy]
              exact ⟨f3 d (List.mem_cons_self ..), by omega, fun e he => f3 e (List.mem_cons_of_mem _ he)⟩
  · refine WS.fr hs hr1 ?_
    walk_at "w"
    refine rc_tupleL (.tail _ (.tail _ (.head _))) ?_
    rw [List.length_range] at e2 e4
    exact ⟨(b, eBg g') :: (n, .l (rest.map U.int)) :: M0, .keep (.keep (.skip (Sub.refl _))), hq l rest g' ⟨by omega, by omega, e3⟩ (by omega) e1 (e4.le (by omega))⟩
end Wl
set_option Elab.async false
set_option linter.all false
set_option maxRecDepth 100000
set_option maxHeartbeats 4000000
namespace Wl
open PySem PySem.Spec PyProof.Rows L2
local macro_rules | `(tactic| walk_at "w1") => `(tactic| first
  | with_reducible refine ws_seq ?_
  | with_reducible refine ws_ret ?_
  | with_reducible refine ws_asg ?_
  | with_reducible refine ws_drop ?_
  | with_reducible refine ws_if ?_
  | with_reducible refine ws_next ?_
  | with_reducible refine w_var (by with_unfolding_all rfl) ?_
  | with_reducible refine w_int ?_
  | with_reducible refine w_str ?_
  | with_reducible refine w_bl ?_
  | with_reducible refine w_non ?_
  | with_reducible refine w_ref ?_
  | with_reducible refine w_isi2 ?_
  | with_reducible refine w_op ?_
  | with_reducible refine w_andV ?_
  | with_reducible refine w_notV ?_
  | with_reducible refine w_chain ?_
  | with_reducible refine wa_nil ?_
  | with_reducible refine wa_cons ?_
  | with_reducible refine w_tup ?_
  | with_reducible refine w_lst ?_
  | with_reducible refine w_tupF ?_
  | with_reducible refine w_call ?_
  | ((fail_if_success (with_reducible refine w_allT (α := Unit) ?_)); (fail_if_success (with_reducible refine w_anyB (α := Unit) ?_)); with_reducible refine w_cb ?_)
  | with_reducible refine w_bm ?_
  | with_reducible refine wt_test ?_
  | with_reducible refine wt_B ?_
  | with_reducible refine wt_not ?_
  | with_reducible refine wt_and ?_
  | with_reducible refine wt_or ?_
  | with_reducible refine wt_yes ?_
  | with_reducible refine wg_name ?_ (by with_unfolding_all rfl)
  | with_reducible refine wg_name ?_
  | with_reducible refine wgs_nil ?_
  | with_reducible refine wgs_cons ?_
  | with_reducible refine wg_tup (by with_unfolding_all rfl) ?_
  | with_reducible refine w_un ?_
  | with_reducible refine w_sl ?_
  | with_reducible refine wo_none ?_
  | with_reducible refine wo_some ?_
  | with_reducible refine r_ii ?_
  | with_reducible refine r_ib ?_
  | with_reducible refine r_eqI ?_
  | with_reducible refine r_eqS ?_
  | with_reducible refine r_neI ?_
  | with_reducible refine r_neS ?_
  | with_reducible refine rs_T ?_
  | with_reducible refine rc_lenT ?_
  | with_reducible refine rc_lenTf ?_
  | with_reducible refine rc_min ?_
  | with_reducible refine r_isN ?_
  | with_reducible refine r_noN ?_
  | with_reducible refine ws_break ?_
  | with_reducible refine ws_dput ?_
  | (with_reducible refine r_ixT (by with_unfolding_all rfl) ?_)
  | exact ⟨rfl, Sub.refl _⟩
  | refine ⟨Sub.refl _, ?_⟩
  | refine ⟨Nat.le_of_ble_eq_true (by with_unfolding_all rfl), ?_⟩
  | refine ⟨_, rfl, ?_⟩
  | refine ⟨true, rfl, fun _ => ?_, fun z => Bool.noConfusion z⟩
  | refine ⟨false, rfl, fun z => Bool.noConfusion z, fun _ => ?_⟩
  | refine ⟨false, rfl, fun _ => ?_, fun z => Bool.noConfusion z⟩
  | refine ⟨true, rfl, fun z => Bool.noConfusion z, fun _ => ?_⟩
  | refine ⟨fun _ => ?_, fun z => Bool.noConfusion z⟩
  | refine ⟨fun z => Bool.noConfusion z, fun _ => ?_⟩)
local macro_rules | `(tactic| walk_at "w") => `(tactic| repeat walk_at "w1")
local macro_rules | `(tactic| walk_at "in") => `(tactic| try dsimp only [XD, cxOf, Cx.nox, Cx.wish])
local macro_rules | `(tactic| walk_at "ro") => `(tactic| try simp only [startR, List.map_cons, List.map_nil, List.length_cons, List.length_nil, Nat.reduceAdd, Nat.reduceSub, Nat.zero_add, List.replicate_zero, List.replicate_succ, List.cons_append, List.nil_append, List.append_nil, List.set_cons_zero, List.set_cons_succ])
local macro_rules | `(tactic| walk_at "sub") => `(tactic| repeat (first | exact Sub.refl _ | exact Sub.nil' _ | refine Sub.keep ?_ | refine Sub.skip ?_))
local macro_rules | `(tactic| walk_at "go") => `(tactic| (walk_at "in"; walk_at "ro"; walk_at "w"))
local macro_rules | `(tactic| walk_at "rle") => `(tactic| repeat (first | exact RLe.refl _ | exact RLe.nil | refine RLe.keep ?_ | refine RLe.hole ?_))
local macro_rules | `(tactic| walk_at "mem") => `(tactic| repeat (first | exact List.mem_cons_self .. | refine List.mem_cons_of_mem _ ?_))
local macro_rules | `(tactic| walk_at "put") => `(tactic| repeat (first | exact Put.here | refine Put.there ?_))
local macro_rules | `(tactic| walk_at "bm") => `(tactic| (first | refine ⟨⟨_, _, rfl, rfl, (by walk_at "mem")⟩, ?_⟩ | refine ⟨⟨_, _, rfl, trivial, (by walk_at "mem")⟩, ?_⟩))
local macro_rules | `(tactic| walk_at "end") => `(tactic| (first | exact ⟨Sub.refl _, by walk_at "rle"⟩ | walk_at "rle"))
abbrev N__law_plan : List Str := ["_law_bag_here", "_law_most_loops", "_law_most_places", "_law_start", "_law_stride", "_law_numbers", "_law_own", "_law_first", "_law_at", "_law_loops", "_law_loop_here", "_law_most", "_law_told", "_law_places", "_law_zones", "_law_names_here", "_law_name_here", "_law_some", "_law_k", "_law_kind", "_law_address", "_law_spur", "_law_number", "_law_other"]
theorem sc__law_plan : FnScope N__law_plan ["_law_bag_here", "_law_most_loops", "_law_most_places"] (defScope (atTop 56)) := ⟨rfl, rfl, rfl, by decide +kernel, rfl, by decide +kernel, by decide +kernel⟩
theorem fn_law_plan {P : Program} {w : World} {K : PySem.W.Frag} {mg : Str → Option Value} {base : Heap} (T : Txt K mg) (F_law_take : Fn P w K mg base 1 "_law_take" ["_law_bag_here", "_law_many"] C_law_take) (F_law_names : Fn P w K mg base 3 "_law_names" ["_law_bag_here", "_law_many"] C_law_names) (F_law_loop : Fn P w K mg base 2 "_law_loop" ["_law_bag_here", "_law_numbers", "_law_most_places"] C_law_loop) (F_law_parts : Fn P w K mg base 1 "_law_parts" ["_law_places"] C_law_parts) : Fn P w K mg base 4 "_law_plan" ["_law_bag_here", "_law_most_loops", "_law_most_places"] C_law_plan := by
  have sc := sc__law_plan
  refine Fn.of T 36 rfl rfl sc (fun _ _ _ _ _ _ us hl => match us, hl with | [_, _, _], _ => rfl) ?len (fun f cdv A outer s H E hr => ⟨_, (pss_cons (ps_set (i := 3) sc.nd rfl (Or.inr rfl) (pFn F_law_take (by exact ⟨rfl, rfl, rfl, rfl, rfl⟩) (hr.mono (by decide)) (by rfl) (pa_cons (pv 0) (pa_cons pe_int pa_nil))))
      (pss_cons (ps_set (i := 4) sc.nd rfl (Or.inr rfl) (pe_ix (ixL (K := K) (by rfl)) (pe_lst (pa_cons pe_int (pa_cons pe_int (pa_cons pe_int (pa_cons pe_int (pa_cons pe_int (pa_cons pe_int (pa_cons pe_int (pa_cons pe_int (pa_cons pe_int pa_nil)))))))))) (pFn F_law_take (by exact ⟨rfl, rfl, rfl, rfl, rfl⟩) (hr.mono (by decide)) (by rfl) (pa_cons (pv 0) (pa_cons pe_int pa_nil))) (fun _ _ => rfl)))
      (pss_cons (ps_setLc (i := 5) (own := [("_law_k", 18)]) rfl sc.nd rfl rfl (sw_true rfl rfl rfl (by decide +kernel)) (pi_range1 (by rfl) T.f_range (pa_cons pe_int pa_nil)) (blkOk_by (own := [("_law_k", 18)]) (N := N__law_plan) (sc := defScope (atTop 56)) (by decide +kernel)) (fun _ _ _ _ _ => (pg_name (i := 18) sc.nd rfl (by first | exact Or.inl rfl | exact Or.inr rfl))) (fun _ _ _ _ _ => pts_nil) (fun _ _ _ _ _ => (pe_op op_add (pe_op op_mod (pe_op op_add (pv 3) (pe_op op_mul (pv 4) (pv 18))) pe_int) pe_int)))
      (pss_cons (ps_set (i := 6) sc.nd rfl (Or.inl rfl) (pe_bm PySem.F.plainAttrs_list PySem.F.slot_list_pop PySem.F.type_list_pop mt_popAt (pv 5) (pa_cons pe_int pa_nil)))
      (pss_cons (ps_set (i := 7) sc.nd rfl (Or.inl rfl) (pe_tup pa_nil))
      (pss_cons (ps_if (pt_cmpR op_gt (pFn F_law_take (by exact ⟨rfl, rfl, rfl, rfl, rfl⟩) (hr.mono (by decide)) (by rfl) (pa_cons (pv 0) (pa_cons pe_int pa_nil))) pe_int (nomark _)) (pss_one (ps_set (i := 7) sc.nd rfl (Or.inl rfl) (pFn F_law_loop (by exact ⟨rfl, rfl, rfl, rfl, rfl⟩) (hr.mono (by decide)) (by rfl) (pa_cons (pv 0) (pa_cons (pv 5) (pa_cons (pe_op op_sub (pv 2) pe_int) pa_nil)))))) pss_nil)
      (pss_cons (ps_set (i := 8) sc.nd rfl (Or.inl rfl) (pFn F_law_take (by exact ⟨rfl, rfl, rfl, rfl, rfl⟩) (hr.mono (by decide)) (by rfl) (pa_cons (pv 0) (pa_cons (pe_op op_add (pe_callB (lenK (K := K) (by rfl)) (by rfl) T.f_len (by decide +kernel) (pa_cons (pv 7) pa_nil)) pe_int) pa_nil))))
      (pss_cons (ps_set (i := 9) sc.nd rfl (Or.inl rfl) (pe_lst (pa_cons (pe_op (catT (K := K) (by rfl)) (pe_op (catT (K := K) (by rfl)) (pe_slice (slT (K := K) (by rfl)) (pv 7) po_none (po_some (pv 8))) (pe_tup (pa_cons (pe_tup (pa_cons pe_str (pa_cons (pv 6) (pa_cons (pe_tup pa_nil) pa_nil)))) pa_nil))) (pe_slice (slT (K := K) (by rfl)) (pv 7) (po_some (pv 8)) po_none)) pa_nil)))
      (pss_cons (ps_for PassesOwn.never rfl (pi_range1 (by rfl) T.f_range (pa_cons (pFn F_law_take (by exact ⟨rfl, rfl, rfl, rfl, rfl⟩) (hr.mono (by decide)) (by rfl) (pa_cons (pv 0) (pa_cons (pv 1) pa_nil))) pa_nil)) (pg_name (i := 10) sc.nd rfl (by first | exact Or.inl rfl | exact Or.inr rfl))
        (pss_one (ps_expr (pe_bm PySem.F.plainAttrs_list PySem.F.slot_list_append PySem.F.type_list_append mt_append (pv 9) (pa_cons (pFn F_law_loop (by exact ⟨rfl, rfl, rfl, rfl, rfl⟩) (hr.mono (by decide)) (by rfl) (pa_cons (pv 0) (pa_cons (pv 5) (pa_cons (pv 2) pa_nil)))) pa_nil)))))
      (pss_cons (ps_set (i := 11) sc.nd rfl (Or.inl rfl) (pe_callB (maxK (K := K) (by rfl) rfl) (by rfl) T.f_max (by decide +kernel) (pa_cons (pe_lc (own := [("_law_places", 13)]) rfl sc.nd (piL (K := K) (by rfl) (pv 9)) (blkOk_by (own := [("_law_places", 13)]) (N := N__law_plan) (sc := defScope (atTop 56)) (by decide +kernel)) (fun _ _ _ _ _ => (pg_name (i := 13) sc.nd rfl (by first | exact Or.inl rfl | exact Or.inr rfl))) (fun _ _ _ _ _ => pts_nil) (fun _ _ _ _ _ => (pe_callB (maxK (K := K) (by rfl) rfl) (by rfl) T.f_max (by decide +kernel) (pa_cons (pFn F_law_parts (by exact ⟨rfl, rfl, rfl, rfl, rfl⟩) (hr.mono (by decide)) (by rfl) (pa_cons (pv 13) pa_nil)) pa_nil)))) pa_nil)))
      (pss_cons (ps_set (i := 12) sc.nd rfl (Or.inl rfl) (pe_lst pa_nil))
      (pss_cons (ps_for PassesOwn.never rfl (piL (K := K) (by rfl) (pv 9)) (pg_name (i := 13) sc.nd rfl (by first | exact Or.inl rfl | exact Or.inr rfl))
        (pss_one (ps_for PassesOwn.never rfl (piT (K := K) (by rfl) (pv 13)) (pgT (K := K) (n := 3) (by rfl) rfl (pgs_cons (pg_name (i := 19) sc.nd rfl (by first | exact Or.inl rfl | exact Or.inr rfl)) (pgs_cons (pg_name (i := 20) sc.nd rfl (by first | exact Or.inl rfl | exact Or.inr rfl)) (pgs_cons (pg_name (i := 21) sc.nd rfl (by first | exact Or.inl rfl | exact Or.inr rfl)) pgs_nil))))
            (pss_one (ps_expr (pe_bm PySem.F.plainAttrs_list PySem.F.slot_list_extend PySem.F.type_list_extend mt_extend (pv 12) (pa_cons (pe_lc (own := [("_law_other", 23), ("_law_number", 22)]) rfl sc.nd (piT (K := K) (by rfl) (pe_op (catT (K := K) (by rfl)) (pe_tup (pa_cons (pe_tup (pa_cons (pv 19) (pa_cons (pv 20) pa_nil))) pa_nil)) (pv 21))) (blkOk_by (own := [("_law_other", 23), ("_law_number", 22)]) (N := N__law_plan) (sc := defScope (atTop 56)) (by decide +kernel)) (fun _ _ _ _ _ => (pgT (K := K) (n := 2) (by rfl) rfl (pgs_cons (pg_name (i := 23) sc.nd rfl (by first | exact Or.inl rfl | exact Or.inr rfl)) (pgs_cons (pg_name (i := 22) sc.nd rfl (by first | exact Or.inl rfl | exact Or.inr rfl)) pgs_nil)))) (fun _ _ _ _ _ => (pts_one (pt_cmpR (inK (K := K) (by rfl)) (pv 23) (pe_tup (pa_cons pe_str (pa_cons pe_str pa_nil))) (by rfl)))) (fun _ _ _ _ _ => (pv 22))) pa_nil)))))))
      (pss_cons (ps_set (i := 14) sc.nd rfl (Or.inl rfl) (pe_lst pa_nil))
      (pss_cons (ps_set (i := 15) sc.nd rfl (Or.inl rfl) (pFn F_law_names (by exact ⟨rfl, rfl, rfl, rfl, rfl⟩) (hr.mono (by decide)) (by rfl) (pa_cons (pv 0) (pa_cons (pFn F_law_take (by exact ⟨rfl, rfl, rfl, rfl, rfl⟩) (hr.mono (by decide)) (by rfl) (pa_cons (pv 0) (pa_cons pe_int pa_nil))) pa_nil))))
      (pss_cons (ps_for PassesOwn.never rfl (piL (K := K) (by rfl) (pv 15)) (pg_name (i := 16) sc.nd rfl (by first | exact Or.inl rfl | exact Or.inr rfl))
        (pss_cons (ps_set (i := 17) sc.nd rfl (Or.inr rfl) (pe_callB (sortI (K := K) (by rfl)) (by rfl) T.f_sorted (by decide +kernel) (pa_cons (pe_lc (own := [("_law_number", 22)]) rfl sc.nd (piL (K := K) (by rfl) (pv 12)) (blkOk_by (own := [("_law_number", 22)]) (N := N__law_plan) (sc := defScope (atTop 56)) (by decide +kernel)) (fun _ _ _ _ _ => (pg_name (i := 22) sc.nd rfl (by first | exact Or.inl rfl | exact Or.inr rfl))) (fun _ _ _ _ _ => (pts_one (pt_cmpR op_eq (pFn F_law_take (by exact ⟨rfl, rfl, rfl, rfl, rfl⟩) (hr.mono (by decide)) (by rfl) (pa_cons (pv 0) (pa_cons pe_int pa_nil))) pe_int (nomark _)))) (fun _ _ _ _ _ => (pv 22))) pa_nil)))
          (pss_cons (ps_setLc (i := 12) (own := [("_law_number", 22)]) rfl sc.nd rfl rfl (sw_true rfl rfl rfl (by decide +kernel)) (piL (K := K) (by rfl) (pv 12)) (blkOk_by (own := [("_law_number", 22)]) (N := N__law_plan) (sc := defScope (atTop 56)) (by decide +kernel)) (fun _ _ _ _ _ => (pg_name (i := 22) sc.nd rfl (by first | exact Or.inl rfl | exact Or.inr rfl))) (fun _ _ _ _ _ => (pts_one (pt_cmpR (notInK (K := K) (by rfl)) (pv 22) (pv 17) (by rfl)))) (fun _ _ _ _ _ => (pv 22)))
          (pss_one (ps_if (pt_cmpR op_gt (pe_callB (lenK (K := K) (by rfl)) (by rfl) T.f_len (by decide +kernel) (pa_cons (pv 17) pa_nil)) pe_int (nomark _)) (pss_one (ps_expr (pe_bm PySem.F.plainAttrs_list PySem.F.slot_list_append PySem.F.type_list_append mt_append (pv 14) (pa_cons (pe_tup (pa_cons (pv 16) (pa_cons (pe_callTy (tupL (K := K) (by rfl)) (by rfl) T.f_tuple (by decide +kernel) (pa_cons (pv 17) pa_nil)) pa_nil))) pa_nil)))) pss_nil)))))
      (pss_one (ps_ret (pe_tup (pa_cons (pe_callB (call_min2 rfl) (by rfl) T.f_min (by decide +kernel) (pa_cons pe_int (pa_cons (pe_op op_add (pv 11) (pFn F_law_take (by exact ⟨rfl, rfl, rfl, rfl, rfl⟩) (hr.mono (by decide)) (by rfl) (pa_cons (pv 0) (pa_cons pe_int pa_nil)))) pa_nil))) (pa_cons (pe_callTy (tupL (K := K) (by rfl)) (by rfl) T.f_tuple (by decide +kernel) (pa_cons (pv 9) pa_nil)) (pa_cons (pe_callTy (tupL (K := K) (by rfl)) (by rfl) T.f_tuple (by decide +kernel) (pa_cons (pv 14) pa_nil)) pa_nil))))))))))))))))))))), fun us M q h => ?_⟩)
  case len => rintro us M q ⟨_, _, _, _, _, _, rfl, _⟩; rfl
  obtain ⟨b, g, M0, B, ml, mp, rfl, hml1, hml2, hmp1, hmp2, rfl, hg, hB, hq⟩ := h
  walk_at "in"
  walk_at "ro"
  walk_at "w"
  refine ⟨b, 99, rfl, by omega, by omega, [], _, g, B, rfl, hg, by omega, fun r0 g1 hr0 hg1 => ?_⟩
  rw [List.nil_append]
  walk_at "w"
  walk_at "ro"
  walk_at "w"
  intro tmp
  walk_at "w"
  refine ⟨b, 9, rfl, by omega, by omega, [(tmp, _)], _, g1, _, rfl, hg1, by omega, fun r1 g2 hr1 hg2 => ?_⟩
  obtain ⟨s0, hs0, hs2⟩ := stride_at hr1
  refine r_ixL (.head _) hs0 ?_
  refine wg_name ?_ (by with_unfolding_all rfl)
  walk_at "ro"
  refine WS.sub (.skip (Sub.refl _)) ?_
  walk_at "w"
  refine w_lcm (α := Nat) (wi_rng1 ?_)
  walk_at "w"
  refine ⟨by omega, by omega, ?_⟩
  refine ⟨List.range 30, fun w => .int (w : Nat), fun k => .int (((r0 : Nat) + s0 * (k : Nat)) % 99 + 1), range_u 30, by simp, fun _ _ => trivial, fun D acc k hk => ?_, fun nm => ?_⟩
  · have hk2 := List.mem_range.mp hk
    walk_at "w"
    walk_at "ro"
    walk_at "w"
    refine r_iic (Or.inr (by omega)) ?_
    walk_at "w"
    refine r_iic (by show (0 : Int) < 99; omega) ?_
    walk_at "w"
  have hnums : ((List.range 30).map fun k : Nat => U.int (((r0 : Nat) + s0 * (k : Nat)) % 99 + 1)) = (numsOf (r0 : Nat) s0).map U.int := by
    unfold numsOf
    rw [List.map_map]
    rfl
  rw [hnums]
  have hn1 := nums_ok (st := (r0 : Nat)) (s := s0)
  have hn2 := nums_len (r0 : Nat) s0
  have hn3 := nums_nodup (st := (r0 : Nat)) hs2
  clear hnums
  revert hn1 hn2 hn3
  generalize numsOf (r0 : Nat) s0 = nums
  intro hn1 hn2 hn3
  obtain ⟨own, ns, rfl⟩ : ∃ own ns, nums = own :: ns := by
    cases nums with
    | nil => simp at hn2
    | cons z r => exact ⟨z, r, rfl⟩
  have hnsl : ns.length = 29 := by simpa using hn2
  refine wg_name ?_ (by with_unfolding_all rfl)
  walk_at "ro"
  refine WS.perm (List.Perm.swap ..) ?_
  walk_at "w"
  refine ⟨⟨nm, _, rfl, by first | rfl | trivial, .tail _ (.head _)⟩, ?_⟩
  walk_at "w"
  refine rm_pop0 (.there .here) ?_
  refine wg_name ?_ (by with_unfolding_all rfl)
  walk_at "ro"
  refine ws_seq ?_
  refine ws_asg ?_
  refine w_tup (wa_nil ⟨by simp, ?_⟩)
  refine wg_name ?_ (by with_unfolding_all rfl)
  walk_at "ro"
  refine ws_seq ?_
  refine ws_mid (fun M' ρ' => ∃ (fi : List Pl) (rest : List Int) (g' : Bg), (∀ x ∈ fi, PlOk x) ∧ fi.length ≤ mp - 1 ∧ ns = addrsOf fi ++ rest ∧ Bk (B + 103) g' ∧ Sub ((b, eBg g') :: (nm, .l (rest.map U.int)) :: M0) M' ∧ RLe [some (.ptr b), some (.int (ml : Nat)), some (.int (mp : Nat)), none, none, some (.ptr nm), some (.int own), some (eLoop fi), none, none, none, none, none, none, none, none, none, none, none, none, none, none, none, none] ρ') ?_ ?_
  · walk_at "w"
    refine ⟨b, 8, rfl, by omega, by omega, [], _, g2, _, rfl, hg2, by omega, fun r3 g3 hr3 hg3 => ?_⟩
    rw [List.nil_append]
    walk_at "w"
    by_cases h0 : 0 < r3
    · rw [show decide ((0 : Int) < (r3 : Nat)) = true from decide_eq_true (by omega)]
      walk_at "w"
      rw [show ((mp : Int) - 1) = ((mp - 1 : Nat) : Int) from by omega]
      refine ⟨b, nm, g3, M0, _, ns, mp - 1, rfl, by omega, by omega, rfl, hg3, by omega, fun x hx => hn1 x (List.mem_cons_of_mem _ hx), by omega, fun l rest g4 hl hll e hg4 => ?_⟩
      walk_at "w"
      walk_at "ro"
      exact ⟨l, rest, g4, hl.2.2, hll, e, hg4.le (by omega), Sub.refl _, by walk_at "rle"⟩
    · rw [show decide ((0 : Int) < (r3 : Nat)) = false from decide_eq_false (by omega)]
      walk_at "w"
      exact ⟨[], ns, g3, by simp, by simp, rfl, hg3.le (by omega), Sub.refl _, by walk_at "rle"⟩
  rintro M' ρ' ⟨fi, rest, g3, hf1, hf2, hf3, hg3, hsb, hrl⟩
  refine WS.fr hsb hrl ?_
  clear hsb hrl M' ρ'
  unfold eLoop
  walk_at "w"
  rw [List.length_map]
  refine ⟨b, fi.length + 1, rfl, by omega, by omega, [], _, g3, _, rfl, hg3, by omega, fun r4 g4 hr4 hg4 => ?_⟩
  rw [List.nil_append]
  walk_at "w"
  walk_at "ro"
  walk_at "w"
  have hcu1 : cutU (fi.map ePl) none (some (r4 : Nat)) = (fi.take r4).map ePl := by rw [cut_take, List.map_take]
  have hcu2 : cutU (fi.map ePl) (some (r4 : Nat)) none = (fi.drop r4).map ePl := by rw [cut_drop, List.map_drop]
  rw [hcu1]
  refine r_catT (by simp only [List.length_map, List.length_take, List.length_cons, List.length_nil]; omega) ?_
  walk_at "w"
  rw [hcu2]
  refine r_catT (by simp only [List.length_map, List.length_take, List.length_drop, List.length_append, List.length_cons, List.length_nil]; omega) ?_
  walk_at "w"
  intro lp
  have hl0 : (fi.take r4).map ePl ++ [U.tup [.str "seeker", .int own, .tup []]] ++ (fi.drop r4).map ePl = (fi.take r4 ++ [Pl.dev ⟨"seeker", own⟩ []] ++ fi.drop r4).map ePl := by
    rw [List.map_append, List.map_append]
    rfl
  have hperm := own_ok fi own r4 rest
  have hownr := hn1 own (List.mem_cons_self ..)
  have hl0ok : LoopOk (fi.take r4 ++ [Pl.dev ⟨"seeker", own⟩ []] ++ fi.drop r4) := by
    refine ⟨?_, ?_, fun x hx => ?_⟩
    · simp only [List.length_append, List.length_cons, List.length_nil]
      omega
    · simp only [List.length_append, List.length_cons, List.length_nil, List.length_take, List.length_drop]
      omega
    · rcases List.mem_append.mp hx with hx | hx
      · rcases List.mem_append.mp hx with hx | hx
        · exact hf1 x (List.mem_of_mem_take hx)
        · rw [List.mem_singleton.mp hx]
          exact ⟨⟨by simp [kindsL], hownr.1, hownr.2⟩, by simp, by simp⟩
      · exact hf1 x (List.mem_of_mem_drop hx)
  have hl0len : 1 ≤ (addrsOf (fi.take r4 ++ [Pl.dev ⟨"seeker", own⟩ []] ++ fi.drop r4)).length := by
    unfold addrsOf
    exact Nat.le_trans (by simp [Pl.devs]) (flat_mem_len (g := fun x : Pl => x.devs.map (·.addr)) (x := Pl.dev ⟨"seeker", own⟩ []) (by simp))
  rw [hl0]
  rw [← hf3] at hperm
  revert hperm hl0ok hl0len
  generalize fi.take r4 ++ [Pl.dev ⟨"seeker", own⟩ []] ++ fi.drop r4 = l0
  intro hperm hl0ok hl0len
  refine wg_name ?_ (by with_unfolding_all rfl)
  walk_at "ro"
  refine WS.perm ((List.Perm.swap _ _ _).trans ((List.Perm.swap _ _ _).cons _)) ?_
  refine ws_seq ?_
  refine ws_forX (α := Nat) (wi_rng1 ?_)
  walk_at "w"
  refine ⟨b, ml, rfl, by omega, by omega, [], _, g4, _, rfl, hg4, by omega, fun r5 g5 hr5 hg5 => ?_⟩
  rw [List.nil_append]
  walk_at "w"
  refine ⟨by omega, by omega, ?_⟩
  rw [show ((r5 : Nat) : Int).toNat = r5 from by omega]
  refine ⟨List.range r5, fun w => .int (w : Nat), range_u _, fun k M' ρ' => ∃ (ls : List (List Pl)) (rest : List Int) (g' : Bg), RLe [some (.ptr b), some (.int (ml : Nat)), some (.int (mp : Nat)), none, none, some (.ptr nm), none, none, none, some (.ptr lp), none, none, none, none, none, none, none, none, none, none, none, none, none, none] ρ' ∧ Sub ((b, eBg g') :: (nm, .l (rest.map U.int)) :: (lp, .l (ls.map eLoop)) :: M0) M' ∧ ls.length = 1 + k ∧ (∀ l ∈ ls, LoopOk l) ∧ (ls.flatMap addrsOf ++ rest).Perm (own :: ns) ∧ Bk (B + 105 + 100 * k) g' ∧ 1 ≤ (ls.flatMap addrsOf).length, ⟨[l0], rest, g5, by walk_at "rle", Sub.refl _, rfl, by simpa using hl0ok, by rw [List.flatMap_cons, List.flatMap_nil, List.append_nil]; exact hperm, hg5, by rw [List.flatMap_cons, List.flatMap_nil, List.append_nil]; exact hl0len⟩, fun _ _ _ _ => trivial, fun k x M' ρ' hx ⟨ls, rest, g', hr, hs, e1, e2, e3, e4, e5⟩ => ?_, fun M' ρ' ⟨ls, rest, g', hr, hs, e1, e2, e3, e4, e5⟩ => ?_⟩
  · obtain ⟨rfl, hk⟩ := range_at hx
    have hrest : ∀ y ∈ rest, 1 ≤ y ∧ y ≤ 99 := fun y hy => hn1 y (e3.subset (List.mem_append_right _ hy))
    have hrl : rest.length ≤ 30 := by
      have := e3.length_eq
      rw [List.length_append, List.length_cons] at this
      omega
    refine WG.fr hs hr ?_
    walk_at "w"
    walk_at "ro"
    walk_at "w"
    refine ⟨⟨lp, _, rfl, by first | rfl | trivial, .tail _ (.tail _ (.head _))⟩, ?_⟩
    walk_at "w"
    refine ⟨b, nm, g', _, _, rest, mp, rfl, by omega, by omega, rfl, e4, by omega, hrest, hrl, fun l rest2 g6 hl hll e hg6 => ?_⟩
    walk_at "w"
    refine rm_append (.there (.there .here)) (by rw [List.length_map]; omega) ?_
    refine ⟨ls ++ [l], rest2, g6, by walk_at "rle", .keep (.keep (Sub.l_eq (by rw [List.map_append]; rfl) (Sub.refl _))), by rw [List.length_append, e1]; rfl, fun y hy => ?_, ?_, hg6.le (by omega), ?_⟩
    · rcases List.mem_append.mp hy with hy | hy
      · exact e2 y hy
      · rw [List.mem_singleton.mp hy]
        exact hl
    · rw [List.flatMap_append, List.flatMap_cons, List.flatMap_nil, List.append_nil, List.append_assoc, ← e]
      exact e3
    · rw [List.flatMap_append, List.length_append]
      omega
  · rw [List.length_range] at e1 e4
    have e4' : Bk (B + 305) g' := e4.le (by omega)
    have hls3 : ls.length ≤ 3 := by omega
    have hls1 : 1 ≤ ls.length := by omega
    clear e4 e1
    have had : (ls.flatMap addrsOf).Nodup := by
      have := e3.nodup_iff.mpr hn3
      exact (List.nodup_append.mp this).1
    have hal : (ls.flatMap addrsOf).length ≤ 30 := by
      have := e3.length_eq
      rw [List.length_append, List.length_cons] at this
      omega
    have har : ∀ a ∈ ls.flatMap addrsOf, 1 ≤ a ∧ a ≤ 99 := fun a ha => hn1 a (e3.subset (List.mem_append_left _ ha))
    refine WS.fr hs hr ?_
    walk_at "w"
    refine w_lcm (α := List Pl) (wi_list ?_)
    walk_at "w"
    refine ⟨lp, _, rfl, .tail _ (.tail _ (.head _)), ?_⟩
    refine ⟨ls, eLoop, fun l => .int (maxN (lensOf l) : Nat), rfl, by omega, fun _ _ => .tail _ (.tail _ (.tail _ (.head _))), fun D acc l hl => ?_, fun D => ?_⟩
    · have hlo := e2 l hl
      walk_at "w"
      walk_at "ro"
      walk_at "w"
      refine ⟨hlo.2.1, fun x hx => (hlo.2.2 x hx).shp, fun a => ?_⟩
      walk_at "w"
      have hmm : ((lensOf l).map fun n : Nat => U.int (n : Nat)) = ((lensOf l).map fun n : Nat => (n : Int)).map U.int := by
        rw [List.map_map]
        rfl
      rw [hmm]
      refine rc_maxL (.head _) (by unfold lensOf; simp) fun m h1 h2 => ?_
      rw [max_eq h1 h2]
      exact ⟨rfl, .skip (Sub.refl _)⟩
    · walk_at "w"
      have hmm : (ls.map fun l => U.int (maxN (lensOf l) : Nat)) = ((ls.map fun l => maxN (lensOf l)).map fun n : Nat => (n : Int)).map U.int := by
        rw [List.map_map, List.map_map]
        rfl
      rw [hmm]
      refine rc_maxL (.head _) (by simp only [List.length_map]; omega) fun m h1 h2 => ?_
      have hme := max_eq h1 h2
      have hmall : ∀ l ∈ ls, ∀ n ∈ lensOf l, n ≤ maxN (ls.map fun l => maxN (lensOf l)) := fun l hl n hn => Nat.le_trans (le_maxN hn) (le_maxN (List.mem_map.mpr ⟨l, hl, rfl⟩))
      revert hme hmall
      generalize maxN (ls.map fun l => maxN (lensOf l)) = mx
      intro hme hmall
      subst hme
      clear h1 h2
      refine wg_name ?_ (by with_unfolding_all rfl)
      walk_at "ro"
      refine WS.sub (.skip (.keep (.skip (.keep (Sub.refl _))))) ?_
      walk_at "w"
      intro td
      refine wg_name ?_ (by with_unfolding_all rfl)
      walk_at "ro"
      refine ws_seq ?_
      have htl : (ls.flatMap toldL).length ≤ 30 := Nat.le_trans (toldS_sub ls).length_le hal
      refine ws_forF (α := List Pl) [some (.ptr b), some (.int (ml : Nat)), some (.int (mp : Nat)), none, none, none, none, none, none, some (.ptr lp), none, some (.int (mx : Nat)), some (.ptr td), none, none, none, none, none, none, none, none, none, none, none] (fun xs i => (td, .l (((xs.take i).flatMap toldL).map U.int)) :: (b, eBg g') :: (lp, .l (ls.map eLoop)) :: M0) (by walk_at "rle") (wi_list ?_)
      walk_at "w"
      refine ⟨lp, _, rfl, .tail _ (.tail _ (.head _)), ?_⟩
      refine ⟨ls, eLoop, rfl, Sub.refl _, fun i M' hs => hs.mem (.tail _ (.tail _ (.head _))), fun i l hl => ?_, fun M' ρ' hs hr => ?_⟩
      · have hA : ((ls.take i).flatMap toldL).length ≤ 30 := Nat.le_trans (flat_le i) htl
        have hlm := List.mem_of_getElem? hl
        have hlo := e2 l hlm
        have hB : (toldL l).length ≤ 30 := Nat.le_trans (flat_mem_len hlm) htl
        dsimp only
        rw [flat_next hl]
        revert hA
        generalize (ls.take i).flatMap toldL = A1
        intro hA
        unfold eLoop
        walk_at "w"
        walk_at "ro"
        refine ws_forF (α := Pl) [some (.ptr b), some (.int (ml : Nat)), some (.int (mp : Nat)), none, none, none, none, none, none, some (.ptr lp), none, some (.int (mx : Nat)), some (.ptr td), none, none, none, none, none, none, none, none, none, none, none] (fun xs j => (td, .l ((A1 ++ (xs.take j).flatMap toldOf).map U.int)) :: (b, eBg g') :: (lp, .l (ls.map eLoop)) :: M0) (by walk_at "rle") (wi_tup ?_)
        walk_at "w"
        refine ⟨l, ePl, rfl, by rw [List.take_zero, List.flatMap_nil, List.append_nil]; exact Sub.refl _, fun _ _ _ => trivial, fun j x hx => ?_, fun M' ρ' hs hr => ?_⟩
        · have hxo := hlo.2.2 x (List.mem_of_getElem? hx)
          have hC : ((l.take j).flatMap toldOf).length ≤ 30 := Nat.le_trans (flat_le j) hB
          have hx3 : x.spur.length ≤ 3 := by
            cases x with
            | op => exact Nat.zero_le _
            | dev d sp => exact hxo.2.1
          have ex : ∃ k ad, ePl x = .tup [.str k, .int ad, .tup (x.spur.map eDev)] ∧ [U.tup [.str k, .int ad]] ++ x.spur.map eDev = (prs x).map eDev ∧ (prs x).length ≤ 4 := by
            cases x with
            | op => exact ⟨_, _, rfl, rfl, by simp [prs]⟩
            | dev d sp => exact ⟨_, _, rfl, rfl, by have h3 : sp.length ≤ 3 := hx3; simp only [prs, List.length_cons]; omega⟩
          obtain ⟨kk, ad, ex, ex2, ex3⟩ := ex
          dsimp only
          rw [flat_next hx, ex]
          revert hC
          generalize (l.take j).flatMap toldOf = A2
          intro hC
          walk_at "w"
          walk_at "ro"
          walk_at "w"
          walk_at "bm"
          walk_at "w"
          refine w_lcp (α := Dev) (wi_tup ?_)
          walk_at "w"
          refine r_catT (by simp only [List.length_map, List.length_cons, List.length_nil]; omega) ?_
          rw [ex2]
          walk_at "w"
          refine ⟨prs x, eDev, fun d => decide (d.kind ∈ (["seeker", "knob"] : List Str)), fun d => .int d.addr, rfl, by omega, fun _ _ => trivial, fun D acc d hd => ?_, fun D => ?_⟩
          · unfold eDev
            walk_at "w"
            walk_at "ro"
            walk_at "w"
            refine r_inT (xs := ["seeker", "knob"]) ?_
            walk_at "w"
            refine ⟨rfl, Sub.refl _, fun _ => ?_⟩
            walk_at "w"
          · have hto : ((prs x).filter fun d => decide (d.kind ∈ (["seeker", "knob"] : List Str))).map (fun d => U.int d.addr) = (toldOf x).map U.int := by
              rw [← prs_told, List.map_map]
              rfl
            have hfl : (toldOf x).length ≤ 4 := by
              rw [← prs_told, List.length_map]
              exact Nat.le_trans (List.length_filter_le _ _) ex3
            rw [hto]
            walk_at "w"
            refine rm_extend (.there .here) (.head _) (by simp only [List.length_map, List.length_append]; omega) ?_
            walk_at "w"
            refine ⟨.skip (Sub.l_eq ?_ (Sub.refl _)), by walk_at "rle"⟩
            rw [← List.append_assoc, List.map_append (l₂ := toldOf x)]
        · rw [List.take_length] at hs
          exact ⟨hs, RLe.trans (by walk_at "rle") hr⟩
      · rw [List.take_length] at hs
        refine WS.fr hs hr ?_
        refine ws_seq ?_
        refine ws_asg ?_
        walk_at "w"
        intro zn
        refine wg_name ?_ (by with_unfolding_all rfl)
        walk_at "ro"
        refine WS.perm (List.perm_middle (l₁ := [_, _])) ?_
        walk_at "w"
        refine ⟨b, 5, rfl, by omega, by omega, [], _, g', _, rfl, e4', by omega, fun r6 g6 hr6 hg6 => ?_⟩
        rw [List.nil_append]
        walk_at "w"
        refine ⟨b, r6, g6, _, _, rfl, by omega, rfl, hg6, by omega, fun na names g7 hn5 hn6 hn7 hg7 => ?_⟩
        refine wg_name ?_ (by with_unfolding_all rfl)
        walk_at "ro"
        refine WS.perm ((List.perm_middle (l₁ := [_, _, _]))) ?_
        refine ws_seq ?_
        have hknd : (ls.flatMap toldL).Nodup := had.sublist (toldS_sub ls)
        refine ws_forX (α := Str) (wi_list ?_)
        walk_at "w"
        refine ⟨na, _, rfl, .tail _ (.tail _ (.head _)), ?_⟩
        refine ⟨names, U.str, rfl, fun k M' ρ' => ∃ (zs : List (Str × List Int)) (told : List Int) (td : Addr) (g' : Bg), RLe [some (.ptr b), none, none, none, none, none, none, none, none, some (.ptr lp), none, some (.int (mx : Nat)), some (.ptr td), none, some (.ptr zn), none, none, none, none, none, none, none, none, none] ρ' ∧ Sub ((td, .l (told.map U.int)) :: (b, eBg g') :: (na, .l (names.map U.str)) :: (zn, .l (zs.map eZone)) :: (lp, .l (ls.map eLoop)) :: M0) M' ∧ ZInv (ls.flatMap toldL) names k zs told ∧ zs.length ≤ k ∧ Bk (B + 350 + 40 * k) g', ?_, fun k M' ρ' ⟨_, _, _, _, _, hs, _⟩ => hs.mem (.tail _ (.tail _ (.head _))), fun k n M' ρ' hn ⟨zs, told, td, g', hr, hs, hz, hzl, hg'⟩ => ?_, fun M' ρ' ⟨zs, told, td, g', hr, hs, hz, hzl, hg'⟩ => ?_⟩
        · exact ⟨[], ls.flatMap toldL, td, g7, by walk_at "rle", Sub.refl _, ⟨by simp, by simp, fun a h => h, hknd, htl, .nil, by simp⟩, Nat.le_refl _, hg7.le (by omega)⟩
        · have hno := hn6 n (List.mem_of_getElem? hn)
          have hk := (List.getElem?_eq_some_iff.mp hn).1
          have htlen := hz.tl
          refine WG.fr hs hr ?_
          walk_at "w"
          walk_at "ro"
          walk_at "w"
          refine w_lc (wi_list ?_)
          walk_at "w"
          refine ⟨td, _, rfl, .head _, ?_⟩
          refine ⟨fun i acc M' => ∃ (sel : List Int) (g2 : Bg), acc = sel.map U.int ∧ sel.Sublist (told.take i) ∧ Bk (B + 350 + 40 * k + i) g2 ∧ M' = (td, .l (told.map U.int)) :: (b, eBg g2) :: (na, .l (names.map U.str)) :: (zn, .l (zs.map eZone)) :: (lp, .l (ls.map eLoop)) :: M0, ⟨[], g', rfl, by simp, hg', rfl⟩, by show (told.map U.int).length ≤ _; rw [List.length_map]; omega, fun D i acc M' _ ⟨sel, g2, e1, e2, e3, e4⟩ => by subst e4; exact .tail _ (.head _), fun D i acc M' u hu hai ⟨sel, g2, e1, e2, e3, e4⟩ => ?_, fun D acc M' hacc ⟨sel, g2, e1, e2, e3, e4⟩ => ?_⟩
          · subst e4
            obtain ⟨a, ha, rfl⟩ : ∃ a, told[i]? = some a ∧ u = .int a := by
              have hu' : (told.map U.int)[i]? = some u := hu
              rw [List.getElem?_map] at hu'
              cases z : told[i]? with
              | none => rw [z] at hu'; cases hu'
              | some a =>
                rw [z] at hu'
                exact ⟨a, rfl, (Option.some.inj hu').symm⟩
            have hi := (List.getElem?_eq_some_iff.mp ha).1
            have htk : told.take (i + 1) = told.take i ++ [a] := by
              rw [List.take_add_one, ha]
              rfl
            walk_at "w"
            walk_at "ro"
            walk_at "w"
            refine ⟨b, 3, rfl, by omega, by omega, [(D, .l acc), (td, _)], _, g2, _, rfl, e3, by omega, fun r9 g9 hr9 hg9 => ?_⟩
            walk_at "w"
            refine ⟨fun _ => ?_, fun _ => ?_⟩
            · walk_at "w"
              refine ⟨_, Sub.refl _, sel ++ [a], g9, by rw [e1, List.map_append]; rfl, ?_, hg9.le (by omega), rfl⟩
              rw [htk]
              exact e2.append (List.Sublist.refl _)
            · refine ⟨_, Sub.refl _, sel, g9, e1, ?_, hg9.le (by omega), rfl⟩
              rw [htk]
              exact e2.trans (List.sublist_append_left ..)
          · subst e4 e1
            have e2' : sel.Sublist told := e2.trans (List.take_sublist ..)
            have e3' : Bk (B + 350 + 40 * k + 30) g2 := e3.le (by show B + 350 + 40 * k + (told.map U.int).length ≤ _; rw [List.length_map]; omega)
            have hsl : sel.length ≤ 30 := Nat.le_trans e2'.length_le htlen
            walk_at "w"
            refine rc_sorted (.head _) (by omega) fun ms hpm hw so => ?_
            obtain ⟨z1, z2⟩ := hz.step hn hno e2' hpm hw
            have hml : ms.length ≤ 30 := by
              rw [hpm.length_eq]
              exact hsl
            refine wg_name ?_ (by with_unfolding_all rfl)
            walk_at "ro"
            walk_at "w"
            refine w_lcp (α := Int) (wi_list ?_)
            walk_at "w"
            refine ⟨td, _, rfl, .tail _ (.tail _ (.head _)), ?_⟩
            refine ⟨told, U.int, fun a => !decide (a ∈ ms), U.int, rfl, by omega, fun _ _ => .tail _ (.tail _ (.tail _ (.head _))), fun D2 acc a ha => ?_, fun td2 => ?_⟩
            · walk_at "w"
              walk_at "ro"
              walk_at "w"
              refine r_inI (.tail _ (.head _)) ?_
              rw [if_pos rfl]
              walk_at "w"
              refine ⟨rfl, Sub.refl _, fun _ => ?_⟩
              walk_at "w"
            · walk_at "w"
              walk_at "ro"
              walk_at "w"
              refine rc_len (.tail _ (.head _)) ?_
              walk_at "w"
              rw [List.length_map]
              by_cases h0 : 0 < ms.length
              · rw [show decide ((0 : Int) < (ms.length : Nat)) = true from decide_eq_true (by omega)]
                walk_at "w"
                walk_at "bm"
                walk_at "w"
                refine rc_tupleL (.tail _ (.head _)) ?_
                walk_at "w"
                refine rm_append (.there (.there (.there (.there (.there (.there .here)))))) (by rw [List.length_map]; omega) ?_
                refine ⟨zs ++ [(n, ms)], _, td2, g2, by walk_at "rle", .keep (.skip (.skip (.skip (.keep (.keep (Sub.l_eq ?_ (Sub.refl _))))))), z1 h0, by rw [List.length_append]; show zs.length + 1 ≤ _; omega, e3'.le (by omega)⟩
                rw [List.map_append]
                rfl
              · rw [show decide ((0 : Int) < (ms.length : Nat)) = false from decide_eq_false (by omega)]
                walk_at "w"
                exact ⟨zs, _, td2, g2, by walk_at "rle", .keep (.skip (.skip (.skip (Sub.refl _)))), z2 (by omega), by omega, e3'.le (by omega)⟩
        · refine WS.fr hs hr ?_
          walk_at "w"
          refine ⟨b, 3, rfl, by omega, by omega, [(td, _)], _, g', _, rfl, hg', by omega, fun r9 g9 hr9 hg9 => ?_⟩
          walk_at "w"
          refine rc_tupleL (.tail _ (.tail _ (.tail _ (.tail _ (.head _))))) ?_
          walk_at "w"
          refine rc_tupleL (.tail _ (.tail _ (.tail _ (.head _)))) ?_
          walk_at "w"
          refine ⟨(b, eBg g9) :: M0, .skip (.keep (.skip (.skip (.skip (Sub.refl _))))), hq ⟨if (mx : Int) + (r9 : Nat) < 30 then (mx : Int) + (r9 : Nat) else 30, ls, zs⟩ g9 (plan_ok hls1 hls3 e2 had e5 hal hmall har hn7 (by omega) hz) (hg9.le (by omega))⟩
end Wl
set_option Elab.async false
set_option linter.all false
set_option maxRecDepth 100000
set_option maxHeartbeats 4000000
namespace Wl
open PySem PySem.Spec PyProof.Rows L2
local macro_rules | `(tactic| walk_at "w1") => `(tactic| first
  | with_reducible refine ws_seq ?_
  | with_reducible refine ws_ret ?_
  | with_reducible refine ws_asg ?_
  | with_reducible refine ws_drop ?_
  | with_reducible refine ws_if ?_
  | with_reducible refine ws_next ?_
  | with_reducible refine w_var (by with_unfolding_all rfl) ?_
  | with_reducible refine w_int ?_
  | with_reducible refine w_str ?_
  | with_reducible refine w_bl ?_
  | with_reducible refine w_non ?_
  | with_reducible refine w_ref ?_
  | with_reducible refine w_isi2 ?_
  | with_reducible refine w_op ?_
  | with_reducible refine w_andV ?_
  | with_reducible refine w_notV ?_
  | with_reducible refine w_chain ?_
  | with_reducible refine wa_nil ?_
  | with_reducible refine wa_cons ?_
  | with_reducible refine w_tup ?_
  | with_reducible refine w_lst ?_
  | with_reducible refine w_tupF ?_
  | with_reducible refine w_call ?_
  | ((fail_if_success (with_reducible refine w_allT (α := Unit) ?_)); (fail_if_success (with_reducible refine w_anyB (α := Unit) ?_)); with_reducible refine w_cb ?_)
  | with_reducible refine w_bm ?_
  | with_reducible refine wt_test ?_
  | with_reducible refine wt_B ?_
  | with_reducible refine wt_not ?_
  | with_reducible refine wt_and ?_
  | with_reducible refine wt_or ?_
  | with_reducible refine wt_yes ?_
  | with_reducible refine wg_name ?_ (by with_unfolding_all rfl)
  | with_reducible refine wg_name ?_
  | with_reducible refine wgs_nil ?_
  | with_reducible refine wgs_cons ?_
  | with_reducible refine wg_tup (by with_unfolding_all rfl) ?_
  | with_reducible refine w_un ?_
  | with_reducible refine w_sl ?_
  | with_reducible refine wo_none ?_
  | with_reducible refine wo_some ?_
  | with_reducible refine r_ii ?_
  | with_reducible refine r_ib ?_
  | with_reducible refine r_eqI ?_
  | with_reducible refine r_eqS ?_
  | with_reducible refine r_neI ?_
  | with_reducible refine r_neS ?_
  | with_reducible refine rs_T ?_
  | with_reducible refine rc_lenT ?_
  | with_reducible refine rc_lenTf ?_
  | with_reducible refine rc_min ?_
  | with_reducible refine r_isN ?_
  | with_reducible refine r_noN ?_
  | with_reducible refine ws_break ?_
  | with_reducible refine ws_dput ?_
  | (with_reducible refine r_ixT (by with_unfolding_all rfl) ?_)
  | exact ⟨rfl, Sub.refl _⟩
  | refine ⟨Sub.refl _, ?_⟩
  | refine ⟨Nat.le_of_ble_eq_true (by with_unfolding_all rfl), ?_⟩
  | refine ⟨_, rfl, ?_⟩
  | refine ⟨true, rfl, fun _ => ?_, fun z => Bool.noConfusion z⟩
  | refine ⟨false, rfl, fun z => Bool.noConfusion z, fun _ => ?_⟩
  | refine ⟨false, rfl, fun _ => ?_, fun z => Bool.noConfusion z⟩
  | refine ⟨true, rfl, fun z => Bool.noConfusion z, fun _ => ?_⟩
  | refine ⟨fun _ => ?_, fun z => Bool.noConfusion z⟩
  | refine ⟨fun z => Bool.noConfusion z, fun _ => ?_⟩)
local macro_rules | `(tactic| walk_at "w") => `(tactic| repeat walk_at "w1")
local macro_rules | `(tactic| walk_at "in") => `(tactic| try dsimp only [XD, cxOf, Cx.nox, Cx.wish])
local macro_rules | `(tactic| walk_at "ro") => `(tactic| try simp only [startR, List.map_cons, List.map_nil, List.length_cons, List.length_nil, Nat.reduceAdd, Nat.reduceSub, Nat.zero_add, List.replicate_zero, List.replicate_succ, List.cons_append, List.nil_append, List.append_nil, List.set_cons_zero, List.set_cons_succ])
local macro_rules | `(tactic| walk_at "sub") => `(tactic| repeat (first | exact Sub.refl _ | exact Sub.nil' _ | refine Sub.keep ?_ | refine Sub.skip ?_))
local macro_rules | `(tactic| walk_at "go") => `(tactic| (walk_at "in"; walk_at "ro"; walk_at "w"))
local macro_rules | `(tactic| walk_at "rle") => `(tactic| repeat (first | exact RLe.refl _ | exact RLe.nil | refine RLe.keep ?_ | refine RLe.hole ?_))
local macro_rules | `(tactic| walk_at "mem") => `(tactic| repeat (first | exact List.mem_cons_self .. | refine List.mem_cons_of_mem _ ?_))
local macro_rules | `(tactic| walk_at "put") => `(tactic| repeat (first | exact Put.here | refine Put.there ?_))
local macro_rules | `(tactic| walk_at "bm") => `(tactic| (first | refine ⟨⟨_, _, rfl, rfl, (by walk_at "mem")⟩, ?_⟩ | refine ⟨⟨_, _, rfl, trivial, (by walk_at "mem")⟩, ?_⟩))
local macro_rules | `(tactic| walk_at "end") => `(tactic| (first | exact ⟨Sub.refl _, by walk_at "rle"⟩ | walk_at "rle"))
abbrev N__law_drawn : List Str := ["_law_bag_here", "_law_singles_here", "_law_one", "_law_other", "_law_many"]
theorem sc__law_drawn : FnScope N__law_drawn ["_law_bag_here", "_law_singles_here"] (defScope (atTop 64)) := ⟨rfl, rfl, rfl, by decide +kernel, rfl, by decide +kernel, by decide +kernel⟩
theorem fn_law_drawn {P : Program} {w : World} {K : PySem.W.Frag} {mg : Str → Option Value} {base : Heap} (T : Txt K mg) (F_law_take : Fn P w K mg base 1 "_law_take" ["_law_bag_here", "_law_many"] C_law_take) : Fn P w K mg base 2 "_law_drawn" ["_law_bag_here", "_law_singles_here"] C_law_drawn := by
  have sc := sc__law_drawn
  refine Fn.of T 44 rfl rfl sc (fun _ _ _ _ _ _ us hl => match us, hl with | [_, _], _ => rfl) ?len (fun f cdv A outer s H E hr => ⟨_, (pss_cons (ps_set (i := 2) sc.nd rfl (Or.inl rfl) (pe_ix (ixL (K := K) (by rfl)) (pv 1) (pFn F_law_take (by exact ⟨rfl, rfl, rfl, rfl, rfl⟩) (hr.mono (by decide)) (by rfl) (pa_cons (pv 0) (pa_cons (pe_callB (lenK (K := K) (by rfl)) (by rfl) T.f_len (by decide +kernel) (pa_cons (pv 1) pa_nil)) pa_nil))) (fun _ _ => rfl)))
      (pss_cons (ps_set (i := 3) sc.nd rfl (Or.inl rfl) (pe_ix (ixL (K := K) (by rfl)) (pv 1) (pFn F_law_take (by exact ⟨rfl, rfl, rfl, rfl, rfl⟩) (hr.mono (by decide)) (by rfl) (pa_cons (pv 0) (pa_cons (pe_callB (lenK (K := K) (by rfl)) (by rfl) T.f_len (by decide +kernel) (pa_cons (pv 1) pa_nil)) pa_nil))) (fun _ _ => rfl)))
      (pss_cons (ps_set (i := 4) sc.nd rfl (Or.inl rfl) (pFn F_law_take (by exact ⟨rfl, rfl, rfl, rfl, rfl⟩) (hr.mono (by decide)) (by rfl) (pa_cons (pv 0) (pa_cons pe_int pa_nil))))
      (pss_cons (ps_if (pt_cmpR op_eq (pv 4) pe_int (nomark _)) (pss_one (ps_ret (pe_tupF pa_nil))) pss_nil)
      (pss_cons (ps_if (PW.pt (pw_or (pt_cmpR op_eq (pv 4) pe_int (nomark _)) (pw_or1 (pt_cmpR (eqD (K := K) (by rfl) hr.units) (pe_ix (ixT (K := K) (by rfl)) (pv 2) pe_int (fun _ _ => rfl)) (pe_ix (ixT (K := K) (by rfl)) (pv 3) pe_int (fun _ _ => rfl)) (nomark _))))) (pss_one (ps_ret (pe_tupF (pa_cons (pv 2) pa_nil)))) pss_nil)
      (pss_one (ps_ret (pe_callTy (tupFK (K := K) (by rfl)) (by rfl) T.f_tuple (by decide +kernel) (pa_cons (pe_callB (sortD (K := K) (by rfl) (u50 hr)) (by rfl) T.f_sorted (by decide +kernel) (pa_cons (pe_lst (pa_cons (pv 2) (pa_cons (pv 3) pa_nil))) pa_nil)) pa_nil))))))))), fun us M q h => ?_⟩)
  case len => rintro us M q ⟨_, _, _, _, _, _, _, rfl, _⟩; rfl
  obtain ⟨b, g, M0, B, i, l, s, rfl, rfl, hg, hB, hs, hSl, hq⟩ := h
  have hS1 := singles_pos i l
  have hor := @singles_lt i l
  have hhow := @singles_how i l
  revert hs hSl hq hS1 hor hhow
  generalize singlesOf i l = S
  intro hs hSl hq hS1 hor hhow
  walk_at "go"
  refine rc_len (.tail _ hs) ?_
  walk_at "w"
  rw [List.length_map]
  refine ⟨b, S.length, rfl, by omega, by omega, [], _, g, B, rfl, hg, by omega, fun r1 g1 hr1 hg1 => ?_⟩
  rw [List.nil_append]
  have hx : S[r1]? = some S[r1] := List.getElem?_eq_getElem hr1
  revert hx
  generalize S[r1] = x
  intro hx
  refine r_ixL (u := eFl x) (.tail _ hs) (atI_nat (by rw [List.getElem?_map, hx]; rfl)) ?_
  walk_at "w"
  walk_at "ro"
  walk_at "w"
  refine rc_len (.tail _ hs) ?_
  walk_at "w"
  rw [List.length_map]
  refine ⟨b, S.length, rfl, by omega, by omega, [], _, g1, _, rfl, hg1, by omega, fun r2 g2 hr2 hg2 => ?_⟩
  rw [List.nil_append]
  have hy : S[r2]? = some S[r2] := List.getElem?_eq_getElem hr2
  revert hy
  generalize S[r2] = y
  intro hy
  refine r_ixL (u := eFl y) (.tail _ hs) (atI_nat (by rw [List.getElem?_map, hy]; rfl)) ?_
  walk_at "w"
  walk_at "ro"
  walk_at "w"
  refine ⟨b, 4, rfl, by omega, by omega, [], _, g2, _, rfl, hg2, by omega, fun r3 g3 hr3 hg3 => ?_⟩
  rw [List.nil_append]
  walk_at "w"
  walk_at "ro"
  walk_at "w"
  have hxS := List.mem_of_getElem? hx
  have hyS := List.mem_of_getElem? hy
  have hone : ∀ m : Int, (([x] : List Fl).length : Int) ≤ m → [x] ∈ setsOf S m := fun m hm => one_in hxS (by simpa using hm)
  by_cases h0 : r3 = 0
  · rw [show decide (((r3 : Nat) : Int) = 0) = true from decide_eq_true (by omega)]
    walk_at "w"
    exact ⟨_, Sub.refl _, hq [] g3 (fun m _ => none_in S m) (hg3.le (by omega))⟩
  · rw [show decide (((r3 : Nat) : Int) = 0) = false from decide_eq_false (by omega)]
    walk_at "w"
    by_cases h1 : r3 = 1
    · rw [show decide (((r3 : Nat) : Int) = 1) = true from decide_eq_true (by omega)]
      walk_at "w"
      exact ⟨_, Sub.refl _, hq [x] g3 hone (hg3.le (by omega))⟩
    · rw [show decide (((r3 : Nat) : Int) = 1) = false from decide_eq_false (by omega)]
      walk_at "w"
      unfold eFl
      walk_at "w"
      refine r_eqD (n := 1) (m := 1) (b := decide (x.1 = y.1)) rfl rfl (by omega) (by omega) (decide_eq_true_iff.trans toPy_sp.symm) ?_
      walk_at "w"
      by_cases h2 : x.1 = y.1
      · rw [decide_eq_true h2]
        walk_at "w"
        exact ⟨_, Sub.refl _, hq [x] g3 hone (hg3.le (by omega))⟩
      · rw [decide_eq_false h2]
        walk_at "w"
        intro tl
        have hl2 : [U.tup [eSp x.1, .str x.2], .tup [eSp y.1, .str y.2]] = [x, y].map eFl := rfl
        rw [hl2]
        walk_at "w"
        refine rc_sortD (n := 2) (.head _) ?_ (by omega) (alike_fl _) (sort_fl _) (by simp) fun sq => ?_
        · show (pln 2 (eFl x) && (pln 2 (eFl y) && true)) = true
          rw [pln_fl (hhow hxS), pln_fl (hhow hyS)]
          rfl
        walk_at "w"
        refine rc_tupF (.head _) ?_
        rcases Nat.lt_or_ge r1 r2 with hlt | hge
        · have hle := (le_fl (hor hx hy hlt h2)).1
          refine ⟨(b, eBg g3) :: M0, .skip (.skip (Sub.refl _)), ?_⟩
          have z := hq [x, y] g3 (fun m hm => pair_in hx hy hlt h2 (by simpa using hm)) (hg3.le (by omega))
          rw [show [x, y].map eFl = [eFl x, eFl y] from rfl, sort_two hle]
          exact z
        · have hlt : r2 < r1 := Nat.lt_of_le_of_ne hge fun e => h2 (by
            rw [e, hx] at hy
            rw [Option.some.inj hy])
          have hne : y.1 ≠ x.1 := fun e => h2 e.symm
          have hle := (le_fl (hor hy hx hlt hne)).2
          refine ⟨(b, eBg g3) :: M0, .skip (.skip (Sub.refl _)), ?_⟩
          have z := hq [y, x] g3 (fun m hm => pair_in hy hx hlt hne (by simpa using hm)) (hg3.le (by omega))
          rw [show [x, y].map eFl = [eFl x, eFl y] from rfl, sort_two' hle]
          exact z
end Wl
set_option Elab.async false
set_option linter.all false
set_option maxRecDepth 100000
set_option maxHeartbeats 4000000
namespace Wl
open PySem PySem.Spec PyProof.Rows L2
local macro_rules | `(tactic| walk_at "w1") => `(tactic| first
  | with_reducible refine ws_seq ?_
  | with_reducible refine ws_ret ?_
  | with_reducible refine ws_asg ?_
  | with_reducible refine ws_drop ?_
  | with_reducible refine ws_if ?_
  | with_reducible refine ws_next ?_
  | with_reducible refine w_var (by with_unfolding_all rfl) ?_
  | with_reducible refine w_int ?_
  | with_reducible refine w_str ?_
  | with_reducible refine w_bl ?_
  | with_reducible refine w_non ?_
  | with_reducible refine w_ref ?_
  | with_reducible refine w_isi2 ?_
  | with_reducible refine w_op ?_
  | with_reducible refine w_andV ?_
  | with_reducible refine w_notV ?_
  | with_reducible refine w_chain ?_
  | with_reducible refine wa_nil ?_
  | with_reducible refine wa_cons ?_
  | with_reducible refine w_tup ?_
  | with_reducible refine w_lst ?_
  | with_reducible refine w_tupF ?_
  | with_reducible refine w_call ?_
  | ((fail_if_success (with_reducible refine w_allT (α := Unit) ?_)); (fail_if_success (with_reducible refine w_anyB (α := Unit) ?_)); with_reducible refine w_cb ?_)
  | with_reducible refine w_bm ?_
  | with_reducible refine wt_test ?_
  | with_reducible refine wt_B ?_
  | with_reducible refine wt_not ?_
  | with_reducible refine wt_and ?_
  | with_reducible refine wt_or ?_
  | with_reducible refine wt_yes ?_
  | with_reducible refine wg_name ?_ (by with_unfolding_all rfl)
  | with_reducible refine wg_name ?_
  | with_reducible refine wgs_nil ?_
  | with_reducible refine wgs_cons ?_
  | with_reducible refine wg_tup (by with_unfolding_all rfl) ?_
  | with_reducible refine w_un ?_
  | with_reducible refine w_sl ?_
  | with_reducible refine wo_none ?_
  | with_reducible refine wo_some ?_
  | with_reducible refine r_ii ?_
  | with_reducible refine r_ib ?_
  | with_reducible refine r_eqI ?_
  | with_reducible refine r_eqS ?_
  | with_reducible refine r_neI ?_
  | with_reducible refine r_neS ?_
  | with_reducible refine rs_T ?_
  | with_reducible refine rc_lenT ?_
  | with_reducible refine rc_lenTf ?_
  | with_reducible refine rc_min ?_
  | with_reducible refine r_isN ?_
  | with_reducible refine r_noN ?_
  | with_reducible refine ws_break ?_
  | with_reducible refine ws_dput ?_
  | (with_reducible refine r_ixT (by with_unfolding_all rfl) ?_)
  | exact ⟨rfl, Sub.refl _⟩
  | refine ⟨Sub.refl _, ?_⟩
  | refine ⟨Nat.le_of_ble_eq_true (by with_unfolding_all rfl), ?_⟩
  | refine ⟨_, rfl, ?_⟩
  | refine ⟨true, rfl, fun _ => ?_, fun z => Bool.noConfusion z⟩
  | refine ⟨false, rfl, fun z => Bool.noConfusion z, fun _ => ?_⟩
  | refine ⟨false, rfl, fun _ => ?_, fun z => Bool.noConfusion z⟩
  | refine ⟨true, rfl, fun z => Bool.noConfusion z, fun _ => ?_⟩
  | refine ⟨fun _ => ?_, fun z => Bool.noConfusion z⟩
  | refine ⟨fun z => Bool.noConfusion z, fun _ => ?_⟩)
local macro_rules | `(tactic| walk_at "w") => `(tactic| repeat walk_at "w1")
local macro_rules | `(tactic| walk_at "in") => `(tactic| try dsimp only [XD, cxOf, Cx.nox, Cx.wish])
local macro_rules | `(tactic| walk_at "ro") => `(tactic| try simp only [startR, List.map_cons, List.map_nil, List.length_cons, List.length_nil, Nat.reduceAdd, Nat.reduceSub, Nat.zero_add, List.replicate_zero, List.replicate_succ, List.cons_append, List.nil_append, List.append_nil, List.set_cons_zero, List.set_cons_succ])
local macro_rules | `(tactic| walk_at "sub") => `(tactic| repeat (first | exact Sub.refl _ | exact Sub.nil' _ | refine Sub.keep ?_ | refine Sub.skip ?_))
local macro_rules | `(tactic| walk_at "go") => `(tactic| (walk_at "in"; walk_at "ro"; walk_at "w"))
local macro_rules | `(tactic| walk_at "rle") => `(tactic| repeat (first | exact RLe.refl _ | exact RLe.nil | refine RLe.keep ?_ | refine RLe.hole ?_))
local macro_rules | `(tactic| walk_at "mem") => `(tactic| repeat (first | exact List.mem_cons_self .. | refine List.mem_cons_of_mem _ ?_))
local macro_rules | `(tactic| walk_at "put") => `(tactic| repeat (first | exact Put.here | refine Put.there ?_))
local macro_rules | `(tactic| walk_at "bm") => `(tactic| (first | refine ⟨⟨_, _, rfl, rfl, (by walk_at "mem")⟩, ?_⟩ | refine ⟨⟨_, _, rfl, trivial, (by walk_at "mem")⟩, ?_⟩))
local macro_rules | `(tactic| walk_at "end") => `(tactic| (first | exact ⟨Sub.refl _, by walk_at "rle"⟩ | walk_at "rle"))
theorem okOf {P : Program} {w : World} {K : PySem.W.Frag} {mg : Str → Option Value} {base : Heap} {j k : Nat} {x : Str} {N ps : List Str} {C : CU} {f0 : Addr} {fd0 : FuncData} (F0 : FunD K x x (defArgs (atTop j)) (defBody (atTop j)) (defScope (atTop j)) [] [] f0 fd0) (S : FnScope N ps (defScope (atTop j)))
    (len : ∀ us M q, C us M q → us.length = ps.length)
    (body : ∀ (f : Addr) (cdv : Value) (A : Around) (outer : List Env) (s : Shared) (H : Hp) (E : XK), Room k (A.deeper (envOfC x (defScope (atTop j)) s.heap.objs.size f cdv)) →
      ∃ t, PSs (XD P w K mg base N x j f cdv A outer s H E) (defBody (atTop j)) t ∧ ∀ us M q, C us M q → WS K t M (startR N us) { nx := fun M' _ => ∃ M2, Sub M2 M' ∧ q .non M2, rt := fun u M' => ∃ M2, Sub M2 M' ∧ q u M2 }) : FnOk P w K mg base CX0 (k + 1) f0 fd0 ps (SpC K C) := by
  refine F0.ok S ?_ ?_
  · rintro vs H Q E ⟨us, M, q, r, m, c, _⟩
    rw [r.length]
    exact len us M q c
  · rintro cdv A outer s H vs Q E hr ⟨us, M, q, r, m, c, cont⟩
    obtain ⟨t, h1, h2⟩ := body _ cdv A outer s H E hr
    refine ⟨t, h1.nox, h2 us M q c H (L2.start N vs) H (Tp.refl H) m (slOk_start r) _ ⟨fun M' ρ' σ' H' ⟨M2, a1, a⟩ b d e => cont .non M2 .non H' a b (d.sub a1) .non, fun u M' v H' ⟨M2, a1, a⟩ b d e => cont u M2 v H' a b (d.sub a1) e, fun _ _ _ _ z => z.elim, fun _ _ _ _ z => z.elim⟩⟩
abbrev N_law : List Str := ["_law_script", "_law_k", "_law_bag_here", "_law_loop_here", "_law_singles_here", "_law_faults", "_law_left_out", "_law_more", "_law_most", "_law_told", "_law_plan_here", "_law_from_a", "_law_from_b", "_law_at", "_law_spots_here", "_law_some"]
theorem sc_law : FnScope N_law ["_law_script"] (defScope (atTop 65)) := ⟨rfl, rfl, rfl, by decide +kernel, rfl, by decide +kernel, by decide +kernel⟩
theorem fn_law {P : Program} {w : World} {K : PySem.W.Frag} {mg : Str → Option Value} {base : Heap} (T : Txt K mg) (F_agreeing : Fn P w K mg base 8 "agreeing" ["plan", "loop", "from_a", "from_b", "most"] C_agreeing) (F_law_bag : Fn P w K mg base 1 "_law_bag" ["_law_script", "_law_k"] C_law_bag) (F_law_take : Fn P w K mg base 1 "_law_take" ["_law_bag_here", "_law_many"] C_law_take) (F_law_plan : Fn P w K mg base 4 "_law_plan" ["_law_bag_here", "_law_most_loops", "_law_most_places"] C_law_plan) (F_law_singles : Fn P w K mg base 1 "_law_singles" ["_law_plan_here", "_law_loop_here"] C_law_singles) (F_law_due : Fn P w K mg base 3 "_law_due" ["_law_plan_here", "_law_loop_here", "_law_faults"] C_law_due) (F_law_spots : Fn P w K mg base 1 "_law_spots" ["_law_plan_here"] C_law_spots) (F_law_sets : Fn P w K mg base 1 "_law_sets" ["_law_singles_here", "_law_most"] C_law_sets) (F_law_drawn : Fn P w K mg base 2 "_law_drawn" ["_law_bag_here", "_law_singles_here"] C_law_drawn) {f0 : Addr} {fd0 : FuncData} (F0 : FunD K "law" "law" (defArgs (atTop 65)) (defBody (atTop 65)) (defScope (atTop 65)) [] [] f0 fd0) : FnOk P w K mg base CX0 9 f0 fd0 ["_law_script"] (SpC K C_law) := by
  have sc := sc_law
  refine okOf F0 sc ?len (fun f cdv A outer s H E hr => ⟨_, (pss_cons (ps_for PassesOwn.never rfl (pi_range1 (by rfl) T.f_range (pa_cons (pe_callB (call_max2 rfl) (by rfl) T.f_max (by decide +kernel) (pa_cons pe_int (pa_cons (pe_callB (call_min2 rfl) (by rfl) T.f_min (by decide +kernel) (pa_cons pe_int (pa_cons (pe_callB (lenK (K := K) (by rfl)) (by rfl) T.f_len (by decide +kernel) (pa_cons (pv 0) pa_nil)) pa_nil))) pa_nil))) pa_nil)) (pg_name (i := 1) sc.nd rfl (by first | exact Or.inl rfl | exact Or.inr rfl))
        (pss_cons (ps_set (i := 2) sc.nd rfl (Or.inl rfl) (pFn F_law_bag (by exact ⟨rfl, rfl, rfl, rfl, rfl⟩) (hr.mono (by decide)) (by rfl) (pa_cons (pv 0) (pa_cons (pv 1) pa_nil))))
          (pss_cons (ps_if (pt_cmpR op_eq (pFn F_law_take (by exact ⟨rfl, rfl, rfl, rfl, rfl⟩) (hr.mono (by decide)) (by rfl) (pa_cons (pv 2) (pa_cons pe_int pa_nil))) pe_int (nomark _)) (pss_one (ps_set (i := 10) sc.nd rfl (Or.inr rfl) (pFn F_law_plan (by exact ⟨rfl, rfl, rfl, rfl, rfl⟩) (hr.mono (by decide)) (by rfl) (pa_cons (pv 2) (pa_cons pe_int (pa_cons pe_int pa_nil)))))) (pss_one (ps_set (i := 10) sc.nd rfl (Or.inr rfl) (pFn F_law_plan (by exact ⟨rfl, rfl, rfl, rfl, rfl⟩) (hr.mono (by decide)) (by rfl) (pa_cons (pv 2) (pa_cons pe_int (pa_cons pe_int pa_nil)))))))
          (pss_cons (ps_set (i := 3) sc.nd rfl (Or.inr rfl) (pFn F_law_take (by exact ⟨rfl, rfl, rfl, rfl, rfl⟩) (hr.mono (by decide)) (by rfl) (pa_cons (pv 2) (pa_cons (pe_callB (lenK (K := K) (by rfl)) (by rfl) T.f_len (by decide +kernel) (pa_cons (pe_ix (ixT (K := K) (by rfl)) (pv 10) pe_int (fun _ _ => rfl)) pa_nil)) pa_nil))))
          (pss_cons (ps_set (i := 4) sc.nd rfl (Or.inl rfl) (pFn F_law_singles (by exact ⟨rfl, rfl, rfl, rfl, rfl⟩) (hr.mono (by decide)) (by rfl) (pa_cons (pv 10) (pa_cons (pv 3) pa_nil))))
          (pss_cons (ps_set (i := 5) sc.nd rfl (Or.inl rfl) (pFn F_law_drawn (by exact ⟨rfl, rfl, rfl, rfl, rfl⟩) (hr.mono (by decide)) (by rfl) (pa_cons (pv 2) (pa_cons (pv 4) pa_nil))))
          (pss_cons (ps_asg (pFn F_law_due (by exact ⟨rfl, rfl, rfl, rfl, rfl⟩) (hr.mono (by decide)) (by rfl) (pa_cons (pv 10) (pa_cons (pv 3) (pa_cons (pv 5) pa_nil)))) (pgT (K := K) (n := 2) (by rfl) rfl (pgs_cons (pg_name (i := 11) sc.nd rfl (by first | exact Or.inl rfl | exact Or.inr rfl)) (pgs_cons (pg_name (i := 12) sc.nd rfl (by first | exact Or.inl rfl | exact Or.inr rfl)) pgs_nil))))
          (pss_cons (ps_set (i := 6) sc.nd rfl (Or.inl rfl) (pe_and (pe_cmpR op_eq (pFn F_law_take (by exact ⟨rfl, rfl, rfl, rfl, rfl⟩) (hr.mono (by decide)) (by rfl) (pa_cons (pv 2) (pa_cons pe_int pa_nil))) pe_int (nomark _)) (pe_one (pe_cmpR op_gt (pe_callB (lenK (K := K) (by rfl)) (by rfl) T.f_len (by decide +kernel) (pa_cons (pv 11) pa_nil)) pe_int (nomark _)))))
          (pss_cons (ps_if (pt_val (pv 6)) (pss_cons (ps_set (i := 13) sc.nd rfl (Or.inl rfl) (pFn F_law_take (by exact ⟨rfl, rfl, rfl, rfl, rfl⟩) (hr.mono (by decide)) (by rfl) (pa_cons (pv 2) (pa_cons (pe_callB (lenK (K := K) (by rfl)) (by rfl) T.f_len (by decide +kernel) (pa_cons (pv 11) pa_nil)) pa_nil))))
              (pss_one (ps_set (i := 11) sc.nd rfl (Or.inr rfl) (pe_op (catT (K := K) (by rfl)) (pe_slice (slT (K := K) (by rfl)) (pv 11) po_none (po_some (pv 13))) (pe_slice (slT (K := K) (by rfl)) (pv 11) (po_some (pe_op op_add (pv 13) pe_int)) po_none))))) pss_nil)
          (pss_cons (ps_set (i := 7) sc.nd rfl (Or.inl rfl) (pe_cmpR op_eq (pFn F_law_take (by exact ⟨rfl, rfl, rfl, rfl, rfl⟩) (hr.mono (by decide)) (by rfl) (pa_cons (pv 2) (pa_cons pe_int pa_nil))) pe_int (nomark _)))
          (pss_cons (ps_if (pt_val (pv 7)) (pss_cons (ps_set (i := 14) sc.nd rfl (Or.inl rfl) (pFn F_law_spots (by exact ⟨rfl, rfl, rfl, rfl, rfl⟩) (hr.mono (by decide)) (by rfl) (pa_cons (pv 10) pa_nil)))
              (pss_one (ps_set (i := 11) sc.nd rfl (Or.inr rfl) (pe_callTy (tupL (K := K) (by rfl)) (by rfl) T.f_tuple (by decide +kernel) (pa_cons (pe_callB (cr_sortedT rfl) (by rfl) T.f_sorted (by decide +kernel) (pa_cons (pe_callTy (cr_setTT rfl hr.units) (by rfl) T.f_set (by decide +kernel) (pa_cons (pe_op (catT (K := K) (by rfl)) (pv 11) (pe_tup (pa_cons (pe_ix (ixL (K := K) (by rfl)) (pv 14) (pFn F_law_take (by exact ⟨rfl, rfl, rfl, rfl, rfl⟩) (hr.mono (by decide)) (by rfl) (pa_cons (pv 2) (pa_cons (pe_callB (lenK (K := K) (by rfl)) (by rfl) T.f_len (by decide +kernel) (pa_cons (pv 14) pa_nil)) pa_nil))) (fun _ _ => rfl)) pa_nil))) pa_nil)) pa_nil)) pa_nil))))) pss_nil)
          (pss_cons (ps_set (i := 8) sc.nd rfl (Or.inl rfl) (pFn F_law_take (by exact ⟨rfl, rfl, rfl, rfl, rfl⟩) (hr.mono (by decide)) (by rfl) (pa_cons (pv 2) (pa_cons pe_int pa_nil))))
          (pss_cons (ps_if (pt_cmpR op_gt (pe_callB (lenK (K := K) (by rfl)) (by rfl) T.f_len (by decide +kernel) (pa_cons (pv 4) pa_nil)) pe_int (nomark _)) (pss_one (ps_set (i := 8) sc.nd rfl (Or.inl rfl) (pe_callB (call_min2 rfl) (by rfl) T.f_min (by decide +kernel) (pa_cons pe_int (pa_cons (pv 8) pa_nil))))) pss_nil)
          (pss_cons (ps_set (i := 9) sc.nd rfl (Or.inl rfl) (pFn F_agreeing (by exact ⟨rfl, rfl, rfl, rfl, rfl⟩) (hr.mono (by decide)) (by rfl) (pa_cons (pv 10) (pa_cons (pv 3) (pa_cons (pv 11) (pa_cons (pv 12) (pa_cons (pv 8) pa_nil)))))))
          (pss_cons (ps_if (pt_cmpR (neD (K := K) (by rfl) hr.units) (pv 9) (pe_lc (own := [("_law_some", 15)]) rfl sc.nd (piL (K := K) (by rfl) (pFn F_law_sets (by exact ⟨rfl, rfl, rfl, rfl, rfl⟩) (hr.mono (by decide)) (by rfl) (pa_cons (pv 4) (pa_cons (pv 8) pa_nil)))) (blkOk_by (own := [("_law_some", 15)]) (N := N_law) (sc := defScope (atTop 65)) (by decide +kernel)) (fun _ _ _ _ _ => (pg_name (i := 15) sc.nd rfl (by first | exact Or.inl rfl | exact Or.inr rfl))) (fun _ _ _ _ _ => (pts_one (pt_cmpR (eqD (K := K) (by rfl) hr.units) (pFn F_law_due (by exact ⟨rfl, rfl, rfl, rfl, rfl⟩) (hr.mono (by decide)) (by rfl) (pa_cons (pv 10) (pa_cons (pv 3) (pa_cons (pv 15) pa_nil)))) (pe_tup (pa_cons (pv 11) (pa_cons (pv 12) pa_nil))) (nomark _)))) (fun _ _ _ _ _ => (pv 15))) (nomark _)) (pss_one (ps_ret pe_bl)) pss_nil)
          (pss_one (ps_if (PW.pt (pw_and (pt_not (pt_val (pv 6))) (pw_and (pt_not (pt_val (pv 7))) (pw_and (pt_cmpR op_le (pe_callB (lenK (K := K) (by rfl)) (by rfl) T.f_len (by decide +kernel) (pa_cons (pv 5) pa_nil)) (pv 8) (nomark _)) (pw_and1 (pt_cmpR (notInD (K := K) (by rfl) (u65 hr)) (pv 5) (pv 9) (by rfl))))))) (pss_one (ps_ret pe_bl)) pss_nil)))))))))))))))))
      (pss_one (ps_ret pe_bl))), fun us M q h => ?_⟩)
  case len => rintro us M q ⟨_, rfl, _⟩; rfl
  obtain ⟨ns, rfl, hq⟩ := h
  walk_at "go"
  refine ws_forF (α := Nat) [some (.fl (ns.map U.int)), none, none, none, none, none, none, none, none, none, none, none, none, none, none, none] (fun _ _ => M) (by walk_at "rle") (wi_rng1 ?_)
  walk_at "w"
  refine rc_lenF ?_
  walk_at "w"
  refine rc_max2 ?_
  rw [List.length_map]
  generalize hN : (if (if ((ns.length : Nat) : Int) < 2 then ((ns.length : Nat) : Int) else 2) > 1 then (if ((ns.length : Nat) : Int) < 2 then ((ns.length : Nat) : Int) else 2) else 1) = N
  have hN1 : 1 ≤ N ∧ N ≤ 2 := by
    rw [← hN]
    split <;> split at * <;> omega
  walk_at "w"
  refine ⟨by omega, by omega, ?_⟩
  refine ⟨List.range N.toNat, fun w => .int (w : Nat), range_u _, Sub.refl _, fun _ _ _ => trivial, fun k0 k hk => ?_, fun M' ρ' hs hr => ?_⟩
  · obtain ⟨rfl, hk1⟩ := range_at hk
    walk_at "w"
    walk_at "ro"
    walk_at "w"
    refine ⟨ns, k, rfl, by omega, fun b g0 hg0 => ?_⟩
    refine wg_name ?_ (by with_unfolding_all rfl)
    walk_at "ro"
    refine ws_seq ?_
    refine ws_mid (fun M' ρ' => ∃ (p : Plan) (g' : Bg), PlanOk p ∧ Bk 2001 g' ∧ Sub ((b, eBg g') :: M) M' ∧ RLe [some (.fl (ns.map U.int)), none, some (.ptr b), none, none, none, none, none, none, none, some (ePlan p), none, none, none, none, none] ρ') ?_ ?_
    · walk_at "w"
      refine ⟨b, 2, rfl, by omega, by omega, [], _, g0, _, rfl, hg0, by omega, fun r0 g1 hr0 hg1 => ?_⟩
      rw [List.nil_append]
      walk_at "w"
      by_cases h0 : r0 = 0
      · rw [show decide (((r0 : Nat) : Int) = 0) = true from decide_eq_true (by omega)]
        walk_at "w"
        refine ⟨b, g1, M, _, 1, 4, rfl, by omega, by omega, by omega, by omega, rfl, hg1, by omega, fun p g2 hp hg2 => ?_⟩
        walk_at "w"
        walk_at "ro"
        exact ⟨p, g2, hp, hg2.le (by omega), Sub.refl _, by walk_at "rle"⟩
      · rw [show decide (((r0 : Nat) : Int) = 0) = false from decide_eq_false (by omega)]
        walk_at "w"
        refine ⟨b, g1, M, _, 3, 8, rfl, by omega, by omega, by omega, by omega, rfl, hg1, by omega, fun p g2 hp hg2 => ?_⟩
        walk_at "w"
        walk_at "ro"
        exact ⟨p, g2, hp, hg2.le (by omega), Sub.refl _, by walk_at "rle"⟩
    rintro M1 ρ1 ⟨p, g1, hp, hg1, hsb, hrl⟩
    refine WS.fr hsb hrl ?_
    have hpl1 := hp.l1
    have hpl2 := hp.l2
    have hps := hp.shp
    unfold ePlan
    walk_at "w"
    rw [List.length_map]
    refine ⟨b, p.loops.length, rfl, by omega, by omega, [], _, g1, _, rfl, hg1, by omega, fun i g2 hi hg2 => ?_⟩
    rw [List.nil_append]
    have hl : p.loops[i]? = some p.loops[i] := List.getElem?_eq_getElem hi
    revert hl
    generalize p.loops[i] = l
    intro hl
    have hlm := List.mem_of_getElem? hl
    have hSl := singles_len hps hlm i
    have hS1 := singles_pos i l
    walk_at "w"
    walk_at "ro"
    walk_at "w"
    refine ⟨p, i, l, rfl, hps, hl, fun s => ?_⟩
    refine wg_name ?_ (by with_unfolding_all rfl)
    walk_at "ro"
    refine WS.perm (List.Perm.swap ..) ?_
    walk_at "w"
    refine ⟨b, g2, _, _, i, l, s, rfl, rfl, hg2, by omega, .head _, hSl, fun F g3 hF hg3 => ?_⟩
    obtain ⟨hF1, hF2⟩ := sets_ok (hF _ (Int.le_refl _))
    walk_at "w"
    walk_at "ro"
    walk_at "w"
    refine ⟨p, F, i, l, rfl, hps, hl, hF1, by omega, ?_⟩
    have hAl := heardP_len hps hl F (devL i l) true
    have hBl := heardP_len hps hl F (devL i l) false
    obtain ⟨SA, hSA⟩ := heardP_sp F i l (devL i l) true
    obtain ⟨SB, hSB⟩ := heardP_sp F i l (devL i l) false
    have hHU : heardU F i l (devL i l) = .tup [.tup (SA.map eSp), .tup (SB.map eSp)] := by
      unfold heardU
      rw [hSA, hSB]
    rw [hSA, List.length_map] at hAl
    rw [hSB, List.length_map] at hBl
    rw [hHU]
    refine wg_tup rfl (wgs_cons (wg_name (wgs_cons (wg_name (wgs_nil ?_) (by with_unfolding_all rfl))) (by with_unfolding_all rfl)))
    walk_at "ro"
    refine ws_seq ?_
    refine ws_mid (fun M' ρ' => ∃ (lo : Bool) (g' : Bg), (lo = true → 0 < SA.length) ∧ Bk 2010 g' ∧ Sub ((b, eBg g') :: (s, .l ((singlesOf i l).map eFl)) :: M) M' ∧ RLe [some (.fl (ns.map U.int)), none, some (.ptr b), some (.int (i : Nat)), some (.ptr s), some (eFs F), some (.bl lo), none, none, none, some (ePlan p), some (.tup (SA.map eSp)), some (.tup (SB.map eSp)), none, none, none] ρ') ?_ ?_
    · walk_at "w"
      refine ⟨b, 5, rfl, by omega, by omega, [], _, g3, _, rfl, hg3, by omega, fun r4 g4 hr4 hg4 => ?_⟩
      rw [List.nil_append]
      walk_at "w"
      refine ⟨fun _ => ?_, fun _ => ?_⟩
      · walk_at "w"
        rw [List.length_map]
        refine ⟨decide ((0 : Int) < (SA.length : Nat)), g4, fun z => by have := of_decide_eq_true z; omega, hg4.le (by omega), Sub.refl _, ?_⟩
        walk_at "ro"
        walk_at "rle"
      · refine wg_name ?_ (by with_unfolding_all rfl)
        walk_at "ro"
        exact ⟨false, g4, fun z => Bool.noConfusion z, hg4.le (by omega), Sub.refl _, by walk_at "rle"⟩
    rintro M2 ρ2 ⟨lo, g4, hlo, hg4, hsb2, hrl2⟩
    refine WS.fr hsb2 hrl2 ?_
    refine ws_seq ?_
    refine ws_mid (fun M' ρ' => ∃ (S2 : List Spot) (g' : Bg), (lo = false → S2 = SA) ∧ S2.length ≤ 60 ∧ Bk 2020 g' ∧ Sub ((b, eBg g') :: (s, .l ((singlesOf i l).map eFl)) :: M) M' ∧ RLe [some (.fl (ns.map U.int)), none, some (.ptr b), some (.int (i : Nat)), some (.ptr s), some (eFs F), some (.bl lo), none, none, none, some (ePlan p), some (.tup (S2.map eSp)), some (.tup (SB.map eSp)), none, none, none] ρ') ?_ ?_
    · walk_at "w"
      cases lo with
      | false =>
        walk_at "w"
        exact ⟨SA, g4, fun _ => rfl, hAl, hg4.le (by omega), Sub.refl _, by walk_at "rle"⟩
      | true =>
        have hpos := hlo rfl
        walk_at "w"
        rw [List.length_map]
        refine ⟨b, SA.length, rfl, by omega, by omega, [], _, g4, _, rfl, hg4, by omega, fun r5 g5 hr5 hg5 => ?_⟩
        rw [List.nil_append]
        walk_at "w"
        walk_at "ro"
        walk_at "w"
        rw [show ((r5 : Nat) : Int) + 1 = ((r5 + 1 : Nat) : Int) from rfl, cut_drop, cut_take, ← List.map_take, ← List.map_drop]
        refine r_catT (by simp only [List.length_map, List.length_take, List.length_drop]; omega) ?_
        walk_at "w"
        walk_at "ro"
        rw [← List.map_append]
        exact ⟨SA.take r5 ++ SA.drop (r5 + 1), g5, fun z => Bool.noConfusion z, by simp only [List.length_append, List.length_take, List.length_drop]; omega, hg5.le (by omega), Sub.refl _, by walk_at "rle"⟩
    rintro M3 ρ3 ⟨S2, g5, hS2, hS2l, hg5, hsb3, hrl3⟩
    refine WS.fr hsb3 hrl3 ?_
    walk_at "w"
    refine ⟨b, 6, rfl, by omega, by omega, [], _, g5, _, rfl, hg5, by omega, fun r6 g6 hr6 hg6 => ?_⟩
    rw [List.nil_append]
    refine w_int ?_
    refine r_eqI ?_
    refine wg_name ?_ (by with_unfolding_all rfl)
    walk_at "ro"
    generalize decide (((r6 : Nat) : Int) = 0) = mo
    refine ws_seq ?_
    refine ws_mid (fun M' ρ' => ∃ (S3 : List Spot) (g' : Bg), (mo = false → S3 = S2) ∧ Bk 2030 g' ∧ Sub ((b, eBg g') :: (s, .l ((singlesOf i l).map eFl)) :: M) M' ∧ RLe [some (.fl (ns.map U.int)), none, some (.ptr b), some (.int (i : Nat)), some (.ptr s), some (eFs F), some (.bl lo), some (.bl mo), none, none, some (ePlan p), some (.tup (S3.map eSp)), some (.tup (SB.map eSp)), none, none, none] ρ') ?_ ?_
    · walk_at "w"
      cases mo with
      | false =>
        walk_at "w"
        exact ⟨S2, g6, fun _ => rfl, hg6.le (by omega), Sub.refl _, by walk_at "rle"⟩
      | true =>
        have hd1 := hp.d1
        have hd2 := hp.d2
        walk_at "w"
        refine ⟨hps, fun sp => ?_⟩
        refine wg_name ?_ (by with_unfolding_all rfl)
        walk_at "ro"
        refine ws_asg ?_
        refine w_cb ?_
        refine wa_cons ?_
        refine w_sortSet ?_
        walk_at "w"
        refine rc_len (.head _) ?_
        walk_at "w"
        rw [List.length_map]
        refine ⟨b, (devicesOf p).length, rfl, by omega, by omega, [(sp, _)], _, g6, _, rfl, hg6, by omega, fun r7 g7 hr7 hg7 => ?_⟩
        have hx : (devicesOf p)[r7]? = some (devicesOf p)[r7] := List.getElem?_eq_getElem hr7
        revert hx
        generalize (devicesOf p)[r7] = row
        intro hx
        refine r_ixL (u := eSp row.1) (.head _) (atI_nat (by rw [List.getElem?_map, hx]; rfl)) ?_
        walk_at "w"
        refine r_catT (by simp only [List.length_map, List.length_cons, List.length_nil]; omega) ?_
        refine ⟨S2 ++ [row.1], by rw [List.map_append]; rfl, by rw [List.length_append]; show S2.length + 1 < 64; omega, fun S3 sq _ _ => ?_⟩
        walk_at "w"
        refine rc_tupleL (.head _) ?_
        walk_at "w"
        walk_at "ro"
        exact ⟨S3, g7, fun z => Bool.noConfusion z, hg7.le (by omega), .skip (.skip (Sub.refl _)), by walk_at "rle"⟩
    rintro M4 ρ4 ⟨S3, g7, hS3, hg7, hsb4, hrl4⟩
    refine WS.fr hsb4 hrl4 ?_
    walk_at "w"
    refine ⟨b, 3, rfl, by omega, by omega, [], _, g7, _, rfl, hg7, by omega, fun r8 g8 hr8 hg8 => ?_⟩
    rw [List.nil_append]
    refine wg_name ?_ (by with_unfolding_all rfl)
    walk_at "ro"
    refine ws_seq ?_
    refine ws_mid (fun M' ρ' => ∃ m : Int, Sub ((b, eBg g8) :: (s, .l ((singlesOf i l).map eFl)) :: M) M' ∧ RLe [some (.fl (ns.map U.int)), none, some (.ptr b), some (.int (i : Nat)), some (.ptr s), some (eFs F), some (.bl lo), some (.bl mo), some (.int m), none, some (ePlan p), some (.tup (S3.map eSp)), some (.tup (SB.map eSp)), none, none, none] ρ') ?_ ?_
    · walk_at "w"
      refine rc_len (.tail _ (.head _)) ?_
      walk_at "w"
      refine ⟨fun _ => ?_, fun _ => ?_⟩
      · walk_at "w"
        walk_at "ro"
        exact ⟨_, Sub.refl _, by walk_at "rle"⟩
      · walk_at "w"
        exact ⟨_, Sub.refl _, by walk_at "rle"⟩
    rintro M5 ρ5 ⟨m, hsb5, hrl5⟩
    refine WS.fr hsb5 hrl5 ?_
    have hpl := due_pln S3 SB
    walk_at "w"
    refine ⟨p, i, l, .tup (S3.map eSp), .tup (SB.map eSp), m, 3, rfl, hp, hl, hpl, by omega, fun t => ?_⟩
    have hsets := sets_len m hSl
    have htp := told_pln i l m (agB i l (.tup (S3.map eSp)) (.tup (SB.map eSp)))
    walk_at "w"
    walk_at "ro"
    walk_at "w"
    refine w_lcp (α := List Fl) (wi_list ?_)
    walk_at "w"
    refine ⟨singlesOf i l, s, m, rfl, hSl, .tail _ (.tail _ (.head _)), fun fs => ?_⟩
    refine ⟨fs, _, rfl, List.mem_cons_self .., ?_⟩
    refine ⟨setsOf (singlesOf i l) m, eFs, agB i l (.tup (S3.map eSp)) (.tup (SB.map eSp)), eFs, rfl, by omega, fun _ _ => .tail _ (.head _), fun D acc F2 hF2 => ?_, fun D => ?_⟩
    · obtain ⟨hF3, hF4⟩ := sets_ok hF2
      walk_at "w"
      walk_at "ro"
      walk_at "w"
      refine ⟨p, F2, i, l, rfl, hps, hl, hF3, by omega, ?_⟩
      walk_at "w"
      refine r_eqD (n := 3) (m := 3) (b := agB i l (.tup (S3.map eSp)) (.tup (SB.map eSp)) F2) (heardU_pln _ _ _ _) hpl (by omega) (by omega) (by unfold agB; exact @decide_eq_true_iff _ (Classical.propDecidable _)) ?_
      walk_at "w"
      refine ⟨rfl, Sub.refl _, fun _ => ?_⟩
      walk_at "w"
    · refine r_neL (n := 3) (m := 3) (b := true) (.tail _ (.tail _ (.head _))) (.head _) htp htp (by omega) (by omega) ⟨fun _ => rfl, fun _ => rfl⟩ ?_
      walk_at "w"
      cases lo with
      | true =>
        walk_at "w"
        exact ⟨by walk_at "sub", by walk_at "rle"⟩
      | false =>
        walk_at "w"
        cases mo with
        | true =>
          walk_at "w"
          exact ⟨by walk_at "sub", by walk_at "rle"⟩
        | false =>
          have e3 : S3 = SA := by rw [hS3 rfl, hS2 rfl]
          subst e3
          walk_at "w"
          unfold eFs
          walk_at "w"
          rw [List.length_map]
          by_cases hle : (F.length : Int) ≤ m
          · rw [decide_eq_true hle]
            walk_at "w"
            have hFS := hF m hle
            have hag : agB i l (.tup (S3.map eSp)) (.tup (SB.map eSp)) F = true := by
              unfold agB
              rw [hHU]
              exact @decide_eq_true _ (Classical.propDecidable _) rfl
            refine r_notInD (n := 3) (m := 3) (b := true) (.tail _ (.tail _ (.head _))) (pln_fs (sets_mem hFS)) htp (by omega) (by omega) ⟨fun _ => ?_, fun _ => rfl⟩ ?_
            · rw [toPyA_map]
              exact List.mem_map.mpr ⟨eFs F, List.mem_map.mpr ⟨F, List.mem_filter.mpr ⟨hFS, hag⟩, rfl⟩, rfl⟩
            · walk_at "w"
              exact ⟨by walk_at "sub", by walk_at "rle"⟩
          · rw [decide_eq_false hle]
            walk_at "w"
            exact ⟨by walk_at "sub", by walk_at "rle"⟩
  · refine WS.fr hs hr ?_
    walk_at "w"
    exact ⟨M, by walk_at "sub", hq⟩
end Wl
set_option Elab.async false
set_option linter.all false
set_option maxRecDepth 100000
set_option maxHeartbeats 4000000
namespace Wl
open PySem PySem.Spec PyProof.Rows L2
theorem facts {P : Program} {w : World} {K : PySem.W.Frag} {mg : Str → Option Value} {base : Heap} (T : Txt K mg) {f0 : Addr} {fd0 : FuncData} (F0 : FunD K "law" "law" (defArgs (atTop 65)) (defBody (atTop 65)) (defScope (atTop 65)) [] [] f0 fd0) : FnOk P w K mg base CX0 9 f0 fd0 ["_law_script"] (SpC K C_law) := by
  have F_is_whole := fn_is_whole (P := P) (w := w) (K := K) (mg := mg) (base := base) T
  have F_is_device := fn_is_device (P := P) (w := w) (K := K) (mg := mg) (base := base) T F_is_whole
  have F_is_place := fn_is_place (P := P) (w := w) (K := K) (mg := mg) (base := base) T F_is_whole F_is_device
  have F_is_loop := fn_is_loop (P := P) (w := w) (K := K) (mg := mg) (base := base) T F_is_place
  have F_is_name := fn_is_name (P := P) (w := w) (K := K) (mg := mg) (base := base) T
  have F_rises := fn_rises (P := P) (w := w) (K := K) (mg := mg) (base := base) T
  have F_are_rising := fn_are_rising (P := P) (w := w) (K := K) (mg := mg) (base := base) T F_is_whole F_rises
  have F_is_zone := fn_is_zone (P := P) (w := w) (K := K) (mg := mg) (base := base) T F_is_name F_are_rising
  have F_are_zones := fn_are_zones (P := P) (w := w) (K := K) (mg := mg) (base := base) T F_is_zone
  have F_devices := fn_devices (P := P) (w := w) (K := K) (mg := mg) (base := base) T
  have F_is_plan := fn_is_plan (P := P) (w := w) (K := K) (mg := mg) (base := base) T F_is_whole F_is_loop F_are_zones F_devices
  have F_stretches := fn_stretches (P := P) (w := w) (K := K) (mg := mg) (base := base) T
  have F_openers := fn_openers (P := P) (w := w) (K := K) (mg := mg) (base := base) T
  have F_parts := fn_parts (P := P) (w := w) (K := K) (mg := mg) (base := base) T
  have F_told_twice := fn_told_twice (P := P) (w := w) (K := K) (mg := mg) (base := base) T F_devices
  have F_crowded := fn_crowded (P := P) (w := w) (K := K) (mg := mg) (base := base) T F_parts
  have F_zone_at_odds := fn_zone_at_odds (P := P) (w := w) (K := K) (mg := mg) (base := base) T F_devices
  have F_wrong := fn_wrong (P := P) (w := w) (K := K) (mg := mg) (base := base) T F_told_twice F_crowded F_zone_at_odds
  have F_is_let_by := fn_is_let_by (P := P) (w := w) (K := K) (mg := mg) (base := base) T F_is_plan F_wrong
  have F_spur_come_to := fn_spur_come_to (P := P) (w := w) (K := K) (mg := mg) (base := base) T
  have F_come_to := fn_come_to (P := P) (w := w) (K := K) (mg := mg) (base := base) T F_spur_come_to
  have F_steps_of := fn_steps_of (P := P) (w := w) (K := K) (mg := mg) (base := base) T
  have F_feels := fn_feels (P := P) (w := w) (K := K) (mg := mg) (base := base) T F_come_to F_steps_of
  have F_heard_by := fn_heard_by (P := P) (w := w) (K := K) (mg := mg) (base := base) T F_come_to
  have F_need_plan := fn_need_plan (P := P) (w := w) (K := K) (mg := mg) (base := base) T F_is_let_by
  have F_heard_so := fn_heard_so (P := P) (w := w) (K := K) (mg := mg) (base := base) T F_feels F_heard_by
  have F_of_loop := fn_of_loop (P := P) (w := w) (K := K) (mg := mg) (base := base) T F_devices F_openers
  have F_single_faults := fn_single_faults (P := P) (w := w) (K := K) (mg := mg) (base := base) T F_stretches
  have F_fault_sets := fn_fault_sets (P := P) (w := w) (K := K) (mg := mg) (base := base) T F_single_faults
  have F_agreeing := fn_agreeing (P := P) (w := w) (K := K) (mg := mg) (base := base) T F_need_plan F_heard_so F_of_loop F_fault_sets
  have F_law_bag := fn_law_bag (P := P) (w := w) (K := K) (mg := mg) (base := base) T
  have F_law_take := fn_law_take (P := P) (w := w) (K := K) (mg := mg) (base := base) T
  have F_law_name := fn_law_name (P := P) (w := w) (K := K) (mg := mg) (base := base) T F_law_take
  have F_law_names := fn_law_names (P := P) (w := w) (K := K) (mg := mg) (base := base) T F_law_name
  have F_law_loop := fn_law_loop (P := P) (w := w) (K := K) (mg := mg) (base := base) T F_law_take
  have F_law_parts := fn_law_parts (P := P) (w := w) (K := K) (mg := mg) (base := base) T
  have F_law_plan := fn_law_plan (P := P) (w := w) (K := K) (mg := mg) (base := base) T F_law_take F_law_names F_law_loop F_law_parts
  have F_law_walk := fn_law_walk (P := P) (w := w) (K := K) (mg := mg) (base := base) T
  have F_law_gates := fn_law_gates (P := P) (w := w) (K := K) (mg := mg) (base := base) T
  have F_law_feels := fn_law_feels (P := P) (w := w) (K := K) (mg := mg) (base := base) T F_law_walk
  have F_law_singles := fn_law_singles (P := P) (w := w) (K := K) (mg := mg) (base := base) T
  have F_law_due := fn_law_due (P := P) (w := w) (K := K) (mg := mg) (base := base) T F_law_walk F_law_gates F_law_feels
  have F_law_spots := fn_law_spots (P := P) (w := w) (K := K) (mg := mg) (base := base) T
  have F_law_sets := fn_law_sets (P := P) (w := w) (K := K) (mg := mg) (base := base) T
  have F_law_drawn := fn_law_drawn (P := P) (w := w) (K := K) (mg := mg) (base := base) T F_law_take
  exact fn_law (P := P) (w := w) (K := K) (mg := mg) (base := base) T F_agreeing F_law_bag F_law_take F_law_plan F_law_singles F_law_due F_law_spots F_law_sets F_law_drawn F0
theorem only_stil {K : PySem.W.Frag} {H : Hp} {a : Addr} {xs : List V} (hO : Only H) (h : SqL K H a xs) : Stil K H a xs := by
  rcases h with (h | ⟨o, h⟩) | h
  · rcases hO a with e | ⟨o, ys, e⟩
    · rw [e] at h
      cases h
    · rw [e] at h
      cases h
  · exact .inl ⟨o, h⟩
  · exact .inr fun H' => .inr h
end Wl
open PySem PySem.W PySem.Calls PyProof.Rows
theorem PySem.Challenge.cw_warnloop_k45_whole_true_faults_among_holds : PySem.Challenge.rw_warnloop_k45_whole_true_faults_among.Holds := by
  w_on; o_law
  refine HandSHeadRun.head_any (r := OpenLaw.row PySem.Challenge.rw_warnloop_k45_whole_true_faults_among) (q := view (OpenLaw.row PySem.Challenge.rw_warnloop_k45_whole_true_faults_among).prog [65]) (H := Wl.hk) (ob := Wl.ob) (M := 6000) (loose := Wl.names) (d := HandSHeadRun.topDef (OpenLaw.row PySem.Challenge.rw_warnloop_k45_whole_true_faults_among).prog 65) (kwd := []) Wl.ob_eq
    (by kernel_rfl) (fun s => by kernel_rfl) Wl.run (by kernel_rfl) (by kernel_rfl) (by kernel_rfl) (by rfl) (by first | assumption | decide +kernel) (by decide +kernel) ⟨rfl, rfl, rfl, rfl, rfl, by decide +kernel⟩ ?hw ?hc
  case hw => w_witness2
  case hc =>
    refine L2.walk_ofE (l := PySem.Challenge.rw_warnloop_k45_whole_true_faults_among) (n := 63) (k := 9) (x := "_law_script") (CX := L2.CX0) rfl (by decide) (by kernel_rfl) ⟨rfl, by decide, by decide⟩ ?F (fun _ _ _ _ z => z)
    intro w mg fa h Y G hmg0
    obtain ⟨K, KX, c⟩ := Y
    have hmg : mg ("law" : PySem.Str) = some (.ref fa) := by
      have e : (HandSHeadRun.topDef (OpenLaw.row PySem.Challenge.rw_warnloop_k45_whole_true_faults_among).prog 65).name = ("law" : PySem.Str) := by kernel_rfl
      rw [← e]
      exact hmg0
    have T : Wl.Txt K mg := ⟨⟨h, KX, G⟩, c.t.d, c.more⟩
    obtain ⟨fd, F0⟩ := c.t.d.def_ 45 (d := Wl.dAt 65 "law") rfl
    have e := hmg.symm.trans (He.glo_ok KX G (c.t.d.fact 45 (f := .glo "law") rfl))
    cases e
    have b := L2.FunD.bindsA (ps := ["_law_script"]) F0 fun _ _ _ _ _ _ us hl => match us, hl with | [_], _ => rfl
    refine ⟨K, fd, Wl.SpC K Wl.C_law, KX, fun s v => b s [v] rfl, fun H a ns hl hO hS => ?_, fun base _ _ => Wl.facts T F0⟩
    exact ⟨[.fl (ns.map Wl.U.int)], [], fun u _ => u = .bl true, .cons (.fl (Wl.only_stil hO hS) (Wl.RpA.of_ints ns)) .nil, ⟨by simp, by simp⟩, ⟨ns, rfl, rfl⟩, fun u M' v H' hu _ _ hr => by subst hu; cases hr; rfl⟩
