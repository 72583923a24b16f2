import PyProof.Rows.All
import Wide.All
import OpenK.AllK
import Wide.FinOn
import HandS.ForMost
import HandS.ForExc
import HandS.Defaults
import HandS.Codes
import HandS.IsInst
import HandS.Star
import HandS.Walk
import HandS.More
import HandS.TupAny
import HandS.Deep
import HandS.Style
import HandS.Flow
import HandS.WrittenGet
import HandS.Lambda
import HandS.Nested
import HandS.Property
import HandS.ExcInit
import HandS.Wide
import KE.GoesMore
import KE.KExcInit
import PyProof.P3In
import PyProof.StrOps2
import HandS.HeadHook4
import HandS.HeadWalk
import HandS.Head2
import PySem.Challenge.RW_ownbranch_k20_whole_notes_of_passes
set_option Elab.async false
set_option linter.all false
set_option maxRecDepth 100000
set_option maxHeartbeats 0
/-! The text, the data, what the top has written. -/
namespace Ob
open PySem PySem.Spec PyProof.Rows L2
/-! ### the text -/
def top (i : Nat) : Stmt := PySem.Challenge.pw_ownbranch_k20_whole_notes_of_passes.main.body.getD i (.Pass ⟨0, 0, 0, 0⟩)
/-- a def of the module's top, as it stands behind the top -/
def DefAt (K : PySem.W.Frag) (mg : Str → Option Value) (x : Str) (st : Stmt) : Prop := ∃ f fd, FunD K x x (defArgs st) (defBody st) (defScope st) [] [] f fd ∧ mg x = some (.ref f)
/-- a constant of the module -/
def GV (mg : Str → Option Value) (x : Str) (v : V) : Prop := ∃ u, mg x = some u ∧ RelV v u
/-- EDIT_KINDS -/
def ekv : List (Str × V) := [("put", .str "item"), ("drop", .non), ("drop_next", .non), ("before", .str "item"), ("after", .str "item"), ("mark", .str "mark"), ("break", .non)]
structure Tx (w : World) (K : PySem.W.Frag) (mg : Str → Option Value) : Prop where
  EK : ∃ d es n, mg "EDIT_KINDS" = some (.ref d) ∧ KDict K w d es n ∧ ∀ q ∈ ekv, ∃ u, PySem.W.nsIn K d q.1 = some (some u) ∧ RelV q.2 u
  nLen : mg "len" = none
  nIsi : mg "isinstance" = none
  nInt : mg "int" = none
  nBool : mg "bool" = none
  nStr : mg "str" = none
  nTuple : mg "tuple" = none
  nList : mg "list" = none
  nAll : mg "all" = none
  nEnum : mg "enumerate" = none
  nRange : mg "range" = none
  nMax : mg "max" = none
  nMin : mg "min" = none
  nAbs : mg "abs" = none
  nSum : mg "sum" = none
  ITEMS : GV mg "ITEMS" (.str "abcd")
  END : GV mg "END" (.str "$")
  MOST_RULES : GV mg "MOST_RULES" (.int 12)
  MOST_LOOPS : GV mg "MOST_LOOPS" (.int 5)
  MOST_EDITS : GV mg "MOST_EDITS" (.int 4)
  MOST_DELETIONS : GV mg "MOST_DELETIONS" (.int 2)
  MARKS : GV mg "MARKS" (.int 4)
  LONGEST_END : GV mg "LONGEST_END" (.int 4)
  END_WAY : GV mg "END_WAY" (.str "end")
  BREAK_WAY : GV mg "BREAK_WAY" (.str "break")
  d_is_integer : DefAt K mg "is_integer" (top 15)
  d_is_item : DefAt K mg "is_item" (top 16)
  d_is_text : DefAt K mg "is_text" (top 17)
  d_is_selection : DefAt K mg "is_selection" (top 18)
  d_is_edit : DefAt K mg "is_edit" (top 19)
  d_count_words : DefAt K mg "count_words" (top 20)
  d_may_follow : DefAt K mg "may_follow" (top 21)
  d_are_edits : DefAt K mg "are_edits" (top 22)
  d_is_rule : DefAt K mg "is_rule" (top 23)
  d_is_loop : DefAt K mg "is_loop" (top 24)
  d_is_program : DefAt K mg "is_program" (top 25)
  d_check_program : DefAt K mg "check_program" (top 26)
  d_fitting_rule : DefAt K mg "fitting_rule" (top 27)
  d_apply_edit : DefAt K mg "apply_edit" (top 28)
section
variable {P : Program} {w : World} {K : PySem.W.Frag} {mg : Str → Option Value} {base : Heap}
/-- the promise of a def of the top by its body -/
theorem calD {x : Str} {st : Stmt} {N ps : List Str} {k : Nat} {sp : Sp} (D : DefAt K mg x st) (S : FnScope N ps (defScope st))
    (hb : ∀ (kV doc pm : Value) (an : Option Addr) (cdv ct : Value) (us : List Value), us.length = ps.length → bindArgs (PySem.W.fnOf x x (defArgs st) (defBody st) (defScope st) .none kV doc pm an cdv ct) ⟨us, []⟩ = pure (ps.zip us))
    (len : ∀ vs H Q E, sp vs H Q E → vs.length = ps.length)
    (hbody : ∀ (f : Addr) (cdv : Value) (A : Around) (outer : List Env) (s : Shared) (H : Hp) (vs : List V) (Q : VK) (E : XK), Room k (A.deeper (envOfC x (defScope st) s.heap.objs.size f cdv)) → sp vs H Q E →
      ∃ t, PSs (cxOf CX0 P w K mg base N x (defScope st) f cdv A outer s H E).nox (defBody st) t ∧ t { nx := fun _ H' => Q .non H', rt := Q } (start N vs) H) : C8.Cal P w K mg base (k + 1) x sp [] := by
  obtain ⟨f, fd, F, hm⟩ := D
  refine ⟨f, fd, ps, [], F.ok S len fun cdv A outer s H vs Q E hr h => ?_, hm, F.kp, F.bindsN hb, .nil⟩
  obtain ⟨t, h1, h2⟩ := hbody f cdv A outer s H vs Q E hr h
  exact ⟨t, h1.nox, h2⟩
end
/-! ### letters, texts -/
theorem b_str : bootBuiltins "str" = some (.type "str") := by decide +kernel
theorem b_int : bootBuiltins "int" = some (.type "int") := by decide +kernel
theorem b_bool : bootBuiltins "bool" = some (.type "bool") := by decide +kernel
theorem b_tuple : bootBuiltins "tuple" = some (.type "tuple") := by decide +kernel
theorem b_list : bootBuiltins "list" = some (.type "list") := by decide +kernel
theorem b_isinstance : bootBuiltins "isinstance" = some (.builtin "isinstance") := by decide +kernel
theorem b_all : bootBuiltins "all" = some (.builtin "all") := by decide +kernel
theorem b_sum : bootBuiltins "sum" = some (.builtin "sum") := by decide +kernel
theorem b_abs : bootBuiltins "abs" = some (.builtin "abs") := by decide +kernel
theorem b_max : bootBuiltins "max" = some (.builtin "max") := by decide +kernel
theorem b_min : bootBuiltins "min" = some (.builtin "min") := by decide +kernel
/-- the text of these signs -/
abbrev S (l : List Nat) : Str := ⟨l.toArray⟩
/-- one sign -/
abbrev sg (c : Nat) : V := .str ⟨#[c]⟩
/-- a, b, c, d -/
def al : List Nat := [97, 98, 99, 100]
/-- .. and the end's sign -/
def alE : List Nat := [97, 98, 99, 100, 36]
theorem S_al : ("abcd" : Str) = S al := by decide +kernel
theorem S_alE : ("abcd" : Str) ++ ("$" : Str) = S alE := by decide +kernel
theorem S_len (l : List Nat) : (S l).length = l.length := by simp [S, Str.length]
theorem S_cps (l : List Nat) : (S l).cps.toList = l := by simp [S]
theorem S_inj {a b : List Nat} (h : S a = S b) : a = b := by
  have q := congrArg (fun x : Str => x.cps.toList) h
  simpa [S] using q
theorem S_ne {a : List Nat} (h : a ≠ []) : S a ≠ ("" : Str) := fun e => h (S_inj (e.trans (show ("" : Str) = S [] by decide +kernel)))
theorem small {n : Nat} (h : n ≤ 16777216) : n ≤ sizeLine := by rw [sizeLine_eq]; exact h
theorem smallL {n : Nat} (h : n < 16777216) : n < sizeLine := by rw [sizeLine_eq]; exact h
theorem isi_true {K : PySem.W.Frag} {a b : String} (h : kitB a b = some true) : PySem.W.kitOne K (.type a) (.type b) = some true := kit_ty h
theorem isi_false {K : PySem.W.Frag} {a b : String} (h : kitB a b = some false) : PySem.W.kitOne K (.type a) (.type b) = some false := kit_ty h
/-- glued signs -/
theorem join_sg (l : List Nat) : Txt.join ("" : Str) (l.map fun c => (⟨#[c]⟩ : Str)) = S l := by
  rw [TL.join_eq]
  have h0 : TL.tl ("" : Str) = [] := by decide +kernel
  have key : ∀ l : List Nat, TL.joinL [] (l.map fun c => [c]) = l := by
    intro l
    induction l with
    | nil => rfl
    | cons a r ih =>
      cases r with
      | nil => rfl
      | cons b r => exact congrArg (fun z => a :: z) ih
  have h1 : TL.tl (Str.join ("" : Str) (l.map fun c => (⟨#[c]⟩ : Str))) = l := by
    rw [TL.tl_join, h0, List.map_map]
    exact key l
  have h2 := congrArg (fun z : List Nat => S z) h1
  exact (TL.mk_tl _).symm.trans h2
theorem sum_sg (l : List Nat) : ((l.map fun c => (⟨#[c]⟩ : Str)).map (·.length)).sum + (l.map fun c => (⟨#[c]⟩ : Str)).length * (("" : Str).length) = l.length := by
  have h0 : (("" : Str).length) = 0 := by decide +kernel
  rw [h0, Nat.mul_zero, Nat.add_zero]
  induction l with
  | nil => rfl
  | cons a r ih =>
    show (⟨#[a]⟩ : Str).length + ((r.map fun c => (⟨#[c]⟩ : Str)).map (·.length)).sum = r.length + 1
    rw [ih]
    show 1 + r.length = r.length + 1
    omega
theorem upd_self {H : Hp} {a : Addr} {o : HO} (h : H a = some o) : upd H a o = H := by
  funext b
  by_cases e : b = a
  · rw [e, upd_same, h]
  · rw [upd_ne e]
/-- a new object: what was tracked stands -/
theorem same_new {H : Hp} {a : Addr} {o : HO} (h : H a = none) : Same H (upd H a o) := fun b u e => by rw [upd_ne (ne_of_none e h)]; exact e
theorem same_new' {H H' : Hp} {a : Addr} {o : HO} (s : Same H H') (h : H' a = none) : Same H (upd H' a o) := s.trans (same_new h)
/-- an object that is newer than H changes -/
theorem same_upd {H H' : Hp} {a : Addr} {o : HO} (s : Same H H') (h : H a = none) : Same H (upd H' a o) := fun b u e => by rw [upd_ne (ne_of_none e h)]; exact s b u e
/-! ### the data -/
/-- an edit; letters are their code points -/
inductive Ed where
  | put (c : Nat) | drop | dropN | bef (c : Nat) | aft (c : Nat) | mark (m : Int) | brk
  deriving DecidableEq
def Ed.w : Ed → Str
  | .put _ => "put" | .drop => "drop" | .dropN => "drop_next" | .bef _ => "before" | .aft _ => "after" | .mark _ => "mark" | .brk => "break"
def Ed.a : Ed → List V
  | .put c => [sg c] | .drop => [] | .dropN => [] | .bef c => [sg c] | .aft c => [sg c] | .mark m => [.int m] | .brk => []
def Ed.vs (e : Ed) : List V := .str e.w :: e.a
def Ed.kd : Ed → V
  | .put _ => .str "item" | .drop => .non | .dropN => .non | .bef _ => .str "item" | .aft _ => .str "item" | .mark _ => .str "mark" | .brk => .non
def Lc (c : Nat) : Prop := c ∈ al
def Mk4 (m : Int) : Prop := 0 ≤ m ∧ m ≤ 3
def Ed.ok : Ed → Prop
  | .put c => Lc c | .bef c => Lc c | .aft c => Lc c | .mark m => Mk4 m | _ => True
def Ed.isBrk : Ed → Bool
  | .brk => true | _ => false
def Ed.isIns : Ed → Bool
  | .bef _ => true | .aft _ => true | _ => false
def Ed.isDel : Ed → Bool
  | .drop => true | .dropN => true | _ => false
/-- the edits of a rule -/
structure EdsOk (es : List Ed) : Prop where
  len : es.length ≤ 4
  ok : ∀ e ∈ es, e.ok
  ins : es.countP Ed.isIns ≤ 1
  del : es.countP Ed.isDel ≤ 2
  brk : ∀ e ∈ es.dropLast, e.isBrk = false
structure Ru where
  mark : Option Int
  items : List Nat
  fol : List Nat
  eds : List Ed
def mkV : Option Int → V
  | none => .non
  | some m => .int m
/-- a selection of the letters -/
def Sel (t a : List Nat) : Prop := t ≠ [] ∧ a.filter (fun c => decide (c ∈ t)) = t
structure Ru.ok (r : Ru) : Prop where
  mark : ∀ m, r.mark = some m → Mk4 m
  items : Sel r.items al
  fol : Sel r.fol alE
  eds : EdsOk r.eds
structure Lo where
  rules : List Ru
  ends : List (List Nat)
structure Lo.ok (l : Lo) : Prop where
  len : l.rules.length ≤ 12
  rules : ∀ r ∈ l.rules, r.ok
  el : l.ends.length = 4
  ends : ∀ t ∈ l.ends, (∀ c ∈ t, Lc c) ∧ t.length ≤ 4
/-! ### where they stand -/
def AtEd (H : Hp) (p : Addr) (e : Ed) : Prop := H p = some (.tup e.vs)
def AtEds (H : Hp) (p : Addr) (es : List Ed) : Prop := ∃ ps : List Addr, H p = some (.tup (ps.map V.ref)) ∧ Paired (AtEd H) ps es
def AtRu (H : Hp) (p : Addr) (r : Ru) : Prop := ∃ q, H p = some (.tup [mkV r.mark, .str (S r.items), .str (S r.fol), .ref q]) ∧ AtEds H q r.eds
def AtRus (H : Hp) (p : Addr) (rs : List Ru) : Prop := ∃ ps : List Addr, H p = some (.tup (ps.map V.ref)) ∧ Paired (AtRu H) ps rs
def AtLo (H : Hp) (p : Addr) (l : Lo) : Prop := ∃ q1 q2, H p = some (.tup [.ref q1, .ref q2]) ∧ AtRus H q1 l.rules ∧ H q2 = some (.tup (l.ends.map fun t => .str (S t)))
def AtLos (H : Hp) (p : Addr) (ls : List Lo) : Prop := ∃ ps : List Addr, H p = some (.tup (ps.map V.ref)) ∧ Paired (AtLo H) ps ls
/-- the tuples stay -/
def TS (H H' : Hp) : Prop := ∀ p xs, H p = some (.tup xs) → H' p = some (.tup xs)
theorem TS.refl (H : Hp) : TS H H := fun _ _ h => h
theorem TS.trans {H H1 H2 : Hp} (a : TS H H1) (b : TS H1 H2) : TS H H2 := fun p xs h => b p xs (a p xs h)
theorem TS.of {H H' : Hp} (s : Same H H') : TS H H' := fun p xs h => s p _ h
theorem TS.new {H : Hp} {a : Addr} {o : HO} (h : H a = none) : TS H (upd H a o) := TS.of (same_new h)
/-- an object that is no tuple changes -/
theorem TS.put {H : Hp} {a : Addr} {o u : HO} (h : H a = some u) (n : ∀ xs, u ≠ .tup xs) : TS H (upd H a o) := fun p xs q => by
  rw [upd_ne (ne_of q h (fun z => n xs z.symm))]
  exact q
theorem TS.lst {H : Hp} {a : Addr} {o : HO} {ys : List V} (h : H a = some (.lst ys)) : TS H (upd H a o) := TS.put h fun _ z => by cases z
theorem AtEd.ts {H H' : Hp} (t : TS H H') {p : Addr} {e : Ed} (h : AtEd H p e) : AtEd H' p e := t _ _ h
theorem AtEds.ts {H H' : Hp} (t : TS H H') {p : Addr} {es : List Ed} (h : AtEds H p es) : AtEds H' p es := by
  obtain ⟨ps, h1, h2⟩ := h
  exact ⟨ps, t _ _ h1, Paired.mapP h2 fun _ _ z => z.ts t⟩
theorem AtRu.ts {H H' : Hp} (t : TS H H') {p : Addr} {r : Ru} (h : AtRu H p r) : AtRu H' p r := by
  obtain ⟨q, h1, h2⟩ := h
  exact ⟨q, t _ _ h1, h2.ts t⟩
theorem AtRus.ts {H H' : Hp} (t : TS H H') {p : Addr} {rs : List Ru} (h : AtRus H p rs) : AtRus H' p rs := by
  obtain ⟨ps, h1, h2⟩ := h
  exact ⟨ps, t _ _ h1, Paired.mapP h2 fun _ _ z => z.ts t⟩
theorem AtLo.ts {H H' : Hp} (t : TS H H') {p : Addr} {l : Lo} (h : AtLo H p l) : AtLo H' p l := by
  obtain ⟨q1, q2, h1, h2, h3⟩ := h
  exact ⟨q1, q2, t _ _ h1, h2.ts t, t _ _ h3⟩
theorem AtLos.ts {H H' : Hp} (t : TS H H') {p : Addr} {ls : List Lo} (h : AtLos H p ls) : AtLos H' p ls := by
  obtain ⟨ps, h1, h2⟩ := h
  exact ⟨ps, t _ _ h1, Paired.mapP h2 fun _ _ z => z.ts t⟩
theorem Paired.at {α β : Type} {R : α → β → Prop} : ∀ {l : List α} {m : List β} {i : Nat} {a : α}, Paired R l m → l[i]? = some a → ∃ b, m[i]? = some b ∧ R a b
  | _, _, _, _, .nil, h => by simp at h
  | _, _, 0, _, .cons r _, h => by simp at h; subst h; exact ⟨_, rfl, r⟩
  | _, _, i + 1, a, .cons _ t, h => by
    obtain ⟨b, h1, h2⟩ := Paired.at (i := i) (a := a) t (by simpa using h)
    exact ⟨b, by simpa using h1, h2⟩
theorem Paired.len {α β : Type} {R : α → β → Prop} : ∀ {l : List α} {m : List β}, Paired R l m → l.length = m.length
  | _, _, .nil => rfl
  | _, _, .cons _ t => congrArg Nat.succ (Paired.len t)
theorem Paired.snoc {α β : Type} {R : α → β → Prop} {a : α} {b : β} (r : R a b) : ∀ {l : List α} {m : List β}, Paired R l m → Paired R (l ++ [a]) (m ++ [b])
  | _, _, .nil => .cons r .nil
  | _, _, .cons q t => .cons q (Paired.snoc r t)
theorem Paired.tk {α β : Type} {R : α → β → Prop} : ∀ {l : List α} {m : List β} (n : Nat), Paired R l m → Paired R (l.take n) (m.take n)
  | _, _, 0, _ => .nil
  | _, _, _ + 1, .nil => .nil
  | _, _, n + 1, .cons q t => .cons q (Paired.tk n t)
theorem ref_at {ps : List Addr} {i : Nat} {x : V} (h : (ps.map V.ref)[i]? = some x) : ∃ p, ps[i]? = some p ∧ x = .ref p := by
  rw [List.getElem?_map] at h
  cases e : ps[i]? with
  | none => rw [e] at h; cases h
  | some p => rw [e] at h; exact ⟨p, rfl, (Option.some.inj h).symm⟩
theorem take_more {α : Type} {l : List α} {i : Nat} {x : α} (h : l[i]? = some x) : l.take (i + 1) = l.take i ++ [x] := by
  rw [List.take_succ, h]
  rfl
end Ob
/-! enumerate of a tuple -/
namespace Ob
open PySem PySem.Spec PyProof.Rows L2
open Sem (wp)
open AutoSeq1 (wpAny_loadPart')
/-- the two objects of enumerate(t) -/
abbrev enumHeap (h : Heap) (l : Addr) : Heap := (h.push { cls := .type "tuple_iterator", data := .fields #[.ref l, .int 0 0] }).push { cls := .type "enumerate", data := .fields #[.none, .bool false, .ref h.objs.size, rawInt 0, .none, .none] }
theorem enum_new {l : Addr} {items : Array Value} {n : Nat} {dct : Option Addr} {sl : Array (Option Value)} :
    Meets (Builtin.«enumerate.__new__» ⟨[.type "enumerate", .ref l], []⟩) (fun _ R s => s.heap.get? l = some { cls := .type "tuple", dict := dct, data := .seq items n, slots := sl } ∧ R (.ok (.ret (.ref (s.heap.objs.size + 1)))) { s with heap := enumHeap s.heap l }) := by
  refine .of_wp fun prog w A R s h => ?_
  obtain ⟨e1, e2⟩ := h
  have tup : Heap.IsTuple s.heap l items := ⟨_, e1, rfl, n, rfl⟩
  have z : (s.heap.push { cls := .type "tuple_iterator", data := .fields #[.ref l, .int 0 0] }).objs.size = s.heap.objs.size + 1 := Heap.size_push ..
  have sub := sub_enumerate
  cases s with
  | mk hp g d tk os =>
    rw [← z] at e2
    wp_walk using wpAny_loadPart' e1, wpAny_pyIter_tuple tup
    refine wpAny_stack_any fun stk => wpAny_pure ?_
    split
    · rename_i q _ _ _ _ _
      cases (q == Value.type "enumerate") <;> (wp_walk using wpAny_loadPart' e1, wpAny_pyIter_tuple tup; exact ⟨_, rfl, e2⟩)
    · wp_walk using wpAny_loadPart' e1, wpAny_pyIter_tuple tup
      exact ⟨_, rfl, e2⟩
/-- enumerate(t) -/
theorem enum_of_tuple {prog : Program} {w : World} {A : Around} {E : Value → Shared → Prop} {s : Shared} {l : Addr} {items : Array Value} {Q : Value → Shared → Prop} (tup : s.heap.IsTuple l items)
    (k : IsEnum (enumHeap s.heap l) (s.heap.objs.size + 1) s.heap.objs.size 0 .none → (enumHeap s.heap l).IsTupleIter s.heap.objs.size l 0 → (∀ b u, s.heap.get? b = some u → (enumHeap s.heap l).get? b = some u) → Q (.ref (s.heap.objs.size + 1)) { s with heap := enumHeap s.heap l }) :
    wpAny (model prog w) A (call (.type "enumerate") [.ref l]) Q E s := by
  obtain ⟨⟨c, dct, dt, sl⟩, e1, ec, n, ed⟩ := tup
  cases (show c = .type "tuple" from ec)
  cases (show dt = .seq items n from ed)
  have en : IsEnum (enumHeap s.heap l) (s.heap.objs.size + 1) s.heap.objs.size 0 .none := by
    have z : (s.heap.push { cls := .type "tuple_iterator", data := .fields #[.ref l, .int 0 0] }).objs.size = s.heap.objs.size + 1 := Heap.size_push ..
    rw [← z]
    exact Heap.get?_push_size _ rfl
  exact callType_new F.called_enumerate (by decide) (F.typeCall_enumerate_1 _) (F.newCall_enumerate_1 _) (fun u => F.args_object_init_2 u _) F.entry_enumerate_new enum_new
    ⟨e1, ⟨_, en, rfl⟩, k en ⟨_, Heap.get?_push_of_some _ (Heap.get?_push_size _ rfl), rfl, rfl⟩ fun b u q => Heap.get?_push_of_some _ (Heap.get?_push_of_some _ q)⟩
def Itet (K : PySem.W.Frag) (a : Addr) : It :=
  ⟨fun i H => ∃ (xs : List V) (x : V), SqT K H a xs ∧ xs[i]? = some x, fun i H v H' => ∃ T x, v = .ref T ∧ H T = none ∧ H' = upd H T (.tup [.int (i : Nat), x]) ∧ ∀ xs, SqT K H a xs → xs[i]? = some x, fun i H => ∃ xs : List V, SqT K H a xs ∧ xs.length ≤ i⟩
theorem tup_ne {h : Heap} {a b : Addr} {its : Array Value} {o : Obj} (p : h.IsTuple a its) (e : h.get? b = some o) (c : o.cls ≠ .type "tuple") : a ≠ b := fun z => by
  obtain ⟨q, h1, h2, _⟩ := p
  rw [z, e] at h1
  cases h1
  exact c h2
/-- an enumerate at e over the iterator at j of the tuple at a, before its n-th turn -/
structure EnumSt (a e j : Addr) (n : Nat) (h : Heap) : Prop where
  en : ∃ was, IsEnum h e j ((n : Nat) : Int) was
  tup : h.IsTupleIter j a n
  ne : e ≠ j
theorem EnumSt.known {a e j : Addr} {n : Nat} {h : Heap} (st : EnumSt a e j n h) : ∀ b ∈ [e, j], ∃ u, h.get? b = some u ∧ u.cls ≠ .type "tuple" ∧ ∀ v, u.data ≠ .cell v := fun b hb => by
  obtain ⟨⟨was, h1⟩, ⟨u, h2, h3, h4⟩, _⟩ := st
  have two : b = e ∨ b = j := by simpa using hb
  rcases two with rfl | rfl
  · exact ⟨_, h1, (fun z => by injection z with z; exact absurd z (by decide)), fun v z => by cases z⟩
  · exact ⟨u, h2, (fun z => by rw [h3] at z; injection z with z; exact absurd z (by decide)), fun v z => by rw [h4] at z; cases z⟩
theorem EnumSt.apart {a e j b : Addr} {n : Nat} {h : Heap} {its : Array Value} (st : EnumSt a e j n h) (t : h.IsTuple a its) (hb : b ∈ [e, j]) : a ≠ b := by
  obtain ⟨u, h1, h2, _⟩ := st.known b hb
  exact tup_ne t h1 h2
theorem EnumSt.below {a e j b : Addr} {n : Nat} {h : Heap} (st : EnumSt a e j n h) (hb : b ∈ [e, j]) : b < h.objs.size := by
  obtain ⟨u, h1, _⟩ := st.known b hb
  exact Heap.lt_size h1
theorem turn_enumT {P : Program} {w : World} {K : PySem.W.Frag} {elts : List Expr} {kk : Nat} {tpos : Pos} (a e j : Addr) : Turn P w K (.Tuple elts kk tpos) (Itet K a) [e, j] e (EnumSt a e j) where
  mem := List.mem_cons_self ..
  obj := fun n h st b hb => by
    obtain ⟨u, h1, _, h3⟩ := st.known b hb
    exact ⟨u, h1, h3⟩
  keep := fun n h h1 st kp => ⟨st.en.imp fun was q => kp e (by simp) _ q, st.tup.at fun o q => kp j (by simp) o q, st.ne⟩
  self := fun A n s Q E st q => by
    obtain ⟨was, h1⟩ := st.en
    exact wpAny_pyIter_enum h1 q
  done := by
    intro X eP ew eK calm n pins s σ H E I free st stop
    subst eP ew eK
    obtain ⟨xs, ht, le⟩ := stop
    obtain ⟨its, rv, tp, _⟩ := I.tuple ht
    obtain ⟨was, h1⟩ := st.en
    have tp1 : s.heap.IsTuple a its.toArray := tp
    obtain ⟨f0, f1, _, f3, f4, f5⟩ := free j (by simp)
    have ty : s.TypeIs (.ref e) "enumerate" := ⟨_, h1, rfl⟩
    have full : its.toArray[n]? = none := by
      have := rv.length
      simp
      omega
    unfold pyNext
    refine wpAny_bind (wpAny_attempt (wpAny_callSpecial?_slot (name := Str.ofString "__next__") ty F.slot_enumerate_next (wpAny_call_entry F.slot_enumerate_next ty F.entry_enumerate_next ?_ (F.args_enumerate_next_1 _))))
    show wpAny _ _ (field (.ref e) 2 >>= _) _ _ _
    refine wpAny_bind (wpAny_field h1 rfl (x := .ref j) rfl (wpAny_bind (wpAny_nextOf_tuple_end (A := X.A.in1) (I.ok.hd calm) st.tup tp1 full fun h2 x kp stopped => ?_)))
    obtain ⟨o, ho, hc⟩ := stopped
    exact wpAny_bind (wpAny_isInstance (b := true) ⟨o, ho, hc⟩ isSubtype_stop (wpAny_pure ⟨rfl, I.turned (t' := s.toks) (fun b u hb q => kp b u hb q) f0 f1 f3 f4 f5⟩))
  item := by
    intro X eP ew eK calm n pins s σ H E I free st more
    subst eP ew eK
    obtain ⟨xs, x, ht, hx⟩ := more
    obtain ⟨its, rv, tp, _⟩ := I.tuple ht
    obtain ⟨v, hv, rvx⟩ := rv.get hx
    obtain ⟨was, h1⟩ := st.en
    have tp1 : s.heap.IsTuple a its.toArray := tp
    have le := st.below (b := e) (by simp)
    have ae := st.apart tp1 (b := e) (by simp)
    have aj := st.apart tp1 (b := j) (by simp)
    have ln : n < its.toArray.size := by simpa using (List.getElem?_eq_some_iff.mp hv).1
    refine wpAny_pyNext_enum_itemD (Draws.tuple (prog := X.prog) (w := X.w) (A := X.A.in1) (I.ok.hd calm) j a aj its.toArray) h1 ⟨st.tup, tp1⟩ ln st.ne (by simp; exact ⟨st.ne, ae.symm⟩) fun y h2 tk hy hown hit2 hT hsz hk => ?_
    obtain rfl : y = v := Option.some.inj ((show its[n]? = some y by simpa using hy).symm.trans hv)
    refine ⟨_, rfl, wpAny_letOwnedTupleGo_enum (s := { s with heap := h2, toks := tk + 1 }) hown fun h3 hen but => ?_⟩
    have laid : ObjOk X.prog X.w (upd H s.heap.objs.size (.tup [.int (n : Nat), x])) h3 s.heap.objs.size (.tup [.int (n : Nat), x]) :=
      ⟨by show 2 ≤ sizeLine; decide, [.int n tk, y], .cons ⟨_, rfl⟩ (.cons rvx .nil), ⟨_, (but.2 _ (Nat.ne_of_gt le)).trans hT, rfl, _, rfl⟩⟩
    have J : Inv X pins σ (upd H s.heap.objs.size (.tup [.int (n : Nat), x])) { s with heap := h3, toks := tk + 1 } :=
      I.turnedNew (ch := [e, j]) (fun b u hb q => (but.2 b (fun z => hb (by simp [z]))).trans (hk b u (fun z => hb (by simp [z])) (fun z => hb (by simp [z])) q)) free (Nat.le_refl _) laid
    have next : ((n + 1 : Nat) : Int) = (n : Int) + 1 := by omega
    refine ⟨.ref s.heap.objs.size, _, J, rfl, ⟨_, x, rfl, I.hok.fresh (Nat.le_refl _), rfl, fun ys hy => by rw [I.tuple_inj hy ht]; exact hx⟩, ⟨⟨y, by rw [next]; exact hen⟩, hit2.1.at fun o q => (but.2 j st.ne.symm).trans q, st.ne⟩, fun b hb => ?_⟩
    rw [upd_ne (Nat.ne_of_lt (st.below hb))]
    exact (free b hb).1
def iEnumT (K : PySem.W.Frag) (ta : TA) : TI := fun σ H R => ta σ H fun vs H1 => ∃ a xs, vs = [.ref a] ∧ SqT K H1 a xs ∧ R (Itet K a) H1
/-- enumerate(t), to be walked -/
theorem pi_enumT {X : Cx} {e : Expr} {ta : TA} {p pos tpos : Pos} {elts : List Expr} {kk : Nat} (hg : Gl X "enumerate") (hm : X.mg "enumerate" = none) (ha : PA X [e] ta) (hs : starEach [e] X.env = [(false, eval e X.env)] := by rfl) :
    PI X (.Tuple elts kk tpos) (.Call (.Name "enumerate" p) [e] [] pos) (iEnumT X.K ta) := by
  refine ⟨fun pins s σ H R I q0 => Call_ (ld_blt I hg hm boot_enumerate (PyProof.Rows.callWith_type1 (thn (ha.run pos pins s σ H _ I q0) fun us s1 r0 => ?_) hs rfl))⟩
  obtain ⟨vs, H1, I1, rel, a, xs, rfl, ht, q1⟩ := r0
  obtain rfl := Vals.ref1 rel
  obtain ⟨its, _, tp, _⟩ := I1.tuple ht
  refine enum_of_tuple (items := its.toArray) tp fun en ti kp => wpAny_pyIter_enum en ?_
  refine ⟨s1.heap.objs.size + 1, [s1.heap.objs.size + 1, s1.heap.objs.size], _, _, H1, rfl, I1.kept (t' := s1.toks) kp, turn_enumT a (s1.heap.objs.size + 1) s1.heap.objs.size, ⟨⟨.none, en⟩, ti, Nat.succ_ne_self _⟩, fun b hb => ?_, q1⟩
  have old : s1.heap.objs.size ≤ b := by
    have two : b = s1.heap.objs.size + 1 ∨ b = s1.heap.objs.size := by simpa using hb
    rcases two with rfl | rfl
    · exact Nat.le_succ _
    · exact Nat.le_refl _
  exact I1.fpOk old (I1.hok.fresh old)
theorem walk_enumT {K : PySem.W.Frag} {a : Addr} {xs : List V} : Walk (Itet K a) xs.length (fun H => SqT K H a xs) (YPair (fun i => some (.int (i : Nat))) (fun i => xs[i]?)) := by
  refine ⟨fun i _ hi q => ⟨xs, xs[i], q, by simp [hi]⟩, fun _ q => ⟨xs, q, Nat.le_refl _⟩, fun i H v H' _ q y => ?_⟩
  obtain ⟨T, x, h1, h2, h3, h4⟩ := y
  exact ⟨T, .int (i : Nat), x, h1, h2, h3, rfl, h4 xs q⟩
end Ob
namespace Ob
open PySem PySem.Spec PyProof.Rows L2 StX C8
section
variable {P : Program} {w : World} {K : PySem.W.Frag} {mg : Str → Option Value} {base : Heap}
/-! ### is_integer -/
def spIsInteger : Sp := fun vs H Q _ => ∃ i a b : Int, vs = [.int i, .int a, .int b] ∧ a ≤ i ∧ i ≤ b ∧ Q (.bl true) H
theorem sc_is_integer : FnScope ["thing", "least", "most"] ["thing", "least", "most"] (defScope (top 15)) := ⟨rfl, rfl, rfl, by decide +kernel, rfl, by decide +kernel, by decide +kernel⟩
theorem c_is_integer (T : Tx w K mg) : Cal P w K mg base 1 "is_integer" spIsInteger [] := by
  refine calD T.d_is_integer sc_is_integer (fun _ _ _ _ _ _ us hl => match us, hl with | [_, _, _], _ => rfl) (fun vs H Q E h => ?_) fun f cdv A outer s H vs Q E hr h => ?_
  · obtain ⟨i, a, b, rfl, _⟩ := h
    rfl
  · obtain ⟨i, a, b, rfl, h1, h2, q⟩ := h
    refine ⟨_, (pss_one (ps_ret (pe_and (pe_callB call_isi rfl T.nIsi b_isinstance (pa_cons (pv 0) (pa_cons (pe_bltn (v := .ty "int") rfl T.nInt b_int rfl) pa_nil))) (pe_and (pe_not (pe_callB call_isi rfl T.nIsi b_isinstance (pa_cons (pv 0) (pa_cons (pe_bltn (v := .ty "bool") rfl T.nBool b_bool rfl) pa_nil)))) (pe_one (pe_chain op_le op_le (pv 1) (pv 0) (pv 2))))))), ?_⟩
    refine ⟨_, rfl, _, _, _, _, true, rfl, .ty "int", .base (.int i), isi_true (by decide +kernel), true, rfl, iteT ?_⟩
    refine ⟨_, rfl, _, _, _, _, false, rfl, .ty "bool", .base (.int i), isi_false (by decide +kernel), false, rfl, true, rfl, iteT ?_⟩
    refine ⟨_, rfl, _, rfl, _, _, rfl, rfl, _, rfl, ?_⟩
    rw [decide_eq_true h1]
    refine iteT ⟨_, rfl, _, _, rfl, rfl, ?_⟩
    show Q (.bl (decide (i ≤ b))) H
    rw [decide_eq_true h2]
    exact q
/-! ### is_item -/
def spIsItem : Sp := fun vs H Q _ => ∃ c : Nat, vs = [sg c] ∧ Lc c ∧ Q (.bl true) H
theorem sc_is_item : FnScope ["thing"] ["thing"] (defScope (top 16)) := ⟨rfl, rfl, rfl, by decide +kernel, rfl, by decide +kernel, by decide +kernel⟩
theorem c_is_item (T : Tx w K mg) : Cal P w K mg base 1 "is_item" spIsItem [] := by
  refine calD T.d_is_item sc_is_item (fun _ _ _ _ _ _ us hl => match us, hl with | [_], _ => rfl) (fun vs H Q E h => ?_) fun f cdv A outer s H vs Q E hr h => ?_
  · obtain ⟨i, rfl, _⟩ := h
    rfl
  · obtain ⟨c, rfl, hc, q⟩ := h
    refine ⟨_, (pss_one (ps_ret (pe_and (pe_callB call_isi rfl T.nIsi b_isinstance (pa_cons (pv 0) (pa_cons (pe_bltn (v := .ty "str") rfl T.nStr b_str rfl) pa_nil))) (pe_and (pe_cmpR op_eq (pe_callB call_len_str rfl T.nLen boot_len (pa_cons (pv 0) pa_nil)) pe_int (nomark _)) (pe_one (pe_cmpR op_in_sign (pv 0) (pe_gc rfl T.ITEMS) rfl)))))), ?_⟩
    refine ⟨_, rfl, _, _, _, _, true, rfl, .ty "str", .base (.str _), isi_true (by decide +kernel), true, rfl, iteT ?_⟩
    refine ⟨_, rfl, _, rfl, small (by show 1 ≤ _; decide), rfl, true, rfl, iteT ?_⟩
    refine ⟨_, rfl, c, _, rfl, rfl, ?_⟩
    have e : decide (c ∈ (Str.cps ("abcd" : Str)).toList) = true := by
      rw [S_al, S_cps]
      exact decide_eq_true hc
    rw [e]
    exact q
/-! ### is_text -/
def spIsText : Sp := fun vs H Q _ => ∃ t : List Nat, vs = [.str (S t)] ∧ (∀ c ∈ t, Lc c) ∧ t.length ≤ 1000 ∧ ∀ H', Same H H' → Q (.bl true) H'
theorem sc_is_text : FnScope ["thing", "letter"] ["thing"] (defScope (top 17)) := ⟨rfl, rfl, rfl, by decide +kernel, rfl, by decide +kernel, by decide +kernel⟩
theorem c_is_text (T : Tx w K mg) : Cal P w K mg base 1 "is_text" spIsText [] := by
  refine calD T.d_is_text sc_is_text (fun _ _ _ _ _ _ us hl => match us, hl with | [_], _ => rfl) (fun vs H Q E h => ?_) fun f cdv A outer s H vs Q E hr h => ?_
  · obtain ⟨i, rfl, _⟩ := h
    rfl
  · obtain ⟨t, rfl, ht, hl, q⟩ := h
    refine ⟨_, (pss_one (ps_ret (pe_and (pe_callB call_isi rfl T.nIsi b_isinstance (pa_cons (pv 0) (pa_cons (pe_bltn (v := .ty "str") rfl T.nStr b_str rfl) pa_nil))) (pe_one (pe_callB (cr_all rfl) rfl T.nAll b_all (pa_cons (pe_lc (own := [("letter", 1)]) (g := gName 1) rfl sc_is_text.nd (pi_str (pv 0)) (blkOk_by (own := [("letter", 1)]) (N := ["thing", "letter"]) (sc := defScope (top 17)) (by decide +kernel)) (fun _ _ _ _ _ => pg_name (i := 1) sc_is_text.nd rfl (Or.inl rfl)) (fun _ _ _ _ _ => pts_nil) (fun _ _ _ _ _ => (pe_cmpR op_in_sign (pv 1) (pe_gc rfl T.ITEMS) rfl))) pa_nil)))))), ?_⟩
    refine ⟨_, rfl, _, _, _, _, true, rfl, .ty "str", .base (.str _), isi_true (by decide +kernel), true, rfl, iteT ?_⟩
    refine ⟨_, rfl, _, rfl, fun D nD => ?_⟩
    refine lc_it (n := t.length) (walk_str (z := S t)) (fun i H' => i ≤ t.length ∧ Same H H' ∧ H' D = some (.lst ((List.replicate i true).map V.bl))) ⟨Nat.zero_le _, same_new nD, upd_same⟩ (fun _ _ _ _ => trivial) ?_ ?_
    · rintro i x H1 H2 hi ⟨hi2, s1, hD⟩ ⟨rfl, c, hc, rfl⟩
      have hm : c ∈ t := List.mem_of_getElem? (by simpa using hc)
      have e : decide (c ∈ (Str.cps ("abcd" : Str)).toList) = true := by
        rw [S_al, S_cps]
        exact decide_eq_true (ht c hm)
      refine ⟨rfl, _, rfl, c, _, rfl, rfl, _, hD, ?_, ?_⟩
      · rw [List.length_map, List.length_replicate]
        exact smallL (by omega)
      · refine ⟨hi, same_upd s1 nD, ?_⟩
        rw [upd_same, e, List.replicate_succ', List.map_append]
        rfl
    · rintro H1 ⟨_, s1, hD⟩
      refine ⟨_, _, rfl, SqL.of hD, ?_⟩
      have e : (List.replicate t.length true).all id = true := by simp
      rw [e]
      exact q _ s1
/-! ### is_selection -/
def spIsSelection : Sp := fun vs H Q _ => ∃ t a : List Nat, vs = [.str (S t), .str (S a)] ∧ Sel t a ∧ a.length ≤ 1000 ∧ ∀ H', Same H H' → Q (.bl true) H'
theorem sc_is_selection : FnScope ["thing", "allowed", "one"] ["thing", "allowed"] (defScope (top 18)) := ⟨rfl, rfl, rfl, by decide +kernel, rfl, by decide +kernel, by decide +kernel⟩
theorem c_is_selection (T : Tx w K mg) : Cal P w K mg base 1 "is_selection" spIsSelection [] := by
  refine calD T.d_is_selection sc_is_selection (fun _ _ _ _ _ _ us hl => match us, hl with | [_, _], _ => rfl) (fun vs H Q E h => ?_) fun f cdv A outer s H vs Q E hr h => ?_
  · obtain ⟨i, _, rfl, _⟩ := h
    rfl
  · obtain ⟨t, a, rfl, ht, hl, q⟩ := h
    refine ⟨_, (pss_one (ps_ret (pe_and (pe_callB call_isi rfl T.nIsi b_isinstance (pa_cons (pv 0) (pa_cons (pe_bltn (v := .ty "str") rfl T.nStr b_str rfl) pa_nil))) (pe_and (pe_cmpR op_ne (pv 0) pe_str (nomark _)) (pe_one (pe_cmpR op_eq (pv 0) (pe_join pe_str (pe_lc (own := [("one", 2)]) (g := gName 2) rfl sc_is_selection.nd (pi_str (pv 1)) (blkOk_by (own := [("one", 2)]) (N := ["thing", "allowed", "one"]) (sc := defScope (top 18)) (by decide +kernel)) (fun _ _ _ _ _ => pg_name (i := 2) sc_is_selection.nd rfl (Or.inl rfl)) (fun _ _ _ _ _ => (pts_one (pt_cmpR op_in_sign (pv 2) (pv 0) rfl))) (fun _ _ _ _ _ => (pv 2)))) (nomark _))))))), ?_⟩
    refine ⟨_, rfl, _, _, _, _, true, rfl, .ty "str", .base (.str _), isi_true (by decide +kernel), true, rfl, iteT ?_⟩
    have ne : decide (V.str (S t) = V.str ("" : Str)) = false := decide_eq_false fun e => S_ne ht.1 (V.str.inj e)
    refine ⟨_, rfl, rfl, true, by rw [ne]; rfl, iteT ?_⟩
    refine ⟨_, rfl, ⟨_, rfl⟩, _, rfl, _, rfl, fun D nD => ?_⟩
    refine lc_it (n := a.length) (walk_str (z := S a)) (fun i H' => i ≤ a.length ∧ Same H H' ∧ H' D = some (.lst ((((a.take i).filter (fun c => decide (c ∈ t))).map fun c => (⟨#[c]⟩ : Str)).map V.str))) ⟨Nat.zero_le _, same_new nD, upd_same⟩ (fun _ _ _ _ => trivial) ?_ ?_
    · rintro i x H1 H2 hi ⟨hi2, s1, hD⟩ ⟨rfl, c, hc, rfl⟩
      have hc' : a[i]? = some c := by simpa using hc
      have tk : a.take (i + 1) = a.take i ++ [c] := by rw [List.take_succ, hc']; rfl
      refine ⟨rfl, _, rfl, _, rfl, c, _, rfl, rfl, _, rfl, ?_⟩
      rw [S_cps]
      by_cases hm : c ∈ t
      · rw [decide_eq_true hm]
        refine ⟨_, rfl, _, hD, ?_, ?_⟩
        · rw [List.length_map, List.length_map]
          have := List.length_filter_le (fun c => decide (c ∈ t)) (a.take i)
          rw [List.length_take] at this
          exact smallL (by omega)
        · refine ⟨hi, same_upd s1 nD, ?_⟩
          rw [upd_same, tk, List.filter_append, List.map_append, List.map_append]
          simp [hm]
      · rw [decide_eq_false hm]
        refine iteF ⟨hi, s1, ?_⟩
        rw [hD, tk, List.filter_append]
        simp [hm]
    · rintro H1 ⟨_, s1, hD⟩
      rw [List.take_length, ht.2] at hD
      refine ⟨_, _, _, rfl, rfl, .inl (SqL.of hD), ?_, rfl, ?_⟩
      · rw [sum_sg]
        have := List.length_filter_le (fun c => decide (c ∈ t)) a
        rw [ht.2] at this
        omega
      · rw [join_sg]
        have e : decide (V.str (S t) = V.str (S t)) = true := decide_eq_true rfl
        rw [e]
        exact q _ s1
end
end Ob
namespace Ob
open PySem PySem.Spec PyProof.Rows L2 StX C8
section
variable {P : Program} {w : World} {K : PySem.W.Frag} {mg : Str → Option Value} {base : Heap}
/-! ### is_edit -/
def spIsEdit : Sp := fun vs H Q _ => ∃ p e, vs = [.ref p] ∧ AtEd H p e ∧ e.ok ∧ Q (.bl true) H
theorem sc_is_edit : FnScope ["thing", "kind"] ["thing"] (defScope (top 19)) := ⟨rfl, rfl, rfl, by decide +kernel, rfl, by decide +kernel, by decide +kernel⟩
theorem ek_mem (e : Ed) : (e.w, e.kd) ∈ ekv := by cases e <;> simp [Ed.w, Ed.kd, ekv]
theorem at0 (e : Ed) : atI e.vs 0 = some (.str e.w) := by cases e <;> rfl
theorem c_is_edit (T : Tx w K mg) : Cal P w K mg base 2 "is_edit" spIsEdit [] := by
  have C_is_item := c_is_item (P := P) (base := base) T
  have C_is_integer := c_is_integer (P := P) (base := base) T
  obtain ⟨d, es, n, gE, D, hv⟩ := T.EK
  refine calD T.d_is_edit sc_is_edit (fun _ _ _ _ _ _ us hl => match us, hl with | [_], _ => rfl) (fun vs H Q E h => ?_) fun f cdv A outer s H vs Q E hr h => ?_
  · obtain ⟨i, _, rfl, _⟩ := h
    rfl
  · obtain ⟨p, e, rfl, hp, hok, q⟩ := h
    obtain ⟨u, hu, ru⟩ := hv _ (ek_mem e)
    have h0 : decide (V.int ((e.vs.length : Nat) : Int) = V.int 0) = false := by cases e <;> rfl
    refine ⟨_, (pss_cons (ps_if (PW.pt (pw_or (pt_not (pt_val (pe_callB call_isi rfl T.nIsi b_isinstance (pa_cons (pv 0) (pa_cons (pe_bltn (v := .ty "tuple") rfl T.nTuple b_tuple rfl) pa_nil))))) (pw_or (pt_cmpR op_eq (pe_callB call_len_seq rfl T.nLen boot_len (pa_cons (pv 0) pa_nil)) pe_int (nomark _)) (pw_or (pt_not (pt_val (pe_callB call_isi rfl T.nIsi b_isinstance (pa_cons (pe_ix ix_tup (pv 0) pe_int (fun _ _ => rfl)) (pa_cons (pe_bltn (v := .ty "str") rfl T.nStr b_str rfl) pa_nil))))) (pw_or1 (pt_cmpR (op_notIn_kd D) (pe_ix ix_tup (pv 0) pe_int (fun _ _ => rfl)) (pe_glob (v := .ref d) rfl gE rfl) rfl)))))) (pss_one (ps_ret pe_bl)) pss_nil)
      (pss_cons (ps_set (i := 1) sc_is_edit.nd rfl (Or.inl rfl) (pe_ix ix_kdict (pe_glob (v := .ref d) rfl gE rfl) (pe_ix ix_tup (pv 0) pe_int (fun _ _ => rfl)) (fun _ _ => rfl)))
      (pss_cons (ps_if (pt_cmpR op_isN (pv 1) pe_non (nomark _)) (pss_one (ps_ret (pe_cmpR op_eq (pe_callB call_len_seq rfl T.nLen boot_len (pa_cons (pv 0) pa_nil)) pe_int (nomark _)))) pss_nil)
      (pss_cons (ps_if (pt_cmpR op_ne (pe_callB call_len_seq rfl T.nLen boot_len (pa_cons (pv 0) pa_nil)) pe_int (nomark _)) (pss_one (ps_ret pe_bl)) pss_nil)
      (pss_one (ps_ret (pe_ifExp (pt_cmpR op_eq (pv 1) pe_str (nomark _)) (pe_c C_is_item hr (by decide) rfl (pa_cons (pe_ix ix_tup (pv 0) pe_int (fun _ _ => rfl)) pa_nil)) (pe_c C_is_integer hr (by decide) rfl (pa_cons (pe_ix ix_tup (pv 0) pe_int (fun _ _ => rfl)) (pa_cons pe_int (pa_cons (pe_op op_sub (pe_gc rfl T.MARKS) pe_int) pa_nil))))))))))), ?_⟩
    refine ⟨_, rfl, _, _, _, _, true, rfl, .ty "tuple", .base (.tup hp), isi_true (by decide +kernel), true, rfl, ?_⟩
    refine ⟨_, rfl, _, _, rfl, .inr (SqT.of hp), rfl, false, congrArg V.bl h0, ?_⟩
    refine ⟨_, rfl, _, _, 0, .str e.w, rfl, rfl, SqT.of hp, at0 e, _, _, _, _, true, rfl, .ty "str", .base (.str _), isi_true (by decide +kernel), true, rfl, ?_⟩
    refine ⟨_, rfl, _, _, 0, .str e.w, rfl, rfl, SqT.of hp, at0 e, e.w, _, rfl, rfl, hu, false, rfl, ?_⟩
    refine ⟨_, rfl, _, _, 0, .str e.w, rfl, rfl, SqT.of hp, at0 e, d, e.w, e.kd, rfl, rfl, ⟨es, n, u, D.at_, D.lit, hu, ru⟩, ?_⟩
    cases e with
    | drop => exact ⟨_, rfl, rfl, true, rfl, _, rfl, _, _, rfl, .inr (SqT.of hp), rfl, q⟩
    | dropN => exact ⟨_, rfl, rfl, true, rfl, _, rfl, _, _, rfl, .inr (SqT.of hp), rfl, q⟩
    | brk => exact ⟨_, rfl, rfl, true, rfl, _, rfl, _, _, rfl, .inr (SqT.of hp), rfl, q⟩
    | put c => exact ⟨_, rfl, rfl, false, rfl, _, rfl, _, _, rfl, .inr (SqT.of hp), rfl, false, rfl, _, rfl, rfl, true, rfl, _, rfl, _, _, 1, sg c, rfl, rfl, SqT.of hp, rfl, c, rfl, hok, q⟩
    | bef c => exact ⟨_, rfl, rfl, false, rfl, _, rfl, _, _, rfl, .inr (SqT.of hp), rfl, false, rfl, _, rfl, rfl, true, rfl, _, rfl, _, _, 1, sg c, rfl, rfl, SqT.of hp, rfl, c, rfl, hok, q⟩
    | aft c => exact ⟨_, rfl, rfl, false, rfl, _, rfl, _, _, rfl, .inr (SqT.of hp), rfl, false, rfl, _, rfl, rfl, true, rfl, _, rfl, _, _, 1, sg c, rfl, rfl, SqT.of hp, rfl, c, rfl, hok, q⟩
    | mark m => exact ⟨_, rfl, rfl, false, rfl, _, rfl, _, _, rfl, .inr (SqT.of hp), rfl, false, rfl, _, rfl, rfl, false, rfl, _, rfl, _, _, 1, .int m, rfl, rfl, SqT.of hp, rfl, 4, 1, rfl, rfl, m, 0, 3, rfl, hok.1, hok.2, q⟩
/-! ### count_words: *words -/
theorem pe_callF {X : Cx} {CX : CXT} {k j : Nat} {f : Addr} {sp : Sp} {E : XK} {x : Str} {e : Expr} {es : List Expr} {t : TA} {p pos : Pos} (F : FnR X.prog X.w X.K X.mg X.base CX k f sp) (hr : Room j X.A) (hj : k ≤ j) (hg : Gl X x) (hm : X.mg x = some (.ref f)) (hk : PySem.W.keepIn X.K (.ref f) = true) (hx : Passes CX X E) (ha : PA X (e :: es) t)
    (hd : (x == ("__debug__" : Str)) = false := by decide) (he : starEach (e :: es) X.env = (false, eval e X.env) :: starEach es X.env := by rfl) (hpl : (backTo pos (starEach es X.env)).any (·.1) = false := by rfl) :
    PE X (.Call (.Name x p) (e :: es) [] pos) (fun σ H Q => t σ H fun vs H1 => sp vs H1 Q E) := by
  refine ⟨fun pins s σ H Q I h => ?_⟩
  refine wpAny_Call_Name_kw (ld_glob I hg hm ?_ hd)
  refine PySem.W.callWith_K (h₀ := X.base) I.ok.mod.kin hk (thn (ha.run pos pins s σ H _ I h) fun us s1 ⟨vs, H1, I1, r, q⟩ => ⟨I1.kIn, ?_⟩) he hpl
  exact wpAny_call (run_fnR F (hr.mono hj) hx I1 r q)
def spCountWords : Sp := fun vs H Q _ => ∃ p es ws, vs = .ref p :: ws ∧ AtEds H p es ∧ es.length ≤ 1000 ∧ ws.length ≤ 100 ∧ ws.all flatV = true ∧ ∀ H', Same H H' → Q (.int ((es.countP fun e => inV (.str e.w) ws : Nat) : Int)) H'
theorem sc_count_words : FnScope ["edits", "words", "edit"] ["edits", "words"] (defScope (top 20)) := ⟨rfl, rfl, rfl, by decide +kernel, rfl, by decide +kernel, by decide +kernel⟩
theorem c_count_words (T : Tx w K mg) : ∃ f, FnR P w K mg base L2.CX0 1 f spCountWords ∧ mg "count_words" = some (.ref f) ∧ PySem.W.keepIn K (.ref f) = true := by
  obtain ⟨f, fd, F, hm⟩ := T.d_count_words
  obtain ⟨oc, od, dV, kV, doc, pm, an, cdv, ct, osl, rfl, lk, hcd, hD, _⟩ := F.ex
  have eD : dV = .none := by
    rcases hD with ⟨_, z⟩ | ⟨z, _⟩
    · exact z
    · exact absurd rfl z
  subst eD
  refine ⟨f, ?_, hm, F.kp⟩
  have G := fn_star (P := P) (w := w) (mg := mg) (base := base) (CX := L2.CX0) (k := 0) (N := ["edits", "words", "edit"]) (ps := ["edits"]) (pv := "words") (sp := fun vs H Q _ => ∃ p q es ws, vs = [.ref p, .ref q] ∧ H q = some (.tup ws) ∧ AtEds H p es ∧ es.length ≤ 1000 ∧ ws.all flatV = true ∧ ∀ H', Same H H' → Q (.int ((es.countP fun e => inV (.str e.w) ws : Nat) : Int)) H')
    lk hcd sc_count_words cxUp_none (bind_star1 (B := fun us => bindArgs (PySem.W.fnOf "count_words" "count_words" (defArgs (top 20)) (defBody (top 20)) (defScope (top 20)) .none kV doc pm an cdv ct) ⟨us, []⟩) (p1 := "edits") (pv := "words") (fun a => rfl) (fun a r rs => rfl)) fun A outer s H vs Q E hr h => ?_
  · intro A outer s H us vs Q E hr e0 r h
    refine G A outer s H us vs Q E hr e0 r ?_
    obtain ⟨p, es, ws, rfl, hp, hl, hl2, hf, q⟩ := h
    refine ⟨[.ref p], ws, rfl, rfl, small (by omega), fun t nt => ⟨p, t, es, ws, rfl, upd_same, hp.ts (TS.new nt), hl, hf, fun H' s1 => q H' ((same_new nt).trans s1)⟩⟩
  · obtain ⟨p, q, es, ws, rfl, hq, hp, hl, hf, qq⟩ := h
    obtain ⟨ps, hp1, hp2⟩ := hp
    have hpl : ps.length = es.length := Paired.len hp2
    refine ⟨_, (pss_one (ps_ret (pe_callB call_len_seq rfl T.nLen boot_len (pa_cons (pe_lc (own := [("edit", 2)]) (g := gName 2) rfl sc_count_words.nd (pi_tup (pv 0)) (blkOk_by (own := [("edit", 2)]) (N := ["edits", "words", "edit"]) (sc := defScope (top 20)) (by decide +kernel)) (fun _ _ _ _ _ => pg_name (i := 2) sc_count_words.nd rfl (Or.inl rfl)) (fun _ _ _ _ _ => (pts_one (pt_cmpR (r := rIn K false) op_in_seq (pe_ix (r := rIxT K) ix_tup (pv 2) pe_int (fun _ _ => rfl)) (pv 1) rfl))) (fun _ _ _ _ _ => (pv 2))) pa_nil)))), ?_⟩
    refine ⟨_, rfl, p, rfl, ⟨_, SqT.of hp1⟩, fun D nD => ?_⟩
    refine lc_it (n := (ps.map V.ref).length) walk_tup (fun i H' => i ≤ (ps.map V.ref).length ∧ Same H H' ∧ ∃ ys : List V, H' D = some (.lst ys) ∧ ys.length = (es.take i).countP fun e => inV (.str e.w) ws) ⟨Nat.zero_le _, same_new nD, [], upd_same, by simp⟩ (fun i H' _ z => SqT.of (z.2.1 _ _ hp1)) ?_ ?_
    · rintro i x H1 H2 hi ⟨hi2, s1, ys, hD, hy⟩ ⟨rfl, hx⟩
      obtain ⟨a, ha, rfl⟩ := ref_at hx
      obtain ⟨e, he, hae⟩ := Paired.at hp2 ha
      rw [List.length_map] at hi
      have hae2 : H2 a = some (.tup e.vs) := s1 _ _ hae
      refine ⟨rfl, _, rfl, _, _, 0, .str e.w, rfl, rfl, SqT.of hae2, at0 e, _, rfl, _, _, rfl, .inr (SqT.of (s1 _ _ hq)), rfl, hf, _, rfl, ?_⟩
      show if inV (.str e.w) ws = true then _ else _
      have tk := take_more he
      by_cases hb : inV (.str e.w) ws = true
      · rw [if_pos hb]
        refine ⟨_, rfl, ys, hD, ?_, by rw [List.length_map]; exact hi, same_upd s1 nD, _, upd_same, ?_⟩
        · rw [hy]
          exact smallL (Nat.lt_of_le_of_lt List.countP_le_length (by rw [List.length_take]; omega))
        · rw [List.length_append, tk, List.countP_append, hy, List.countP_singleton, if_pos hb]
          rfl
      · rw [if_neg hb]
        refine ⟨by rw [List.length_map]; exact hi, s1, ys, hD, ?_⟩
        rw [tk, List.countP_append, hy, List.countP_singleton, if_neg hb, Nat.add_zero]
    · rintro H1 ⟨_, s1, ys, hD, hy⟩
      refine ⟨_, _, rfl, .inl (SqL.of hD), ?_⟩
      rw [List.length_map, hpl, List.take_length] at hy
      show Q (.int ((ys.length : Nat) : Int)) H1
      rw [hy]
      exact qq _ s1
end
end Ob
namespace Ob
open PySem PySem.Spec PyProof.Rows L2 StX C8
theorem iteFd {c A B : Prop} [Decidable c] (h : ¬ c) (b : B) : if decide c = true then A else B := by
  rw [decide_eq_false h]
  exact b
theorem iteTd {c A B : Prop} [Decidable c] (h : c) (a : A) : if decide c = true then A else B := by
  rw [decide_eq_true h]
  exact a
theorem cut_to {xs : List V} {i : Nat} (h : i ≤ xs.length) : cutV xs none (some (i : Int)) = xs.take i := by
  unfold cutV
  rw [HT.sIx_none, HT.sIx_nat, List.drop_zero, Nat.sub_zero, Nat.min_eq_left h]
/-! ### the words of the edits -/
theorem w_brk (es : List Ed) : (es.countP fun e => inV (.str e.w) [.str "break"]) = es.countP Ed.isBrk := by
  congr 1
  funext e
  cases e <;> simp only [Ed.w, Ed.isBrk] <;> decide +kernel
theorem w_ins (es : List Ed) : (es.countP fun e => inV (.str e.w) [.str "before", .str "after"]) = es.countP Ed.isIns := by
  congr 1
  funext e
  cases e <;> simp only [Ed.w, Ed.isIns] <;> decide +kernel
theorem w_del (es : List Ed) : (es.countP fun e => inV (.str e.w) [.str "drop", .str "drop_next"]) = es.countP Ed.isDel := by
  congr 1
  funext e
  cases e <;> simp only [Ed.w, Ed.isDel] <;> decide +kernel
section
variable {P : Program} {w : World} {K : PySem.W.Frag} {mg : Str → Option Value} {base : Heap}
/-! ### may_follow -/
def spMayFollow : Sp := fun vs H Q _ => ∃ p q es e, vs = [.ref p, .ref q] ∧ AtEds H p es ∧ AtEd H q e ∧ es.length < 4 ∧ es.countP Ed.isBrk = 0 ∧ (es ++ [e]).countP Ed.isIns ≤ 1 ∧ (es ++ [e]).countP Ed.isDel ≤ 2 ∧ ∀ H', Same H H' → Q (.bl true) H'
theorem sc_may_follow : FnScope ["edits", "edit", "together"] ["edits", "edit"] (defScope (top 21)) := ⟨rfl, rfl, rfl, by decide +kernel, rfl, by decide +kernel, by decide +kernel⟩
theorem c_may_follow (T : Tx w K mg) : Cal P w K mg base 2 "may_follow" spMayFollow [] := by
  obtain ⟨g, F, gF, kF⟩ := c_count_words (P := P) (base := base) T
  refine calD T.d_may_follow sc_may_follow (fun _ _ _ _ _ _ us hl => match us, hl with | [_, _], _ => rfl) (fun vs H Q E h => ?_) fun f cdv A outer s H vs Q E hr h => ?_
  · obtain ⟨p, q, es, e, rfl, _⟩ := h
    rfl
  · obtain ⟨p, q, es, e, rfl, hp, hq, hl, hb, hi, hd, k⟩ := h
    obtain ⟨ps, hp1, hp2⟩ := id hp
    have pl : ps.length = es.length := Paired.len hp2
    have tl : ((ps ++ [q]).map V.ref).length = es.length + 1 := by rw [List.length_map, List.length_append, pl]; rfl
    refine ⟨_, (pss_cons (ps_set (i := 2) sc_may_follow.nd rfl (Or.inl rfl) (pe_tup (pa_star (pv 0) (pa_cons (pv 1) pa_nil))))
      (pss_cons (ps_if (PW.pt (pw_or (pt_cmpR op_gt (pe_callB call_len_seq rfl T.nLen boot_len (pa_cons (pv 2) pa_nil)) (pe_gc rfl T.MOST_EDITS) (nomark _)) (pw_or1 (pt_cmpR op_gt (pe_callF F hr (by decide) rfl gF kF L2.pass0 (pa_cons (pv 0) (pa_cons pe_str pa_nil))) pe_int (nomark _))))) (pss_one (ps_ret pe_bl)) pss_nil)
      (pss_cons (ps_if (pt_cmpR op_gt (pe_callF F hr (by decide) rfl gF kF L2.pass0 (pa_cons (pv 2) (pa_cons pe_str (pa_cons pe_str pa_nil)))) pe_int (nomark _)) (pss_one (ps_ret pe_bl)) pss_nil)
      (pss_one (ps_ret (pe_cmpR op_le (pe_callF F hr (by decide) rfl gF kF L2.pass0 (pa_cons (pv 2) (pa_cons pe_str (pa_cons pe_str pa_nil)))) (pe_gc rfl T.MOST_DELETIONS) (nomark _))))))), ?_⟩
    refine ⟨_, rfl, p, _, rfl, .inl (SqT.of hp1), _, rfl, ?_⟩
    show (ps.map V.ref ++ [V.ref q]).length ≤ sizeLine ∧ ∀ t, H t = none → _
    have em : ps.map V.ref ++ [V.ref q] = (ps ++ [q]).map V.ref := by rw [List.map_append]; rfl
    rw [em]
    refine ⟨small (by omega), fun t nt => ?_⟩
    have s1 : Same H (upd H t (.tup ((ps ++ [q]).map V.ref))) := same_new nt
    have ht : AtEds (upd H t (.tup ((ps ++ [q]).map V.ref))) t (es ++ [e]) := ⟨ps ++ [q], upd_same, Paired.snoc (hq.ts (TS.of s1)) (Paired.mapP hp2 fun _ _ z => z.ts (TS.of s1))⟩
    generalize upd H t (.tup ((ps ++ [q]).map V.ref)) = H1 at s1 ht
    obtain ⟨qs, ht1, ht2⟩ := id ht
    have ql : qs.length = es.length + 1 := by rw [Paired.len ht2, List.length_append]; rfl
    refine ⟨_, rfl, _, _, rfl, .inr (SqT.of ht1), _, _, rfl, rfl, _, rfl, ?_⟩
    refine iteFd (by rw [List.length_map]; omega) ?_
    refine ⟨_, rfl, p, es, _, rfl, hp.ts (TS.of s1), by omega, by decide, rfl, fun H2 s2 => ?_⟩
    refine ⟨_, _, rfl, rfl, _, rfl, ?_⟩
    refine iteFd (by show ¬ ((0 : Int) < ((es.countP fun e => inV (.str e.w) [.str "break"] : Nat) : Int)); rw [w_brk, hb]; decide) ?_
    refine ⟨_, rfl, t, es ++ [e], _, rfl, ht.ts (TS.of s2), by rw [List.length_append]; show es.length + 1 ≤ 1000; omega, by decide, rfl, fun H3 s3 => ?_⟩
    refine ⟨_, _, rfl, rfl, _, rfl, ?_⟩
    refine iteFd (by show ¬ ((1 : Int) < (((es ++ [e]).countP fun e => inV (.str e.w) [.str "before", .str "after"] : Nat) : Int)); rw [w_ins]; omega) ?_
    refine ⟨_, rfl, t, es ++ [e], _, rfl, ht.ts (TS.of (s2.trans s3)), by rw [List.length_append]; show es.length + 1 ≤ 1000; omega, by decide, rfl, fun H4 s4 => ?_⟩
    refine ⟨_, _, rfl, rfl, ?_⟩
    show Q (.bl (decide ((((es ++ [e]).countP fun e => inV (.str e.w) [.str "drop", .str "drop_next"] : Nat) : Int) ≤ 2))) H4
    rw [w_del, decide_eq_true (show (((es ++ [e]).countP Ed.isDel : Nat) : Int) ≤ 2 by omega)]
    exact k _ (s1.trans (s2.trans (s3.trans s4)))
/-! ### are_edits -/
def spAreEdits : Sp := fun vs H Q _ => ∃ p es, vs = [.ref p] ∧ AtEds H p es ∧ EdsOk es ∧ ∀ H', Same H H' → Q (.bl true) H'
theorem sc_are_edits : FnScope ["thing", "place", "edit"] ["thing"] (defScope (top 22)) := ⟨rfl, rfl, rfl, by decide +kernel, rfl, by decide +kernel, by decide +kernel⟩
theorem edsOk_at {es : List Ed} (h : EdsOk es) {i : Nat} {e : Ed} (he : es[i]? = some e) : (es.take i).length < 4 ∧ (es.take i).countP Ed.isBrk = 0 ∧ (es.take i ++ [e]).countP Ed.isIns ≤ 1 ∧ (es.take i ++ [e]).countP Ed.isDel ≤ 2 ∧ e.ok := by
  have hi : i < es.length := (List.getElem?_eq_some_iff.mp he).1
  have h4 := h.len
  rw [← take_more he]
  refine ⟨by rw [List.length_take]; omega, ?_, Nat.le_trans ((List.take_sublist _ _).countP_le) h.ins, Nat.le_trans ((List.take_sublist _ _).countP_le) h.del, h.ok e (List.mem_of_getElem? he)⟩
  rw [List.countP_eq_zero]
  intro a ha
  have : a ∈ es.dropLast := by
    rw [List.dropLast_eq_take]
    exact (List.take_subset_take_left es (by omega : i ≤ es.length - 1)) ha
  rw [h.brk a this]
  decide
theorem c_are_edits (T : Tx w K mg) : Cal P w K mg base 3 "are_edits" spAreEdits [] := by
  have C_is_edit := c_is_edit (P := P) (base := base) T
  have C_may_follow := c_may_follow (P := P) (base := base) T
  refine calD T.d_are_edits sc_are_edits (fun _ _ _ _ _ _ us hl => match us, hl with | [_], _ => rfl) (fun vs H Q E h => ?_) fun f cdv A outer s H vs Q E hr h => ?_
  · obtain ⟨p, es, rfl, _⟩ := h
    rfl
  · obtain ⟨p, es, rfl, hp, ok, k⟩ := h
    obtain ⟨ps, hp1, hp2⟩ := id hp
    have pl : ps.length = es.length := Paired.len hp2
    refine ⟨_, (pss_cons (ps_if (pt_not (pt_val (pe_callB call_isi rfl T.nIsi b_isinstance (pa_cons (pv 0) (pa_cons (pe_bltn (v := .ty "tuple") rfl T.nTuple b_tuple rfl) pa_nil))))) (pss_one (ps_ret pe_bl)) pss_nil)
      (pss_cons (ps_for PassesOwn.never rfl (pi_enumT rfl T.nEnum (pa_cons (pv 0) pa_nil)) (pg_tup rfl (pgs_cons (pg_name (i := 1) sc_are_edits.nd rfl (Or.inl rfl)) (pgs_cons (pg_name (i := 2) sc_are_edits.nd rfl (Or.inl rfl)) pgs_nil))) (pss_one (ps_if (PW.pt (pw_or (pt_not (pt_val (pe_c C_is_edit hr (by decide) rfl (pa_cons (pv 2) pa_nil)))) (pw_or1 (pt_not (pt_val (pe_c C_may_follow hr (by decide) rfl (pa_cons (pe_slice sl_tup (pv 0) po_none (po_some (pv 1))) (pa_cons (pv 2) pa_nil)))))))) (pss_one (ps_ret pe_bl)) pss_nil)))
      (pss_one (ps_ret pe_bl)))), ?_⟩
    refine ⟨_, rfl, _, _, _, _, true, rfl, .ty "tuple", .base (.tup hp1), isi_true (by decide +kernel), true, rfl, ?_⟩
    refine ⟨_, rfl, p, _, rfl, SqT.of hp1, ?_⟩
    refine for_it (n := (ps.map V.ref).length) walk_enumT (fun i σ H' => (∃ v1 v2, σ = [some (.ref p), v1, v2]) ∧ Same H H') ⟨⟨none, none, rfl⟩, Same.refl _⟩ (fun i σ H' _ z => SqT.of (z.2 _ _ hp1)) ?_ ?_
    · rintro i x σ H1 H2 hi ⟨⟨v1, v2, rfl⟩, s1⟩ ⟨t, x1, y, rfl, nt, rfl, hx, hy⟩
      cases hx
      obtain ⟨a, ha, rfl⟩ := ref_at hy
      obtain ⟨e, he, hae⟩ := Paired.at hp2 ha
      rw [List.length_map] at hi
      obtain ⟨k1, k2, k3, k4, k5⟩ := edsOk_at ok he
      have s2 : Same H (upd H1 t (.tup [.int (i : Nat), .ref a])) := same_new' s1 nt
      generalize hH2 : upd H1 t (.tup [.int (i : Nat), .ref a]) = H2 at s2
      have ht : H2 t = some (.tup [.int (i : Nat), .ref a]) := by rw [← hH2]; exact upd_same
      refine ⟨_, _, rfl, SqT.of ht, rfl, _, _, rfl, _, _, rfl, rfl, ?_⟩
      refine ⟨_, rfl, a, e, rfl, s2 _ _ hae, k5, true, rfl, ?_⟩
      refine ⟨_, rfl, _, rfl, _, rfl, p, _, rfl, SqT.of (s2 _ _ hp1), ?_, fun u nu => ?_⟩
      · rintro ⟨_, z⟩
        rw [HT.sIx_nat, List.length_map, Nat.min_eq_left (by omega)] at z
        omega
      · rw [cut_to (by rw [List.length_map]; omega), ← List.map_take] at *
        have s3 : Same H (upd H2 u (.tup ((ps.take i).map V.ref))) := same_new' s2 nu
        refine ⟨_, rfl, u, a, es.take i, e, rfl, ⟨ps.take i, upd_same, Paired.mapP (Paired.tk i hp2) fun _ _ z => z.ts (TS.of s3)⟩, s3 _ _ hae, k1, k2, k3, k4, fun H3 s4 => ?_⟩
        exact ⟨true, rfl, ⟨_, _, rfl⟩, s3.trans s4⟩
    · rintro σ H1 ⟨⟨v1, v2, rfl⟩, s1⟩
      exact k _ s1
end
end Ob
namespace Ob
open PySem PySem.Spec PyProof.Rows L2 StX C8
section
variable {P : Program} {w : World} {K : PySem.W.Frag} {mg : Str → Option Value} {base : Heap}
/-! ### is_rule -/
def spIsRule : Sp := fun vs H Q _ => ∃ p r, vs = [.ref p] ∧ AtRu H p r ∧ r.ok ∧ ∀ H', Same H H' → Q (.bl true) H'
theorem sc_is_rule : FnScope ["thing", "mark", "items", "following", "edits"] ["thing"] (defScope (top 23)) := ⟨rfl, rfl, rfl, by decide +kernel, rfl, by decide +kernel, by decide +kernel⟩
theorem c_is_rule (T : Tx w K mg) : Cal P w K mg base 4 "is_rule" spIsRule [] := by
  have C_is_integer := c_is_integer (P := P) (base := base) T
  have C_is_selection := c_is_selection (P := P) (base := base) T
  have C_are_edits := c_are_edits (P := P) (base := base) T
  refine calD T.d_is_rule sc_is_rule (fun _ _ _ _ _ _ us hl => match us, hl with | [_], _ => rfl) (fun vs H Q E h => ?_) fun f cdv A outer s H vs Q E hr h => ?_
  · obtain ⟨p, r, rfl, _⟩ := h
    rfl
  · obtain ⟨p, r, rfl, hp, ok, k⟩ := h
    obtain ⟨q, hp1, hp2⟩ := id hp
    refine ⟨_, (pss_cons (ps_if (PW.pt (pw_or (pt_not (pt_val (pe_callB call_isi rfl T.nIsi b_isinstance (pa_cons (pv 0) (pa_cons (pe_bltn (v := .ty "tuple") rfl T.nTuple b_tuple rfl) pa_nil))))) (pw_or1 (pt_cmpR op_ne (pe_callB call_len_seq rfl T.nLen boot_len (pa_cons (pv 0) pa_nil)) pe_int (nomark _))))) (pss_one (ps_ret pe_bl)) pss_nil)
      (pss_cons (ps_asg (pv 0) (pg_tup rfl (pgs_cons (pg_name (i := 1) sc_is_rule.nd rfl (Or.inl rfl)) (pgs_cons (pg_name (i := 2) sc_is_rule.nd rfl (Or.inl rfl)) (pgs_cons (pg_name (i := 3) sc_is_rule.nd rfl (Or.inl rfl)) (pgs_cons (pg_name (i := 4) sc_is_rule.nd rfl (Or.inl rfl)) pgs_nil))))))
      (pss_cons (ps_if (PW.pt (pw_and (pt_cmpR op_notN (pv 1) pe_non (nomark _)) (pw_and1 (pt_not (pt_val (pe_c C_is_integer hr (by decide) rfl (pa_cons (pv 1) (pa_cons pe_int (pa_cons (pe_op op_sub (pe_gc rfl T.MARKS) pe_int) pa_nil))))))))) (pss_one (ps_ret pe_bl)) pss_nil)
      (pss_one (ps_ret (pe_and (pe_c C_is_selection hr (by decide) rfl (pa_cons (pv 2) (pa_cons (pe_gc rfl T.ITEMS) pa_nil))) (pe_and (pe_c C_is_selection hr (by decide) rfl (pa_cons (pv 3) (pa_cons (pe_op op_add_str (pe_gc rfl T.ITEMS) (pe_gc rfl T.END)) pa_nil))) (pe_one (pe_c C_are_edits hr (by decide) rfl (pa_cons (pv 4) pa_nil)))))))))), ?_⟩
    refine ⟨_, rfl, _, _, _, _, true, rfl, .ty "tuple", .base (.tup hp1), isi_true (by decide +kernel), true, rfl, ?_⟩
    refine ⟨_, rfl, _, _, rfl, .inr (SqT.of hp1), rfl, false, rfl, ?_⟩
    refine ⟨_, rfl, p, _, rfl, SqT.of hp1, rfl, _, _, rfl, _, _, rfl, _, _, rfl, _, _, rfl, rfl, ?_⟩
    have rest : ∀ H1, Same H H1 → (∀ vs, vs = [some (.ref p), some (mkV r.mark), some (.str (S r.items)), some (.str (S r.fol)), some (.ref q)] → (tRet (tAndV (tCall spIsSelection [] C8.E0 (tCons (tVar 2) (tCons (tC (.str "abcd")) tNil))) (tAndV (tCall spIsSelection [] C8.E0 (tCons (tVar 3) (tCons (tOp (fun x y H Q => ∃ i j, x = .str i ∧ y = .str j ∧ i.length + j.length ≤ sizeLine ∧ Q (.str (i ++ j)) H) (tC (.str "abcd")) (tC (.str "$"))) tNil))) (tCall spAreEdits [] C8.E0 (tCons (tVar 4) tNil))) : TE)) { nx := fun _ H' => Q .non H', rt := Q } vs H1) := by
      rintro H1 s1 vs rfl
      refine ⟨_, rfl, r.items, al, by rw [S_al]; rfl, ok.items, by decide, fun H2 s2 => ⟨true, rfl, ?_⟩⟩
      refine ⟨_, rfl, _, _, rfl, rfl, small (by decide +kernel), r.fol, alE, by rw [S_alE]; rfl, ok.fol, by decide, fun H3 s3 => ⟨true, rfl, ?_⟩⟩
      have s4 := s1.trans (s2.trans s3)
      exact ⟨_, rfl, q, r.eds, rfl, hp2.ts (TS.of s4), ok.eds, fun H4 s5 => k _ (s4.trans s5)⟩
    cases em : r.mark with
    | none =>
      rw [em] at rest
      exact ⟨_, rfl, rfl, false, rfl, rest H (Same.refl _) _ rfl⟩
    | some m =>
      rw [em] at rest
      obtain ⟨m0, m3⟩ := ok.mark m em
      exact ⟨_, rfl, rfl, true, rfl, _, rfl, 4, 1, rfl, rfl, m, 0, 3, rfl, m0, m3, true, rfl, rest H (Same.refl _) _ rfl⟩
/-! ### is_loop -/
def spIsLoop : Sp := fun vs H Q _ => ∃ p l, vs = [.ref p] ∧ AtLo H p l ∧ l.ok ∧ ∀ H', Same H H' → Q (.bl true) H'
theorem sc_is_loop : FnScope ["thing", "rules", "ends", "rule", "end"] ["thing"] (defScope (top 24)) := ⟨rfl, rfl, rfl, by decide +kernel, rfl, by decide +kernel, by decide +kernel⟩
theorem c_is_loop (T : Tx w K mg) : Cal P w K mg base 5 "is_loop" spIsLoop [] := by
  have C_is_rule := c_is_rule (P := P) (base := base) T
  have C_is_text := c_is_text (P := P) (base := base) T
  refine calD T.d_is_loop sc_is_loop (fun _ _ _ _ _ _ us hl => match us, hl with | [_], _ => rfl) (fun vs H Q E h => ?_) fun f cdv A outer s H vs Q E hr h => ?_
  · obtain ⟨p, r, rfl, _⟩ := h
    rfl
  · obtain ⟨p, l, rfl, hp, ok, k⟩ := h
    obtain ⟨q1, q2, hp1, hr0, he0⟩ := id hp
    obtain ⟨ps, hr1, hr2⟩ := id hr0
    have pl : ps.length = l.rules.length := Paired.len hr2
    have l12 := ok.len
    refine ⟨_, (pss_cons (ps_if (PW.pt (pw_or (pt_not (pt_val (pe_callB call_isi rfl T.nIsi b_isinstance (pa_cons (pv 0) (pa_cons (pe_bltn (v := .ty "tuple") rfl T.nTuple b_tuple rfl) pa_nil))))) (pw_or1 (pt_cmpR op_ne (pe_callB call_len_seq rfl T.nLen boot_len (pa_cons (pv 0) pa_nil)) pe_int (nomark _))))) (pss_one (ps_ret pe_bl)) pss_nil)
      (pss_cons (ps_asg (pv 0) (pg_tup rfl (pgs_cons (pg_name (i := 1) sc_is_loop.nd rfl (Or.inl rfl)) (pgs_cons (pg_name (i := 2) sc_is_loop.nd rfl (Or.inl rfl)) pgs_nil))))
      (pss_cons (ps_if (PW.pt (pw_or (pt_not (pt_val (pe_callB call_isi rfl T.nIsi b_isinstance (pa_cons (pv 1) (pa_cons (pe_bltn (v := .ty "tuple") rfl T.nTuple b_tuple rfl) pa_nil))))) (pw_or (pt_cmpR op_gt (pe_callB call_len_seq rfl T.nLen boot_len (pa_cons (pv 1) pa_nil)) (pe_gc rfl T.MOST_RULES) (nomark _)) (pw_or1 (pt_not (pt_val (pe_callB (cr_all rfl) rfl T.nAll b_all (pa_cons (pe_lc (own := [("rule", 3)]) (g := gName 3) rfl sc_is_loop.nd (pi_tup (pv 1)) (blkOk_by (own := [("rule", 3)]) (N := ["thing", "rules", "ends", "rule", "end"]) (sc := defScope (top 24)) (by decide +kernel)) (fun _ _ _ _ _ => pg_name (i := 3) sc_is_loop.nd rfl (Or.inl rfl)) (fun _ _ _ _ _ => pts_nil) (fun _ _ _ _ _ => (pe_c C_is_rule hr (by decide) rfl (pa_cons (pv 3) pa_nil)))) pa_nil)))))))) (pss_one (ps_ret pe_bl)) pss_nil)
      (pss_cons (ps_if (PW.pt (pw_or (pt_not (pt_val (pe_callB call_isi rfl T.nIsi b_isinstance (pa_cons (pv 2) (pa_cons (pe_bltn (v := .ty "tuple") rfl T.nTuple b_tuple rfl) pa_nil))))) (pw_or1 (pt_cmpR op_ne (pe_callB call_len_seq rfl T.nLen boot_len (pa_cons (pv 2) pa_nil)) (pe_gc rfl T.MARKS) (nomark _))))) (pss_one (ps_ret pe_bl)) pss_nil)
      (pss_one (ps_ret (pe_callB (cr_all rfl) rfl T.nAll b_all (pa_cons (pe_lc (own := [("end", 4)]) (g := gName 4) rfl sc_is_loop.nd (pi_tup (pv 2)) (blkOk_by (own := [("end", 4)]) (N := ["thing", "rules", "ends", "rule", "end"]) (sc := defScope (top 24)) (by decide +kernel)) (fun _ _ _ _ _ => pg_name (i := 4) sc_is_loop.nd rfl (Or.inl rfl)) (fun _ _ _ _ _ => pts_nil) (fun _ _ _ _ _ => (pe_and (pe_c C_is_text hr (by decide) rfl (pa_cons (pv 4) pa_nil)) (pe_one (pe_cmpR op_le (pe_callB call_len_str rfl T.nLen boot_len (pa_cons (pv 4) pa_nil)) (pe_gc rfl T.LONGEST_END) (nomark _)))))) pa_nil)))))))), ?_⟩
    refine ⟨_, rfl, _, _, _, _, true, rfl, .ty "tuple", .base (.tup hp1), isi_true (by decide +kernel), true, rfl, ?_⟩
    refine ⟨_, rfl, _, _, rfl, .inr (SqT.of hp1), rfl, false, rfl, ?_⟩
    refine ⟨_, rfl, p, _, rfl, SqT.of hp1, rfl, _, _, rfl, _, _, rfl, rfl, ?_⟩
    refine ⟨_, rfl, _, _, _, _, true, rfl, .ty "tuple", .base (.tup hr1), isi_true (by decide +kernel), true, rfl, ?_⟩
    refine ⟨_, rfl, _, _, rfl, .inr (SqT.of hr1), _, _, rfl, rfl, _, rfl, iteFd (by rw [List.length_map]; omega) ?_⟩
    refine ⟨_, rfl, q1, rfl, ⟨_, SqT.of hr1⟩, fun D nD => ?_⟩
    refine lc_it (n := (ps.map V.ref).length) walk_tup (fun i H' => i ≤ (ps.map V.ref).length ∧ Same H H' ∧ H' D = some (.lst ((List.replicate i true).map V.bl))) ⟨Nat.zero_le _, same_new nD, upd_same⟩ (fun i H' _ z => SqT.of (z.2.1 _ _ hr1)) ?_ ?_
    · rintro i x H1 H2 hi ⟨hi2, s1, hD⟩ ⟨rfl, hx⟩
      obtain ⟨a, ha, rfl⟩ := ref_at hx
      obtain ⟨r, hra, har⟩ := Paired.at hr2 ha
      rw [List.length_map] at hi hi2
      refine ⟨rfl, _, rfl, a, r, rfl, har.ts (TS.of s1), ok.rules r (List.mem_of_getElem? hra), fun H3 s3 => ?_⟩
      refine ⟨_, s3 _ _ hD, by rw [List.length_map, List.length_replicate]; exact smallL (by omega), by rw [List.length_map]; exact hi, same_upd (s1.trans s3) nD, ?_⟩
      rw [upd_same, List.replicate_succ', List.map_append]
      rfl
    · rintro H1 ⟨_, s1, hD⟩
      have e : (List.replicate (ps.map V.ref).length true).all id = true := by simp
      refine ⟨_, _, rfl, SqL.of hD, true, congrArg V.bl e, ?_⟩
      refine ⟨_, rfl, _, _, _, _, true, rfl, .ty "tuple", .base (.tup (s1 _ _ he0)), isi_true (by decide +kernel), true, rfl, ?_⟩
      refine ⟨_, rfl, _, _, rfl, .inr (SqT.of (s1 _ _ he0)), rfl, false, ?_, ?_⟩
      · rw [List.length_map, ok.el]; rfl
      refine ⟨_, rfl, q2, rfl, ⟨_, SqT.of (s1 _ _ he0)⟩, fun D2 nD2 => ?_⟩
      have nD2' : H D2 = none := s1.free nD2
      refine lc_it (n := (l.ends.map fun t => V.str (S t)).length) walk_tup (fun i H' => i ≤ (l.ends.map fun t => V.str (S t)).length ∧ Same H H' ∧ H' D2 = some (.lst ((List.replicate i true).map V.bl))) ⟨Nat.zero_le _, same_new' s1 nD2, upd_same⟩ (fun i H' _ z => SqT.of (z.2.1 _ _ he0)) ?_ ?_
      · rintro i x H2 H3 hi ⟨hi2, s2, hD3⟩ ⟨rfl, hx⟩
        obtain ⟨t, ht, rfl⟩ : ∃ t, l.ends[i]? = some t ∧ x = V.str (S t) := by
          rw [List.getElem?_map] at hx
          cases e : l.ends[i]? with
          | none => rw [e] at hx; cases hx
          | some t => rw [e] at hx; exact ⟨t, rfl, (Option.some.inj hx).symm⟩
        obtain ⟨t1, t2⟩ := ok.ends t (List.mem_of_getElem? ht)
        have el4 := ok.el
        rw [List.length_map] at hi hi2
        refine ⟨rfl, _, rfl, t, rfl, t1, by omega, fun H4 s4 => ?_⟩
        refine ⟨true, rfl, _, rfl, _, rfl, small (by rw [S_len]; omega), _, _, rfl, rfl, ?_⟩
        refine ⟨_, s4 _ _ hD3, by rw [List.length_map, List.length_replicate]; exact smallL (by omega), by rw [List.length_map]; exact hi, same_upd (s2.trans s4) nD2', ?_⟩
        have e2 : decide (((S t).length : Int) ≤ 4) = true := decide_eq_true (by rw [S_len]; omega)
        rw [upd_same, List.replicate_succ', List.map_append]
        show some (HO.lst (_ ++ [V.bl (decide (((S t).length : Int) ≤ 4))])) = _
        rw [e2]
        rfl
      · rintro H2 ⟨_, s2, hD3⟩
        have e : (List.replicate (l.ends.map fun t => V.str (S t)).length true).all id = true := by simp
        refine ⟨_, _, rfl, SqL.of hD3, ?_⟩
        rw [e]
        exact k _ s2
/-! ### is_program -/
def spIsProgram : Sp := fun vs H Q _ => ∃ p ls, vs = [.ref p] ∧ AtLos H p ls ∧ ls.length ≤ 5 ∧ (∀ l ∈ ls, l.ok) ∧ ∀ H', Same H H' → Q (.bl true) H'
theorem sc_is_program : FnScope ["thing", "loop"] ["thing"] (defScope (top 25)) := ⟨rfl, rfl, rfl, by decide +kernel, rfl, by decide +kernel, by decide +kernel⟩
theorem c_is_program (T : Tx w K mg) : Cal P w K mg base 6 "is_program" spIsProgram [] := by
  have C_is_loop := c_is_loop (P := P) (base := base) T
  refine calD T.d_is_program sc_is_program (fun _ _ _ _ _ _ us hl => match us, hl with | [_], _ => rfl) (fun vs H Q E h => ?_) fun f cdv A outer s H vs Q E hr h => ?_
  · obtain ⟨p, r, rfl, _⟩ := h
    rfl
  · obtain ⟨p, ls, rfl, hp, hl, ok, k⟩ := h
    obtain ⟨ps, hp1, hp2⟩ := id hp
    have pl : ps.length = ls.length := Paired.len hp2
    refine ⟨_, (pss_one (ps_ret (pe_and (pe_callB call_isi rfl T.nIsi b_isinstance (pa_cons (pv 0) (pa_cons (pe_bltn (v := .ty "tuple") rfl T.nTuple b_tuple rfl) pa_nil))) (pe_and (pe_cmpR op_le (pe_callB call_len_seq rfl T.nLen boot_len (pa_cons (pv 0) pa_nil)) (pe_gc rfl T.MOST_LOOPS) (nomark _)) (pe_one (pe_callB (cr_all rfl) rfl T.nAll b_all (pa_cons (pe_lc (own := [("loop", 1)]) (g := gName 1) rfl sc_is_program.nd (pi_tup (pv 0)) (blkOk_by (own := [("loop", 1)]) (N := ["thing", "loop"]) (sc := defScope (top 25)) (by decide +kernel)) (fun _ _ _ _ _ => pg_name (i := 1) sc_is_program.nd rfl (Or.inl rfl)) (fun _ _ _ _ _ => pts_nil) (fun _ _ _ _ _ => (pe_c C_is_loop hr (by decide) rfl (pa_cons (pv 1) pa_nil)))) pa_nil))))))), ?_⟩
    refine ⟨_, rfl, _, _, _, _, true, rfl, .ty "tuple", .base (.tup hp1), isi_true (by decide +kernel), true, rfl, ?_⟩
    refine ⟨_, rfl, _, _, rfl, .inr (SqT.of hp1), _, _, rfl, rfl, true, ?_, ?_⟩
    · show V.bl (decide _) = _
      rw [decide_eq_true]
      rw [List.length_map]
      omega
    refine ⟨_, rfl, p, rfl, ⟨_, SqT.of hp1⟩, fun D nD => ?_⟩
    refine lc_it (n := (ps.map V.ref).length) walk_tup (fun i H' => i ≤ (ps.map V.ref).length ∧ Same H H' ∧ H' D = some (.lst ((List.replicate i true).map V.bl))) ⟨Nat.zero_le _, same_new nD, upd_same⟩ (fun i H' _ z => SqT.of (z.2.1 _ _ hp1)) ?_ ?_
    · rintro i x H1 H2 hi ⟨hi2, s1, hD⟩ ⟨rfl, hx⟩
      obtain ⟨a, ha, rfl⟩ := ref_at hx
      obtain ⟨l, hla, hal⟩ := Paired.at hp2 ha
      rw [List.length_map] at hi hi2
      refine ⟨rfl, _, rfl, a, l, rfl, hal.ts (TS.of s1), ok l (List.mem_of_getElem? hla), fun H3 s3 => ?_⟩
      refine ⟨_, s3 _ _ hD, by rw [List.length_map, List.length_replicate]; exact smallL (by omega), by rw [List.length_map]; exact hi, same_upd (s1.trans s3) nD, ?_⟩
      rw [upd_same, List.replicate_succ', List.map_append]
      rfl
    · rintro H1 ⟨_, s1, hD⟩
      have e : (List.replicate (ps.map V.ref).length true).all id = true := by simp
      refine ⟨_, _, rfl, SqL.of hD, ?_⟩
      rw [e]
      exact k _ s1
/-! ### check_program -/
def spCheckProgram : Sp := fun vs H Q _ => ∃ p ls, vs = [.ref p] ∧ AtLos H p ls ∧ ls.length ≤ 5 ∧ (∀ l ∈ ls, l.ok) ∧ ∀ H', Same H H' → Q .non H'
theorem sc_check_program : FnScope ["thing"] ["thing"] (defScope (top 26)) := ⟨rfl, rfl, rfl, by decide +kernel, rfl, by decide +kernel, by decide +kernel⟩
theorem c_check_program (T : Tx w K mg) : Cal P w K mg base 7 "check_program" spCheckProgram [] := by
  have C_is_program := c_is_program (P := P) (base := base) T
  refine calD T.d_check_program sc_check_program (fun _ _ _ _ _ _ us hl => match us, hl with | [_], _ => rfl) (fun vs H Q E h => ?_) fun f cdv A outer s H vs Q E hr h => ?_
  · obtain ⟨p, r, rfl, _⟩ := h
    rfl
  · obtain ⟨p, ls, rfl, hp, hl, ok, k⟩ := h
    refine ⟨_, (pss_one (ps_if (pt_not (pt_val (pe_c C_is_program hr (by decide) rfl (pa_cons (pv 0) pa_nil)))) (pss_one ps_never) pss_nil)), ?_⟩
    exact ⟨_, rfl, p, ls, rfl, hp, hl, ok, fun H1 s1 => ⟨true, rfl, k _ s1⟩⟩
end
end Ob
namespace Ob
open PySem PySem.Spec PyProof.Rows L2 StX C8
/-! ### a, *b = a tuple -/
theorem star_one {prog : Program} {w : World} {A : Around} {E : Value → Shared → Prop} {s : Shared} {l : Addr} {x : Value} {r : List Value} {Q : List Value → Shared → Prop} (hl : IsTup s.heap l (x :: r).toArray) (hh : A.handled = none) (hz : r.length ≤ 1000)
    (h : ∀ (h' : Heap) (tk : Nat), (∀ b o, s.heap.get? b = some o → h'.get? b = some o) → Q [x, .ref h'.objs.size] { s with heap := h'.push { cls := .type "list", data := .seq r.toArray }, toks := tk }) : wpAny (model prog w) A (unpackItems (.ref l) 2 (some 1)) Q E s := by
  have hlt : l ≠ s.heap.objs.size := by obtain ⟨o, ho, _⟩ := hl; exact Nat.ne_of_lt (Heap.lt_size ho)
  unfold unpackItems
  refine wpAny_bind ?_
  unfold notIterableAtAll
  refine wpAny_bind (wpAny_specialOf hl.typeIs slot_tuple_iter.lookup ?_)
  refine wpAny_pure ?_
  simp only [Bool.false_eq_true, if_false]
  refine wpAny_bind (wpAny_holding (iter_tuple hl ?_))
  refine wpAny_bind (wpAny_holding (draw_tuple hlt 1 0 _ _ ⟨_, Heap.get?_push_size _ rfl, rfl, rfl⟩ (hl.push _) (by simp) fun h₁ hit₁ hs₁ => ?_))
  have hl₁ : IsTup h₁ l (x :: r).toArray := (hl.push _).extBut hs₁.extBut hlt
  rw [Nat.zero_add] at hit₁
  have hit₁' := hit₁
  obtain ⟨oi, hoi, _⟩ := hit₁'
  have hl₁' := hl₁
  obtain ⟨ol, hol, _⟩ := hl₁'
  rw [List.drop_zero]
  have e1 : ((x :: r).toArray.toList.take 1) = [x] := by simp
  rw [e1]
  rw [if_neg (show ¬ ([x].length < 1) by simp)]
  refine wpAny_bind (wpAny_holding (PySem.W.kun_collect (s := { s with heap := h₁ }) (T := "tuple_iterator") (.inr (.inr (.inr rfl))) (Walks.tuple (A := A.in1) hh s.heap.objs.size l hlt (x :: r).toArray) (fun j u st => st.1.typeIs) (k := 1) (by simp) ⟨hit₁, hl₁⟩ (Heap.lt_size hoi) (Heap.lt_size hol) (fun h₂ tk hk => ?_) (by rw [sizeLine_eq]; simp; omega)))
  have e2 : (x :: r).toArray.toList.drop 1 = r := by simp
  rw [e2]
  show wpAny _ _ (if r.length < 2 - 1 - 1 then _ else _) _ _ _
  rw [if_neg (by omega)]
  show wpAny _ _ (newList (r.take (r.length - (2 - 1 - 1))) >>= fun d => pure ([x] ++ [d] ++ r.drop (r.length - (2 - 1 - 1)))) _ _ _
  have e3 : r.take (r.length - (2 - 1 - 1)) = r := by simp
  have e4 : r.drop (r.length - (2 - 1 - 1)) = [] := by simp
  rw [e3, e4]
  have old : ∀ b o, s.heap.get? b = some o → h₂.get? b = some o := fun b o e => hk b o (Nat.ne_of_lt (Heap.lt_size e)) (hs₁.extBut b o (Nat.ne_of_lt (Heap.lt_size e)) (Heap.get?_push_of_some _ e))
  exact wpAny_bind (wpAny_newList (wpAny_pure (h h₂ tk old)) (by rw [sizeLine_eq]; omega))
def gStar (K : PySem.W.Frag) (t : TGs) : TG := fun v σ H Q => ∃ a x xs, v = .ref a ∧ SqT K H a (x :: xs) ∧ xs.length ≤ 1000 ∧ ∀ D, H D = none → t [x, .ref D] σ (upd H D (.lst xs)) Q
theorem pg_star1 {X : Cx} {e1 e2 : Expr} {k : Nat} {p pos : Pos} {t : TGs} (hc : X.calm = true) (h : PGs X [e1, e2] t)
    (hlen : (assignEach [e1, .Starred e2 p] X.env).length = 2 := by rfl) (hst : (assignEach [e1, .Starred e2 p] X.env).findIdx? (·.1) = some 1 := by rfl)
    (hmap : (assignEach [e1, .Starred e2 p] X.env).map (·.2) = (assignEach [e1, e2] X.env).map (·.2) := by rfl) : PG X (.Tuple [e1, .Starred e2 p] k pos) (gStar X.K t) := by
  refine ⟨fun pins s σ H v u Q I r hw => ?_⟩
  obtain ⟨a, x, xs, ev, hq, hl, hw⟩ := hw
  subst ev
  cases r
  obtain ⟨its, rv, ht, hz⟩ := I.tuple hq
  cases rv with
  | @cons _ u0 _ ur ru rr =>
    rw [PyProof.Rows.assign_Tuple]
    refine wpAny_bind (wpAny_standAt ?_)
    unfold unpack
    rw [hlen, hst, hmap]
    have hlr : ur.length ≤ 1000 := by rw [← Paired.length rr]; exact hl
    refine wpAny_bind (wpAny_holding (star_one ht (I.ok.hd hc) hlr fun h' tk old => ?_))
    have I1 : Inv X pins σ H { s with heap := h', toks := tk } := I.kept old
    have hf : H h'.objs.size = none := I1.hok.fresh (Nat.le_refl _)
    have I2 : Inv X pins σ (upd H h'.objs.size (.lst xs)) { s with heap := h'.push { cls := .type "list", data := .seq ur.toArray }, toks := tk } :=
      I1.laid (t' := tk) (fun b u e => Heap.get?_push_of_some _ e) (Nat.le_refl _) ⟨small (by omega), ur, 0, rr, Heap.get?_push_size _ rfl⟩
    exact h.run pins _ σ _ [x, .ref h'.objs.size] [u0, .ref h'.objs.size] Q I2 (.cons ru (.cons rfl .nil)) (hw _ hf)
section
variable {P : Program} {w : World} {K : PySem.W.Frag} {mg : Str → Option Value} {base : Heap}
/-! ### fitting_rule: some rule's place, or none -/
def optV : Option Nat → V
  | none => .non
  | some i => .int (i : Nat)
def spFitting : Sp := fun vs H Q _ => ∃ p rs m c d, vs = [.ref p, .int m, sg c, sg d] ∧ AtRus H p rs ∧ ∀ (r : Option Nat) H', (∀ i, r = some i → i < rs.length) → Same H H' → Q (optV r) H'
theorem sc_fitting_rule : FnScope ["rules", "mark", "item", "following", "place", "wanted", "items", "next_items", "edits"] ["rules", "mark", "item", "following"] (defScope (top 27)) := ⟨rfl, rfl, rfl, by decide +kernel, rfl, by decide +kernel, by decide +kernel⟩
theorem c_fitting_rule (T : Tx w K mg) : Cal P w K mg base 1 "fitting_rule" spFitting [] := by
  refine calD T.d_fitting_rule sc_fitting_rule (fun _ _ _ _ _ _ us hl => match us, hl with | [_, _, _, _], _ => rfl) (fun vs H Q E h => ?_) fun f cdv A outer s H vs Q E hr h => ?_
  · obtain ⟨p, rs, m, c, d, rfl, _⟩ := h
    rfl
  · obtain ⟨p, rs, m, c, d, rfl, hp, k⟩ := h
    obtain ⟨ps, hp1, hp2⟩ := id hp
    have pl : ps.length = rs.length := Paired.len hp2
    refine ⟨_, (pss_cons (ps_for PassesOwn.never rfl (pi_enumT rfl T.nEnum (pa_cons (pv 0) pa_nil)) (pg_tup rfl (pgs_cons (pg_name (i := 4) sc_fitting_rule.nd rfl (Or.inl rfl)) (pgs_cons (pg_tup rfl (pgs_cons (pg_name (i := 5) sc_fitting_rule.nd rfl (Or.inl rfl)) (pgs_cons (pg_name (i := 6) sc_fitting_rule.nd rfl (Or.inl rfl)) (pgs_cons (pg_name (i := 7) sc_fitting_rule.nd rfl (Or.inl rfl)) (pgs_cons (pg_name (i := 8) sc_fitting_rule.nd rfl (Or.inl rfl)) pgs_nil))))) pgs_nil))) (pss_one (ps_if (PW.pt (pw_and (pt_cmpR op_in_seq (pv 5) (pe_tup (pa_cons pe_non (pa_cons (pv 1) pa_nil))) rfl) (pw_and (pt_cmpR op_in_sign (pv 2) (pv 6) rfl) (pw_and1 (pt_cmpR op_in_sign (pv 3) (pv 7) rfl))))) (pss_one (ps_ret (pv 4))) pss_nil)))
      (pss_one (ps_ret pe_non))), ?_⟩
    refine ⟨_, rfl, p, _, rfl, SqT.of hp1, ?_⟩
    refine for_it (n := (ps.map V.ref).length) walk_enumT (fun i σ H' => (∃ v1 v2 v3 v4 v5, σ = [some (.ref p), some (.int m), some (sg c), some (sg d), v1, v2, v3, v4, v5]) ∧ Same H H') ⟨⟨none, none, none, none, none, rfl⟩, Same.refl _⟩ (fun i σ H' _ z => SqT.of (z.2 _ _ hp1)) ?_ ?_
    · rintro i x σ H1 H2 hi ⟨⟨v1, v2, v3, v4, v5, rfl⟩, s1⟩ ⟨t, x1, y, rfl, nt, rfl, hx, hy⟩
      cases hx
      obtain ⟨a, ha, rfl⟩ := ref_at hy
      obtain ⟨r, hra, har⟩ := Paired.at hp2 ha
      rw [List.length_map] at hi
      have s2 : Same H (upd H1 t (.tup [.int (i : Nat), .ref a])) := same_new' s1 nt
      generalize hH2 : upd H1 t (.tup [.int (i : Nat), .ref a]) = H2 at s2
      have ht : H2 t = some (.tup [.int (i : Nat), .ref a]) := by rw [← hH2]; exact upd_same
      obtain ⟨q, hr1, hr2⟩ := har.ts (TS.of s2)
      refine ⟨_, _, rfl, SqT.of ht, rfl, _, _, rfl, _, _, rfl, ⟨_, _, rfl, SqT.of hr1, rfl, _, _, rfl, _, _, rfl, _, _, rfl, _, _, rfl, rfl, rfl, ?_⟩⟩
      refine ⟨_, rfl, _, rfl, (by show 2 ≤ sizeLine; decide), fun u nu => ?_⟩
      have s3 : Same H (upd H2 u (.tup [.non, .int m])) := same_new' s2 nu
      have fv : flatV (mkV r.mark) = true := by cases r.mark <;> rfl
      refine ⟨u, _, rfl, .inr (SqT.of upd_same), fv, rfl, _, rfl, ite2 (fun _ => ?_) (fun _ => ⟨⟨_, _, _, _, _, rfl⟩, s3⟩)⟩
      refine ⟨_, rfl, _, rfl, c, _, rfl, rfl, _, rfl, ite2 (fun _ => ?_) (fun _ => ⟨⟨_, _, _, _, _, rfl⟩, s3⟩)⟩
      refine ⟨_, rfl, _, rfl, d, _, rfl, rfl, _, rfl, ite2 (fun _ => ?_) (fun _ => ⟨⟨_, _, _, _, _, rfl⟩, s3⟩)⟩
      exact ⟨_, rfl, k (some i) _ (fun j e => by cases e; omega) s3⟩
    · rintro σ H1 ⟨⟨v1, v2, v3, v4, v5, rfl⟩, s1⟩
      exact k none _ (fun j e => by cases e) s1
end
end Ob
namespace Ob
open PySem PySem.Spec PyProof.Rows L2 StX C8
/-! ### an edit, carried out -/
def apEd (xs : List Nat) (k : Nat) : Ed → List Nat
  | .put c => xs.set k c
  | .drop => xs.eraseIdx k
  | .dropN => xs.eraseIdx (k + 1)
  | .bef c => xs.take k ++ [c] ++ xs.drop k
  | .aft c => xs.take (k + 1) ++ [c] ++ xs.drop (k + 1)
  | _ => xs
/-- all but the object at l stays -/
def But (l : Addr) (H H' : Hp) : Prop := ∀ b o, b ≠ l → H b = some o → H' b = some o
theorem But.refl (l : Addr) (H : Hp) : But l H H := fun _ _ _ h => h
theorem But.trans {l : Addr} {H H1 H2 : Hp} (a : But l H H1) (b : But l H1 H2) : But l H H2 := fun c o n h => b c o n (a c o n h)
theorem But.of {l : Addr} {H H1 : Hp} (a : Same H H1) : But l H H1 := fun c o _ h => a c o h
theorem But.upd {l : Addr} {H H1 : Hp} {o : HO} (a : But l H H1) : But l H (L2.upd H1 l o) := fun c u n h => by rw [upd_ne n]; exact a c u n h
theorem But.ts {l : Addr} {H H' : Hp} (a : But l H H') {ys : List V} (h : H l = some (.lst ys)) : TS H H' := fun p xs q => a p _ (ne_of q h (fun z => by cases z)) q
theorem set_map (xs : List Nat) (k : Nat) (c : Nat) : (xs.map sg).set k (sg c) = (xs.set k c).map sg := by rw [List.map_set]
theorem erase_map : ∀ (xs : List Nat) (k : Nat), (xs.map sg).eraseIdx k = (xs.eraseIdx k).map sg
  | [], _ => rfl
  | _ :: _, 0 => rfl
  | a :: r, k + 1 => congrArg (fun z => sg a :: z) (erase_map r k)
theorem ins_map (xs : List Nat) (k : Nat) (c : Nat) : (xs.map sg).take k ++ [sg c] ++ (xs.map sg).drop k = (xs.take k ++ [c] ++ xs.drop k).map sg := by simp [List.map_take, List.map_drop]
theorem ixN_nat {n k : Nat} (h : k < n) : ixN n (k : Int) = some k := by
  unfold ixN
  rw [if_pos (by omega), if_pos (by omega), Int.toNat_natCast]
theorem seqIx_nat {n k : Nat} (h : k < n) : seqIndex? (k : Int) n = some k := (ixN_seq (ixN_nat h)).1
section
variable {P : Program} {w : World} {K : PySem.W.Frag} {mg : Str → Option Value} {base : Heap}
def spApply : Sp := fun vs H Q _ => ∃ (p l : Addr) (e : Ed) (xs : List Nat) (k : Nat), vs = [.ref p, .ref l, .int (k : Nat)] ∧ AtEd H p e ∧ H l = some (.lst (xs.map sg)) ∧ xs.length ≤ 1000000 ∧ k ≤ 1000000 ∧
  ∀ H', H' l = some (.lst ((apEd xs k e).map sg)) → But l H H' → Q .non H'
theorem sc_apply_edit : FnScope ["edit", "items", "index", "word", "rest"] ["edit", "items", "index"] (defScope (top 28)) := ⟨rfl, rfl, rfl, by decide +kernel, rfl, by decide +kernel, by decide +kernel⟩
theorem c_apply_edit (T : Tx w K mg) : Cal P w K mg base 1 "apply_edit" spApply [] := by
  refine calD T.d_apply_edit sc_apply_edit (fun _ _ _ _ _ _ us hl => match us, hl with | [_, _, _], _ => rfl) (fun vs H Q E h => ?_) fun f cdv A outer s H vs Q E hr h => ?_
  · obtain ⟨p, l, e, xs, k, rfl, _⟩ := h
    rfl
  · obtain ⟨p, l, e, xs, k, rfl, hp, hl, hz, hk, q⟩ := h
    refine ⟨_, (pss_cons (ps_asg (pv 0) (pg_star1 rfl (pgs_cons (pg_name (i := 3) sc_apply_edit.nd rfl (Or.inl rfl)) (pgs_cons (pg_name (i := 4) sc_apply_edit.nd rfl (Or.inl rfl)) pgs_nil))))
      (pss_one (ps_if (pt_cmpR op_eq (pv 3) pe_str (nomark _)) (pss_one (ps_expr (pe_bm PySem.F.plainAttrs_list PySem.F.slot_list_insert PySem.F.type_list_insert mt_insert (pv 1) (pa_cons (pv 2) (pa_cons (pe_ix ix_list (pv 4) pe_int (fun _ _ => rfl)) pa_nil))))) (pss_one (ps_if (pt_cmpR op_eq (pv 3) pe_str (nomark _)) (pss_one (ps_expr (pe_bm PySem.F.plainAttrs_list PySem.F.slot_list_insert PySem.F.type_list_insert mt_insert (pv 1) (pa_cons (pe_op op_add (pv 2) pe_int) (pa_cons (pe_ix ix_list (pv 4) pe_int (fun _ _ => rfl)) pa_nil))))) (pss_one (ps_if (PW.pt (pw_and (pt_cmpR op_eq (pv 3) pe_str (nomark _)) (pw_and1 (pt_cmpR op_lt (pv 2) (pe_callB call_len_seq rfl T.nLen boot_len (pa_cons (pv 1) pa_nil)) (nomark _))))) (pss_one (ps_asg (pe_ix ix_list (pv 4) pe_int (fun _ _ => rfl)) (pg_sub (pv 1) (pv 2) set_list))) (pss_one (ps_if (PW.pt (pw_and (pt_cmpR op_eq (pv 3) pe_str (nomark _)) (pw_and1 (pt_cmpR op_lt (pv 2) (pe_callB call_len_seq rfl T.nLen boot_len (pa_cons (pv 1) pa_nil)) (nomark _))))) (pss_one (ps_delL (pv 1) (pv 2))) (pss_one (ps_if (PW.pt (pw_and (pt_cmpR op_eq (pv 3) pe_str (nomark _)) (pw_and1 (pt_cmpR op_lt (pe_op op_add (pv 2) pe_int) (pe_callB call_len_seq rfl T.nLen boot_len (pa_cons (pv 1) pa_nil)) (nomark _))))) (pss_one (ps_delL (pv 1) (pe_op op_add (pv 2) pe_int))) pss_nil))))))))))), ?_⟩
    refine ⟨_, rfl, p, .str e.w, e.a, rfl, SqT.of hp, (by cases e <;> simp [Ed.a]), fun D nD => ?_⟩
    refine ⟨_, _, rfl, _, _, rfl, rfl, ?_⟩
    have lD : l ≠ D := ne_of_none hl nD
    have hl1 : upd H D (.lst e.a) l = some (.lst (xs.map sg)) := by rw [upd_ne lD]; exact hl
    have hD1 : upd H D (.lst e.a) D = some (.lst e.a) := upd_same
    have b1 : But l H (upd H D (.lst e.a)) := But.of (same_new nD)
    generalize upd H D (.lst e.a) = H1 at hl1 hD1 b1
    have ml : (xs.map sg).length = xs.length := List.length_map _
    have k64 : -(2 ^ 63) ≤ (k : Int) ∧ (k : Int) < 2 ^ 63 := by omega
    cases e with
    | bef c =>
      refine ⟨_, rfl, rfl, true, rfl, ?_⟩
      refine ⟨_, rfl, .inl ⟨rfl, _, SqL.of hl1⟩, _, rfl, _, rfl, _, _, 0, sg c, rfl, rfl, SqL.of hD1, rfl, l, _, k, sg c, rfl, rfl, hl1, by rw [ml]; exact smallL (by omega), by omega, by omega, ?_⟩
      refine q _ ?_ b1.upd
      rw [upd_same, Int.toNat_natCast, ins_map]
      rfl
    | aft c =>
      refine ⟨_, rfl, rfl, false, rfl, _, rfl, rfl, true, rfl, ?_⟩
      refine ⟨_, rfl, .inl ⟨rfl, _, SqL.of hl1⟩, _, rfl, _, _, rfl, rfl, _, rfl, _, _, 0, sg c, rfl, rfl, SqL.of hD1, rfl, l, _, _, sg c, rfl, rfl, hl1, by rw [ml]; exact smallL (by omega), by omega, by omega, ?_⟩
      refine q _ ?_ b1.upd
      have e1 : ((k : Int) + 1).toNat = k + 1 := by omega
      rw [upd_same, e1, ins_map]
      rfl
    | put c =>
      refine ⟨_, rfl, rfl, false, rfl, _, rfl, rfl, false, rfl, ?_⟩
      refine ⟨_, rfl, rfl, true, rfl, _, rfl, _, rfl, _, _, rfl, .inl (SqL.of hl1), _, _, rfl, rfl, _, rfl, ?_⟩
      rw [ml]
      by_cases c1 : k < xs.length
      · refine iteTd (by omega) ?_
        refine ⟨_, rfl, _, _, 0, sg c, rfl, rfl, SqL.of hD1, rfl, _, rfl, _, rfl, l, _, _, k, rfl, rfl, hl1, by rw [ml]; exact ixN_nat c1, ?_⟩
        refine q _ ?_ b1.upd
        rw [upd_same, set_map]
        rfl
      · refine iteFd (by omega) ?_
        refine ⟨_, rfl, rfl, false, rfl, ?_⟩
        refine ⟨_, rfl, rfl, false, rfl, ?_⟩
        refine q _ ?_ b1
        rw [hl1]
        show _ = some (HO.lst ((xs.set k c).map sg))
        rw [List.set_eq_of_length_le (by omega)]
    | drop =>
      refine ⟨_, rfl, rfl, false, rfl, _, rfl, rfl, false, rfl, _, rfl, rfl, false, rfl, ?_⟩
      refine ⟨_, rfl, rfl, true, rfl, _, rfl, _, rfl, _, _, rfl, .inl (SqL.of hl1), _, _, rfl, rfl, _, rfl, ?_⟩
      rw [ml]
      by_cases c1 : k < xs.length
      · refine iteTd (by omega) ?_
        refine ⟨_, rfl, _, rfl, l, _, _, k, rfl, rfl, hl1, by omega, by omega, by rw [ml]; exact seqIx_nat c1, ?_⟩
        refine q _ ?_ b1.upd
        rw [upd_same, erase_map]
        rfl
      · refine iteFd (by omega) ?_
        refine ⟨_, rfl, rfl, false, rfl, ?_⟩
        refine q _ ?_ b1
        rw [hl1]
        show _ = some (HO.lst ((xs.eraseIdx k).map sg))
        rw [List.eraseIdx_of_length_le (by omega)]
    | dropN =>
      refine ⟨_, rfl, rfl, false, rfl, _, rfl, rfl, false, rfl, _, rfl, rfl, false, rfl, _, rfl, rfl, false, rfl, ?_⟩
      refine ⟨_, rfl, rfl, true, rfl, _, rfl, _, _, rfl, rfl, _, rfl, _, _, rfl, .inl (SqL.of hl1), _, _, rfl, rfl, _, rfl, ?_⟩
      rw [ml]
      by_cases c1 : k + 1 < xs.length
      · refine iteTd (by omega) ?_
        refine ⟨_, rfl, _, rfl, _, _, rfl, rfl, l, _, _, k + 1, rfl, rfl, hl1, by omega, by omega, by rw [ml]; exact seqIx_nat c1, ?_⟩
        refine q _ ?_ b1.upd
        rw [upd_same, erase_map]
        rfl
      · refine iteFd (by omega) ?_
        refine q _ ?_ b1
        rw [hl1]
        show _ = some (HO.lst ((xs.eraseIdx (k + 1)).map sg))
        rw [List.eraseIdx_of_length_le (by omega)]
    | mark m =>
      refine ⟨_, rfl, rfl, false, rfl, _, rfl, rfl, false, rfl, _, rfl, rfl, false, rfl, _, rfl, rfl, false, rfl, _, rfl, rfl, false, rfl, ?_⟩
      exact q _ hl1 b1
    | brk =>
      refine ⟨_, rfl, rfl, false, rfl, _, rfl, rfl, false, rfl, _, rfl, rfl, false, rfl, _, rfl, rfl, false, rfl, _, rfl, rfl, false, rfl, ?_⟩
      exact q _ hl1 b1
end
end Ob
namespace Ob
open PySem PySem.Spec PyProof.Rows L2 StX C8
/-! ### the classes -/
structure Cs where
  p : Addr
  r : Addr
  u : Addr
  e : Addr
def MetAt (K : PySem.W.Frag) (C : Addr) (m qual : Str) (st : Stmt) : Prop := ∃ f fd, Meth K C m f ∧ FunD K m qual (defArgs st) (defBody st) (defScope st) [] [] f fd
def MakAt (K : PySem.W.Frag) (C : Addr) (qual : Str) (st : Stmt) : Prop := ∃ f fd, Mk K C f ∧ FunD K "__init__" qual (defArgs st) (defBody st) (defScope st) [] [] f fd
structure Tc (w : World) (K : PySem.W.Frag) (mg : Str → Option Value) (c : Cs) : Prop extends Tx w K mg where
  gP : mg "Pass" = some (.ref c.p)
  gR : mg "Result" = some (.ref c.r)
  gU : mg "Runner" = some (.ref c.u)
  cP : Cls K c.p
  cR : Cls K c.r
  cU : Cls K c.u
  nItem : NoAttr K c.p "item"
  nRule : NoAttr K c.p "rule"
  nMark : NoAttr K c.p "mark"
  nBroken : NoAttr K c.p "is_broken"
  nRemains : NoAttr K c.r "remains"
  nMade : NoAttr K c.r "made"
  nEnded : NoAttr K c.r "ended"
  nCurrent : NoAttr K c.u "current"
  nWatcher : NoAttr K c.u "watcher"
  nCounts : NoAttr K c.u "counts"
  nEndings : NoAttr K c.u "endings"
  iP : MakAt K c.p "Pass.__init__" (inClass (top 29) 0)
  mCarry : MetAt K c.p "carry_out" "Pass.carry_out" (inClass (top 29) 1)
  iR : MakAt K c.r "Result.__init__" (inClass (top 33) 0)
  iU : MakAt K c.u "Runner.__init__" (inClass (top 34) 0)
section
variable {P : Program} {w : World} {K : PySem.W.Frag} {mg : Str → Option Value} {base : Heap}
theorem metD {m qual : Str} {st : Stmt} {N ps : List Str} {k : Nat} {sp : Sp} {C : Addr} (c : Cls K C) (D : MetAt K C m qual st) (S : FnScope N ps (defScope st))
    (hb : ∀ (kV doc pm : Value) (an : Option Addr) (cdv ct : Value) (us : List Value), us.length = ps.length → bindArgs (PySem.W.fnOf m qual (defArgs st) (defBody st) (defScope st) .none kV doc pm an cdv ct) ⟨us, []⟩ = pure (ps.zip us))
    (len : ∀ vs H Q E, sp vs H Q E → vs.length = ps.length)
    (hbody : ∀ (f : Addr) (cdv : Value) (A : Around) (outer : List Env) (s : Shared) (H : Hp) (vs : List V) (Q : VK) (E : XK), Room k (A.deeper (envOfC qual (defScope st) s.heap.objs.size f cdv)) → sp vs H Q E →
      ∃ t, PSs (cxOf L2.CX0 P w K mg base N qual (defScope st) f cdv A outer s H E).nox (defBody st) t ∧ t { nx := fun _ H' => Q .non H', rt := Q } (start N vs) H) : Met P w K mg base (k + 1) C m sp [] := by
  obtain ⟨f, fd, M, F⟩ := D
  refine ⟨f, fd, ps, [], c, M, F.ok S len fun cdv A outer s H vs Q E hr h => ?_, F.bindsN hb, .nil⟩
  obtain ⟨t, h1, h2⟩ := hbody f cdv A outer s H vs Q E hr h
  exact ⟨t, h1.nox, h2⟩
theorem makD {x qual : Str} {st : Stmt} {N ps : List Str} {k : Nat} {sp : Sp} {C : Addr} (hm : mg x = some (.ref C)) (D : MakAt K C qual st) (S : FnScope N ps (defScope st))
    (hb : ∀ (kV doc pm : Value) (an : Option Addr) (cdv ct : Value) (us : List Value), us.length = ps.length → bindArgs (PySem.W.fnOf "__init__" qual (defArgs st) (defBody st) (defScope st) .none kV doc pm an cdv ct) ⟨us, []⟩ = pure (ps.zip us))
    (len : ∀ vs H Q E, sp vs H Q E → vs.length = ps.length)
    (hbody : ∀ (f : Addr) (cdv : Value) (A : Around) (outer : List Env) (s : Shared) (H : Hp) (vs : List V) (Q : VK) (E : XK), Room k (A.deeper (envOfC qual (defScope st) s.heap.objs.size f cdv)) → sp vs H Q E →
      ∃ t, PSs (cxOf L2.CX0 P w K mg base N qual (defScope st) f cdv A outer s H E).nox (defBody st) t ∧ t { nx := fun _ H' => Q .non H', rt := Q } (start N vs) H) : Mak P w K mg base (k + 1) x C sp [] := by
  obtain ⟨f, fd, M, F⟩ := D
  refine ⟨f, fd, ps, [], M, F.ok S len fun cdv A outer s H vs Q E hr h => ?_, hm, F.bindsN hb, .nil⟩
  obtain ⟨t, h1, h2⟩ := hbody f cdv A outer s H vs Q E hr h
  exact ⟨t, h1.nox, h2⟩
end
/-! ### attributes -/
theorem lk_here {k : Str} {v : V} {r : List (Str × V)} : List.lookup k ((k, v) :: r) = some v := by
  have e : (k == k) = true := beq_self_eq_true k
  simp only [List.lookup, e]
theorem lk_past {k g : Str} {v : V} {r : List (Str × V)} (h : (k == g) = false) : List.lookup k ((g, v) :: r) = List.lookup k r := by
  simp only [List.lookup, h]
theorem put_here {f : Str} {v x : V} {r : List (Str × V)} : putF f v ((f, x) :: r) = (f, v) :: r := if_pos rfl
theorem put_past {f g : Str} {v x : V} {r : List (Str × V)} (h : ¬ g = f) : putF f v ((g, x) :: r) = (g, x) :: putF f v r := if_neg h
/-- a pass's attributes -/
def pF (x r m b : V) : List (Str × V) := [("item", x), ("rule", r), ("mark", m), ("is_broken", b)]
theorem pF_item (x r m b : V) : (pF x r m b).lookup ("item" : Str) = some x := lk_here
theorem pF_rule (x r m b : V) : (pF x r m b).lookup ("rule" : Str) = some r := (lk_past (by decide +kernel)).trans lk_here
theorem pF_mark (x r m b : V) : (pF x r m b).lookup ("mark" : Str) = some m := (lk_past (by decide +kernel)).trans ((lk_past (by decide +kernel)).trans lk_here)
theorem pF_broken (x r m b : V) : (pF x r m b).lookup ("is_broken" : Str) = some b := (lk_past (by decide +kernel)).trans ((lk_past (by decide +kernel)).trans ((lk_past (by decide +kernel)).trans lk_here))
theorem pF_carry (x r m b : V) : (pF x r m b).lookup ("carry_out" : Str) = none := (lk_past (by decide +kernel)).trans ((lk_past (by decide +kernel)).trans ((lk_past (by decide +kernel)).trans ((lk_past (by decide +kernel)).trans rfl)))
theorem put_mark (x r m b n : V) : putF "mark" n (pF x r m b) = pF x r n b := (put_past (by decide +kernel)).trans (congrArg _ ((put_past (by decide +kernel)).trans (congrArg _ put_here)))
theorem put_broken (x r m b n : V) : putF "is_broken" n (pF x r m b) = pF x r m n := (put_past (by decide +kernel)).trans (congrArg _ ((put_past (by decide +kernel)).trans (congrArg _ ((put_past (by decide +kernel)).trans (congrArg _ put_here)))))
theorem pF_new (x r m b : V) : putF "is_broken" b (putF "mark" m (putF "rule" r (putF "item" x []))) = pF x r m b := by
  have e1 : putF "item" x [] = [(("item" : Str), x)] := rfl
  have e2 : putF "rule" r [(("item" : Str), x)] = [(("item" : Str), x), (("rule" : Str), r)] := (put_past (by decide +kernel)).trans rfl
  have e3 : putF "mark" m [(("item" : Str), x), (("rule" : Str), r)] = [(("item" : Str), x), (("rule" : Str), r), (("mark" : Str), m)] := (put_past (by decide +kernel)).trans (congrArg _ ((put_past (by decide +kernel)).trans rfl))
  rw [e1, e2, e3]
  exact (put_past (by decide +kernel)).trans (congrArg _ ((put_past (by decide +kernel)).trans (congrArg _ ((put_past (by decide +kernel)).trans rfl))))
/-! ### the edits of a rule, carried out -/
def cStep (k : Nat) (t : List Nat × Int × Bool) : Ed → List Nat × Int × Bool
  | .mark m => (t.1, m, t.2.2)
  | .brk => (t.1, t.2.1, true)
  | e => (apEd t.1 k e, t.2.1, t.2.2)
def carry (k : Nat) (es : List Ed) (t : List Nat × Int × Bool) : List Nat × Int × Bool := es.foldl (cStep k) t
theorem carry_snoc (k : Nat) (es : List Ed) (e : Ed) (t : List Nat × Int × Bool) : carry k (es ++ [e]) t = cStep k (carry k es t) e := by
  unfold carry
  rw [List.foldl_append]
  rfl
theorem apEd_len (xs : List Nat) (k : Nat) (e : Ed) : (apEd xs k e).length ≤ xs.length + 1 := by
  cases e with
  | put c => simp [apEd]
  | drop =>
    show (xs.eraseIdx k).length ≤ _
    exact Nat.le_trans (List.length_eraseIdx_le ..) (Nat.le_succ _)
  | dropN =>
    show (xs.eraseIdx (k + 1)).length ≤ _
    exact Nat.le_trans (List.length_eraseIdx_le ..) (Nat.le_succ _)
  | bef c => simp [apEd]; omega
  | aft c => simp [apEd]; omega
  | mark m => simp [apEd]
  | brk => simp [apEd]
theorem cStep_len (k : Nat) (t : List Nat × Int × Bool) (e : Ed) : (cStep k t e).1.length ≤ t.1.length + 1 := by
  cases e with
  | mark m => exact Nat.le_succ _
  | brk => exact Nat.le_succ _
  | put c => exact apEd_len t.1 k (.put c)
  | drop => exact apEd_len t.1 k .drop
  | dropN => exact apEd_len t.1 k .dropN
  | bef c => exact apEd_len t.1 k (.bef c)
  | aft c => exact apEd_len t.1 k (.aft c)
theorem carry_len (k : Nat) : ∀ (es : List Ed) (t : List Nat × Int × Bool), (carry k es t).1.length ≤ t.1.length + es.length
  | [], t => Nat.le_refl _
  | e :: r, t => by
    have h := carry_len k r (cStep k t e)
    have h2 := cStep_len k t e
    show (carry k r (cStep k t e)).1.length ≤ t.1.length + (r.length + 1)
    omega
section
variable {P : Program} {w : World} {K : PySem.W.Frag} {mg : Str → Option Value} {base : Heap} {c : Cs}
/-- all but the objects at a and l -/
def But2 (a l : Addr) (H H' : Hp) : Prop := ∀ b o, b ≠ a → b ≠ l → H b = some o → H' b = some o
theorem But2.trans {a l : Addr} {H H1 H2 : Hp} (p : But2 a l H H1) (q : But2 a l H1 H2) : But2 a l H H2 := fun d o n m h => q d o n m (p d o n m h)
theorem But2.of {a l : Addr} {H H1 : Hp} (s : Same H H1) : But2 a l H H1 := fun d o _ _ h => s d o h
theorem But2.l {a l : Addr} {H H1 : Hp} (s : But l H H1) : But2 a l H H1 := fun d o _ n h => s d o n h
theorem But2.a {a l : Addr} {H : Hp} {o : HO} : But2 a l H (L2.upd H a o) := fun d u n _ h => by rw [upd_ne n]; exact h
def spCarry (c : Cs) : Sp := fun vs H Q _ => ∃ (a q l dx : Addr) (es : List Ed) (xs : List Nat) (k : Nat) (x r : V) (m : Int) (b : Bool), vs = [.ref a, .ref q, .ref l, .int (k : Nat)] ∧ H a = some (.ins c.p dx (pF x r (.int m) (.bl b))) ∧ AtEds H q es ∧ es.length ≤ 4 ∧ H l = some (.lst (xs.map sg)) ∧ xs.length ≤ 900000 ∧ k ≤ 900000 ∧
  ∀ H', H' a = some (.ins c.p dx (pF x r (.int (carry k es (xs, m, b)).2.1) (.bl (carry k es (xs, m, b)).2.2))) → H' l = some (.lst ((carry k es (xs, m, b)).1.map sg)) → But2 a l H H' → Q .non H'
theorem sc_carry_out : FnScope ["self", "edits", "items", "index", "edit"] ["self", "edits", "items", "index"] (defScope (inClass (top 29) 1)) := ⟨rfl, rfl, rfl, by decide +kernel, rfl, by decide +kernel, by decide +kernel⟩
theorem m_carry_out (T : Tc w K mg c) : Met P w K mg base 2 c.p "carry_out" (spCarry c) [] := by
  have C_apply_edit := c_apply_edit (P := P) (base := base) T.toTx
  refine metD T.cP T.mCarry sc_carry_out (fun _ _ _ _ _ _ us hl => match us, hl with | [_, _, _, _], _ => rfl) (fun vs H Q E h => ?_) fun f cdv A outer s H vs Q E hr h => ?_
  · obtain ⟨a, q, l, dx, es, xs, k, x, r, m, b, rfl, _⟩ := h
    rfl
  · obtain ⟨a, q, l, dx, es, xs, k, x, r, m, b, rfl, ha, hq, h4, hl, hz, hk, kk⟩ := h
    obtain ⟨ps, hq1, hq2⟩ := id hq
    have pl : ps.length = es.length := Paired.len hq2
    have nal : a ≠ l := ne_of ha hl (fun z => by cases z)
    refine ⟨_, (pss_one (ps_for PassesOwn.never rfl (pi_tup (pv 1)) (pg_name (i := 4) sc_carry_out.nd rfl (Or.inl rfl)) (pss_one (ps_if (pt_cmpR op_eq (pe_ix ix_tup (pv 4) pe_int (fun _ _ => rfl)) pe_str (nomark _)) (pss_one (ps_fld (pv 0) (pe_ix ix_tup (pv 4) pe_int (fun _ _ => rfl)) rfl)) (pss_one (ps_if (pt_cmpR op_eq (pe_ix ix_tup (pv 4) pe_int (fun _ _ => rfl)) pe_str (nomark _)) (pss_one (ps_fld (pv 0) pe_bl rfl)) (pss_one (ps_expr (pe_c C_apply_edit hr (by decide) rfl (pa_cons (pv 4) (pa_cons (pv 2) (pa_cons (pv 3) pa_nil)))))))))))), ?_⟩
    refine ⟨_, rfl, q, rfl, ⟨_, SqT.of hq1⟩, for_tup (K := K) (a := q) (xs := ps.map V.ref) (fun i σ H' => (∃ v, σ = [some (.ref a), some (.ref q), some (.ref l), some (.int (k : Nat)), v]) ∧ H' a = some (.ins c.p dx (pF x r (.int (carry k (es.take i) (xs, m, b)).2.1) (.bl (carry k (es.take i) (xs, m, b)).2.2))) ∧ H' l = some (.lst ((carry k (es.take i) (xs, m, b)).1.map sg)) ∧ But2 a l H H')
      ⟨⟨none, rfl⟩, ha, hl, fun _ _ _ _ h => h⟩ (fun i σ H' _ z => SqT.of (z.2.2.2 _ _ (ne_of hq1 ha (fun z => by cases z)) (ne_of hq1 hl (fun z => by cases z)) hq1)) ?_ ?_⟩
    · rintro i y σ H1 hi ⟨⟨v, rfl⟩, h1, h2, h3⟩
      obtain ⟨p, hp, rfl⟩ := ref_at hi
      obtain ⟨e, he, hae⟩ := Paired.at hq2 hp
      have hae1 : AtEd H1 p e := h3 _ _ (ne_of hae ha (fun z => by cases z)) (ne_of hae hl (fun z => by cases z)) hae
      have ie : i < es.length := (List.getElem?_eq_some_iff.mp he).1
      have tk := take_more he
      have cl := carry_len k (es.take i) (xs, m, b)
      rw [List.length_take] at cl
      have cl' : (carry k (es.take i) (xs, m, b)).1.length ≤ xs.length + min i es.length := cl
      rw [tk, carry_snoc]
      generalize carry k (es.take i) (xs, m, b) = t at h1 h2 cl'
      have other : (∀ m', e ≠ .mark m') → e ≠ .brk → cStep k t e = (apEd t.1 k e, t.2.1, t.2.2) := fun n1 n2 => by
        cases e with
        | mark m' => exact absurd rfl (n1 m')
        | brk => exact absurd rfl n2
        | _ => rfl
      have go : (∀ m', e ≠ .mark m') → e ≠ .brk → ∀ H', H' l = some (.lst ((apEd t.1 k e).map sg)) → But l H1 H' → H' a = some (.ins c.p dx (pF x r (.int (cStep k t e).2.1) (.bl (cStep k t e).2.2))) ∧ H' l = some (.lst ((cStep k t e).1.map sg)) ∧ But2 a l H H' := fun n1 n2 H' g1 g2 => by
        rw [other n1 n2]
        exact ⟨g2 _ _ nal h1, g1, h3.trans (But2.l g2)⟩
      refine ⟨_, rfl, _, _, 0, .str e.w, rfl, rfl, SqT.of hae1, at0 e, rfl, ?_⟩
      cases e with
      | mark m' =>
        refine ⟨true, rfl, ?_⟩
        refine ⟨_, rfl, _, _, 1, .int m', rfl, rfl, SqT.of hae1, rfl, _, rfl, a, c.p, dx, _, rfl, h1, T.cP, T.nMark, (by show 4 < 1000; decide), ?_⟩
        refine ⟨⟨_, rfl⟩, ?_, ?_, h3.trans But2.a⟩
        · rw [upd_same, put_mark]
          rfl
        · rw [upd_ne nal.symm]
          exact h2
      | brk =>
        refine ⟨false, rfl, ?_⟩
        refine ⟨_, rfl, _, _, 0, .str "break", rfl, rfl, SqT.of hae1, rfl, rfl, true, rfl, ?_⟩
        refine ⟨_, rfl, a, c.p, dx, _, rfl, h1, T.cP, T.nBroken, (by show 4 < 1000; decide), ?_⟩
        refine ⟨⟨_, rfl⟩, ?_, ?_, h3.trans But2.a⟩
        · rw [upd_same, put_broken]
          rfl
        · rw [upd_ne nal.symm]
          exact h2
      | put d =>
        refine ⟨false, rfl, _, rfl, _, _, 0, .str "put", rfl, rfl, SqT.of hae1, rfl, rfl, false, rfl, ?_⟩
        exact ⟨_, rfl, _, rfl, _, rfl, p, l, _, t.1, k, rfl, hae1, h2, by omega, by omega, fun H' g1 g2 => ⟨⟨_, rfl⟩, go (fun _ z => by cases z) (fun z => by cases z) H' g1 g2⟩⟩
      | drop =>
        refine ⟨false, rfl, _, rfl, _, _, 0, .str "drop", rfl, rfl, SqT.of hae1, rfl, rfl, false, rfl, ?_⟩
        exact ⟨_, rfl, _, rfl, _, rfl, p, l, _, t.1, k, rfl, hae1, h2, by omega, by omega, fun H' g1 g2 => ⟨⟨_, rfl⟩, go (fun _ z => by cases z) (fun z => by cases z) H' g1 g2⟩⟩
      | dropN =>
        refine ⟨false, rfl, _, rfl, _, _, 0, .str "drop_next", rfl, rfl, SqT.of hae1, rfl, rfl, false, rfl, ?_⟩
        exact ⟨_, rfl, _, rfl, _, rfl, p, l, _, t.1, k, rfl, hae1, h2, by omega, by omega, fun H' g1 g2 => ⟨⟨_, rfl⟩, go (fun _ z => by cases z) (fun z => by cases z) H' g1 g2⟩⟩
      | bef d =>
        refine ⟨false, rfl, _, rfl, _, _, 0, .str "before", rfl, rfl, SqT.of hae1, rfl, rfl, false, rfl, ?_⟩
        exact ⟨_, rfl, _, rfl, _, rfl, p, l, _, t.1, k, rfl, hae1, h2, by omega, by omega, fun H' g1 g2 => ⟨⟨_, rfl⟩, go (fun _ z => by cases z) (fun z => by cases z) H' g1 g2⟩⟩
      | aft d =>
        refine ⟨false, rfl, _, rfl, _, _, 0, .str "after", rfl, rfl, SqT.of hae1, rfl, rfl, false, rfl, ?_⟩
        exact ⟨_, rfl, _, rfl, _, rfl, p, l, _, t.1, k, rfl, hae1, h2, by omega, by omega, fun H' g1 g2 => ⟨⟨_, rfl⟩, go (fun _ z => by cases z) (fun z => by cases z) H' g1 g2⟩⟩
    · rintro σ H1 ⟨⟨v, rfl⟩, h1, h2, h3⟩
      rw [List.length_map, pl, List.take_length] at h1 h2
      exact kk _ h1 h2 h3
end
end Ob
namespace Ob
open PySem PySem.Spec PyProof.Rows L2 StX C8
/-- the edits of the rule that fitted -/
def edsOf (L : Lo) : Option Nat → List Ed
  | none => []
  | some i => match L.rules[i]? with
    | some r => r.eds
    | none => []
/-- what a pass leaves -/
def passOf (L : Lo) (r : Option Nat) (k : Nat) (xs : List Nat) (m : Int) : List Nat × Int × Bool := carry k (edsOf L r) (xs, m, false)
section
variable {P : Program} {w : World} {K : PySem.W.Frag} {mg : Str → Option Value} {base : Heap} {c : Cs}
def spPass (c : Cs) : Sp := fun vs H Q _ => ∃ (a lp l dx : Addr) (L : Lo) (xs : List Nat) (k : Nat) (x : Nat) (m : Int), vs = [.ref a, .ref lp, .ref l, .int (k : Nat), .int m] ∧ H a = some (.ins c.p dx []) ∧ AtLo H lp L ∧ (∀ r ∈ L.rules, r.eds.length ≤ 4) ∧ H l = some (.lst (xs.map sg)) ∧ xs[k]? = some x ∧ xs.length ≤ 900000 ∧
  ∀ (r : Option Nat) H', (∀ i, r = some i → i < L.rules.length) → H' a = some (.ins c.p dx (pF (sg x) (optV r) (.int (passOf L r k xs m).2.1) (.bl (passOf L r k xs m).2.2))) → H' l = some (.lst ((passOf L r k xs m).1.map sg)) → But2 a l H H' → Q .non H'
theorem sc_pass_init : FnScope ["self", "loop", "items", "index", "mark", "rules", "ends", "following"] ["self", "loop", "items", "index", "mark"] (defScope (inClass (top 29) 0)) := ⟨rfl, rfl, rfl, by decide +kernel, rfl, by decide +kernel, by decide +kernel⟩
theorem dollar : (V.str ("$" : Str)) = sg 36 := by decide +kernel
theorem mk_pass (T : Tc w K mg c) : Mak P w K mg base 3 "Pass" c.p (spPass c) [] := by
  have C_fitting_rule := c_fitting_rule (P := P) (base := base) T.toTx
  have M_carry_out := m_carry_out (P := P) (base := base) T
  refine makD T.gP T.iP sc_pass_init (fun _ _ _ _ _ _ us hl => match us, hl with | [_, _, _, _, _], _ => rfl) (fun vs H Q E h => ?_) fun f cdv A outer s H vs Q E hr h => ?_
  · obtain ⟨a, lp, l, dx, L, xs, k, x, m, rfl, _⟩ := h
    rfl
  · obtain ⟨a, lp, l, dx, L, xs, k, x, m, rfl, ha, hL, h4, hl, hx, hz, kk⟩ := h
    obtain ⟨q1, q2, hL1, hL2, hL3⟩ := id hL
    have nal : a ≠ l := ne_of ha hl (fun z => by cases z)
    have kx : k < xs.length := (List.getElem?_eq_some_iff.mp hx).1
    have hxs : (xs.map sg)[k]? = some (sg x) := by rw [List.getElem?_map, hx]; rfl
    refine ⟨_, (pss_cons (ps_asg (pv 1) (pg_tup rfl (pgs_cons (pg_name (i := 5) sc_pass_init.nd rfl (Or.inl rfl)) (pgs_cons (pg_name (i := 6) sc_pass_init.nd rfl (Or.inl rfl)) pgs_nil))))
      (pss_cons (ps_fld (pv 0) (pe_ix ix_list (pv 2) (pv 3) (fun _ _ => rfl)) rfl)
      (pss_cons (ps_set (i := 7) sc_pass_init.nd rfl (Or.inl rfl) (pe_ifExp (pt_cmpR op_lt (pe_op op_add (pv 3) pe_int) (pe_callB call_len_seq rfl T.nLen boot_len (pa_cons (pv 2) pa_nil)) (nomark _)) (pe_ix ix_list (pv 2) (pe_op op_add (pv 3) pe_int) (fun _ _ => rfl)) (pe_gc rfl T.END)))
      (pss_cons (ps_fld (pv 0) (pe_c C_fitting_rule hr (by decide) rfl (pa_cons (pv 5) (pa_cons (pv 4) (pa_cons (pe_fld (pv 0) rfl) (pa_cons (pv 7) pa_nil))))) rfl)
      (pss_cons (ps_fld (pv 0) (pv 4) rfl)
      (pss_cons (ps_fld (pv 0) pe_bl rfl)
      (pss_one (ps_if (pt_cmpR op_notN (pe_fld (pv 0) rfl) pe_non (nomark _)) (pss_one (ps_expr (pe_mt M_carry_out hr (by decide) (pv 0) (pa_cons (pe_ix ix_tup (pe_ix ix_tup (pv 5) (pe_fld (pv 0) rfl) (fun _ _ => rfl)) pe_int (fun _ _ => rfl)) (pa_cons (pv 2) (pa_cons (pv 3) pa_nil)))))) pss_nil)))))))), ?_⟩
    -- rules, ends = loop
    refine ⟨_, rfl, lp, _, rfl, SqT.of hL1, rfl, _, _, rfl, _, _, rfl, rfl, ?_⟩
    -- self.item = items[index]
    refine ⟨_, rfl, _, rfl, l, _, _, sg x, rfl, rfl, SqL.of hl, atI_nat hxs, _, rfl, a, c.p, dx, _, rfl, ha, T.cP, T.nItem, (by show 0 < 1000; decide), ?_⟩
    have b1 : But2 a l H (upd H a (.ins c.p dx (putF "item" (sg x) []))) := But2.a
    have ha1 : upd H a (.ins c.p dx (putF "item" (sg x) [])) a = some (.ins c.p dx (putF "item" (sg x) [])) := upd_same
    have hl1 : upd H a (.ins c.p dx (putF "item" (sg x) [])) l = some (.lst (xs.map sg)) := by rw [upd_ne nal.symm]; exact hl
    have tup : ∀ {H1 : Hp}, But2 a l H H1 → TS H H1 := fun b p ys q => b p _ (ne_of q ha (fun z => by cases z)) (ne_of q hl (fun z => by cases z)) q
    generalize upd H a (.ins c.p dx (putF "item" (sg x) [])) = H1 at b1 ha1 hl1
    have rest : ∀ d : Nat, (tSeq (sFld K (tVar 0) (tCall spFitting [] C8.E0 (tCons (tVar 5) (tCons (tVar 4) (tCons (tFld K (tVar 0) "item") (tCons (tVar 7) tNil))))) "rule") (tSeq (sFld K (tVar 0) (tVar 4) "mark") (tSeq (sFld K (tVar 0) (tC (.bl false)) "is_broken")
        (tIfS (tTest (tOp (fun x y H Q => y = .non ∧ Q (.bl (!decide (x = .non))) H) (tFld K (tVar 0) "rule") (tC .non))) (tDrop (tMeth c.p "carry_out" (spCarry c) [] C8.E0 (tVar 0) (tCons (tOp (rIxT K) (tOp (rIxT K) (tVar 5) (tFld K (tVar 0) "rule")) (tC (.int 3))) (tCons (tVar 2) (tCons (tVar 3) tNil))))) tNext))))
        { nx := fun _ H' => Q .non H', rt := Q } [some (.ref a), some (.ref lp), some (.ref l), some (.int (k : Nat)), some (.int m), some (.ref q1), some (.ref q2), some (sg d)] H1 := by
      intro d
      refine ⟨_, rfl, _, rfl, _, rfl, a, c.p, dx, _, _, rfl, ha1, T.cP, T.nItem, lk_here, _, rfl, q1, L.rules, m, x, d, rfl, hL2.ts (tup b1), fun r H2 hr2 s2 => ?_⟩
      have b2 := b1.trans (But2.of s2)
      refine ⟨_, rfl, a, c.p, dx, _, rfl, s2 _ _ ha1, T.cP, T.nRule, (by show 1 < 1000; decide), ?_⟩
      refine ⟨_, rfl, _, rfl, a, c.p, dx, _, rfl, upd_same, T.cP, T.nMark, (by show 2 < 1000; decide), ?_⟩
      refine ⟨_, rfl, a, c.p, dx, _, rfl, upd_same, T.cP, T.nBroken, (by show 3 < 1000; decide), ?_⟩
      rw [upd_upd, upd_upd, pF_new]
      have b3 : But2 a l H (upd H2 a (.ins c.p dx (pF (sg x) (optV r) (.int m) (.bl false)))) := b2.trans But2.a
      have ha3 : upd H2 a (.ins c.p dx (pF (sg x) (optV r) (.int m) (.bl false))) a = some (.ins c.p dx (pF (sg x) (optV r) (.int m) (.bl false))) := upd_same
      have hl3 : upd H2 a (.ins c.p dx (pF (sg x) (optV r) (.int m) (.bl false))) l = some (.lst (xs.map sg)) := by rw [upd_ne nal.symm]; exact s2 _ _ hl1
      generalize upd H2 a (.ins c.p dx (pF (sg x) (optV r) (.int m) (.bl false))) = H3 at b3 ha3 hl3
      refine ⟨_, rfl, a, c.p, dx, _, _, rfl, ha3, T.cP, T.nRule, pF_rule _ _ _ _, rfl, ?_⟩
      cases r with
      | none => exact ⟨false, rfl, kk none H3 (fun _ z => by cases z) ha3 hl3 b3⟩
      | some i =>
        have hi := hr2 i rfl
        obtain ⟨ps, hp1, hp2⟩ := hL2.ts (tup b3)
        have pl : ps.length = L.rules.length := Paired.len hp2
        have hpi : ps[i]? = some ps[i] := List.getElem?_eq_getElem (by omega)
        obtain ⟨ru, hru, hrp⟩ := Paired.at hp2 hpi
        obtain ⟨qe, hrp1, hrp2⟩ := hrp
        have eo : edsOf L (some i) = ru.eds := by
          show (match L.rules[i]? with | some r => r.eds | none => []) = ru.eds
          rw [hru]
        have hpv : (ps.map V.ref)[i]? = some (.ref ps[i]) := by rw [List.getElem?_map, hpi]; rfl
        refine ⟨true, rfl, _, rfl, a, dx, _, rfl, ha3, pF_carry _ _ _ _, ?_⟩
        refine ⟨_, rfl, _, rfl, a, c.p, dx, _, _, rfl, ha3, T.cP, T.nRule, pF_rule _ _ _ _, q1, _, _, .ref ps[i], rfl, rfl, SqT.of hp1, atI_nat hpv, ps[i], _, 3, .ref qe, rfl, rfl, SqT.of hrp1, rfl, _, rfl, _, rfl, ?_⟩
        refine ⟨a, qe, l, dx, ru.eds, xs, k, _, _, m, false, rfl, ha3, hrp2, h4 ru (List.mem_of_getElem? hru), hl3, hz, by omega, fun H' g1 g2 g3 => ?_⟩
        rw [← eo] at g1 g2
        exact kk (some i) H' (fun j e => by cases e; exact hi) g1 g2 (b3.trans g3)
    refine ⟨_, rfl, _, _, rfl, rfl, _, rfl, _, _, rfl, .inl (SqL.of hl1), _, _, rfl, rfl, _, rfl, ?_⟩
    rw [List.length_map]
    by_cases c1 : k + 1 < xs.length
    · refine iteTd (by omega) ?_
      have h2 : (xs.map sg)[k + 1]? = some (sg xs[k + 1]) := by rw [List.getElem?_map, List.getElem?_eq_getElem c1]; rfl
      exact ⟨_, rfl, _, rfl, _, _, rfl, rfl, l, _, _, sg xs[k + 1], rfl, rfl, SqL.of hl1, atI_nat (j := k + 1) h2, rest _⟩
    · refine iteFd (by omega) ?_
      have := rest 36
      rw [← dollar] at this
      exact this
/-! ### Result, Runner: made -/
def rF (t p y : V) : List (Str × V) := [("remains", t), ("made", p), ("ended", y)]
theorem rF_remains (t p y : V) : (rF t p y).lookup ("remains" : Str) = some t := lk_here
theorem rF_made (t p y : V) : (rF t p y).lookup ("made" : Str) = some p := (lk_past (by decide +kernel)).trans lk_here
theorem rF_ended (t p y : V) : (rF t p y).lookup ("ended" : Str) = some y := (lk_past (by decide +kernel)).trans ((lk_past (by decide +kernel)).trans lk_here)
theorem rF_new (t p y : V) : putF "ended" y (putF "made" p (putF "remains" t [])) = rF t p y := by
  have e1 : putF "remains" t [] = [(("remains" : Str), t)] := rfl
  have e2 : putF "made" p [(("remains" : Str), t)] = [(("remains" : Str), t), (("made" : Str), p)] := (put_past (by decide +kernel)).trans rfl
  rw [e1, e2]
  exact (put_past (by decide +kernel)).trans (congrArg _ ((put_past (by decide +kernel)).trans rfl))
def spResult (c : Cs) : Sp := fun vs H Q _ => ∃ (a dx : Addr) (t p y : V), vs = [.ref a, t, p, y] ∧ H a = some (.ins c.r dx []) ∧ Q .non (upd H a (.ins c.r dx (rF t p y)))
theorem sc_result_init : FnScope ["self", "text", "passes", "ways"] ["self", "text", "passes", "ways"] (defScope (inClass (top 33) 0)) := ⟨rfl, rfl, rfl, by decide +kernel, rfl, by decide +kernel, by decide +kernel⟩
theorem mk_result (T : Tc w K mg c) : Mak P w K mg base 1 "Result" c.r (spResult c) [] := by
  refine makD T.gR T.iR sc_result_init (fun _ _ _ _ _ _ us hl => match us, hl with | [_, _, _, _], _ => rfl) (fun vs H Q E h => ?_) fun f cdv A outer s H vs Q E hr h => ?_
  · obtain ⟨a, dx, t, p, y, rfl, _⟩ := h
    rfl
  · obtain ⟨a, dx, t, p, y, rfl, ha, q⟩ := h
    refine ⟨_, (pss_cons (ps_fld (pv 0) (pv 1) rfl)
      (pss_cons (ps_fld (pv 0) (pv 2) rfl)
      (pss_one (ps_fld (pv 0) (pv 3) rfl)))), ?_⟩
    refine ⟨_, rfl, _, rfl, a, c.r, dx, _, rfl, ha, T.cR, T.nRemains, (by show 0 < 1000; decide), ?_⟩
    refine ⟨_, rfl, _, rfl, a, c.r, dx, _, rfl, upd_same, T.cR, T.nMade, (by show 1 < 1000; decide), ?_⟩
    refine ⟨_, rfl, _, rfl, a, c.r, dx, _, rfl, upd_same, T.cR, T.nEnded, (by show 2 < 1000; decide), ?_⟩
    rw [upd_upd, upd_upd, rF_new]
    exact q
def uF (l f n e : Addr) : List (Str × V) := [("current", .ref l), ("watcher", .ref f), ("counts", .ref n), ("endings", .ref e)]
theorem uF_current (l f n e : Addr) : (uF l f n e).lookup ("current" : Str) = some (.ref l) := lk_here
theorem uF_watcher (l f n e : Addr) : (uF l f n e).lookup ("watcher" : Str) = some (.ref f) := (lk_past (by decide +kernel)).trans lk_here
theorem uF_counts (l f n e : Addr) : (uF l f n e).lookup ("counts" : Str) = some (.ref n) := (lk_past (by decide +kernel)).trans ((lk_past (by decide +kernel)).trans lk_here)
theorem uF_endings (l f n e : Addr) : (uF l f n e).lookup ("endings" : Str) = some (.ref e) := (lk_past (by decide +kernel)).trans ((lk_past (by decide +kernel)).trans ((lk_past (by decide +kernel)).trans lk_here))
theorem uF_run_loop (l f n e : Addr) : (uF l f n e).lookup ("run_loop" : Str) = none := (lk_past (by decide +kernel)).trans ((lk_past (by decide +kernel)).trans ((lk_past (by decide +kernel)).trans ((lk_past (by decide +kernel)).trans rfl)))
theorem uF_new (l f n e : Addr) : putF "endings" (.ref e) (putF "counts" (.ref n) (putF "watcher" (.ref f) (putF "current" (.ref l) []))) = uF l f n e := by
  have e1 : putF "current" (.ref l) [] = [(("current" : Str), V.ref l)] := rfl
  have e2 : putF "watcher" (.ref f) [(("current" : Str), V.ref l)] = [(("current" : Str), V.ref l), (("watcher" : Str), V.ref f)] := (put_past (by decide +kernel)).trans rfl
  have e3 : putF "counts" (.ref n) [(("current" : Str), V.ref l), (("watcher" : Str), V.ref f)] = [(("current" : Str), V.ref l), (("watcher" : Str), V.ref f), (("counts" : Str), V.ref n)] := (put_past (by decide +kernel)).trans (congrArg _ ((put_past (by decide +kernel)).trans rfl))
  rw [e1, e2, e3]
  exact (put_past (by decide +kernel)).trans (congrArg _ ((put_past (by decide +kernel)).trans (congrArg _ ((put_past (by decide +kernel)).trans rfl))))
def spRunner (c : Cs) : Sp := fun vs H Q _ => ∃ (a dx l f : Addr), vs = [.ref a, .ref l, .ref f] ∧ H a = some (.ins c.u dx []) ∧ ∀ n e, H n = none → H e = none → n ≠ e → ∀ H', H' a = some (.ins c.u dx (uF l f n e)) → H' n = some (.lst []) → H' e = some (.lst []) → (∀ b o, b ≠ a → H b = some o → H' b = some o) → Q .non H'
theorem sc_runner_init : FnScope ["self", "items", "watch"] ["self", "items", "watch"] (defScope (inClass (top 34) 0)) := ⟨rfl, rfl, rfl, by decide +kernel, rfl, by decide +kernel, by decide +kernel⟩
theorem mk_runner (T : Tc w K mg c) : Mak P w K mg base 1 "Runner" c.u (spRunner c) [] := by
  refine makD T.gU T.iU sc_runner_init (fun _ _ _ _ _ _ us hl => match us, hl with | [_, _, _], _ => rfl) (fun vs H Q E h => ?_) fun f cdv A outer s H vs Q E hr h => ?_
  · obtain ⟨a, dx, l, f, rfl, _⟩ := h
    rfl
  · obtain ⟨a, dx, l, f, rfl, ha, q⟩ := h
    refine ⟨_, (pss_cons (ps_fld (pv 0) (pv 1) rfl)
      (pss_cons (ps_fld (pv 0) (pv 2) rfl)
      (pss_cons (ps_fld (pv 0) (pe_lst pa_nil) rfl)
      (pss_one (ps_fld (pv 0) (pe_lst pa_nil) rfl))))), ?_⟩
    refine ⟨_, rfl, _, rfl, a, c.u, dx, _, rfl, ha, T.cU, T.nCurrent, (by show 0 < 1000; decide), ?_⟩
    refine ⟨_, rfl, _, rfl, a, c.u, dx, _, rfl, upd_same, T.cU, T.nWatcher, (by show 1 < 1000; decide), ?_⟩
    rw [upd_upd]
    have ha2 : upd H a (.ins c.u dx (putF "watcher" (.ref f) (putF "current" (.ref l) []))) a = some (.ins c.u dx (putF "watcher" (.ref f) (putF "current" (.ref l) []))) := upd_same
    refine ⟨Nat.zero_le _, fun n nn => ?_⟩
    have an : a ≠ n := ne_of_none ha2 nn
    have hn0 : H n = none := by rw [upd_ne an.symm] at nn; exact nn
    refine ⟨_, rfl, a, c.u, dx, _, rfl, (by rw [upd_ne an]; exact ha2), T.cU, T.nCounts, (by show 2 < 1000; decide), ?_⟩
    refine ⟨Nat.zero_le _, fun e ne => ?_⟩
    have ae : a ≠ e := ne_of_none upd_same ne
    have nne : n ≠ e := fun z => by
      rw [upd_ne ae.symm, ← z, upd_same] at ne
      cases ne
    have he0 : H e = none := by
      rw [upd_ne ae.symm, upd_ne nne.symm, upd_ne ae.symm] at ne
      exact ne
    refine ⟨_, rfl, a, c.u, dx, _, rfl, (by rw [upd_ne ae]; exact upd_same), T.cU, T.nEndings, (by show 3 < 1000; decide), ?_⟩
    refine q n e hn0 he0 nne _ (by rw [upd_same, uF_new]) ?_ ?_ fun b o nb hb => ?_
    · rw [upd_ne an.symm, upd_ne nne, upd_ne an.symm, upd_same]
    · rw [upd_ne ae.symm, upd_same]
    · rw [upd_ne nb, upd_ne (ne_of_none hb he0), upd_ne nb, upd_ne (ne_of_none hb hn0), upd_ne nb]
      exact hb
end
end Ob
/-! The watcher: a function made by lambda, its one captured cell; called through an attribute. -/
namespace Ob
open PySem PySem.Spec PyProof.Rows L2 StX NdefX LamX
/-- an attribute that holds a function, called -/
theorem getmeth_field {X : Cx} {pins : List (Addr × Obj)} {σ : L2.St} {H : Hp} {s : Shared} {a C dx : Addr} {fs : List (Str × V)} {m : Str} {v : V} {A : Around} {E : Value → Shared → Prop} {pl : Sem Bool} {Q : Value × List Value → Shared → Prop} (I : Inv X pins σ H s) (e : H a = some (.ins C dx fs)) (c : Cls X.K C) (n : NoAttr X.K C m)
    (l : fs.lookup m = some v) (h : ∀ u s', Inv X pins σ H s' → RelV v u → Q (u, []) s') : wpAny (model X.prog X.w) A (getMethod (.ref a) m pl) Q E s := by
  have hcan := PySem.F.canon_object_ga
  obtain ⟨mA, O, _⟩ := ins_get I.hok e
  obtain ⟨od, J, _⟩ := O.look
  have pg := PySem.W.plainGet_of (c.get m)
  unfold getMethod specialOf
  refine wpAny_bind (wpAny_bind (J.type.here ((PySem.W.looks_findIn I.kIn pg.1).here ?_)))
  dsimp only
  rw [hcan, if_neg (by decide)]
  refine wpAny_bind (wpAny_bind (J.type.here ((PySem.W.looks_findIn I.kIn pg.2).here ?_)))
  refine wpAny_bind (wpAny_bind (J.type.here ((PySem.W.looks_findIn I.kIn n).here ?_)))
  exact wpAny_bind (getattr_ok I e c n l fun u s' I' r => wpAny_pure (h u s' I' r))
/-! ### the function, its cell -/
structure LF where
  qual : Str
  params : Arguments
  body : Expr
  scope : Scope
  cl : List (Str × Addr)
  c : Addr
/-- the object at a, as it is -/
def ExO (a : Addr) (o : Obj) : HO := .ext fun h => h.get? a = some o
/-- the function's object -/
def lamObj (F : LF) (od : Option Addr) (sl : Array (Option Value)) (pm ctv : Value) : Obj := ⟨.type "function", od, .func (PySem.W.kla_fn "<lambda>" F.qual F.params F.body F.scope F.cl pm (.ref F.c) ctv), sl⟩
theorem exO_ok {P : Program} {w : World} {H : Hp} {h : Heap} {a : Addr} {o : Obj} (e : h.get? a = some o) : ObjOk P w H h a (ExO a o) := ⟨e, ⟨_, e⟩, fun h1 h2 z st => st _ z⟩
theorem exO_at {P : Program} {w : World} {H : Hp} {h : Heap} {a : Addr} {o : Obj} (hok : HOk P w H h) (e : H a = some (ExO a o)) : h.get? a = some o := by
  obtain ⟨z, _, _⟩ := hok a _ e
  exact z
theorem ext_ne_own {φ : Heap → Prop} {x : Addr} : HO.ext φ ≠ .own x := fun z => by cases z
theorem ext_ne_tup {φ : Heap → Prop} {xs : List V} : HO.ext φ ≠ .tup xs := fun z => by cases z
theorem ext_ne_lst {φ : Heap → Prop} {xs : List V} : HO.ext φ ≠ .lst xs := fun z => by cases z
/-- the abstract heap without a known cell -/
theorem HOk.hide {P : Program} {w : World} {H : Hp} {h : Heap} {cc : Addr} {φ : Heap → Prop} (hok : HOk P w H h) (e : H cc = some (.ext φ)) : HOk P w (del H cc) h := fun b o q => by
  by_cases hb : b = cc
  · rw [hb, del_same] at q
    cases q
  · rw [del_ne hb] at q
    refine (hok b o q).stay (fun _ _ _ z => z) (fun c z => ?_) fun c xs z => ?_
    · rw [del_ne (fun y => by rw [y, e] at z; cases z)]
      exact z
    · rw [del_ne (fun y => by rw [y, e] at z; cases z)]
      exact z
/-- .. and with it again -/
theorem HOk.show {P : Program} {w : World} {H : Hp} {h : Heap} {cc : Addr} {φ : Heap → Prop} (hok : HOk P w (del H cc) h) (e : H cc = some (.ext φ)) (z : ObjOk P w H h cc (.ext φ)) : HOk P w H h := fun b o q => by
  by_cases hb : b = cc
  · rw [hb, e] at q
    cases q
    rw [hb]
    exact z
  · refine (hok b o (by rw [del_ne hb]; exact q)).stay (fun _ _ _ z => z) (fun c z => ?_) fun c xs z => ?_
    · by_cases hc : c = cc
      · rw [hc, del_same] at z; cases z
      · rw [del_ne hc] at z; exact z
    · by_cases hc : c = cc
      · rw [hc, del_same] at z; cases z
      · rw [del_ne hc] at z; exact z
/-- the text of the watcher: one parameter, one captured name -/
structure LamText (F : LF) (cc : Addr) : Prop where
  cl : F.cl = [(("_law_notes" : Str), cc)]
  sc : NScope ["_law_step", "_law_notes"] ["_law_step"] ["_law_notes"] F.scope
  bind : ∀ (pm ctv : Value) (u : Value), bindArgs (PySem.W.kla_fn "<lambda>" F.qual F.params F.body F.scope F.cl pm (.ref F.c) ctv) ⟨[u], []⟩ = pure [(("_law_step" : Str), u)]
  body : ∃ (p1 p2 p3 p4 : Pos), F.body = .Call (.Attribute (.Name "_law_notes" p1) "append" p2) [.Name "_law_step" p3] [] p4 ∧ (p2.endLine == p4.line) = true
/-- at f the watcher, its cell at cc holds the list at n -/
structure Watch (H : Hp) (f cc n : Addr) : Prop where
  ex : ∃ (F : LF) (od : Option Addr) (sl : Array (Option Value)) (pm ctv : Value), H f = some (ExO f (lamObj F od sl pm ctv)) ∧ H F.c = some (CodeO F.c F.qual) ∧ LamText F cc
  cell : ∃ o : Obj, o.data = .cell (some (.ref n)) ∧ H cc = some (ExO cc o)
theorem Watch.of {H H' : Hp} {f cc n : Addr} (w : Watch H f cc n) (k : ∀ b φ, H b = some (.ext φ) → H' b = some (.ext φ)) : Watch H' f cc n := by
  obtain ⟨F, od, sl, pm, ctv, h1, h2, h3⟩ := w.ex
  obtain ⟨o, h4, h5⟩ := w.cell
  exact ⟨⟨F, od, sl, pm, ctv, k _ _ h1, k _ _ h2, h3⟩, o, h4, k _ _ h5⟩
section
variable {P : Program} {w : World} {K : PySem.W.Frag} {mg : Str → Option Value} {base : Heap}
theorem nfBody (X : Cx) (p1 p2 p3 p4 : Pos) (hN : X.N = [("_law_step" : Str), ("_law_notes" : Str)]) (hl : (p2.endLine == p4.line) = true) (v0 : Vis X.env.scope "_law_step") (v1 : Vis X.env.scope "_law_notes") :
    PE X (.Call (.Attribute (.Name "_law_notes" p1) "append" p2) [.Name "_law_step" p3] [] p4) (tBM X.K "list" rAppend (tVar 1) (tCons (tVar 0) tNil)) :=
  pe_bm PySem.F.plainAttrs_list PySem.F.slot_list_append PySem.F.type_list_append mt_append (hline := hl) (pe_var (i := 1) (by rw [hN]; rfl) v1) (pa_cons (pe_var (i := 0) (by rw [hN]; rfl) v0) pa_nil)
/-- THE CALL of the watcher: its argument is appended -/
theorem lam_run {A : Around} {outer : List Env} {s : Shared} {H : Hp} {f cc n : Addr} {u : Value} {x : V} {xs : List V} {Q : VK} {E : XK} {k : Nat} (hr : Room (k + 1) A) (e0 : Env0 P w K mg base A outer s H) (W : Watch H f cc n) (ru : RelV x u) (hn : H n = some (.lst xs)) (hz : xs.length < sizeLine)
    (q : Q .non (upd H n (.lst (xs ++ [x])))) : codeAny (model P w) A (.call (.ref f) ⟨[u], []⟩) (CR L2.CX0 outer P w H s Q E) s := by
  obtain ⟨F, od, sl, pm, ctv, hf, hc, L⟩ := W.ex
  obtain ⟨p1, p2, p3, p4, hbody, hline⟩ := L.body
  obtain ⟨oc0, hoc0, hW⟩ := W.cell
  have hcell0 := exO_at e0.hok hW
  have hcell : s.heap.IsCell cc (some (.ref n)) := ⟨oc0, hcell0, hoc0⟩
  have of1 := exO_at e0.hok hf
  have lim : s.heap.NoLimit := e0.mod.nolimit.keeps fun b o e => (e0.bs b o e).1
  obtain ⟨⟨oc, vs, t, hoc, hdc, hvc⟩, _, _⟩ := e0.hok F.c _ hc
  -- without the cell
  have e1 : Env0 P w K mg base A outer s (del H cc) := ⟨e0.frames, e0.mod, fun b o e => ⟨(e0.bs b o e).1, by
      have z := (e0.bs b o e).2
      by_cases hb : b = cc
      · rw [hb]; exact del_same
      · rw [del_ne hb]; exact z⟩, e0.bsz, e0.funs, fun b hb => by
      have z := e0.frf b hb
      by_cases hb2 : b = cc
      · rw [hb2]; exact del_same
      · rw [del_ne hb2]; exact z, HOk.hide e0.hok hW, e0.bare⟩
  have ncn : n ≠ cc := ne_of hn hW (fun z => by cases z)
  refine PySem.W.kla_callFunE hr.depth of1 rfl L.sc.co L.sc.gen rfl ⟨F.c, oc, vs, t, rfl, hoc, hdc, hvc⟩ ?_
  rw [L.bind]
  refine wpAny_pure (wpAny_newFunctionEnv L.sc.nocell (fun ⟨y, _⟩ hy => L.sc.par y (by
    have z : y = "_law_step" := by simpa using congrArg Prod.fst (List.mem_singleton.mp hy)
    rw [z]; exact List.mem_singleton.mpr rfl)) (fun h₁ hns hsb => ⟨lim.fresh _ hsb, ?_⟩) L.sc.kind)
  have kp : ∀ b o, s.heap.get? b = some o → h₁.get? b = some o := fun b o e => hsb.extBut b o (Nat.ne_of_lt (Heap.lt_size e)) (Heap.get?_push_of_some _ e)
  show codeAny _ _ (.expr F.body _) _ _
  have C : CellsAt (⟨"<lambda>", F.qual, F.params, [], F.scope, F.cl, F.c⟩ : NF).cl ["_law_notes"] [some (.ref n)] s.heap (del H cc) := by
    show CellsAt F.cl _ _ _ _
    rw [L.cl]
    refine ⟨rfl, fun y a e => ?_, fun y z a e1 e2 => ?_, fun i y e => ?_⟩
    · have : y = "_law_notes" ∧ a = cc := by
        simp only [List.lookup] at e
        split at e
        · rename_i h; exact ⟨by simpa using h, (Option.some.inj e).symm⟩
        · cases e
      rw [this.2]
      exact ⟨del_same, _, hcell⟩
    · have l1 : y = "_law_notes" := by
        simp only [List.lookup] at e1
        split at e1
        · rename_i h; simpa using h
        · cases e1
      have l2 : z = "_law_notes" := by
        simp only [List.lookup] at e2
        split at e2
        · rename_i h; simpa using h
        · cases e2
      rw [l1, l2]
    · cases i with
      | zero =>
        have : y = "_law_notes" := by simpa using e.symm
        rw [this]
        exact ⟨cc, by simp [List.lookup], fun v ev => by cases ev; exact ⟨.ref n, rfl, hcell⟩⟩
      | succ i => simp at e
  have J := inv_startN (CX := L2.CX0) (F := ⟨"<lambda>", F.qual, F.params, [], F.scope, F.cl, F.c⟩) (f := f) (E := E) (h₁ := h₁) (tk := s.toks + 1) L.sc hr.hd e1 (vs := [x]) (us := [u]) rfl (.cons ru .nil) C hns kp
  rw [hbody]
  have body := nfBody (ncx L2.CX0 P w K mg base ["_law_step", "_law_notes"] ⟨"<lambda>", F.qual, F.params, [], F.scope, F.cl, F.c⟩ f A outer s (del H cc) E) p1 p2 p3 p4 rfl hline (.inl (L.sc.par _ (List.mem_singleton.mpr rfl))) (.inr (.inr (L.sc.frk _ (List.mem_singleton.mpr rfl))))
  have hn1 : del H cc n = some (.lst xs) := by rw [del_ne ncn]; exact hn
  refine PySem.W.kla_codeExpr (wpAny_mono (body.run [] _ _ (del H cc) (fun v H' => v = .non ∧ H' = upd (del H cc) n (.lst (xs ++ [x]))) J ⟨_, rfl, .inl ⟨rfl, _, SqL.of hn1⟩, _, rfl, n, xs, x, rfl, rfl, hn1, hz, rfl, rfl⟩) (fun v s' hq => ?_) fun e s' hq => hq)
  obtain ⟨w', H', J', rv, ew, eH⟩ := hq
  subst ew eH
  have ub : Un (frs outer) [] (del H cc) (upd (del H cc) n (.lst (xs ++ [x]))) s.heap s'.heap := J'.base
  have hdel : ∀ b, H b = none → del H cc b = none := fun b z => by
    by_cases hb : b = cc
    · rw [hb]; exact del_same
    · rw [del_ne hb]; exact z
  have un : Un (frs outer) [] H (upd H n (.lst (xs ++ [x]))) s.heap s'.heap := ⟨fun b o e z => ub.keep b o e (hdel b z), fun b o e z => ub.slot b o e (hdel b z), fun b o e z _ => by
      rw [upd_ne (fun y => by rw [y, hn] at z; cases z)]; exact z, ub.there, fun b ys e => by
      rw [upd_ne (ne_of e hn (fun z => by cases z))]; exact e, fun b o v e => by
      rw [upd_ne (ne_of e hn (fun z => by cases z))]; exact e, fun b ps e => ⟨#[], by rw [upd_ne (ne_of e hn (fun z => by cases z)), e]; simp⟩⟩
  have hcc : upd H n (.lst (xs ++ [x])) cc = some (ExO cc oc0) := by rw [upd_ne ncn.symm]; exact hW
  have hcell' : s'.heap.get? cc = some oc0 := ub.keep cc _ hcell0 del_same (fun hm => by rw [e0.frf cc hm] at hW; cases hW) (by simp)
  have eq1 : del (upd H n (.lst (xs ++ [x]))) cc = upd (del H cc) n (.lst (xs ++ [x])) := by
    funext b
    by_cases hb : b = cc
    · rw [hb, del_same, upd_ne ncn.symm, del_same]
    · rw [del_ne hb]
      by_cases hb2 : b = n
      · rw [hb2, upd_same, upd_same]
      · rw [upd_ne hb2, upd_ne hb2, del_ne hb]
  have hok : HOk P w (upd H n (.lst (xs ++ [x]))) s'.heap := HOk.show (by rw [eq1]; exact J'.hok) hcc (exO_ok hcell')
  exact ⟨.non, _, J'.os, J'.bare, un, hok, rv, q⟩
end
/-- o.f(e, ..), f an attribute that holds the watcher -/
def tWatch (K : PySem.W.Frag) (m : Str) (to : TE) (t : TA) : TE := fun σ H Q => to σ H fun x H1 => ∃ a C dx fs f cc n, x = .ref a ∧ H1 a = some (.ins C dx fs) ∧ Cls K C ∧ NoAttr K C m ∧ fs.lookup m = some (.ref f) ∧ Watch H1 f cc n ∧
  t σ H1 fun vs H2 => ∃ y xs, vs = [y] ∧ Watch H2 f cc n ∧ H2 n = some (.lst xs) ∧ xs.length < sizeLine ∧ Q .non (upd H2 n (.lst (xs ++ [y])))
theorem watch_fnAt {P : Program} {w : World} {H : Hp} {h : Heap} {f cc n : Addr} (hok : HOk P w H h) (W : Watch H f cc n) : PySem.W.FnAt f h := by
  obtain ⟨F, od, sl, pm, ctv, hf, _⟩ := W.ex
  exact ⟨_, _, _, _, exO_at hok hf⟩
theorem pe_watch {X : Cx} {o e : Expr} {es : List Expr} {m : Str} {apos pos : Pos} {to : TE} {t : TA} {pl : Sem Bool} {k : Nat} (hr : Room (k + 1) X.A) (ho : PE X o to) (ha : PA X (e :: es) t)
    (hst : starEach (e :: es) X.env = (false, eval e X.env) :: starEach es X.env := by rfl) (hpl : (backTo pos (starEach es X.env)).any (·.1) = false := by rfl)
    (ht : eval (.Call (.Attribute o m apos) (e :: es) [] pos) X.env = (do
      let ov ← eval o X.env
      standAt apos.atName
      let (f, first) ← holding [ov] (getMethod ov m pl)
      callWith pos f first (backTo pos (starEach (e :: es) X.env)) (backToKw pos (keywordEach [] X.env))) := by rfl) :
    PE X (.Call (.Attribute o m apos) (e :: es) [] pos) (tWatch X.K m to t) := by
  refine ⟨fun pins s σ H Q I h => ?_⟩
  refine PySem.W.methodCall_KW (pl := pl) (thn (ho.run pins s σ H _ I h) fun u s1 ⟨x, H1, I1, rx, a, C, dx, fs, f, cc, n, ex, ea, hc, hn, l, W, q⟩ => ?_) ht
  subst ex
  obtain rfl : u = Value.ref a := rx
  refine getmeth_field I1 ea hc hn l fun u2 s2 I2 r2 => ?_
  obtain rfl : u2 = Value.ref f := r2
  refine PySem.W.callWith_F (first := []) (watch_fnAt I2.hok W) (thn (ha.run pos pins s2 σ H1 _ I2 q) fun us s3 ⟨vs, H2, I3, r, y, xs, ev, W2, hn2, hz, q2⟩ => ⟨watch_fnAt I3.hok W2, ?_⟩) hst hpl
  subst ev
  cases r with
  | @cons _ u0 _ _ r0 rr =>
    cases rr
    show wpAny _ _ (call (.ref f) [u0]) _ _ _
    refine wpAny_call (codeAny_mono (lam_run (E := L2.E0) hr I3.env0 W2 r0 hn2 hz q2) fun r s' hq => ?_)
    cases r with
    | error e => exact False.elim hq
    | ok fl =>
      cases fl with
      | ret u => exact I3.after hq
      | next => exact False.elim hq
      | brk => exact False.elim hq
      | cont => exact False.elim hq
end Ob
/-! Endless: an exception of the program's own over ArithmeticError, with its own __init__ -/
namespace Ob
open PySem PySem.Spec PySem.W PySem.Calls PyProof.Rows PySem.HandSPX L2
abbrev aeTail : List Value := [.type "ArithmeticError", .type "Exception", .type "BaseException", .type "object"]
abbrev sEndless : Stmt := inClass (top 4) 0
/-- what the written part says of Endless, at C, and of its __init__, at fI -/
structure EndT (K : Frag) (mg : Str → Option Value) (C fI : Addr) : Prop where
  gC : mg "Endless" = some (.ref C)
  cls : ∃ nm q N bs sn sub ab col dd k0 k1 k2 k3 k5, K.lookup C = some (excClassObj nm q C N bs aeTail true sn sub ab col dd k0 k1 k2 k3 k5 "ArithmeticError.__new__")
  sa : findIn K (.ref C) "__setattr__" = some (some (.builtin "object.__setattr__"))
  noN : findIn K (.ref C) "loop" = some none
  iC : findIn K (.ref C) "__init__" = some (some (.ref fI))
  tC : typeIn K (.ref fI) = some (.type "function")
  kC : keepIn K (.ref C) = true
  exC : subIn K (.ref C) (.type "BaseException") = some true
  tyC : typeIn K (.ref C) = some (.type "type")
  te : exmOne K (.ref C) (.ref C) = some true
  fn : ∃ (oc : Value) (od : Option Addr) (doc pm : Value) (an : Option Addr) (kV cdv ct : Value) (osl : Array (Option Value)),
    K.lookup fI = some ⟨oc, od, .func (fnOf "__init__" "Endless.__init__" (defArgs sEndless) (defBody sEndless) (defScope sEndless) .none kV doc pm an cdv ct), osl⟩ ∧ codeIn K cdv "Endless.__init__" = true
theorem mro_pass (self : Value) (C : Addr) : refuseLoop self "__setattr__" (.ref C :: aeTail) = pure () := by
  rw [refuseLoop_ref]
  exact F.store_ArithmeticError.passes self
theorem mro_obj (C : Addr) : (Value.ref C :: aeTail).contains (.type "object") = true := by
  rw [List.contains_cons]
  have : aeTail.contains (.type "object") = true := by decide +kernel
  rw [this, Bool.or_true]
section
open Builtin Builtin.ObjectAttr
variable {prog : Program} {w : World} {A : Around} {E : Value → Shared → Prop} {R : Result → Shared → Prop} {hp : Heap} {g : Array GenState} {d : Drawn} {t : Nat} {os : OsState}
/-- what is known behind a first store at the exception x: its new dict dy -/
structure Stored (hp h1 : Heap) (x C dy : Addr) (fv : Array Value) (name : Str) (v : Value) : Prop where
  old : ∀ b u, b ≠ x → hp.get? b = some u → h1.get? b = some u
  new : hp.objs.size ≤ dy
  apart : dy ≠ x
  exc : h1.get? x = some { cls := .ref C, dict := some dy, data := .fields fv }
  ns : h1.Ns1 dy fun y => if y = name then some v else none
/-- the dict is made, the name is stored in it -/
theorem first_store {K : Frag} {name : Str} {tk : Tok} {v : Value} {x C : Addr} {fv : Array Value} {cd : ClassData} {Q : PySem.Fin → Shared → Prop} (KX : K.In hp) (ex : hp.get? x = some { cls := .ref C, data := .fields fv }) (ec : clsIn K C = some cd) (wd : cd.hasDict = true)
    (done : ∀ h1 t1 dy, Stored hp h1 x C dy fv name v → Q (.done (.ret .none)) ⟨h1, g, d, t1, os⟩) :
    wpAny (model prog w) A (storeInOwnDict (.ref x) (.ref C) (.str name tk) name v false) Q E ⟨hp, g, d, t, os⟩ := by
  have nx : hp.objs.size ≠ x := Nat.ne_of_gt (Heap.lt_size ex)
  have cls : Looks (model prog w) hp (classData C) cd := looks_clsIn KX ec
  cases cd with
  | mk c1 c2 c3 c4 c5 c6 =>
    cases wd
    unfold storeInOwnDict ownDictForStores
    repeat (first | with_reducible refine cls.at ?_ | with_reducible refine wpAny_loadPart_at ex ?_ | with_reducible refine store_in_new ?_ ?_ | wp_step)
    · exact ⟨_, #[], _, (Heap.get?_update_ne _ _ _ _ nx).trans (Heap.get?_push_at rfl rfl), rfl, (fun e z => by simp at z), fun _ => rfl⟩
    · intro h1 t1 ns1 but
      have pushed : (hp.push { cls := .type "dict", data := .dict #[] }).get? x = some { cls := .ref C, data := .fields fv } := Heap.get?_push_of_some _ ex
      exact done h1 t1 hp.objs.size ⟨fun b u nb hb => (but.2 b (Nat.ne_of_lt (Heap.lt_size hb))).trans ((Heap.get?_update_ne _ _ _ _ nb).trans (Heap.get?_push_of_some _ hb)), Nat.le_refl _, nx, (but.2 x nx.symm).trans (Heap.get?_update_self _ pushed rfl), ns1⟩
/-- e.name = v within __init__: object's own __setattr__ -/
theorem end_setattr {K : Frag} {name : Str} {tk : Tok} {v : Value} {x C : Addr} {fv : Array Value} {cd : ClassData} (KX : K.In hp) (ex : hp.get? x = some { cls := .ref C, data := .fields fv }) (ec : clsIn K C = some cd) (em : cd.mro = .ref C :: aeTail) (wd : cd.hasDict = true) (na : findIn K (.ref C) name = some none)
    (done : ∀ h1 t1 dy, Stored hp h1 x C dy fv name v → R (.ok (.ret .none)) ⟨h1, g, d, t1, os⟩) :
    codeAny (model prog w) A (.call (.builtin "object.__setattr__") ⟨[.ref x, .str name tk, v], []⟩) R ⟨hp, g, d, t, os⟩ := by
  have at_ : InstAt hp x { cls := .ref C, data := .fields fv } C none := ⟨ex, rfl, rfl, trivial⟩
  have st := F.store_object
  have inst : Looks (model prog w) hp (isInstance (.ref x) (.type "object")) true := at_.type.andThen (looks_mroIn KX (by
    unfold mroIn
    rw [ec, Option.bind_some, em]
    exact (if_neg (show ¬ (Value.ref C :: aeTail).isEmpty = true from Bool.false_ne_true)).trans (congrArg some (mro_obj C))))
  refine codeAny_call_builtin st.slot.plain st.entry (@check_slot (model prog w) _ _ ⟨hp, g, d, t, os⟩ "object.__setattr__" "object" "__setattr__" (.ref x) [.str name tk, v] [] _ st.kind st.split inst (st.args _ _ v) ?_)
  rw [osa_eq, refuse_eq]
  refine wpAny_bind (wpAny_bind (at_.type.at (wpAny_bind (((looks_clsIn KX ec).andThen (.now : Looks (model prog w) hp (pure cd.mro) cd.mro)).at ?_))))
  rw [em, mro_pass]
  exact wpAny_pure (wpAny_bind (at_.type.at (wpAny_bind ((looks_findIn KX na).at (wpAny_bind ((.now : Looks (model prog w) hp (storeTaker? none) none).at (first_store KX ex ec wd done)))))))
end
theorem one_size (v : Value) : [v].length ≤ sizeLine := by
  rw [sizeLine_eq]
  exact (by decide : 1 ≤ 16777216)
theorem ldC {M : Model} {s : Shared} {name : Str} {scope : Scope} {L a : Addr} {cd : Value} {m : Str → Option Value} {x : Str} {pos : Pos} {v : Value} {Q : Value → Shared → Prop} {A : Around} {E : Value → Shared → Prop} (hn : s.heap.Ns L m) (hv : m x = some v) (h : Q v s)
    (hk : scope.kind = .function := by rfl) (hl : (envOfC name scope L a cd).kindOf x = some .local := by rfl) (hd : (x == ("__debug__" : Str)) = false := by decide) :
    wpAny M A (eval (.Name x pos) (envOfC name scope L a cd)) Q E s := wpAny_Name (wpAny_loadName_local hk hl hn hv h) hd
/-- what __init__ leaves of a fresh exception at x -/
structure InitEnd (h h' : Heap) (x C dx t1 : Addr) (v : Value) : Prop where
  keep : ∀ b o, b ≠ x → h.get? b = some o → h'.get? b = some o
  obj : h'.get? x = some { cls := .ref C, dict := some dx, data := .fields #[.ref t1, .none, .none, .none, .bool false, .none] }
  dbig : h.objs.size ≤ dx
  dne : dx ≠ x
  ns : h'.Ns1 dx (fun y => if y = "loop" then some v else none)
/-- a made Endless -/
structure OwnMade (h h' : Heap) (e C d : Addr) (v : Value) : Prop where
  keep : ∀ b o, h.get? b = some o → h'.get? b = some o
  new : h.objs.size ≤ e
  obj : ∃ oe vs, h'.get? e = some oe ∧ oe.cls = .ref C ∧ oe.dict = some d ∧ oe.data = .fields vs ∧ vs[1]? = some .none
  dbig : h.objs.size ≤ d
  dne : d ≠ e
  ns : h'.Ns1 d (fun y => if y = "loop" then some v else none)
section
variable {prog : Program} {w : World} {A : Around} {E : Value → Shared → Prop} {R : Result → Shared → Prop} {s : Shared} {K : Frag} {mg : Str → Option Value} {C fI : Addr}
theorem end_init (T : EndT K mg C fI) {x t0 : Addr} {v : Value} (X : K.In s.heap) (hlim : s.heap.NoLimit) (hx : s.heap.get? x = some (excO C t0)) (hnx : K.lookup x = none) (hroom : A.depth < recursionLimit)
    (hq : ∀ h' tk dx, InitEnd s.heap h' x C dx t0 v → R (.ok (.ret .none)) { s with heap := h', toks := tk }) :
    codeAny (model prog w) A (.call (.ref fI) ⟨[.ref x, v], []⟩) R s := by
  obtain ⟨oc, od, doc, pm, an, kV, cdv, ct, osl, ho, hcd⟩ := T.fn
  obtain ⟨nm, q, N, bs, sn, sub, ab, col, dd, k0, k1, k2, k3, k5, hC⟩ := T.cls
  have hcl : clsIn K C = some { name := nm, bases := bs, mro := .ref C :: aeTail, ns := N, qualname := q, hasDict := true, slotNames := sn, subclasses := sub, abstract := ab, collection := col, hasDel := false } := by unfold clsIn; rw [hC] <;> rfl
  refine Att.call_fn (binds := [("self", .ref x), ("loop", v)]) X hlim ho hcd hroom (BindsTo.of_eq (by first | rfl | with_unfolding_all rfl)) (by first | rfl | decide | with_unfolding_all rfl) (fun s₁ IC => ?_) rfl rfl rfl
  obtain ⟨h₁, tk₁, rfl⟩ := IC.toInCall.same
  have k : ∀ b o, s.heap.get? b = some o → h₁.get? b = some o := IC.toInCall.keep
  have hn := IC.toInCall.ns
  have hxL : s.heap.objs.size ≠ x := Nat.ne_of_gt (Heap.lt_size hx)
  have X₁ : K.In h₁ := X.keeps k
  have hx₁ := k _ _ hx
  show wpAny _ _ (execs _ _) _ _ _
  refine wpAny_execs_cons (plainObj_wpAny_Assign_Attribute ?_)
  refine ldC (v := v) hn (by first | rfl | with_unfolding_all rfl | kernel_rfl) (ldC (v := .ref x) hn (by first | rfl | with_unfolding_all rfl | kernel_rfl) ?_)
  refine set_plain X₁ (ox := excO C t0) (od := none) ⟨hx₁, rfl, rfl, trivial⟩ T.sa ?_
  refine end_setattr X₁ hx₁ hcl rfl rfl T.noN (fun h₃ tk₃ dx S => ?_)
  show wpAny _ _ (execs _ _) _ _ _
  have z : s.heap.objs.size < h₁.objs.size := hn.lt
  exact wpAny_execs_nil (hq h₃ tk₃ dx ⟨fun b o hb e => S.old b o hb (k b o e), S.exc, Nat.le_of_lt (Nat.lt_of_lt_of_le z S.new), S.apart, S.ns⟩)
theorem end_made (T : EndT K mg C fI) {v : Value} (X : K.In s.heap) (hlim : s.heap.NoLimit) (hroom : A.depth + 1 < recursionLimit)
    (hq : ∀ h' tk e d, OwnMade s.heap h' e C d v → R (.ok (.ret (.ref e))) { s with heap := h', toks := tk }) :
    codeAny (model prog w) A (.call (.ref C) ⟨[v], []⟩) R s := by
  obtain ⟨nm, q, N, bs, sn, sub, ab, col, dd, k0, k1, k2, k3, k5, hC⟩ := T.cls
  obtain ⟨hp, g, dr, tk, os⟩ := s
  have k : ∀ b o, hp.get? b = some o → ((hp.push (kdv_tup [v])).push (excO C hp.objs.size)).get? b = some o := fun b o e => Heap.get?_push_of_some _ (Heap.get?_push_of_some _ e)
  have hget : ((hp.push (kdv_tup [v])).push (excO C hp.objs.size)).get? (hp.objs.size + 1) = some (excO C hp.objs.size) := by heap_get
  have hnx : K.lookup (hp.objs.size + 1) = none := by
    cases e : K.lookup (hp.objs.size + 1) with
    | none => rfl
    | some o =>
      have z : hp.get? (hp.objs.size + 1) = some o := X _ _ e
      exact absurd (Nat.lt_of_succ_lt (Heap.lt_size z)) (Nat.lt_irrefl _)
  refine call_own F.excBase_ArithmeticError (fun X => rfl) (X _ _ hC) (looks_findIn X T.iC) (fun self => bind_fn X self T.tC) (one_size v) ?_
  refine end_init (s := ⟨(hp.push (kdv_tup [v])).push (excO C hp.objs.size), g, dr, tk, os⟩) T (X.keeps k) (hlim.keeps k) hget hnx ?_ fun h' tk' dx ⟨k', hx, dn, dne, hns⟩ => ?_
  · show A.depth + 1 < recursionLimit
    exact hroom
  · have old : ∀ b o, hp.get? b = some o → h'.get? b = some o := fun b o e => k' b o (Nat.ne_of_lt (Nat.lt_succ_of_lt (Heap.lt_size e))) (k b o e)
    have z : hp.objs.size + 1 + 1 ≤ dx := by
      first
        | (simpa only [Heap.size_push] using dn)
        | exact dn
        | (have q := dn; rw [Heap.size_push, Heap.size_push] at q; exact q)
    exact ⟨rfl, hq h' tk' (hp.objs.size + 1) dx ⟨old, Nat.le_succ _, ⟨_, _, hx, rfl, rfl, rfl, rfl⟩, Nat.le_trans (Nat.le_trans (Nat.le_succ _) (Nat.le_succ _)) z, dne, hns⟩⟩
end
theorem relO_loop {v : V} {v' : Value} (r : RelV v v') (f : Str) : RelO (List.lookup f [(("loop" : Str), v)]) (if f = "loop" then some v' else none) := by
  by_cases hw : f = "loop"
  · subst hw
    rw [if_pos rfl]
    have q : List.lookup ("loop" : Str) [(("loop" : Str), v)] = some v := by simp [List.lookup]
    rw [q]
    exact r
  · rw [if_neg hw]
    have qw : (f == ("loop" : Str)) = false := by simpa using hw
    have q2 : List.lookup f [(("loop" : Str), v)] = none := by simp [List.lookup, qw]
    rw [q2]
    trivial
section
variable {X : Cx} {C fI : Addr}
/-- Endless(e) -/
def tMkEnd (C : Addr) (ta : TA) : L2.St → Hp → XK → Prop := fun σ H Q => ta σ H fun vs H1 => ∃ v, vs = [v] ∧ ∀ d, H1 d = none → Q (.ref C) (some d) (upd H1 d (.xd [(("loop" : Str), v)]))
theorem pmk_end {a : Expr} {ta : TA} {p pos : Pos} {k : Nat} (T : EndT X.K X.mg C fI) (hr : Room k X.A) (ha : PA X [a] ta) (hg : Gl X "Endless" := by rfl)
    (he : starEach (a :: []) X.env = (false, eval a X.env) :: starEach [] X.env := by rfl) (hpl : (backTo pos (starEach [] X.env)).any (·.1) = false := by rfl) :
    PMk X (.Call (.Name "Endless" p) [a] [] pos) (tMkEnd C ta) := by
  intro pins s σ H Q I h
  refine wpAny_Call_Name_kw (ld_glob I hg T.gC ?_)
  refine callWith_K (h₀ := X.base) I.ok.mod.kin T.kC (thn (ha.run pos pins s σ H _ I h) fun us s1 hh => ?_) he hpl
  obtain ⟨vs, H1, I1, r1, v, ev, q1⟩ := hh
  subst ev
  refine ⟨I1.kIn, ?_⟩
  cases r1 with
  | cons rv rn =>
    rename_i v' us'
    cases rn
    show wpAny _ _ (call (.ref C) [v']) _ _ _
    have hlim := I1.nolimit
    obtain ⟨hp, g, dr, tk, os⟩ := s1
    refine wpAny_call (end_made T I1.kIn hlim (by have := hr.dp; omega) fun h' tk' e d M => ?_)
    show MkP X pins σ Q (.ref e) ⟨h', g, dr, tk', os⟩
    obtain ⟨oe, fv, hoe, hc, hd, hdat, h1⟩ := M.obj
    have hns := M.ns
    obtain ⟨G', g1, g2⟩ := restrict h' fun b => decide (b ≠ e)
    have gk : ∀ b, b ≠ e → G'.get? b = h'.get? b := fun b hb => g1 b (decide_eq_true hb)
    have ge : G'.get? e = none := g2 e (by simp)
    have old : ∀ b o, hp.get? b = some o → G'.get? b = some o := fun b o q => (gk b (Nat.ne_of_lt (Nat.lt_of_lt_of_le (Heap.lt_size q) M.new))).trans (M.keep b o q)
    have ob : ObjOk X.prog X.w (upd H1 d (.xd [(("loop" : Str), v)])) G' d (.xd [(("loop" : Str), v)]) :=
      ⟨_, hns.at (fun o q => (gk d M.dne).trans q), fun f => relO_loop rv f⟩
    have J : Inv X pins σ (upd H1 d (.xd [(("loop" : Str), v)])) ⟨G', g, dr, tk', os⟩ := I1.laid (t' := tk') old M.dbig ob
    refine ⟨e, oe, fv, ⟨G', g, dr, tk', os⟩, _, .ref C, some d, rfl, J, fun b o q => ?_, ge, hoe, ⟨hc, hd⟩, hdat, h1, ?_, rfl, I1.bare, raises_own T.exC T.tyC, q1 d (I1.hok.fresh M.dbig)⟩
    · by_cases hb : b = e
      · have q' : G'.get? b = some o := q
        rw [hb, ge] at q'; cases q'
      · exact (gk b hb).symm.trans q
    · rw [upd_ne (Ne.symm M.dne)]
      exact I1.hok.fresh M.new
/-- raise Endless(e) -/
def tRaiseEnd (C : Addr) (W : WX) (ta : TA) : L2.TS := fun _ σ H => tMkEnd C ta σ H fun cls d H' => W cls d σ H'
theorem ps_raiseEnd {a : Expr} {ta : TA} {W : WX} {p pos pos2 : Pos} {k : Nat} (hc : X.calm = true) (T : EndT X.K X.mg C fI) (hr : Room k X.A) (tk : Takes X W) (ha : PA X [a] ta) (hg : Gl X "Endless" := by rfl)
    (he : starEach (a :: []) X.env = (false, eval a X.env) :: starEach [] X.env := by rfl) (hpl : (backTo pos (starEach [] X.env)).any (·.1) = false := by rfl) :
    PS X (.Raise (some (.Call (.Name "Endless" p) [a] [] pos)) none pos2) (tRaiseEnd C W ta) := ps_raise hc tk (pmk_end T hr ha hg he hpl)
end
end Ob
/-! The passes of a loop, in plain Lean. -/
namespace Ob
open PySem PySem.Spec PyProof.Rows L2
/-- a note: the index, the item, the rule -/
structure Step where
  k : Nat
  x : Nat
  r : Option Nat
/-- the told rules, carried out from the list xs0 on: the list, the mark, whether the last one broke -/
def play (L : Lo) (xs0 : List Nat) (ss : List Step) : List Nat × Int × Bool := ss.foldl (fun t s => passOf L s.r s.k t.1 t.2.1) (xs0, 0, false)
theorem play_snoc (L : Lo) (xs0 : List Nat) (ss : List Step) (s : Step) : play L xs0 (ss ++ [s]) = passOf L s.r s.k (play L xs0 ss).1 (play L xs0 ss).2.1 := by
  unfold play
  rw [List.foldl_append]
  rfl
/-- the notes are right, pass by pass -/
def Good (L : Lo) (xs0 : List Nat) (ss : List Step) : Prop := ∀ i s, ss[i]? = some s → s.k = i ∧ (play L xs0 (ss.take i)).1[i]? = some s.x ∧ (play L xs0 (ss.take i)).2.2 = false ∧ ∀ j, s.r = some j → j < L.rules.length
theorem Good.nil (L : Lo) (xs0 : List Nat) : Good L xs0 [] := fun i s h => by simp at h
theorem Good.snoc {L : Lo} {xs0 : List Nat} {ss : List Step} {s : Step} (g : Good L xs0 ss) (h1 : s.k = ss.length) (h2 : (play L xs0 ss).1[ss.length]? = some s.x) (h3 : (play L xs0 ss).2.2 = false) (h4 : ∀ j, s.r = some j → j < L.rules.length) : Good L xs0 (ss ++ [s]) := fun i t h => by
  by_cases hi : i < ss.length
  · rw [List.getElem?_append_left hi] at h
    rw [List.take_append_of_le_length (Nat.le_of_lt hi)]
    exact g i t h
  · have e : i = ss.length := by
      have := (List.getElem?_eq_some_iff.mp h).1
      rw [List.length_append] at this
      have : i < ss.length + 1 := this
      omega
    subst e
    rw [List.getElem?_append_right (Nat.le_refl _), Nat.sub_self] at h
    have et : s = t := by simpa using h
    subst et
    rw [List.take_append_of_le_length (Nat.le_refl _), List.take_length]
    exact ⟨h1, h2, h3, h4⟩
def endOf (L : Lo) (m : Int) : List Nat := (L.ends[m.toNat]?).getD []
/-- what a loop leaves, and whether it broke -/
def fin (L : Lo) (xs0 : List Nat) (ss : List Step) : List Nat × Bool := if (play L xs0 ss).2.2 = true then ((play L xs0 ss).1, true) else ((play L xs0 ss).1 ++ endOf L (play L xs0 ss).2.1, false)
structure Done (L : Lo) (xs0 : List Nat) (ss : List Step) : Prop where
  good : Good L xs0 ss
  len : (play L xs0 ss).2.2 = false → (play L xs0 ss).1.length ≤ ss.length
/-! ### what a pass keeps -/
theorem apEd_mem {xs : List Nat} {k : Nat} {e : Ed} {c : Nat} (he : e.ok) (hx : ∀ c ∈ xs, Lc c) (h : c ∈ apEd xs k e) : Lc c := by
  cases e with
  | put d =>
    rcases List.mem_or_eq_of_mem_set h with h | h
    · exact hx c h
    · rw [h]; exact he
  | drop => exact hx c (List.mem_of_mem_eraseIdx h)
  | dropN => exact hx c (List.mem_of_mem_eraseIdx h)
  | bef d =>
    simp only [apEd, List.mem_append, List.mem_singleton] at h
    rcases h with (h | h) | h
    · exact hx c (List.mem_of_mem_take h)
    · rw [h]; exact he
    · exact hx c (List.mem_of_mem_drop h)
  | aft d =>
    simp only [apEd, List.mem_append, List.mem_singleton] at h
    rcases h with (h | h) | h
    · exact hx c (List.mem_of_mem_take h)
    · rw [h]; exact he
    · exact hx c (List.mem_of_mem_drop h)
  | mark m => exact hx c h
  | brk => exact hx c h
structure Fine (t : List Nat × Int × Bool) : Prop where
  xs : ∀ c ∈ t.1, Lc c
  m : Mk4 t.2.1
theorem cStep_fine {k : Nat} {t : List Nat × Int × Bool} {e : Ed} (he : e.ok) (f : Fine t) : Fine (cStep k t e) := by
  cases e with
  | mark m => exact ⟨f.xs, he⟩
  | brk => exact ⟨f.xs, f.m⟩
  | put d => exact ⟨fun c h => apEd_mem he f.xs h, f.m⟩
  | drop => exact ⟨fun c h => apEd_mem (e := .drop) trivial f.xs h, f.m⟩
  | dropN => exact ⟨fun c h => apEd_mem (e := .dropN) trivial f.xs h, f.m⟩
  | bef d => exact ⟨fun c h => apEd_mem he f.xs h, f.m⟩
  | aft d => exact ⟨fun c h => apEd_mem he f.xs h, f.m⟩
theorem carry_fine {k : Nat} : ∀ {es : List Ed} {t : List Nat × Int × Bool}, (∀ e ∈ es, e.ok) → Fine t → Fine (carry k es t)
  | [], _, _, f => f
  | e :: r, t, h, f => carry_fine (es := r) (fun d hd => h d (List.mem_cons_of_mem _ hd)) (cStep_fine (h e (List.mem_cons_self ..)) f)
theorem cStep_len2 (k : Nat) (t : List Nat × Int × Bool) (e : Ed) : (cStep k t e).1.length ≤ t.1.length + if e.isIns = true then 1 else 0 := by
  cases e with
  | mark m => exact Nat.le_refl _
  | brk => exact Nat.le_refl _
  | put d => show (t.1.set k d).length ≤ _; rw [List.length_set]; exact Nat.le_refl _
  | drop => exact List.length_eraseIdx_le ..
  | dropN => exact List.length_eraseIdx_le ..
  | bef d => exact apEd_len t.1 k (.bef d)
  | aft d => exact apEd_len t.1 k (.aft d)
theorem carry_len2 (k : Nat) : ∀ (es : List Ed) (t : List Nat × Int × Bool), (carry k es t).1.length ≤ t.1.length + es.countP Ed.isIns
  | [], t => Nat.le_refl _
  | e :: r, t => by
    have h := carry_len2 k r (cStep k t e)
    have h2 := cStep_len2 k t e
    show (carry k r (cStep k t e)).1.length ≤ _
    rw [List.countP_cons]
    omega
theorem edsOf_ok {L : Lo} (hL : L.ok) (r : Option Nat) : (∀ e ∈ edsOf L r, e.ok) ∧ (edsOf L r).countP Ed.isIns ≤ 1 := by
  cases r with
  | none => exact ⟨(fun e h => by cases h), Nat.zero_le _⟩
  | some i =>
    show (∀ e ∈ (match L.rules[i]? with | some r => r.eds | none => []), e.ok) ∧ (match L.rules[i]? with | some r => r.eds | none => []).countP Ed.isIns ≤ 1
    cases h : L.rules[i]? with
    | none => exact ⟨(fun e h => by cases h), Nat.zero_le _⟩
    | some ru =>
      have ok := (hL.rules ru (List.mem_of_getElem? h)).eds
      exact ⟨ok.ok, ok.ins⟩
theorem pass_fine {L : Lo} (hL : L.ok) (r : Option Nat) (k : Nat) {xs : List Nat} {m : Int} (hx : ∀ c ∈ xs, Lc c) (hm : Mk4 m) : Fine (passOf L r k xs m) := carry_fine (edsOf_ok hL r).1 ⟨hx, hm⟩
theorem pass_len {L : Lo} (hL : L.ok) (r : Option Nat) (k : Nat) (xs : List Nat) (m : Int) : (passOf L r k xs m).1.length ≤ xs.length + 1 := by
  have h := carry_len2 k (edsOf L r) (xs, m, false)
  have h2 := (edsOf_ok hL r).2
  have h3 : (carry k (edsOf L r) (xs, m, false)).1.length ≤ xs.length + (edsOf L r).countP Ed.isIns := h
  show (carry k (edsOf L r) (xs, m, false)).1.length ≤ _
  omega
/-! ### the states that a loop can be in -/
theorem nd_le {α : Type} [DecidableEq α] : ∀ (l u : List α), l.Nodup → (∀ x ∈ l, x ∈ u) → l.length ≤ u.length
  | [], _, _, _ => Nat.zero_le _
  | a :: r, u, h, s => by
    have ha := s a (List.mem_cons_self ..)
    obtain ⟨h1, h2⟩ := List.nodup_cons.mp h
    have ih := nd_le r (u.erase a) h2 fun x hx => (List.mem_erase_of_ne (fun e => h1 (by rw [← e]; exact hx))).mpr (s x (List.mem_cons_of_mem _ hx))
    rw [List.length_erase_of_mem ha] at ih
    have := List.length_pos_of_mem ha
    rw [List.length_cons]
    omega
abbrev Sk := Int × Nat × Nat
def Sk.ok (n : Nat) (t : Sk) : Prop := Mk4 t.1 ∧ Lc t.2.1 ∧ 1 ≤ t.2.2 ∧ t.2.2 ≤ n
def allSk (n : Nat) : List Sk := ([0, 1, 2, 3] : List Int).flatMap fun m => al.flatMap fun c => (List.range n).map fun r => (m, c, r + 1)
theorem allSk_len (n : Nat) : (allSk n).length = 16 * n := by
  simp [allSk, al, List.length_flatMap]
  omega
theorem allSk_mem {n : Nat} {t : Sk} (h : Sk.ok n t) : t ∈ allSk n := by
  obtain ⟨m, c, r⟩ := t
  obtain ⟨⟨h1, h2⟩, h3, h4, h5⟩ := h
  simp only at h1 h2 h3 h4 h5
  unfold allSk
  rw [List.mem_flatMap]
  refine ⟨m, by simp; omega, ?_⟩
  rw [List.mem_flatMap]
  refine ⟨c, h3, ?_⟩
  rw [List.mem_map]
  exact ⟨r - 1, by simp; omega, by rw [Nat.sub_add_cancel h4]⟩
theorem sk_le {n : Nat} {ks : List Sk} (nd : ks.Nodup) (h : ∀ t ∈ ks, Sk.ok n t) : ks.length ≤ 16 * n := by
  rw [← allSk_len n]
  exact nd_le _ _ nd fun t ht => allSk_mem (h t ht)
def skKey (t : Sk) : List Key := [.inl t.1, .inr ⟨#[t.2.1]⟩, .inl (t.2.2 : Nat)]
def skDict (ks : List Sk) : List (List Key × V) := ks.map fun t => (skKey t, .bl true)
theorem skDict_not {ks : List Sk} {t : Sk} (h : valV (skDict ks) (skKey t) = none) : t ∉ ks := fun hm => by
  have : ∀ (ks : List Sk), t ∈ ks → valV (skDict ks) (skKey t) ≠ none := by
    intro ks
    induction ks with
    | nil => intro h; cases h
    | cons a r ih =>
      intro hm
      by_cases e : skKey a = skKey t
      · show valV ((skKey a, V.bl true) :: skDict r) (skKey t) ≠ none
        rw [valV_pos e]
        simp
      · show valV ((skKey a, V.bl true) :: skDict r) (skKey t) ≠ none
        rw [valV_neg e]
        rcases List.mem_cons.mp hm with z | z
        · exact absurd (by rw [z]) e
        · exact ih z
  exact this ks hm h
theorem skDict_put {ks : List Sk} {t : Sk} (h : valV (skDict ks) (skKey t) = none) : putK (skDict ks) (skKey t) (.bl true) = skDict (ks ++ [t]) := by
  rw [putK_new _ h]
  simp [skDict]
theorem nd_snoc' {ks : List Sk} {t : Sk} (nd : ks.Nodup) (h : t ∉ ks) : (ks ++ [t]).Nodup := by
  rw [List.nodup_append]
  refine ⟨nd, List.nodup_cons.mpr ⟨by simp, List.nodup_nil⟩, fun a ha b hb e => ?_⟩
  have : b = t := by simpa using hb
  exact h (by rw [← this, ← e]; exact ha)
/-! ### notes in the heap -/
def AtStep (n : Nat) (H : Hp) (p : Addr) (s : Step) : Prop := H p = some (.tup [.int (n : Nat), .int (s.k : Nat), sg s.x, optV s.r])
theorem AtStep.ts {n : Nat} {H H' : Hp} (t : TS H H') {p : Addr} {s : Step} (h : AtStep n H p s) : AtStep n H' p s := t _ _ h
end Ob
/-! Rules that the library lacks: l.extend(text), list(text), text * number, sum of a tuple, x in tuple (deep). -/
namespace Ob
open PySem PySem.Spec PyProof.Rows L2
section
variable {prog : Program} {w : World} {A : Around}
/-- a walk counted from pre.size on: what stands ahead of it are pre's items -/
def Ahead (pre : Array Value) (P : Nat → Value → Prop) (i : Nat) (v : Value) : Prop := (i < pre.size → pre[i]? = some v) ∧ (pre.size ≤ i → P (i - pre.size) v)
theorem walk_later {I : Addr} {fp wr : List Addr} {G : Array GenState → Array GenState → Prop} {n : Nat} {P : Nat → Value → Prop} {St : Nat → Shared → Prop} (W : WalksS prog w A I fp wr G n P St) (pre : Array Value) :
    WalksS prog w A I fp wr G (pre.size + n) (Ahead pre P) (fun i s => pre.size ≤ i ∧ St (i - pre.size) s) where
  sub := W.sub
  grefl := W.grefl
  gtrans := W.gtrans
  frame := fun i s h' tk st ht hk => ⟨st.1, W.frame (i - pre.size) s h' tk st.2 ht hk⟩
  item := fun i s Q E hi st hq => W.item (i - pre.size) s Q E (by omega) st.2 fun v s' hP st' hm => hq v s' ⟨fun z => absurd st.1 (Nat.not_le.mpr z), fun _ => hP⟩ ⟨Nat.le_succ_of_le st.1, by rw [Nat.sub_add_comm st.1]; exact st'⟩ hm
  done := fun s Q E st hq => W.done s Q E (by have z := st.2; rw [Nat.add_sub_cancel_left] at z; exact z) hq
  self := fun i s Q E st hq => W.self (i - pre.size) s Q E st.2 hq
/-- a text tells no length that makes a list touch itself -/
theorem text_hint {E : Value → Shared → Prop} {s : Shared} {x : Str} {t : Tok} {Q : Bool → Shared → Prop} (h : Q false s) : wpAny (model prog w) A (Builtin.List.listLengthHint (.str x t)) Q E s := by
  have ty : s.TypeIs (.str x t) "str" := rfl
  unfold Builtin.List.listLengthHint
  refine wpAny_bind (wpAny_specialOf ty PySem.F.str_len ?_)
  wp_delta
  exact wpAny_bind (wpAny_isInstance (b := true) ty (by rw [isSubtype_type]; kernel_rfl) (by
    show wpAny _ _ (typeOf (Value.str x t) >>= _) _ _ _
    exact wpAny_bind (wpAny_typeOf ty (wpAny_pure h))))
/-- l.extend(text), whatever l holds: pre, then the text's signs -/
theorem text_extends {R : PySem.Result → Shared → Prop} {s : Shared} {x : Str} {t : Tok} {l : Addr} {pre : Array Value} {n : Nat} (hh : A.handled = none) (hl : s.heap.get? l = some { cls := .type "list", data := .seq pre n }) (hz : pre.size + x.cps.size ≤ sizeLine)
    (k : ∀ h1 t1 its n1, (∀ b u, b ≠ l → s.heap.get? b = some u → h1.get? b = some u) → h1.get? l = some { cls := .type "list", data := .seq its n1 } → ItemsOf (Ahead pre (SignAt x)) its (pre.size + x.cps.size) → R (.ok (.ret .none)) { s with heap := h1, toks := t1 }) :
    wpAny (model prog w) A.in1 (Builtin.List.listExtendWith (.ref l) (.str x t) .none) (fun f s' => match f with | .done f => R (.ok f) s' | .again c => c.quiet = true ∧ codeAny (model prog w) A c R s') (fun e s' => R (.error e) s') s := by
  have ne : l ≠ s.heap.objs.size := Nat.ne_of_lt (Heap.lt_size hl)
  unfold Builtin.List.listExtendWith
  refine wpAny_bind (wpAny_typeOf (T := "str") (v := .str x t) rfl ?_)
  rw [if_neg (show ¬ (Builtin.List.listSameRef (.ref l) (.str x t) || Value.type "str" == Value.type "list" || Value.type "str" == Value.type "tuple") = true from (by decide : ¬ (false || Value.type "str" == Value.type "list" || Value.type "str" == Value.type "tuple") = true))]
  refine wpAny_bind (wpAny_pyIter_str fun o St W hst => wpAny_bind (wpAny_holding (text_hint ?_)))
  rw [if_neg (by decide)]
  have W2 := walk_later (W A.in1 hh).toS pre
  refine wpAny_pure ⟨plainId_quiet PySem.F.plain_extend_loop _, codeAny_extend_loopS W2 hz l (by simpa using ne) .none x.cps.size pre.size _ pre n (by omega) (Nat.le_add_right _ _) ⟨Nat.le_refl _, by rw [Nat.sub_self]; exact hst⟩ (Heap.get?_push_of_some _ hl) ⟨rfl, fun j v hj => ⟨fun _ => hj, fun z => absurd (Array.getElem?_eq_some_iff.mp hj).1 (Nat.not_lt.mpr z)⟩⟩ fun s1 its n1 mv hl1 hits => ?_⟩
  rw [Moved.eq_with mv]
  refine k s1.heap s1.toks its n1 (fun b u nb e => mv.heap b u ?_ (Heap.get?_push_of_some _ e)) hl1 hits
  have nI : b ≠ s.heap.objs.size := Nat.ne_of_lt (Heap.lt_size e)
  simp [nb, nI]
theorem vals_signs {x : Str} {acc : Array Value} (h : ItemsOf (SignAt x) acc x.cps.size) : Vals (x.cps.toList.map sg) acc.toList := by
  refine vals_of_idx _ _ (by rw [List.length_map, Array.length_toList, Array.length_toList, h.1]) fun j u hu => ?_
  rw [Array.getElem?_toList] at hu
  obtain ⟨c, t, hc, rfl⟩ := h.2 j u hu
  refine ⟨sg c, ?_, ⟨t, rfl⟩⟩
  rw [List.getElem?_map, Array.getElem?_toList, hc]
  rfl
theorem vals_more {x : Str} {xs : List V} {pre its : Array Value} (r : Vals xs pre.toList) (h : ItemsOf (Ahead pre (SignAt x)) its (pre.size + x.cps.size)) : Vals (xs ++ x.cps.toList.map sg) its.toList := by
  have lx : xs.length = pre.size := r.length
  refine vals_of_idx _ _ (by rw [Array.length_toList, h.1, List.length_append, List.length_map, lx, Array.length_toList]) fun j u hu => ?_
  rw [Array.getElem?_toList] at hu
  obtain ⟨h1, h2⟩ := h.2 j u hu
  rcases Nat.lt_or_ge j pre.size with c | c
  · obtain ⟨v, hv⟩ : ∃ v, xs[j]? = some v := ⟨_, List.getElem?_eq_getElem (by omega)⟩
    obtain ⟨u2, hu2, ru⟩ := r.get hv
    rw [Array.getElem?_toList, h1 c] at hu2
    cases hu2
    exact ⟨v, by rw [List.getElem?_append_left (by omega)]; exact hv, ru⟩
  · obtain ⟨c2, t, hc, rfl⟩ := h2 c
    refine ⟨sg c2, ?_, ⟨t, rfl⟩⟩
    rw [List.getElem?_append_right (by omega), List.getElem?_map, Array.getElem?_toList, lx, hc]
    rfl
end
section
variable {X : Cx}
def rExtendS : V → List V → Hp → VK → Prop := fun x vs H Q => ∃ l z xs, x = .ref l ∧ vs = [.str z] ∧ H l = some (.lst xs) ∧ xs.length + z.cps.size ≤ sizeLine ∧ Q .non (upd H l (.lst (xs ++ z.cps.toList.map sg)))
theorem mt_extendS (hc : X.calm = true) : MtM X "list.extend" rExtendS := by
  intro pins s σ H x vs v us Q I rx rv h
  obtain ⟨l, z, xs, rfl, rfl, hH, hz, q⟩ := h
  cases rx
  obtain ⟨u, rfl, ru⟩ := rv.one
  obtain ⟨t, rfl⟩ := ru
  obtain ⟨_, its, n, r, hl, e⟩ := I.lstM hH
  refine wpAny_call (codeAny_call_builtin PySem.F.slot_list_extend.plain PySem.F.entry_list_extend (PySem.F.slot_list_extend.check _ _ _ _ _ _ _ _ ⟨_, e, rfl⟩ (PySem.F.args_list_extend_2 _ _) ?_))
  show wpAny _ _ (do let (self, x) ← selfAndOne "list.extend" ⟨[.ref l, .str z t], []⟩; Builtin.List.listExtendWith self x .none) _ _ s
  refine wpAny_bind ?_
  refine wpAny_pure ?_
  show wpAny _ X.A.in1 (Builtin.List.listExtendWith (.ref l) (.str z t) .none) _ _ s
  refine text_extends (R := wants (EP X pins σ Q) X.xe) (I.ok.hd hc) e (by rw [List.size_toArray]; omega) fun h1 t1 its1 n1 kp hl1 hits => ?_
  have va := vals_more (pre := its.toArray) r hits
  refine ⟨.non, _, I.write (x := l) (e := l) (o := .lst (xs ++ z.cps.toList.map sg)) (t' := t1) (by rw [hH]; exact trivial) (.inl rfl) kp ⟨_, hl1⟩ (show ObjOk X.prog X.w _ h1 l (.lst (xs ++ z.cps.toList.map sg)) from ⟨?_, its1.toList, n1, va, hl1⟩), rfl, q⟩
  rw [List.length_append, List.length_map, Array.length_toList]
  exact hz
/-- list(text) -/
def rListS : List V → Hp → VK → Prop := fun xs H Q => ∃ z, xs = [.str z] ∧ z.cps.size ≤ sizeLine ∧ ∀ l, H l = none → Q (.ref l) (upd H l (.lst (z.cps.toList.map sg)))
theorem call_listS (hc : X.calm = true) : CallR X (.type "list") rListS := by
  intro pins s σ H xs us Q I r h
  obtain ⟨z, rfl, hz, q⟩ := h
  obtain ⟨u, rfl, rx⟩ := vals1 r
  obtain ⟨t, rfl⟩ := rx
  refine call_list_str (I.ok.hd hc) z t (fun h' tk acc' c' kp e hacc => ?_) hz
  have va := vals_signs hacc
  refine ⟨.ref s.heap.objs.size, _, I.laid (t' := tk) kp (Nat.le_refl _) (show ObjOk X.prog X.w _ h' _ (.lst (z.cps.toList.map sg)) from ⟨by rw [List.length_map, Array.length_toList]; exact hz, acc'.toList, c', va, e⟩), rfl, q _ (I.hok.fresh (Nat.le_refl _))⟩
/-- text * 0, text * 1 -/
def rMulS : R2 := fun x y H Q => ∃ (z : Str) (b : Int), x = .str z ∧ y = .int b ∧ (b = 0 ∨ b = 1) ∧ z.length ≤ 1000 ∧ Q (.str (if b = 0 then Str.empty else z)) H
theorem op_mulS : OpR X (binaryOp .Mult) rMulS := by
  intro pins s σ H x y v u Q I rx ry h
  obtain ⟨z, b, rfl, rfl, hb, hz, q⟩ := h
  obtain ⟨t1, rfl⟩ := rx
  obtain ⟨t2, rfl⟩ := ry
  rcases hb with rfl | rfl
  · exact PySem.P.mul_str_none (by decide) (by decide) ⟨.str Str.empty, H, I.tok _, ⟨_, rfl⟩, q⟩
  · refine PySem.P.mul_str (by decide) (fun _ h => by simp at h) (fun _ h => by simp at h) ?_
    rw [if_neg (by decide), if_pos (by rfl)]
    exact ⟨.str z, H, I, ⟨_, rfl⟩, q⟩
/-- sum(t), t a tuple of ints -/
def rSumT (K : PySem.W.Frag) : List V → Hp → VK → Prop := fun vs H Q => ∃ (a : Addr) (ns : List Int), vs = [V.ref a] ∧ SqT K H a (ns.map V.int) ∧ Q (.int ns.sum) H
theorem cr_sumT (hc : X.calm = true) : CallR X (.builtin "sum") (rSumT X.K) := by
  intro pins s σ H vs us Q I r h
  obtain ⟨a, ns, rfl, hs, q⟩ := h
  obtain ⟨its, rv, hl, _⟩ := I.tuple hs
  rw [Vals.ref1 r]
  have hi := rv.ints
  obtain ⟨xs, e⟩ := hi.allInts.items
  have hn : numsOf (intItems xs).toList = ns := by rw [← e]; exact hi.numsOf
  rw [nums_intItems] at hn
  have hl' : s.heap.IsTuple a (intItems xs) := by rw [← e]; exact hl
  have hlt : a < s.heap.objs.size := by obtain ⟨_, z, _⟩ := hl'; exact Heap.lt_size z
  refine PySem.call_sum_walkG (wpAny_pyIter_tuple hl' ?_)
  refine ⟨_, _, _, _, _, _, numAt xs, rfl, Walks.tuple (A := X.A.in1) (I.ok.hd hc) s.heap.objs.size a (Nat.ne_of_lt hlt) (intItems xs), ⟨⟨_, Heap.get?_push_size _ rfl, rfl, rfl⟩, hl'.push _⟩, fun b hb => ?_, (fun _ _ => intItems_at), fun h' tk t' hk => ?_⟩
  · show b < (s.heap.push _).objs.size
    rw [Heap.size_push]
    have e' : b = s.heap.objs.size ∨ b = a := by simpa using hb
    rcases e' with z | z
    · rw [z]; exact Nat.lt_succ_self _
    · rw [z]; exact Nat.lt_succ_of_lt hlt
  · have hold : ∀ c o, s.heap.get? c = some o → h'.get? c = some o := fun c o e => hk c o (fun hm => by
      have z : c = s.heap.objs.size := by simpa using hm
      exact absurd (Heap.lt_size e) (by rw [z]; exact Nat.lt_irrefl _)) (Heap.get?_push_of_some _ e)
    have e2 : preSum (numAt xs) (intItems xs).size = ns.sum := by
      have z : (intItems xs).size = xs.size := by simp [intItems]
      rw [z, preSum_eq, List.take_of_length_le (by simp), hn]
    rw [e2]
    exact ⟨.int _, H, I.kept (t' := tk) hold, ⟨_, rfl⟩, q⟩
/-- x in t, t a tuple of data of any depth -/
def rInDT (K : PySem.W.Frag) : R2 := fun x y H Q => ∃ d ds, Dp K H x d ∧ Dp K H y (.tuple ds) ∧ SeqAt.shaped d = true ∧ SeqAt.shaped (.tuple ds) = true ∧ Q (.bl (ds.any fun z => PyData.eqv z d)) H
theorem op_inDT (hu : X.A.units + 65 < cLine) : OpR X (compareOp .In) (rInDT X.K) := by
  intro pins s σ H x y v u Q I rx ry h
  obtain ⟨d, ds, hd, he, sd, se, q⟩ := h
  obtain ⟨as, r1⟩ := Dp.reads I d x v hd rx
  obtain ⟨bs, r2⟩ := Dp.reads I (.tuple ds) y u he ry
  have se' : PyData.canLayAll0 ds = true := SeqAt.canLay_of_shaped se
  exact SeqAt.in_tuple_reads r2 r1 se' (SeqAt.canLay_of_shaped sd) (room_in_shaped sd hu) ⟨.bl _, H, I, rfl, q⟩
end
end Ob
namespace Ob
open PySem PySem.Spec PyProof.Rows L2 StX C8
/-! ### plain: what the passes keep -/
theorem play_fold {L : Lo} (hL : L.ok) : ∀ (ss : List Step) (t : List Nat × Int × Bool), Fine t → Fine (ss.foldl (fun t s => passOf L s.r s.k t.1 t.2.1) t) ∧ (ss.foldl (fun t s => passOf L s.r s.k t.1 t.2.1) t).1.length ≤ t.1.length + ss.length
  | [], t, f => ⟨f, Nat.le_refl _⟩
  | s :: r, t, f => by
    obtain ⟨h1, h2⟩ := play_fold hL r (passOf L s.r s.k t.1 t.2.1) (pass_fine hL s.r s.k f.xs f.m)
    refine ⟨h1, ?_⟩
    have h3 := pass_len hL s.r s.k t.1 t.2.1
    rw [List.foldl_cons, List.length_cons]
    omega
theorem mk0 : Mk4 0 := ⟨by decide, by decide⟩
theorem play_fine {L : Lo} (hL : L.ok) {xs0 : List Nat} (hx : ∀ c ∈ xs0, Lc c) (ss : List Step) : Fine (play L xs0 ss) := (play_fold hL ss (xs0, 0, false) ⟨hx, mk0⟩).1
theorem play_len {L : Lo} (hL : L.ok) {xs0 : List Nat} (hx : ∀ c ∈ xs0, Lc c) (ss : List Step) : (play L xs0 ss).1.length ≤ xs0.length + ss.length := (play_fold hL ss (xs0, 0, false) ⟨hx, mk0⟩).2
theorem end_at {L : Lo} (hL : L.ok) {m : Int} (hm : Mk4 m) : L.ends[m.toNat]? = some (endOf L m) ∧ (∀ c ∈ endOf L m, Lc c) ∧ (endOf L m).length ≤ 4 := by
  obtain ⟨h1, h2⟩ := hm
  have hl : m.toNat < L.ends.length := by rw [hL.el]; omega
  have e : endOf L m = L.ends[m.toNat] := by
    show (L.ends[m.toNat]?).getD [] = _
    rw [List.getElem?_eq_getElem hl]
    rfl
  obtain ⟨h3, h4⟩ := hL.ends _ (List.getElem_mem hl)
  rw [e]
  exact ⟨List.getElem?_eq_getElem hl, h3, h4⟩
theorem fin_fine {L : Lo} (hL : L.ok) {xs0 : List Nat} (hx : ∀ c ∈ xs0, Lc c) (ss : List Step) : (∀ c ∈ (fin L xs0 ss).1, Lc c) ∧ (fin L xs0 ss).1.length ≤ xs0.length + ss.length + 4 := by
  have f := play_fine hL hx ss
  have l := play_len hL hx ss
  obtain ⟨e1, e2, e3⟩ := end_at hL f.m
  unfold fin
  split
  · refine ⟨f.xs, ?_⟩
    show (play L xs0 ss).1.length ≤ _
    omega
  · refine ⟨fun c hc => ?_, ?_⟩
    · rcases List.mem_append.mp hc with h | h
      · exact f.xs c h
      · exact e2 c h
    · show (_ ++ _ : List Nat).length ≤ _
      rw [List.length_append]
      omega
/-! ### run_loop -/
structure Tr (w : World) (K : PySem.W.Frag) (mg : Str → Option Value) (c : Cs) (fI : Addr) : Prop extends Tc w K mg c where
  mRun : MetAt K c.u "run_loop" "Runner.run_loop" (inClass (top 34) 1)
  te : EndT K mg c.e fI
def wayS (b : Bool) : Str := if b = true then "break" else "end"
section
variable {P : Program} {w : World} {K : PySem.W.Frag} {mg : Str → Option Value} {base : Heap} {c : Cs} {fI : Addr}
def ButL (l nt : Addr) (H H' : Hp) : Prop := ∀ b o, b ≠ l → b ≠ nt → H b = some o → H' b = some o
def But4 (l nt cn en : Addr) (H H' : Hp) : Prop := ∀ b o, b ≠ l → b ≠ nt → b ≠ cn → b ≠ en → H b = some o → H' b = some o
theorem ButL.trans {l nt : Addr} {H H1 H2 : Hp} (p : ButL l nt H H1) (q : ButL l nt H1 H2) : ButL l nt H H2 := fun b o h1 h2 h => q b o h1 h2 (p b o h1 h2 h)
theorem ButL.of {l nt : Addr} {H H1 : Hp} (s : Same H H1) : ButL l nt H H1 := fun b o _ _ h => s b o h
theorem ButL.nt {l nt : Addr} {H : Hp} {o : HO} : ButL l nt H (upd H nt o) := fun b u _ h2 h => by rw [upd_ne h2]; exact h
theorem ButL.l {l nt : Addr} {H : Hp} {o : HO} : ButL l nt H (upd H l o) := fun b u h1 _ h => by rw [upd_ne h1]; exact h
def spRun (c : Cs) : Sp := fun vs H Q E => ∃ (a lp l dx f cc nt cn en : Addr) (n : Nat) (L : Lo) (xs0 : List Nat) (ns cs es : List V), vs = [.ref a, .ref lp, .int (n : Nat)] ∧ H a = some (.ins c.u dx (uF l f cn en)) ∧ AtLo H lp L ∧ L.ok ∧ H l = some (.lst (xs0.map sg)) ∧ (∀ x ∈ xs0, Lc x) ∧ xs0.length ≤ 50000 ∧ Watch H f cc nt ∧
  H nt = some (.lst ns) ∧ ns.length ≤ 1000000 ∧ H cn = some (.lst cs) ∧ cs.length ≤ 100 ∧ H en = some (.lst es) ∧ es.length ≤ 100 ∧ l ≠ nt ∧ l ≠ cn ∧ l ≠ en ∧ nt ≠ cn ∧ nt ≠ en ∧ cn ≠ en ∧
  (∀ d H', ButL l nt H H' → (∃ ys, H' nt = some (.lst ys)) → E (.ref c.e) (some d) H') ∧
  ∀ ss ps H', Done L xs0 ss → ss.length ≤ 16 * xs0.length → Paired (AtStep n H') ps ss → H' nt = some (.lst (ns ++ ps.map V.ref)) → H' l = some (.lst ((fin L xs0 ss).1.map sg)) → H' cn = some (.lst (cs ++ [.int (ss.length : Nat)])) → H' en = some (.lst (es ++ [.str (wayS (fin L xs0 ss).2)])) → But4 l nt cn en H H' → Q .non H'
theorem sc_run_loop : FnScope ["self", "loop", "number", "index", "mark", "made", "way", "seen", "state", "step"] ["self", "loop", "number"] (defScope (inClass (top 34) 1)) := ⟨rfl, rfl, rfl, by decide +kernel, rfl, by decide +kernel, by decide +kernel⟩
theorem m_run_loop (T : Tr w K mg c fI) : ∃ f fd ps, Meth K c.u "run_loop" f ∧ FnOk P w K mg base (L2.CX P w) 5 f fd ps (spRun c) ∧ Binds K fd ps [] := by
  have M_pass := mk_pass (P := P) (base := base) T.toTc
  have TE := T.te
  obtain ⟨f, fd, M, F⟩ := T.mRun
  refine ⟨f, fd, ["self", "loop", "number"], M, F.ok sc_run_loop (fun vs H Q E h => ?_) fun cdv A outer s H vs Q E hr h => ?_, F.bindsN (fun _ _ _ _ _ _ us hl => match us, hl with | [_, _, _], _ => rfl)⟩
  · obtain ⟨a, lp, l, dx, f, cc, nt, cn, en, n, L, xs0, ns, cs, es, rfl, _⟩ := h
    rfl
  · obtain ⟨a, lp, l, dx, f, cc, nt, cn, en, n, L, xs0, ns, cs, es, rfl, ha, hL, ok, hl, hx, hz, hW, hnt, hnz, hcn, hcz, hen, hez, d1, d2, d3, d4, d5, d6, ke, kq⟩ := h
    refine ⟨_, (pss_cons (ps_asg3 pe_int (pg_name (i := 3) sc_run_loop.nd rfl (Or.inl rfl)) (pg_name (i := 4) sc_run_loop.nd rfl (Or.inl rfl)) (pg_name (i := 5) sc_run_loop.nd rfl (Or.inl rfl)))
      (pss_cons (ps_set (i := 6) sc_run_loop.nd rfl (Or.inl rfl) (pe_gc rfl T.END_WAY))
      (pss_cons (ps_set (i := 7) sc_run_loop.nd rfl (Or.inl rfl) pe_dnewT)
      (pss_cons (ps_whileE (passes_of rfl) (pt_cmpR op_lt (pv 3) (pe_callB call_len_seq rfl T.nLen boot_len (pa_cons (pe_fld (pv 0) rfl) pa_nil)) (nomark _)) (pss_cons (ps_set (i := 8) sc_run_loop.nd rfl (Or.inl rfl) (pe_tup (pa_cons (pv 4) (pa_cons (pe_ix ix_list (pe_fld (pv 0) rfl) (pv 3) (fun _ _ => rfl)) (pa_cons (pe_op op_sub (pe_callB call_len_seq rfl T.nLen boot_len (pa_cons (pe_fld (pv 0) rfl) pa_nil)) (pv 3)) pa_nil)))))
      (pss_cons (ps_if (pt_cmp (pc_din (hu_of hr) (pv 8) (pv 7))) (pss_one (ps_raiseEnd rfl TE hr (takes_of rfl rfl rfl rfl) (pa_cons (pv 2) pa_nil))) pss_nil)
      (pss_cons (ps_dput (hu_of hr) (pv 7) (pv 8) pe_bl rfl)
      (pss_cons (ps_set (i := 9) sc_run_loop.nd rfl (Or.inl rfl) (pe_mk M_pass hr (by decide) rfl (pa_cons (pv 1) (pa_cons (pe_fld (pv 0) rfl) (pa_cons (pv 3) (pa_cons (pv 4) pa_nil))))))
      (pss_cons (ps_set (i := 4) sc_run_loop.nd rfl (Or.inl rfl) (pe_fld (pv 9) rfl))
      (pss_cons (ps_aug (i := 5) sc_run_loop.nd rfl (Or.inl rfl) pe_int ip_add)
      (pss_cons (ps_if (pt_cmpR op_notN (pe_fld (pv 0) rfl) pe_non (nomark _)) (pss_one (ps_expr (pe_watch (k := 3) hr (pv 0) (pa_cons (pe_tup (pa_cons (pv 2) (pa_cons (pv 3) (pa_cons (pe_fld (pv 9) rfl) (pa_cons (pe_fld (pv 9) rfl) pa_nil))))) pa_nil)))) pss_nil)
      (pss_cons (ps_if (pt_val (pe_fld (pv 9) rfl)) (pss_cons (ps_set (i := 6) sc_run_loop.nd rfl (Or.inl rfl) (pe_gc rfl T.BREAK_WAY))
      (pss_one ps_break)) pss_nil)
      (pss_one (ps_aug (i := 3) sc_run_loop.nd rfl (Or.inl rfl) pe_int ip_add)))))))))) (pss_one (ps_expr (pe_bm PySem.F.plainAttrs_list PySem.F.slot_list_extend PySem.F.type_list_extend (mt_extendS rfl) (pe_fld (pv 0) rfl) (pa_cons (pe_ix ix_tup (pe_ix ix_tup (pv 1) pe_int (fun _ _ => rfl)) (pv 4) (fun _ _ => rfl)) pa_nil)))))
      (pss_cons (ps_expr (pe_bm PySem.F.plainAttrs_list PySem.F.slot_list_append PySem.F.type_list_append mt_append (pe_fld (pv 0) rfl) (pa_cons (pv 5) pa_nil)))
      (pss_one (ps_expr (pe_bm PySem.F.plainAttrs_list PySem.F.slot_list_append PySem.F.type_list_append mt_append (pe_fld (pv 0) rfl) (pa_cons (pv 6) pa_nil))))))))), ?_⟩
    obtain ⟨q1, q2, hL1, hL2, hL3⟩ := id hL
    have tne : ∀ {p : Addr} {xs : List V} {b : Addr} {ys : List V}, H p = some (.tup xs) → H b = some (.lst ys) → p ≠ b := fun h1 h2 => ne_of h1 h2 (fun z => by cases z)
    have anl : a ≠ l := ne_of ha hl (fun z => by cases z)
    have ant : a ≠ nt := ne_of ha hnt (fun z => by cases z)
    have anc : a ≠ cn := ne_of ha hcn (fun z => by cases z)
    have ane : a ≠ en := ne_of ha hen (fun z => by cases z)
    have bts : ∀ {H1 : Hp}, ButL l nt H H1 → TS H H1 := fun b p ys q => b p _ (tne q hl) (tne q hnt) q
    have bex : ∀ {H1 : Hp}, ButL l nt H H1 → Watch H1 f cc nt := fun b => hW.of fun x φ q => b x _ (ne_of q hl (fun z => by cases z)) (ne_of q hnt (fun z => by cases z)) q
    -- the end of the walk
    have close : ∀ (ss : List Step) (ps : List Addr) (i m v7 v8 v9 : Option V) (H7 : Hp), Done L xs0 ss → ss.length ≤ 16 * xs0.length → ButL l nt H H7 → H7 nt = some (.lst (ns ++ ps.map V.ref)) → Paired (AtStep n H7) ps ss → H7 l = some (.lst ((fin L xs0 ss).1.map sg)) →
        (tSeq (tDrop (tBM K "list" rAppend (tFld K (tVar 0) "counts") (tCons (tVar 5) tNil))) (tDrop (tBM K "list" rAppend (tFld K (tVar 0) "endings") (tCons (tVar 6) tNil)))) { nx := fun _ H' => Q .non H', rt := Q }
          [some (.ref a), some (.ref lp), some (.int (n : Nat)), i, m, some (.int (ss.length : Nat)), some (.str (wayS (fin L xs0 ss).2)), v7, v8, v9] H7 := by
      intro ss ps i m v7 v8 v9 H7 dn sl b7 hn7 hp7 hl7
      have ha7 := b7 a _ anl ant ha
      have hc7 := b7 cn _ d2.symm d4.symm hcn
      have he7 := b7 en _ d3.symm d5.symm hen
      refine ⟨_, rfl, a, c.u, dx, _, _, rfl, ha7, T.cU, T.nCounts, uF_counts _ _ _ _, .inl ⟨rfl, _, SqL.of hc7⟩, _, rfl, cn, cs, _, rfl, rfl, hc7, smallL (by omega), ?_⟩
      have e1 : upd H7 cn (.lst (cs ++ [.int (ss.length : Nat)])) a = some (.ins c.u dx (uF l f cn en)) := by rw [upd_ne anc]; exact ha7
      have e2 : upd H7 cn (.lst (cs ++ [.int (ss.length : Nat)])) en = some (.lst es) := by rw [upd_ne d6.symm]; exact he7
      refine ⟨_, rfl, a, c.u, dx, _, _, rfl, e1, T.cU, T.nEndings, uF_endings _ _ _ _, .inl ⟨rfl, _, SqL.of e2⟩, _, rfl, en, es, _, rfl, rfl, e2, smallL (by omega), ?_⟩
      have ts : TS H7 (upd (upd H7 cn (.lst (cs ++ [.int (ss.length : Nat)]))) en (.lst (es ++ [.str (wayS (fin L xs0 ss).2)]))) := (TS.lst hc7).trans (TS.lst e2)
      refine kq ss ps _ dn sl (Paired.mapP hp7 fun _ _ z => z.ts ts) ?_ ?_ ?_ upd_same fun b o h1 h2 h3 h4 hb => ?_
      · rw [upd_ne d5, upd_ne d4]; exact hn7
      · rw [upd_ne d3, upd_ne d2]; exact hl7
      · rw [upd_ne d6, upd_same]
      · rw [upd_ne h4, upd_ne h3]; exact b7 b o h1 h2 hb
    intro dd ndd
    have ddl : dd ≠ l := (ne_of_none hl ndd).symm
    have ddn : dd ≠ nt := (ne_of_none hnt ndd).symm
    refine ⟨fun m σ H1 => ∃ (ss : List Step) (ps : List Addr) (ks : List Sk) (v8 v9 : Option V), m = 16 * xs0.length - ss.length ∧
        σ = [some (.ref a), some (.ref lp), some (.int (n : Nat)), some (.int (ss.length : Nat)), some (.int (play L xs0 ss).2.1), some (.int (ss.length : Nat)), some (.str "end"), some (.ref dd), v8, v9] ∧
        Good L xs0 ss ∧ (play L xs0 ss).2.2 = false ∧ ks.length = ss.length ∧ ks.Nodup ∧ (∀ t ∈ ks, Sk.ok xs0.length t) ∧ H1 dd = some (.dT (skDict ks)) ∧ H1 l = some (.lst ((play L xs0 ss).1.map sg)) ∧ H1 nt = some (.lst (ns ++ ps.map V.ref)) ∧ Paired (AtStep n H1) ps ss ∧ ButL l nt H H1,
      ⟨_, [], [], [], none, none, rfl, rfl, Good.nil _ _, rfl, rfl, List.nodup_nil, (fun t h => by cases h), upd_same, (by rw [upd_ne ddl.symm]; exact hl), (by rw [upd_ne ddn.symm, List.map_nil, List.append_nil]; exact hnt), .nil, ButL.of (same_new ndd)⟩, ?_⟩
    rintro m σ H1 ⟨ss, ps, ks, v8, v9, rfl, rfl, hg, hb, kl, knd, kok, hdd, hl1, hn1, hp1, b1⟩
    have sl : ss.length ≤ 16 * xs0.length := by rw [← kl]; exact sk_le knd kok
    have pl := play_len ok hx ss
    have pf := play_fine ok hx ss
    have psl : ps.length = ss.length := Paired.len hp1
    have ha1 := b1 a _ anl ant ha
    refine ⟨_, rfl, _, rfl, a, c.u, dx, _, _, rfl, ha1, T.cU, T.nCurrent, uF_current _ _ _ _, l, _, rfl, .inl (SqL.of hl1), _, _, rfl, rfl, _, rfl, ?_⟩
    rw [List.length_map]
    by_cases c1 : ss.length < (play L xs0 ss).1.length
    · refine iteTd (by omega) ?_
      refine ⟨_, fun _ _ h => h, ?_⟩
      obtain ⟨x, hxi⟩ : ∃ x, (play L xs0 ss).1[ss.length]? = some x := ⟨_, List.getElem?_eq_getElem c1⟩
      have hxs : ((play L xs0 ss).1.map sg)[ss.length]? = some (sg x) := by rw [List.getElem?_map, hxi]; rfl
      refine ⟨_, rfl, _, rfl, a, c.u, dx, _, _, rfl, ha1, T.cU, T.nCurrent, uF_current _ _ _ _, _, rfl, l, _, _, sg x, rfl, rfl, SqL.of hl1, atI_nat hxs, _, rfl, a, c.u, dx, _, _, rfl, ha1, T.cU, T.nCurrent, uF_current _ _ _ _, l, _, rfl, .inl (SqL.of hl1), _, rfl, _, _, rfl, rfl, (by show 3 ≤ sizeLine; decide), fun t nt0 => ?_⟩
      rw [List.length_map]
      have er : (((play L xs0 ss).1.length : Nat) : Int) - ((ss.length : Nat) : Int) = (((play L xs0 ss).1.length - ss.length : Nat) : Int) := by omega
      dsimp only
      rw [er]
      have s2 : Same H1 (upd H1 t (.tup ((skKey ((play L xs0 ss).2.1, x, (play L xs0 ss).1.length - ss.length)).map kV))) := same_new nt0
      have ht : upd H1 t (.tup ((skKey ((play L xs0 ss).2.1, x, (play L xs0 ss).1.length - ss.length)).map kV)) t = some (.tup ((skKey ((play L xs0 ss).2.1, x, (play L xs0 ss).1.length - ss.length)).map kV)) := upd_same
      show tSeq _ _ _ _ (upd H1 t (.tup ((skKey ((play L xs0 ss).2.1, x, (play L xs0 ss).1.length - ss.length)).map kV)))
      have skok : Sk.ok xs0.length ((play L xs0 ss).2.1, x, (play L xs0 ss).1.length - ss.length) := ⟨pf.m, pf.xs x (List.mem_of_getElem? hxi), by show 1 ≤ _ - _; omega, by show _ - _ ≤ _; omega⟩
      generalize ((play L xs0 ss).2.1, x, (play L xs0 ss).1.length - ss.length) = key at s2 ht skok
      generalize upd H1 t (.tup ((skKey key).map kV)) = H2 at s2 ht
      have b2 := b1.trans (ButL.of s2)
      have hdd2 := s2 _ _ hdd
      refine ⟨_, rfl, _, rfl, dd, _, rfl, DGet.t hdd2 ht, _, rfl, ?_⟩
      cases hv : valV (skDict ks) (skKey key) with
      | some v =>
        refine ⟨_, rfl, _, rfl, fun d nd => ke d _ (b2.trans (ButL.of (same_new nd))) ⟨ns ++ ps.map V.ref, ?_⟩⟩
        have := s2 _ _ hn1
        rw [upd_ne (ne_of_none this nd)]
        exact this
      | none =>
        refine ⟨_, rfl, _, rfl, dd, _, rfl, DPut.t hdd2 ht (smallL ?_), ?_⟩
        · show (ks.map _).length < _
          rw [List.length_map]
          omega
        rw [skDict_put hv]
        have knd' := nd_snoc' knd (skDict_not hv)
        have kok' : ∀ t ∈ ks ++ [key], Sk.ok xs0.length t := fun t h => by
          rcases List.mem_append.mp h with h | h
          · exact kok t h
          · rw [List.mem_singleton.mp h]; exact skok
        have hdd3 : upd H2 dd (.dT (skDict (ks ++ [key]))) dd = some (.dT (skDict (ks ++ [key]))) := upd_same
        have b3 : ButL l nt H (upd H2 dd (.dT (skDict (ks ++ [key])))) := fun b o h1 h2 h => by
          rw [upd_ne (ne_of_none h ndd)]; exact b2 b o h1 h2 h
        have hl3 : upd H2 dd (.dT (skDict (ks ++ [key]))) l = some (.lst ((play L xs0 ss).1.map sg)) := by rw [upd_ne ddl.symm]; exact s2 _ _ hl1
        have hn3 : upd H2 dd (.dT (skDict (ks ++ [key]))) nt = some (.lst (ns ++ ps.map V.ref)) := by rw [upd_ne ddn.symm]; exact s2 _ _ hn1
        have ts3 : TS H1 (upd H2 dd (.dT (skDict (ks ++ [key])))) := (TS.of s2).trans (TS.put hdd2 fun _ z => by cases z)
        generalize upd H2 dd (.dT (skDict (ks ++ [key]))) = H3 at hdd3 b3 hl3 hn3 ts3
        have ha3 := b3 a _ anl ant ha
        -- step = Pass(..)
        refine ⟨_, rfl, _, rfl, a, c.u, dx, _, _, rfl, ha3, T.cU, T.nCurrent, uF_current _ _ _ _, _, rfl, _, rfl, fun y dy ny ndy nyy => ?_⟩
        have s4 : Same H3 (upd (upd H3 dy (.own y)) y (.ins c.p dy [])) := same_new' (same_new ndy) (by rw [upd_ne nyy.symm]; exact ny)
        refine ⟨y, lp, l, dy, L, (play L xs0 ss).1, ss.length, x, (play L xs0 ss).2.1, rfl, upd_same, hL.ts ((bts b3).trans (TS.of s4)), fun r hr => (ok.rules r hr).eds.len, s4 _ _ hl3, hxi, by omega, fun r H4 hr2 g1 g2 g3 => ⟨rfl, ?_⟩⟩
        have yl : y ≠ l := (ne_of_none hl3 ny).symm
        have yn : y ≠ nt := (ne_of_none hn3 ny).symm
        have yd : y ≠ dd := (ne_of_none hdd3 ny).symm
        have b4 : ButL l nt H H4 := fun b o h1 h2 h => g3 b o (ne_of_none (b3 b o h1 h2 h) ny) h1 (s4 _ _ (b3 b o h1 h2 h))
        have hn4 := g3 nt _ yn.symm d1.symm (s4 _ _ hn3)
        have hdd4 := g3 dd _ yd.symm ddl (s4 _ _ hdd3)
        have ts4 : TS H1 H4 := ts3.trans fun p xs q => g3 p _ (ne_of_none q ny) (ne_of q hl3 (fun z => by cases z)) (s4 _ _ q)
        have pe := play_snoc L xs0 ss ⟨ss.length, x, r⟩
        have es : passOf L r ss.length (play L xs0 ss).1 (play L xs0 ss).2.1 = play L xs0 (ss ++ [⟨ss.length, x, r⟩]) := pe.symm
        rw [es] at g1 g2
        have sn : (ss ++ [(⟨ss.length, x, r⟩ : Step)]).length = ss.length + 1 := by simp
        have hg' : Good L xs0 (ss ++ [⟨ss.length, x, r⟩]) := hg.snoc rfl hxi hb hr2
        have ha4 := b4 a _ anl ant ha
        -- mark = step.mark; made += 1
        refine ⟨_, rfl, y, c.p, dy, _, _, rfl, g1, T.cP, T.nMark, pF_mark _ _ _ _, ?_⟩
        refine ⟨_, rfl, _, _, rfl, rfl, ?_⟩
        -- the watcher
        refine ⟨_, rfl, a, c.u, dx, _, _, rfl, ha4, T.cU, T.nWatcher, uF_watcher _ _ _ _, rfl, true, rfl, ?_⟩
        refine ⟨_, rfl, a, c.u, dx, _, f, cc, nt, rfl, ha4, T.cU, T.nWatcher, uF_watcher _ _ _ _, bex b4, _, rfl, _, rfl, _, rfl, y, c.p, dy, _, _, rfl, g1, T.cP, T.nItem, pF_item _ _ _ _, _, rfl, y, c.p, dy, _, _, rfl, g1, T.cP, T.nRule, pF_rule _ _ _ _, (by show 4 ≤ sizeLine; decide), fun p np => ?_⟩
        have s5 : Same H4 (upd H4 p (.tup [.int (n : Nat), .int (ss.length : Nat), sg x, optV r])) := same_new np
        have hp5 : upd H4 p (.tup [.int (n : Nat), .int (ss.length : Nat), sg x, optV r]) p = some (.tup [.int (n : Nat), .int (ss.length : Nat), sg x, optV r]) := upd_same
        generalize upd H4 p (.tup [.int (n : Nat), .int (ss.length : Nat), sg x, optV r]) = H5 at s5 hp5
        refine ⟨_, _, rfl, bex (b4.trans (ButL.of s5)), s5 _ _ hn4, smallL (by rw [List.length_append, List.length_map]; omega), ?_⟩
        have b6 : ButL l nt H (upd H5 nt (.lst (ns ++ ps.map V.ref ++ [.ref p]))) := (b4.trans (ButL.of s5)).trans ButL.nt
        have hn6 : upd H5 nt (.lst (ns ++ ps.map V.ref ++ [.ref p])) nt = some (.lst (ns ++ (ps ++ [p]).map V.ref)) := by rw [upd_same, List.map_append, ← List.append_assoc]; rfl
        have hl6 : upd H5 nt (.lst (ns ++ ps.map V.ref ++ [.ref p])) l = some (.lst ((play L xs0 (ss ++ [⟨ss.length, x, r⟩])).1.map sg)) := by rw [upd_ne d1]; exact s5 _ _ g2
        have hy6 : upd H5 nt (.lst (ns ++ ps.map V.ref ++ [.ref p])) y = some (.ins c.p dy (pF (sg x) (optV r) (.int (play L xs0 (ss ++ [⟨ss.length, x, r⟩])).2.1) (.bl (play L xs0 (ss ++ [⟨ss.length, x, r⟩])).2.2))) := by rw [upd_ne yn]; exact s5 _ _ g1
        have hd6 : upd H5 nt (.lst (ns ++ ps.map V.ref ++ [.ref p])) dd = some (.dT (skDict (ks ++ [key]))) := by rw [upd_ne ddn]; exact s5 _ _ hdd4
        have ts6 : TS H5 (upd H5 nt (.lst (ns ++ ps.map V.ref ++ [.ref p]))) := TS.lst (s5 _ _ hn4)
        have hp6 : Paired (AtStep n (upd H5 nt (.lst (ns ++ ps.map V.ref ++ [.ref p])))) (ps ++ [p]) (ss ++ [⟨ss.length, x, r⟩]) := Paired.snoc (AtStep.ts (s := ⟨ss.length, x, r⟩) ts6 hp5) (Paired.mapP hp1 fun _ _ z => z.ts ((ts4.trans (TS.of s5)).trans ts6))
        generalize upd H5 nt (.lst (ns ++ ps.map V.ref ++ [.ref p])) = H6 at b6 hn6 hl6 hy6 hd6 hp6
        refine ⟨_, rfl, y, c.p, dy, _, _, rfl, hy6, T.cP, T.nBroken, pF_broken _ _ _ _, _, rfl, ?_⟩
        have kl' : (ks ++ [key]).length = (ss ++ [(⟨ss.length, x, r⟩ : Step)]).length := by rw [sn, List.length_append, kl]; rfl
        have sl' : (ss ++ [(⟨ss.length, x, r⟩ : Step)]).length ≤ 16 * xs0.length := by rw [← kl']; exact sk_le knd' kok'
        have ei : ((ss.length : Nat) : Int) + 1 = (((ss ++ [(⟨ss.length, x, r⟩ : Step)]).length : Nat) : Int) := by rw [sn]; omega
        generalize hss : ss ++ [(⟨ss.length, x, r⟩ : Step)] = ss' at *
        cases hbr : (play L xs0 ss').2.2 with
        | true =>
          have ef : fin L xs0 ss' = ((play L xs0 ss').1, true) := by unfold fin; rw [if_pos hbr]
          have key2 := close ss' (ps ++ [p]) (some (.int (ss.length : Nat))) (some (.int (play L xs0 ss').2.1)) (some (.ref dd)) (some (.ref t)) (some (.ref y)) H6 ⟨hg', fun z => by rw [hbr] at z; cases z⟩ sl' b6 hn6 hp6 (by rw [ef]; exact hl6)
          rw [ef, ← ei] at key2
          exact key2
        | false =>
          refine ⟨_, rfl, _, _, rfl, rfl, ?_⟩
          refine ⟨16 * xs0.length - ss'.length, by omega, ss', ps ++ [p], ks ++ [key], some (.ref t), some (.ref y), rfl, ?_, hg', hbr, kl', knd', kok', hd6, hl6, hn6, hp6, b6⟩
          rw [← ei]
          rfl
    · refine iteFd (by omega) ?_
      obtain ⟨e1, e2, e3⟩ := end_at ok pf.m
      have ef : fin L xs0 ss = ((play L xs0 ss).1 ++ endOf L (play L xs0 ss).2.1, false) := by unfold fin; rw [if_neg (by rw [hb]; decide)]
      have hL1' := bts b1 _ _ hL1
      have hL3' := bts b1 _ _ hL3
      have hat : atI (L.ends.map fun t => V.str (S t)) (play L xs0 ss).2.1 = some (.str (S (endOf L (play L xs0 ss).2.1))) := by
        have em : (play L xs0 ss).2.1 = (((play L xs0 ss).2.1.toNat : Nat) : Int) := (Int.toNat_of_nonneg pf.m.1).symm
        rw [em]
        refine atI_nat ?_
        rw [List.getElem?_map, ← em, e1]
        rfl
      refine ⟨_, rfl, a, c.u, dx, _, _, rfl, ha1, T.cU, T.nCurrent, uF_current _ _ _ _, .inl ⟨rfl, _, SqL.of hl1⟩, _, rfl, lp, _, 1, .ref q2, rfl, rfl, SqT.of hL1', rfl, _, rfl, q2, _, _, _, rfl, rfl, SqT.of hL3', hat, l, _, _, rfl, rfl, hl1, small ?_, ?_⟩
      · have : (S (endOf L (play L xs0 ss).2.1)).cps.size = (endOf L (play L xs0 ss).2.1).length := rfl
        rw [List.length_map, this]
        omega
      rw [S_cps, ← List.map_append]
      have ts1 : TS H1 (upd H1 l (.lst (((play L xs0 ss).1 ++ endOf L (play L xs0 ss).2.1).map sg))) := TS.lst hl1
      have key2 := close ss ps (some (.int (ss.length : Nat))) (some (.int (play L xs0 ss).2.1)) (some (.ref dd)) v8 v9 (upd H1 l (.lst (((play L xs0 ss).1 ++ endOf L (play L xs0 ss).2.1).map sg))) ⟨hg, fun _ => by omega⟩ sl (b1.trans ButL.l) (by rw [upd_ne d1.symm]; exact hn1) (Paired.mapP hp1 fun _ _ z => z.ts ts1) (by rw [ef]; exact upd_same)
      rw [ef] at key2
      exact key2
end
end Ob
namespace Ob
open PySem PySem.Spec PyProof.Rows L2 StX C8
/-! ### plain: the loops, one behind another -/
abbrev Zs := List (Lo × List Step)
/-- the text that is left, how each loop ended -/
def runZ (xs : List Nat) (zs : Zs) : List Nat × List Bool := zs.foldl (fun t z => ((fin z.1 t.1 z.2).1, t.2 ++ [(fin z.1 t.1 z.2).2])) (xs, [])
theorem runZ_snoc (xs : List Nat) (zs : Zs) (z : Lo × List Step) : runZ xs (zs ++ [z]) = ((fin z.1 (runZ xs zs).1 z.2).1, (runZ xs zs).2 ++ [(fin z.1 (runZ xs zs).1 z.2).2]) := by
  unfold runZ
  rw [List.foldl_append]
  rfl
def RanZ (xs : List Nat) (zs : Zs) : Prop := ∀ i z, zs[i]? = some z → Done z.1 (runZ xs (zs.take i)).1 z.2 ∧ z.2.length ≤ 16 * (runZ xs (zs.take i)).1.length
theorem RanZ.nil (xs : List Nat) : RanZ xs [] := fun i z h => by simp at h
theorem RanZ.snoc {xs : List Nat} {zs : Zs} {z : Lo × List Step} (g : RanZ xs zs) (h1 : Done z.1 (runZ xs zs).1 z.2 ∧ z.2.length ≤ 16 * (runZ xs zs).1.length) : RanZ xs (zs ++ [z]) := fun i t h => by
  by_cases hi : i < zs.length
  · rw [List.getElem?_append_left hi] at h
    rw [List.take_append_of_le_length (Nat.le_of_lt hi)]
    exact g i t h
  · have e : i = zs.length := by
      have := (List.getElem?_eq_some_iff.mp h).1
      rw [List.length_append] at this
      have : i < zs.length + 1 := this
      omega
    subst e
    rw [List.getElem?_append_right (Nat.le_refl _), Nat.sub_self] at h
    have et : z = t := by simpa using h
    subst et
    rw [List.take_append_of_le_length (Nat.le_refl _), List.take_length]
    exact h1
/-- the notes -/
def notesF (t : Nat × List (Nat × Step)) (z : Lo × List Step) : Nat × List (Nat × Step) := (t.1 + 1, t.2 ++ z.2.map fun s => (t.1, s))
def notesOf (zs : Zs) : List (Nat × Step) := (zs.foldl notesF (0, [])).2
theorem notes_fst (zs : Zs) : ∀ t, (zs.foldl notesF t).1 = t.1 + zs.length := by
  induction zs with
  | nil => intro t; rfl
  | cons z r ih =>
    intro t
    rw [List.foldl_cons, ih, List.length_cons]
    show t.1 + 1 + r.length = _
    omega
theorem notesOf_snoc (zs : Zs) (z : Lo × List Step) : notesOf (zs ++ [z]) = notesOf zs ++ z.2.map fun s => (zs.length, s) := by
  unfold notesOf
  rw [List.foldl_append]
  show (notesF (zs.foldl notesF (0, [])) z).2 = _
  show _ ++ z.2.map (fun s => ((zs.foldl notesF (0, [])).1, s)) = _
  rw [notes_fst, Nat.zero_add]
def Bn : Nat → Nat
  | 0 => 8
  | n + 1 => 17 * Bn n + 4
theorem Bn_le {i : Nat} (h : i < 3) : Bn i ≤ 2384 := by
  have : i = 0 ∨ i = 1 ∨ i = 2 := by omega
  rcases this with e | e | e <;> rw [e] <;> decide
theorem Bn_le3 {i : Nat} (h : i ≤ 3) : Bn i ≤ 40532 := by
  have : i = 0 ∨ i = 1 ∨ i = 2 ∨ i = 3 := by omega
  rcases this with e | e | e | e <;> rw [e] <;> decide
/-! ### run -/
structure Tf (w : World) (K : PySem.W.Frag) (mg : Str → Option Value) (c : Cs) (fI : Addr) : Prop extends Tr w K mg c fI where
  dRun : ∃ f fd, FunD K "run" "run" (defArgs (top 35)) (defBody (top 35)) (defScope (top 35)) [] [(("watch" : Str), V.non)] f fd ∧ mg "run" = some (.ref f)
def NoteAt (H : Hp) (p : Addr) (q : Nat × Step) : Prop := AtStep q.1 H p q.2
theorem NoteAt.ts {H H' : Hp} (t : TS H H') {p : Addr} {q : Nat × Step} (h : NoteAt H p q) : NoteAt H' p q := AtStep.ts t h
theorem Paired.app {α β : Type} {R : α → β → Prop} : ∀ {l : List α} {m : List β} {l' : List α} {m' : List β}, Paired R l m → Paired R l' m' → Paired R (l ++ l') (m ++ m')
  | _, _, _, _, .nil, h => h
  | _, _, _, _, .cons r t, h => .cons r (Paired.app t h)
theorem Paired.mapR {α β γ : Type} {R : α → β → Prop} {R' : α → γ → Prop} {g : β → γ} (k : ∀ a b, R a b → R' a (g b)) : ∀ {l : List α} {m : List β}, Paired R l m → Paired R' l (m.map g)
  | _, _, .nil => .nil
  | _, _, .cons r t => .cons (k _ _ r) (Paired.mapR k t)
section
variable {P : Program} {w : World} {K : PySem.W.Frag} {mg : Str → Option Value} {base : Heap} {c : Cs} {fI : Addr}
def ButN (nt : Addr) (H H' : Hp) : Prop := ∀ b o, b ≠ nt → H b = some o → H' b = some o
def spRunF (c : Cs) : Sp := fun vs H Q E => ∃ (p f cc nt : Addr) (Ls : List Lo) (txt : List Nat), vs = [.ref p, .str (S txt), .ref f] ∧ AtLos H p Ls ∧ Ls.length ≤ 3 ∧ (∀ L ∈ Ls, L.ok) ∧ (∀ x ∈ txt, Lc x) ∧ txt.length ≤ 8 ∧ Watch H f cc nt ∧ H nt = some (.lst []) ∧
  (∀ d H', ButN nt H H' → (∃ ys, H' nt = some (.lst ys)) → E (.ref c.e) (some d) H') ∧
  ∀ (zs : Zs) (ns : List Addr) (r dr pc pw : Addr) (H' : Hp), zs.map (·.1) = Ls → RanZ txt zs → Paired (NoteAt H') ns (notesOf zs) → H' nt = some (.lst (ns.map V.ref)) → H' r = some (.ins c.r dr (rF (.str (S (runZ txt zs).1)) (.ref pc) (.ref pw))) →
    H' pc = some (.tup (zs.map fun z => .int (z.2.length : Nat))) → H' pw = some (.tup ((runZ txt zs).2.map fun b => .str (wayS b))) → ButN nt H H' → Q (.ref r) H'
theorem sc_run : FnScope ["program", "text", "watch", "runner", "number", "loop"] ["program", "text", "watch"] (defScope (top 35)) := ⟨rfl, rfl, rfl, by decide +kernel, rfl, by decide +kernel, by decide +kernel⟩
theorem c_run (T : Tf w K mg c fI) : ∃ f fd ps, FnOk P w K mg base (L2.CX P w) 9 f fd ps (spRunF c) ∧ mg "run" = some (.ref f) ∧ PySem.W.keepIn K (.ref f) = true ∧ KBn K fd ps 2 [("watch" : Str)] (fun us ws => us ++ ws) (fun vs zs => vs ++ zs) := by
  have C_check_program := c_check_program (P := P) (base := base) T.toTx
  have C_is_text := c_is_text (P := P) (base := base) T.toTx
  have M_runner := mk_runner (P := P) (base := base) T.toTc
  have M_result := mk_result (P := P) (base := base) T.toTc
  obtain ⟨_, _, _, M, F, B⟩ := m_run_loop (P := P) (base := base) T.toTr
  obtain ⟨f, fd, D, hm⟩ := T.dRun
  refine ⟨f, fd, ["program", "text", "watch"], D.ok sc_run (fun vs H Q E h => ?_) fun cdv A outer s H vs Q E hr h => ?_, hm, D.kp, ?_⟩
  · obtain ⟨p, f, cc, nt, Ls, txt, rfl, _⟩ := h
    rfl
  · obtain ⟨p, f, cc, nt, Ls, txt, rfl, hL, h3, hok, hx, h8, hW, hnt, ke, kq⟩ := h
    refine ⟨_, (pss_cons (ps_expr (pe_c C_check_program hr (by decide) rfl (pa_cons (pv 0) pa_nil)))
      (pss_cons (ps_if (pt_not (pt_val (pe_c C_is_text hr (by decide) rfl (pa_cons (pv 1) pa_nil)))) (pss_one ps_never) pss_nil)
      (pss_cons (ps_set (i := 3) sc_run.nd rfl (Or.inl rfl) (pe_mk M_runner hr (by decide) rfl (pa_cons (pe_callTy (call_listS rfl) rfl T.nList b_list (pa_cons (pv 1) pa_nil)) (pa_cons (pv 2) pa_nil))))
      (pss_cons (ps_for (passes_of rfl) rfl (pi_enumT rfl T.nEnum (pa_cons (pv 0) pa_nil)) (pg_tup rfl (pgs_cons (pg_name (i := 4) sc_run.nd rfl (Or.inl rfl)) (pgs_cons (pg_name (i := 5) sc_run.nd rfl (Or.inl rfl)) pgs_nil))) (pss_one (ps_expr (pe_meth (pv 3) T.cU M F (hr.mono (by decide)) B .nil (passes_call (takes_of rfl rfl rfl rfl) fun _ _ _ _ h => h) (pa_cons (pv 5) (pa_cons (pv 4) pa_nil))))))
      (pss_one (ps_ret (pe_mk M_result hr (by decide) rfl (pa_cons (pe_join pe_str (pe_fld (pv 3) rfl)) (pa_cons (pe_callTy call_tuple_of rfl T.nTuple b_tuple (pa_cons (pe_fld (pv 3) rfl) pa_nil)) (pa_cons (pe_callTy call_tuple_of rfl T.nTuple b_tuple (pa_cons (pe_fld (pv 3) rfl) pa_nil)) pa_nil)))))))))), ?_⟩
    -- check_program, is_text
    refine ⟨_, rfl, p, Ls, rfl, hL, by omega, hok, fun H1 s1 => ?_⟩
    refine ⟨_, rfl, txt, rfl, hx, by omega, fun H2 s2 => ⟨true, rfl, ?_⟩⟩
    have s12 := s1.trans s2
    -- runner = Runner(list(text), watch)
    refine ⟨_, rfl, S txt, rfl, small (by show txt.length ≤ _; omega), fun l nl => ?_⟩
    rw [S_cps]
    have s3 : Same H (upd H2 l (.lst (txt.map sg))) := same_new' s12 nl
    have hl3 : upd H2 l (.lst (txt.map sg)) l = some (.lst (txt.map sg)) := upd_same
    have nl0 : H l = none := by
      cases e : H l with
      | none => rfl
      | some o => rw [s12 _ _ e] at nl; cases nl
    generalize upd H2 l (.lst (txt.map sg)) = H3 at s3 hl3
    refine ⟨_, rfl, fun a dx na nd nad => ?_⟩
    have na0 : H a = none := by
      cases e : H a with
      | none => rfl
      | some o => rw [s3 _ _ e] at na; cases na
    have s4 : Same H3 (upd (upd H3 dx (.own a)) a (.ins c.u dx [])) := same_new' (same_new nd) (by rw [upd_ne nad.symm]; exact na)
    refine ⟨a, dx, l, f, rfl, upd_same, fun cn en ncn nen nce H4 g1 g2 g3 g4 => ⟨rfl, ?_⟩⟩
    have al : a ≠ l := (ne_of_none hl3 na).symm
    have ncn0 : H cn = none := by
      cases e : H cn with
      | none => rfl
      | some o => rw [s4 _ _ (s3 _ _ e)] at ncn; cases ncn
    have nen0 : H en = none := by
      cases e : H en with
      | none => rfl
      | some o => rw [s4 _ _ (s3 _ _ e)] at nen; cases nen
    have lcn : l ≠ cn := ne_of_none (s4 _ _ hl3) ncn
    have len : l ≠ en := ne_of_none (s4 _ _ hl3) nen
    have ntl : l ≠ nt := (ne_of_none hnt nl0).symm
    have ntc : nt ≠ cn := ne_of_none hnt ncn0
    have nte : nt ≠ en := ne_of_none hnt nen0
    have hl4 := g4 l _ al.symm (s4 _ _ hl3)
    have b4 : ButN nt H H4 := fun b o _ h => g4 b o (ne_of_none (s3 _ _ h) na) (s4 _ _ (s3 _ _ h))
    have hnt4 : H4 nt = some (.lst []) := g4 nt _ (ne_of_none (s3 _ _ hnt) na) (s4 _ _ (s3 _ _ hnt))
    have tne : ∀ {b : Addr} {xs : List V}, H b = some (.tup xs) → b ≠ nt := fun h => ne_of h hnt (fun z => by cases z)
    have bts : ∀ {H1 : Hp}, ButN nt H H1 → TS H H1 := fun b q ys h => b q _ (tne h) h
    have bex : ∀ {H1 : Hp}, ButN nt H H1 → Watch H1 f cc nt := fun b => hW.of fun x φ q => b x _ (ne_of q hnt (fun z => by cases z)) q
    obtain ⟨qs, hL1, hL2⟩ := id hL
    have pl : qs.length = Ls.length := Paired.len hL2
    -- for number, loop in enumerate(program)
    refine ⟨_, rfl, p, qs.map V.ref, rfl, SqT.of (bts b4 _ _ hL1), ?_⟩
    refine for_it (n := (qs.map V.ref).length) walk_enumT (fun i σ H5 => ∃ (zs : Zs) (ns : List Addr) (v4 v5 : Option V), σ = [some (.ref p), some (.str (S txt)), some (.ref f), some (.ref a), v4, v5] ∧ zs.map (·.1) = Ls.take i ∧ RanZ txt zs ∧ Paired (NoteAt H5) ns (notesOf zs) ∧
        H5 a = some (.ins c.u dx (uF l f cn en)) ∧ H5 l = some (.lst ((runZ txt zs).1.map sg)) ∧ H5 cn = some (.lst (zs.map fun z => .int (z.2.length : Nat))) ∧ H5 en = some (.lst ((runZ txt zs).2.map fun b => .str (wayS b))) ∧ H5 nt = some (.lst (ns.map V.ref)) ∧ ButN nt H H5 ∧
        (∀ x ∈ (runZ txt zs).1, Lc x) ∧ (runZ txt zs).1.length ≤ Bn i ∧ ns.length ≤ 40000 * i ∧ (runZ txt zs).2.length = zs.length)
      ⟨[], [], none, none, rfl, rfl, RanZ.nil _, .nil, g1, hl4, g2, g3, hnt4, b4, hx, h8, Nat.zero_le _, rfl⟩ (fun i σ H5 _ z => by
        obtain ⟨zs, ns, v4, v5, _, _, _, _, _, _, _, _, _, b5, _⟩ := z
        exact SqT.of (bts b5 _ _ hL1)) ?_ ?_
    · rintro i x σ H5 H6 hi ⟨zs, ns, v4, v5, rfl, hz1, hz2, hz3, k1, k2, k3, k4, k5, b5, kx, kb, kn, k7⟩ ⟨t, x1, y, rfl, nt0, rfl, hx1, hy⟩
      cases hx1
      obtain ⟨q, hq, rfl⟩ := ref_at hy
      obtain ⟨L, hLi, hqL⟩ := Paired.at hL2 hq
      rw [List.length_map] at hi
      have zl : zs.length = i := by
        have := congrArg List.length hz1
        rw [List.length_map, List.length_take] at this
        omega
      have s6 : Same H5 (upd H5 t (.tup [.int (i : Nat), .ref q])) := same_new nt0
      have ht : upd H5 t (.tup [.int (i : Nat), .ref q]) t = some (.tup [.int (i : Nat), .ref q]) := upd_same
      generalize upd H5 t (.tup [.int (i : Nat), .ref q]) = H6 at s6 ht
      have b6 : ButN nt H H6 := fun b o n h => s6 _ _ (b5 b o n h)
      refine ⟨_, _, rfl, SqT.of ht, rfl, _, _, rfl, _, _, rfl, rfl, ?_⟩
      have B2 : Bn i ≤ 2384 := Bn_le (by omega)
      refine ⟨_, rfl, a, dx, _, rfl, s6 _ _ k1, uF_run_loop _ _ _ _, _, rfl, _, rfl, ?_⟩
      have ok : L.ok := hok L (List.mem_of_getElem? hLi)
      refine ⟨a, q, l, dx, f, cc, nt, cn, en, i, L, (runZ txt zs).1, ns.map V.ref, _, _, rfl, s6 _ _ k1, hqL.ts (bts b6), ok, s6 _ _ k2, kx, by omega, bex b6, s6 _ _ k5, by rw [List.length_map]; omega, s6 _ _ k3, by rw [List.length_map]; omega, s6 _ _ k4, by rw [List.length_map, k7]; omega, ntl, lcn, len, ntc, nte, nce, fun d H7 b7 n7 => ?_, fun ss ps H7 dn sl hp e1 e2 e3 e4 b7 => ?_⟩
      · refine ke d H7 (fun b o n h => b7 b o (ne_of_none h nl0) n (b6 b o n h)) n7
      · have ff := fin_fine ok kx ss
        have ts7 : TS H5 H7 := fun r xs h => b7 r _ (ne_of (s6 _ _ h) (s6 _ _ k2) (fun z => by cases z)) (ne_of (s6 _ _ h) (s6 _ _ k5) (fun z => by cases z)) (ne_of (s6 _ _ h) (s6 _ _ k3) (fun z => by cases z)) (ne_of (s6 _ _ h) (s6 _ _ k4) (fun z => by cases z)) (s6 _ _ h)
        refine ⟨zs ++ [(L, ss)], ns ++ ps, _, _, rfl, ?_, hz2.snoc ⟨dn, sl⟩, ?_, b7 a _ al (ne_of (s6 _ _ k1) (s6 _ _ k5) (fun z => by cases z)) (ne_of (s6 _ _ k1) (s6 _ _ k3) (fun z => by cases z)) (ne_of (s6 _ _ k1) (s6 _ _ k4) (fun z => by cases z)) (s6 _ _ k1), ?_, ?_, ?_, ?_, fun b o n h => b7 b o (ne_of_none h nl0) n (ne_of_none h ncn0) (ne_of_none h nen0) (b6 b o n h), ?_, ?_, ?_, ?_⟩
        · rw [List.map_append, hz1, take_more hLi]; rfl
        · rw [notesOf_snoc]
          refine Paired.app (Paired.mapP hz3 fun _ _ z => z.ts ts7) (Paired.mapR (fun p s z => ?_) hp)
          show AtStep zs.length H7 p s
          rw [zl]; exact z
        · rw [runZ_snoc]; exact e2
        · rw [List.map_append]; exact e3
        · rw [runZ_snoc, List.map_append]; exact e4
        · rw [List.map_append]; exact e1
        · rw [runZ_snoc]; exact ff.1
        · rw [runZ_snoc]
          show (fin L (runZ txt zs).1 ss).1.length ≤ 17 * Bn i + 4
          have := ff.2
          omega
        · have := Paired.len hp
          rw [List.length_append]
          omega
        · rw [runZ_snoc]
          show ((runZ txt zs).2 ++ [_]).length = (zs ++ [_]).length
          rw [List.length_append, List.length_append, k7]
          rfl
    · rintro σ H5 ⟨zs, ns, v4, v5, rfl, hz1, hz2, hz3, k1, k2, k3, k4, k5, b5, kx, kb, kn, k7⟩
      rw [List.length_map, pl] at hz1 kb kn
      rw [List.take_length] at hz1
      have zl : zs.length = Ls.length := by rw [← hz1, List.length_map]
      have B3 : Bn Ls.length ≤ 40532 := Bn_le3 h3
      have em : (runZ txt zs).1.map sg = ((runZ txt zs).1.map fun x => (⟨#[x]⟩ : Str)).map V.str := by rw [List.map_map]; rfl
      rw [em] at k2
      refine ⟨⟨_, rfl⟩, _, rfl, a, c.u, dx, _, _, rfl, k1, T.cU, T.nCurrent, uF_current _ _ _ _, _, l, _, rfl, rfl, .inl (SqL.of k2), ?_, ?_⟩
      · have := sum_sg (runZ txt zs).1
        rw [this]
        omega
      rw [join_sg]
      refine ⟨_, rfl, a, c.u, dx, _, _, rfl, k1, T.cU, T.nCounts, uF_counts _ _ _ _, cn, _, rfl, .inl ⟨SqL.of k3, fun pc npc => ?_⟩⟩
      have s6 := same_new (o := .tup (zs.map fun z => .int (z.2.length : Nat))) npc
      have hpc : upd H5 pc (.tup (zs.map fun z => .int (z.2.length : Nat))) pc = some (.tup (zs.map fun z => .int (z.2.length : Nat))) := upd_same
      generalize upd H5 pc (.tup (zs.map fun z => .int (z.2.length : Nat))) = H6 at s6 hpc
      refine ⟨_, rfl, a, c.u, dx, _, _, rfl, s6 _ _ k1, T.cU, T.nEndings, uF_endings _ _ _ _, en, _, rfl, .inl ⟨SqL.of (s6 _ _ k4), fun pw npw => ?_⟩⟩
      have s7 := same_new (o := .tup ((runZ txt zs).2.map fun b => .str (wayS b))) npw
      have hpw : upd H6 pw (.tup ((runZ txt zs).2.map fun b => .str (wayS b))) pw = some (.tup ((runZ txt zs).2.map fun b => .str (wayS b))) := upd_same
      generalize upd H6 pw (.tup ((runZ txt zs).2.map fun b => .str (wayS b))) = H7 at s7 hpw
      refine fun r dr nr nd nrd => ?_
      have s8 : Same H7 (upd (upd H7 dr (.own r)) r (.ins c.r dr [])) := same_new' (same_new nd) (by rw [upd_ne nrd.symm]; exact nr)
      refine ⟨r, dr, _, _, _, rfl, upd_same, rfl, ?_⟩
      rw [upd_upd]
      have s9 : Same H7 (upd (upd H7 dr (.own r)) r (.ins c.r dr (rF (.str (S (runZ txt zs).1)) (.ref pc) (.ref pw)))) := same_new' (same_new nd) (by rw [upd_ne nrd.symm]; exact nr)
      have s59 := (s6.trans s7).trans s9
      exact kq zs ns r dr pc pw _ hz1 hz2 (Paired.mapP hz3 fun _ _ z => z.ts (TS.of s59)) (s59 _ _ k5) upd_same (s9 _ _ (s7 _ _ hpc)) (s9 _ _ hpw) fun b o n h => s59 _ _ (b5 b o n h)
  · obtain ⟨oc, od, dV, kV, doc, pm, an, cdv, ct, osl, rfl, lk, hcd, hD, hK⟩ := D.ex
    rcases hD with ⟨_, rfl⟩ | ⟨e, _⟩
    · exact ⟨fun s us ws X l1 l2 => match us, ws, l1, l2 with | [_, _], [_], _, _ => .of_eq rfl, fun r1 r2 => r1.append r2⟩
    · exact absurd rfl e
end
end Ob
namespace Ob
open PySem PySem.Spec PyProof.Rows L2 StX C8
/-! ### the law's makers -/
structure Tl (w : World) (K : PySem.W.Frag) (mg : Str → Option Value) (c : Cs) (fI : Addr) : Prop extends Tf w K mg c fI where
  d_bag : DefAt K mg "_law_bag" (top 37)
  d_take : DefAt K mg "_law_take" (top 38)
  d_text : DefAt K mg "_law_text" (top 39)
  d_letters : DefAt K mg "_law_letters" (top 40)
  d_edits : DefAt K mg "_law_edits" (top 41)
  d_loop : DefAt K mg "_law_loop" (top 42)
  d_program : DefAt K mg "_law_program" (top 43)
  d_edit : DefAt K mg "_law_edit" (top 44)
  d_replayed : DefAt K mg "_law_replayed" (top 45)
theorem cut1 {α : Sort u} {G : α → Prop} {g : Prop} (h2 : (∀ x, G x) → g) (h1 : ∀ x, G x) : g := h2 h1
section
variable {P : Program} {w : World} {K : PySem.W.Frag} {mg : Str → Option Value} {base : Heap} {c : Cs} {fI : Addr}
/-- a bag: what is left of the great number, the seed, the count -/
def BagAt (H : Hp) (b : Addr) : Prop := ∃ g s t : Int, H b = some (.lst [.int g, .int s, .int t]) ∧ 0 ≤ s ∧ s < 2147483648
theorem ButN.same {b : Addr} {H H' : Hp} (s : Same H H') : ButN b H H' := fun a o _ h => s a o h
theorem ButN.trans {b : Addr} {H H1 H2 : Hp} (p : ButN b H H1) (q : ButN b H1 H2) : ButN b H H2 := fun a o n h => q a o n (p a o n h)
theorem ButN.put {b : Addr} {H : Hp} {o : HO} : ButN b H (upd H b o) := fun a u n h => by rw [upd_ne n]; exact h
theorem ButN.new {b a : Addr} {H : Hp} {o : HO} (h : H a = none) : ButN b H (upd H a o) := ButN.same (same_new h)
def spBag (K : PySem.W.Frag) : Sp := fun vs H Q _ => ∃ (a : Addr) (ns : List Int) (k : Nat), vs = [.ref a, .int (k : Nat)] ∧ SqL K H a (ns.map V.int) ∧ k < 8 ∧ ∀ b H', H b = none → Same H H' → BagAt H' b → Q (.ref b) H'
theorem sc_law_bag : FnScope ["_law_script", "_law_at", "_law_cell", "_law_great", "_law_primes"] ["_law_script", "_law_at"] (defScope (top 37)) := ⟨rfl, rfl, rfl, by decide +kernel, rfl, by decide +kernel, by decide +kernel⟩
theorem bag_num {a m : Int} (h0 : 0 < m) (h1 : m < 2147483648) : 0 ≤ a % m ∧ a % m < 2147483648 := ⟨Int.emod_nonneg _ (by omega), Int.lt_trans (Int.emod_lt_of_pos _ h0) h1⟩
theorem primes_at (k : Nat) (h : k < 8) : ∃ p : Int, atI [V.int 2147483629, V.int 2147483587, V.int 2147483579, V.int 2147483563, V.int 2147483549, V.int 2147483543, V.int 2147483497, V.int 2147483489] ((k : Int) % 8) = some (.int p) ∧ 0 < p ∧ p < 2147483648 := by
  have : k = 0 ∨ k = 1 ∨ k = 2 ∨ k = 3 ∨ k = 4 ∨ k = 5 ∨ k = 6 ∨ k = 7 := by omega
  rcases this with e | e | e | e | e | e | e | e <;> subst e <;> exact ⟨_, rfl, by decide, by decide⟩
theorem c_bag (T : Tl w K mg c fI) : Cal P w K mg base 1 "_law_bag" (spBag K) [] := by
  refine calD T.d_bag sc_law_bag (fun _ _ _ _ _ _ us hl => match us, hl with | [_, _], _ => rfl) (fun vs H Q E h => ?_) fun f cdv A outer s H vs Q E hr h => ?_
  · obtain ⟨a, ns, k, rfl, _⟩ := h
    rfl
  · obtain ⟨a, ns, k, rfl, ha, hk, q⟩ := h
    refine ⟨_, (pss_cons (ps_set (i := 2) sc_law_bag.nd rfl (Or.inl rfl) pe_int)
      (pss_cons (ps_if (pt_cmpR op_lt (pv 1) (pe_callB call_len_seq rfl T.nLen boot_len (pa_cons (pv 0) pa_nil)) (nomark _)) (pss_one (ps_set (i := 2) sc_law_bag.nd rfl (Or.inl rfl) (pe_ix ix_list (pv 0) (pv 1) (fun _ _ => rfl)))) pss_nil)
      (pss_cons (ps_set (i := 3) sc_law_bag.nd rfl (Or.inl rfl) pe_int)
      (pss_cons (ps_if (pt_cmpR op_ge (pe_callB call_abs rfl T.nAbs b_abs (pa_cons (pv 2) pa_nil)) (pe_op op_pow pe_int pe_int) (nomark _)) (pss_one (ps_set (i := 3) sc_law_bag.nd rfl (Or.inl rfl) (pe_callB call_abs rfl T.nAbs b_abs (pa_cons (pv 2) pa_nil)))) pss_nil)
      (pss_cons (ps_set (i := 4) sc_law_bag.nd rfl (Or.inl rfl) (pe_lst (pa_cons pe_int (pa_cons pe_int (pa_cons pe_int (pa_cons pe_int (pa_cons pe_int (pa_cons pe_int (pa_cons pe_int (pa_cons pe_int pa_nil))))))))))
      (pss_one (ps_ret (pe_lst (pa_cons (pv 3) (pa_cons (pe_op op_mod (pe_op op_pow (pe_op op_add (pe_op op_add (pe_op op_mod (pv 2) pe_int) (pe_op op_mul pe_int (pv 1))) pe_int) pe_int) (pe_ix ix_list (pv 4) (pe_op op_mod (pv 1) pe_int) (fun _ _ => rfl))) (pa_cons pe_int pa_nil))))))))))), ?_⟩
    apply cut1 (α := Int)
    · intro rest
      refine ⟨_, rfl, _, rfl, a, _, rfl, .inl ha, _, _, rfl, rfl, _, rfl, ?_⟩
      by_cases h1 : k < ns.length
      · refine iteTd (by rw [List.length_map]; omega) ?_
        refine ⟨_, rfl, _, rfl, a, _, _, .int ns[k], rfl, rfl, ha, atI_nat (by rw [List.getElem?_map, List.getElem?_eq_getElem h1]; rfl), ?_⟩
        generalize ns[k] = x
        exact rest x
      · refine iteFd (by rw [List.length_map]; omega) ?_
        exact rest 0
    · intro x
      apply cut1 (α := Int)
      · intro rest
        refine ⟨_, rfl, x, rfl, 10, 18, rfl, rfl, ⟨by decide, by decide, by decide⟩, _, _, rfl, rfl, _, rfl, ?_⟩
        refine ite2 (fun _ => ?_) (fun _ => ?_)
        · refine ⟨_, rfl, x, rfl, ?_⟩
          generalize (if x < 0 then -x else x) = y
          exact rest y
        · exact rest 0
      · intro g
        obtain ⟨pr, hat, hp0, hp1⟩ := primes_at k hk
        have hb : (x % 2147483647 + 104701 * (k : Int) + 31).natAbs < 2 ^ 64 := by
          have h0 := Int.emod_nonneg x (show (2147483647 : Int) ≠ 0 by decide)
          have h1 := Int.emod_lt_of_pos x (show (0 : Int) < 2147483647 by decide)
          omega
        refine ⟨by show 8 ≤ sizeLine; decide, fun p np => ?_⟩
        refine ⟨_, rfl, _, rfl, _, _, rfl, rfl, (show (0 : Int) < 2147483647 by decide), _, rfl, _, _, rfl, rfl, .inl ⟨by decide, by decide⟩, _, _, rfl, rfl, _, _, rfl, rfl, _, _, rfl, rfl, ⟨by decide, by decide, hb⟩, _, rfl, _, rfl, _, _, rfl, rfl, (show (0 : Int) < 8 by decide), p, _, _, .int pr, rfl, rfl, SqL.of upd_same, hat, _, _, rfl, rfl, hp0, by show 3 ≤ sizeLine; decide, fun b nb => ?_⟩
        have s1 := same_new (o := .lst [V.int 2147483629, V.int 2147483587, V.int 2147483579, V.int 2147483563, V.int 2147483549, V.int 2147483543, V.int 2147483497, V.int 2147483489]) np
        refine q b _ ?_ (same_new' s1 nb) ⟨_, _, _, upd_same, bag_num hp0 hp1⟩
        cases e : H b with
        | none => rfl
        | some o => rw [s1 _ _ e] at nb; cases nb
/-! ### a take -/
def spTake : Sp := fun vs H Q _ => ∃ (b : Addr) (m : Int), vs = [.ref b, .int m] ∧ BagAt H b ∧ 0 < m ∧ m < 1000 ∧ ∀ (d : Int) H', 0 ≤ d → d < m → BagAt H' b → ButN b H H' → Q (.int d) H'
theorem sc_law_take : FnScope ["_law_bag_here", "_law_many", "_law_digit"] ["_law_bag_here", "_law_many"] (defScope (top 38)) := ⟨rfl, rfl, rfl, by decide +kernel, rfl, by decide +kernel, by decide +kernel⟩
theorem c_take (T : Tl w K mg c fI) : Cal P w K mg base 1 "_law_take" spTake [] := by
  refine calD T.d_take sc_law_take (fun _ _ _ _ _ _ us hl => match us, hl with | [_, _], _ => rfl) (fun vs H Q E h => ?_) fun f cdv A outer s H vs Q E hr h => ?_
  · obtain ⟨b, m, rfl, _⟩ := h
    rfl
  · obtain ⟨b, m, rfl, ⟨g, s, t, hb, hs0, hs1⟩, hm0, hm1, q⟩ := h
    refine ⟨_, (pss_cons (ps_if (pt_cmpR op_gt (pe_ix ix_list (pv 0) pe_int (fun _ _ => rfl)) pe_int (nomark _)) (pss_cons (ps_set (i := 2) sc_law_take.nd rfl (Or.inl rfl) (pe_op op_mod (pe_ix ix_list (pv 0) pe_int (fun _ _ => rfl)) (pv 1)))
      (pss_cons (ps_asg (pe_op op_fdiv (pe_ix ix_list (pv 0) pe_int (fun _ _ => rfl)) (pv 1)) (pg_sub (pv 0) pe_int set_list))
      (pss_one (ps_ret (pv 2))))) pss_nil)
      (pss_cons (ps_asg (pe_op op_add (pe_ix ix_list (pv 0) pe_int (fun _ _ => rfl)) pe_int) (pg_sub (pv 0) pe_int set_list))
      (pss_cons (ps_asg (pe_op op_mod (pe_op op_add (pe_op op_add (pe_op op_mul (pe_ix ix_list (pv 0) pe_int (fun _ _ => rfl)) pe_int) (pe_op op_mul pe_int (pe_ix ix_list (pv 0) pe_int (fun _ _ => rfl)))) pe_int) pe_int) (pg_sub (pv 0) pe_int set_list))
      (pss_one (ps_ret (pe_op op_mod (pe_op op_mod (pe_op op_pow (pe_op op_fdiv (pe_ix ix_list (pv 0) pe_int (fun _ _ => rfl)) pe_int) pe_int) pe_int) (pv 1))))))), ?_⟩
    refine ⟨_, rfl, b, _, 0, _, rfl, rfl, SqL.of hb, rfl, _, _, rfl, rfl, _, rfl, ?_⟩
    refine ite2 (fun _ => ?_) (fun _ => ?_)
    · refine ⟨_, rfl, b, _, 0, _, rfl, rfl, SqL.of hb, rfl, _, rfl, _, _, rfl, rfl, hm0, ?_⟩
      refine ⟨_, rfl, b, _, 0, _, rfl, rfl, SqL.of hb, rfl, _, rfl, _, _, rfl, rfl, ⟨hm0, by omega⟩, ?_⟩
      refine ⟨_, rfl, b, _, 0, 0, rfl, rfl, hb, rfl, ?_⟩
      exact ⟨_, rfl, q _ _ (Int.emod_nonneg _ (by omega)) (Int.emod_lt_of_pos _ hm0) ⟨_, _, _, upd_same, hs0, hs1⟩ ButN.put⟩
    · refine ⟨_, rfl, b, _, 2, _, rfl, rfl, SqL.of hb, rfl, _, _, rfl, rfl, _, rfl, b, _, 2, 2, rfl, rfl, hb, rfl, ?_⟩
      refine ⟨_, rfl, b, _, 1, .int s, rfl, rfl, SqL.of upd_same, rfl, _, _, rfl, rfl, .inr ⟨by decide, by decide⟩, _, rfl, b, _, 2, _, rfl, rfl, SqL.of upd_same, rfl, _, _, rfl, rfl, .inl ⟨by decide, by decide⟩, _, _, rfl, rfl, _, _, rfl, rfl, _, _, rfl, rfl, (show (0 : Int) < 2147483647 by decide), ?_⟩
      have hs' := bag_num (a := s * 44221 + 6353 * (t + 1) + 29) (m := 2147483647) (by decide) (by decide)
      dsimp only
      generalize (s * 44221 + 6353 * (t + 1) + 29) % 2147483647 = s' at hs'
      obtain ⟨hs2, hs3⟩ := hs'
      refine ⟨_, rfl, b, _, 1, 1, rfl, rfl, upd_same, rfl, ?_⟩
      have hb : (s' / 8).natAbs < 2 ^ 64 := by omega
      refine ⟨_, rfl, b, _, 1, .int s', rfl, rfl, SqL.of upd_same, rfl, _, _, rfl, rfl, ⟨by decide, by decide⟩, _, _, rfl, rfl, ⟨by decide, by decide, hb⟩, _, _, rfl, rfl, (show (0 : Int) < 2147483629 by decide), _, rfl, _, _, rfl, rfl, hm0, ?_⟩
      exact q _ _ (Int.emod_nonneg _ (by omega)) (Int.emod_lt_of_pos _ hm0) ⟨_, _, _, upd_same, hs2, hs3⟩ (ButN.put.trans ButN.put)
end
end Ob
namespace Ob
open PySem PySem.Spec PyProof.Rows L2 StX C8
section
variable {P : Program} {w : World} {K : PySem.W.Frag} {mg : Str → Option Value} {base : Heap} {c : Cs} {fI : Addr}
def spText : Sp := fun vs H Q _ => ∃ (b : Addr) (m : Nat), vs = [.ref b, .int (m : Nat)] ∧ BagAt H b ∧ m ≤ 20 ∧ ∀ (t : List Nat) H', (∀ x ∈ t, Lc x) → t.length ≤ m → BagAt H' b → ButN b H H' → Q (.str (S t)) H'
theorem abcd_at {d : Int} (h0 : 0 ≤ d) (h1 : d < 4) : ∃ x, atI (Str.cps ("abcd" : Str)).toList d = some x ∧ Lc x := by
  have : d = 0 ∨ d = 1 ∨ d = 2 ∨ d = 3 := by omega
  rw [S_al, S_cps]
  rcases this with e | e | e | e <;> subst e
  · exact ⟨97, rfl, (by decide : 97 ∈ al)⟩
  · exact ⟨98, rfl, (by decide : 98 ∈ al)⟩
  · exact ⟨99, rfl, (by decide : 99 ∈ al)⟩
  · exact ⟨100, rfl, (by decide : 100 ∈ al)⟩
theorem free_of {b D : Addr} {H H1 : Hp} (k : ButN b H H1) (n : H1 D = none) (nb : D ≠ b) : H D = none := by
  cases e : H D with
  | none => rfl
  | some o => rw [k D o nb e] at n; cases n
theorem BagAt.ne {H : Hp} {b D : Addr} (h : BagAt H b) (n : H D = none) : D ≠ b := by
  obtain ⟨g, s, t, h, _⟩ := h
  exact (ne_of_none h n).symm
theorem BagAt.upd {H : Hp} {b D : Addr} {o : HO} (h : BagAt H b) (n : D ≠ b) : BagAt (L2.upd H D o) b := by
  obtain ⟨g, s, t, h, h2⟩ := h
  exact ⟨g, s, t, by rw [upd_ne n.symm]; exact h, h2⟩
theorem ButN.newer {b D : Addr} {H H1 : Hp} {o : HO} (k : ButN b H H1) (n : H D = none) : ButN b H (L2.upd H1 D o) := fun a u na h => by
  rw [upd_ne (ne_of_none h n)]
  exact k a u na h
theorem sc_law_text : FnScope ["_law_bag_here", "_law_most", "_law_k"] ["_law_bag_here", "_law_most"] (defScope (top 39)) := ⟨rfl, rfl, rfl, by decide +kernel, rfl, by decide +kernel, by decide +kernel⟩
theorem c_text (T : Tl w K mg c fI) : Cal P w K mg base 2 "_law_text" spText [] := by
  have C_law_take := c_take (P := P) (base := base) T
  refine calD T.d_text sc_law_text (fun _ _ _ _ _ _ us hl => match us, hl with | [_, _], _ => rfl) (fun vs H Q E h => ?_) fun f cdv A outer s H vs Q E hr h => ?_
  · obtain ⟨b, m, rfl, _⟩ := h
    rfl
  · obtain ⟨b, m, rfl, hb, hm, q⟩ := h
    refine ⟨_, (pss_one (ps_ret (pe_join pe_str (pe_lc (own := [("_law_k", 2)]) (g := gName 2) rfl sc_law_text.nd (pi_range1 rfl T.nRange (pa_cons (pe_c C_law_take hr (by decide) rfl (pa_cons (pv 0) (pa_cons (pe_op op_add (pv 1) pe_int) pa_nil))) pa_nil)) (blkOk_by (own := [("_law_k", 2)]) (N := ["_law_bag_here", "_law_most", "_law_k"]) (sc := defScope (top 39)) (by decide +kernel)) (fun _ _ _ _ _ => pg_name (i := 2) sc_law_text.nd rfl (Or.inl rfl)) (fun _ _ _ _ _ => pts_nil) (fun _ _ _ _ _ => (pe_ix ix_str pe_str (pe_c C_law_take hr (by decide) rfl (pa_cons (pv 0) (pa_cons pe_int pa_nil))) (fun _ _ => rfl))))))), ?_⟩
    refine ⟨⟨_, rfl⟩, _, rfl, _, rfl, _, _, rfl, rfl, b, _, rfl, hb, by omega, by omega, fun d H1 d0 d1 hb1 k1 => ?_⟩
    refine ⟨d, rfl, by omega, by omega, fun D nD => ?_⟩
    have Db := hb1.ne nD
    have nD0 : H D = none := free_of k1 nD Db
    refine lc_it (n := d.toNat) walk_range (fun i H' => ∃ t : List Nat, (∀ x ∈ t, Lc x) ∧ t.length = i ∧ BagAt H' b ∧ ButN b H H' ∧ H' D = some (.lst ((t.map fun x => (⟨#[x]⟩ : Str)).map V.str))) ⟨[], (fun _ h => by cases h), rfl, hb1.upd Db, k1.newer nD0, upd_same⟩ (fun _ _ _ _ => trivial) ?_ ?_
    · rintro i x H2 H3 hi ⟨t, t1, t2, hb2, k2, hD⟩ ⟨rfl, rfl⟩
      refine ⟨rfl, _, rfl, b, 4, rfl, hb2, by decide, by decide, fun e H4 e0 e1 hb4 k4 => ?_⟩
      obtain ⟨y, hy, ly⟩ := abcd_at e0 e1
      refine ⟨_, e, y, rfl, rfl, small (by decide +kernel), hy, _, k4 D _ Db hD, by rw [List.length_map, List.length_map]; exact smallL (by omega), t ++ [y], fun x hx => ?_, by rw [List.length_append, t2]; rfl, hb4.upd Db, (k2.trans k4).newer nD0, ?_⟩
      · rcases List.mem_append.mp hx with h | h
        · exact t1 x h
        · rw [List.mem_singleton.mp h]; exact ly
      · rw [upd_same, List.map_append, List.map_append]
        rfl
    · rintro H2 ⟨t, t1, t2, hb2, k2, hD⟩
      refine ⟨_, D, _, rfl, rfl, .inl (SqL.of hD), ?_, ?_⟩
      · rw [sum_sg]
        omega
      · rw [join_sg]
        exact q t _ t1 (by omega) hb2 k2
/-! ### letters -/
theorem filt_sub : ∀ {t a : List Nat}, t.Sublist a → a.Nodup → a.filter (fun c => decide (c ∈ t)) = t
  | _, _, .slnil, _ => rfl
  | t, _, .cons (l₂ := a) x h, nd => by
    obtain ⟨h1, h2⟩ := List.nodup_cons.mp nd
    rw [List.filter_cons, if_neg (by rw [decide_eq_true_eq]; exact fun z => h1 (h.subset z))]
    exact filt_sub h h2
  | _, _, .cons₂ (l₁ := t) (l₂ := a) x h, nd => by
    obtain ⟨h1, h2⟩ := List.nodup_cons.mp nd
    rw [List.filter_cons, if_pos (by simp)]
    have e : a.filter (fun c => decide (c ∈ x :: t)) = a.filter (fun c => decide (c ∈ t)) := by
      refine List.filter_congr fun c hc => ?_
      have nx : c ≠ x := fun z => h1 (by rw [← z]; exact hc)
      simp [nx]
    rw [e, filt_sub h h2]
theorem ala {a : List Nat} (h : a = al ∨ a = alE) : a.Nodup ∧ a ≠ [] ∧ 4 ≤ a.length ∧ a.length ≤ 5 := by
  rcases h with e | e <;> subst e <;> exact ⟨by decide, by decide, by decide, by decide⟩
theorem let_at {a : List Nat} (h : a = al ∨ a = alE) {d : Int} (h0 : 0 ≤ d) (h1 : d < (a.length : Nat)) : ∃ y, atI (S a).cps.toList d = some y ∧ Sel [y] a := by
  obtain ⟨nd, _⟩ := ala h
  obtain ⟨k, rfl⟩ : ∃ k : Nat, d = (k : Int) := ⟨d.toNat, (Int.toNat_of_nonneg h0).symm⟩
  have hl : k < a.length := by omega
  refine ⟨a[k], ?_, by simp, filt_sub (List.singleton_sublist.mpr (List.getElem_mem hl)) nd⟩
  rw [S_cps]
  exact atI_nat (List.getElem?_eq_getElem hl)
/-- a of the allowed letters: a selection of them -/
def spLetters : Sp := fun vs H Q _ => ∃ (b : Addr) (a : List Nat), vs = [.ref b, .str (S a)] ∧ BagAt H b ∧ (a = al ∨ a = alE) ∧ ∀ (t : List Nat) H', Sel t a → BagAt H' b → ButN b H H' → Q (.str (S t)) H'
theorem sc_law_letters : FnScope ["_law_bag_here", "_law_allowed", "_law_road", "_law_some", "_law_one"] ["_law_bag_here", "_law_allowed"] (defScope (top 40)) := ⟨rfl, rfl, rfl, by decide +kernel, rfl, by decide +kernel, by decide +kernel⟩
theorem c_letters (T : Tl w K mg c fI) : Cal P w K mg base 2 "_law_letters" spLetters [] := by
  have C_law_take := c_take (P := P) (base := base) T
  refine calD T.d_letters sc_law_letters (fun _ _ _ _ _ _ us hl => match us, hl with | [_, _], _ => rfl) (fun vs H Q E h => ?_) fun f cdv A outer s H vs Q E hr h => ?_
  · obtain ⟨b, a, rfl, _⟩ := h
    rfl
  · obtain ⟨b, a, rfl, hb, ha, q⟩ := h
    refine ⟨_, (pss_cons (ps_set (i := 2) sc_law_letters.nd rfl (Or.inl rfl) (pe_c C_law_take hr (by decide) rfl (pa_cons (pv 0) (pa_cons pe_int pa_nil))))
      (pss_cons (ps_if (pt_cmpR op_eq (pv 2) pe_int (nomark _)) (pss_one (ps_ret (pv 1))) pss_nil)
      (pss_cons (ps_if (pt_cmpR op_eq (pv 2) pe_int (nomark _)) (pss_one (ps_ret (pe_ix ix_str (pv 1) (pe_c C_law_take hr (by decide) rfl (pa_cons (pv 0) (pa_cons (pe_callB call_len_str rfl T.nLen boot_len (pa_cons (pv 1) pa_nil)) pa_nil))) (fun _ _ => rfl)))) pss_nil)
      (pss_cons (ps_set (i := 3) sc_law_letters.nd rfl (Or.inl rfl) (pe_join pe_str (pe_lc (own := [("_law_one", 4)]) (g := gName 4) rfl sc_law_letters.nd (pi_str (pv 1)) (blkOk_by (own := [("_law_one", 4)]) (N := ["_law_bag_here", "_law_allowed", "_law_road", "_law_some", "_law_one"]) (sc := defScope (top 40)) (by decide +kernel)) (fun _ _ _ _ _ => pg_name (i := 4) sc_law_letters.nd rfl (Or.inl rfl)) (fun _ _ _ _ _ => (pts_one (pt_cmpR op_eq (pe_c C_law_take hr (by decide) rfl (pa_cons (pv 0) (pa_cons pe_int pa_nil))) pe_int (nomark _)))) (fun _ _ _ _ _ => (pv 4)))))
      (pss_one (ps_ret (pe_ifExp (pt_cmpR op_ne (pv 3) pe_str (nomark _)) (pv 3) (pe_ix ix_str (pv 1) pe_int (fun _ _ => rfl))))))))), ?_⟩
    obtain ⟨nd, ane, al4, al5⟩ := ala ha
    have el : (S a).length = a.length := S_len a
    refine ⟨_, rfl, b, 4, rfl, hb, by decide, by decide, fun d H1 d0 d1 hb1 k1 => ?_⟩
    refine ⟨_, rfl, rfl, _, rfl, ite2 (fun _ => ?_) (fun _ => ?_)⟩
    · exact ⟨_, rfl, q a H1 ⟨ane, by simp⟩ hb1 k1⟩
    refine ⟨_, rfl, rfl, _, rfl, ite2 (fun _ => ?_) (fun _ => ?_)⟩
    · refine ⟨_, rfl, _, rfl, _, rfl, S a, rfl, small (by omega), b, _, rfl, hb1, by omega, by omega, fun e H2 e0 e1 hb2 k2 => ?_⟩
      obtain ⟨y, hy, sy⟩ := let_at ha e0 (by omega)
      exact ⟨S a, e, y, rfl, rfl, small (by omega), hy, q [y] H2 sy hb2 (k1.trans k2)⟩
    refine ⟨⟨_, rfl⟩, _, rfl, _, rfl, fun D nD => ?_⟩
    have Db := hb1.ne nD
    have nD0 : H D = none := free_of k1 nD Db
    refine lc_it (n := a.length) (walk_str (z := S a)) (fun i H' => ∃ t : List Nat, t.Sublist (a.take i) ∧ BagAt H' b ∧ ButN b H H' ∧ H' D = some (.lst ((t.map fun x => (⟨#[x]⟩ : Str)).map V.str))) ⟨[], List.nil_sublist _, hb1.upd Db, k1.newer nD0, upd_same⟩ (fun _ _ _ _ => trivial) ?_ ?_
    · rintro i x H2 H3 hi ⟨t, t1, hb2, k2, hD⟩ ⟨rfl, y, hy, rfl⟩
      have hy' : a[i]? = some y := by simpa using hy
      have tk := take_more hy'
      have tl : t.length ≤ i := by
        have := t1.length_le
        rw [List.length_take] at this
        omega
      refine ⟨rfl, _, rfl, b, 2, rfl, hb2, by decide, by decide, fun e H4 e0 e1 hb4 k4 => ?_⟩
      refine ⟨rfl, _, rfl, ite2 (fun _ => ?_) (fun _ => ?_)⟩
      · refine ⟨_, rfl, _, k4 D _ Db hD, by rw [List.length_map, List.length_map]; exact smallL (by omega), t ++ [y], ?_, hb4.upd Db, (k2.trans k4).newer nD0, ?_⟩
        · rw [tk]
          exact t1.append (List.Sublist.refl _)
        · rw [upd_same, List.map_append, List.map_append]
          rfl
      · refine ⟨t, ?_, hb4, k2.trans k4, k4 D _ Db hD⟩
        rw [tk]
        exact t1.trans (List.sublist_append_left _ _)
    · rintro H2 ⟨t, t1, hb2, k2, hD⟩
      rw [List.take_length] at t1
      have tl := t1.length_le
      refine ⟨_, D, _, rfl, rfl, .inl (SqL.of hD), ?_, ?_⟩
      · rw [sum_sg]
        omega
      · rw [join_sg]
        refine ⟨_, rfl, rfl, _, rfl, ?_⟩
        by_cases ht : t = []
        · subst ht
          obtain ⟨y, hy, sy⟩ := let_at ha (d := 0) (by decide) (by omega)
          have e : (!decide (V.str (S []) = V.str ("" : Str))) = false := by decide +kernel
          rw [e]
          exact ⟨_, rfl, S a, 0, y, rfl, rfl, small (by omega), hy, q [y] H2 sy hb2 k2⟩
        · have e : (!decide (V.str (S t) = V.str ("" : Str))) = true := by
            rw [decide_eq_false fun z => S_ne ht (V.str.inj z)]
            rfl
          rw [e]
          exact ⟨_, rfl, q t H2 ⟨ht, filt_sub t1 nd⟩ hb2 k2⟩
end
end Ob
namespace Ob
open PySem PySem.Spec PyProof.Rows L2 StX C8
section
variable {P : Program} {w : World} {K : PySem.W.Frag} {mg : Str → Option Value} {base : Heap} {c : Cs} {fI : Addr}
def bdK (x y : Int) : List (Key × V) := [(.inr "in", .int x), (.inr "out", .int y)]
theorem bd_in (x y : Int) : valV (bdK x y) (.inr "in") = some (.int x) := valV_pos rfl
theorem bd_out (x y : Int) : valV (bdK x y) (.inr "out") = some (.int y) := (valV_neg (show ¬ ((Sum.inr (Str.ofString "in") : Key) = Sum.inr (Str.ofString "out")) by decide +kernel)).trans (valV_pos rfl)
theorem bd_putIn (x y z : Int) : putK (bdK x y) (.inr "in") (.int z) = bdK z y := by
  have e1 : ¬ ((Sum.inr (Str.ofString "out") : Key) = Sum.inr (Str.ofString "in")) := by decide +kernel
  unfold putK bdK
  rw [if_pos (by simp)]
  simp only [List.map_cons, List.map_nil, if_true, if_neg e1]
theorem bd_putOut (x y z : Int) : putK (bdK x y) (.inr "out") (.int z) = bdK x z := by
  have e1 : ¬ ((Sum.inr (Str.ofString "in") : Key) = Sum.inr (Str.ofString "out")) := by decide +kernel
  unfold putK bdK
  rw [if_pos (by simp)]
  simp only [List.map_cons, List.map_nil, if_true, if_neg e1]
theorem bd_new : mergeK [] [((.inr "in" : Key), V.int 1), ((.inr "out" : Key), V.int 2)] = bdK 1 2 := by
  have e1 : ¬ ((Sum.inr (Str.ofString "in") : Key) = Sum.inr (Str.ofString "out")) := by decide +kernel
  have h1 : putK ([] : List (Key × V)) (.inr "in") (.int 1) = [(.inr "in", .int 1)] := putK_new _ rfl
  show putK (putK ([] : List (Key × V)) (.inr "in") (.int 1)) (.inr "out") (.int 2) = _
  rw [h1]
  exact putK_new _ ((valV_neg e1).trans valV_nil)
/-- the found edits so far: their list at F, the bounds' dict at D -/
structure EI (b F D : Addr) (H H' : Hp) (ps : List Addr) (es : List Ed) (x y : Int) : Prop where
  f : H' F = some (.lst (ps.map V.ref))
  p : Paired (AtEd H') ps es
  ok : ∀ e ∈ es, e.ok ∧ e.isBrk = false
  d : H' D = some (.dK (bdK x y))
  bag : BagAt H' b
  but : ButN b H H'
  nf : F ≠ b
  nd : D ≠ b
  fd : F ≠ D
  hf : H F = none
  hd : H D = none
theorem EI.step {b F D : Addr} {H H' H2 : Hp} {ps : List Addr} {es : List Ed} {x y : Int} (E : EI b F D H H' ps es x y) (hb : BagAt H2 b) (k : ButN b H' H2) : EI b F D H H2 ps es x y := by
  refine ⟨k _ _ E.nf E.f, Paired.mapP E.p fun q e z => ?_, E.ok, k _ _ E.nd E.d, hb, E.but.trans k, E.nf, E.nd, E.fd, E.hf, E.hd⟩
  obtain ⟨g, s, t, h, _⟩ := E.bag
  exact k _ _ (ne_of z h (fun y => by cases y)) z
theorem EI.new {b F D a : Addr} {H H' : Hp} {o : HO} {ps : List Addr} {es : List Ed} {x y : Int} (E : EI b F D H H' ps es x y) (n : H' a = none) : EI b F D H (L2.upd H' a o) ps es x y :=
  E.step (E.bag.upd (E.bag.ne n)) (ButN.new n)
theorem EI.app {b F D a : Addr} {H H' : Hp} {e : Ed} {ps : List Addr} {es : List Ed} {x y : Int} (E : EI b F D H H' ps es x y) (h : AtEd H' a e) (ok : e.ok) (nb : e.isBrk = false) : EI b F D H (L2.upd H' F (.lst (ps.map V.ref ++ [.ref a]))) (ps ++ [a]) (es ++ [e]) x y := by
  have ts : TS H' (L2.upd H' F (.lst (ps.map V.ref ++ [.ref a]))) := TS.lst E.f
  refine ⟨by rw [upd_same, List.map_append]; rfl, Paired.snoc (AtEd.ts ts h) (Paired.mapP E.p fun _ _ z => z.ts ts), fun d hd => ?_, by rw [upd_ne E.fd.symm]; exact E.d, E.bag.upd E.nf, E.but.newer E.hf, E.nf, E.nd, E.fd, E.hf, E.hd⟩
  rcases List.mem_append.mp hd with z | z
  · exact E.ok d z
  · rw [List.mem_singleton.mp z]; exact ⟨ok, nb⟩
theorem EI.dict {b F D : Addr} {H H' : Hp} {ps : List Addr} {es : List Ed} {x y : Int} (E : EI b F D H H' ps es x y) (x' y' : Int) : EI b F D H (L2.upd H' D (.dK (bdK x' y'))) ps es x' y' := by
  have ts : TS H' (L2.upd H' D (.dK (bdK x' y'))) := TS.put E.d fun _ z => by cases z
  exact ⟨by rw [upd_ne E.fd]; exact E.f, Paired.mapP E.p fun _ _ z => z.ts ts, E.ok, upd_same, E.bag.upd E.nd, E.but.newer E.hd, E.nf, E.nd, E.fd, E.hf, E.hd⟩
theorem cnt1 (f : Ed → Bool) (es : List Ed) (e : Ed) : (es ++ [e]).countP f = es.countP f + if f e = true then 1 else 0 := by
  rw [List.countP_append, List.countP_singleton]
def spEdits : Sp := fun vs H Q _ => ∃ (b : Addr), vs = [.ref b, .int 3] ∧ BagAt H b ∧ ∀ (q : Addr) (es : List Ed) H', EdsOk es → AtEds H' q es → BagAt H' b → ButN b H H' → Q (.ref q) H'
theorem sc_law_edits : FnScope ["_law_bag_here", "_law_most", "_law_found", "_law_bounds", "_law_turn", "_law_road", "_law_item"] ["_law_bag_here", "_law_most"] (defScope (top 41)) := ⟨rfl, rfl, rfl, by decide +kernel, rfl, by decide +kernel, by decide +kernel⟩
theorem c_edits (T : Tl w K mg c fI) : Cal P w K mg base 2 "_law_edits" spEdits [] := by
  have C_law_take := c_take (P := P) (base := base) T
  refine calD T.d_edits sc_law_edits (fun _ _ _ _ _ _ us hl => match us, hl with | [_, _], _ => rfl) (fun vs H Q E h => ?_) fun f cdv A outer s H vs Q E hr h => ?_
  · obtain ⟨b, rfl, _⟩ := h
    rfl
  · obtain ⟨b, rfl, hb, q⟩ := h
    refine ⟨_, (pss_cons (ps_par (i := 2) (j := 3) rfl sc_law_edits.nd rfl rfl (by decide) rfl rfl (pa_cons (pe_lst pa_nil) (pa_cons (pe_disp (pps_cons pe_str pe_int (pps_cons pe_str pe_int pps_nil)) rfl rfl (by simp) (by decide)) pa_nil)) (by rfl))
      (pss_cons (ps_for PassesOwn.never rfl (pi_range1 rfl T.nRange (pa_cons (pe_c C_law_take hr (by decide) rfl (pa_cons (pv 0) (pa_cons (pe_op op_add (pv 1) pe_int) pa_nil))) pa_nil)) (pg_name (i := 4) sc_law_edits.nd rfl (Or.inl rfl)) (pss_cons (ps_par (i := 5) (j := 6) rfl sc_law_edits.nd rfl rfl (by decide) rfl rfl (pa_cons (pe_c C_law_take hr (by decide) rfl (pa_cons (pv 0) (pa_cons pe_int pa_nil))) (pa_cons (pe_ix ix_str pe_str (pe_c C_law_take hr (by decide) rfl (pa_cons (pv 0) (pa_cons pe_int pa_nil))) (fun _ _ => rfl)) pa_nil)) (by rfl))
      (pss_one (ps_if (pt_cmpR op_lt (pv 5) pe_int (nomark _)) (pss_one (ps_expr (pe_bm PySem.F.plainAttrs_list PySem.F.slot_list_append PySem.F.type_list_append mt_append (pv 2) (pa_cons (pe_tup (pa_cons pe_str (pa_cons (pv 6) pa_nil))) pa_nil)))) (pss_one (ps_if (PW.pt (pw_and (pt_cmpR op_lt (pv 5) pe_int (nomark _)) (pw_and1 (pt_cmpR op_gt (pe_dget (hu_of hr) (pv 3) pe_str (fun _ _ => rfl)) pe_int (nomark _))))) (pss_cons (ps_expr (pe_bm PySem.F.plainAttrs_list PySem.F.slot_list_append PySem.F.type_list_append mt_append (pv 2) (pa_cons (pe_ix ix_list (pe_lst (pa_cons (pe_tup (pa_cons pe_str pa_nil)) (pa_cons (pe_tup (pa_cons pe_str pa_nil)) pa_nil))) (pe_op op_sub (pv 5) pe_int) (fun _ _ => rfl)) pa_nil)))
      (pss_one (ps_dput (hu_of hr) (pv 3) pe_str (pe_op op_sub (pe_dget (hu_of hr) (pv 3) pe_str (fun _ _ => rfl)) pe_int) rfl))) (pss_one (ps_if (PW.pt (pw_and (pt_cmpR op_in_seq (pv 5) (pe_lst (pa_cons pe_int (pa_cons pe_int pa_nil))) rfl) (pw_and1 (pt_cmpR op_gt (pe_dget (hu_of hr) (pv 3) pe_str (fun _ _ => rfl)) pe_int (nomark _))))) (pss_cons (ps_expr (pe_bm PySem.F.plainAttrs_list PySem.F.slot_list_append PySem.F.type_list_append mt_append (pv 2) (pa_cons (pe_tup (pa_cons (pe_ix ix_list (pe_lst (pa_cons pe_str (pa_cons pe_str pa_nil))) (pe_op op_sub (pv 5) pe_int) (fun _ _ => rfl)) (pa_cons (pv 6) pa_nil))) pa_nil)))
      (pss_one (ps_dput (hu_of hr) (pv 3) pe_str pe_int rfl))) (pss_one (ps_if (pt_cmpR op_gt (pv 5) pe_int (nomark _)) (pss_one (ps_expr (pe_bm PySem.F.plainAttrs_list PySem.F.slot_list_append PySem.F.type_list_append mt_append (pv 2) (pa_cons (pe_tup (pa_cons pe_str (pa_cons (pe_c C_law_take hr (by decide) rfl (pa_cons (pv 0) (pa_cons pe_int pa_nil))) pa_nil))) pa_nil)))) pss_nil))))))))))
      (pss_cons (ps_if (PW.pt (pw_and (pt_cmpR op_lt (pe_callB call_len_seq rfl T.nLen boot_len (pa_cons (pv 2) pa_nil)) pe_int (nomark _)) (pw_and1 (pt_cmpR op_eq (pe_c C_law_take hr (by decide) rfl (pa_cons (pv 0) (pa_cons pe_int pa_nil))) pe_int (nomark _))))) (pss_one (ps_expr (pe_bm PySem.F.plainAttrs_list PySem.F.slot_list_append PySem.F.type_list_append mt_append (pv 2) (pa_cons (pe_tup (pa_cons pe_str pa_nil)) pa_nil)))) pss_nil)
      (pss_one (ps_ret (pe_callTy call_tuple_of rfl T.nTuple b_tuple (pa_cons (pv 2) pa_nil))))))), ?_⟩
    -- the list, the dict
    refine ⟨Nat.zero_le _, fun F nF => ?_⟩
    refine fun D nD => ⟨upd_same, [((.inr "in" : Key), V.int 1), ((.inr "out" : Key), V.int 2)], rfl, by show 2 ≤ 15; decide, _, _, rfl, ?_⟩
    rw [bd_new, upd_upd]
    have Fb := hb.ne nF
    have hb1 : BagAt (L2.upd H F (.lst [])) b := hb.upd Fb
    have Db := hb1.ne nD
    have FD : F ≠ D := ne_of_none upd_same nD
    have nD0 : H D = none := by rw [upd_ne FD.symm] at nD; exact nD
    have E0 : EI b F D H (L2.upd (L2.upd H F (.lst [])) D (.dK (bdK 1 2))) [] [] 1 2 :=
      ⟨by rw [upd_ne FD, upd_same]; rfl, .nil, (fun e h => by cases h), upd_same, hb1.upd Db, (ButN.new nF).newer nD0, Fb, Db, FD, nF, nD0⟩
    generalize L2.upd (L2.upd H F (.lst [])) D (.dK (bdK 1 2)) = H1 at E0
    -- the turns
    refine ⟨_, rfl, _, rfl, _, _, rfl, rfl, b, _, rfl, E0.bag, by decide, by decide, fun d H2 d0 d1 hb2 k2 => ?_⟩
    have d3 : d < 4 := d1
    refine ⟨d, rfl, by omega, by omega, ?_⟩
    have fin : ∀ (ps : List Addr) (es : List Ed) (Hx : Hp) (σ : L2.St) (x y : Int), σ[2]? = some (some (.ref F)) → EI b F D H Hx ps es x y → EdsOk es → (tRet (tCB (fun xs H Q => ∃ p ys, xs = [.ref p] ∧ ((SqL K H p ys ∧ ∀ l, H l = none → Q (.ref l) (L2.upd H l (.tup ys))) ∨ (SqT K H p ys ∧ Q (.ref p) H))) (tCons (tVar 2) tNil))) { nx := fun _ H' => Q .non H', rt := Q } σ Hx := by
      intro ps es Hx σ x y s2 E ok
      refine ⟨_, s2, F, _, rfl, .inl ⟨SqL.of E.f, fun l nl => ?_⟩⟩
      have E2 := E.new (o := .tup (ps.map V.ref)) nl
      exact q l es _ ok ⟨ps, upd_same, E2.p⟩ E2.bag E2.but
    refine for_range (fun i σ H' => ∃ (ps : List Addr) (es : List Ed) (x y : Int) (v4 v5 v6 : Option V), σ = [some (.ref b), some (.int 3), some (.ref F), some (.ref D), v4, v5, v6] ∧ EI b F D H H' ps es x y ∧ es.length ≤ i ∧ (es.countP Ed.isIns : Int) + x ≤ 1 ∧ (es.countP Ed.isDel : Int) + y ≤ 2 ∧ 0 ≤ x ∧ 0 ≤ y)
      ⟨[], [], 1, 2, none, none, none, rfl, E0.step hb2 k2, Nat.le_refl _, by decide, by decide, by decide, by decide⟩ ?_ ?_
    · rintro i σ H3 hi ⟨ps, es, x, y, v4, v5, v6, rfl, E3, el, ci, cd, x0, y0⟩
      refine ⟨_, rfl, b, 8, rfl, E3.bag, by decide, by decide, fun d H4 d0 d1 hb4 k4 => ?_⟩
      have E4 := E3.step hb4 k4
      refine ⟨_, rfl, b, 4, rfl, E4.bag, by decide, by decide, fun e H5 e0 e1 hb5 k5 => ?_⟩
      have E5 := E4.step hb5 k5
      obtain ⟨l, hl, ll⟩ := abcd_at e0 e1
      refine ⟨_, e, l, rfl, rfl, small (by decide +kernel), hl, _, _, rfl, ?_⟩
      have pl : ps.length = es.length := Paired.len E5.p
      have sz : (ps.map V.ref).length < sizeLine := by rw [List.length_map]; exact smallL (by omega)
      have el' : ∀ e : Ed, (es ++ [e]).length ≤ i + 1 := fun e => by rw [List.length_append]; show es.length + 1 ≤ _; omega
      have nc : ∀ (f : Ed → Bool) (e : Ed), f e = false → (es ++ [e]).countP f = es.countP f := fun f e h => by rw [cnt1, h]; rfl
      have yc : ∀ (f : Ed → Bool) (e : Ed), f e = true → (es ++ [e]).countP f = es.countP f + 1 := fun f e h => by rw [cnt1, h]; rfl
      refine ⟨_, rfl, _, _, rfl, rfl, _, rfl, ?_⟩
      by_cases c1 : d < 2
      · -- put
        refine iteTd c1 ?_
        refine ⟨_, rfl, .inl ⟨rfl, _, SqL.of E5.f⟩, _, rfl, (by show 2 ≤ sizeLine; decide), fun p np => ?_⟩
        have E6 := E5.new (o := .tup [V.str "put", sg l]) np
        exact ⟨F, _, _, rfl, rfl, E6.f, sz, ps ++ [p], es ++ [.put l], x, y, _, _, _, rfl, E6.app (a := p) (e := .put l) upd_same ll rfl, el' _, by rw [nc _ _ rfl]; exact ci, by rw [nc _ _ rfl]; exact cd, x0, y0⟩
      refine iteFd c1 ?_
      refine ⟨_, rfl, _, _, rfl, rfl, _, rfl, ?_⟩
      have d8 : d = 2 ∨ d = 3 ∨ d = 4 ∨ d = 5 ∨ d = 6 ∨ d = 7 := by omega
      -- nothing is found
      have none' : ∀ v4 v5 v6 Hx, EI b F D H Hx ps es x y → ∃ (ps : List Addr) (es : List Ed) (x y : Int) (w4 w5 w6 : Option V), [some (.ref b), some (.int 3), some (.ref F), some (.ref D), v4, v5, v6] = [some (.ref b), some (.int 3), some (.ref F), some (.ref D), w4, w5, w6] ∧ EI b F D H Hx ps es x y ∧ es.length ≤ i + 1 ∧ (es.countP Ed.isIns : Int) + x ≤ 1 ∧ (es.countP Ed.isDel : Int) + y ≤ 2 ∧ 0 ≤ x ∧ 0 ≤ y :=
        fun v4 v5 v6 Hx E => ⟨ps, es, x, y, v4, v5, v6, rfl, E, by omega, ci, cd, x0, y0⟩
      -- a deletion
      have del : ∀ (v4 v5 v6 : Option V) (Hx : Hp) (p : Addr) (e : Ed), EI b F D H Hx ps es x y → 0 < y → AtEd Hx p e → e.ok → e.isBrk = false → e.isDel = true → e.isIns = false →
          ∃ (ps' : List Addr) (es' : List Ed) (x' y' : Int) (w4 w5 w6 : Option V), [some (.ref b), some (.int 3), some (.ref F), some (.ref D), v4, v5, v6] = [some (.ref b), some (.int 3), some (.ref F), some (.ref D), w4, w5, w6] ∧ EI b F D H (L2.upd (L2.upd Hx F (.lst (ps.map V.ref ++ [.ref p]))) D (.dK (bdK x (y - 1)))) ps' es' x' y' ∧ es'.length ≤ i + 1 ∧ (es'.countP Ed.isIns : Int) + x' ≤ 1 ∧ (es'.countP Ed.isDel : Int) + y' ≤ 2 ∧ 0 ≤ x' ∧ 0 ≤ y' :=
        fun v4 v5 v6 Hx p e E hy ha h1 h2 h3 h4 => ⟨ps ++ [p], es ++ [e], x, y - 1, v4, v5, v6, rfl, (E.app ha h1 h2).dict x (y - 1), el' _, by rw [nc _ _ h4]; exact ci, by rw [yc _ _ h3]; omega, x0, by omega⟩
      have ins : ∀ (v4 v5 v6 : Option V) (Hx : Hp) (p : Addr) (e : Ed), EI b F D H Hx ps es x y → 0 < x → AtEd Hx p e → e.ok → e.isBrk = false → e.isIns = true → e.isDel = false →
          ∃ (ps' : List Addr) (es' : List Ed) (x' y' : Int) (w4 w5 w6 : Option V), [some (.ref b), some (.int 3), some (.ref F), some (.ref D), v4, v5, v6] = [some (.ref b), some (.int 3), some (.ref F), some (.ref D), w4, w5, w6] ∧ EI b F D H (L2.upd (L2.upd Hx F (.lst (ps.map V.ref ++ [.ref p]))) D (.dK (bdK 0 y))) ps' es' x' y' ∧ es'.length ≤ i + 1 ∧ (es'.countP Ed.isIns : Int) + x' ≤ 1 ∧ (es'.countP Ed.isDel : Int) + y' ≤ 2 ∧ 0 ≤ x' ∧ 0 ≤ y' :=
        fun v4 v5 v6 Hx p e E hx ha h1 h2 h3 h4 => ⟨ps ++ [p], es ++ [e], 0, y, v4, v5, v6, rfl, (E.app ha h1 h2).dict 0 y, el' _, by rw [yc _ _ h3]; omega, by rw [nc _ _ h4]; exact cd, by decide, y0⟩
      have gO : ∀ {Hx : Hp} {ps es}, EI b F D H Hx ps es x y → DGet Hx D (.str "out") (some (.int y)) := fun E => by
        have := DGet.k (k := .inr "out") E.d
        rw [bd_out] at this
        exact this
      have gI : ∀ {Hx : Hp} {ps es}, EI b F D H Hx ps es x y → DGet Hx D (.str "in") (some (.int x)) := fun E => by
        have := DGet.k (k := .inr "in") E.d
        rw [bd_in] at this
        exact this
      have pO : ∀ {Hx : Hp} {ps es} (z : Int), EI b F D H Hx ps es x y → DPut Hx D (.str "out") (.int z) (L2.upd Hx D (.dK (bdK x z))) := fun z E => by
        have := DPut.k (k := .inr "out") (v := .int z) E.d (smallL (by show 2 < _; decide))
        rw [bd_putOut] at this
        exact this
      have pI : ∀ {Hx : Hp} {ps es} (z : Int), EI b F D H Hx ps es x y → DPut Hx D (.str "in") (.int z) (L2.upd Hx D (.dK (bdK z y))) := fun z E => by
        have := DPut.k (k := .inr "in") (v := .int z) E.d (smallL (by show 2 < _; decide))
        rw [bd_putIn] at this
        exact this
      by_cases c2 : d < 4
      · refine iteTd c2 ?_
        refine ⟨_, rfl, D, _, rfl, gO E5, _, _, rfl, rfl, _, rfl, ?_⟩
        by_cases c3 : 0 < y
        · refine iteTd c3 ?_
          refine ⟨_, rfl, .inl ⟨rfl, _, SqL.of E5.f⟩, (by show 1 ≤ sizeLine; decide), fun p1 n1 => ⟨(by show 1 ≤ sizeLine; decide), fun p2 n2 => ⟨(by show 2 ≤ sizeLine; decide), fun l3 n3 => ?_⟩⟩⟩
          have E6 := ((E5.new (o := .tup [V.str "drop"]) n1).new (o := .tup [V.str "drop_next"]) n2).new (o := .lst [.ref p1, .ref p2]) n3
          have h1 : L2.upd (L2.upd (L2.upd H5 p1 (.tup [V.str "drop"])) p2 (.tup [V.str "drop_next"])) l3 (.lst [.ref p1, .ref p2]) p1 = some (.tup [V.str "drop"]) := by
            have a1 : L2.upd (L2.upd H5 p1 (.tup [V.str "drop"])) p2 (.tup [V.str "drop_next"]) p1 = some (.tup [V.str "drop"]) := by rw [upd_ne (ne_of_none upd_same n2)]; exact upd_same
            rw [upd_ne (ne_of_none a1 n3)]; exact a1
          have h2 : L2.upd (L2.upd (L2.upd H5 p1 (.tup [V.str "drop"])) p2 (.tup [V.str "drop_next"])) l3 (.lst [.ref p1, .ref p2]) p2 = some (.tup [V.str "drop_next"]) := by
            rw [upd_ne (ne_of_none upd_same n3)]; exact upd_same
          have h3 : L2.upd (L2.upd (L2.upd H5 p1 (.tup [V.str "drop"])) p2 (.tup [V.str "drop_next"])) l3 (.lst [.ref p1, .ref p2]) l3 = some (.lst [.ref p1, .ref p2]) := upd_same
          generalize L2.upd (L2.upd (L2.upd H5 p1 (.tup [V.str "drop"])) p2 (.tup [V.str "drop_next"])) l3 (.lst [.ref p1, .ref p2]) = H6 at E6 h1 h2 h3
          have c23 : d = 2 ∨ d = 3 := by omega
          rcases c23 with rfl | rfl
          · refine ⟨_, rfl, _, _, rfl, rfl, l3, _, _, .ref p1, rfl, rfl, SqL.of h3, rfl, F, _, _, rfl, rfl, E6.f, sz, ?_⟩
            have E7 := E6.app (a := p1) (e := .drop) h1 trivial rfl
            refine ⟨_, rfl, D, _, rfl, gO E7, _, _, rfl, rfl, _, rfl, D, _, rfl, pO _ E7, ?_⟩
            exact del _ _ _ H6 p1 .drop E6 c3 h1 trivial rfl rfl rfl
          · refine ⟨_, rfl, _, _, rfl, rfl, l3, _, _, .ref p2, rfl, rfl, SqL.of h3, rfl, F, _, _, rfl, rfl, E6.f, sz, ?_⟩
            have E7 := E6.app (a := p2) (e := .dropN) h2 trivial rfl
            refine ⟨_, rfl, D, _, rfl, gO E7, _, _, rfl, rfl, _, rfl, D, _, rfl, pO _ E7, ?_⟩
            exact del _ _ _ H6 p2 .dropN E6 c3 h2 trivial rfl rfl rfl
        · refine iteFd c3 ?_
          have c23 : d = 2 ∨ d = 3 := by omega
          rcases c23 with rfl | rfl
          · refine ⟨_, rfl, (by show 2 ≤ sizeLine; decide), fun l6 n6 => ⟨l6, _, rfl, .inl (SqL.of upd_same), rfl, rfl, false, rfl, ?_⟩⟩
            refine ⟨_, rfl, _, _, rfl, rfl, _, rfl, iteFd (by decide) ?_⟩
            exact none' _ _ _ _ (E5.new n6)
          · refine ⟨_, rfl, (by show 2 ≤ sizeLine; decide), fun l6 n6 => ⟨l6, _, rfl, .inl (SqL.of upd_same), rfl, rfl, false, rfl, ?_⟩⟩
            refine ⟨_, rfl, _, _, rfl, rfl, _, rfl, iteFd (by decide) ?_⟩
            exact none' _ _ _ _ (E5.new n6)
      · refine iteFd c2 ?_
        by_cases c5 : d < 6
        · -- before, after
          have c45 : d = 4 ∨ d = 5 := by omega
          rcases c45 with rfl | rfl
          · refine ⟨_, rfl, (by show 2 ≤ sizeLine; decide), fun l6 n6 => ⟨l6, _, rfl, .inl (SqL.of upd_same), rfl, rfl, true, rfl, ?_⟩⟩
            have E6 := E5.new (o := .lst [.int 4, .int 5]) n6
            refine ⟨_, rfl, D, _, rfl, gI E6, _, _, rfl, rfl, _, rfl, ?_⟩
            by_cases c4 : 0 < x
            · refine iteTd c4 ?_
              refine ⟨_, rfl, .inl ⟨rfl, _, SqL.of E6.f⟩, (by show 2 ≤ sizeLine; decide), fun l2 n2 => ⟨_, rfl, _, _, rfl, rfl, l2, _, _, .str "before", rfl, rfl, SqL.of upd_same, rfl, _, rfl, (by show 2 ≤ sizeLine; decide), fun p np => ?_⟩⟩
              have E7 := (E6.new (o := .lst [.str "before", .str "after"]) n2).new (o := .tup [V.str "before", sg l]) np
              refine ⟨F, _, _, rfl, rfl, E7.f, sz, _, rfl, D, _, rfl, pI 0 (E7.app (a := p) (e := .bef l) upd_same ll rfl), ?_⟩
              exact ins _ _ _ _ p (.bef l) E7 c4 upd_same ll rfl rfl rfl
            · refine iteFd c4 ?_
              refine ⟨_, rfl, _, _, rfl, rfl, _, rfl, iteFd (by decide) ?_⟩
              exact none' _ _ _ _ E6
          · refine ⟨_, rfl, (by show 2 ≤ sizeLine; decide), fun l6 n6 => ⟨l6, _, rfl, .inl (SqL.of upd_same), rfl, rfl, true, rfl, ?_⟩⟩
            have E6 := E5.new (o := .lst [.int 4, .int 5]) n6
            refine ⟨_, rfl, D, _, rfl, gI E6, _, _, rfl, rfl, _, rfl, ?_⟩
            by_cases c4 : 0 < x
            · refine iteTd c4 ?_
              refine ⟨_, rfl, .inl ⟨rfl, _, SqL.of E6.f⟩, (by show 2 ≤ sizeLine; decide), fun l2 n2 => ⟨_, rfl, _, _, rfl, rfl, l2, _, _, .str "after", rfl, rfl, SqL.of upd_same, rfl, _, rfl, (by show 2 ≤ sizeLine; decide), fun p np => ?_⟩⟩
              have E7 := (E6.new (o := .lst [.str "before", .str "after"]) n2).new (o := .tup [V.str "after", sg l]) np
              refine ⟨F, _, _, rfl, rfl, E7.f, sz, _, rfl, D, _, rfl, pI 0 (E7.app (a := p) (e := .aft l) upd_same ll rfl), ?_⟩
              exact ins _ _ _ _ p (.aft l) E7 c4 upd_same ll rfl rfl rfl
            · refine iteFd c4 ?_
              refine ⟨_, rfl, _, _, rfl, rfl, _, rfl, iteFd (by decide) ?_⟩
              exact none' _ _ _ _ E6
        · -- mark
          have mk : ∀ (v4 v5 v6 : Option V) (Hx : Hp) (p : Addr) (m : Int), EI b F D H Hx ps es x y → AtEd Hx p (.mark m) → 0 ≤ m → m < 4 →
              ∃ (ps' : List Addr) (es' : List Ed) (x' y' : Int) (w4 w5 w6 : Option V), [some (.ref b), some (.int 3), some (.ref F), some (.ref D), v4, v5, v6] = [some (.ref b), some (.int 3), some (.ref F), some (.ref D), w4, w5, w6] ∧ EI b F D H (L2.upd Hx F (.lst (ps.map V.ref ++ [.ref p]))) ps' es' x' y' ∧ es'.length ≤ i + 1 ∧ (es'.countP Ed.isIns : Int) + x' ≤ 1 ∧ (es'.countP Ed.isDel : Int) + y' ≤ 2 ∧ 0 ≤ x' ∧ 0 ≤ y' :=
            fun v4 v5 v6 Hx p m E ha h1 h2 => ⟨ps ++ [p], es ++ [.mark m], x, y, v4, v5, v6, rfl, E.app (e := .mark m) ha ⟨h1, by omega⟩ rfl, el' _, by rw [nc _ _ rfl]; exact ci, by rw [nc _ _ rfl]; exact cd, x0, y0⟩
          have c67 : d = 6 ∨ d = 7 := by omega
          rcases c67 with rfl | rfl
          · refine ⟨_, rfl, (by show 2 ≤ sizeLine; decide), fun l6 n6 => ⟨l6, _, rfl, .inl (SqL.of upd_same), rfl, rfl, false, rfl, ?_⟩⟩
            have E6 := E5.new (o := .lst [.int 4, .int 5]) n6
            refine ⟨_, rfl, _, _, rfl, rfl, _, rfl, iteTd (by decide) ?_⟩
            refine ⟨_, rfl, .inl ⟨rfl, _, SqL.of E6.f⟩, _, rfl, b, 4, rfl, E6.bag, by decide, by decide, fun m H7 m0 m1 hb7 k7 => ⟨(by show 2 ≤ sizeLine; decide), fun p np => ?_⟩⟩
            have E7 := (E6.step hb7 k7).new (o := .tup [V.str "mark", .int m]) np
            exact ⟨F, _, _, rfl, rfl, E7.f, sz, mk _ _ _ _ p m E7 upd_same m0 m1⟩
          · refine ⟨_, rfl, (by show 2 ≤ sizeLine; decide), fun l6 n6 => ⟨l6, _, rfl, .inl (SqL.of upd_same), rfl, rfl, false, rfl, ?_⟩⟩
            have E6 := E5.new (o := .lst [.int 4, .int 5]) n6
            refine ⟨_, rfl, _, _, rfl, rfl, _, rfl, iteTd (by decide) ?_⟩
            refine ⟨_, rfl, .inl ⟨rfl, _, SqL.of E6.f⟩, _, rfl, b, 4, rfl, E6.bag, by decide, by decide, fun m H7 m0 m1 hb7 k7 => ⟨(by show 2 ≤ sizeLine; decide), fun p np => ?_⟩⟩
            have E7 := (E6.step hb7 k7).new (o := .tup [V.str "mark", .int m]) np
            exact ⟨F, _, _, rfl, rfl, E7.f, sz, mk _ _ _ _ p m E7 upd_same m0 m1⟩
    · rintro σ H3 ⟨ps, es, x, y, v4, v5, v6, rfl, E3, el, ci, cd, x0, y0⟩
      have pl : ps.length = es.length := Paired.len E3.p
      have el3 : es.length ≤ 3 := by omega
      refine ⟨_, rfl, F, _, rfl, .inl (SqL.of E3.f), _, _, rfl, rfl, _, rfl, iteTd (by rw [List.length_map]; omega) ?_⟩
      refine ⟨_, rfl, b, 9, rfl, E3.bag, by decide, by decide, fun e H4 e0 e1 hb4 k4 => ?_⟩
      have E4 := E3.step hb4 k4
      refine ⟨rfl, _, rfl, ite2 (fun _ => ?_) (fun _ => ?_)⟩
      · refine ⟨_, rfl, .inl ⟨rfl, _, SqL.of E4.f⟩, (by show 1 ≤ sizeLine; decide), fun p np => ?_⟩
        have E5 := E4.new (o := .tup [V.str "break"]) np
        refine ⟨F, _, _, rfl, rfl, E5.f, by rw [List.length_map]; exact smallL (by omega), ?_⟩
        have ts : TS (L2.upd H4 p (.tup [V.str "break"])) (L2.upd (L2.upd H4 p (.tup [V.str "break"])) F (.lst (ps.map V.ref ++ [.ref p]))) := TS.lst E5.f
        have hp : Paired (AtEd (L2.upd (L2.upd H4 p (.tup [V.str "break"])) F (.lst (ps.map V.ref ++ [.ref p])))) (ps ++ [p]) (es ++ [.brk]) := Paired.snoc (AtEd.ts (e := .brk) ts upd_same) (Paired.mapP E5.p fun _ _ z => z.ts ts)
        have hf : L2.upd (L2.upd H4 p (.tup [V.str "break"])) F (.lst (ps.map V.ref ++ [.ref p])) F = some (.lst ((ps ++ [p]).map V.ref)) := by rw [upd_same, List.map_append]; rfl
        refine ⟨_, rfl, F, _, rfl, .inl ⟨SqL.of hf, fun l nl => ?_⟩⟩
        refine q l (es ++ [.brk]) _ ⟨?_, fun e he => ?_, ?_, ?_, fun e he => ?_⟩ ⟨ps ++ [p], upd_same, Paired.mapP hp fun _ _ z => z.ts (TS.new nl)⟩ (BagAt.upd (E5.bag.upd E5.nf) (BagAt.ne (E5.bag.upd E5.nf) nl)) ((E5.but.newer E5.hf).trans (ButN.new nl))
        · rw [List.length_append]; show es.length + 1 ≤ 4; omega
        · rcases List.mem_append.mp he with z | z
          · exact (E4.ok e z).1
          · rw [List.mem_singleton.mp z]; trivial
        · rw [cnt1]; show es.countP Ed.isIns + 0 ≤ 1; omega
        · rw [cnt1]; show es.countP Ed.isDel + 0 ≤ 2; omega
        · rw [List.dropLast_concat] at he
          exact (E4.ok e he).2
      · exact fin ps es H4 _ x y rfl E4 ⟨by omega, fun e he => (E4.ok e he).1, by omega, by omega, fun e he => (E4.ok e (List.dropLast_subset _ he)).2⟩
end
end Ob
namespace Ob
open PySem PySem.Spec PyProof.Rows L2 StX C8
section
variable {P : Program} {w : World} {K : PySem.W.Frag} {mg : Str → Option Value} {base : Heap} {c : Cs} {fI : Addr}
theorem ButN.ts {b : Addr} {H H' : Hp} (h : BagAt H b) (k : ButN b H H') : TS H H' := fun p xs z => by
  obtain ⟨g, s, t, h, _⟩ := h
  exact k _ _ (ne_of z h (fun y => by cases y)) z
/-- the rules so far: their list at F -/
structure RI (b F : Addr) (H H' : Hp) (ps : List Addr) (rs : List Ru) : Prop where
  f : H' F = some (.lst (ps.map V.ref))
  p : Paired (AtRu H') ps rs
  ok : ∀ r ∈ rs, r.ok
  bag : BagAt H' b
  but : ButN b H H'
  nf : F ≠ b
  hf : H F = none
theorem RI.step {b F : Addr} {H H' H2 : Hp} {ps : List Addr} {rs : List Ru} (E : RI b F H H' ps rs) (hb : BagAt H2 b) (k : ButN b H' H2) : RI b F H H2 ps rs :=
  ⟨k _ _ E.nf E.f, Paired.mapP E.p fun _ _ z => z.ts (k.ts E.bag), E.ok, hb, E.but.trans k, E.nf, E.hf⟩
theorem RI.new {b F a : Addr} {H H' : Hp} {o : HO} {ps : List Addr} {rs : List Ru} (E : RI b F H H' ps rs) (n : H' a = none) : RI b F H (L2.upd H' a o) ps rs :=
  E.step (E.bag.upd (E.bag.ne n)) (ButN.new n)
theorem RI.newer {b F D : Addr} {H H' : Hp} {o : HO} {ys : List V} {ps : List Addr} {rs : List Ru} (E : RI b F H H' ps rs) (h : H' D = some (.lst ys)) (n : H D = none) (nf : D ≠ F) (nb : D ≠ b) : RI b F H (L2.upd H' D o) ps rs :=
  ⟨by rw [upd_ne nf.symm]; exact E.f, Paired.mapP E.p fun _ _ z => z.ts (TS.lst h), E.ok, E.bag.upd nb, E.but.newer n, E.nf, E.hf⟩
theorem RI.app {b F a : Addr} {H H' : Hp} {r : Ru} {ps : List Addr} {rs : List Ru} (E : RI b F H H' ps rs) (h : AtRu H' a r) (ok : r.ok) : RI b F H (L2.upd H' F (.lst (ps.map V.ref ++ [.ref a]))) (ps ++ [a]) (rs ++ [r]) := by
  have ts : TS H' (L2.upd H' F (.lst (ps.map V.ref ++ [.ref a]))) := TS.lst E.f
  refine ⟨by rw [upd_same, List.map_append]; rfl, Paired.snoc (AtRu.ts ts h) (Paired.mapP E.p fun _ _ z => z.ts ts), fun d hd => ?_, E.bag.upd E.nf, E.but.newer E.hf, E.nf, E.hf⟩
  rcases List.mem_append.mp hd with z | z
  · exact E.ok d z
  · rw [List.mem_singleton.mp z]; exact ok
theorem mark_at {m1 m2 d : Int} (h1 : 0 ≤ m1 ∧ m1 < 2) (h2 : 0 ≤ m2 ∧ m2 < 4) (d0 : 0 ≤ d) (d1 : d < 4) : ∃ mk, atI [V.non, V.non, V.int m1, V.int m2] d = some (mkV mk) ∧ ∀ m, mk = some m → Mk4 m := by
  have : d = 0 ∨ d = 1 ∨ d = 2 ∨ d = 3 := by omega
  rcases this with e | e | e | e <;> subst e
  · exact ⟨none, rfl, fun m z => by cases z⟩
  · exact ⟨none, rfl, fun m z => by cases z⟩
  · exact ⟨some m1, rfl, fun m z => by cases z; exact ⟨h1.1, by omega⟩⟩
  · exact ⟨some m2, rfl, fun m z => by cases z; exact ⟨h2.1, by omega⟩⟩
theorem S_alE' : ("abcd$" : Str) = S alE := by decide +kernel
theorem S_nil : Str.empty = S [] := by decide +kernel
def spLoop : Sp := fun vs H Q _ => ∃ (b : Addr), vs = [.ref b, .int 4] ∧ BagAt H b ∧ ∀ (q : Addr) (L : Lo) H', L.ok → AtLo H' q L → BagAt H' b → ButN b H H' → Q (.ref q) H'
theorem sc_law_loop : FnScope ["_law_bag_here", "_law_most", "_law_rules", "_law_turn", "_law_mark", "_law_items", "_law_following", "_law_ends", "_law_k"] ["_law_bag_here", "_law_most"] (defScope (top 42)) := ⟨rfl, rfl, rfl, by decide +kernel, rfl, by decide +kernel, by decide +kernel⟩
theorem c_loop (T : Tl w K mg c fI) : Cal P w K mg base 3 "_law_loop" spLoop [] := by
  have C_law_take := c_take (P := P) (base := base) T
  have C_law_text := c_text (P := P) (base := base) T
  have C_law_letters := c_letters (P := P) (base := base) T
  have C_law_edits := c_edits (P := P) (base := base) T
  refine calD T.d_loop sc_law_loop (fun _ _ _ _ _ _ us hl => match us, hl with | [_, _], _ => rfl) (fun vs H Q E h => ?_) fun f cdv A outer s H vs Q E hr h => ?_
  · obtain ⟨b, rfl, _⟩ := h
    rfl
  · obtain ⟨b, rfl, hb, q⟩ := h
    refine ⟨_, (pss_cons (ps_set (i := 2) sc_law_loop.nd rfl (Or.inl rfl) (pe_lst pa_nil))
      (pss_cons (ps_for PassesOwn.never rfl (pi_range1 rfl T.nRange (pa_cons (pe_c C_law_take hr (by decide) rfl (pa_cons (pv 0) (pa_cons (pe_op op_add (pv 1) pe_int) pa_nil))) pa_nil)) (pg_name (i := 3) sc_law_loop.nd rfl (Or.inl rfl)) (pss_cons (ps_set (i := 4) sc_law_loop.nd rfl (Or.inl rfl) (pe_ix ix_list (pe_lst (pa_cons pe_non (pa_cons pe_non (pa_cons (pe_c C_law_take hr (by decide) rfl (pa_cons (pv 0) (pa_cons pe_int pa_nil))) (pa_cons (pe_c C_law_take hr (by decide) rfl (pa_cons (pv 0) (pa_cons pe_int pa_nil))) pa_nil))))) (pe_c C_law_take hr (by decide) rfl (pa_cons (pv 0) (pa_cons pe_int pa_nil))) (fun _ _ => rfl)))
      (pss_cons (ps_par (i := 5) (j := 6) rfl sc_law_loop.nd rfl rfl (by decide) rfl rfl (pa_cons (pe_c C_law_letters hr (by decide) rfl (pa_cons (pv 0) (pa_cons pe_str pa_nil))) (pa_cons (pe_c C_law_letters hr (by decide) rfl (pa_cons (pv 0) (pa_cons pe_str pa_nil))) pa_nil)) (by rfl))
      (pss_one (ps_expr (pe_bm PySem.F.plainAttrs_list PySem.F.slot_list_append PySem.F.type_list_append mt_append (pv 2) (pa_cons (pe_tup (pa_cons (pv 4) (pa_cons (pv 5) (pa_cons (pv 6) (pa_cons (pe_c C_law_edits hr (by decide) rfl (pa_cons (pv 0) (pa_cons pe_int pa_nil))) pa_nil))))) pa_nil)))))))
      (pss_cons (ps_set (i := 7) sc_law_loop.nd rfl (Or.inl rfl) (pe_callTy call_tuple_of rfl T.nTuple b_tuple (pa_cons (pe_lc (own := [("_law_k", 8)]) (g := gName 8) rfl sc_law_loop.nd (pi_range1 rfl T.nRange (pa_cons pe_int pa_nil)) (blkOk_by (own := [("_law_k", 8)]) (N := ["_law_bag_here", "_law_most", "_law_rules", "_law_turn", "_law_mark", "_law_items", "_law_following", "_law_ends", "_law_k"]) (sc := defScope (top 42)) (by decide +kernel)) (fun _ _ _ _ _ => pg_name (i := 8) sc_law_loop.nd rfl (Or.inl rfl)) (fun _ _ _ _ _ => pts_nil) (fun _ _ _ _ _ => (pe_op op_mulS (pe_c C_law_text hr (by decide) rfl (pa_cons (pv 0) (pa_cons pe_int pa_nil))) (pe_op op_fdiv (pe_c C_law_take hr (by decide) rfl (pa_cons (pv 0) (pa_cons pe_int pa_nil))) pe_int)))) pa_nil)))
      (pss_one (ps_ret (pe_tup (pa_cons (pe_callTy call_tuple_of rfl T.nTuple b_tuple (pa_cons (pv 2) pa_nil)) (pa_cons (pv 7) pa_nil)))))))), ?_⟩
    refine ⟨Nat.zero_le _, fun F nF => ?_⟩
    have Fb := hb.ne nF
    have E0 : RI b F H (L2.upd H F (.lst [])) [] [] := ⟨upd_same, .nil, (fun e h => by cases h), hb.upd Fb, ButN.new nF, Fb, nF⟩
    generalize L2.upd H F (.lst []) = H1 at E0
    refine ⟨_, rfl, _, rfl, _, _, rfl, rfl, b, _, rfl, E0.bag, by decide, by decide, fun d H2 d0 d1 hb2 k2 => ?_⟩
    have d3 : d < 5 := d1
    refine ⟨d, rfl, by omega, by omega, ?_⟩
    refine for_range (fun i σ H' => ∃ (ps : List Addr) (rs : List Ru) (v3 v4 v5 v6 v7 v8 : Option V), σ = [some (.ref b), some (.int 4), some (.ref F), v3, v4, v5, v6, v7, v8] ∧ RI b F H H' ps rs ∧ rs.length ≤ i)
      ⟨[], [], none, none, none, none, none, none, rfl, E0.step hb2 k2, Nat.le_refl _⟩ ?_ ?_
    · rintro i σ H3 hi ⟨ps, rs, v3, v4, v5, v6, v7, v8, rfl, E3, el⟩
      have pl : ps.length = rs.length := Paired.len E3.p
      -- the mark
      refine ⟨_, rfl, b, 2, rfl, E3.bag, by decide, by decide, fun m1 H4 m10 m11 hb4 k4 => ?_⟩
      have E4 := E3.step hb4 k4
      refine ⟨_, rfl, b, 4, rfl, E4.bag, by decide, by decide, fun m2 H5 m20 m21 hb5 k5 => ?_⟩
      have E5 := E4.step hb5 k5
      refine ⟨(by show 4 ≤ sizeLine; decide), fun l nl => ?_⟩
      have E6 := E5.new (o := .lst [.non, .non, .int m1, .int m2]) nl
      have hl6 : L2.upd H5 l (.lst [.non, .non, .int m1, .int m2]) l = some (.lst [.non, .non, .int m1, .int m2]) := upd_same
      have lb : l ≠ b := E5.bag.ne nl
      generalize L2.upd H5 l (.lst [.non, .non, .int m1, .int m2]) = H6 at E6 hl6
      refine ⟨_, rfl, b, 4, rfl, E6.bag, by decide, by decide, fun e H7 e0 e1 hb7 k7 => ?_⟩
      have E7 := E6.step hb7 k7
      obtain ⟨mk, hmk, okmk⟩ := mark_at ⟨m10, m11⟩ ⟨m20, m21⟩ e0 e1
      refine ⟨l, _, e, mkV mk, rfl, rfl, SqL.of (k7 _ _ lb hl6), hmk, ?_⟩
      -- the letters
      refine ⟨_, rfl, b, al, by rw [S_al]; rfl, E7.bag, .inl rfl, fun t1 H8 s1 hb8 k8 => ?_⟩
      have E8 := E7.step hb8 k8
      refine ⟨_, rfl, b, alE, by rw [S_alE']; rfl, E8.bag, .inr rfl, fun t2 H9 s2 hb9 k9 => ?_⟩
      have E9 := E8.step hb9 k9
      refine ⟨_, _, rfl, ?_⟩
      refine ⟨_, rfl, .inl ⟨rfl, _, SqL.of E9.f⟩, _, rfl, _, rfl, _, rfl, _, rfl, b, rfl, E9.bag, fun u es H10 eok eat hb10 k10 => ?_⟩
      have E10 := E9.step hb10 k10
      refine ⟨(by show 4 ≤ sizeLine; decide), fun p np => ?_⟩
      have E11 := E10.new (o := .tup [mkV mk, .str (S t1), .str (S t2), .ref u]) np
      refine ⟨F, _, _, rfl, rfl, E11.f, by rw [List.length_map]; exact smallL (by omega), ps ++ [p], rs ++ [⟨mk, t1, t2, es⟩], _, _, _, _, _, _, rfl, E11.app (r := ⟨mk, t1, t2, es⟩) ⟨u, upd_same, eat.ts (TS.new np)⟩ ⟨okmk, s1, s2, eok⟩, ?_⟩
      rw [List.length_append]
      show rs.length + 1 ≤ i + 1
      omega
    · rintro σ H3 ⟨ps, rs, v3, v4, v5, v6, v7, v8, rfl, E3, el⟩
      refine ⟨4, rfl, by decide, by decide, fun D nD => ?_⟩
      have Db := E3.bag.ne nD
      have nD0 := free_of E3.but nD Db
      have DF : D ≠ F := (ne_of_none E3.f nD).symm
      refine lc_it (n := 4) walk_range (fun i H' => ∃ ts : List (List Nat), ts.length = i ∧ (∀ t ∈ ts, (∀ x ∈ t, Lc x) ∧ t.length ≤ 4) ∧ RI b F H H' ps rs ∧ H' D = some (.lst (ts.map fun t => .str (S t)))) ⟨[], rfl, (fun t h => by cases h), E3.new nD, upd_same⟩ (fun _ _ _ _ => trivial) ?_ ?_
      · rintro i x H4 H5 hi ⟨ts, tl, tok, E4, hD⟩ ⟨rfl, rfl⟩
        refine ⟨rfl, _, rfl, b, 2, rfl, E4.bag, by decide, fun t H5 t1 t2 hb5 k5 => ?_⟩
        have E5 := E4.step hb5 k5
        refine ⟨_, rfl, b, 3, rfl, E5.bag, by decide, by decide, fun e H6 e0 e1 hb6 k6 => ?_⟩
        have E6 := E5.step hb6 k6
        have hD6 := k6 _ _ Db (k5 _ _ Db hD)
        have hz : (S t).length ≤ 1000 := by rw [S_len]; omega
        refine ⟨_, _, rfl, rfl, ⟨by decide, by decide⟩, S t, e / 2, rfl, rfl, by omega, hz, ?_⟩
        have ev : (if e / 2 = 0 then Str.empty else S t) = S (if e / 2 = 0 then [] else t) := by
          split
          · exact S_nil
          · rfl
        rw [ev]
        have et : (∀ x ∈ (if e / 2 = 0 then [] else t), Lc x) ∧ (if e / 2 = 0 then [] else t).length ≤ 4 := by
          split
          · exact ⟨(fun x h => by cases h), by decide⟩
          · exact ⟨t1, by omega⟩
        generalize (if e / 2 = 0 then [] else t) = t' at et
        refine ⟨_, hD6, by rw [List.length_map]; exact smallL (by omega), ts ++ [t'], by rw [List.length_append, tl]; rfl, fun z hz => ?_, E6.newer hD6 nD0 DF Db, by rw [upd_same, List.map_append]; rfl⟩
        rcases List.mem_append.mp hz with h | h
        · exact tok z h
        · rw [List.mem_singleton.mp h]; exact et
      · rintro H4 ⟨ts, tl, tok, E4, hD⟩
        refine ⟨D, _, rfl, .inl ⟨SqL.of hD, fun l nl => ?_⟩⟩
        have E5 := E4.new (o := .tup (ts.map fun t => .str (S t))) nl
        have hl : L2.upd H4 l (.tup (ts.map fun t => .str (S t))) l = some (.tup (ts.map fun t => .str (S t))) := upd_same
        generalize L2.upd H4 l (.tup (ts.map fun t => .str (S t))) = H5 at E5 hl
        refine ⟨_, rfl, F, _, rfl, .inl ⟨SqL.of E5.f, fun g ng => ?_⟩⟩
        have E6 := E5.new (o := .tup (ps.map V.ref)) ng
        refine ⟨_, rfl, (by show 2 ≤ sizeLine; decide), fun z nz => ?_⟩
        have E7 := E6.new (o := .tup [.ref g, .ref l]) nz
        refine q z ⟨rs, ts⟩ _ ⟨by show rs.length ≤ 12; omega, E3.ok, tl, tok⟩ ⟨g, l, upd_same, ⟨ps, TS.new nz _ _ upd_same, E7.p⟩, TS.new nz _ _ (TS.new ng _ _ hl)⟩ E7.bag E7.but
/-! ### the program -/
def spProgram : Sp := fun vs H Q _ => ∃ (b : Addr), vs = [.ref b, .int 3, .int 4] ∧ BagAt H b ∧ ∀ (q : Addr) (Ls : List Lo) H', Ls.length ≤ 3 → (∀ L ∈ Ls, L.ok) → AtLos H' q Ls → BagAt H' b → ButN b H H' → Q (.ref q) H'
theorem sc_law_program : FnScope ["_law_bag_here", "_law_most", "_law_rules", "_law_k"] ["_law_bag_here", "_law_most", "_law_rules"] (defScope (top 43)) := ⟨rfl, rfl, rfl, by decide +kernel, rfl, by decide +kernel, by decide +kernel⟩
theorem c_program (T : Tl w K mg c fI) : Cal P w K mg base 4 "_law_program" spProgram [] := by
  have C_law_take := c_take (P := P) (base := base) T
  have C_law_loop := c_loop (P := P) (base := base) T
  refine calD T.d_program sc_law_program (fun _ _ _ _ _ _ us hl => match us, hl with | [_, _, _], _ => rfl) (fun vs H Q E h => ?_) fun f cdv A outer s H vs Q E hr h => ?_
  · obtain ⟨b, rfl, _⟩ := h
    rfl
  · obtain ⟨b, rfl, hb, q⟩ := h
    refine ⟨_, (pss_one (ps_ret (pe_callTy call_tuple_of rfl T.nTuple b_tuple (pa_cons (pe_lc (own := [("_law_k", 3)]) (g := gName 3) rfl sc_law_program.nd (pi_range1 rfl T.nRange (pa_cons (pe_c C_law_take hr (by decide) rfl (pa_cons (pv 0) (pa_cons (pe_op op_add (pv 1) pe_int) pa_nil))) pa_nil)) (blkOk_by (own := [("_law_k", 3)]) (N := ["_law_bag_here", "_law_most", "_law_rules", "_law_k"]) (sc := defScope (top 43)) (by decide +kernel)) (fun _ _ _ _ _ => pg_name (i := 3) sc_law_program.nd rfl (Or.inl rfl)) (fun _ _ _ _ _ => pts_nil) (fun _ _ _ _ _ => (pe_c C_law_loop hr (by decide) rfl (pa_cons (pv 0) (pa_cons (pv 2) pa_nil))))) pa_nil)))), ?_⟩
    refine ⟨_, rfl, _, rfl, _, _, rfl, rfl, b, _, rfl, hb, by decide, by decide, fun d H1 d0 d1 hb1 k1 => ?_⟩
    have d3 : d < 4 := d1
    refine ⟨d, rfl, by omega, by omega, fun D nD => ?_⟩
    have Db := hb1.ne nD
    have nD0 : H D = none := free_of k1 nD Db
    refine lc_it (n := d.toNat) walk_range (fun i H' => ∃ (ps : List Addr) (Ls : List Lo), Ls.length = i ∧ (∀ L ∈ Ls, L.ok) ∧ Paired (AtLo H') ps Ls ∧ BagAt H' b ∧ ButN b H H' ∧ H' D = some (.lst (ps.map V.ref))) ⟨[], [], rfl, (fun t h => by cases h), .nil, hb1.upd Db, k1.newer nD0, upd_same⟩ (fun _ _ _ _ => trivial) ?_ ?_
    · rintro i x H2 H3 hi ⟨ps, Ls, l1, l2, hp, hb2, k2, hD⟩ ⟨rfl, rfl⟩
      refine ⟨rfl, _, rfl, _, rfl, b, rfl, hb2, fun u L H4 ok hu hb4 k4 => ?_⟩
      have hD4 := k4 _ _ Db hD
      have pl : ps.length = Ls.length := Paired.len hp
      have ts : TS H4 (L2.upd H4 D (.lst (ps.map V.ref ++ [.ref u]))) := TS.lst hD4
      refine ⟨_, hD4, by rw [List.length_map]; exact smallL (by omega), ps ++ [u], Ls ++ [L], by rw [List.length_append, l1]; rfl, fun z hz => ?_, Paired.snoc (hu.ts ts) (Paired.mapP hp fun _ _ z => (z.ts (k4.ts hb2)).ts ts), hb4.upd Db, (k2.trans k4).newer nD0, by rw [upd_same, List.map_append]; rfl⟩
      rcases List.mem_append.mp hz with h | h
      · exact l2 z h
      · rw [List.mem_singleton.mp h]; exact ok
    · rintro H2 ⟨ps, Ls, l1, l2, hp, hb2, k2, hD⟩
      refine ⟨D, _, rfl, .inl ⟨SqL.of hD, fun g ng => ?_⟩⟩
      exact q g Ls _ (by omega) l2 ⟨ps, upd_same, Paired.mapP hp fun _ _ z => z.ts (TS.new ng)⟩ (hb2.upd (hb2.ne ng)) (k2.trans (ButN.new ng))
/-! ### an edit, by the law -/
def spEdit : Sp := fun vs H Q _ => ∃ (p l : Addr) (e : Ed) (xs : List Nat) (k : Nat), vs = [.ref l, .int (k : Nat), .ref p] ∧ AtEd H p e ∧ H l = some (.lst (xs.map sg)) ∧ xs.length ≤ 1000000 ∧ k ≤ 1000000 ∧
  ∀ H', H' l = some (.lst ((apEd xs k e).map sg)) → But l H H' → Q .non H'
theorem sc_law_edit : FnScope ["_law_items", "_law_k", "_law_edit_here"] ["_law_items", "_law_k", "_law_edit_here"] (defScope (top 44)) := ⟨rfl, rfl, rfl, by decide +kernel, rfl, by decide +kernel, by decide +kernel⟩
theorem c_edit (T : Tl w K mg c fI) : Cal P w K mg base 1 "_law_edit" spEdit [] := by
  refine calD T.d_edit sc_law_edit (fun _ _ _ _ _ _ us hl => match us, hl with | [_, _, _], _ => rfl) (fun vs H Q E h => ?_) fun f cdv A outer s H vs Q E hr h => ?_
  · obtain ⟨p, l, e, xs, k, rfl, _⟩ := h
    rfl
  · obtain ⟨p, l, e, xs, k, rfl, hp, hl, hz, hk, q⟩ := h
    refine ⟨_, (pss_cons (ps_if (PW.pt (pw_and (pt_cmpR op_eq (pe_ix ix_tup (pv 2) pe_int (fun _ _ => rfl)) pe_str (nomark _)) (pw_and1 (pt_cmpR op_lt (pv 1) (pe_callB call_len_seq rfl T.nLen boot_len (pa_cons (pv 0) pa_nil)) (nomark _))))) (pss_one (ps_asg (pe_ix ix_tup (pv 2) pe_int (fun _ _ => rfl)) (pg_sub (pv 0) (pv 1) set_list))) pss_nil)
      (pss_cons (ps_if (PW.pt (pw_and (pt_cmpR op_eq (pe_ix ix_tup (pv 2) pe_int (fun _ _ => rfl)) pe_str (nomark _)) (pw_and1 (pt_cmpR op_lt (pv 1) (pe_callB call_len_seq rfl T.nLen boot_len (pa_cons (pv 0) pa_nil)) (nomark _))))) (pss_one (ps_expr (pe_bm PySem.F.plainAttrs_list PySem.F.slot_list_pop PySem.F.type_list_pop mt_popAt (pv 0) (pa_cons (pv 1) pa_nil)))) pss_nil)
      (pss_cons (ps_if (PW.pt (pw_and (pt_cmpR op_eq (pe_ix ix_tup (pv 2) pe_int (fun _ _ => rfl)) pe_str (nomark _)) (pw_and1 (pt_cmpR op_lt (pe_op op_add (pv 1) pe_int) (pe_callB call_len_seq rfl T.nLen boot_len (pa_cons (pv 0) pa_nil)) (nomark _))))) (pss_one (ps_expr (pe_bm PySem.F.plainAttrs_list PySem.F.slot_list_pop PySem.F.type_list_pop mt_popAt (pv 0) (pa_cons (pe_op op_add (pv 1) pe_int) pa_nil)))) pss_nil)
      (pss_cons (ps_if (pt_cmpR op_eq (pe_ix ix_tup (pv 2) pe_int (fun _ _ => rfl)) pe_str (nomark _)) (pss_one (ps_expr (pe_bm PySem.F.plainAttrs_list PySem.F.slot_list_insert PySem.F.type_list_insert mt_insert (pv 0) (pa_cons (pv 1) (pa_cons (pe_ix ix_tup (pv 2) pe_int (fun _ _ => rfl)) pa_nil))))) pss_nil)
      (pss_one (ps_if (pt_cmpR op_eq (pe_ix ix_tup (pv 2) pe_int (fun _ _ => rfl)) pe_str (nomark _)) (pss_one (ps_expr (pe_bm PySem.F.plainAttrs_list PySem.F.slot_list_insert PySem.F.type_list_insert mt_insert (pv 0) (pa_cons (pe_op op_add (pv 1) pe_int) (pa_cons (pe_ix ix_tup (pv 2) pe_int (fun _ _ => rfl)) pa_nil))))) pss_nil)))))), ?_⟩
    have ml : (xs.map sg).length = xs.length := List.length_map _
    have hpl : ∀ {o : HO}, AtEd (L2.upd H l o) p e := fun {o} => TS.lst hl p _ hp
    have hlp : p ≠ l := ne_of hp hl (fun z => by cases z)
    cases e with
    | put d =>
      refine ⟨_, rfl, p, _, 0, .str (Ed.w (.put d)), rfl, rfl, SqT.of hp, at0 (.put d), rfl, true, rfl, ?_⟩
      refine ⟨_, rfl, _, rfl, l, _, rfl, .inl (SqL.of hl), _, _, rfl, rfl, _, rfl, ?_⟩
      rw [ml]
      by_cases c1 : k < xs.length
      · refine iteTd (by omega) ?_
        refine ⟨_, rfl, p, _, 1, sg d, rfl, rfl, SqT.of hp, rfl, _, rfl, _, rfl, l, _, _, k, rfl, rfl, hl, by rw [ml]; exact ixN_nat c1, ?_⟩
        refine ⟨_, rfl, p, _, 0, .str (Ed.w (.put d)), rfl, rfl, SqT.of hpl, at0 (.put d), rfl, false, rfl, ?_⟩
        refine ⟨_, rfl, p, _, 0, .str (Ed.w (.put d)), rfl, rfl, SqT.of hpl, at0 (.put d), rfl, false, rfl, ?_⟩
        refine ⟨_, rfl, p, _, 0, .str (Ed.w (.put d)), rfl, rfl, SqT.of hpl, at0 (.put d), rfl, false, rfl, ?_⟩
        refine ⟨_, rfl, p, _, 0, .str (Ed.w (.put d)), rfl, rfl, SqT.of hpl, at0 (.put d), rfl, false, rfl, ?_⟩
        refine q _ ?_ (But.refl l H).upd
        rw [upd_same, set_map]
        rfl
      · refine iteFd (by omega) ?_
        refine ⟨_, rfl, p, _, 0, .str (Ed.w (.put d)), rfl, rfl, SqT.of hp, at0 (.put d), rfl, false, rfl, ?_⟩
        refine ⟨_, rfl, p, _, 0, .str (Ed.w (.put d)), rfl, rfl, SqT.of hp, at0 (.put d), rfl, false, rfl, ?_⟩
        refine ⟨_, rfl, p, _, 0, .str (Ed.w (.put d)), rfl, rfl, SqT.of hp, at0 (.put d), rfl, false, rfl, ?_⟩
        refine ⟨_, rfl, p, _, 0, .str (Ed.w (.put d)), rfl, rfl, SqT.of hp, at0 (.put d), rfl, false, rfl, ?_⟩
        refine q _ ?_ (But.refl l H)
        rw [hl]
        show _ = some (HO.lst ((xs.set k d).map sg))
        rw [List.set_eq_of_length_le (by omega)]
    | drop =>
      refine ⟨_, rfl, p, _, 0, .str (Ed.w .drop), rfl, rfl, SqT.of hp, at0 .drop, rfl, false, rfl, ?_⟩
      refine ⟨_, rfl, p, _, 0, .str (Ed.w .drop), rfl, rfl, SqT.of hp, at0 .drop, rfl, true, rfl, ?_⟩
      refine ⟨_, rfl, _, rfl, l, _, rfl, .inl (SqL.of hl), _, _, rfl, rfl, _, rfl, ?_⟩
      rw [ml]
      by_cases c1 : k < xs.length
      · refine iteTd (by omega) ?_
        refine ⟨_, rfl, .inl ⟨rfl, _, SqL.of hl⟩, _, rfl, l, _, _, k, sg xs[k], rfl, rfl, hl, by omega, by omega, by rw [ml]; exact seqIx_nat c1, by rw [List.getElem?_map, List.getElem?_eq_getElem c1]; rfl, ?_⟩
        refine ⟨_, rfl, p, _, 0, .str (Ed.w .drop), rfl, rfl, SqT.of hpl, at0 .drop, rfl, false, rfl, ?_⟩
        refine ⟨_, rfl, p, _, 0, .str (Ed.w .drop), rfl, rfl, SqT.of hpl, at0 .drop, rfl, false, rfl, ?_⟩
        refine ⟨_, rfl, p, _, 0, .str (Ed.w .drop), rfl, rfl, SqT.of hpl, at0 .drop, rfl, false, rfl, ?_⟩
        refine q _ ?_ (But.refl l H).upd
        rw [upd_same, erase_map]
        rfl
      · refine iteFd (by omega) ?_
        refine ⟨_, rfl, p, _, 0, .str (Ed.w .drop), rfl, rfl, SqT.of hp, at0 .drop, rfl, false, rfl, ?_⟩
        refine ⟨_, rfl, p, _, 0, .str (Ed.w .drop), rfl, rfl, SqT.of hp, at0 .drop, rfl, false, rfl, ?_⟩
        refine ⟨_, rfl, p, _, 0, .str (Ed.w .drop), rfl, rfl, SqT.of hp, at0 .drop, rfl, false, rfl, ?_⟩
        refine q _ ?_ (But.refl l H)
        rw [hl]
        show _ = some (HO.lst ((xs.eraseIdx k).map sg))
        rw [List.eraseIdx_of_length_le (by omega)]
    | dropN =>
      refine ⟨_, rfl, p, _, 0, .str (Ed.w .dropN), rfl, rfl, SqT.of hp, at0 .dropN, rfl, false, rfl, ?_⟩
      refine ⟨_, rfl, p, _, 0, .str (Ed.w .dropN), rfl, rfl, SqT.of hp, at0 .dropN, rfl, false, rfl, ?_⟩
      refine ⟨_, rfl, p, _, 0, .str (Ed.w .dropN), rfl, rfl, SqT.of hp, at0 .dropN, rfl, true, rfl, ?_⟩
      refine ⟨_, rfl, _, _, rfl, rfl, _, rfl, l, _, rfl, .inl (SqL.of hl), _, _, rfl, rfl, _, rfl, ?_⟩
      rw [ml]
      by_cases c1 : k + 1 < xs.length
      · refine iteTd (by omega) ?_
        refine ⟨_, rfl, .inl ⟨rfl, _, SqL.of hl⟩, _, rfl, _, _, rfl, rfl, l, _, _, k + 1, sg xs[k + 1], rfl, rfl, hl, by omega, by omega, by rw [ml]; exact seqIx_nat c1, by rw [List.getElem?_map, List.getElem?_eq_getElem c1]; rfl, ?_⟩
        refine ⟨_, rfl, p, _, 0, .str (Ed.w .dropN), rfl, rfl, SqT.of hpl, at0 .dropN, rfl, false, rfl, ?_⟩
        refine ⟨_, rfl, p, _, 0, .str (Ed.w .dropN), rfl, rfl, SqT.of hpl, at0 .dropN, rfl, false, rfl, ?_⟩
        refine q _ ?_ (But.refl l H).upd
        rw [upd_same, erase_map]
        rfl
      · refine iteFd (by omega) ?_
        refine ⟨_, rfl, p, _, 0, .str (Ed.w .dropN), rfl, rfl, SqT.of hp, at0 .dropN, rfl, false, rfl, ?_⟩
        refine ⟨_, rfl, p, _, 0, .str (Ed.w .dropN), rfl, rfl, SqT.of hp, at0 .dropN, rfl, false, rfl, ?_⟩
        refine q _ ?_ (But.refl l H)
        rw [hl]
        show _ = some (HO.lst ((xs.eraseIdx (k + 1)).map sg))
        rw [List.eraseIdx_of_length_le (by omega)]
    | bef d =>
      refine ⟨_, rfl, p, _, 0, .str (Ed.w (.bef d)), rfl, rfl, SqT.of hp, at0 (.bef d), rfl, false, rfl, ?_⟩
      refine ⟨_, rfl, p, _, 0, .str (Ed.w (.bef d)), rfl, rfl, SqT.of hp, at0 (.bef d), rfl, false, rfl, ?_⟩
      refine ⟨_, rfl, p, _, 0, .str (Ed.w (.bef d)), rfl, rfl, SqT.of hp, at0 (.bef d), rfl, false, rfl, ?_⟩
      refine ⟨_, rfl, p, _, 0, .str (Ed.w (.bef d)), rfl, rfl, SqT.of hp, at0 (.bef d), rfl, true, rfl, ?_⟩
      refine ⟨_, rfl, .inl ⟨rfl, _, SqL.of hl⟩, _, rfl, _, rfl, p, _, 1, sg d, rfl, rfl, SqT.of hp, rfl, l, _, k, sg d, rfl, rfl, hl, by rw [ml]; exact smallL (by omega), by omega, by omega, ?_⟩
      refine ⟨_, rfl, p, _, 0, .str (Ed.w (.bef d)), rfl, rfl, SqT.of hpl, at0 (.bef d), rfl, false, rfl, ?_⟩
      refine q _ ?_ (But.refl l H).upd
      rw [upd_same, Int.toNat_natCast, ins_map]
      rfl
    | aft d =>
      refine ⟨_, rfl, p, _, 0, .str (Ed.w (.aft d)), rfl, rfl, SqT.of hp, at0 (.aft d), rfl, false, rfl, ?_⟩
      refine ⟨_, rfl, p, _, 0, .str (Ed.w (.aft d)), rfl, rfl, SqT.of hp, at0 (.aft d), rfl, false, rfl, ?_⟩
      refine ⟨_, rfl, p, _, 0, .str (Ed.w (.aft d)), rfl, rfl, SqT.of hp, at0 (.aft d), rfl, false, rfl, ?_⟩
      refine ⟨_, rfl, p, _, 0, .str (Ed.w (.aft d)), rfl, rfl, SqT.of hp, at0 (.aft d), rfl, false, rfl, ?_⟩
      refine ⟨_, rfl, p, _, 0, .str (Ed.w (.aft d)), rfl, rfl, SqT.of hp, at0 (.aft d), rfl, true, rfl, ?_⟩
      refine ⟨_, rfl, .inl ⟨rfl, _, SqL.of hl⟩, _, rfl, _, _, rfl, rfl, _, rfl, p, _, 1, sg d, rfl, rfl, SqT.of hp, rfl, l, _, _, sg d, rfl, rfl, hl, by rw [ml]; exact smallL (by omega), by omega, by omega, ?_⟩
      refine q _ ?_ (But.refl l H).upd
      have e1 : ((k : Int) + 1).toNat = k + 1 := by omega
      rw [upd_same, e1, ins_map]
      rfl
    | mark m =>
      refine ⟨_, rfl, p, _, 0, .str (Ed.w (.mark m)), rfl, rfl, SqT.of hp, at0 (.mark m), rfl, false, rfl, ?_⟩
      refine ⟨_, rfl, p, _, 0, .str (Ed.w (.mark m)), rfl, rfl, SqT.of hp, at0 (.mark m), rfl, false, rfl, ?_⟩
      refine ⟨_, rfl, p, _, 0, .str (Ed.w (.mark m)), rfl, rfl, SqT.of hp, at0 (.mark m), rfl, false, rfl, ?_⟩
      refine ⟨_, rfl, p, _, 0, .str (Ed.w (.mark m)), rfl, rfl, SqT.of hp, at0 (.mark m), rfl, false, rfl, ?_⟩
      refine ⟨_, rfl, p, _, 0, .str (Ed.w (.mark m)), rfl, rfl, SqT.of hp, at0 (.mark m), rfl, false, rfl, ?_⟩
      exact q _ hl (But.refl l H)
    | brk =>
      refine ⟨_, rfl, p, _, 0, .str (Ed.w .brk), rfl, rfl, SqT.of hp, at0 .brk, rfl, false, rfl, ?_⟩
      refine ⟨_, rfl, p, _, 0, .str (Ed.w .brk), rfl, rfl, SqT.of hp, at0 .brk, rfl, false, rfl, ?_⟩
      refine ⟨_, rfl, p, _, 0, .str (Ed.w .brk), rfl, rfl, SqT.of hp, at0 .brk, rfl, false, rfl, ?_⟩
      refine ⟨_, rfl, p, _, 0, .str (Ed.w .brk), rfl, rfl, SqT.of hp, at0 .brk, rfl, false, rfl, ?_⟩
      refine ⟨_, rfl, p, _, 0, .str (Ed.w .brk), rfl, rfl, SqT.of hp, at0 .brk, rfl, false, rfl, ?_⟩
      exact q _ hl (But.refl l H)
end
end Ob
namespace Ob
open PySem PySem.Spec PyProof.Rows L2 StX C8
theorem hu65 {A : Around} {k : Nat} (hr : Room k A) : A.units + 65 < cLine := by have := hr.un; omega
/-! ### an edit as data -/
def edArgs : Ed → List PyData
  | .put c => [.str ⟨#[c]⟩] | .bef c => [.str ⟨#[c]⟩] | .aft c => [.str ⟨#[c]⟩] | .mark m => [.int m] | _ => []
def edData (e : Ed) : PyData := .tuple (.str e.w :: edArgs e)
theorem lc_ok {c : Nat} (h : Lc c) : PyData.canLay0 (.str ⟨#[c]⟩) = true := by
  have : c = 97 ∨ c = 98 ∨ c = 99 ∨ c = 100 := by simpa [Lc, al] using h
  rcases this with e | e | e | e <;> subst e <;> simp only [PyData.canLay0] <;> decide +kernel
theorem w_ok (e : Ed) : PyData.canLay0 (.str e.w) = true := by
  cases e <;> simp only [PyData.canLay0, Ed.w] <;> decide +kernel
theorem edData_ok {e : Ed} (h : e.ok) : (edData e).canLay0 = true ∧ (edData e).depth ≤ 1 := by
  have w := w_ok e
  cases e with
  | put c => exact ⟨by simp only [edData, edArgs, PyData.canLay0, PyData.canLayAll0] at w ⊢; rw [w]; have := lc_ok (c := c) h; simp only [PyData.canLay0] at this; rw [this]; rfl, by simp [edData, edArgs, PyData.depth, PyData.depthAll]⟩
  | bef c => exact ⟨by simp only [edData, edArgs, PyData.canLay0, PyData.canLayAll0] at w ⊢; rw [w]; have := lc_ok (c := c) h; simp only [PyData.canLay0] at this; rw [this]; rfl, by simp [edData, edArgs, PyData.depth, PyData.depthAll]⟩
  | aft c => exact ⟨by simp only [edData, edArgs, PyData.canLay0, PyData.canLayAll0] at w ⊢; rw [w]; have := lc_ok (c := c) h; simp only [PyData.canLay0] at this; rw [this]; rfl, by simp [edData, edArgs, PyData.depth, PyData.depthAll]⟩
  | mark m => exact ⟨by simp only [edData, edArgs, PyData.canLay0, PyData.canLayAll0] at w ⊢; rw [w]; rfl, by simp [edData, edArgs, PyData.depth, PyData.depthAll]⟩
  | drop => exact ⟨by simp only [edData, edArgs, PyData.canLay0, PyData.canLayAll0] at w ⊢; rw [w]; rfl, by simp [edData, edArgs, PyData.depth, PyData.depthAll]⟩
  | dropN => exact ⟨by simp only [edData, edArgs, PyData.canLay0, PyData.canLayAll0] at w ⊢; rw [w]; rfl, by simp [edData, edArgs, PyData.depth, PyData.depthAll]⟩
  | brk => exact ⟨by simp only [edData, edArgs, PyData.canLay0, PyData.canLayAll0] at w ⊢; rw [w]; rfl, by simp [edData, edArgs, PyData.depth, PyData.depthAll]⟩
theorem edsData_ok {es : List Ed} (ok : ∀ e ∈ es, e.ok) : SeqAt.shaped (.tuple (es.map edData)) = true := by
  have h : PyData.canLayAll0 (es.map edData) = true ∧ PyData.depthAll (es.map edData) ≤ 1 := by
    induction es with
    | nil => exact ⟨by simp [PyData.canLayAll0], by simp [PyData.depthAll]⟩
    | cons e r ih =>
      obtain ⟨h1, h2⟩ := edData_ok (ok e (List.mem_cons_self ..))
      obtain ⟨h3, h4⟩ := ih fun d hd => ok d (List.mem_cons_of_mem _ hd)
      refine ⟨?_, ?_⟩
      · simp only [List.map_cons, PyData.canLayAll0, h1, h3, Bool.and_self]
      · simp only [List.map_cons, PyData.depthAll]
        omega
  unfold SeqAt.shaped
  have h1 : (PyData.tuple (es.map edData)).canLay0 = true := by simp only [PyData.canLay0]; exact h.1
  have h2 : (PyData.tuple (es.map edData)).depth ≤ 64 := by
    have := h.2
    simp only [PyData.depth]
    omega
  rw [h1, decide_eq_true h2]
  rfl
theorem brk_ok : SeqAt.shaped (.tuple [.str "break"]) = true := by
  obtain ⟨h1, h2⟩ := edData_ok (e := .brk) trivial
  unfold SeqAt.shaped
  have e : PyData.tuple [.str "break"] = edData .brk := rfl
  rw [e, h1, decide_eq_true (Nat.le_trans h2 (by decide))]
  rfl
theorem edData_brk (es : List Ed) : ((es.map edData).any fun z => PyData.eqv z (.tuple [.str "break"])) = es.any Ed.isBrk := by
  rw [List.any_map]
  congr 1
  funext e
  cases e <;> simp [edData, edArgs, Ed.w, Ed.isBrk, PyData.eqv, PyData.eqvAll] <;> decide +kernel
/-! ### plain: a replay's turn -/
theorem carry_flag (k : Nat) : ∀ (es : List Ed) (t : List Nat × Int × Bool), (carry k es t).2.2 = (t.2.2 || es.any Ed.isBrk)
  | [], t => by simp [carry]
  | e :: r, t => by
    show (carry k r (cStep k t e)).2.2 = _
    rw [carry_flag k r (cStep k t e), List.any_cons]
    cases e <;> simp [cStep, Ed.isBrk]
theorem play_succ {L : Lo} {xs0 : List Nat} {ss : List Step} {i : Nat} {s : Step} (h : ss[i]? = some s) : play L xs0 (ss.take (i + 1)) = passOf L s.r s.k (play L xs0 (ss.take i)).1 (play L xs0 (ss.take i)).2.1 := by
  rw [take_more h, play_snoc]
section
variable {P : Program} {w : World} {K : PySem.W.Frag} {mg : Str → Option Value} {base : Heap} {c : Cs} {fI : Addr}
theorem dpArgs {K : PySem.W.Frag} {H : Hp} (e : Ed) : DpAll K H e.vs (.str e.w :: edArgs e) := by
  refine .cons (.str _) ?_
  cases e <;> first | exact .cons (.str _) .nil | exact .cons (.int _) .nil | exact .nil
theorem dpEds {K : PySem.W.Frag} {H : Hp} : ∀ {ps : List Addr} {es : List Ed}, Paired (AtEd H) ps es → DpAll K H (ps.map V.ref) (es.map edData)
  | _, _, .nil => .nil
  | _, _, .cons r t => .cons (.tup (SqT.of r) (dpArgs _)) (dpEds t)
def spReplay : Sp := fun vs H Q _ => ∃ (q l st : Addr) (n : Nat) (L : Lo) (xs0 : List Nat) (ss : List Step) (ps : List Addr), vs = [.ref q, .ref l, .ref st] ∧ AtLo H q L ∧ L.ok ∧ H l = some (.lst (xs0.map sg)) ∧ (∀ x ∈ xs0, Lc x) ∧ xs0.length ≤ 50000 ∧ H st = some (.lst (ps.map V.ref)) ∧ l ≠ st ∧ Paired (AtStep n H) ps ss ∧ Done L xs0 ss ∧ ss.length ≤ 800000 ∧
  ∀ H', H' l = some (.lst ((fin L xs0 ss).1.map sg)) → But l H H' → Q (.bl (fin L xs0 ss).2) H'
theorem sc_law_replayed : FnScope ["_law_loop_here", "_law_items", "_law_steps", "_law_mark", "_law_number", "_law_step", "_law_place", "_law_k", "_law_x", "_law_rule", "_law_edit_here"] ["_law_loop_here", "_law_items", "_law_steps"] (defScope (top 45)) := ⟨rfl, rfl, rfl, by decide +kernel, rfl, by decide +kernel, by decide +kernel⟩
theorem c_replay (T : Tl w K mg c fI) : Cal P w K mg base 2 "_law_replayed" spReplay [] := by
  have C_law_edit := c_edit (P := P) (base := base) T
  refine calD T.d_replayed sc_law_replayed (fun _ _ _ _ _ _ us hl => match us, hl with | [_, _, _], _ => rfl) (fun vs H Q E h => ?_) fun f cdv A outer s H vs Q E hr h => ?_
  · obtain ⟨q, l, st, n, L, xs0, ss, ps, rfl, _⟩ := h
    rfl
  · obtain ⟨q, l, st, n, L, xs0, ss, ps, rfl, hL, ok, hl, hx, hz, hst, lst', hp, dn, hsz, kq⟩ := h
    obtain ⟨q1, q2, hL1, hL2, hL3⟩ := id hL
    have bts : ∀ {H1 : Hp}, But l H H1 → TS H H1 := fun b => b.ts hl
    have psl : ps.length = ss.length := Paired.len hp
    refine ⟨_, (pss_cons (ps_set (i := 3) sc_law_replayed.nd rfl (Or.inl rfl) pe_int)
      (pss_cons (ps_for PassesOwn.never rfl (pi_enum rfl T.nEnum (pa_cons (pv 2) pa_nil)) (pg_tup rfl (pgs_cons (pg_name (i := 4) sc_law_replayed.nd rfl (Or.inl rfl)) (pgs_cons (pg_name (i := 5) sc_law_replayed.nd rfl (Or.inl rfl)) pgs_nil))) (pss_cons (ps_asg (pv 5) (pg_tup rfl (pgs_cons (pg_name (i := 6) sc_law_replayed.nd rfl (Or.inl rfl)) (pgs_cons (pg_name (i := 7) sc_law_replayed.nd rfl (Or.inl rfl)) (pgs_cons (pg_name (i := 8) sc_law_replayed.nd rfl (Or.inl rfl)) (pgs_cons (pg_name (i := 9) sc_law_replayed.nd rfl (Or.inl rfl)) pgs_nil))))))
      (pss_cons (ps_if (PW.pt (pw_or (pt_cmpR op_ne (pv 7) (pv 4) (nomark _)) (pw_or (pt_cmpR op_ge (pv 7) (pe_callB call_len_seq rfl T.nLen boot_len (pa_cons (pv 1) pa_nil)) (nomark _)) (pw_or1 (pt_cmpR op_ne (pe_ix ix_list (pv 1) (pv 7) (fun _ _ => rfl)) (pv 8) (nomark _)))))) (pss_one (ps_ret pe_non)) pss_nil)
      (pss_one (ps_if (pt_cmpR op_notN (pv 9) pe_non (nomark _)) (pss_cons (ps_for PassesOwn.never rfl (pi_tup (pe_ix ix_tup (pe_ix ix_tup (pe_ix ix_tup (pv 0) pe_int (fun _ _ => rfl)) (pv 9) (fun _ _ => rfl)) pe_int (fun _ _ => rfl))) (pg_name (i := 10) sc_law_replayed.nd rfl (Or.inl rfl)) (pss_one (ps_if (pt_cmpR op_eq (pe_ix ix_tup (pv 10) pe_int (fun _ _ => rfl)) pe_str (nomark _)) (pss_one (ps_set (i := 3) sc_law_replayed.nd rfl (Or.inl rfl) (pe_ix ix_tup (pv 10) pe_int (fun _ _ => rfl)))) (pss_one (ps_if (pt_cmpR op_ne (pe_ix ix_tup (pv 10) pe_int (fun _ _ => rfl)) pe_str (nomark _)) (pss_one (ps_expr (pe_c C_law_edit hr (by decide) rfl (pa_cons (pv 1) (pa_cons (pv 7) (pa_cons (pv 10) pa_nil)))))) pss_nil)))))
      (pss_one (ps_if (pt_cmpR (op_inDT (hu65 hr)) (pe_tup (pa_cons pe_str pa_nil)) (pe_ix ix_tup (pe_ix ix_tup (pe_ix ix_tup (pv 0) pe_int (fun _ _ => rfl)) (pv 9) (fun _ _ => rfl)) pe_int (fun _ _ => rfl)) rfl) (pss_one (ps_ret (pe_ifExp (pt_cmpR op_eq (pv 4) (pe_op op_sub (pe_callB call_len_seq rfl T.nLen boot_len (pa_cons (pv 2) pa_nil)) pe_int) (nomark _)) pe_bl pe_non))) pss_nil))) pss_nil)))))
      (pss_cons (ps_if (pt_cmpR op_lt (pe_callB call_len_seq rfl T.nLen boot_len (pa_cons (pv 2) pa_nil)) (pe_callB call_len_seq rfl T.nLen boot_len (pa_cons (pv 1) pa_nil)) (nomark _)) (pss_one (ps_ret pe_non)) pss_nil)
      (pss_cons (ps_expr (pe_bm PySem.F.plainAttrs_list PySem.F.slot_list_extend PySem.F.type_list_extend mt_extend (pv 1) (pa_cons (pe_callTy (call_listS rfl) rfl T.nList b_list (pa_cons (pe_ix ix_tup (pe_ix ix_tup (pv 0) pe_int (fun _ _ => rfl)) (pv 3) (fun _ _ => rfl)) pa_nil)) pa_nil)))
      (pss_one (ps_ret pe_bl)))))), ?_⟩
    refine ⟨_, rfl, st, _, rfl, SqL.of hst, ?_⟩
    refine for_it (n := (ps.map V.ref).length) walk_enum (fun i σ H' => (∃ v4 v5 v6 v7 v8 v9 v10 : Option V, σ = [some (.ref q), some (.ref l), some (.ref st), some (.int (play L xs0 (ss.take i)).2.1), v4, v5, v6, v7, v8, v9, v10]) ∧ (play L xs0 (ss.take i)).2.2 = false ∧ H' l = some (.lst ((play L xs0 (ss.take i)).1.map sg)) ∧ But l H H')
      ⟨⟨none, none, none, none, none, none, none, rfl⟩, rfl, hl, But.refl l H⟩ (fun i σ H' _ z => SqL.of (z.2.2.2 _ _ lst'.symm hst)) ?_ ?_
    · rintro i x σ H1 H2 hi ⟨⟨v4, v5, v6, v7, v8, v9, v10, rfl⟩, hb, hl1, b1⟩ ⟨t, x1, y, rfl, nt0, rfl, hx1, hy⟩
      cases hx1
      obtain ⟨p, hpi, rfl⟩ := ref_at hy
      obtain ⟨s, hsi, hps⟩ := Paired.at hp hpi
      rw [List.length_map] at hi
      obtain ⟨gk, gx, gb, gr⟩ := dn.good i s hsi
      have ps' := play_succ (L := L) (xs0 := xs0) hsi
      have lx : (play L xs0 (ss.take i)).1.length ≤ 850000 := by
        have := play_len ok hx (ss.take i)
        rw [List.length_take] at this
        omega
      obtain ⟨sk, sx, sr⟩ := s
      simp only at gk gx gr ps'
      subst gk
      have b2 : But l H (L2.upd H1 t (.tup [.int (sk : Nat), .ref p])) := b1.trans (But.of (same_new nt0))
      have hl2 : L2.upd H1 t (.tup [.int (sk : Nat), .ref p]) l = some (.lst ((play L xs0 (ss.take sk)).1.map sg)) := same_new nt0 _ _ hl1
      have ht : L2.upd H1 t (.tup [.int (sk : Nat), .ref p]) t = some (.tup [.int (sk : Nat), .ref p]) := upd_same
      generalize L2.upd H1 t (.tup [.int (sk : Nat), .ref p]) = H2 at b2 hl2 ht
      have hp2 : H2 p = some (.tup [.int (n : Nat), .int (sk : Nat), sg sx, optV sr]) := bts b2 _ _ hps
      refine ⟨_, _, rfl, SqT.of ht, rfl, _, _, rfl, _, _, rfl, rfl, ?_⟩
      refine ⟨_, rfl, p, _, rfl, SqT.of hp2, rfl, _, _, rfl, _, _, rfl, _, _, rfl, _, _, rfl, rfl, ?_⟩
      have hxs : ((play L xs0 (ss.take sk)).1.map sg)[sk]? = some (sg sx) := by rw [List.getElem?_map, gx]; rfl
      have klt : sk < (play L xs0 (ss.take sk)).1.length := (List.getElem?_eq_some_iff.mp gx).1
      refine ⟨_, rfl, _, rfl, rfl, false, by simp, ?_⟩
      refine ⟨_, rfl, _, rfl, l, _, rfl, .inl (SqL.of hl2), _, _, rfl, rfl, false, congrArg V.bl (decide_eq_false (by rw [List.length_map]; omega)), ?_⟩
      refine ⟨_, rfl, _, rfl, l, _, _, sg sx, rfl, rfl, SqL.of hl2, atI_nat hxs, _, rfl, rfl, false, by simp, ?_⟩
      cases sr with
      | none =>
        refine ⟨_, rfl, rfl, false, rfl, ?_⟩
        have e : play L xs0 (ss.take (sk + 1)) = ((play L xs0 (ss.take sk)).1, (play L xs0 (ss.take sk)).2.1, false) := ps'
        rw [e]
        exact ⟨⟨_, _, _, _, _, _, _, rfl⟩, rfl, hl2, b2⟩
      | some j =>
        refine ⟨_, rfl, rfl, true, rfl, ?_⟩
        have hj := gr j rfl
        obtain ⟨rp, hr1, hr2⟩ := hL2.ts (bts b2)
        have rl : rp.length = L.rules.length := Paired.len hr2
        have hpj : rp[j]? = some rp[j] := List.getElem?_eq_getElem (by omega)
        obtain ⟨ru, hru, qe, he1, he2⟩ := Paired.at hr2 hpj
        have hpv : (rp.map V.ref)[j]? = some (.ref rp[j]) := by rw [List.getElem?_map, hpj]; rfl
        generalize rp[j] = pj at hpj he1 hpv
        obtain ⟨eps, hq1, hq2⟩ := id he2
        have rok : ru.ok := ok.rules ru (List.mem_of_getElem? hru)
        have eo : edsOf L (some j) = ru.eds := by
          show (match L.rules[j]? with | some r => r.eds | none => []) = ru.eds
          rw [hru]
        have epl : eps.length = ru.eds.length := Paired.len hq2
        have hL12 := bts b2 _ _ hL1
        have pc : play L xs0 (ss.take (sk + 1)) = carry sk ru.eds ((play L xs0 (ss.take sk)).1, (play L xs0 (ss.take sk)).2.1, false) := by rw [ps', ← eo]; rfl
        generalize play L xs0 (ss.take sk) = tt at pc hl2 lx hb klt hxs gx
        have b2t : ∀ {H3 : Hp}, But l H2 H3 → TS H2 H3 := fun b => b.ts hl2
        refine ⟨_, rfl, q, _, 0, .ref q1, rfl, rfl, SqT.of hL12, rfl, _, rfl, q1, _, _, .ref pj, rfl, rfl, SqT.of hr1, atI_nat hpv, pj, _, 3, .ref qe, rfl, rfl, SqT.of he1, rfl, qe, rfl, ⟨_, SqT.of hq1⟩, ?_⟩
        refine for_tup (K := K) (a := qe) (xs := eps.map V.ref) (fun i σ H' => (∃ v10 : Option V, σ = [some (.ref q), some (.ref l), some (.ref st), some (.int (carry sk (ru.eds.take i) (tt.1, tt.2.1, false)).2.1), some (.int (sk : Nat)), some (.ref p), some (.int (n : Nat)), some (.int (sk : Nat)), some (sg sx), some (.int (j : Nat)), v10]) ∧ H' l = some (.lst ((carry sk (ru.eds.take i) (tt.1, tt.2.1, false)).1.map sg)) ∧ But l H2 H')
          ⟨⟨_, rfl⟩, hl2, But.refl l H2⟩ (fun i σ H' _ z => SqT.of (b2t z.2.2 _ _ hq1)) ?_ ?_
        · rintro i y σ H3 hi3 ⟨⟨v, rfl⟩, h2, h3⟩
          obtain ⟨a, ha, rfl⟩ := ref_at hi3
          obtain ⟨e, he, hae⟩ := Paired.at hq2 ha
          have hae1 : AtEd H3 a e := hae.ts (b2t h3)
          have tk := take_more he
          have cl := carry_len sk (ru.eds.take i) (tt.1, tt.2.1, false)
          have l4 := rok.eds.len
          rw [List.length_take] at cl
          have cl' : (carry sk (ru.eds.take i) (tt.1, tt.2.1, false)).1.length ≤ tt.1.length + min i ru.eds.length := cl
          rw [tk, carry_snoc]
          generalize carry sk (ru.eds.take i) (tt.1, tt.2.1, false) = u at h2 cl'
          have go : (∀ m', e ≠ .mark m') → e ≠ .brk → ∀ H', H' l = some (.lst ((apEd u.1 sk e).map sg)) → But l H3 H' → (∃ v10 : Option V, [some (V.ref q), some (.ref l), some (.ref st), some (.int u.2.1), some (.int (sk : Nat)), some (.ref p), some (.int (n : Nat)), some (.int (sk : Nat)), some (sg sx), some (.int (j : Nat)), some (.ref a)] = [some (.ref q), some (.ref l), some (.ref st), some (.int (cStep sk u e).2.1), some (.int (sk : Nat)), some (.ref p), some (.int (n : Nat)), some (.int (sk : Nat)), some (sg sx), some (.int (j : Nat)), v10]) ∧ H' l = some (.lst ((cStep sk u e).1.map sg)) ∧ But l H2 H' := fun n1 n2 H' g1 g2 => by
            have ec : cStep sk u e = (apEd u.1 sk e, u.2.1, u.2.2) := by
              cases e with
              | mark m' => exact absurd rfl (n1 m')
              | brk => exact absurd rfl n2
              | _ => rfl
            rw [ec]
            exact ⟨⟨_, rfl⟩, g1, h3.trans g2⟩
          refine ⟨_, rfl, a, _, 0, .str e.w, rfl, rfl, SqT.of hae1, at0 e, rfl, ?_⟩
          cases e with
          | mark m' =>
            refine ⟨true, rfl, ?_⟩
            exact ⟨_, rfl, a, _, 1, .int m', rfl, rfl, SqT.of hae1, rfl, ⟨_, rfl⟩, h2, h3⟩
          | brk =>
            refine ⟨false, rfl, ?_⟩
            refine ⟨_, rfl, a, _, 0, .str "break", rfl, rfl, SqT.of hae1, rfl, rfl, false, rfl, ?_⟩
            exact ⟨⟨_, rfl⟩, h2, h3⟩
          | put d =>
            refine ⟨false, rfl, _, rfl, a, _, 0, .str "put", rfl, rfl, SqT.of hae1, rfl, rfl, true, rfl, ?_⟩
            exact ⟨_, rfl, _, rfl, _, rfl, a, l, _, u.1, sk, rfl, hae1, h2, by omega, by omega, fun H' g1 g2 => go (fun _ z => by cases z) (fun z => by cases z) H' g1 g2⟩
          | drop =>
            refine ⟨false, rfl, _, rfl, a, _, 0, .str "drop", rfl, rfl, SqT.of hae1, rfl, rfl, true, rfl, ?_⟩
            exact ⟨_, rfl, _, rfl, _, rfl, a, l, _, u.1, sk, rfl, hae1, h2, by omega, by omega, fun H' g1 g2 => go (fun _ z => by cases z) (fun z => by cases z) H' g1 g2⟩
          | dropN =>
            refine ⟨false, rfl, _, rfl, a, _, 0, .str "drop_next", rfl, rfl, SqT.of hae1, rfl, rfl, true, rfl, ?_⟩
            exact ⟨_, rfl, _, rfl, _, rfl, a, l, _, u.1, sk, rfl, hae1, h2, by omega, by omega, fun H' g1 g2 => go (fun _ z => by cases z) (fun z => by cases z) H' g1 g2⟩
          | bef d =>
            refine ⟨false, rfl, _, rfl, a, _, 0, .str "before", rfl, rfl, SqT.of hae1, rfl, rfl, true, rfl, ?_⟩
            exact ⟨_, rfl, _, rfl, _, rfl, a, l, _, u.1, sk, rfl, hae1, h2, by omega, by omega, fun H' g1 g2 => go (fun _ z => by cases z) (fun z => by cases z) H' g1 g2⟩
          | aft d =>
            refine ⟨false, rfl, _, rfl, a, _, 0, .str "after", rfl, rfl, SqT.of hae1, rfl, rfl, true, rfl, ?_⟩
            exact ⟨_, rfl, _, rfl, _, rfl, a, l, _, u.1, sk, rfl, hae1, h2, by omega, by omega, fun H' g1 g2 => go (fun _ z => by cases z) (fun z => by cases z) H' g1 g2⟩
        · rintro σ H3 ⟨⟨v, rfl⟩, h2, h3⟩
          rw [List.length_map, epl, List.take_length] at h2 ⊢
          rw [← pc] at h2 ⊢
          have fl : (play L xs0 (ss.take (sk + 1))).2.2 = ru.eds.any Ed.isBrk := by rw [pc, carry_flag]; rfl
          have b3 : But l H H3 := b2.trans h3
          refine ⟨(by show 1 ≤ sizeLine; decide), fun pb nb => ?_⟩
          have b4 : But l H2 (L2.upd H3 pb (.tup [.str "break"])) := h3.trans (But.of (same_new nb))
          have hpb : L2.upd H3 pb (.tup [.str "break"]) pb = some (.tup [.str "break"]) := upd_same
          have hl4 : L2.upd H3 pb (.tup [.str "break"]) l = some (.lst ((play L xs0 (ss.take (sk + 1))).1.map sg)) := same_new nb _ _ h2
          generalize L2.upd H3 pb (.tup [.str "break"]) = H4 at b4 hpb hl4
          have t4 := b2t b4
          refine ⟨_, rfl, q, _, 0, .ref q1, rfl, rfl, SqT.of (t4 _ _ hL12), rfl, _, rfl, q1, _, _, .ref pj, rfl, rfl, SqT.of (t4 _ _ hr1), atI_nat hpv, pj, _, 3, .ref qe, rfl, rfl, SqT.of (t4 _ _ he1), rfl, ?_⟩
          refine ⟨.tuple [.str "break"], ru.eds.map edData, .tup (SqT.of hpb) (.cons (.str _) .nil), .tup (SqT.of (t4 _ _ hq1)) (dpEds (Paired.mapP hq2 fun _ _ z => z.ts t4)), brk_ok, edsData_ok rok.eds.ok, _, rfl, ?_⟩
          rw [edData_brk, ← fl]
          cases hbr : (play L xs0 (ss.take (sk + 1))).2.2 with
          | true =>
            have last : sk + 1 = ss.length := by
              rcases Nat.lt_or_ge (sk + 1) ss.length with h | h
              · have := (dn.good (sk + 1) _ (List.getElem?_eq_getElem h)).2.2.1
                rw [hbr] at this
                cases this
              · omega
            rw [last, List.take_length] at hbr hl4
            have ef : fin L xs0 ss = ((play L xs0 ss).1, true) := by unfold fin; rw [if_pos hbr]
            refine ⟨_, rfl, _, rfl, st, _, rfl, .inl (SqL.of (b2.trans b4 _ _ lst'.symm hst)), _, _, rfl, rfl, rfl, true, congrArg V.bl (decide_eq_true (congrArg V.int ?_)), ?_⟩
            · rw [List.length_map]; omega
            · have := kq H4 (by rw [ef]; exact hl4) (b2.trans b4)
              rw [ef] at this
              exact this
          | false => exact ⟨⟨_, _, _, _, _, _, _, rfl⟩, rfl, hl4, b2.trans b4⟩
    · rintro σ H1 ⟨⟨v4, v5, v6, v7, v8, v9, v10, rfl⟩, hb, hl1, b1⟩
      rw [List.length_map, psl, List.take_length] at hb hl1 ⊢
      have ef : fin L xs0 ss = ((play L xs0 ss).1 ++ endOf L (play L xs0 ss).2.1, false) := by unfold fin; rw [if_neg (by rw [hb]; decide)]
      have pf := play_fine ok hx ss
      have pl := play_len ok hx ss
      obtain ⟨e1, e2, e3⟩ := end_at ok pf.m
      have len := dn.len hb
      have hat : atI (L.ends.map fun t => V.str (S t)) (play L xs0 ss).2.1 = some (.str (S (endOf L (play L xs0 ss).2.1))) := by
        have em : (play L xs0 ss).2.1 = (((play L xs0 ss).2.1.toNat : Nat) : Int) := (Int.toNat_of_nonneg pf.m.1).symm
        rw [em]
        refine atI_nat ?_
        rw [List.getElem?_map, ← em, e1]
        rfl
      refine ⟨_, rfl, st, _, rfl, .inl (SqL.of (b1 _ _ lst'.symm hst)), _, rfl, l, _, rfl, .inl (SqL.of hl1), _, _, rfl, rfl, _, rfl, iteFd (by rw [List.length_map, List.length_map]; omega) ?_⟩
      refine ⟨_, rfl, .inl ⟨rfl, _, SqL.of hl1⟩, _, rfl, q, _, 1, .ref q2, rfl, rfl, SqT.of (bts b1 _ _ hL1), rfl, _, rfl, q2, _, _, _, rfl, rfl, SqT.of (bts b1 _ _ hL3), hat, S (endOf L (play L xs0 ss).2.1), rfl, small ?_, fun z nz => ?_⟩
      · have : (S (endOf L (play L xs0 ss).2.1)).cps.size = (endOf L (play L xs0 ss).2.1).length := rfl
        omega
      rw [S_cps]
      have hl2 := same_new (o := .lst ((endOf L (play L xs0 ss).2.1).map sg)) nz _ _ hl1
      refine ⟨l, z, _, _, rfl, rfl, hl2, upd_same, small (by rw [List.length_map, List.length_map]; omega), ?_⟩
      have := kq (L2.upd (L2.upd H1 z (.lst ((endOf L (play L xs0 ss).2.1).map sg))) l (.lst ((play L xs0 ss).1.map sg ++ (endOf L (play L xs0 ss).2.1).map sg))) (by rw [ef, upd_same, List.map_append]) (b1.trans (But.of (same_new nz))).upd
      rw [ef] at this
      exact this
end
end Ob
/-! The law's call of run: the lambda is made, its cell is known while run runs. -/
namespace Ob
open PySem PySem.Spec PyProof.Rows L2 StX NdefX LamX
/-! ### an object, known for a while -/
theorem del_upd {H : Hp} {a : Addr} {o : HO} (h : H a = none) : del (L2.upd H a o) a = H := by
  funext b
  by_cases e : b = a
  · rw [e, del_same, h]
  · rw [del_ne e, upd_ne e]
theorem HOk.track {P : Program} {w : World} {H : Hp} {h : Heap} {a : Addr} {o : Obj} (hok : HOk P w H h) (n : H a = none) (e : h.get? a = some o) : HOk P w (L2.upd H a (ExO a o)) h :=
  HOk.show (by rw [del_upd n]; exact hok) upd_same (exO_ok e)
theorem Env0.track {P : Program} {w : World} {K : PySem.W.Frag} {mg : Str → Option Value} {base : Heap} {A : Around} {outer : List Env} {s : Shared} {H : Hp} {a : Addr} {o : Obj} (e0 : Env0 P w K mg base A outer s H) (n : H a = none) (e : s.heap.get? a = some o) (nb : base.get? a = none) (nf : a ∉ frs outer) :
    Env0 P w K mg base A outer s (L2.upd H a (ExO a o)) :=
  ⟨e0.frames, e0.mod, fun b u hb => ⟨(e0.bs b u hb).1, by rw [upd_ne (fun z => by rw [z, nb] at hb; cases hb)]; exact (e0.bs b u hb).2⟩, e0.bsz, e0.funs, fun b hb => by rw [upd_ne (fun z => nf (by rw [← z]; exact hb))]; exact e0.frf b hb, HOk.track e0.hok n e, e0.bare⟩
theorem ce_hide {P : Program} {w : World} {outer : List Env} {H : Hp} {s s' : Shared} {a : Addr} {o : Obj} {Q Q' : VK} {u : Value} (n : H a = none) (e : s.heap.get? a = some o) (k : ∀ v H4, Q v H4 → H4 a = some (ExO a o) ∧ Q' v (del H4 a)) (h : CE outer P w (L2.upd H a (ExO a o)) s Q u s') : CE outer P w H s Q' u s' := by
  obtain ⟨v, H4, os, bare, un, hok, r, q⟩ := h
  obtain ⟨k1, k2⟩ := k v H4 q
  have ea : s'.heap.get? a = some o := exO_at hok k1
  refine ⟨v, del H4 a, os, bare, ⟨fun b u e1 e2 e3 e4 => ?_, fun b u e1 e2 e3 e4 => ?_, fun b u e1 e2 e3 => ?_, fun b u e1 e2 => un.there b u e1 e2, fun b xs e1 => ?_, fun b x y e1 => ?_, fun b ps e1 => ?_⟩, HOk.hide hok k1, r, k2⟩
  · by_cases hb : b = a
    · subst hb
      rw [e] at e1
      cases e1
      exact ea
    · exact un.keep b u e1 (by rw [upd_ne hb]; exact e2) e3 e4
  · by_cases hb : b = a
    · subst hb
      rw [e] at e1
      cases e1
      exact ⟨o.slots, ea⟩
    · exact un.slot b u e1 (by rw [upd_ne hb]; exact e2) e3 e4
  · by_cases hb : b = a
    · rw [hb]; exact del_same
    · rw [del_ne hb]
      exact un.free b u e1 (by rw [upd_ne hb]; exact e2) e3
  · have hb : b ≠ a := ne_of_none e1 n
    rw [del_ne hb]
    exact un.tups b xs (by rw [upd_ne hb]; exact e1)
  · have hb : b ≠ a := ne_of_none e1 n
    rw [del_ne hb]
    exact un.frzs b x y (by rw [upd_ne hb]; exact e1)
  · have hb : b ≠ a := ne_of_none e1 n
    rw [del_ne hb]
    exact un.tbls b ps (by rw [upd_ne hb]; exact e1)
theorem cx_hide {P : Program} {w : World} {outer : List Env} {H : Hp} {s s' : Shared} {a : Addr} {o : Obj} {E E' : XK} {u : Value} (n : H a = none) (e : s.heap.get? a = some o) (k : ∀ cls d H4, E cls d H4 → H4 a = some (ExO a o) ∧ E' cls d (del H4 a)) (h : L2.CX P w outer (L2.upd H a (ExO a o)) s E u s') : L2.CX P w outer H s E' u s' := by
  obtain ⟨x, B, H4, cls, d, rfl, fl, hok, ub, na, os, ag, hE⟩ := h
  obtain ⟨k1, k2⟩ := k cls d H4 hE
  have ea : B.get? a = some o := exO_at hok k1
  refine ⟨x, B, del H4 a, cls, d, rfl, fl, HOk.hide hok k1, ⟨fun b u e1 e2 e3 => ?_, fun b u e1 e2 => ub.slot b u e1 e2, fun b u e1 e2 => ?_, fun b u e1 e2 => ub.there b u e1 e2, fun b xs e1 => ?_, fun b x y e1 => ?_, fun b ps e1 => ?_⟩, ?_, os, ag, k2⟩
  · by_cases hb : b = a
    · subst hb
      rw [e] at e1
      cases e1
      exact ea
    · exact ub.keep b u e1 (by rw [upd_ne hb]; exact e2) e3
  · by_cases hb : b = a
    · rw [hb]; exact del_same
    · rw [del_ne hb]
      exact ub.free b u e1 (by rw [upd_ne hb]; exact e2)
  · have hb : b ≠ a := ne_of_none e1 n
    rw [del_ne hb]
    exact ub.tups b xs (by rw [upd_ne hb]; exact e1)
  · have hb : b ≠ a := ne_of_none e1 n
    rw [del_ne hb]
    exact ub.frzs b x y (by rw [upd_ne hb]; exact e1)
  · have hb : b ≠ a := ne_of_none e1 n
    rw [del_ne hb]
    exact ub.tbls b ps (by rw [upd_ne hb]; exact e1)
  · by_cases hb : x = a
    · rw [hb]; exact del_same
    · rw [del_ne hb]; exact na
/-! ### the lambda is made -/
structure LamSrc (params : Arguments) (body : Expr) (scope : Scope) : Prop where
  sc : NScope ["_law_step", "_law_notes"] ["_law_step"] ["_law_notes"] scope
  names : scope.names = [(("_law_step" : Str), .local), (("_law_notes" : Str), .free)]
  bind : ∀ (qual : Str) (cl : List (Str × Addr)) (cdv pm ctv : Value) (u : Value), bindArgs (PySem.W.kla_fn "<lambda>" qual params body scope cl pm cdv ctv) ⟨[u], []⟩ = pure [(("_law_step" : Str), u)]
  body : ∃ (p1 p2 p3 p4 : Pos), body = .Call (.Attribute (.Name "_law_notes" p1) "append" p2) [.Name "_law_step" p3] [] p4 ∧ (p2.endLine == p4.line) = true
  dflt : ∀ env, defaultsOf params env = ([], [])
/-- at f the watcher's function -/
def LamAt (H : Hp) (f cc : Addr) : Prop := ∃ (F : LF) (od : Option Addr) (sl : Array (Option Value)) (pm ctv : Value), H f = some (ExO f (lamObj F od sl pm ctv)) ∧ H F.c = some (CodeO F.c F.qual) ∧ LamText F cc
def tLamW (T : List (Addr × Str)) (cc : Addr) : TE := fun _ H Q => Tabs T H ∧ ∀ f H2, ExtN H H2 → Tabs T H2 → LamAt H2 f cc → Q (.ref f) H2
theorem lamText_of {params : Arguments} {body : Expr} {scope : Scope} (LS : LamSrc params body scope) {env : Env} {cc c' : Addr} {qual : Str} (hcc : env.cells.lookup ("_law_notes" : Str) = some cc) : LamText ⟨qual, params, body, scope, cloFrom env.cells scope.names [], c'⟩ cc := by
  refine ⟨?_, LS.sc, fun pm ctv u => LS.bind _ _ _ _ _ u, LS.body⟩
  show cloFrom env.cells scope.names [] = _
  rw [LS.names]
  show [(("_law_notes" : Str), (env.cells.lookup ("_law_notes" : Str)).getD 0)] = _
  rw [hcc]
  rfl
/-- the table at P tells one code object more, c1 of the name q -/
def Grown (H : Hp) (P c1 : Addr) (q : Str) (ps : Array Value) (pos : Pos) : Hp := L2.upd (L2.upd H P (.tbl (ps ++ #[rawInt pos.line, rawInt pos.col, .ref c1]))) c1 (CodeO c1 q)
theorem grown_ext {H : Hp} {P c1 : Addr} {q : Str} {ps : Array Value} {pos : Pos} (hP : H P = some (.tbl ps)) (n1 : H c1 = none) : ExtN H (Grown H P c1 q ps pos) := fun b o hb no => by
  have nP : b ≠ P := fun z => no ps (by rw [z, hP] at hb; exact (Option.some.inj hb).symm)
  show L2.upd _ c1 _ b = some o
  rw [upd_ne (ne_of_none hb n1), upd_ne nP]
  exact hb
theorem grown_tabs {T : List (Addr × Str)} {H : Hp} {P c1 : Addr} {q : Str} {ps : Array Value} {pos : Pos} (hT : Tabs T H) (hP : H P = some (.tbl ps)) (n1 : H c1 = none) (tr : TriplesOk ps.toList) (hu : ∀ p ∈ T, p.1 = P → p.2 = q) : Tabs T (Grown H P c1 q ps pos) := fun p hp => by
  have ex := grown_ext (q := q) (pos := pos) hP n1
  have at1 : Grown H P c1 q ps pos c1 = some (CodeO c1 q) := upd_same
  obtain ⟨qs, h1, h2, h3⟩ := hT p hp
  by_cases e : p.1 = P
  · have eq : qs = ps := by
      rw [e, hP] at h1
      cases h1
      rfl
    subst eq
    refine ⟨qs ++ #[rawInt pos.line, rawInt pos.col, .ref c1], ?_, ?_, fun z cv hz => ?_⟩
    · rw [e]
      show L2.upd _ c1 _ P = _
      rw [upd_ne (ne_of_none hP n1)]
      exact upd_same
    · have e2 : (qs ++ #[rawInt pos.line, rawInt pos.col, .ref c1]).toList = qs.toList ++ [rawInt pos.line, rawInt pos.col, .ref c1] := by simp
      rw [e2]
      exact PySem.TriplesOk_snoc _ _ _ _ tr
    · have hz2 : codeAmong z (qs.toList ++ [rawInt pos.line, rawInt pos.col, .ref c1]) = some cv := by simpa using hz
      rcases among_app _ tr hz2 with y | y
      · obtain ⟨c2, e1, e2⟩ := h3 z cv y
        exact ⟨c2, e1, ex _ _ e2 codeO_ne⟩
      · refine ⟨c1, y, ?_⟩
        rw [hu p hp e]
        exact at1
  · refine ⟨qs, ?_, h2, fun z cv hz => ?_⟩
    · show L2.upd _ c1 _ p.1 = _
      rw [upd_ne (ne_of_none h1 n1), upd_ne e]
      exact h1
    · obtain ⟨c2, e1, e2⟩ := h3 z cv hz
      exact ⟨c2, e1, ex _ _ e2 codeO_ne⟩
section
variable {X : Cx}
/-- the lambda, as a value; the table at P grows at its first making -/
theorem pe_lamW {T : List (Addr × Str)} {c P cc : Addr} {params : Arguments} {body : Expr} {scope : Scope} {pos : Pos} (LS : LamSrc params body scope) (TB : TabB X.base X.mg c P) (hcode : X.env.code = .ref c)
    (hm : (P, X.env.qual ++ "<lambda>") ∈ T) (hu : ∀ p ∈ T, p.1 = P → p.2 = X.env.qual ++ "<lambda>") (hcc : X.env.cells.lookup ("_law_notes" : Str) = some cc) : PE X (.Lambda params body scope pos) (tLamW T cc) := by
  refine ⟨fun pins s σ H Q I ⟨hT, h⟩ => ?_⟩
  obtain ⟨ps, hP, tr, told⟩ := hT _ hm
  have clo := closure_ok (scope := scope) (env := X.env) fun y hy hk => ⟨cc, by rw [show y.1 = ("_law_notes" : Str) by simpa using LS.sc.free y hy hk]; exact hcc⟩
  -- the function's object is laid, known from now on
  have made : ∀ (h2 : Heap) (tk : Nat) (ctv : Value) (c1 : Addr) (H2 : Hp), Inv X pins σ H2 { s with heap := h2, toks := tk } → ExtN H H2 → Tabs T H2 → H2 c1 = some (CodeO c1 (X.env.qual ++ "<lambda>")) →
      EP X pins σ Q (.ref h2.objs.size) { s with heap := h2.push (PySem.W.kla_obj "<lambda>" (X.env.qual ++ "<lambda>") params body scope (cloFrom X.env.cells scope.names []) ((X.mg "__name__").getD .none) c1 ctv), toks := tk } := by
    intro h2 tk ctv c1 H2 I2 x2 T2 hc2
    have free : H2 h2.objs.size = none := I2.hok.fresh (Nat.le_refl _)
    have same := same_new (o := ExO h2.objs.size (lamObj ⟨X.env.qual ++ "<lambda>", params, body, scope, cloFrom X.env.cells scope.names [], c1⟩ none #[] ((X.mg "__name__").getD .none) ctv)) free
    exact ⟨.ref h2.objs.size, _, I2.laid (t' := tk) (fun b o e => Heap.get?_push_of_some _ e) (Nat.le_refl _) (exO_ok (Heap.get?_push_size _ rfl)), rfl, h _ _ (x2.trans (ExtN.of same)) (T2.ext same) ⟨_, none, #[], _, ctv, upd_same, same _ _ hc2, lamText_of LS hcc⟩⟩
  refine PySem.W.kla_eval (LS.dflt _) ?_
  cases hc : codeAmong pos ps.toList with
  | some cv =>
    obtain ⟨c1, rfl, hc1⟩ := told pos cv hc
    exact PySem.W.kla_makeFunctionHit (mg := X.mg) clo I.ok.glob (I.mod.glob.keeps I.bk) hcode (TB.code.keeps I.bk) (I.hok P _ hP) tr hc (TB.bm.keeps I.bk) fun ctv h2 tk keep _ => made h2 tk ctv c1 H (I.kept keep) (ExtN.refl H) hT hc1
  | none =>
    refine PySem.W.kla_makeFunction (mg := X.mg) clo I.ok.glob (I.mod.glob.keeps I.bk) hcode (TB.code.keeps I.bk) (I.hok P _ hP) tr hc TB.gP (TB.bm.keeps I.bk) fun c1 ctv h2 tk keep big small rec htb => ?_
    obtain ⟨c2, oc, vs, t, ec, hoc, hd, hv⟩ := rec
    obtain rfl : c1 = c2 := by injection ec
    have n1 : H c1 = none := I.hok.fresh big
    exact made h2 tk ctv c1 (Grown H P c1 _ ps pos) (inv_table I hP keep htb big ⟨oc, vs, t, hoc, hd, hv⟩) (grown_ext hP n1) (grown_tabs hT hP n1 tr hu) upd_same
/-- run(loops, word, watch=lambda ..): W what is wanted of Endless -/
def tRunW (c : Cs) (cc : Addr) (i : Nat) (W : WX) (t tkw : TA) : TE := fun σ H Q => t σ H fun vs H1 => tkw σ H1 fun zs H2 => ∃ (p nt f : Addr) (txt : List Nat) (Ls : List Lo), vs = [.ref p, .str (S txt)] ∧ zs = [.ref f] ∧ LamAt H2 f cc ∧ AtLos H2 p Ls ∧ Ls.length ≤ 3 ∧ (∀ L ∈ Ls, L.ok) ∧ (∀ x ∈ txt, Lc x) ∧ txt.length ≤ 8 ∧
  σ[i]? = some (some (.ref nt)) ∧ H2 nt = some (.lst []) ∧ (∀ d H', ButN nt H2 H' → (∃ ys, H' nt = some (.lst ys)) → W (.ref c.e) (some d) σ H') ∧
  ∀ (zs : Zs) (ns : List Addr) (r dr pc pw : Addr) (H' : Hp), zs.map (·.1) = Ls → RanZ txt zs → Paired (NoteAt H') ns (notesOf zs) → H' nt = some (.lst (ns.map V.ref)) → H' r = some (.ins c.r dr (rF (.str (S (runZ txt zs).1)) (.ref pc) (.ref pw))) →
    H' pc = some (.tup (zs.map fun z => .int (z.2.length : Nat))) → H' pw = some (.tup ((runZ txt zs).2.map fun b => .str (wayS b))) → ButN nt H2 H' → Q (.ref r) H'
theorem pe_runw {W : WX} {c : Cs} {cc f : Addr} {i k : Nat} {fd : FuncData} {ps : List Str} {p pos : Pos} {e1 e2 : Expr} {kws : List Keyword} {t tkw : TA} (F : FnOk X.prog X.w X.K X.mg X.base (L2.CX X.prog X.w) k f fd ps (spRunF c)) (hr : Room k X.A) (hm : X.mg "run" = some (.ref f)) (hk : PySem.W.keepIn X.K (.ref f) = true)
    (hb : KBn X.K fd ps 2 [("watch" : Str)] (fun us ws => us ++ ws) (fun vs zs => vs ++ zs)) (tk : Takes X W) (hi : X.N[i]? = some ("_law_notes" : Str)) (hv : X.env.scope.names.lookup ("_law_notes" : Str) = some .cell) (hfn : X.fn "_law_notes" = true) (hcc : X.env.cells.lookup ("_law_notes" : Str) = some cc)
    (ha : PA X [e1, e2] t) (hkw : PK X kws tkw) (hg : Gl X "run" := by rfl) (hall : (backToKw pos (keywordEach kws X.env)).all (·.1.isSome) = true := by rfl) (hks : (backToKw pos (keywordEach kws X.env)).filterMap (·.1) = [("watch" : Str)] := by rfl)
    (he : starEach [e1, e2] X.env = (false, eval e1 X.env) :: starEach [e2] X.env := by rfl)
    (hpl : ((backTo pos (starEach [e1, e2] X.env)).any (·.1) || (backToKw pos (keywordEach kws X.env)).any (·.1.isNone)) = false := by rfl) :
    PE X (.Call (.Name "run" p) [e1, e2] kws pos) (tRunW c cc i W t tkw) := by
  refine ⟨fun pins s σ H Q I h => ?_⟩
  refine wpAny_Call_Name_kw (ld_glob I hg hm ?_)
  refine PySem.W.callWith_KW (h₀ := X.base) I.ok.mod.kin hk hall (thn (ha.run pos pins s σ H _ I h) fun us s1 ⟨vs, H1, I1, r, q⟩ => ?_) hpl he
  refine thn (hkw.run pos pins s1 σ H1 _ I1 q) fun ws s2 ⟨zs, H2, I2, rz, p, nt, f', txt, Ls, ev, ez, hf, hL, h3, hok, hx, h8, hσ, hnt, hE, hQ⟩ => ⟨I2.kIn, ?_⟩
  rw [hks]
  subst ev ez
  -- the cell
  obtain ⟨oc, hoc, hod⟩ : s2.heap.IsCell cc (some (.ref nt)) := by
    obtain ⟨m, hn, hl⟩ := I2.loc
    obtain ⟨u, ru, hL⟩ := hl i _ _ hi hσ (.inr (.inl hv))
    obtain rfl : u = Value.ref nt := ru
    rcases hL with ⟨h1, _⟩ | ⟨_, c', h1, h2⟩
    · have : X.env.scope.names.lookup ("_law_notes" : Str) = some .local := h1
      rw [hv] at this
      cases this
    · rw [hcc] at h1
      cases h1
      exact h2
  have nC : H2 cc = none := I2.freeC _ _ hcc
  have ab := I2.ok.cab _ _ hfn hcc
  have nb : X.base.get? cc = none := by
    cases e : X.base.get? cc with
    | none => rfl
    | some o => exact absurd (Nat.lt_of_lt_of_le (Heap.lt_size e) (Nat.le_trans I2.ok.bsz ab)) (Nat.lt_irrefl _)
  have nf : cc ∉ frs X.stack := fun z => by
    rcases List.mem_cons.mp (I2.stkSub _ z) with e | e
    · exact I2.cne _ _ hcc e
    · obtain ⟨_, o, ho, _⟩ := I2.ok.funs.mem e
      exact absurd (Nat.lt_of_lt_of_le (Heap.lt_size ho) ab) (Nat.lt_irrefl _)
  have e0 := Env0.track I2.env0 nC hoc nb nf
  have same : Same H2 (L2.upd H2 cc (ExO cc oc)) := same_new nC
  have hcell : L2.upd H2 cc (ExO cc oc) cc = some (ExO cc oc) := upd_same
  have Wt : Watch (L2.upd H2 cc (ExO cc oc)) f' cc nt := by
    obtain ⟨Fl, od, sl, pm, ctv, h1, h2, h3⟩ := hf
    exact ⟨⟨Fl, od, sl, pm, ctv, same _ _ h1, same _ _ h2, h3⟩, oc, hod, hcell⟩
  have ccn : cc ≠ nt := (ne_of_none hnt nC).symm
  have back : ∀ {H4 : Hp}, ButN nt (L2.upd H2 cc (ExO cc oc)) H4 → ButN nt H2 (del H4 cc) := fun b x o n h => by
    rw [del_ne (ne_of_none h nC)]
    exact b x o n (same x o h)
  have l1 : us.length = 2 := r.length.symm
  have l2 : ws.length = 1 := rz.length.symm
  have keepT : ∀ {H4 : Hp} {x : Addr} {o : HO}, H4 cc = some (ExO cc oc) → H4 x = some o → (∀ φ, o ≠ .ext φ) → del H4 cc x = some o := fun h1 h2 n => by
    rw [del_ne (fun z => by rw [z, h1] at h2; exact n _ (Option.some.inj h2).symm)]
    exact h2
  refine wpAny_call (codeAny_mono (F.run X.A X.stack s2 (L2.upd H2 cc (ExO cc oc)) ⟨us, [("watch" : Str)].zip ws⟩ (us ++ ws) _ (fun v H4 => H4 cc = some (ExO cc oc) ∧ Q v (del H4 cc)) (fun cls d H4 => H4 cc = some (ExO cc oc) ∧ W cls d σ (del H4 cc)) hr e0 (hb.to s2 us ws I2.kIn l1 l2) (hb.rel r rz) ?_) fun r s' hq => ?_)
  · refine ⟨p, f', cc, nt, Ls, txt, rfl, hL.ts (TS.of same), h3, hok, hx, h8, Wt, same _ _ hnt, fun d H4 b4 n4 => ?_, fun zs ns r dr pc pw H4 a1 a2 a3 a4 a5 a6 a7 b4 => ?_⟩
    · have k1 := b4 cc _ ccn hcell
      obtain ⟨ys, hy⟩ := n4
      exact ⟨k1, hE d _ (back b4) ⟨ys, keepT k1 hy fun φ z => by cases z⟩⟩
    · have k1 := b4 cc _ ccn hcell
      exact ⟨k1, hQ zs ns r dr pc pw _ a1 a2 (Paired.mapP a3 fun _ _ z => keepT k1 z fun φ z => by cases z) (keepT k1 a4 fun φ z => by cases z) (keepT k1 a5 fun φ z => by cases z) (keepT k1 a6 fun φ z => by cases z) (keepT k1 a7 fun φ z => by cases z) (back b4)⟩
  · cases r with
    | error e => exact tk e s' (XE.of_call I2 (fun cls d H' h => h) (cx_hide (E' := fun cls d H' => W cls d σ H') nC hoc (fun cls d H4 z => z) hq))
    | ok fl =>
      cases fl with
      | ret u => exact I2.after (ce_hide nC hoc (fun v H4 z => z) hq)
      | next => exact False.elim hq
      | brk => exact False.elim hq
      | cont => exact False.elim hq
end
end Ob
/-! What the law's walk needs: plain facts of the loops, what stays in the heap. -/
namespace Ob
open PySem PySem.Spec PyProof.Rows L2 StX LamX
/-! ### plain -/
theorem runZ_succ {xs : List Nat} {zs : Zs} {i : Nat} {z : Lo × List Step} (h : zs[i]? = some z) : runZ xs (zs.take (i + 1)) = ((fin z.1 (runZ xs (zs.take i)).1 z.2).1, (runZ xs (zs.take i)).2 ++ [(fin z.1 (runZ xs (zs.take i)).1 z.2).2]) := by
  rw [take_more h, runZ_snoc]
theorem ranZ_fine {xs : List Nat} {zs : Zs} (g : RanZ xs zs) (ok : ∀ z ∈ zs, z.1.ok) (hx : ∀ c ∈ xs, Lc c) (h8 : xs.length ≤ 8) : ∀ i, i ≤ zs.length → (∀ c ∈ (runZ xs (zs.take i)).1, Lc c) ∧ (runZ xs (zs.take i)).1.length ≤ Bn i
  | 0, _ => ⟨hx, h8⟩
  | i + 1, h => by
    have hi : zs[i]? = some zs[i] := List.getElem?_eq_getElem (by omega)
    obtain ⟨h1, h2⟩ := ranZ_fine g ok hx h8 i (by omega)
    obtain ⟨_, h3⟩ := g i _ hi
    have hm : zs[i] ∈ zs := List.getElem_mem _
    have f := fin_fine (ok _ hm) h1 zs[i].2
    rw [runZ_succ hi]
    refine ⟨f.1, ?_⟩
    show (fin zs[i].1 (runZ xs (zs.take i)).1 zs[i].2).1.length ≤ 17 * Bn i + 4
    have := f.2
    omega
theorem runZ_len {xs : List Nat} : ∀ (zs : Zs) (i : Nat), i ≤ zs.length → (runZ xs (zs.take i)).2.length = i
  | _, 0, _ => rfl
  | zs, i + 1, h => by
    have hi : zs[i]? = some zs[i] := List.getElem?_eq_getElem (by omega)
    rw [runZ_succ hi, List.length_append, runZ_len zs i (by omega)]
    rfl
theorem notes_part (zs : Zs) (i : Nat) : ∀ n, n ≤ zs.length → ((notesOf (zs.take n)).filter fun q => decide (q.1 = i)).map (·.2) = if i < n then ((zs[i]?).map (·.2)).getD [] else []
  | 0, _ => by rw [if_neg (Nat.not_lt_zero _)]; rfl
  | n + 1, h => by
    have hn : zs[n]? = some zs[n] := List.getElem?_eq_getElem (by omega)
    have ih := notes_part zs i n (by omega)
    have lt : (zs.take n).length = n := by rw [List.length_take]; omega
    rw [take_more hn, notesOf_snoc, lt, List.filter_append, List.map_append, ih]
    by_cases c : i = n
    · subst c
      rw [if_neg (Nat.lt_irrefl _), if_pos (Nat.lt_succ_self _), hn, List.nil_append]
      have e : (zs[i].2.map fun s => ((i : Nat), s)).filter (fun q => decide (q.1 = i)) = zs[i].2.map fun s => (i, s) := List.filter_eq_self.mpr fun q hq => by
        obtain ⟨s, _, rfl⟩ := List.mem_map.mp hq
        simp
      rw [e, List.map_map]
      show zs[i].2.map (fun s => s) = _
      simp
    · have e : (zs[n].2.map fun s => ((n : Nat), s)).filter (fun q => decide (q.1 = i)) = [] := List.filter_eq_nil_iff.mpr fun q hq => by
        obtain ⟨s, _, rfl⟩ := List.mem_map.mp hq
        simp
        exact fun z => c z.symm
      rw [e, List.map_nil, List.append_nil]
      by_cases c2 : i < n
      · rw [if_pos c2, if_pos (by omega)]
      · rw [if_neg c2, if_neg (by omega)]
theorem notes_filter {zs : Zs} {i : Nat} {z : Lo × List Step} (h : zs[i]? = some z) : ((notesOf zs).filter fun q => decide (q.1 = i)).map (·.2) = z.2 := by
  have hi : i < zs.length := (List.getElem?_eq_some_iff.mp h).1
  have := notes_part zs i zs.length (Nat.le_refl _)
  rw [List.take_length, if_pos hi, h] at this
  exact this
theorem notes_sum (zs : Zs) : ∀ n, n ≤ zs.length → ((zs.take n).map fun z => ((z.2.length : Nat) : Int)).sum = ((notesOf (zs.take n)).length : Int)
  | 0, _ => rfl
  | n + 1, h => by
    have hn : zs[n]? = some zs[n] := List.getElem?_eq_getElem (by omega)
    rw [take_more hn, notesOf_snoc, List.map_append, List.sum_append, notes_sum zs n (by omega), List.length_append, List.length_map]
    simp
theorem notes_len {xs : List Nat} {zs : Zs} (g : RanZ xs zs) (ok : ∀ z ∈ zs, z.1.ok) (hx : ∀ c ∈ xs, Lc c) (h8 : xs.length ≤ 8) (h3 : zs.length ≤ 3) : ∀ n, n ≤ zs.length → (notesOf (zs.take n)).length ≤ 40000 * n
  | 0, _ => Nat.le_refl _
  | n + 1, h => by
    have hn : zs[n]? = some zs[n] := List.getElem?_eq_getElem (by omega)
    have ih := notes_len g ok hx h8 h3 n (by omega)
    have b1 := (ranZ_fine g ok hx h8 n (by omega)).2
    have b2 : Bn n ≤ 2384 := Bn_le (by omega)
    have b3 := (g n _ hn).2
    rw [take_more hn, notesOf_snoc, List.length_append, List.length_map]
    omega
theorem ways_shaped (bs : List Bool) : SeqAt.shaped (.tuple (bs.map fun b => .str (wayS b))) = true := by
  have h : PyData.canLayAll0 (bs.map fun b => .str (wayS b)) = true ∧ PyData.depthAll (bs.map fun b => .str (wayS b)) ≤ 1 := by
    induction bs with
    | nil => exact ⟨by simp [PyData.canLayAll0], by simp [PyData.depthAll]⟩
    | cons b r ih =>
      have h1 : PyData.canLay0 (.str (wayS b)) = true := by cases b <;> simp only [PyData.canLay0, wayS] <;> decide +kernel
      refine ⟨?_, ?_⟩
      · simp only [List.map_cons, PyData.canLayAll0, h1, ih.1, Bool.and_self]
      · simp only [List.map_cons, PyData.depthAll, PyData.depth]
        omega
  unfold SeqAt.shaped
  have h1 : (PyData.tuple (bs.map fun b => .str (wayS b))).canLay0 = true := by simp only [PyData.canLay0]; exact h.1
  have h2 : (PyData.tuple (bs.map fun b => .str (wayS b))).depth ≤ 64 := by
    have := h.2
    simp only [PyData.depth]
    omega
  rw [h1, decide_eq_true h2]
  rfl
theorem ways_eqv (bs : List Bool) : PyData.eqv (.tuple (bs.map fun b => .str (wayS b))) (.tuple (bs.map fun b => .str (wayS b))) = true := by
  have h : PyData.eqvAll (bs.map fun b => .str (wayS b)) (bs.map fun b => .str (wayS b)) = true := by
    induction bs with
    | nil => simp [PyData.eqvAll]
    | cons b r ih => simp [PyData.eqvAll, PyData.eqv, ih]
  simpa [PyData.eqv] using h
theorem dpWays {K : PySem.W.Frag} {H : Hp} : ∀ bs : List Bool, DpAll K H (bs.map fun b => V.str (wayS b)) (bs.map fun b => PyData.str (wayS b))
  | [] => .nil
  | b :: r => .cons (.str _) (dpWays r)
/-! ### what stays -/
/-- nothing but a table stood there at the law's entry -/
def Nw (H0 : Hp) (x : Addr) : Prop := ∀ o, H0 x = some o → ∃ ps, o = .tbl ps
theorem Nw.of {H0 H : Hp} {x : Addr} (e : ExtN H0 H) (n : H x = none) : Nw H0 x := fun o h => by
  by_cases c : ∃ ps, o = .tbl ps
  · exact c
  · have := e x o h fun ps z => c ⟨ps, z⟩
    rw [n] at this
    cases this
theorem Tabs.lst {T : List (Addr × Str)} {H H' : Hp} {x : Addr} {ys : List V} (t : Tabs T H) (h : H x = some (.lst ys)) (k : ∀ y o, y ≠ x → H y = some o → H' y = some o) : Tabs T H' := fun p hp => by
  obtain ⟨ps, h1, h2, h3⟩ := t p hp
  refine ⟨ps, k _ _ (ne_of h1 h (fun z => by cases z)) h1, h2, fun pos cv hc => ?_⟩
  obtain ⟨c, e1, e2⟩ := h3 pos cv hc
  exact ⟨c, e1, k _ _ (ne_of e2 h (fun z => by unfold CodeO at z; cases z)) e2⟩
theorem SqL.extN {K : PySem.W.Frag} {H H' : Hp} {a : Addr} {xs : List V} (h : SqL K H a xs) (e : ExtN H H') : SqL K H' a xs := by
  rcases h with (h | ⟨o, h⟩) | h
  · exact .inl (.inl (e _ _ h fun ps z => by cases z))
  · exact .inl (.inr ⟨o, e _ _ h fun ps z => by cases z⟩)
  · exact .inr h
/-- the state of the law: the bag, the program -/
structure LI (H0 : Hp) (T : List (Addr × Str)) (b q : Addr) (Ls : List Lo) (H : Hp) : Prop where
  ext : ExtN H0 H
  tab : Tabs T H
  bag : BagAt H b
  los : AtLos H q Ls
  nb : Nw H0 b
theorem LI.step {H0 H H' : Hp} {T : List (Addr × Str)} {b q : Addr} {Ls : List Lo} (L : LI H0 T b q Ls H) (hb : BagAt H' b) (k : ButN b H H') : LI H0 T b q Ls H' := by
  obtain ⟨g, s, t, h, _⟩ := id L.bag
  refine ⟨fun x o hx n => ?_, Tabs.lst L.tab h fun y o n z => k y o n z, hb, L.los.ts (k.ts L.bag), L.nb⟩
  refine k x o (fun z => ?_) (L.ext x o hx n)
  rw [z] at hx
  obtain ⟨ps, e⟩ := L.nb o hx
  exact n ps e
theorem LI.but {H0 H H' : Hp} {T : List (Addr × Str)} {b q x : Addr} {Ls : List Lo} {ys : List V} (L : LI H0 T b q Ls H) (h : H x = some (.lst ys)) (nx : Nw H0 x) (xb : x ≠ b) (k : ∀ y o, y ≠ x → H y = some o → H' y = some o) : LI H0 T b q Ls H' := by
  obtain ⟨g, s, t, hb, h2⟩ := id L.bag
  refine ⟨fun y o hy n => ?_, Tabs.lst L.tab h k, ⟨g, s, t, k _ _ xb.symm hb, h2⟩, L.los.ts (fun p zs z => k _ _ (ne_of z h (fun e => by cases e)) z), L.nb⟩
  refine k y o (fun z => ?_) (L.ext y o hy n)
  rw [z] at hy
  obtain ⟨ps, e⟩ := nx o hy
  exact n ps e
theorem LI.new {H0 H : Hp} {T : List (Addr × Str)} {b q a : Addr} {Ls : List Lo} {o : HO} (L : LI H0 T b q Ls H) (n : H a = none) : LI H0 T b q Ls (L2.upd H a o) :=
  L.step (L.bag.upd (L.bag.ne n)) (ButN.new n)
theorem LI.extn {H0 H H' : Hp} {T : List (Addr × Str)} {b q : Addr} {Ls : List Lo} (L : LI H0 T b q Ls H) (e : ExtN H H') (t : Tabs T H') : LI H0 T b q Ls H' := by
  obtain ⟨g, s, u, hb, h2⟩ := id L.bag
  exact ⟨L.ext.trans e, t, ⟨g, s, u, e _ _ hb fun ps z => (by cases z), h2⟩, L.los.ts fun p zs z => e _ _ z fun ps y => (by cases y), L.nb⟩
end Ob
namespace Ob
open PySem PySem.Spec PyProof.Rows L2 StX C8 LamX
theorem hu64 {A : Around} {k : Nat} (hr : Room k A) : A.units + 64 < cLine := by have := hr.un; omega
def GetAt (K : PySem.W.Frag) (C : Addr) (m qual : Str) (st : Stmt) : Prop := ∃ p g fd, PropOf K C m p g ∧ FunD K m qual (defArgs st) (defBody st) (defScope st) [] [] g fd
structure Tp (w : World) (K : PySem.W.Frag) (mg : Str → Option Value) (c : Cs) (fI : Addr) : Prop extends Tl w K mg c fI where
  gt : GetAt K c.r "text" "Result.text" (inClass (top 33) 1)
  gp : GetAt K c.r "passes" "Result.passes" (inClass (top 33) 2)
  gw : GetAt K c.r "ways" "Result.ways" (inClass (top 33) 3)
section
variable {P : Program} {w : World} {K : PySem.W.Frag} {mg : Str → Option Value} {base : Heap} {c : Cs} {fI : Addr}
theorem getter {C : Addr} {m qual f : Str} {st : Stmt} {p1 p2 p3 : Pos} (D : GetAt K C m qual st) (S : FnScope ["self"] ["self"] (defScope st)) (hb : defBody st = [.Return (some (.Attribute (.Name "self" p1) f p2)) p3]) (c : Cls K C) (n : NoAttr K C f)
    (hbd : ∀ (kV doc pm : Value) (an : Option Addr) (cdv ct : Value) (us : List Value), us.length = 1 → bindArgs (PySem.W.fnOf m qual (defArgs st) (defBody st) (defScope st) .none kV doc pm an cdv ct) ⟨us, []⟩ = pure ([("self" : Str)].zip us)) :
    ∃ p g fd ps, PropOf K C m p g ∧ FnOk P w K mg base C8.CX0 1 g fd ps (getSp C f) ∧ Binds K fd ps [] := by
  obtain ⟨p, g, fd, h1, F⟩ := D
  have B := F.bindsN (ps := ["self"]) hbd
  obtain ⟨oc, od, dV, kV, doc, pm, an, cdv, ct, osl, rfl, lk, hcd, _, _⟩ := F.ex
  exact ⟨p, g, _, ["self"], h1, fn_getter lk hcd S rfl hb c n, B⟩
/-- the law's table of code objects -/
def TT (PA : Addr) : List (Addr × Str) := [(PA, ("law" : Str) ++ ".<locals>." ++ "<lambda>")]
def spLaw (K : PySem.W.Frag) (PA : Addr) : Sp := fun vs H Q _ => ∃ (a : Addr) (ns : List Int), vs = [.ref a] ∧ SqL K H a (ns.map V.int) ∧ ns.length ≤ 63 ∧ H PA = some (.tbl #[]) ∧ ∀ H', Q (.bl true) H'
theorem sc_law : FnScope ["_law_script", "_law_at", "_law_bag_here", "_law_loops", "_law_turn", "_law_word", "_law_found", "_law_items", "_law_ways", "_law_number", "_law_loop_here", "_law_steps", "_law_broken", "_law_notes", "_law_step"] ["_law_script"] (defScope (top 46)) := ⟨rfl, rfl, rfl, by decide +kernel, rfl, by decide +kernel, by decide +kernel⟩
theorem fn_law (T : Tp w K mg c fI) {fa cA PA : Addr} {oc kV doc pm ct : Value} {an od : Option Addr} {osl : Array (Option Value)}
    (lk : K.lookup fa = some ⟨oc, od, .func (PySem.W.fnOf "law" "law" (defArgs (top 46)) (defBody (top 46)) (defScope (top 46)) .none kV doc pm an (.ref cA) ct), osl⟩) (hcd : PySem.W.codeIn K (.ref cA) "law" = true) (TB : TabB base mg cA PA) :
    FnOk P w K mg base C8.CX0 10 fa (PySem.W.fnOf "law" "law" (defArgs (top 46)) (defBody (top 46)) (defScope (top 46)) .none kV doc pm an (.ref cA) ct) ["_law_script"] (spLaw K PA) := by
  have C_law_bag := c_bag (P := P) (base := base) T.toTl
  have C_law_text := c_text (P := P) (base := base) T.toTl
  have C_law_program := c_program (P := P) (base := base) T.toTl
  have C_law_replayed := c_replay (P := P) (base := base) T.toTl
  obtain ⟨_, fR, _, F, hm, hk, B⟩ := c_run (P := P) (base := base) T.toTf
  obtain ⟨_, _, _, _, Pt, Ft, Bt⟩ := getter (P := P) (w := w) (mg := mg) (base := base) T.gt ⟨rfl, rfl, rfl, by decide +kernel, rfl, by decide +kernel, by decide +kernel⟩ rfl T.cR T.nRemains (fun _ _ _ _ _ _ us hl => match us, hl with | [_], _ => rfl)
  obtain ⟨_, _, _, _, Pp, Fp, Bp⟩ := getter (P := P) (w := w) (mg := mg) (base := base) T.gp ⟨rfl, rfl, rfl, by decide +kernel, rfl, by decide +kernel, by decide +kernel⟩ rfl T.cR T.nMade (fun _ _ _ _ _ _ us hl => match us, hl with | [_], _ => rfl)
  obtain ⟨_, _, _, _, Pw, Fw, Bw⟩ := getter (P := P) (w := w) (mg := mg) (base := base) T.gw ⟨rfl, rfl, rfl, by decide +kernel, rfl, by decide +kernel, by decide +kernel⟩ rfl T.cR T.nEnded (fun _ _ _ _ _ _ us hl => match us, hl with | [_], _ => rfl)
  refine fn_of lk hcd sc_law (fun vs H Q E h => ?_) fun A outer s H vs Q E hr h => ?_
  · obtain ⟨a, ns, rfl, _⟩ := h
    rfl
  · obtain ⟨a, ns, rfl, ha, hn, hP, q⟩ := h
    obtain ⟨cc, hcc⟩ := cell_has (n := s.heap.objs.size + 1) (sc := defScope (top 46)) (x := "_law_notes") rfl
    have main : ∃ t, PSs (cxOf C8.CX0 P w K mg base ["_law_script", "_law_at", "_law_bag_here", "_law_loops", "_law_turn", "_law_word", "_law_found", "_law_items", "_law_ways", "_law_number", "_law_loop_here", "_law_steps", "_law_broken", "_law_notes", "_law_step"] "law" (defScope (top 46)) fa (.ref cA) A outer s H E).nox (defBody (top 46)) t ∧ t { nx := fun _ H' => Q .non H', rt := Q } (start ["_law_script", "_law_at", "_law_bag_here", "_law_loops", "_law_turn", "_law_word", "_law_found", "_law_items", "_law_ways", "_law_number", "_law_loop_here", "_law_steps", "_law_broken", "_law_notes", "_law_step"] [.ref a]) H := by
      refine ⟨_, (pss_cons (ps_for PassesOwn.never rfl (pi_range1 rfl T.nRange (pa_cons (pe_callB (call_max2 rfl) rfl T.nMax b_max (pa_cons pe_int (pa_cons (pe_callB (call_min2 rfl) rfl T.nMin b_min (pa_cons pe_int (pa_cons (pe_callB call_len_seq rfl T.nLen boot_len (pa_cons (pv 0) pa_nil)) pa_nil))) pa_nil))) pa_nil)) (pg_name (i := 1) sc_law.nd rfl (Or.inl rfl)) (pss_cons (ps_set (i := 2) sc_law.nd rfl (Or.inl rfl) (pe_c C_law_bag hr (by decide) rfl (pa_cons (pv 0) (pa_cons (pv 1) pa_nil))))
      (pss_cons (ps_set (i := 3) sc_law.nd rfl (Or.inl rfl) (pe_c C_law_program hr (by decide) rfl (pa_cons (pv 2) (pa_cons pe_int (pa_cons pe_int pa_nil)))))
      (pss_one (ps_for PassesOwn.never rfl (pi_range1 rfl T.nRange (pa_cons pe_int pa_nil)) (pg_name (i := 4) sc_law.nd rfl (Or.inl rfl)) (pss_cons (ps_asg (pe_tup (pa_cons (pe_c C_law_text hr (by decide) rfl (pa_cons (pv 2) (pa_cons pe_int pa_nil))) (pa_cons (pe_lst pa_nil) (pa_cons pe_non pa_nil)))) (pg_tup rfl (pgs_cons (pg_name (i := 5) sc_law.nd rfl (Or.inl rfl)) (pgs_cons (pg_name (i := 13) sc_law.nd rfl (Or.inr rfl)) (pgs_cons (pg_name (i := 6) sc_law.nd rfl (Or.inl rfl)) pgs_nil)))))
      (pss_cons (ps_try_only (c := .ref c.e) (tb := fun W => tAsg (tRunW c cc 13 W (tCons (tVar 3) (tCons (tVar 5) tNil)) (tCons (tLamW (TT PA) cc) tNil)) (gName 6)) (ts := fun _ _ _ => tDrop (tBM0 K "list" rClear (tVar 13))) rfl rfl ⟨rfl, by decide, .inl T.te.gC⟩ L2.takes0 (fun W pn xe tk _ => pss_one (ps_set (i := 6) sc_law.nd rfl (Or.inl rfl) (pe_runw F (hr.mono (by decide)) hm hk B tk rfl rfl rfl hcc (pa_cons (pv 3) (pa_cons (pv 5) pa_nil)) (pk_cons (pe_lamW (by exact ⟨NdefX.nscope_by (by decide +kernel), rfl, fun _ _ _ _ _ _ => rfl, ⟨_, _, _, _, rfl, rfl⟩, fun _ => rfl⟩) TB rfl (List.mem_singleton.mpr rfl) (fun p hp _ => by rw [List.mem_singleton.mp hp]; rfl) hcc) pk_nil)))) (fun a oe cls d pn _ _ => pss_one (ps_expr (pe_bm0 PySem.F.plainAttrs_list PySem.F.slot_list_clear PySem.F.type_list_clear mt_clear (pv 13)))))
      (pss_one (ps_if (pt_cmpR op_notN (pv 6) pe_non (nomark _)) (pss_cons (ps_par (i := 7) (j := 8) rfl sc_law.nd rfl rfl (by decide) rfl rfl (pa_cons (pe_callTy (call_listS rfl) rfl T.nList b_list (pa_cons (pv 5) pa_nil)) (pa_cons (pe_lst pa_nil) pa_nil)) (by rfl))
      (pss_cons (ps_for PassesOwn.never rfl (pi_enumT rfl T.nEnum (pa_cons (pv 3) pa_nil)) (pg_tup rfl (pgs_cons (pg_name (i := 9) sc_law.nd rfl (Or.inr rfl)) (pgs_cons (pg_name (i := 10) sc_law.nd rfl (Or.inl rfl)) pgs_nil))) (pss_cons (ps_setLc (i := 11) (own := [("_law_step", 14)]) (g := gName 14) rfl sc_law.nd rfl rfl (sw_true rfl rfl rfl (by decide +kernel)) (pi_list (pv 13)) (blkOk_by (own := [("_law_step", 14)]) (N := ["_law_script", "_law_at", "_law_bag_here", "_law_loops", "_law_turn", "_law_word", "_law_found", "_law_items", "_law_ways", "_law_number", "_law_loop_here", "_law_steps", "_law_broken", "_law_notes", "_law_step"]) (sc := defScope (top 46)) (by decide +kernel)) (fun _ _ _ _ _ => pg_name (i := 14) sc_law.nd rfl (Or.inl rfl)) (fun _ _ _ _ _ => (pts_one (pt_cmpR op_eq (pe_ix (r := rIxT K) ix_tup (pv 14) pe_int (fun _ _ => rfl)) (pv 9) (nomark _)))) (fun _ _ _ _ _ => (pv 14)))
      (pss_cons (ps_set (i := 12) sc_law.nd rfl (Or.inl rfl) (pe_c C_law_replayed hr (by decide) rfl (pa_cons (pv 10) (pa_cons (pv 7) (pa_cons (pv 11) pa_nil)))))
      (pss_cons (ps_if (PW.pt (pw_or (pt_cmpR op_isN (pv 12) pe_non (nomark _)) (pw_or1 (pt_cmpR op_ne (pe_callB call_len_seq rfl T.nLen boot_len (pa_cons (pv 11) pa_nil)) (pe_ix ix_tup (pe_prop (E := C8.E0) (pv 6) T.cR Pp Fp (hr.mono (by decide)) Bp .nil C8.pass0 (by rfl)) (pv 9) (fun _ _ => rfl)) (nomark _))))) (pss_one (ps_ret pe_bl)) pss_nil)
      (pss_one (ps_expr (pe_bm PySem.F.plainAttrs_list PySem.F.slot_list_append PySem.F.type_list_append mt_append (pv 8) (pa_cons (pe_ix ix_list (pe_lst (pa_cons pe_str (pa_cons pe_str pa_nil))) (pe_callTy call_int1 rfl T.nInt b_int (pa_cons (pv 12) pa_nil)) (fun _ _ => rfl)) pa_nil))))))))
      (pss_one (ps_if (PW.pt (pw_or (pt_cmpR op_ne (pe_join pe_str (pv 7)) (pe_prop (E := C8.E0) (pv 6) T.cR Pt Ft (hr.mono (by decide)) Bt .nil C8.pass0 (by rfl)) (nomark _)) (pw_or (pt_cmpR (op_neD (hu64 hr)) (pe_callTy call_tuple_of rfl T.nTuple b_tuple (pa_cons (pv 8) pa_nil)) (pe_prop (E := C8.E0) (pv 6) T.cR Pw Fw (hr.mono (by decide)) Bw .nil C8.pass0 (by rfl)) rfl) (pw_or1 (pt_cmpR op_ne (pe_callB (cr_sumT rfl) rfl T.nSum b_sum (pa_cons (pe_prop (E := C8.E0) (pv 6) T.cR Pp Fp (hr.mono (by decide)) Bp .nil C8.pass0 (by rfl)) pa_nil)) (pe_callB call_len_seq rfl T.nLen boot_len (pa_cons (pv 13) pa_nil)) (nomark _)))))) (pss_one (ps_ret pe_bl)) pss_nil)))) pss_nil)))))))))
      (pss_one (ps_ret pe_bl))), ?_⟩
      have T0 : Tabs (TT PA) H := fun p hp => by rw [List.mem_singleton.mp hp]; exact TabS.nil hP
      refine ⟨_, rfl, a, _, rfl, .inl ha, 4, _, rfl, 1, _, rfl, _, rfl, ?_⟩
      have hj : ∀ L : Int, -(2 ^ 62) ≤ (if (if L < 4 then L else 4) > 1 then (if L < 4 then L else 4) else 1) ∧ (if (if L < 4 then L else 4) > 1 then (if L < 4 then L else 4) else 1) < 2 ^ 62 ∧ (if (if L < 4 then L else 4) > 1 then (if L < 4 then L else 4) else 1) ≤ 4 := fun L => by
        split <;> split <;> omega
      generalize (((ns.map V.int).length : Nat) : Int) = L at *
      obtain ⟨j1, j2, j3⟩ := hj L
      generalize (if (if L < 4 then L else 4) > 1 then (if L < 4 then L else 4) else 1) = j at j1 j2 j3
      refine ⟨j1, j2, ?_⟩
      refine for_range (fun i σ H' => (∃ v1 v2 v3 v4 v5 v6 v7 v8 v9 v10 v11 v12 v13 v14 : Option V, σ = [some (.ref a), v1, v2, v3, v4, v5, v6, v7, v8, v9, v10, v11, v12, v13, v14]) ∧ ExtN H H' ∧ Tabs (TT PA) H')
        ⟨⟨none, none, none, none, none, none, none, none, none, none, none, none, none, none, rfl⟩, ExtN.refl H, T0⟩ ?_ ?_
      · rintro i σ H1 hi ⟨⟨v1, v2, v3, v4, v5, v6, v7, v8, v9, v10, v11, v12, v13, v14, rfl⟩, x1, T1⟩
        have hi4 : i < 4 := by omega
        -- the bag, the program
        refine ⟨_, rfl, _, rfl, a, ns, i, by rw [Int.zero_add]; rfl, Ob.SqL.extN ha x1, by omega, fun b H2 nb s2 hb => ?_⟩
        refine ⟨_, rfl, b, rfl, hb, fun q0 Ls H3 l3 ok hL hb3 k3 => ?_⟩
        have L3 : LI H (TT PA) b q0 Ls H3 := by
          obtain ⟨g, s, t, hb', _⟩ := id hb
          have Nb : Nw H b := Nw.of x1 nb
          refine ⟨fun x o hx n => k3 x o (fun z => ?_) (s2 _ _ (x1 x o hx n)), Tabs.lst (T1.ext s2) hb' fun y o n z => k3 y o n z, hb3, hL, Nb⟩
          rw [z] at hx
          obtain ⟨ps, e⟩ := Nb o hx
          exact n ps e
        refine ⟨4, rfl, by decide, by decide, ?_⟩
        refine for_range (fun m σ H' => (∃ v4 v5 v6 v7 v8 v9 v10 v11 v12 v13 v14 : Option V, σ = [some (.ref a), some (.int (0 + (i : Int))), some (.ref b), some (.ref q0), v4, v5, v6, v7, v8, v9, v10, v11, v12, v13, v14]) ∧ LI H (TT PA) b q0 Ls H')
          ⟨⟨_, _, _, _, _, _, _, _, _, _, _, rfl⟩, L3⟩ ?_ ?_
        · rintro m σ H4 hm ⟨⟨v4, v5, v6, v7, v8, v9, v10, v11, v12, v13, v14, rfl⟩, L4⟩
          -- the word, the notes
          refine ⟨_, rfl, b, 8, rfl, L4.bag, by decide, fun txt H5 t1 t2 hb5 k5 => ?_⟩
          have L5 := L4.step hb5 k5
          refine ⟨Nat.zero_le _, fun nt nnt => ⟨(by show 3 ≤ sizeLine; decide), fun t ntt => ?_⟩⟩
          have L6 := (L5.new (o := .lst []) nnt).new (o := .tup [.str (S txt), .ref nt, .non]) ntt
          have hnt6 : L2.upd (L2.upd H5 nt (.lst [])) t (.tup [.str (S txt), .ref nt, .non]) nt = some (.lst []) := by rw [upd_ne (ne_of_none upd_same ntt)]; exact upd_same
          have ht6 : L2.upd (L2.upd H5 nt (.lst [])) t (.tup [.str (S txt), .ref nt, .non]) t = some (.tup [.str (S txt), .ref nt, .non]) := upd_same
          have Nnt : Nw H nt := Nw.of L5.ext nnt
          have ntb : nt ≠ b := L5.bag.ne nnt
          generalize L2.upd (L2.upd H5 nt (.lst [])) t (.tup [.str (S txt), .ref nt, .non]) = H6 at L6 hnt6 ht6
          refine ⟨t, _, rfl, SqT.of ht6, rfl, _, _, rfl, _, _, rfl, _, _, rfl, rfl, ?_⟩
          -- try
          refine ⟨_, rfl, _, rfl, L6.tab, fun fl H7 e7 T7 lam7 => ?_⟩
          have L7 := L6.extn e7 T7
          have hnt7 := e7 _ _ hnt6 fun ps z => by cases z
          refine ⟨q0, nt, fl, txt, Ls, rfl, rfl, lam7, L7.los, l3, ok, t1, t2, rfl, hnt7, fun d H8 b8 n8 => ?_, fun zs nps r dr pc pw H8 a1 a2 a3 a4 a5 a6 a7 b8 => ?_⟩
          · obtain ⟨ys, hy⟩ := n8
            refine ⟨true, T.te.te, fun _ x nx => ?_, fun z => by cases z⟩
            refine ⟨_, rfl, .inl ⟨rfl, _, SqL.of hy⟩, nt, ys, rfl, rfl, hy, ?_⟩
            refine ⟨_, rfl, rfl, false, rfl, ?_⟩
            refine ⟨⟨_, _, _, _, _, _, _, _, _, _, _, rfl⟩, (L7.but hnt7 Nnt ntb b8).but hy Nnt ntb fun y o n z => by rw [upd_ne n]; exact z⟩
          · have L8 := L7.but hnt7 Nnt ntb b8
            refine ⟨_, rfl, rfl, true, rfl, ?_⟩
            have lz : Ls.length = zs.length := by rw [← a1, List.length_map]
            have zl : zs.length ≤ 3 := by omega
            have okz : ∀ z ∈ zs, z.1.ok := fun z hz => ok z.1 (by rw [← a1]; exact List.mem_map.mpr ⟨z, hz, rfl⟩)
            have nl := notes_len a2 okz t1 t2 zl zs.length (Nat.le_refl _)
            rw [List.take_length] at nl
            have npl : nps.length = (notesOf zs).length := Paired.len a3
            -- items, ways
            refine ⟨_, rfl, S txt, rfl, small (by show txt.length ≤ _; omega), fun li nli => ⟨Nat.zero_le _, fun wy nwy => ⟨_, _, rfl, ?_⟩⟩⟩
            have s9 : Same H8 (L2.upd (L2.upd H8 li (.lst ((S txt).cps.toList.map sg))) wy (.lst [])) := same_new' (same_new nli) nwy
            have L9 := (L8.new (o := .lst ((S txt).cps.toList.map sg)) nli).new (o := .lst []) nwy
            have liw : li ≠ wy := ne_of_none upd_same nwy
            have hli9 : L2.upd (L2.upd H8 li (.lst ((S txt).cps.toList.map sg))) wy (.lst []) li = some (.lst ((S txt).cps.toList.map sg)) := by rw [upd_ne liw]; exact upd_same
            have hwy9 : L2.upd (L2.upd H8 li (.lst ((S txt).cps.toList.map sg))) wy (.lst []) wy = some (.lst []) := upd_same
            have Nli : Nw H li := Nw.of L8.ext nli
            have Nwy : Nw H wy := Nw.of (L8.new (o := .lst ((S txt).cps.toList.map sg)) nli).ext nwy
            have lib : li ≠ b := L8.bag.ne nli
            have wyb : wy ≠ b := (L8.new (o := .lst ((S txt).cps.toList.map sg)) nli).bag.ne nwy
            have nwy8 : H8 wy = none := by rw [upd_ne liw.symm] at nwy; exact nwy
            have old : ∀ {x : Addr} {o : HO}, H8 x = some o → x ≠ li ∧ x ≠ wy := fun h => ⟨ne_of_none h nli, ne_of_none h nwy8⟩
            rw [S_cps] at s9 L9 hli9 hwy9
            rw [S_cps]
            generalize L2.upd (L2.upd H8 li (.lst (txt.map sg))) wy (.lst []) = H9 at s9 L9 hli9 hwy9
            obtain ⟨qs, hq1, hq2⟩ := id L8.los
            have ql : qs.length = Ls.length := Paired.len hq2
            have kold : ∀ {Hx : Hp} {x : Addr} {o : HO}, ButL li wy H9 Hx → H8 x = some o → Hx x = some o := fun k h => k _ _ (old h).1 (old h).2 (s9 _ _ h)
            have kts : ∀ {Hx : Hp}, ButL li wy H9 Hx → TS H8 Hx := fun k p xs h => kold k h
            -- the loops
            refine ⟨_, rfl, q0, qs.map V.ref, rfl, SqT.of (s9 _ _ hq1), ?_⟩
            refine for_it (n := (qs.map V.ref).length) walk_enumT (fun n σ H' => (∃ v9 v10 v11 v12 v14 : Option V, σ = [some (.ref a), some (.int (0 + (i : Int))), some (.ref b), some (.ref q0), some (.int (0 + (m : Int))), some (.str (S txt)), some (.ref r), some (.ref li), some (.ref wy), v9, v10, v11, v12, some (.ref nt), v14]) ∧
                H' li = some (.lst ((runZ txt (zs.take n)).1.map sg)) ∧ H' wy = some (.lst ((runZ txt (zs.take n)).2.map fun b => .str (wayS b))) ∧ ButL li wy H9 H')
              ⟨⟨_, _, _, _, _, rfl⟩, hli9, hwy9, fun _ _ _ _ h => h⟩ (fun n σ H' _ z => SqT.of (kold z.2.2.2 hq1)) ?_ ?_
            · rintro n x σ H10 H11 hn ⟨⟨w9, w10, w11, w12, w14, rfl⟩, hli, hwy, k10⟩ ⟨u, x1', y, rfl, nu, rfl, hx1, hy⟩
              cases hx1
              obtain ⟨qi, hqi, rfl⟩ := ref_at hy
              obtain ⟨Lo1, hL1, hqL⟩ := Paired.at hq2 hqi
              rw [List.length_map] at hn
              obtain ⟨z, hz, rfl⟩ : ∃ z, zs[n]? = some z ∧ z.1 = Lo1 := by
                rw [← a1, List.getElem?_map] at hL1
                cases e : zs[n]? with
                | none => rw [e] at hL1; cases hL1
                | some z => rw [e] at hL1; exact ⟨z, rfl, Option.some.inj hL1⟩
              have nz : n < zs.length := (List.getElem?_eq_some_iff.mp hz).1
              have rs := runZ_succ (xs := txt) hz
              obtain ⟨rf1, rf2⟩ := ranZ_fine a2 okz t1 t2 n (by omega)
              have Bn2 : Bn n ≤ 2384 := Bn_le (by omega)
              obtain ⟨dn, dl⟩ := a2 n z hz
              have rl := runZ_len (xs := txt) zs n (by omega)
              have oz : z.1.ok := okz z (List.mem_of_getElem? hz)
              have k11 : ButL li wy H9 (L2.upd H10 u (.tup [.int (n : Nat), .ref qi])) := k10.trans (ButL.of (same_new nu))
              have hli11 := same_new (o := .tup [.int (n : Nat), .ref qi]) nu _ _ hli
              have hwy11 := same_new (o := .tup [.int (n : Nat), .ref qi]) nu _ _ hwy
              have hu : L2.upd H10 u (.tup [.int (n : Nat), .ref qi]) u = some (.tup [.int (n : Nat), .ref qi]) := upd_same
              generalize L2.upd H10 u (.tup [.int (n : Nat), .ref qi]) = H11 at k11 hli11 hwy11 hu
              refine ⟨_, _, rfl, SqT.of hu, rfl, _, _, rfl, _, _, rfl, rfl, ?_⟩
              -- steps
              refine ⟨_, rfl, nt, rfl, ⟨_, SqL.of (kold k11 a4)⟩, fun D nD => ?_⟩
              have liD : li ≠ D := ne_of_none hli11 nD
              have wyD : wy ≠ D := ne_of_none hwy11 nD
              refine lc_it (n := (nps.map V.ref).length) walk_list (fun j H' => ∃ (ps' : List Addr), H' D = some (.lst (ps'.map V.ref)) ∧ Paired (AtStep n H') ps' ((((notesOf zs).take j).filter fun q => decide (q.1 = n)).map (·.2)) ∧ Same H11 H')
                ⟨[], upd_same, .nil, same_new nD⟩ (fun j H' _ z => by
                  obtain ⟨_, _, _, s⟩ := z
                  exact SqL.of (s _ _ (kold k11 a4))) ?_ ?_
              · rintro j x H12 H13 hj12 ⟨ps', hD, hps, s12⟩ ⟨rfl, hx⟩
                obtain ⟨p, hp, rfl⟩ := ref_at hx
                obtain ⟨nq, hnq, hat⟩ := Paired.at a3 hp
                rw [List.length_map] at hj12
                have hat12 : NoteAt H13 p nq := hat.ts ((kts k11).trans (TS.of s12))
                have tk := take_more hnq
                have psz : ps'.length ≤ 120000 := by
                  have := Paired.len hps
                  rw [List.length_map] at this
                  have h2 := List.length_filter_le (fun q : Nat × Step => decide (q.1 = n)) ((notesOf zs).take j)
                  rw [List.length_take] at h2
                  omega
                refine ⟨rfl, _, rfl, p, _, 0, .int (nq.1 : Nat), rfl, rfl, SqT.of hat12, rfl, _, rfl, rfl, _, rfl, ite2 (fun h => ?_) (fun h => ?_)⟩
                · have en : nq.1 = n := by
                    have := V.int.inj (of_decide_eq_true h)
                    omega
                  have ts : TS H13 (L2.upd H13 D (.lst (ps'.map V.ref ++ [.ref p]))) := TS.lst hD
                  have hat' : AtStep n H13 p nq.2 := by rw [← en]; exact hat12
                  refine ⟨_, rfl, _, hD, by rw [List.length_map]; exact smallL (by omega), ps' ++ [p], by rw [upd_same, List.map_append]; rfl, ?_, same_upd s12 nD⟩
                  rw [tk, List.filter_append, List.map_append]
                  have e1 : ([nq].filter fun q => decide (q.1 = n)) = [nq] := by simp [en]
                  rw [e1]
                  exact Paired.snoc (hat'.ts ts) (Paired.mapP hps fun _ _ z => z.ts ts)
                · have en : nq.1 ≠ n := fun z => h (decide_eq_true (by rw [z]))
                  refine ⟨ps', hD, ?_, s12⟩
                  rw [tk, List.filter_append, List.map_append]
                  have e1 : ([nq].filter fun q => decide (q.1 = n)) = [] := by simp [en]
                  rw [e1, List.map_nil, List.append_nil]
                  exact hps
              · rintro H12 ⟨ps', hD, hps, s12⟩
                rw [List.length_map, npl, List.take_length, notes_filter hz] at hps
                have pl' : ps'.length = z.2.length := Paired.len hps
                have k12 : ButL li wy H9 H12 := k11.trans (ButL.of s12)
                -- the replay
                refine ⟨_, rfl, _, rfl, _, rfl, qi, li, D, n, z.1, (runZ txt (zs.take n)).1, z.2, ps', rfl, hqL.ts (kts k12), oz, s12 _ _ hli11, rf1, by omega, hD, liD, hps, dn, by omega, fun H13 g1 g2 => ?_⟩
                have k13 : ButL li wy H9 H13 := k12.trans fun x o h1 _ h => g2 x o h1 h
                have hD13 := g2 D _ liD.symm hD
                have hwy13 := g2 wy _ liw.symm (s12 _ _ hwy11)
                have hr13 := kold k13 a5
                have hpc13 := kold k13 a6
                have hpz : (zs.map fun z => V.int (z.2.length : Nat))[n]? = some (.int (z.2.length : Nat)) := by rw [List.getElem?_map, hz]; rfl
                refine ⟨_, rfl, rfl, false, rfl, ?_⟩
                refine ⟨_, rfl, D, _, rfl, .inl (SqL.of hD13), _, rfl, r, dr, _, rfl, hr13, r, dr, _, _, rfl, hr13, rF_made _ _ _, _, rfl, pc, _, _, .int (z.2.length : Nat), rfl, rfl, SqT.of hpc13, atI_nat hpz, rfl, false, ?_, ?_⟩
                · rw [List.length_map, pl']; simp
                -- ways.append(..)
                refine ⟨_, rfl, .inl ⟨rfl, _, SqL.of hwy13⟩, (by show 2 ≤ sizeLine; decide), fun l2 nl2 => ⟨_, rfl, .inr ⟨_, rfl, l2, _, _, .str (wayS (fin z.1 (runZ txt (zs.take n)).1 z.2).2), rfl, rfl, SqL.of upd_same, ?_, wy, _, _, rfl, rfl, same_new nl2 _ _ hwy13, by rw [List.length_map]; exact smallL (by omega), ?_⟩⟩⟩
                · cases (fin z.1 (runZ txt (zs.take n)).1 z.2).2 <;> rfl
                · refine ⟨⟨_, _, _, _, _, rfl⟩, ?_, ?_, (k13.trans (ButL.of (same_new nl2))).trans ButL.nt⟩
                  · rw [upd_ne liw, rs]
                    exact same_new nl2 _ _ g1
                  · rw [upd_same, rs, List.map_append]
                    rfl
            · rintro σ H10 ⟨⟨w9, w10, w11, w12, w14, rfl⟩, hli, hwy, k10⟩
              rw [List.length_map, ql, lz, List.take_length] at hli hwy
              have hr10 := kold k10 a5
              have hpc10 := kold k10 a6
              have hpw10 := kold k10 a7
              have hnt10 := kold k10 a4
              have em : (runZ txt zs).1.map sg = ((runZ txt zs).1.map fun x => (⟨#[x]⟩ : Str)).map V.str := by rw [List.map_map]; rfl
              rw [em] at hli
              have rf2 := (ranZ_fine a2 okz t1 t2 zs.length (Nat.le_refl _)).2
              rw [List.take_length] at rf2
              have B3 : Bn zs.length ≤ 40532 := Bn_le3 zl
              refine ⟨⟨_, rfl⟩, _, rfl, _, li, _, rfl, rfl, .inl (SqL.of hli), by rw [sum_sg]; omega, ?_⟩
              rw [join_sg]
              refine ⟨_, rfl, r, dr, _, rfl, hr10, r, dr, _, _, rfl, hr10, rF_remains _ _ _, rfl, false, by simp, ?_⟩
              refine ⟨_, rfl, wy, _, rfl, .inl ⟨SqL.of hwy, fun tw ntw => ?_⟩⟩
              have s11 := same_new (o := .tup ((runZ txt zs).2.map fun b => .str (wayS b))) ntw
              have htw : L2.upd H10 tw (.tup ((runZ txt zs).2.map fun b => .str (wayS b))) tw = some (.tup ((runZ txt zs).2.map fun b => .str (wayS b))) := upd_same
              generalize L2.upd H10 tw (.tup ((runZ txt zs).2.map fun b => .str (wayS b))) = H11 at s11 htw
              refine ⟨_, rfl, r, dr, _, rfl, s11 _ _ hr10, r, dr, _, _, rfl, s11 _ _ hr10, rF_ended _ _ _, _, _, .tup (SqT.of htw) (dpWays _), .tup (SqT.of (s11 _ _ hpw10)) (dpWays _), ways_shaped _, ways_shaped _, false, by rw [ways_eqv]; rfl, ?_⟩
              have es : (zs.map fun z => V.int (z.2.length : Nat)) = (zs.map fun z => ((z.2.length : Nat) : Int)).map V.int := by rw [List.map_map]; rfl
              have hs := notes_sum zs zs.length (Nat.le_refl _)
              rw [List.take_length] at hs
              refine ⟨_, rfl, r, dr, _, rfl, s11 _ _ hr10, r, dr, _, _, rfl, s11 _ _ hr10, rF_made _ _ _, pc, _, rfl, SqT.of (by rw [← es]; exact s11 _ _ hpc10), _, rfl, nt, _, rfl, .inl (SqL.of (s11 _ _ hnt10)), rfl, false, ?_, ?_⟩
              · rw [hs, List.length_map, npl]; simp
              have L10 : LI H (TT PA) b q0 Ls H10 := by
                obtain ⟨g, s', t', hb', hb2⟩ := id L9.bag
                refine ⟨fun x o hx n => ?_, fun p hp => ?_, ⟨g, s', t', k10 _ _ lib.symm wyb.symm hb', hb2⟩, L9.los.ts (fun p xs h => k10 p _ (ne_of h hli9 (fun z => by cases z)) (ne_of h hwy9 (fun z => by cases z)) h), L9.nb⟩
                · refine k10 x o (fun z => ?_) (fun z => ?_) (L9.ext x o hx n)
                  · rw [z] at hx
                    obtain ⟨ps, e⟩ := Nli o hx
                    exact n ps e
                  · rw [z] at hx
                    obtain ⟨ps, e⟩ := Nwy o hx
                    exact n ps e
                · obtain ⟨ps, h1, h2, h3⟩ := L9.tab p hp
                  refine ⟨ps, k10 _ _ (ne_of h1 hli9 (fun z => by cases z)) (ne_of h1 hwy9 (fun z => by cases z)) h1, h2, fun pos cv hc => ?_⟩
                  obtain ⟨c, e1, e2⟩ := h3 pos cv hc
                  exact ⟨c, e1, k10 _ _ (ne_of e2 hli9 (fun z => by unfold CodeO at z; cases z)) (ne_of e2 hwy9 (fun z => by unfold CodeO at z; cases z)) e2⟩
              exact ⟨⟨_, _, _, _, _, _, _, _, _, _, _, rfl⟩, L10.step (by
                obtain ⟨g, s', t', hb', hb2⟩ := id L10.bag
                exact ⟨g, s', t', s11 _ _ hb', hb2⟩) (ButN.same s11)⟩
        · rintro σ H4 ⟨⟨v4, v5, v6, v7, v8, v9, v10, v11, v12, v13, v14, rfl⟩, L4⟩
          exact ⟨⟨_, _, _, _, _, _, _, _, _, _, _, _, _, _, rfl⟩, L4.ext, L4.tab⟩
      · rintro σ H1 ⟨⟨v1, v2, v3, v4, v5, v6, v7, v8, v9, v10, v11, v12, v13, v14, rfl⟩, x1, T1⟩
        exact q _
    obtain ⟨t, h1, h2⟩ := main
    exact ⟨t, h1.nox, h2⟩
end
end Ob
/-! What the head tells: each def, class, constant by its name. -/
namespace Ob
open PySem PySem.Spec PyProof.Rows L2
def hfn : List He.DefD := [
  ⟨("is_integer", none), "is_integer", "is_integer", defArgs (top 15), defBody (top 15), defScope (top 15), [], []⟩,
  ⟨("is_item", none), "is_item", "is_item", defArgs (top 16), defBody (top 16), defScope (top 16), [], []⟩,
  ⟨("is_text", none), "is_text", "is_text", defArgs (top 17), defBody (top 17), defScope (top 17), [], []⟩,
  ⟨("is_selection", none), "is_selection", "is_selection", defArgs (top 18), defBody (top 18), defScope (top 18), [], []⟩,
  ⟨("is_edit", none), "is_edit", "is_edit", defArgs (top 19), defBody (top 19), defScope (top 19), [], []⟩,
  ⟨("count_words", none), "count_words", "count_words", defArgs (top 20), defBody (top 20), defScope (top 20), [], []⟩,
  ⟨("may_follow", none), "may_follow", "may_follow", defArgs (top 21), defBody (top 21), defScope (top 21), [], []⟩,
  ⟨("are_edits", none), "are_edits", "are_edits", defArgs (top 22), defBody (top 22), defScope (top 22), [], []⟩,
  ⟨("is_rule", none), "is_rule", "is_rule", defArgs (top 23), defBody (top 23), defScope (top 23), [], []⟩,
  ⟨("is_loop", none), "is_loop", "is_loop", defArgs (top 24), defBody (top 24), defScope (top 24), [], []⟩,
  ⟨("is_program", none), "is_program", "is_program", defArgs (top 25), defBody (top 25), defScope (top 25), [], []⟩,
  ⟨("check_program", none), "check_program", "check_program", defArgs (top 26), defBody (top 26), defScope (top 26), [], []⟩,
  ⟨("fitting_rule", none), "fitting_rule", "fitting_rule", defArgs (top 27), defBody (top 27), defScope (top 27), [], []⟩,
  ⟨("apply_edit", none), "apply_edit", "apply_edit", defArgs (top 28), defBody (top 28), defScope (top 28), [], []⟩,
  ⟨("run", none), "run", "run", defArgs (top 35), defBody (top 35), defScope (top 35), [], [(("watch" : Str), He.Dv.non)]⟩,
  ⟨("_law_bag", none), "_law_bag", "_law_bag", defArgs (top 37), defBody (top 37), defScope (top 37), [], []⟩,
  ⟨("_law_take", none), "_law_take", "_law_take", defArgs (top 38), defBody (top 38), defScope (top 38), [], []⟩,
  ⟨("_law_text", none), "_law_text", "_law_text", defArgs (top 39), defBody (top 39), defScope (top 39), [], []⟩,
  ⟨("_law_letters", none), "_law_letters", "_law_letters", defArgs (top 40), defBody (top 40), defScope (top 40), [], []⟩,
  ⟨("_law_edits", none), "_law_edits", "_law_edits", defArgs (top 41), defBody (top 41), defScope (top 41), [], []⟩,
  ⟨("_law_loop", none), "_law_loop", "_law_loop", defArgs (top 42), defBody (top 42), defScope (top 42), [], []⟩,
  ⟨("_law_program", none), "_law_program", "_law_program", defArgs (top 43), defBody (top 43), defScope (top 43), [], []⟩,
  ⟨("_law_edit", none), "_law_edit", "_law_edit", defArgs (top 44), defBody (top 44), defScope (top 44), [], []⟩,
  ⟨("_law_replayed", none), "_law_replayed", "_law_replayed", defArgs (top 45), defBody (top 45), defScope (top 45), [], []⟩,
  ⟨("law", none), "law", "law", defArgs (top 46), defBody (top 46), defScope (top 46), [], []⟩,
  ⟨("Pass", some "__init__"), "__init__", "Pass.__init__", defArgs (inClass (top 29) 0), defBody (inClass (top 29) 0), defScope (inClass (top 29) 0), [], []⟩,
  ⟨("Pass", some "carry_out"), "carry_out", "Pass.carry_out", defArgs (inClass (top 29) 1), defBody (inClass (top 29) 1), defScope (inClass (top 29) 1), [], []⟩,
  ⟨("Result", some "__init__"), "__init__", "Result.__init__", defArgs (inClass (top 33) 0), defBody (inClass (top 33) 0), defScope (inClass (top 33) 0), [], []⟩,
  ⟨("Runner", some "__init__"), "__init__", "Runner.__init__", defArgs (inClass (top 34) 0), defBody (inClass (top 34) 0), defScope (inClass (top 34) 0), [], []⟩,
  ⟨("Runner", some "run_loop"), "run_loop", "Runner.run_loop", defArgs (inClass (top 34) 1), defBody (inClass (top 34) 1), defScope (inClass (top 34) 1), [], []⟩,
  ⟨("Endless", some "__init__"), "__init__", "Endless.__init__", defArgs (inClass (top 4) 0), defBody (inClass (top 4) 0), defScope (inClass (top 4) 0), [], []⟩]
def hfa : List He.Fa := [.glo "Pass", .glo "Result", .glo "Runner", .glo "Endless", .glo "EDIT_KINDS", .glo "is_integer", .glo "is_item", .glo "is_text", .glo "is_selection", .glo "is_edit", .glo "count_words", .glo "may_follow", .glo "are_edits", .glo "is_rule", .glo "is_loop", .glo "is_program", .glo "check_program", .glo "fitting_rule", .glo "apply_edit", .glo "run", .glo "_law_bag", .glo "_law_take", .glo "_law_text", .glo "_law_letters", .glo "_law_edits", .glo "_law_loop", .glo "_law_program", .glo "_law_edit", .glo "_law_replayed", .glo "law", .free "len", .free "isinstance", .free "int", .free "bool", .free "str", .free "tuple", .free "list", .free "all", .free "enumerate", .free "range", .free "max", .free "min", .free "abs", .free "sum", .str "ITEMS" "abcd", .str "END" "$", .str "END_WAY" "end", .str "BREAK_WAY" "break", .int "MOST_RULES" 12, .int "MOST_LOOPS" 5, .int "MOST_EDITS" 4, .int "MOST_DELETIONS" 2, .int "MARKS" 4, .int "LONGEST_END" 4, .cls "Pass", .mkr "Pass", .cls "Result", .mkr "Result", .cls "Runner", .mkr "Runner", .noat "Pass" "item", .noat "Pass" "rule", .noat "Pass" "mark", .noat "Pass" "is_broken", .noat "Result" "remains", .noat "Result" "made", .noat "Result" "ended", .noat "Runner" "current", .noat "Runner" "watcher", .noat "Runner" "counts", .noat "Runner" "endings", .noat "Endless" "loop", .meth "Pass" "carry_out", .meth "Runner" "run_loop", .exm "Endless" "Endless" true, .keep "Endless"]
def names1 : List Str := ["BranchError", "BadLoop", "BadList", "Endless", "ITEMS", "END", "MOST_RULES", "MOST_LOOPS", "MOST_EDITS", "MOST_DELETIONS", "MARKS", "LONGEST_END", "EDIT_KINDS", "is_integer", "is_item", "is_text", "is_selection", "is_edit", "count_words", "may_follow"]
def names2 : List Str := ["are_edits", "is_rule", "is_loop", "is_program", "check_program", "fitting_rule", "apply_edit", "Pass", "END_WAY", "BREAK_WAY", "Result", "Runner", "run", "_law_bag", "_law_take", "_law_text", "_law_letters", "_law_edits", "_law_loop", "_law_program", "_law_edit", "_law_replayed"]
def hnames : List Str := names1 ++ names2
def hts : List He.Tab := [(fun K => He.ga K "EDIT_KINDS", ["put", "drop", "drop_next", "before", "after", "mark", "break"])]
def htf : List He.Defn := [("law", none)]
def hkv : List (Str × He.Dv) := [("put", .str "item"), ("drop", .non), ("drop_next", .non), ("before", .str "item"), ("after", .str "item"), ("mark", .str "mark"), ("break", .non)]
/-- the class Endless -/
def endB (K : PySem.W.Frag) (C : Addr) : Bool := match K.lookup C with
  | some ⟨.type "type", _, .cls cd, sl⟩ => (match cd.mro, sl.toList with
    | .ref C' :: bm, [_, _, _, _, some (.builtin n), _] => C' == C && n == "ArithmeticError.__new__" && !cd.hasDel && cd.hasDict && decide (bm = aeTail)
    | _, _ => false)
  | _ => false
theorem endB_ok {K : PySem.W.Frag} {C : Addr} (q : endB K C = true) : ∃ nm q N bs sn sub ab col dd k0 k1 k2 k3 k5, K.lookup C = some (excClassObj nm q C N bs aeTail true sn sub ab col dd k0 k1 k2 k3 k5 "ArithmeticError.__new__") := by
  unfold endB at q
  split at q
  · rename_i dd cd sl ho
    split at q
    · rename_i C' bm k0 k1 k2 k3 n k5 hm hs
      simp only [Bool.and_eq_true, beq_iff_eq, Bool.not_eq_true', decide_eq_true_eq] at q
      obtain ⟨⟨⟨⟨rfl, rfl⟩, hdel⟩, hdi⟩, rfl⟩ := q
      obtain ⟨nm, bs, mro, ns, qn, hd, sn, sub, ab, col, del⟩ := cd
      dsimp only at hm hdel hdi
      subst hm hdel hdi
      have hsl : sl = #[k0, k1, k2, k3, some (.builtin "ArithmeticError.__new__"), k5] := by
        obtain ⟨l⟩ := sl
        simp only at hs
        rw [hs]
      subst hsl
      exact ⟨nm, qn, ns, bs, sn, sub, ab, col, dd, k0, k1, k2, k3, k5, ho⟩
    · cases q
  · cases q
/-- a property's getter -/
def getA (C m : Str) (K : PySem.W.Frag) : Addr := match PySem.W.recIn K (He.ma K (He.ga K C) m) "property" with
  | some (.ref g :: _) => g
  | _ => 0
def propB (C m : Str) (K : PySem.W.Frag) : Bool := He.eqO (PySem.W.findIn K (.ref (He.ga K C)) m) (some (some (.ref (He.ma K (He.ga K C) m)))) && (He.eqO (PySem.W.specialIn K (.ref (He.ma K (He.ga K C) m)) "__get__") (some (some (.builtin "property.__get__"))) &&
  (decide (PySem.W.takesIn K (.ref (He.ma K (He.ga K C) m)) = some true) && (match PySem.W.recIn K (He.ma K (He.ga K C) m) "property" with
    | some (.ref _ :: _) => true
    | _ => false)))
theorem propB_ok {C m : Str} {K : PySem.W.Frag} (h : propB C m K = true) : PropOf K (He.ga K C) m (He.ma K (He.ga K C) m) (getA C m K) := by
  obtain ⟨h1, h2⟩ := He.ba h
  obtain ⟨h3, h4⟩ := He.ba h2
  obtain ⟨h5, h6⟩ := He.ba h4
  refine ⟨He.eqO_ok h1, He.eqO_ok h3, of_decide_eq_true h5, ?_⟩
  unfold getA
  split at h6
  · rename_i g rest e
    rw [e]
    exact ⟨rest, rfl⟩
  · cases h6
/-- a getter's def -/
structure GD where
  cls : Str
  at_ : Str
  qual : Str
  st : Stmt
def gds : List GD := [⟨"Result", "text", "Result.text", inClass (top 33) 1⟩, ⟨"Result", "passes", "Result.passes", inClass (top 33) 2⟩, ⟨"Result", "ways", "Result.ways", inClass (top 33) 3⟩]
def gdW (K : PySem.W.Frag) (d : GD) : He.FnW := match K.lookup (getA d.cls d.at_ K) with
  | some ⟨_, _, .func fd, _⟩ => some (fd.name, fd.qualname, fd.params, fd.body, fd.scope, fd.globals, fd.closure, fd.builtins)
  | _ => none
def GD.val (d : GD) : He.FnW := some (d.at_, d.qual, defArgs d.st, .stmts (defBody d.st), defScope d.st, mainGlobals, [], builtinsNs)
def gdB (K : PySem.W.Frag) (d : GD) : Bool := propB d.cls d.at_ K && (PySem.W.keepIn K (.ref (getA d.cls d.at_ K)) && (match K.lookup (getA d.cls d.at_ K) with
  | some ⟨_, _, .func fd, _⟩ => PySem.W.codeIn K fd.code d.qual && (He.dflB K fd.defaults [] && He.kwdB K fd.kwdefaults [])
  | _ => false))
theorem gd_ok {K : PySem.W.Frag} {d : GD} (e : gdW K d = d.val) (c : gdB K d = true) : GetAt K (He.ga K d.cls) d.at_ d.qual d.st := by
  obtain ⟨pp, c1⟩ := He.ba c
  obtain ⟨kp, c2⟩ := He.ba c1
  refine ⟨He.ma K (He.ga K d.cls) d.at_, getA d.cls d.at_ K, ?_⟩
  unfold gdW at e
  cases q : K.lookup (getA d.cls d.at_ K) with
  | none =>
    rw [q] at c2
    cases c2
  | some o =>
    obtain ⟨oc, od, dt, osl⟩ := o
    rw [q] at c2 e
    cases dt with
    | func fd =>
      obtain ⟨n1, n2, n3, n4, n5, n6, n7, n8, n9, n10, n11, n12, n13, n14, n15⟩ := fd
      have e2 : (some (n1, n2, n3, n4, n5, n6, n7, n15) : He.FnW) = some (d.at_, d.qual, defArgs d.st, .stmts (defBody d.st), defScope d.st, mainGlobals, [], builtinsNs) := e
      simp only [Option.some.injEq, Prod.mk.injEq] at e2
      obtain ⟨h1, h2, h3, h4, h5, h6, h7, h8⟩ := e2
      subst h1 h2 h3 h4 h5 h6 h7 h8
      have c3 : (PySem.W.codeIn K n13 d.qual && (He.dflB K n8 [] && He.kwdB K n9 [])) = true := c2
      obtain ⟨k1, k2⟩ := He.ba c3
      obtain ⟨k3, k4⟩ := He.ba k2
      exact ⟨_, propB_ok pp, ⟨oc, od, n8, n9, n10, n11, n12, n13, n14, osl, rfl, q, k1, He.dflB_ok k3, He.kwdB_ok k4⟩, kp⟩
    | _ => cases c2
/-- what the facts leave out -/
def hex (K : PySem.W.Frag) : Bool := He.valsB K (He.ga K "EDIT_KINDS") hkv && (endB K (He.ga K "Endless") && (He.eqO (PySem.W.findIn K (.ref (He.ga K "Endless")) "__setattr__") (some (some (.builtin "object.__setattr__"))) &&
  (He.eqO (PySem.W.findIn K (.ref (He.ga K "Endless")) "__init__") (some (some (.ref (He.ma K (He.ga K "Endless") "__init__")))) && (decide (PySem.W.typeIn K (.ref (He.ma K (He.ga K "Endless") "__init__")) = some (.type "function")) &&
  (decide (PySem.W.subIn K (.ref (He.ga K "Endless")) (.type "BaseException") = some true) && (decide (PySem.W.typeIn K (.ref (He.ga K "Endless")) = some (.type "type")) && gds.all (gdB K)))))))
/-! ### the Hook -/
abbrev AlY : Type := He.AlX × List He.FnW
def obsY (n : Nat) (g : Addr → Option Obj) : AlY := (He.obsX n hfa hfn hts htf hex g, gds.map (gdW (He.frT g (He.asD g n))))
def valY (w : World) : AlY := (He.valX hfn hts w, gds.map GD.val)
def hookY (n : Nat) : PySem.W.Hook where
  α := AlY
  obs := fun s => obsY n s.heap.get?
  val := fun w => valY w
  says := fun w h => ∃ K : PySem.W.Frag, K.In h ∧ He.SaysX hfa hfn hts htf hex w h K ∧ gds.map (gdW K) = gds.map GD.val
  of := fun _ _ e => ⟨_, He.frT_in, He.saysX_of (congrArg (fun z : AlY => z.1) e), congrArg (fun z : AlY => z.2) e⟩
  keeps := fun _ _ _ ⟨K, hK, c, d⟩ k => ⟨K, PySem.W.Frag.In.keeps hK k, ⟨c.t, c.more, c.hd, c.out, fun p hp => k _ _ (c.empty p hp)⟩, d⟩
theorem obsY_eq {n : Nat} {g : Addr → Option Obj} {s : Shared} (h : ∀ a, g a = s.heap.get? a) : obsY n g = (hookY n).obs s := by
  have e : g = s.heap.get? := funext h
  rw [e] <;> rfl
abbrev hk : PySem.W.Hook := hookY 6
def hob (s : PySem.W.SharedT) : AlY := obsY 6 (HandSHeadRun.getT s)
theorem hob_eq (s : PySem.W.SharedT) : hob s = hk.obs s.abs := obsY_eq (HandSHeadRun.getT_eq s)
abbrev R : PySem.W.OpenRow := PySem.W.OpenLaw.row PySem.Challenge.rw_ownbranch_k20_whole_notes_of_passes
end Ob
namespace Ob
open PySem PySem.Spec PyProof.Rows L2
theorem hrun (w : World) : HandSHeadRun.RunEq R (PySem.W.view R.prog [46]) hk hob 3300 hnames w :=
  PySem.W.byRow2 "special-get-raises" (P := fun w => HandSHeadRun.RunEq R (PySem.W.view R.prog [46]) hk hob 3300 hnames w) (fun w => by intro os; kernel_rfl) (fun w => by intro os; kernel_rfl) w
end Ob
/-! The end: the facts of the head, the law. -/
namespace Ob
open PySem PySem.Spec PyProof.Rows L2 StX C8 LamX
section
variable {w : World} {K : PySem.W.Frag} {h : Heap} {mg : Str → Option Value}
theorem gvI {x : Str} {i : Int} (e : ∃ t, mg x = some (.int i t)) : GV mg x (.int i) := by
  obtain ⟨t, e⟩ := e
  exact ⟨_, e, t, rfl⟩
theorem gvS {x z : Str} (e : ∃ t, mg x = some (.str z t)) : GV mg x (.str z) := by
  obtain ⟨t, e⟩ := e
  exact ⟨_, e, t, rfl⟩
theorem funNone {x qual : Str} {st : Stmt} {f : Addr} {fd : FuncData} (D : FunD K x qual (defArgs st) (defBody st) (defScope st) [] [] f fd) :
    ∃ (oc : Value) (od : Option Addr) (doc pm : Value) (an : Option Addr) (kV cdv ct : Value) (osl : Array (Option Value)), fd = PySem.W.fnOf x qual (defArgs st) (defBody st) (defScope st) .none kV doc pm an cdv ct ∧ K.lookup f = some ⟨oc, od, .func (PySem.W.fnOf x qual (defArgs st) (defBody st) (defScope st) .none kV doc pm an cdv ct), osl⟩ ∧ PySem.W.codeIn K cdv qual = true := by
  obtain ⟨oc, od, dV, kV, doc, pm, an, cdv, ct, osl, e, lk, hcd, hD, _⟩ := D.ex
  rcases hD with ⟨_, rfl⟩ | ⟨n, _⟩
  · exact ⟨oc, od, doc, pm, an, kV, cdv, ct, osl, e, by rw [lk, e], hcd⟩
  · exact absurd rfl n
theorem da_of (c : He.SaysX hfa hfn hts htf hex w h K) {x : Str} {st : Stmt} (i : Nat) (e : hfn[i]? = some ⟨(x, none), x, x, defArgs st, defBody st, defScope st, [], []⟩) (g : mg x = some (.ref (He.ga K x))) : DefAt K mg x st := by
  obtain ⟨fd, F⟩ := c.t.d.def_ i e
  exact ⟨_, fd, F, g⟩
theorem head_tp (X : K.In h) (G : h.Ns mainGlobals mg) (c : He.SaysX hfa hfn hts htf hex w h K) (d : gds.map (gdW K) = gds.map GD.val) :
    Tp w K mg ⟨He.ga K "Pass", He.ga K "Result", He.ga K "Runner", He.ga K "Endless"⟩ (He.ma K (He.ga K "Endless") "__init__") := by
  have da : ∀ {x : Str} {st : Stmt} (i : Nat), hfn[i]? = some ⟨(x, none), x, x, defArgs st, defBody st, defScope st, [], []⟩ → mg x = some (.ref (He.ga K x)) → DefAt K mg x st := fun i e g => da_of c i e g
  have cS : He.SaysD hfa hfn K := c.t.d
  obtain ⟨es, n, hEK⟩ := c.t.tab 0
  obtain ⟨m1, m⟩ := He.ba c.more
  obtain ⟨m2, m⟩ := He.ba m
  obtain ⟨m3, m⟩ := He.ba m
  obtain ⟨m4, m⟩ := He.ba m
  obtain ⟨m5, m⟩ := He.ba m
  obtain ⟨m6, m⟩ := He.ba m
  obtain ⟨m7, m8⟩ := He.ba m
  have gm : ∀ (i : Nat) (g : GD), gds[i]? = some g → GetAt K (He.ga K g.cls) g.at_ g.qual g.st := fun i g e => by
    have e2 : (gds.map (gdW K))[i]? = (gds.map GD.val)[i]? := congrArg (fun l : List He.FnW => l[i]?) d
    rw [List.getElem?_map, List.getElem?_map, e] at e2
    exact gd_ok (Option.some.inj e2) (List.all_eq_true.mp m8 g (List.mem_of_getElem? e))
  obtain ⟨dfPi, fPi⟩ := cS.def_ 25 (d := ⟨("Pass", some "__init__"), "__init__", "Pass.__init__", defArgs (inClass (top 29) 0), defBody (inClass (top 29) 0), defScope (inClass (top 29) 0), [], []⟩) rfl
  obtain ⟨dfPc, fPc⟩ := cS.def_ 26 (d := ⟨("Pass", some "carry_out"), "carry_out", "Pass.carry_out", defArgs (inClass (top 29) 1), defBody (inClass (top 29) 1), defScope (inClass (top 29) 1), [], []⟩) rfl
  obtain ⟨dfRi, fRi⟩ := cS.def_ 27 (d := ⟨("Result", some "__init__"), "__init__", "Result.__init__", defArgs (inClass (top 33) 0), defBody (inClass (top 33) 0), defScope (inClass (top 33) 0), [], []⟩) rfl
  obtain ⟨dfUi, fUi⟩ := cS.def_ 28 (d := ⟨("Runner", some "__init__"), "__init__", "Runner.__init__", defArgs (inClass (top 34) 0), defBody (inClass (top 34) 0), defScope (inClass (top 34) 0), [], []⟩) rfl
  obtain ⟨dfUr, fUr⟩ := cS.def_ 29 (d := ⟨("Runner", some "run_loop"), "run_loop", "Runner.run_loop", defArgs (inClass (top 34) 1), defBody (inClass (top 34) 1), defScope (inClass (top 34) 1), [], []⟩) rfl
  obtain ⟨dfEi, fEi⟩ := cS.def_ 30 (d := ⟨("Endless", some "__init__"), "__init__", "Endless.__init__", defArgs (inClass (top 4) 0), defBody (inClass (top 4) 0), defScope (inClass (top 4) 0), [], []⟩) rfl
  obtain ⟨dRun, fRun⟩ := cS.def_ 14 (d := ⟨("run", none), "run", "run", defArgs (top 35), defBody (top 35), defScope (top 35), [], [(("watch" : Str), He.Dv.non)]⟩) rfl
  have tx : Tx w K mg := {
    EK := ⟨_, es, n, (He.glo_ok X G (c.t.d.fact 4 (f := .glo "EDIT_KINDS") rfl)), hEK, fun q hq => ?ek⟩
    nLen := He.free_ok X G (c.t.d.fact 30 (f := .free "len") rfl)
    nIsi := He.free_ok X G (c.t.d.fact 31 (f := .free "isinstance") rfl)
    nInt := He.free_ok X G (c.t.d.fact 32 (f := .free "int") rfl)
    nBool := He.free_ok X G (c.t.d.fact 33 (f := .free "bool") rfl)
    nStr := He.free_ok X G (c.t.d.fact 34 (f := .free "str") rfl)
    nTuple := He.free_ok X G (c.t.d.fact 35 (f := .free "tuple") rfl)
    nList := He.free_ok X G (c.t.d.fact 36 (f := .free "list") rfl)
    nAll := He.free_ok X G (c.t.d.fact 37 (f := .free "all") rfl)
    nEnum := He.free_ok X G (c.t.d.fact 38 (f := .free "enumerate") rfl)
    nRange := He.free_ok X G (c.t.d.fact 39 (f := .free "range") rfl)
    nMax := He.free_ok X G (c.t.d.fact 40 (f := .free "max") rfl)
    nMin := He.free_ok X G (c.t.d.fact 41 (f := .free "min") rfl)
    nAbs := He.free_ok X G (c.t.d.fact 42 (f := .free "abs") rfl)
    nSum := He.free_ok X G (c.t.d.fact 43 (f := .free "sum") rfl)
    ITEMS := gvS (He.str_ok X G (c.t.d.fact 44 (f := .str "ITEMS" "abcd") rfl))
    END := gvS (He.str_ok X G (c.t.d.fact 45 (f := .str "END" "$") rfl))
    END_WAY := gvS (He.str_ok X G (c.t.d.fact 46 (f := .str "END_WAY" "end") rfl))
    BREAK_WAY := gvS (He.str_ok X G (c.t.d.fact 47 (f := .str "BREAK_WAY" "break") rfl))
    MOST_RULES := gvI (He.int_ok X G (c.t.d.fact 48 (f := .int "MOST_RULES" 12) rfl))
    MOST_LOOPS := gvI (He.int_ok X G (c.t.d.fact 49 (f := .int "MOST_LOOPS" 5) rfl))
    MOST_EDITS := gvI (He.int_ok X G (c.t.d.fact 50 (f := .int "MOST_EDITS" 4) rfl))
    MOST_DELETIONS := gvI (He.int_ok X G (c.t.d.fact 51 (f := .int "MOST_DELETIONS" 2) rfl))
    MARKS := gvI (He.int_ok X G (c.t.d.fact 52 (f := .int "MARKS" 4) rfl))
    LONGEST_END := gvI (He.int_ok X G (c.t.d.fact 53 (f := .int "LONGEST_END" 4) rfl))
    d_is_integer := (da 0 rfl (He.glo_ok X G (c.t.d.fact 5 (f := .glo "is_integer") rfl)))
    d_is_item := (da 1 rfl (He.glo_ok X G (c.t.d.fact 6 (f := .glo "is_item") rfl)))
    d_is_text := (da 2 rfl (He.glo_ok X G (c.t.d.fact 7 (f := .glo "is_text") rfl)))
    d_is_selection := (da 3 rfl (He.glo_ok X G (c.t.d.fact 8 (f := .glo "is_selection") rfl)))
    d_is_edit := (da 4 rfl (He.glo_ok X G (c.t.d.fact 9 (f := .glo "is_edit") rfl)))
    d_count_words := (da 5 rfl (He.glo_ok X G (c.t.d.fact 10 (f := .glo "count_words") rfl)))
    d_may_follow := (da 6 rfl (He.glo_ok X G (c.t.d.fact 11 (f := .glo "may_follow") rfl)))
    d_are_edits := (da 7 rfl (He.glo_ok X G (c.t.d.fact 12 (f := .glo "are_edits") rfl)))
    d_is_rule := (da 8 rfl (He.glo_ok X G (c.t.d.fact 13 (f := .glo "is_rule") rfl)))
    d_is_loop := (da 9 rfl (He.glo_ok X G (c.t.d.fact 14 (f := .glo "is_loop") rfl)))
    d_is_program := (da 10 rfl (He.glo_ok X G (c.t.d.fact 15 (f := .glo "is_program") rfl)))
    d_check_program := (da 11 rfl (He.glo_ok X G (c.t.d.fact 16 (f := .glo "check_program") rfl)))
    d_fitting_rule := (da 12 rfl (He.glo_ok X G (c.t.d.fact 17 (f := .glo "fitting_rule") rfl)))
    d_apply_edit := (da 13 rfl (He.glo_ok X G (c.t.d.fact 18 (f := .glo "apply_edit") rfl)))
  }
  case ek =>
    have hq2 : q ∈ ekv := hq
    have e : ekv = hkv.map fun q => (q.1, q.2.v K) := rfl
    rw [e] at hq2
    obtain ⟨z, hz, rfl⟩ := List.mem_map.mp hq2
    exact He.valsB_ok m1 hz
  have tc : Tc w K mg ⟨He.ga K "Pass", He.ga K "Result", He.ga K "Runner", He.ga K "Endless"⟩ := {
    toTx := tx
    gP := (He.glo_ok X G (c.t.d.fact 0 (f := .glo "Pass") rfl))
    gR := (He.glo_ok X G (c.t.d.fact 1 (f := .glo "Result") rfl))
    gU := (He.glo_ok X G (c.t.d.fact 2 (f := .glo "Runner") rfl))
    cP := He.cls_ok (c.t.d.fact 54 (f := .cls "Pass") rfl)
    cR := He.cls_ok (c.t.d.fact 56 (f := .cls "Result") rfl)
    cU := He.cls_ok (c.t.d.fact 58 (f := .cls "Runner") rfl)
    nItem := He.noat_ok (c.t.d.fact 60 (f := .noat "Pass" "item") rfl)
    nRule := He.noat_ok (c.t.d.fact 61 (f := .noat "Pass" "rule") rfl)
    nMark := He.noat_ok (c.t.d.fact 62 (f := .noat "Pass" "mark") rfl)
    nBroken := He.noat_ok (c.t.d.fact 63 (f := .noat "Pass" "is_broken") rfl)
    nRemains := He.noat_ok (c.t.d.fact 64 (f := .noat "Result" "remains") rfl)
    nMade := He.noat_ok (c.t.d.fact 65 (f := .noat "Result" "made") rfl)
    nEnded := He.noat_ok (c.t.d.fact 66 (f := .noat "Result" "ended") rfl)
    nCurrent := He.noat_ok (c.t.d.fact 67 (f := .noat "Runner" "current") rfl)
    nWatcher := He.noat_ok (c.t.d.fact 68 (f := .noat "Runner" "watcher") rfl)
    nCounts := He.noat_ok (c.t.d.fact 69 (f := .noat "Runner" "counts") rfl)
    nEndings := He.noat_ok (c.t.d.fact 70 (f := .noat "Runner" "endings") rfl)
    iP := ⟨_, _, He.mkr_ok (c.t.d.fact 55 (f := .mkr "Pass") rfl), fPi⟩
    mCarry := ⟨_, _, He.meth_ok (c.t.d.fact 72 (f := .meth "Pass" "carry_out") rfl), fPc⟩
    iR := ⟨_, _, He.mkr_ok (c.t.d.fact 57 (f := .mkr "Result") rfl), fRi⟩
    iU := ⟨_, _, He.mkr_ok (c.t.d.fact 59 (f := .mkr "Runner") rfl), fUi⟩
  }
  obtain ⟨oc, od, doc, pm, an, kV, cdv, ct, osl, _, lkE, hcdE⟩ := funNone (x := "__init__") (qual := "Endless.__init__") (st := inClass (top 4) 0) (f := He.ma K (He.ga K "Endless") "__init__") fEi
  have te : EndT K mg (He.ga K "Endless") (He.ma K (He.ga K "Endless") "__init__") := {
    gC := (He.glo_ok X G (c.t.d.fact 3 (f := .glo "Endless") rfl))
    cls := endB_ok m2
    sa := He.eqO_ok m3
    noN := He.noat_ok (c.t.d.fact 71 (f := .noat "Endless" "loop") rfl)
    iC := He.eqO_ok m4
    tC := of_decide_eq_true m5
    kC := He.keep_ok (c.t.d.fact 75 (f := .keep "Endless") rfl)
    exC := of_decide_eq_true m6
    tyC := of_decide_eq_true m7
    te := He.exm_ok (c.t.d.fact 74 (f := .exm "Endless" "Endless" true) rfl)
    fn := ⟨oc, od, doc, pm, an, kV, cdv, ct, osl, lkE, hcdE⟩
  }
  have tr : Tr w K mg ⟨He.ga K "Pass", He.ga K "Result", He.ga K "Runner", He.ga K "Endless"⟩ (He.ma K (He.ga K "Endless") "__init__") := {
    toTc := tc
    mRun := ⟨_, _, He.meth_ok (c.t.d.fact 73 (f := .meth "Runner" "run_loop") rfl), fUr⟩
    te := te
  }
  have tf : Tf w K mg ⟨He.ga K "Pass", He.ga K "Result", He.ga K "Runner", He.ga K "Endless"⟩ (He.ma K (He.ga K "Endless") "__init__") := {
    toTr := tr
    dRun := ⟨_, _, fRun, (He.glo_ok X G (c.t.d.fact 19 (f := .glo "run") rfl))⟩
  }
  have tl : Tl w K mg ⟨He.ga K "Pass", He.ga K "Result", He.ga K "Runner", He.ga K "Endless"⟩ (He.ma K (He.ga K "Endless") "__init__") := {
    toTf := tf
    d_bag := (da 15 rfl (He.glo_ok X G (c.t.d.fact 20 (f := .glo "_law_bag") rfl)))
    d_take := (da 16 rfl (He.glo_ok X G (c.t.d.fact 21 (f := .glo "_law_take") rfl)))
    d_text := (da 17 rfl (He.glo_ok X G (c.t.d.fact 22 (f := .glo "_law_text") rfl)))
    d_letters := (da 18 rfl (He.glo_ok X G (c.t.d.fact 23 (f := .glo "_law_letters") rfl)))
    d_edits := (da 19 rfl (He.glo_ok X G (c.t.d.fact 24 (f := .glo "_law_edits") rfl)))
    d_loop := (da 20 rfl (He.glo_ok X G (c.t.d.fact 25 (f := .glo "_law_loop") rfl)))
    d_program := (da 21 rfl (He.glo_ok X G (c.t.d.fact 26 (f := .glo "_law_program") rfl)))
    d_edit := (da 22 rfl (He.glo_ok X G (c.t.d.fact 27 (f := .glo "_law_edit") rfl)))
    d_replayed := (da 23 rfl (He.glo_ok X G (c.t.d.fact 28 (f := .glo "_law_replayed") rfl)))
  }
  exact { toTl := tl, gt := gm 0 _ rfl, gp := gm 1 _ rfl, gw := gm 2 _ rfl }
theorem head_law (X : K.In h) (G : h.Ns mainGlobals mg) {fa : Addr} (hfa' : mg ("law" : Str) = some (.ref fa)) (c : He.SaysX hfa hfn hts htf hex w h K) (d : gds.map (gdW K) = gds.map GD.val) :
    LawAtS PySem.Challenge.rw_ownbranch_k20_whole_notes_of_passes w K C8.CX0 10 63 "_law_script" mg fa h := by
  have T := head_tp X G c d
  have e := hfa'.symm.trans (He.glo_ok X G (c.t.d.fact 29 (f := .glo "law") rfl))
  cases e
  obtain ⟨fd, F⟩ := c.t.d.def_ 24 (d := ⟨("law", none), "law", "law", defArgs (top 46), defBody (top 46), defScope (top 46), [], []⟩) rfl
  have B := FunD.bindsA (ps := ["_law_script"]) F fun _ _ _ _ _ _ us hl => match us, hl with | [_], _ => rfl
  obtain ⟨oc, od, doc, pm, an, kV, cdv, ct, osl, efd, lk, hcd⟩ := funNone (x := "law") (qual := "law") (st := top 46) (f := He.ga K "law") F
  obtain ⟨cA, rfl⟩ := He.codeIn_ref hcd
  have ec : He.codeOf K ("law", none) = cA := He.codeOf_eq lk rfl
  have hm : (("law", none) : He.Defn) ∈ htf := List.mem_singleton.mpr rfl
  have h1 := c.empty _ hm
  have h2 := c.out _ hm
  have h3 := c.hd _ hm
  have eT : He.cT K ("law", none) = (cA, He.tabOf K cA) := by
    show (He.codeOf K ("law", none), He.tabOf K (He.codeOf K ("law", none))) = _
    rw [ec]
  rw [eT] at h1 h2 h3
  subst efd
  refine ⟨_, [(cA, He.tabOf K cA)], spLaw K (He.tabOf K cA), fun p hp => ?_, fun p hp => ?_, fun p hp => ?_, fun s u => B s [u] rfl, fun H a ns hl hbits hH hS => ⟨a, ns, rfl, hS, hl, hH _ (List.mem_singleton.mpr rfl), fun _ => rfl⟩, fun base KX KG hTB => ?_⟩
  · rw [List.mem_singleton.mp hp]; exact h1
  · rw [List.mem_singleton.mp hp]; exact h2
  · rw [List.mem_singleton.mp hp]; exact PySem.W.codeHd_of_K X h3
  · exact fn_law T lk hcd (hTB _ (List.mem_singleton.mpr rfl))
end
end Ob
open PySem PySem.W PySem.Calls PyProof.Rows
theorem PySem.Challenge.cw_ownbranch_k20_whole_notes_of_passes_holds : PySem.Challenge.rw_ownbranch_k20_whole_notes_of_passes.Holds := by
  w_on; o_law
  refine HandSHeadRun.head_any (r := OpenLaw.row PySem.Challenge.rw_ownbranch_k20_whole_notes_of_passes) (q := view (OpenLaw.row PySem.Challenge.rw_ownbranch_k20_whole_notes_of_passes).prog [46]) (H := Ob.hk) (ob := Ob.hob) (M := 3300) (loose := Ob.hnames) (d := HandSHeadRun.topDef (OpenLaw.row PySem.Challenge.rw_ownbranch_k20_whole_notes_of_passes).prog 46) (kwd := []) Ob.hob_eq
    (by kernel_rfl) (fun s => by kernel_rfl) Ob.hrun (by kernel_rfl) (by kernel_rfl) (by kernel_rfl) (by rfl) (by first | assumption | decide +kernel) (by decide +kernel) ⟨rfl, rfl, rfl, rfl, rfl, by decide +kernel⟩ ?hw ?hc
  case hw => w_witness2
  case hc =>
    refine LamX.walk_ofTsE (l := PySem.Challenge.rw_ownbranch_k20_whole_notes_of_passes) (n := 63) (k := 10) (x := "_law_script") (CX := fun _ => C8.CX0) rfl (by decide) (by kernel_rfl) ⟨rfl, by decide, by decide⟩ ?F (fun _ _ _ _ _ z => z)
    intro w mg fa h Y G hmg0
    obtain ⟨K, KX, c, d⟩ := Y
    have hmg : mg ("law" : PySem.Str) = some (.ref fa) := by
      have e : (HandSHeadRun.topDef (OpenLaw.row PySem.Challenge.rw_ownbranch_k20_whole_notes_of_passes).prog 46).name = ("law" : PySem.Str) := by kernel_rfl
      rw [← e]
      exact hmg0
    exact ⟨K, KX, Ob.head_law KX G hmg c d⟩
