import PyProof.Rows.All
import Wide.All
import OpenK.AllK
import Wide.FinOn
import HandS.ForMost
import HandS.ForExc
import HandS.TupAny
import HandS.Wide
import HandS.IsInst
import HandS.Zip
import HandS.Walk
import HandS.Style
import HandS.TupMul
import KE.GoesEnum
import KE.GoesMore
import HandS.SortInts
import KE.KDictZip
import HandS.MapObj
import KE.GoesZip
import HandS.NamedTupSort
import HandS.RevTup
import HandS.Lambda
import HandS.TupSets
import HandS.SetFor
import HandS.AnyAll
import HandS.ExcOwn
import HandS.TryOnly
import HandS.TryMany
import HandS.ExcInit
import HandS.ExcField
import HandS.DictComp
import HandS.Set
import HandS.SetIn
import HandS.SortOrd
import HandS.ExcIs
import HandS.Deep
import HandS.OwnEq
import HandS.Conv
import KE.DatumOrd
import KE.KExcInit
import KE.KExcLine
import PySem.Challenge.RW_joinshelf_k01_batches_and_feeds_judged
set_option Elab.async false
set_option linter.all false
set_option maxRecDepth 100000
set_option maxHeartbeats 1000000
/-! enumerate of a tuple -/
namespace PySem
open Sem (wp)
open AutoSeq1 (wpAny_loadPart')
theorem jo_meets_enumerate_newT (l : Addr) (items : Array Value) (n : Nat) (dct : Option Addr) (sl : Array (Option Value)) :
    Meets (Builtin.«enumerate.__new__» ⟨[.type "enumerate", .ref l], []⟩) (fun _ R s => s.heap.get? l = some { cls := .type "tuple", dict := dct, data := .seq items n, slots := sl } ∧
      R (.ok (.ret (.ref (s.heap.push { cls := .type "tuple_iterator", data := .fields #[.ref l, .int 0 0] }).objs.size)))
        { s with heap := (s.heap.push { cls := .type "tuple_iterator", data := .fields #[.ref l, .int 0 0] }).push { cls := .type "enumerate", data := .fields #[.none, .bool false, .ref s.heap.objs.size, rawInt 0, .none, .none] } }) :=
  .of_wp fun prog w A R s h => by
    obtain ⟨hp, g, d, tk, os⟩ := s; obtain ⟨hl, h⟩ := h
    have hsub := sub_enumerate
    have hL : Heap.IsTuple (Shared.heap ⟨hp, g, d, tk, os⟩) l items := ⟨_, hl, rfl, n, rfl⟩
    wp_walk using wpAny_loadPart' hl
    refine wpAny_stack_any fun st => wpAny_pure ?_
    split
    · rename_i c _ _ _ _ _
      cases (c == Value.type "enumerate")
      · wp_walk using wpAny_loadPart' hl, wpAny_pyIter_tuple hL
        exact ⟨_, rfl, h⟩
      · wp_walk using wpAny_loadPart' hl, wpAny_pyIter_tuple hL
        exact ⟨_, rfl, h⟩
    · wp_walk using wpAny_loadPart' hl, wpAny_pyIter_tuple hL
      exact ⟨_, rfl, h⟩
theorem jo_call_enumerate_tuple {prog : Program} {w : World} {A : Around} {E : Value → Shared → Prop} {s : Shared} {l : Addr} {items : Array Value} {Q : Value → Shared → Prop} (hL : s.heap.IsTuple l items)
    (h : ∀ h', IsEnum h' (s.heap.objs.size + 1) s.heap.objs.size 0 .none → h'.IsTupleIter s.heap.objs.size l 0 → h'.objs.size = s.heap.objs.size + 2 →
      (∀ b o, s.heap.get? b = some o → h'.get? b = some o) → Q (.ref (s.heap.objs.size + 1)) { s with heap := h' }) :
    wpAny (model prog w) A (call (.type "enumerate") [.ref l]) Q E s := by
  obtain ⟨⟨c, dct, dt, sl⟩, hl, hc, n, hd⟩ := hL
  replace hc : c = .type "tuple" := hc
  replace hd : dt = .seq items n := hd
  subst hc hd
  refine callType_new F.called_enumerate (by decide) (F.typeCall_enumerate_1 _) (F.newCall_enumerate_1 _) (fun obj => F.args_object_init_2 obj _) F.entry_enumerate_new
    (jo_meets_enumerate_newT l items n dct sl) ⟨hl, ?_⟩
  have hz : (s.heap.push { cls := .type "tuple_iterator", data := .fields #[.ref l, .int 0 0] }).objs.size = s.heap.objs.size + 1 := Heap.size_push ..
  show _ ∧ _
  rw [hz]
  have he : IsEnum ((s.heap.push { cls := .type "tuple_iterator", data := .fields #[.ref l, .int 0 0] }).push
      { cls := .type "enumerate", data := .fields #[.none, .bool false, .ref s.heap.objs.size, rawInt 0, .none, .none] }) (s.heap.objs.size + 1) s.heap.objs.size 0 .none := by
    have := Heap.get?_push_size (s.heap.push { cls := .type "tuple_iterator", data := .fields #[.ref l, .int 0 0] })
      (o := { cls := .type "enumerate", data := .fields #[.none, .bool false, .ref s.heap.objs.size, rawInt 0, .none, .none] }) rfl
    rw [hz] at this; exact this
  refine ⟨⟨_, he, rfl⟩, h _ he ⟨_, Heap.get?_push_of_some _ (Heap.get?_push_size _ rfl), rfl, rfl⟩ (by rw [Heap.size_push, hz]) fun b o x => Heap.get?_push_of_some _ (Heap.get?_push_of_some _ x)⟩
end PySem
namespace L2
open PySem PySem.Spec PyProof.Rows
def IteT (K : PySem.W.Frag) (a : Addr) : It :=
  ⟨fun i H => ∃ (xs : List V) (x : V), SqT K H a xs ∧ xs[i]? = some x, fun i H v H' => ∃ T x, v = .ref T ∧ H T = none ∧ H' = upd H T (.tup [.int (i : Nat), x]) ∧ ∀ xs, SqT K H a xs → xs[i]? = some x, fun i H => ∃ xs : List V, SqT K H a xs ∧ xs.length = i⟩
theorem turn_enumT {P : Program} {w : World} {K : PySem.W.Frag} {elts : List Expr} {kk : Nat} {tpos : Pos} (a e it : Addr) :
    Turn P w K (.Tuple elts kk tpos) (IteT K a) [e, it] e (fun i h => (∃ old, IsEnum h e it ((i : Nat) : Int) old) ∧ h.IsTupleIter it a i ∧ e ≠ it ∧ a ≠ it ∧ a ≠ e) where
  mem := by simp
  obj := fun i h st b hb => by
    obtain ⟨⟨old, he⟩, ⟨o, ho, hc, hd⟩, _⟩ := st
    have e' : b = e ∨ b = it := by simpa using hb
    rcases e' with z | z
    · rw [z]; exact ⟨_, he, fun v q => nomatch q⟩
    · rw [z]; exact ⟨o, ho, fun v q => by rw [hd] at q; cases q⟩
  keep := fun i h h' st k => let ⟨⟨old, he⟩, ⟨o, ho, r⟩, hne⟩ := st; ⟨⟨old, k e (by simp) _ he⟩, ⟨o, k it (by simp) o ho, r⟩, hne⟩
  item := by
    intro X hP hw hK hc i pins s σ H E I hf st hg
    subst hP hw hK
    obtain ⟨⟨old, he⟩, hit, hne, hai, hae⟩ := st
    obtain ⟨xs, x, hq, hx⟩ := hg
    obtain ⟨its, rv, p, hz⟩ := I.tuple hq
    obtain ⟨u, hu, ru⟩ := rv.get hx
    have hel : e < s.heap.objs.size := Heap.lt_size he
    have hil : it < s.heap.objs.size := by obtain ⟨_, q, _⟩ := hit; exact Heap.lt_size q
    have D : Draws X.prog X.w X.A.in1 it [it, a] its.toArray.size (fun i v => its.toArray[i]? = some v) (fun i h => h.IsTupleIter it a i ∧ h.IsTuple a its.toArray) := Draws.tuple (show X.A.in1.handled = none from I.ok.hd hc) it a hai its.toArray
    have hlt : i < its.toArray.size := by
      rw [List.size_toArray]
      exact (List.getElem?_eq_some_iff.mp hu).1
    refine wpAny_pyNext_enum_itemD D he ⟨hit, p⟩ hlt hne (by simp [hne, Ne.symm hae]) fun y h' tk hy ho hst' hT hsz hk => ?_
    have ey : y = u := by
      have : its.toArray[i]? = some u := by simpa using hu
      rw [this] at hy; exact (Option.some.inj hy).symm
    subst ey
    refine ⟨_, rfl, wpAny_letOwnedTupleGo_enum (s := { s with heap := h', toks := tk + 1 }) ho fun h'' he' sb => ?_⟩
    have hT2 : h''.get? s.heap.objs.size = some { cls := .type "tuple", data := .seq #[.int i tk, y] } := (sb.2 _ (Nat.ne_of_gt hel)).trans hT
    have new : ObjOk X.prog X.w (upd H s.heap.objs.size (.tup [.int (i : Nat), x])) h'' s.heap.objs.size (.tup [.int (i : Nat), x]) :=
      ⟨by show 2 ≤ sizeLine; decide, [.int i tk, y], .cons ⟨_, rfl⟩ (.cons ru .nil), ⟨_, hT2, rfl, _, rfl⟩⟩
    have I1 : Inv X pins σ (upd H s.heap.objs.size (.tup [.int (i : Nat), x])) { s with heap := h'', toks := tk + 1 } :=
      I.turnedNew (ch := [e, it]) (fun b ob hb q => (sb.2 b (fun z => hb (by simp [z]))).trans (hk b ob (fun z => hb (by simp [z])) (fun z => hb (by simp [z])) q)) hf (Nat.le_refl _) new
    obtain ⟨oi, hoi, roi⟩ := hst'.1
    refine ⟨.ref s.heap.objs.size, _, I1, rfl, ⟨_, x, rfl, I.hok.fresh (Nat.le_refl _), rfl, fun ys hy => by rw [I.tuple_inj hy hq]; exact hx⟩, ⟨⟨y, ?_⟩, ⟨oi, (sb.2 it (Ne.symm hne)).trans hoi, roi⟩, hne, hai, hae⟩, fun b hb => ?_⟩
    · have e1 : ((i + 1 : Nat) : Int) = (i : Int) + 1 := by omega
      rw [e1]; exact he'
    · have hb' : b < s.heap.objs.size := by
        have e' : b = e ∨ b = it := by simpa using hb
        rcases e' with z | z
        · rw [z]; exact hel
        · rw [z]; exact hil
      rw [upd_ne (Nat.ne_of_lt hb')]
      exact (hf b hb).1
  done := by
    intro X hP hw hK hc i pins s σ H E I hf st hg
    subst hP hw hK
    obtain ⟨⟨old, he⟩, hit, hne, hai, hae⟩ := st
    obtain ⟨xs, hq, hx⟩ := hg
    obtain ⟨its, rv, p, hz⟩ := I.tuple hq
    obtain ⟨f0, f1, f2, f3, f4, f5⟩ := hf it (by simp)
    have hl := rv.length
    have D : Draws X.prog X.w X.A.in1 it [it, a] its.toArray.size (fun i v => its.toArray[i]? = some v) (fun i h => h.IsTupleIter it a i ∧ h.IsTuple a its.toArray) := Draws.tuple (show X.A.in1.handled = none from I.ok.hd hc) it a hai its.toArray
    have ei : its.toArray.size = i := by rw [List.size_toArray, ← hl]; exact hx
    refine wpAny_pyNext_enum_endD D he (by rw [ei]; exact ⟨hit, p⟩) fun h' eb => ⟨rfl, I.turned (t' := s.toks) (fun b o hb q => eb b o hb q) f0 f1 f3 f4 f5⟩
  self := fun A i s Q E st h => let ⟨⟨_, he⟩, _⟩ := st; wpAny_pyIter_enum he h
/-- enumerate(xs), xs a list or a tuple -/
def iEnumA (K : PySem.W.Frag) (ta : TA) : TI := fun σ H R => ta σ H fun vs H1 => ∃ a xs, vs = [.ref a] ∧ ((SqL K H1 a xs ∧ R (Ite K a) H1) ∨ (SqT K H1 a xs ∧ R (IteT K a) H1))
theorem pi_enumA {X : Cx} {e : Expr} {ta : TA} {p pos tpos : Pos} {elts : List Expr} {kk : Nat} (hg : Gl X "enumerate") (hm : X.mg "enumerate" = none) (ha : PA X [e] ta) (hs : starEach [e] X.env = [(false, eval e X.env)] := by rfl) :
    PI X (.Tuple elts kk tpos) (.Call (.Name "enumerate" p) [e] [] pos) (iEnumA X.K ta) := by
  refine ⟨fun pins s σ H R I h => ?_⟩
  refine Call_ (ld_blt I hg hm boot_enumerate (PyProof.Rows.callWith_type1 (thn (ha.run pos pins s σ H _ I h) fun us s1 ⟨vs, H1, I1, r1, q1⟩ => ?_) hs rfl))
  obtain ⟨a, xs, ex, q⟩ := q1
  subst ex
  cases r1 with
  | cons r rr =>
    cases rr
    cases r
    have two : ∀ b, b ∈ [s1.heap.objs.size + 1, s1.heap.objs.size] → FpOk X pins H1 b := fun b hb => by
      have e' : b = s1.heap.objs.size + 1 ∨ b = s1.heap.objs.size := by simpa using hb
      have hle : s1.heap.objs.size ≤ b := by
        rcases e' with z | z
        · rw [z]; exact Nat.le_add_right _ _
        · rw [z]; exact Nat.le_refl _
      exact I1.fpOk hle (I1.hok.fresh hle)
    rcases q with ⟨hq, q⟩ | ⟨hq, q⟩
    · obtain ⟨its, rv, p', hz⟩ := I1.list hq
      refine call_enumerate_list p'.isList fun h' he hit hsz hk => wpAny_pyIter_enum he ?_
      have I2 : Inv X pins σ H1 { s1 with heap := h' } := I1.kept (t' := s1.toks) hk
      exact ⟨s1.heap.objs.size + 1, [s1.heap.objs.size + 1, s1.heap.objs.size], _, _, H1, rfl, I2, turn_enum a (s1.heap.objs.size + 1) s1.heap.objs.size, ⟨⟨.none, he⟩, hit, Nat.succ_ne_self _⟩, two, q⟩
    · obtain ⟨its, rv, p', hz⟩ := I1.tuple hq
      have hal : a < s1.heap.objs.size := by obtain ⟨o, ho, _⟩ := p'; exact Heap.lt_size ho
      refine jo_call_enumerate_tuple p' fun h' he hit hsz hk => wpAny_pyIter_enum he ?_
      have I2 : Inv X pins σ H1 { s1 with heap := h' } := I1.kept (t' := s1.toks) hk
      exact ⟨s1.heap.objs.size + 1, [s1.heap.objs.size + 1, s1.heap.objs.size], _, _, H1, rfl, I2, turn_enumT a (s1.heap.objs.size + 1) s1.heap.objs.size, ⟨⟨.none, he⟩, hit, Nat.succ_ne_self _, Nat.ne_of_lt hal, Nat.ne_of_lt (Nat.lt_succ_of_lt hal)⟩, two, q⟩
end L2
/-! Value trees; what lies owned, what lies frozen. -/
namespace Jo
open PySem L2

inductive T where
  | non | bl (b : Bool) | int (i : Int) | str (s : Str) | ty (n : String) | gl (c : Str) | scr (ns : List Int)
  | tup (ts : List T)
  | lst (o : Bool) (ts : List T)
  | dk (o : Bool) (ks : List Key) (ts : List T)
  | dt (o : Bool) (ks : List (List Key)) (ts : List T)
  | ins (o : Bool) (c : Str) (ks : List Str) (ts : List T)
  | kt (ks : List Key)
  | ex (ks : List Str) (ts : List T)

/-- the names of a caught error, of its dict, in a module map -/
abbrev excN : Str := "<exc>"
abbrev excD : Str := "<exd>"
abbrev AP := Addr → Prop
abbrev Env := List (Option T)

mutual
def T.frz : T → T
  | .lst true ts => .lst false (frzL ts)
  | .dk true ks ts => .dk false ks (frzL ts)
  | .dt true ks ts => .dt false ks (frzL ts)
  | .ins true c ks ts => .ins false c ks (frzL ts)
  | t => t
def frzL : List T → List T
  | [] => []
  | t :: ts => t.frz :: frzL ts
end
theorem frzL_map : ∀ ts : List T, frzL ts = ts.map T.frz
  | [] => rfl
  | t :: ts => by
    show t.frz :: frzL ts = t.frz :: ts.map T.frz
    rw [frzL_map ts]

section
variable (K : PySem.W.Frag) (mg : Str → Option Value)

/-- v stands for the tree t, and nobody changes it: all of it lies in F -/
inductive Rep (F : Hp) : V → T → Prop
  | non : Rep F .non .non
  | bl (b : Bool) : Rep F (.bl b) (.bl b)
  | int (i : Int) : Rep F (.int i) (.int i)
  | str (s : Str) : Rep F (.str s) (.str s)
  | ty (n : String) : Rep F (.ty n) (.ty n)
  | gl {a : Addr} {c : Str} : mg c = some (.ref a) → Rep F (.ref a) (.gl c)
  | tup {a : Addr} {vs : List V} {ts : List T} : SqT K F a vs → Paired (Rep F) vs ts → Rep F (.ref a) (.tup ts)
  | scr {a : Addr} {ns : List Int} : SqL K F a (ns.map V.int) → Rep F (.ref a) (.scr ns)
  | kt {a : Addr} {ks : List Key} : F a = some (.tup (ks.map kV)) → Rep F (.ref a) (.kt ks)
  | lst {a : Addr} {vs : List V} {ts : List T} : F a = some (.lst vs) → Paired (Rep F) vs ts → Rep F (.ref a) (.lst false ts)
  | dk {a : Addr} {kvs : List (Key × V)} {ks : List Key} {ts : List T} : F a = some (.dK kvs) → kvs.map (·.1) = ks → Paired (Rep F) (kvs.map (·.2)) ts → Rep F (.ref a) (.dk false ks ts)
  | dt {a : Addr} {kvs : List (List Key × V)} {ks : List (List Key)} {ts : List T} : F a = some (.dT kvs) → kvs.map (·.1) = ks → Paired (Rep F) (kvs.map (·.2)) ts → Rep F (.ref a) (.dt false ks ts)
  | ins {a C dx : Addr} {c : Str} {fs : List (Str × V)} {ks : List Str} {ts : List T} : F a = some (.ins C dx fs) → mg c = some (.ref C) → fs.map (·.1) = ks → Paired (Rep F) (fs.map (·.2)) ts → Rep F (.ref a) (.ins false c ks ts)
  | ex {a dd : Addr} {fs : List (Str × V)} {ks : List Str} {ts : List T} : mg excN = some (.ref a) → mg excD = some (.ref dd) → F dd = some (.xd fs) → fs.map (·.1) = ks → Paired (Rep F) (fs.map (·.2)) ts → Rep F (.ref a) (.ex ks ts)
end
section
variable {K : PySem.W.Frag} {mg : Str → Option Value} {F F' H H' : Hp}

theorem SqT.mono {a : Addr} {vs : List V} (s : Same F F') (h : SqT K F a vs) : SqT K F' a vs := by
  rcases h with (h | ⟨o, h⟩) | h
  · exact .inl (.inl (s _ _ h))
  · exact .inl (.inr ⟨o, s _ _ h⟩)
  · exact .inr h
mutual
theorem Rep.mono (s : Same F F') : ∀ (t : T) (v : V), Rep K mg F v t → Rep K mg F' v t
  | .non, _, h => by cases h; exact .non
  | .bl b, _, h => by cases h; exact .bl b
  | .int i, _, h => by cases h; exact .int i
  | .str x, _, h => by cases h; exact .str x
  | .ty n, _, h => by cases h; exact .ty n
  | .scr ns, _, h => by
    cases h with
    | scr h => exact .scr (Same.seq s h)
  | .gl c, _, h => by
    cases h with
    | gl h => exact .gl h
  | .kt ks, _, h => by
    cases h with
    | kt h => exact .kt (s _ _ h)
  | .tup ts, _, h => by
    cases h with
    | tup h1 h2 => exact .tup (SqT.mono s h1) (RepL.mono s ts _ h2)
  | .lst o ts, _, h => by
    cases h with
    | lst h1 h2 => exact .lst (s _ _ h1) (RepL.mono s ts _ h2)
  | .dk o ks ts, _, h => by
    cases h with
    | dk h1 h2 h3 => exact .dk (s _ _ h1) h2 (RepL.mono s ts _ h3)
  | .dt o ks ts, _, h => by
    cases h with
    | dt h1 h2 h3 => exact .dt (s _ _ h1) h2 (RepL.mono s ts _ h3)
  | .ins o c ks ts, _, h => by
    cases h with
    | ins h1 h0 h2 h3 => exact .ins (s _ _ h1) h0 h2 (RepL.mono s ts _ h3)
  | .ex ks ts, _, h => by
    cases h with
    | ex g1 g2 h1 h2 h3 => exact .ex g1 g2 (s _ _ h1) h2 (RepL.mono s ts _ h3)
theorem RepL.mono (s : Same F F') : ∀ (ts : List T) (vs : List V), Paired (Rep K mg F) vs ts → Paired (Rep K mg F') vs ts
  | [], _, h => by cases h; exact .nil
  | t :: ts, _, h => by
    cases h with
    | cons h1 h2 => exact .cons (Rep.mono s t _ h1) (RepL.mono s ts _ h2)
end
end

/-! ### what is owned -/
section
variable (K : PySem.W.Frag) (mg : Str → Option Value)
mutual
inductive Own (F H : Hp) : V → T → AP → Prop
  | frz {v : V} {t : T} {A : AP} : Rep K mg F v t → Own F H v t A
  | lst {a : Addr} {vs : List V} {ts : List T} {A B : AP} : H a = some (.lst vs) → OwnL F H vs ts B → A a → ¬ B a → (∀ p, B p → A p) → Own F H (.ref a) (.lst true ts) A
  | dk {a : Addr} {kvs : List (Key × V)} {ks : List Key} {ts : List T} {A B : AP} : H a = some (.dK kvs) → kvs.map (·.1) = ks → OwnL F H (kvs.map (·.2)) ts B → A a → ¬ B a → (∀ p, B p → A p) → Own F H (.ref a) (.dk true ks ts) A
  | dt {a : Addr} {kvs : List (List Key × V)} {ks : List (List Key)} {ts : List T} {A B : AP} : H a = some (.dT kvs) → kvs.map (·.1) = ks → OwnL F H (kvs.map (·.2)) ts B → A a → ¬ B a → (∀ p, B p → A p) → Own F H (.ref a) (.dt true ks ts) A
  | ins {a C dx : Addr} {c : Str} {fs : List (Str × V)} {ks : List Str} {ts : List T} {A B : AP} : H a = some (.ins C dx fs) → mg c = some (.ref C) → fs.map (·.1) = ks → OwnL F H (fs.map (·.2)) ts B → A a → ¬ B a → (∀ p, B p → A p) → Own F H (.ref a) (.ins true c ks ts) A
inductive OwnL (F H : Hp) : List V → List T → AP → Prop
  | nil {A : AP} : OwnL F H [] [] A
  | cons {v : V} {t : T} {vs : List V} {ts : List T} {A B C : AP} : Own F H v t B → OwnL F H vs ts C → (∀ p, B p → ¬ C p) → (∀ p, B p → A p) → (∀ p, C p → A p) → OwnL F H (v :: vs) (t :: ts) A
end
end
section
variable {K : PySem.W.Frag} {mg : Str → Option Value} {F F' H H' : Hp}
mutual
theorem Own.mono (s : Same F F') : ∀ (t : T) (v : V) (A A' : AP), Own K mg F H v t A → (∀ p o, A p → H p = some o → H' p = some o) → (∀ p, A p → A' p) → Own K mg F' H' v t A'
  | t, v, A, A', .frz h, k, m => .frz (Rep.mono s t v h)
  | .lst true ts, .ref a, A, A', .lst h1 h2 h3 h4 h5, k, m => .lst (k _ _ h3 h1) (OwnL.mono s ts _ _ _ h2 (fun p o x => k p o (h5 p x)) fun _ x => x) (m _ h3) h4 fun p x => m p (h5 p x)
  | .dk true ks ts, .ref a, A, A', .dk h1 h0 h2 h3 h4 h5, k, m => .dk (k _ _ h3 h1) h0 (OwnL.mono s ts _ _ _ h2 (fun p o x => k p o (h5 p x)) fun _ x => x) (m _ h3) h4 fun p x => m p (h5 p x)
  | .dt true ks ts, .ref a, A, A', .dt h1 h0 h2 h3 h4 h5, k, m => .dt (k _ _ h3 h1) h0 (OwnL.mono s ts _ _ _ h2 (fun p o x => k p o (h5 p x)) fun _ x => x) (m _ h3) h4 fun p x => m p (h5 p x)
  | .ins true c ks ts, .ref a, A, A', .ins h1 g h0 h2 h3 h4 h5, k, m => .ins (k _ _ h3 h1) g h0 (OwnL.mono s ts _ _ _ h2 (fun p o x => k p o (h5 p x)) fun _ x => x) (m _ h3) h4 fun p x => m p (h5 p x)
theorem OwnL.mono (s : Same F F') : ∀ (ts : List T) (vs : List V) (A A' : AP), OwnL K mg F H vs ts A → (∀ p o, A p → H p = some o → H' p = some o) → (∀ p, A p → A' p) → OwnL K mg F' H' vs ts A'
  | [], [], A, A', .nil, _, _ => .nil
  | t :: ts, v :: vs, A, A', .cons h1 h2 h3 h4 h5, k, m => .cons (Own.mono s t v _ _ h1 (fun p o x => k p o (h4 p x)) fun _ x => x) (OwnL.mono s ts vs _ _ h2 (fun p o x => k p o (h5 p x)) fun _ x => x) h3 (fun p x => m p (h4 p x)) fun p x => m p (h5 p x)
end
mutual
theorem Own.frz_in (s : Same F F') : ∀ (t : T) (v : V) (A : AP), Own K mg F H v t A → (∀ p, A p → F' p = H p) → Rep K mg F' v t.frz
  | t, v, A, .frz h, k => by
    have e : t.frz = t := by cases h <;> rfl
    rw [e]
    exact Rep.mono s t v h
  | .lst true ts, .ref a, A, .lst h1 h2 h3 h4 h5, k => .lst ((k a h3).trans h1) (OwnL.frz_in s ts _ _ h2 fun p x => k p (h5 p x))
  | .dk true ks ts, .ref a, A, .dk h1 h0 h2 h3 h4 h5, k => .dk ((k a h3).trans h1) h0 (OwnL.frz_in s ts _ _ h2 fun p x => k p (h5 p x))
  | .dt true ks ts, .ref a, A, .dt h1 h0 h2 h3 h4 h5, k => .dt ((k a h3).trans h1) h0 (OwnL.frz_in s ts _ _ h2 fun p x => k p (h5 p x))
  | .ins true c ks ts, .ref a, A, .ins h1 g h0 h2 h3 h4 h5, k => .ins ((k a h3).trans h1) g h0 (OwnL.frz_in s ts _ _ h2 fun p x => k p (h5 p x))
theorem OwnL.frz_in (s : Same F F') : ∀ (ts : List T) (vs : List V) (A : AP), OwnL K mg F H vs ts A → (∀ p, A p → F' p = H p) → Paired (Rep K mg F') vs (frzL ts)
  | [], [], A, .nil, _ => .nil
  | t :: ts, v :: vs, A, .cons h1 h2 h3 h4 h5, k => .cons (Own.frz_in s t v _ h1 fun p x => k p (h4 p x)) (OwnL.frz_in s ts vs _ h2 fun p x => k p (h5 p x))
end
theorem OwnL.length : ∀ {vs : List V} {ts : List T} {A : AP}, OwnL K mg F H vs ts A → vs.length = ts.length
  | _, _, _, .nil => rfl
  | _, _, _, .cons _ h _ _ _ => congrArg (· + 1) h.length
theorem OwnL.of_rep : ∀ {vs : List V} {ts : List T} {A : AP}, Paired (Rep K mg F) vs ts → OwnL K mg F H vs ts A
  | _, _, _, .nil => .nil
  | _, _, A, .cons h t => .cons (B := fun _ => False) (C := fun _ => False) (.frz h) (OwnL.of_rep t) (fun _ x => x.elim) (fun _ x => x.elim) fun _ x => x.elim
end

/-! ### the frame: slots, what is owned by them -/
section
variable (K : PySem.W.Frag) (mg : Str → Option Value)
inductive EnvO (F H : Hp) : St → Env → AP → Prop
  | nil {A : AP} : EnvO F H [] [] A
  | skip {x : Option V} {σ : St} {η : Env} {A : AP} : EnvO F H σ η A → EnvO F H (x :: σ) (none :: η) A
  | cons {v : V} {t : T} {σ : St} {η : Env} {A B C : AP} : Own K mg F H v t B → EnvO F H σ η C → (∀ p, B p → ¬ C p) → (∀ p, B p → A p) → (∀ p, C p → A p) → EnvO F H (some v :: σ) (some t :: η) A
/-- owned things are tracked, and not frozen -/
def Good (F H : Hp) (A : AP) : Prop := ∀ p, A p → F p = none ∧ H p ≠ none
structure Sit (F H : Hp) (η : Env) (σ : St) (A : AP) : Prop where
  sub : Same F H
  good : Good F H A
  env : EnvO K mg F H σ η A
end
/-- what a piece of code does to the heap: at A alone it changes what stood, what stands frozen stays -/
structure Step (F H : Hp) (A : AP) (F' H' : Hp) (A' : AP) : Prop where
  keep : ∀ p o, ¬ A p → H p = some o → H' p = some o
  sub : Same F F'
  newF : ∀ p o, F' p = some o → F p = some o ∨ A p ∨ H p = none
  newA : ∀ p, A' p → A p ∨ H p = none
abbrev Un2 (A B : AP) : AP := fun p => A p ∨ B p
abbrev Dis (A B : AP) : Prop := ∀ p, A p → ¬ B p
abbrev A0 : AP := fun _ => False
section
variable {K : PySem.W.Frag} {mg : Str → Option Value} {F F' F'' H H' H'' : Hp} {A A' A'' B C : AP} {σ : St} {η : Env}
theorem Step.refl : Step F H A F H A := ⟨fun _ _ _ h => h, fun _ _ h => h, fun _ _ h => .inl h, fun _ h => .inl h⟩
theorem Step.trans (a : Step F H A F' H' A') (b : Step F' H' A' F'' H'' A'') : Step F H A F'' H'' A'' := by
  have hn : ∀ p, H' p = none → A p ∨ H p = none := fun p e => by
    cases q : H p with
    | none => exact .inr rfl
    | some o =>
      refine .inl (Classical.byContradiction fun n => ?_)
      rw [a.keep p o n q] at e; cases e
  refine ⟨fun p o n h => b.keep p o (fun x => ?_) (a.keep p o n h), fun p o h => b.sub p o (a.sub p o h), fun p o h => ?_, fun p h => ?_⟩
  · rcases a.newA p x with y | y
    · exact n y
    · rw [h] at y; cases y
  · rcases b.newF p o h with x | x | x
    · exact a.newF p o x
    · exact .inr (a.newA p x)
    · exact .inr (hn p x)
  · rcases b.newA p h with x | x
    · exact a.newA p x
    · exact hn p x
/-- less is owned at the end, more at the start -/
theorem Step.weak (a : Step F H A F' H' A') (h1 : ∀ p, A p → B p) (h2 : ∀ p, C p → A' p) : Step F H B F' H' C :=
  ⟨fun p o n h => a.keep p o (fun x => n (h1 p x)) h, a.sub, fun p o h => (a.newF p o h).elim .inl fun x => .inr (x.elim (fun y => .inl (h1 p y)) .inr), fun p h => (a.newA p (h2 p h)).elim (fun y => .inl (h1 p y)) .inr⟩
/-- what is held apart from A stays -/
theorem Step.frame (a : Step F H A F' H' A') (g : Good F H B) (d : Dis A B) : Good F' H' B ∧ Dis A' B ∧ ∀ p o, B p → H p = some o → H' p = some o := by
  refine ⟨fun p x => ⟨?_, ?_⟩, fun p x y => ?_, fun p o x h => a.keep p o (fun y => d p y x) h⟩
  · cases q : F' p with
    | none => rfl
    | some o =>
      rcases a.newF p o q with y | y | y
      · rw [(g p x).1] at y; cases y
      · exact absurd x (d p y)
      · exact absurd y (g p x).2
  · intro e
    cases q : H p with
    | none => exact (g p x).2 q
    | some o =>
      rw [a.keep p o (fun y => d p y x) q] at e; cases e
  · rcases a.newA p x with z | z
    · exact d p z y
    · exact (g p y).2 z
theorem Good.mono (g : Good F H A) (h : ∀ p, B p → A p) : Good F H B := fun p x => g p (h p x)
theorem Good.un (g : Good F H A) (h : Good F H B) : Good F H (Un2 A B) := fun p x => x.elim (g p) (h p)
theorem Good.a0 : Good F H A0 := fun _ x => x.elim

theorem EnvO.length : ∀ {σ : St} {η : Env} {A : AP}, EnvO K mg F H σ η A → σ.length = η.length
  | _, _, _, .nil => rfl
  | _, _, _, .skip h => congrArg (· + 1) h.length
  | _, _, _, .cons _ h _ _ _ => congrArg (· + 1) h.length
theorem EnvO.mono (s : Same F F') : ∀ {σ : St} {η : Env} {A A' : AP}, EnvO K mg F H σ η A → (∀ p o, A p → H p = some o → H' p = some o) → (∀ p, A p → A' p) → EnvO K mg F' H' σ η A'
  | _, _, _, _, .nil, _, _ => .nil
  | _, _, _, _, .skip h, k, m => .skip (h.mono s k m)
  | _, _, _, _, .cons h1 h2 h3 h4 h5, k, m => .cons (Own.mono s _ _ _ _ h1 (fun p o x => k p o (h4 p x)) fun _ x => x) (h2.mono s (fun p o x => k p o (h5 p x)) fun _ x => x) h3 (fun p x => m p (h4 p x)) fun p x => m p (h5 p x)
/-- the i-th slot taken out -/
theorem EnvO.take : ∀ {σ : St} {η : Env} {A : AP} {i : Nat} {t : T}, EnvO K mg F H σ η A → η[i]? = some (some t) →
    ∃ (v : V) (B C : AP), σ[i]? = some (some v) ∧ Own K mg F H v t B ∧ EnvO K mg F H σ (η.set i none) C ∧ Dis B C ∧ (∀ p, B p → A p) ∧ (∀ p, C p → A p)
  | _, _, _, i, t, .nil, e => by simp at e
  | _, _, _, 0, t, .skip h, e => by simp at e
  | _, _, _, i + 1, t, .skip h, e => by
    obtain ⟨v, B, C, h1, h2, h3, h4⟩ := h.take (i := i) (t := t) (by simpa using e)
    exact ⟨v, B, C, by simpa using h1, h2, .skip h3, h4⟩
  | _, _, _, 0, t, .cons h1 h2 h3 h4 h5, e => by
    simp at e
    subst e
    exact ⟨_, _, _, rfl, h1, .skip h2, h3, h4, h5⟩
  | _, _, A, i + 1, t, .cons (B := D) h1 h2 h3 h4 h5, e => by
    obtain ⟨v, B, C, k1, k2, k3, k4, k5, k6⟩ := h2.take (i := i) (t := t) (by simpa using e)
    refine ⟨v, B, Un2 D C, by simpa using k1, k2, .cons h1 k3 (fun p x y => h3 p x (k6 p y)) (fun p x => .inl x) (fun p x => .inr x), fun p x y => ?_, fun p x => h5 p (k5 p x), fun p x => x.elim (h4 p) fun y => h5 p (k6 p y)⟩
    rcases y with y | y
    · exact h3 p y (k5 p x)
    · exact k4 p x y
theorem EnvO.drop : ∀ {σ : St} {η : Env} {A : AP} (i : Nat), EnvO K mg F H σ η A → EnvO K mg F H σ (η.set i none) A
  | _, _, _, i, .nil => by simpa using EnvO.nil
  | _, _, _, 0, .skip h => .skip h
  | _, _, _, i + 1, .skip h => .skip (h.drop i)
  | _, _, _, 0, .cons h1 h2 h3 h4 h5 => .skip (h2.mono (fun _ _ x => x) (fun _ _ _ x => x) h5)
  | _, _, _, i + 1, .cons h1 h2 h3 h4 h5 => .cons h1 (h2.drop i) h3 h4 h5
/-- a thing put into the i-th slot -/
theorem EnvO.put : ∀ {σ : St} {η : Env} {A B D : AP} {i : Nat} {t : T} {v : V}, EnvO K mg F H σ (η.set i none) A → i < η.length → Own K mg F H v t B → Dis B A → (∀ p, B p → D p) → (∀ p, A p → D p) → EnvO K mg F H (σ.set i (some v)) (η.set i (some t)) D
  | σ, [], _, _, _, i, t, v, h, hi, ho, d, m1, m2 => absurd hi (Nat.not_lt_zero _)
  | σ, x :: η, A, B, D, 0, t, v, h, hi, ho, d, m1, m2 => by
    cases h with
    | skip h => exact .cons ho h d m1 m2
  | σ, none :: η, A, B, D, i + 1, t, v, h, hi, ho, d, m1, m2 => by
    cases h with
    | skip h => exact .skip (EnvO.put h (by simpa using hi) ho d m1 m2)
  | σ, some u :: η, A, B, D, i + 1, t, v, h, hi, ho, d, m1, m2 => by
    cases h with
    | cons h1 h2 h3 h4 h5 =>
      rename_i v0 σ0 B0 C0
      refine .cons h1 (EnvO.put (D := Un2 B C0) h2 (by simpa using hi) ho (fun p x y => d p x (h5 p y)) (fun p x => .inl x) fun p x => .inr x) (fun p x y => ?_) (fun p x => m2 p (h4 p x)) fun p x => x.elim (m1 p) fun y => m2 p (h5 p y)
      rcases y with y | y
      · exact d p y (h4 p x)
      · exact h3 p x y
theorem set_self {α : Type} : ∀ {l : List α} {i : Nat} {x : α}, l[i]? = some x → l.set i x = l
  | [], _, _, _ => rfl
  | y :: l, 0, x, e => by simp at e; subst e; rfl
  | y :: l, i + 1, x, e => by
    show y :: l.set i x = y :: l
    rw [set_self (by simpa using e)]
/-- the same value put back, with another tree -/
theorem EnvO.back {σ : St} {η : Env} {A B D : AP} {i : Nat} {t : T} {v : V} (h : EnvO K mg F H σ (η.set i none) A) (e : σ[i]? = some (some v)) (ho : Own K mg F H v t B) (d : Dis B A) (m1 : ∀ p, B p → D p) (m2 : ∀ p, A p → D p) : EnvO K mg F H σ (η.set i (some t)) D := by
  have hl := h.length
  have hi : i < σ.length := (List.getElem?_eq_some_iff.mp e).1
  have hi' : i < η.length := by simpa [hl] using hi
  have := EnvO.put h hi' ho d m1 m2
  rwa [set_self e] at this
/-- the footprint frozen -/
noncomputable def frzF (F H : Hp) (A : AP) : Hp := fun p => open Classical in if A p then H p else F p
theorem frzF_same (s : Same F H) : Same F (frzF F H A) := fun p o h => by
  unfold frzF
  split
  · exact s p o h
  · exact h
theorem frzF_sub (s : Same F H) : Same (frzF F H A) H := fun p o h => by
  unfold frzF at h
  split at h
  · exact h
  · exact s p o h
theorem frzF_in {p : Addr} (h : A p) : frzF F H A p = H p := by unfold frzF; rw [if_pos h]
theorem frzF_out {p : Addr} (h : ¬ A p) : frzF F H A p = F p := by unfold frzF; rw [if_neg h]
/-- the owned B is frozen, C stays owned -/
theorem frz_step (s : Same F H) (gC : Good F H C) (d : Dis B C) : Good (frzF F H B) H C ∧ Step F H (Un2 B C) (frzF F H B) H C := by
  refine ⟨fun p x => ⟨by rw [frzF_out fun y => d p y x]; exact (gC p x).1, (gC p x).2⟩, ⟨fun _ _ _ h => h, frzF_same s, fun p o h => ?_, fun p h => .inl (.inr h)⟩⟩
  by_cases hb : B p
  · exact .inr (.inl (.inl hb))
  · rw [frzF_out hb] at h; exact .inl h
end

/-! ### what a piece of code gives -/
inductive Res (α : Type) where
  | ok (a : α) (η : Env)
  | exc (c : Str) (ks : List Str) (fs : List T) (η : Env)
  | bad
def Res.bind {α β : Type} (r : Res α) (g : α → Env → Res β) : Res β :=
  match r with
  | .ok a η => g a η
  | .exc c ks fs η => .exc c ks fs η
  | .bad => .bad
abbrev XW := Value → Option Addr → St → Hp → Prop
abbrev Fe (α : Type) := Env → Res α

section
variable (K : PySem.W.Frag) (mg : Str → Option Value)
/-- a raised exception of the own class c: its class, its dict -/
def ExcR (c : Str) (ks : List Str) (fs : List T) (F H : Hp) (cls : Value) (d : Option Addr) : Prop :=
  mg c = some cls ∧ (match d with
    | none => ks = [] ∧ fs = []
    | some a => ks ≠ [] ∧ ∃ kvs : List (Str × V), H a = some (.xd kvs) ∧ F a = none ∧ kvs.map (·.1) = ks ∧ Paired (Rep K mg F) (kvs.map (·.2)) fs)
/-- behind the code: ν what the machine has, α what we tell, R how they hang together -/
def After {α ν : Type} (R : St → Hp → Hp → ν → α → AP → Prop) (W : XW) (F H : Hp) (A : AP) (σ : St) (r : Res α) (Q : ν → Hp → Prop) : Prop :=
  match r with
  | .ok a η' => ∀ F' H' A' B v, Sit K mg F' H' η' σ A' → R σ F' H' v a B → Good F' H' B → Dis A' B → Step F H A F' H' (Un2 A' B) → Q v H'
  | .exc c ks fs η' => ∀ F' H' A' cls d, Sit K mg F' H' η' σ A' → Step F H A F' H' A' → ExcR K mg c ks fs F' H' cls d → W cls d σ H'
  | .bad => False
def tG {α ν : Type} (R : St → Hp → Hp → ν → α → AP → Prop) (W : XW) (f : Fe α) : St → Hp → (ν → Hp → Prop) → Prop :=
  fun σ H Q => ∃ F η A, Sit K mg F H η σ A ∧ After K mg R W F H A σ (f η) Q
/-- values -/
def RO : St → Hp → Hp → V → T → AP → Prop := fun _ F H v t B => Own K mg F H v t B
def RB : St → Hp → Hp → Bool → Bool → AP → Prop := fun _ _ _ b c _ => b = c
/-- arguments: a name's (by its slot), or a value -/
inductive RA (σ : St) (F H : Hp) : List V → List (Sum Nat T) → AP → Prop
  | nil {A : AP} : RA σ F H [] [] A
  | slot {i : Nat} {v : V} {vs : List V} {as : List (Sum Nat T)} {A : AP} : σ[i]? = some (some v) → RA σ F H vs as A → RA σ F H (v :: vs) (.inl i :: as) A
  | val {t : T} {v : V} {vs : List V} {as : List (Sum Nat T)} {A B C : AP} : Own K mg F H v t B → RA σ F H vs as C → Dis B C → (∀ p, B p → A p) → (∀ p, C p → A p) → RA σ F H (v :: vs) (.inr t :: as) A
end
abbrev tE (X : Cx) (W : XW) (f : Fe T) : TE := tG X.K X.mg (RO X.K X.mg) W f
abbrev tT (X : Cx) (W : XW) (f : Fe Bool) : TT := tG X.K X.mg RB W f
abbrev tA (X : Cx) (W : XW) (f : Fe (List (Sum Nat T))) : TA := tG X.K X.mg (RA X.K X.mg) W f
abbrev EE (X : Cx) (W : XW) (e : Expr) (f : Fe T) : Prop := PE X e (tE X W f)
abbrev ET (X : Cx) (W : XW) (e : Expr) (f : Fe Bool) : Prop := PT X e (tT X W f)
abbrev EA (X : Cx) (W : XW) (es : List Expr) (f : Fe (List (Sum Nat T))) : Prop := PA X es (tA X W f)

theorem PE.imp {X : Cx} {e : Expr} {t t' : TE} (h : PE X e t) (i : ∀ σ H Q, t' σ H Q → t σ H Q) : PE X e t' := ⟨fun pins s σ H Q I q => h.run pins s σ H Q I (i σ H Q q)⟩
theorem PT.imp {X : Cx} {e : Expr} {t t' : TT} (h : PT X e t) (i : ∀ σ H Q, t' σ H Q → t σ H Q) : PT X e t' := ⟨fun pins s σ H Q I q => h.run pins s σ H Q I (i σ H Q q)⟩
theorem PA.imp {X : Cx} {e : List Expr} {t t' : TA} (h : PA X e t) (i : ∀ σ H Q, t' σ H Q → t σ H Q) : PA X e t' := ⟨fun pos pins s σ H Q I q => h.run pos pins s σ H Q I (i σ H Q q)⟩
theorem PS.imp {X : Cx} {e : Stmt} {t t' : TS} (h : PS X e t) (i : ∀ D σ H, t' D σ H → t D σ H) : PS X e t' := ⟨fun pins s σ H D I q => h.run pins s σ H D I (i D σ H q)⟩
theorem PSs.imp {X : Cx} {e : List Stmt} {t t' : TS} (h : PSs X e t) (i : ∀ D σ H, t' D σ H → t D σ H) : PSs X e t' := ⟨fun pins s σ H D I q => h.run pins s σ H D I (i D σ H q)⟩

section
variable {K : PySem.W.Frag} {mg : Str → Option Value} {α β ν μ : Type} {R : St → Hp → Hp → ν → α → AP → Prop} {R' : St → Hp → Hp → μ → β → AP → Prop} {W : XW}
theorem After.imp {F H : Hp} {A : AP} {σ : St} {r : Res α} {Q Q' : ν → Hp → Prop} (h : After K mg R W F H A σ r Q)
    (k : ∀ a η', r = .ok a η' → ∀ F' H' A' B v, Sit K mg F' H' η' σ A' → R σ F' H' v a B → Good F' H' B → Dis A' B → Step F H A F' H' (Un2 A' B) → Q v H' → Q' v H') : After K mg R W F H A σ r Q' := by
  cases r with
  | ok a η' => exact fun F' H' A' B v s q g d p => k a η' rfl F' H' A' B v s q g d p (h F' H' A' B v s q g d p)
  | exc c ks fs η' => exact h
  | bad => exact h
/-- first f, then g, the first one's value being held (with what it owns) -/
theorem tG.seq {σ : St} {H : Hp} {f : Fe α} {g : α → Fe β} {Q : μ → Hp → Prop} {P : ν → Hp → Prop} (h : tG K mg R' W (fun η => (f η).bind g) σ H Q)
    (k : ∀ F1 η1 A1 B1 a v H1 F A, Sit K mg F1 H1 η1 σ A1 → R σ F1 H1 v a B1 → Good F1 H1 B1 → Dis A1 B1 → Step F H A F1 H1 (Un2 A1 B1) → After K mg R' W F H A σ (g a η1) Q → P v H1) : tG K mg R W f σ H P := by
  obtain ⟨F, η, A, S, h⟩ := h
  refine ⟨F, η, A, S, ?_⟩
  have h : After K mg R' W F H A σ ((f η).bind g) Q := h
  cases e : f η with
  | ok a η1 =>
    rw [e] at h
    exact fun F1 H1 A1 B1 v s r gd d p => k F1 η1 A1 B1 a v H1 F A s r gd d p h
  | exc c ks fs η' =>
    rw [e] at h
    exact h
  | bad =>
    rw [e] at h
    exact h
end

/-! ### constants, names -/
def eC (t : T) : Fe T := fun η => .ok t η
def eVar (i : Nat) : Fe T := fun η => match η[i]? with
  | some (some t) => .ok t.frz (η.set i (some t.frz))
  | _ => .bad
def eMove (i : Nat) : Fe T := fun η => match η[i]? with
  | some (some t) => .ok t (η.set i none)
  | _ => .bad
section
variable {X : Cx} {W : XW} {pos : Pos}
theorem const_ok {e : Expr} {v : V} {t : T} (h : PE X e (tC v)) (r : ∀ F H B, Own X.K X.mg F H v t B) : EE X W e (eC t) :=
  PE.imp h fun σ H Q ⟨F, η, A, S, q⟩ => q F H A A0 v S (r F H A0) Good.a0 (fun _ _ x => x) ⟨fun _ _ _ h => h, fun _ _ h => h, fun _ _ h => .inl h, fun p h => .inl (h.elim id fun x => x.elim)⟩
theorem ev_int {i j pos} : EE X W (.Constant (.int i) j pos) (eC (.int i)) := const_ok pe_int fun _ _ _ => .frz (.int i)
theorem ev_bl {b j pos} : EE X W (.Constant (.bool b) j pos) (eC (.bl b)) := const_ok pe_bl fun _ _ _ => .frz (.bl b)
theorem ev_non {j pos} : EE X W (.Constant .none j pos) (eC .non) := const_ok pe_non fun _ _ _ => .frz .non
theorem ev_str {x j pos} : EE X W (.Constant (.str x) j pos) (eC (.str x)) := const_ok pe_str fun _ _ _ => .frz (.str x)
theorem ev_globI {x : Str} {i : Int} {t : Tok} (hg : Gl X x) (hm : X.mg x = some (.int i t)) (hd : (x == ("__debug__" : Str)) = false := by decide) : EE X W (.Name x pos) (eC (.int i)) :=
  const_ok (pe_glob hg hm (v := .int i) ⟨t, rfl⟩ hd) fun _ _ _ => .frz (.int i)
theorem tVar_ok {i : Nat} {σ : St} {H : Hp} {Q : VK} (h : tE X W (eVar i) σ H Q) : tVar i σ H Q := by
  obtain ⟨F, η, A, S, q⟩ := h
  unfold eVar at q
  cases e : η[i]? with
  | none => rw [e] at q; exact q.elim
  | some o =>
    cases o with
    | none => rw [e] at q; exact q.elim
    | some t =>
      rw [e] at q
      obtain ⟨v, B, C, h1, h2, h3, h4, h5, h6⟩ := S.env.take e
      obtain ⟨g, st⟩ := frz_step S.sub (S.good.mono h6) h4
      have hr := Own.frz_in (frzF_same S.sub) t v B h2 fun p x => frzF_in x
      have hi : i < η.length := (List.getElem?_eq_some_iff.mp e).1
      refine ⟨v, h1, q (frzF F H B) H C A0 v ⟨frzF_sub S.sub, g, ?_⟩ (.frz hr) Good.a0 (fun _ _ x => x) (st.weak (fun p x => x.elim (h5 p) (h6 p)) fun p x => x.elim id fun y => y.elim)⟩
      exact EnvO.back (h3.mono (frzF_same S.sub) (fun _ _ _ x => x) fun _ x => x) h1 (.frz (A := A0) hr) (fun _ x => x.elim) (fun _ x => x.elim) fun _ x => x
theorem ev_var (i : Nat) {x : Str} (h : PE X (.Name x pos) (tVar i)) : EE X W (.Name x pos) (eVar i) := PE.imp h fun σ H Q q => tVar_ok q
theorem ev_move (i : Nat) {x : Str} (h : PE X (.Name x pos) (tVar i)) : EE X W (.Name x pos) (eMove i) := PE.imp h fun σ H Q ⟨F, η, A, S, q⟩ => by
  unfold eMove at q
  cases e : η[i]? with
  | none => rw [e] at q; exact q.elim
  | some o =>
    cases o with
    | none => rw [e] at q; exact q.elim
    | some t =>
      rw [e] at q
      obtain ⟨v, B, C, h1, h2, h3, h4, h5, h6⟩ := S.env.take e
      exact ⟨v, h1, q F H C B v ⟨S.sub, S.good.mono h6, h3⟩ h2 (S.good.mono h5) (fun p x y => h4 p y x) (Step.refl.weak (fun _ x => x) fun p x => x.elim (h6 p) (h5 p))⟩
end

/-! ### arguments -/
def aNil : Fe (List (Sum Nat T)) := fun η => .ok [] η
def aVal (f : Fe T) (r : Fe (List (Sum Nat T))) : Fe (List (Sum Nat T)) := fun η => (f η).bind fun t η1 => (r η1).bind fun as η2 => .ok (.inr t :: as) η2
def aSlot (i : Nat) (r : Fe (List (Sum Nat T))) : Fe (List (Sum Nat T)) := fun η => match η[i]? with
  | some (some _) => (r η).bind fun as η2 => .ok (.inl i :: as) η2
  | _ => .bad
section
variable {X : Cx} {W : XW} {pos : Pos} {e : Expr} {es : List Expr} {f : Fe T} {r : Fe (List (Sum Nat T))}
theorem RA.mono {K : PySem.W.Frag} {mg : Str → Option Value} {σ : St} {F F' H H' : Hp} (s : Same F F') : ∀ {vs : List V} {as : List (Sum Nat T)} {A A' : AP}, RA K mg σ F H vs as A → (∀ p o, A p → H p = some o → H' p = some o) → (∀ p, A p → A' p) → RA K mg σ F' H' vs as A'
  | _, _, _, _, .nil, _, _ => .nil
  | _, _, _, _, .slot e h, k, m => .slot e (h.mono s k m)
  | _, _, _, _, .val h1 h2 h3 h4 h5, k, m => .val (Own.mono s _ _ _ _ h1 (fun p o x => k p o (h4 p x)) fun _ x => x) (h2.mono s (fun p o x => k p o (h5 p x)) fun _ x => x) h3 (fun p x => m p (h4 p x)) fun p x => m p (h5 p x)
theorem ea_nil : EA X W [] aNil := PA.imp pa_nil fun σ H Q ⟨F, η, A, S, q⟩ => q F H A A0 [] S .nil Good.a0 (fun _ _ x => x) (Step.refl.weak (fun _ x => x) fun p x => x.elim id fun y => y.elim)
/-- a value, then the others -/
theorem seq_val {K : PySem.W.Frag} {mg : Str → Option Value} {σ : St} {H : Hp} {Q : List V → Hp → Prop} (h : tG K mg (RA K mg) W (aVal f r) σ H Q) :
    tG K mg (RO K mg) W f σ H fun x H1 => tG K mg (RA K mg) W r σ H1 fun xs H2 => Q (x :: xs) H2 := by
  refine tG.seq h fun F1 η1 A1 B1 t v H1 F A S1 ro g1 d1 st1 k => ?_
  refine ⟨F1, η1, A1, S1, ?_⟩
  cases e2 : r η1 with
  | ok as η2 =>
    rw [e2] at k
    intro F2 H2 A2 B2 vs S2 ra g2 d2 st2
    obtain ⟨gB, dB, kB⟩ := st2.frame g1 d1
    refine k F2 H2 A2 (Un2 B1 B2) (v :: vs) S2 (.val (Own.mono st2.sub t v B1 B1 ro kB fun _ x => x) ra (fun p x y => dB p (.inr y) x) (fun p x => .inl x) fun p x => .inr x) (gB.un g2) (fun p x y => y.elim (dB p (.inl x)) (d2 p x)) ?_
    have st2' : Step F1 H1 (Un2 A1 B1) F2 H2 (Un2 A2 (Un2 B1 B2)) := by
      refine ⟨fun p o n x => st2.keep p o (fun y => n (.inl y)) x, st2.sub, fun p o x => (st2.newF p o x).elim .inl fun y => .inr (y.elim (fun z => .inl (.inl z)) .inr), fun p x => ?_⟩
      rcases x with x | x | x
      · exact (st2.newA p (.inl x)).elim (fun z => .inl (.inl z)) .inr
      · exact .inl (.inr x)
      · exact (st2.newA p (.inr x)).elim (fun z => .inl (.inl z)) .inr
    exact st1.trans st2'
  | exc c ks fs η2 =>
    rw [e2] at k
    intro F2 H2 A2 cls d S2 st2 ex
    refine k F2 H2 A2 cls d S2 ?_ ex
    exact st1.trans ⟨fun p o n x => st2.keep p o (fun y => n (.inl y)) x, st2.sub, fun p o x => (st2.newF p o x).elim .inl fun y => .inr (y.elim (fun z => .inl (.inl z)) .inr), fun p x => (st2.newA p x).elim (fun z => .inl (.inl z)) .inr⟩
  | bad =>
    rw [e2] at k
    exact k
theorem ea_val (h : EE X W e f) (hr : EA X W es r) (hs : starEach (e :: es) X.env = (false, eval e X.env) :: starEach es X.env := by rfl) : EA X W (e :: es) (aVal f r) :=
  PA.imp (pa_cons h hr hs) fun _ _ _ q => seq_val q
theorem seq_slot {K : PySem.W.Frag} {mg : Str → Option Value} {i : Nat} {σ : St} {H : Hp} {Q : List V → Hp → Prop} (h : tG K mg (RA K mg) W (aSlot i r) σ H Q) :
    tVar i σ H fun x H1 => tG K mg (RA K mg) W r σ H1 fun xs H2 => Q (x :: xs) H2 := by
  obtain ⟨F, η, A, S, k⟩ := h
  unfold aSlot at k
  cases e : η[i]? with
  | none => rw [e] at k; exact k.elim
  | some o =>
    cases o with
    | none => rw [e] at k; exact k.elim
    | some t =>
      rw [e] at k
      obtain ⟨v, B, C, h1, _⟩ := S.env.take e
      refine ⟨v, h1, F, η, A, S, ?_⟩
      cases e2 : r η with
      | ok as η2 =>
        rw [e2] at k
        exact fun F2 H2 A2 B2 vs S2 ra g2 d2 st2 => k F2 H2 A2 B2 (v :: vs) S2 (.slot h1 ra) g2 d2 st2
      | exc c ks fs η2 => rw [e2] at k; exact k
      | bad => rw [e2] at k; exact k
theorem ea_slot (i : Nat) {x : Str} (h : PE X (.Name x pos) (tVar i)) (hr : EA X W es r) (hs : starEach (.Name x pos :: es) X.env = (false, eval (.Name x pos) X.env) :: starEach es X.env := by rfl) : EA X W (.Name x pos :: es) (aSlot i r) :=
  PA.imp (pa_cons h hr hs) fun _ _ _ q => seq_slot q
end

/-- the trees of the arguments; the slots' ones are taken out -/
def resolve : List (Sum Nat T) → Env → Option (List T × Env)
  | [], η => some ([], η)
  | .inr t :: as, η => (resolve as η).map fun p => (t :: p.1, p.2)
  | .inl i :: as, η => match η[i]? with
    | some (some t) => (resolve as (η.set i none)).map fun p => (t :: p.1, p.2)
    | _ => none
/-- and put back -/
def putBack : List (Sum Nat T) → List T → Env → Env
  | .inl i :: as, t :: ts, η => (putBack as ts η).set i (some t)
  | .inr _ :: as, _ :: ts, η => putBack as ts η
  | _, _, η => η
section
variable {K : PySem.W.Frag} {mg : Str → Option Value} {F H F' H' : Hp} {σ : St}
theorem resolve_ok : ∀ {as : List (Sum Nat T)} {vs : List V} {η η' : Env} {A B : AP} {ts : List T}, EnvO K mg F H σ η A → RA K mg σ F H vs as B → Dis A B → resolve as η = some (ts, η') →
    ∃ A' B', EnvO K mg F H σ η' A' ∧ OwnL K mg F H vs ts B' ∧ Dis A' B' ∧ (∀ p, A' p → A p) ∧ (∀ p, B' p → A p ∨ B p)
  | [], _, η, η', A, B, ts, h, .nil, d, e => by
    simp [resolve] at e
    obtain ⟨rfl, rfl⟩ := e
    exact ⟨A, A0, h, .nil, fun _ _ x => x, fun _ x => x, fun _ x => x.elim⟩
  | .inr t :: as, _, η, η', A, B, ts, h, .val (B := B1) (C := B2) h1 h2 h3 h4 h5, d, e => by
    unfold resolve at e
    cases q : resolve as η with
    | none => rw [q] at e; simp at e
    | some p =>
      rw [q] at e
      simp at e
      obtain ⟨rfl, rfl⟩ := e
      obtain ⟨A', B', k1, k2, k3, k4, k5⟩ := resolve_ok h h2 (fun p x y => d p x (h5 p y)) q
      refine ⟨A', Un2 B1 B', k1, .cons h1 k2 (fun p x y => ?_) (fun _ x => .inl x) (fun _ x => .inr x), fun p x y => ?_, k4, fun p x => ?_⟩
      · exact (k5 p y).elim (fun z => d p z (h4 p x)) (h3 p x)
      · exact y.elim (fun z => d p (k4 p x) (h4 p z)) (k3 p x)
      · exact x.elim (fun z => .inr (h4 p z)) fun z => (k5 p z).elim .inl fun w => .inr (h5 p w)
  | .inl i :: as, _, η, η', A, B, ts, h, .slot hs h2, d, e => by
    unfold resolve at e
    cases q0 : η[i]? with
    | none => rw [q0] at e; simp at e
    | some o =>
      cases o with
      | none => rw [q0] at e; simp at e
      | some t =>
        rw [q0] at e
        simp only at e
        cases q : resolve as (η.set i none) with
        | none => rw [q] at e; simp at e
        | some p =>
          rw [q] at e
          simp at e
          obtain ⟨rfl, rfl⟩ := e
          obtain ⟨v, Bi, C, e1, o1, n1, d1, m1, m2⟩ := h.take q0
          rw [hs] at e1
          cases e1
          obtain ⟨A', B', k1, k2, k3, k4, k5⟩ := resolve_ok n1 h2 (fun p x y => d p (m2 p x) y) q
          refine ⟨A', Un2 Bi B', k1, .cons o1 k2 (fun p x y => ?_) (fun _ x => .inl x) (fun _ x => .inr x), fun p x y => ?_, fun p x => m2 p (k4 p x), fun p x => ?_⟩
          · exact (k5 p y).elim (d1 p x) fun z => d p (m1 p x) z
          · exact y.elim (fun z => d1 p z (k4 p x)) (k3 p x)
          · exact x.elim (fun z => .inl (m1 p z)) fun z => (k5 p z).elim (fun w => .inl (m2 p w)) .inr
/-- a slot taken out stays taken out while the others are put back: the trees' places differ -/
theorem putBack_ok : ∀ {as : List (Sum Nat T)} {vs : List V} {η : Env} {A B D : AP} {ts : List T}, EnvO K mg F H σ η A → (∀ i, Sum.inl i ∈ as → ∃ v, σ[i]? = some (some v)) → (∀ (j i : Nat), as[j]? = some (.inl i) → ∃ v, vs[j]? = some v ∧ σ[i]? = some (some v)) → OwnL K mg F H vs ts B → Dis A B → (∀ p, A p → D p) → (∀ p, B p → D p) → EnvO K mg F H σ (putBack as ts η) D
  | [], vs, η, A, B, D, ts, h, _, _, _, _, m, _ => by
    unfold putBack
    exact h.mono (fun _ _ x => x) (fun _ _ _ x => x) m
  | .inr _ :: as, _, η, A, B, D, _, h, _, _, .nil, _, m, _ => by
    unfold putBack
    exact h.mono (fun _ _ x => x) (fun _ _ _ x => x) m
  | .inl _ :: as, _, η, A, B, D, _, h, _, _, .nil, _, m, _ => by
    unfold putBack
    exact h.mono (fun _ _ x => x) (fun _ _ _ x => x) m
  | .inr u :: as, v :: vs, η, A, B, D, t :: ts, h, ks, kv, .cons h1 h2 h3 h4 h5, d, m1, m2 => by
    show EnvO K mg F H σ (putBack as ts η) D
    exact putBack_ok h (fun i hi => ks i (List.mem_cons_of_mem _ hi)) (fun j i e => kv (j + 1) i (by simpa using e)) h2 (fun p x y => d p x (h5 p y)) m1 fun p x => m2 p (h5 p x)
  | .inl i :: as, v :: vs, η, A, B, D, t :: ts, h, ks, kv, .cons (B := B1) (C := C1) h1 h2 h3 h4 h5, d, m1, m2 => by
    show EnvO K mg F H σ ((putBack as ts η).set i (some t)) D
    have ih := putBack_ok (D := Un2 A C1) h (fun i hi => ks i (List.mem_cons_of_mem _ hi)) (fun j i e => kv (j + 1) i (by simpa using e)) h2 (fun p x y => d p x (h5 p y)) (fun p x => .inl x) fun p x => .inr x
    obtain ⟨v', e1, e2⟩ := kv 0 i rfl
    simp at e1
    subst e1
    exact EnvO.back (ih.drop i) e2 h1 (fun p x y => y.elim (fun z => d p z (h4 p x)) (h3 p x)) (fun p x => m2 p (h4 p x)) fun p x => x.elim (m1 p) fun y => m2 p (h5 p y)
theorem RA.slots : ∀ {as : List (Sum Nat T)} {vs : List V} {B : AP}, RA K mg σ F H vs as B → ∀ (j i : Nat), as[j]? = some (.inl i) → ∃ v, vs[j]? = some v ∧ σ[i]? = some (some v)
  | _, _, _, .nil, j, i, e => by simp at e
  | _, _, _, .slot e0 h, 0, i, e => by
    simp at e
    subst e
    exact ⟨_, rfl, e0⟩
  | _, _, _, .slot e0 h, j + 1, i, e => by
    obtain ⟨v, e1, e2⟩ := h.slots j i (by simpa using e)
    exact ⟨v, by simpa using e1, e2⟩
  | _, _, _, .val _ h _ _ _, 0, i, e => by simp at e
  | _, _, _, .val _ h _ _ _, j + 1, i, e => by
    obtain ⟨v, e1, e2⟩ := h.slots j i (by simpa using e)
    exact ⟨v, by simpa using e1, e2⟩
end

/-! ### operations on values -/
theorem Step.wide {F F' H H' : Hp} {A A' B C : AP} (a : Step F H A F' H' A') (h1 : ∀ p, A p → B p) (h2 : ∀ p, C p → A' p ∨ B p) : Step F H B F' H' C :=
  ⟨fun p o n h => a.keep p o (fun x => n (h1 p x)) h, a.sub, fun p o h => (a.newF p o h).elim .inl fun x => .inr (x.elim (fun y => .inl (h1 p y)) .inr), fun p h => (h2 p h).elim (fun x => (a.newA p x).elim (fun y => .inl (h1 p y)) .inr) .inl⟩
abbrev Op := List T → Option (T × List T)
def OpS (K : PySem.W.Frag) (mg : Str → Option Value) (op : Op) (r : List V → Hp → VK → Prop) : Prop :=
  ∀ F H vs ts B t ts', Same F H → Good F H B → OwnL K mg F H vs ts B → op ts = some (t, ts') → ∀ Q : VK,
    (∀ F' H' B' C v, Same F' H' → Good F' H' B' → Good F' H' C → OwnL K mg F' H' vs ts' B' → Own K mg F' H' v t C → Dis B' C → Step F H B F' H' (Un2 B' C) → Q v H') → r vs H Q
/-- an argument: a name's slot, or a value -/
inductive AK where
  | s (i : Nat)
  | v (f : Fe T)
def consA : AK → Fe (List (Sum Nat T)) → Fe (List (Sum Nat T))
  | .s i, r => aSlot i r
  | .v f, r => aVal f r
def argsF : List AK → Fe (List (Sum Nat T))
  | [] => aNil
  | k :: ks => consA k (argsF ks)
def tK (X : Cx) (W : XW) : AK → TE
  | .s i => tVar i
  | .v f => tE X W f
abbrev EK (X : Cx) (W : XW) (e : Expr) (k : AK) : Prop := PE X e (tK X W k)
abbrev EAs (X : Cx) (W : XW) (es : List Expr) (ks : List AK) : Prop := EA X W es (argsF ks)
def eOp (ks : List AK) (op : Op) : Fe T := fun η => (argsF ks η).bind fun as η1 => match resolve as η1 with
  | some (ts, η2) => match op ts with
    | some (t, ts') => .ok t (putBack as ts' η2)
    | none => .bad
  | none => .bad
section
variable {X : Cx} {W : XW} {pos : Pos} {e a b o : Expr} {es : List Expr} {k ka kb : AK} {ks : List AK} {op : Op}
theorem ek_s (i : Nat) {x : Str} (h : PE X (.Name x pos) (tVar i)) : EK X W (.Name x pos) (.s i) := h
theorem ek_v {f : Fe T} (h : EE X W e f) : EK X W e (.v f) := h
theorem seq_K {r : Fe (List (Sum Nat T))} {σ : St} {H : Hp} {Q : List V → Hp → Prop} (h : tA X W (consA k r) σ H Q) : tK X W k σ H fun x H1 => tA X W r σ H1 fun xs H2 => Q (x :: xs) H2 := by
  cases k with
  | s i => exact seq_slot h
  | v f => exact seq_val h
theorem eas_nil : EAs X W [] [] := ea_nil
theorem eas_cons (h : EK X W e k) (hr : EAs X W es ks) (hs : starEach (e :: es) X.env = (false, eval e X.env) :: starEach es X.env := by rfl) : EAs X W (e :: es) (k :: ks) :=
  PA.imp (pa_cons h hr hs) fun _ _ _ q => seq_K q
theorem tA_nil {σ : St} {H : Hp} {Q : List V → Hp → Prop} (h : tA X W aNil σ H Q) : Q [] H := by
  obtain ⟨F, η, A, S, q⟩ := h
  exact q F H A A0 [] S .nil Good.a0 (fun _ _ x => x) (Step.refl.weak (fun _ x => x) fun p x => x.elim id fun y => y.elim)
theorem args2 {σ : St} {H : Hp} {Q : List V → Hp → Prop} (h : tA X W (argsF [ka, kb]) σ H Q) : tK X W ka σ H fun x H1 => tK X W kb σ H1 fun y H2 => Q [x, y] H2 := by
  have q := seq_K h
  have mono : ∀ (k : AK) σ H (Q Q' : VK), tK X W k σ H Q → (∀ v H, Q v H → Q' v H) → tK X W k σ H Q' := fun k σ H Q Q' h i => by
    cases k with
    | s n =>
      obtain ⟨v, e, h⟩ := h
      exact ⟨v, e, i _ _ h⟩
    | v f =>
      obtain ⟨F, η, A, S, h⟩ := h
      refine ⟨F, η, A, S, ?_⟩
      exact h.imp fun _ _ _ _ _ _ _ v _ _ _ _ _ q => i v _ q
  refine mono ka _ _ _ _ q fun v H1 h1 => ?_
  exact mono kb _ _ _ _ (seq_K (k := kb) (r := aNil) h1) fun v' H2 h2 => tA_nil h2
theorem args1 {σ : St} {H : Hp} {Q : List V → Hp → Prop} (h : tA X W (argsF [ka]) σ H Q) : tK X W ka σ H fun x H1 => Q [x] H1 := by
  have q := seq_K h
  cases ka with
  | s n =>
    obtain ⟨v, e, h⟩ := q
    exact ⟨v, e, tA_nil h⟩
  | v f =>
    obtain ⟨F, η, A, S, h⟩ := q
    refine ⟨F, η, A, S, ?_⟩
    exact h.imp fun _ _ _ _ _ _ _ v _ _ _ _ _ q => tA_nil q
/-- THE OPERATION behind its arguments -/
theorem op_run {r : List V → Hp → VK → Prop} (ho : OpS X.K X.mg op r) {σ : St} {H : Hp} {Q : VK} (h : tE X W (eOp ks op) σ H Q) : tA X W (argsF ks) σ H fun vs H1 => r vs H1 Q := by
  refine tG.seq h fun F1 η1 A1 B1 as vs H1 F A S1 ra g1 d1 st1 q => ?_
  cases e1 : resolve as η1 with
  | none => rw [e1] at q; exact q.elim
  | some p =>
    obtain ⟨ts, η2⟩ := p
    rw [e1] at q
    simp only at q
    cases e2 : op ts with
    | none => rw [e2] at q; exact q.elim
    | some p =>
      obtain ⟨t, ts'⟩ := p
      rw [e2] at q
      simp only at q
      obtain ⟨A', B', n1, o1, d2, m1, m2⟩ := resolve_ok S1.env ra d1 e1
      have gB : Good F1 H1 B' := (S1.good.un g1).mono m2
      have gA : Good F1 H1 A' := S1.good.mono m1
      refine ho F1 H1 vs ts B' t ts' S1.sub gB o1 e2 Q fun F' H' B'' C v s gb gc oo ov dd st => ?_
      obtain ⟨gA', dA', kA'⟩ := st.frame gA fun p x y => d2 p y x
      have n2 : EnvO X.K X.mg F' H' σ η2 A' := n1.mono st.sub (fun p o x => kA' p o x) fun _ x => x
      have n3 : EnvO X.K X.mg F' H' σ (putBack as ts' η2) (Un2 A' B'') := putBack_ok n2 (fun i hi => by
        obtain ⟨j, hj⟩ := List.getElem?_of_mem hi
        obtain ⟨w, _, z⟩ := ra.slots j i hj
        exact ⟨w, z⟩) ra.slots oo (fun p x y => dA' p (.inl y) x) (fun p x => .inl x) fun p x => .inr x
      refine q F' H' (Un2 A' B'') C v ⟨s, gA'.un gb, n3⟩ ov gc (fun p x y => x.elim (fun z => dA' p (.inr y) z) fun z => dd p z y) ?_
      exact st1.trans (st.wide (fun p x => m2 p x) fun p x => x.elim (fun y => y.elim (fun z => .inr (.inl (m1 p z))) fun z => .inl (.inl z)) fun y => .inl (.inr y))
theorem ev_bin {bo : Operator} {r : R2} (hr : OpR X (binaryOp bo) r) (ho : OpS X.K X.mg op fun vs H Q => ∃ x y, vs = [x, y] ∧ r x y H Q) (ha : EK X W a ka) (hb : EK X W b kb) : EE X W (.BinOp a bo b pos) (eOp [ka, kb] op) :=
  PE.imp (pe_op hr ha hb) fun σ H Q h => by
    have q := args2 (op_run ho h)
    have mono : ∀ (k : AK) σ H (Q Q' : VK), tK X W k σ H Q → (∀ v H, Q v H → Q' v H) → tK X W k σ H Q' := fun k σ H Q Q' h i => by
      cases k with
      | s n =>
        obtain ⟨v, e, h⟩ := h
        exact ⟨v, e, i _ _ h⟩
      | v f =>
        obtain ⟨F, η, A, S, h⟩ := h
        exact ⟨F, η, A, S, h.imp fun _ _ _ _ _ _ _ v _ _ _ _ _ q => i v _ q⟩
    refine mono _ _ _ _ _ q fun x H1 h1 => mono _ _ _ _ _ h1 fun y H2 ⟨x', y', e, h2⟩ => ?_
    cases e
    exact h2
theorem ev_cmp {co : CmpOp} {r : R2} (hr : OpR X (compareOp co) r) (ho : OpS X.K X.mg op fun vs H Q => ∃ x y, vs = [x, y] ∧ r x y H Q) (ha : EK X W a ka) (hb : EK X W b kb) (hm : behindInMarks co b = false) : EE X W (.Compare a [co] [b] pos) (eOp [ka, kb] op) :=
  PE.imp (pe_cmpR hr ha hb hm) fun σ H Q h => by
    have q := args2 (op_run ho h)
    have mono : ∀ (k : AK) σ H (Q Q' : VK), tK X W k σ H Q → (∀ v H, Q v H → Q' v H) → tK X W k σ H Q' := fun k σ H Q Q' h i => by
      cases k with
      | s n =>
        obtain ⟨v, e, h⟩ := h
        exact ⟨v, e, i _ _ h⟩
      | v f =>
        obtain ⟨F, η, A, S, h⟩ := h
        exact ⟨F, η, A, S, h.imp fun _ _ _ _ _ _ _ v _ _ _ _ _ q => i v _ q⟩
    refine mono _ _ _ _ _ q fun x H1 h1 => mono _ _ _ _ _ h1 fun y H2 ⟨x', y', e, h2⟩ => ?_
    cases e
    exact h2
theorem ev_callB {x : Str} {p : Pos} {id : String} {r : List V → Hp → VK → Prop} (hc : CallR X (.builtin id) r) (ho : OpS X.K X.mg op r) (hg : Gl X x) (hm : X.mg x = none) (hv : bootBuiltins x = some (.builtin id)) (ha : EAs X W (e :: es) ks) (hn : x ≠ "__name__" := by decide) (hdb : (x == ("__debug__" : Str)) = false := by decide)
    (he : starEach (e :: es) X.env = (false, eval e X.env) :: starEach es X.env := by rfl) (hpl : (backTo pos (starEach es X.env)).any (·.1) = false := by rfl) : EE X W (.Call (.Name x p) (e :: es) [] pos) (eOp ks op) :=
  PE.imp (pe_callB hc hg hm hv ha hn hdb he hpl) fun σ H Q h => op_run ho h
theorem ev_callTy {x : Str} {p : Pos} {Ty : String} {r : List V → Hp → VK → Prop} (hc : CallR X (.type Ty) r) (ho : OpS X.K X.mg op r) (hg : Gl X x) (hm : X.mg x = none) (hv : bootBuiltins x = some (.type Ty)) (ha : EAs X W (e :: es) ks) (hn : x ≠ "__name__" := by decide) (hdb : (x == ("__debug__" : Str)) = false := by decide)
    (he : starEach (e :: es) X.env = (false, eval e X.env) :: starEach es X.env := by rfl) (hpl : (backTo pos (starEach es X.env)).any (·.1) = false := by rfl) : EE X W (.Call (.Name x p) (e :: es) [] pos) (eOp ks op) :=
  PE.imp (pe_callTy hc hg hm hv ha hn hdb he hpl) fun σ H Q h => op_run ho h
theorem ev_ix {r : R2} (hr : IxR X r) (ho : OpS X.K X.mg op fun vs H Q => ∃ x y, vs = [x, y] ∧ r x y H Q) (ha : EK X W a ka) (hb : EK X W b kb) (hs : PlainIx b) : EE X W (.Subscript a b pos) (eOp [ka, kb] op) :=
  PE.imp (pe_ix hr ha hb hs) fun σ H Q h => by
    have q := args2 (op_run ho h)
    have mono : ∀ (k : AK) σ H (Q Q' : VK), tK X W k σ H Q → (∀ v H, Q v H → Q' v H) → tK X W k σ H Q' := fun k σ H Q Q' h i => by
      cases k with
      | s n =>
        obtain ⟨v, e, h⟩ := h
        exact ⟨v, e, i _ _ h⟩
      | v f =>
        obtain ⟨F, η, A, S, h⟩ := h
        exact ⟨F, η, A, S, h.imp fun _ _ _ _ _ _ _ v _ _ _ _ _ q => i v _ q⟩
    refine mono _ _ _ _ _ q fun x H1 h1 => mono _ _ _ _ _ h1 fun y H2 ⟨x', y', e, h2⟩ => ?_
    cases e
    exact h2
end

/-! ### the operations' own rules -/
section
variable {K : PySem.W.Frag} {mg : Str → Option Value} {F F' H H' : Hp} {A B : AP} {v : V}
theorem Rep.frz_eq {t : T} (h : Rep K mg F v t) : t.frz = t := by cases h <;> rfl
theorem RepL.frz_eq : ∀ {vs : List V} {ts : List T}, Paired (Rep K mg F) vs ts → frzL ts = ts
  | _, _, .nil => rfl
  | _, _, .cons h t => by
    unfold frzL
    rw [h.frz_eq, RepL.frz_eq t]
theorem Own.of_frz {t : T} (h : Own K mg F H v t.frz A) : Rep K mg F v t.frz := by
  cases t with
  | lst o ts => cases o <;> cases h <;> assumption
  | dk o ks ts => cases o <;> cases h <;> assumption
  | dt o ks ts => cases o <;> cases h <;> assumption
  | ins o c ks ts => cases o <;> cases h <;> assumption
  | _ => cases h; assumption
theorem OwnL.of_frz : ∀ {vs : List V} {ts : List T} {A : AP}, OwnL K mg F H vs (frzL ts) A → Paired (Rep K mg F) vs (frzL ts)
  | _, [], _, .nil => .nil
  | _, _ :: _, _, .cons h r _ _ _ => .cons h.of_frz r.of_frz
theorem Own.int_inv {i : Int} (h : Own K mg F H v (.int i) A) : v = .int i := by cases h with | frz h => cases h; rfl
theorem Own.bl_inv {i : Bool} (h : Own K mg F H v (.bl i) A) : v = .bl i := by cases h with | frz h => cases h; rfl
theorem Own.str_inv {i : Str} (h : Own K mg F H v (.str i) A) : v = .str i := by cases h with | frz h => cases h; rfl
theorem Own.non_inv (h : Own K mg F H v .non A) : v = .non := by cases h with | frz h => cases h; rfl
theorem Own.ty_inv {n : String} (h : Own K mg F H v (.ty n) A) : v = .ty n := by cases h with | frz h => cases h; rfl
theorem Own.gl_inv {c : Str} (h : Own K mg F H v (.gl c) A) : ∃ a, v = .ref a ∧ mg c = some (.ref a) := by
  cases h with | frz h => cases h with | gl e => exact ⟨_, rfl, e⟩
theorem Own.tup_inv {ts : List T} (h : Own K mg F H v (.tup ts) A) : ∃ a vs, v = .ref a ∧ SqT K F a vs ∧ Paired (Rep K mg F) vs ts := by
  cases h with | frz h => cases h with | tup h1 h2 => exact ⟨_, _, rfl, h1, h2⟩
theorem Own.lst_inv (s : Same F H) {o : Bool} {ts : List T} (h : Own K mg F H v (.lst o ts) A) : ∃ a vs, v = .ref a ∧ H a = some (.lst vs) ∧ OwnL K mg F H vs ts A ∧ (o = true → A a) ∧ (o = false → F a = some (.lst vs) ∧ Paired (Rep K mg F) vs ts) := by
  cases h with
  | frz h =>
    cases h with
    | lst h1 h2 => exact ⟨_, _, rfl, s _ _ h1, OwnL.of_rep h2, fun z => (by cases z), fun _ => ⟨h1, h2⟩⟩
  | lst h1 h2 h3 h4 h5 => exact ⟨_, _, rfl, h1, OwnL.mono (fun _ _ x => x) _ _ _ _ h2 (fun _ _ _ x => x) h5, fun _ => h3, fun z => (by cases z)⟩
theorem SqT.sub {a : Addr} {vs : List V} (s : Same F H) (h : SqT K F a vs) : SqT K H a vs := SqT.mono s h
theorem OwnL.one {vs : List V} {t : T} (h : OwnL K mg F H vs [t] A) : ∃ v, vs = [v] ∧ Own K mg F H v t A := by
  cases h with
  | cons h1 h2 h3 h4 h5 =>
    cases h2
    exact ⟨_, rfl, Own.mono (fun _ _ x => x) _ _ _ _ h1 (fun _ _ _ x => x) h4⟩
theorem OwnL.two {vs : List V} {t u : T} (h : OwnL K mg F H vs [t, u] A) : ∃ v w B C, vs = [v, w] ∧ Own K mg F H v t B ∧ Own K mg F H w u C ∧ Dis B C ∧ (∀ p, B p → A p) ∧ (∀ p, C p → A p) := by
  cases h with
  | cons h1 h2 h3 h4 h5 =>
    obtain ⟨w, rfl, h6⟩ := OwnL.one h2
    exact ⟨_, w, _, _, rfl, h1, h6, h3, h4, h5⟩
theorem OwnL.get : ∀ {vs : List V} {ts : List T} {A : AP} {i : Nat} {t : T}, OwnL K mg F H vs ts A → ts[i]? = some t → ∃ v B, vs[i]? = some v ∧ Own K mg F H v t B ∧ (∀ p, B p → A p)
  | _, _, _, i, t, .nil, e => by simp at e
  | _, _, _, 0, t, .cons h1 _ _ h4 _, e => by
    simp at e
    subst e
    exact ⟨_, _, rfl, h1, h4⟩
  | _, _, _, i + 1, t, .cons _ h2 _ _ h5, e => by
    obtain ⟨v, B, e1, o, m⟩ := h2.get (i := i) (t := t) (by simpa using e)
    exact ⟨v, B, by simpa using e1, o, fun p x => h5 p (m p x)⟩
theorem repL_get {vs : List V} {ts : List T} {i : Nat} {t : T} (h : Paired (Rep K mg F) vs ts) (e : ts[i]? = some t) : ∃ v, vs[i]? = some v ∧ Rep K mg F v t := by
  induction h generalizing i with
  | nil => simp at e
  | cons h1 h2 ih =>
    cases i with
    | zero =>
      simp at e
      subst e
      exact ⟨_, rfl, h1⟩
    | succ i =>
      obtain ⟨v, e1, r⟩ := ih (i := i) (by simpa using e)
      exact ⟨v, by simpa using e1, r⟩
theorem repL_app {vs ws : List V} {ts us : List T} (h : Paired (Rep K mg F) vs ts) (h' : Paired (Rep K mg F) ws us) : Paired (Rep K mg F) (vs ++ ws) (ts ++ us) := by
  induction h with
  | nil => exact h'
  | cons h1 _ ih => exact .cons h1 ih
theorem repL_take {vs : List V} {ts : List T} (h : Paired (Rep K mg F) vs ts) (n : Nat) : Paired (Rep K mg F) (vs.take n) (ts.take n) := by
  induction h generalizing n with
  | nil => simp; exact .nil
  | cons h1 _ ih =>
    cases n with
    | zero => exact .nil
    | succ n => exact .cons h1 (ih n)
theorem repL_drop {vs : List V} {ts : List T} (h : Paired (Rep K mg F) vs ts) (n : Nat) : Paired (Rep K mg F) (vs.drop n) (ts.drop n) := by
  induction h generalizing n with
  | nil => simp; exact .nil
  | cons h1 h2 ih =>
    cases n with
    | zero => exact .cons h1 h2
    | succ n => exact ih n
theorem repL_ints : ∀ {vs : List V} {ns : List Int}, Paired (Rep K mg F) vs (ns.map T.int) → vs = ns.map V.int
  | _, [], .nil => rfl
  | _, _ :: _, .cons h r => by
    cases h
    rw [List.map_cons, repL_ints r]
theorem repL_bls : ∀ {vs : List V} {ns : List Bool}, Paired (Rep K mg F) vs (ns.map T.bl) → vs = ns.map V.bl
  | _, [], .nil => rfl
  | _, _ :: _, .cons h r => by
    cases h
    rw [List.map_cons, repL_bls r]
theorem ownL_ints : ∀ {vs : List V} {ns : List Int} {A : AP}, OwnL K mg F H vs (ns.map T.int) A → vs = ns.map V.int
  | _, [], _, .nil => rfl
  | _, _ :: _, _, .cons h r _ _ _ => by
    rw [h.int_inv, List.map_cons, ownL_ints r]
theorem ownL_bls : ∀ {vs : List V} {ns : List Bool} {A : AP}, OwnL K mg F H vs (ns.map T.bl) A → vs = ns.map V.bl
  | _, [], _, .nil => rfl
  | _, _ :: _, _, .cons h r _ _ _ => by
    rw [h.bl_inv, List.map_cons, ownL_bls r]
end
/-- the ints of a list of trees -/
def ints? : List T → Option (List Int)
  | [] => some []
  | .int i :: ts => (ints? ts).map (i :: ·)
  | _ :: _ => none
def bls? : List T → Option (List Bool)
  | [] => some []
  | .bl i :: ts => (bls? ts).map (i :: ·)
  | _ :: _ => none
theorem ints?_map (ns : List Int) : ints? (ns.map T.int) = some ns := by
  induction ns with
  | nil => rfl
  | cons n ns ih => show (ints? (ns.map T.int)).map (n :: ·) = _; rw [ih]; rfl
theorem bls?_map (ns : List Bool) : bls? (ns.map T.bl) = some ns := by
  induction ns with
  | nil => rfl
  | cons n ns ih => show (bls? (ns.map T.bl)).map (n :: ·) = _; rw [ih]; rfl
theorem ints?_some : ∀ {ts : List T} {ns : List Int}, ints? ts = some ns → ts = ns.map T.int
  | [], ns, e => by simp [ints?] at e; subst e; rfl
  | t :: ts, ns, e => by
    cases t <;> simp [ints?] at e
    obtain ⟨ms, e1, e2⟩ := e
    subst e2
    rw [ints?_some e1]
    rfl
theorem bls?_some : ∀ {ts : List T} {ns : List Bool}, bls? ts = some ns → ts = ns.map T.bl
  | [], ns, e => by simp [bls?] at e; subst e; rfl
  | t :: ts, ns, e => by
    cases t <;> simp [bls?] at e
    obtain ⟨ms, e1, e2⟩ := e
    subst e2
    rw [bls?_some e1]
    rfl
section
variable {K : PySem.W.Frag} {mg : Str → Option Value}
theorem OpS.imp {op : Op} {r r' : List V → Hp → VK → Prop} (h : OpS K mg op r) (i : ∀ vs H Q, r vs H Q → r' vs H Q) : OpS K mg op r' := fun F H vs ts B t ts' s g o e Q k => i _ _ _ (h F H vs ts B t ts' s g o e Q k)
/-- nothing changes, a flat value is given -/
theorem OpS.same {op : Op} {r : List V → Hp → VK → Prop} (h : ∀ F H vs ts B t ts', Same F H → OwnL K mg F H vs ts B → op ts = some (t, ts') → ts' = ts ∧ ∃ v, Rep K mg F v t ∧ ∀ Q : VK, Q v H → r vs H Q) : OpS K mg op r :=
  fun F H vs ts B t ts' s g o e Q k => by
    obtain ⟨rfl, v, rp, hq⟩ := h F H vs ts B t ts' s o e
    exact hq Q (k F H B A0 v s g Good.a0 o (.frz rp) (fun _ _ x => x) (Step.refl.weak (fun _ x => x) fun p x => x.elim id fun y => y.elim))
/-- a new object, owned -/
theorem new_own {F H F1 : Hp} {B B1 : AP} {p : Addr} {o : HO} (st : Step F H B F1 H B1) (s : Same F1 H) (g : Good F1 H B1) (n : H p = none) :
    Same F1 (upd H p o) ∧ Good F1 (upd H p o) B1 ∧ Good F1 (upd H p o) (fun q => q = p) ∧ Dis B1 (fun q => q = p) ∧ Step F H B F1 (upd H p o) (Un2 B1 fun q => q = p) ∧ Same H (upd H p o) := by
  have sm : Same H (upd H p o) := fun q u e => by rw [upd_ne (ne_of_none e n)]; exact e
  have fn : F1 p = none := by
    cases q : F1 p with
    | none => rfl
    | some u => rw [s p u q] at n; cases n
  refine ⟨fun q u e => sm q u (s q u e), fun q x => ⟨(g q x).1, fun e => ?_⟩, fun q x => ?_, fun q x y => ?_, ⟨fun q u nb e => sm q u e, st.sub, st.newF, fun q x => x.elim (st.newA q) fun y => .inr (by rw [y]; exact n)⟩, sm⟩
  · cases z : H q with
    | none => exact (g q x).2 z
    | some u => rw [sm q u z] at e; cases e
  · subst x
    exact ⟨fn, by rw [upd_same]; simp⟩
  · subst y
    exact (g q x).2 n
/-- a new object, frozen at once -/
theorem new_frz {F H F1 : Hp} {B B1 : AP} {p : Addr} {o : HO} (st : Step F H B F1 H B1) (s : Same F1 H) (g : Good F1 H B1) (n : H p = none) :
    Same (upd F1 p o) (upd H p o) ∧ Good (upd F1 p o) (upd H p o) B1 ∧ Step F H B (upd F1 p o) (upd H p o) (Un2 B1 A0) ∧ Same F1 (upd F1 p o) := by
  have fn : F1 p = none := by
    cases q : F1 p with
    | none => rfl
    | some u => rw [s p u q] at n; cases n
  have sm : Same H (upd H p o) := fun q u e => by rw [upd_ne (ne_of_none e n)]; exact e
  have sf : Same F1 (upd F1 p o) := fun q u e => by rw [upd_ne (ne_of_none e fn)]; exact e
  refine ⟨fun q u e => ?_, fun q x => ?_, ⟨fun q u _ e => sm q u e, fun q u e => sf q u (st.sub q u e), fun q u e => ?_, fun q x => x.elim (st.newA q) fun y => y.elim⟩, sf⟩
  · by_cases h : q = p
    · subst h; rw [upd_same] at e ⊢; exact e
    · rw [upd_ne h] at e ⊢; exact s q u e
  · have h : q ≠ p := fun z => by subst z; exact (g q x).2 n
    rw [upd_ne h, upd_ne h]
    exact g q x
  · by_cases h : q = p
    · subst h; exact .inr (.inr n)
    · rw [upd_ne h] at e; exact st.newF q u e
end

/-! ints -/
def i2 (g : Int → Int → Option T) : Op := fun ts => match ts with
  | [.int i, .int j] => (g i j).map fun t => (t, ts)
  | _ => none
theorem i2_ok {K : PySem.W.Frag} {mg : Str → Option Value} {g : Int → Int → Option T} {r : R2} (h : ∀ F i j t, g i j = some t → ∃ v, Rep K mg F v t ∧ ∀ H (Q : VK), Q v H → r (.int i) (.int j) H Q) :
    OpS K mg (i2 g) fun vs H Q => ∃ x y, vs = [x, y] ∧ r x y H Q := OpS.same fun F H vs ts B t ts' s o e => by
  unfold i2 at e
  split at e
  · rename_i i j
    obtain ⟨v, w, B1, B2, rfl, o1, o2, _⟩ := o.two
    rw [o1.int_inv, o2.int_inv]
    cases q : g i j with
    | none => rw [q] at e; simp at e
    | some u =>
      rw [q] at e
      simp at e
      obtain ⟨rfl, rfl⟩ := e
      obtain ⟨v, rp, hq⟩ := h F i j u q
      exact ⟨rfl, v, rp, fun Q z => ⟨_, _, rfl, hq H Q z⟩⟩
  · cases e
def opSub : Op := i2 fun i j => some (.int (i - j))
def opLt : Op := i2 fun i j => some (.bl (decide (i < j)))
def opLe : Op := i2 fun i j => some (.bl (decide (i ≤ j)))
def opGt : Op := i2 fun i j => some (.bl (decide (j < i)))
def opGe : Op := i2 fun i j => some (.bl (decide (j ≤ i)))
def opMod : Op := i2 fun i j => if 0 < j then some (.int (i % j)) else none
def opFdiv : Op := i2 fun i j => if 0 < j ∧ j < 1073741824 then some (.int (i / j)) else none
def opPow : Op := i2 fun i j => if 0 ≤ j ∧ j ≤ 1000000 ∧ i.natAbs < 2 ^ 64 then some (.int (i ^ j.toNat)) else none
section
variable {X : Cx}
theorem opSub_ok : OpS X.K X.mg opSub fun vs H Q => ∃ x y, vs = [x, y] ∧ rI0 (fun i j => .int (i - j)) x y H Q := i2_ok fun F i j t e => by cases e; exact ⟨_, .int _, fun H Q q => ⟨i, j, rfl, rfl, q⟩⟩
theorem opLt_ok : OpS X.K X.mg opLt fun vs H Q => ∃ x y, vs = [x, y] ∧ rI0 (fun i j => .bl (decide (i < j))) x y H Q := i2_ok fun F i j t e => by cases e; exact ⟨_, .bl _, fun H Q q => ⟨i, j, rfl, rfl, q⟩⟩
theorem opLe_ok : OpS X.K X.mg opLe fun vs H Q => ∃ x y, vs = [x, y] ∧ rI0 (fun i j => .bl (decide (i ≤ j))) x y H Q := i2_ok fun F i j t e => by cases e; exact ⟨_, .bl _, fun H Q q => ⟨i, j, rfl, rfl, q⟩⟩
theorem opGt_ok : OpS X.K X.mg opGt fun vs H Q => ∃ x y, vs = [x, y] ∧ rI0 (fun i j => .bl (decide (j < i))) x y H Q := i2_ok fun F i j t e => by cases e; exact ⟨_, .bl _, fun H Q q => ⟨i, j, rfl, rfl, q⟩⟩
theorem opGe_ok : OpS X.K X.mg opGe fun vs H Q => ∃ x y, vs = [x, y] ∧ rI0 (fun i j => .bl (decide (j ≤ i))) x y H Q := i2_ok fun F i j t e => by cases e; exact ⟨_, .bl _, fun H Q q => ⟨i, j, rfl, rfl, q⟩⟩
theorem opMod_ok : OpS X.K X.mg opMod fun vs H Q => ∃ x y, vs = [x, y] ∧ rI (fun _ j => 0 < j) (fun i j => .int (i % j)) x y H Q := i2_ok fun F i j t e => by
  split at e
  · cases e; exact ⟨_, .int _, fun H Q q => ⟨i, j, rfl, rfl, by assumption, q⟩⟩
  · cases e
theorem opFdiv_ok : OpS X.K X.mg opFdiv fun vs H Q => ∃ x y, vs = [x, y] ∧ rI CDiv (fun i j => .int (i / j)) x y H Q := i2_ok fun F i j t e => by
  split at e
  · cases e; exact ⟨_, .int _, fun H Q q => ⟨i, j, rfl, rfl, by assumption, q⟩⟩
  · cases e
theorem opPow_ok : OpS X.K X.mg opPow fun vs H Q => ∃ x y, vs = [x, y] ∧ rI CPow (fun i j => .int (i ^ j.toNat)) x y H Q := i2_ok fun F i j t e => by
  split at e
  · cases e; exact ⟨_, .int _, fun H Q q => ⟨i, j, rfl, rfl, by assumption, q⟩⟩
  · cases e
end

/-! ### what lies in lists and tuples -/
/-- the kids of a list are frozen -/
def T.kid : T → T
  | .lst true ts => .lst true (frzL ts)
  | .dk true ks ts => .dk true ks (frzL ts)
  | .dt true ks ts => .dt true ks (frzL ts)
  | .ins true c ks ts => .ins true c ks (frzL ts)
  | t => t
section
variable {K : PySem.W.Frag} {mg : Str → Option Value}
/-- an argument whose kids are frozen -/
inductive Flat (K : PySem.W.Frag) (mg : Str → Option Value) (F H : Hp) : V → T → AP → Prop
  | rep {v : V} {t : T} {A : AP} : Rep K mg F v t → Flat K mg F H v t A
  | lst {a : Addr} {vs : List V} {ts : List T} {A : AP} : H a = some (.lst vs) → Paired (Rep K mg F) vs ts → A a → Flat K mg F H (.ref a) (.lst true ts) A
  | dk {a : Addr} {kvs : List (Key × V)} {ks : List Key} {ts : List T} {A : AP} : H a = some (.dK kvs) → kvs.map (·.1) = ks → Paired (Rep K mg F) (kvs.map (·.2)) ts → A a → Flat K mg F H (.ref a) (.dk true ks ts) A
  | dt {a : Addr} {kvs : List (List Key × V)} {ks : List (List Key)} {ts : List T} {A : AP} : H a = some (.dT kvs) → kvs.map (·.1) = ks → Paired (Rep K mg F) (kvs.map (·.2)) ts → A a → Flat K mg F H (.ref a) (.dt true ks ts) A
  | ins {a C dx : Addr} {c : Str} {fs : List (Str × V)} {ks : List Str} {ts : List T} {A : AP} : H a = some (.ins C dx fs) → mg c = some (.ref C) → fs.map (·.1) = ks → Paired (Rep K mg F) (fs.map (·.2)) ts → A a → Flat K mg F H (.ref a) (.ins true c ks ts) A
inductive FlatL (K : PySem.W.Frag) (mg : Str → Option Value) (F H : Hp) : List V → List T → AP → Prop
  | nil {A : AP} : FlatL K mg F H [] [] A
  | cons {v : V} {t : T} {vs : List V} {ts : List T} {A B C : AP} : Flat K mg F H v t B → FlatL K mg F H vs ts C → Dis B C → (∀ p, B p → A p) → (∀ p, C p → A p) → FlatL K mg F H (v :: vs) (t :: ts) A
theorem Flat.own {F H : Hp} {v : V} {t : T} {A : AP} (h : Flat K mg F H v t A) : Own K mg F H v t A := by
  cases h with
  | rep h => exact .frz h
  | lst h1 h2 h3 => exact .lst (B := A0) h1 (.of_rep h2) h3 (fun x => x) fun _ x => x.elim
  | dk h1 h0 h2 h3 => exact .dk (B := A0) h1 h0 (.of_rep h2) h3 (fun x => x) fun _ x => x.elim
  | dt h1 h0 h2 h3 => exact .dt (B := A0) h1 h0 (.of_rep h2) h3 (fun x => x) fun _ x => x.elim
  | ins h1 g h0 h2 h3 => exact .ins (B := A0) h1 g h0 (.of_rep h2) h3 (fun x => x) fun _ x => x.elim
theorem FlatL.own : ∀ {F H : Hp} {vs : List V} {ts : List T} {A : AP}, FlatL K mg F H vs ts A → OwnL K mg F H vs ts A
  | _, _, _, _, _, .nil => .nil
  | _, _, _, _, _, .cons h r d m1 m2 => .cons h.own r.own d m1 m2
theorem Flat.mono {F F' H : Hp} {v : V} {t : T} {A A' : AP} (s : Same F F') (h : Flat K mg F H v t A) (m : ∀ p, A p → A' p) : Flat K mg F' H v t A' := by
  cases h with
  | rep h => exact .rep (Rep.mono s _ _ h)
  | lst h1 h2 h3 => exact .lst h1 (RepL.mono s _ _ h2) (m _ h3)
  | dk h1 h0 h2 h3 => exact .dk h1 h0 (RepL.mono s _ _ h2) (m _ h3)
  | dt h1 h0 h2 h3 => exact .dt h1 h0 (RepL.mono s _ _ h2) (m _ h3)
  | ins h1 g h0 h2 h3 => exact .ins h1 g h0 (RepL.mono s _ _ h2) (m _ h3)
theorem FlatL.mono {F F' H : Hp} (s : Same F F') : ∀ {vs : List V} {ts : List T} {A A' : AP}, FlatL K mg F H vs ts A → (∀ p, A p → A' p) → FlatL K mg F' H vs ts A'
  | _, _, _, _, .nil, _ => .nil
  | _, _, _, _, .cons h r d m1 m2, m => .cons (h.mono s fun _ x => x) (r.mono s fun _ x => x) d (fun p x => m p (m1 p x)) fun p x => m p (m2 p x)
/-- the kids' footprint goes into F -/
theorem Own.kid {F H : Hp} {v : V} {t : T} {A : AP} (s : Same F H) (g : Good F H A) (h : Own K mg F H v t A) : ∃ F1 A1, Same F F1 ∧ Same F1 H ∧ Flat K mg F1 H v t.kid A1 ∧ (∀ p, A1 p → A p) ∧ (∀ p, A1 p → F1 p = none) ∧ ∀ p o, F1 p = some o → F p = some o ∨ A p := by
  have base : ∀ {u : T}, Rep K mg F v u → ∃ F1 A1, Same F F1 ∧ Same F1 H ∧ Flat K mg F1 H v u.kid A1 ∧ (∀ p, A1 p → A p) ∧ (∀ p, A1 p → F1 p = none) ∧ ∀ p o, F1 p = some o → F p = some o ∨ A p := fun {u} r => by
    have e : u.kid = u := by cases r <;> rfl
    exact ⟨F, A0, fun _ _ x => x, s, by rw [e]; exact .rep r, fun _ x => x.elim, fun _ x => x.elim, fun _ _ x => .inl x⟩
  have step : ∀ {a : Addr} {B : AP}, A a → ¬ B a → (∀ p, B p → A p) → Same F (frzF F H B) ∧ Same (frzF F H B) H ∧ (∀ p, p = a → A p) ∧ (∀ p, p = a → frzF F H B p = none) ∧ ∀ p o, frzF F H B p = some o → F p = some o ∨ A p := fun {a B} ha hb m => by
    refine ⟨frzF_same s, frzF_sub s, fun p x => by rw [x]; exact ha, fun p x => ?_, fun p o x => ?_⟩
    · rw [x, frzF_out hb]; exact (g a ha).1
    · by_cases q : B p
      · exact .inr (m p q)
      · rw [frzF_out q] at x; exact .inl x
  cases h with
  | frz h => exact base h
  | lst h1 h2 h3 h4 h5 =>
    rename_i a vs ts B
    obtain ⟨x1, x2, x3, x4, x5⟩ := step h3 h4 h5
    exact ⟨frzF F H B, fun p => p = a, x1, x2, .lst h1 (OwnL.frz_in x1 _ _ _ h2 fun p x => frzF_in x) rfl, x3, x4, x5⟩
  | dk h1 h0 h2 h3 h4 h5 =>
    rename_i a vs ks ts B
    obtain ⟨x1, x2, x3, x4, x5⟩ := step h3 h4 h5
    exact ⟨frzF F H B, fun p => p = a, x1, x2, .dk h1 h0 (OwnL.frz_in x1 _ _ _ h2 fun p x => frzF_in x) rfl, x3, x4, x5⟩
  | dt h1 h0 h2 h3 h4 h5 =>
    rename_i a vs ks ts B
    obtain ⟨x1, x2, x3, x4, x5⟩ := step h3 h4 h5
    exact ⟨frzF F H B, fun p => p = a, x1, x2, .dt h1 h0 (OwnL.frz_in x1 _ _ _ h2 fun p x => frzF_in x) rfl, x3, x4, x5⟩
  | ins h1 hg h0 h2 h3 h4 h5 =>
    rename_i a C dx c fs ks ts B
    obtain ⟨x1, x2, x3, x4, x5⟩ := step h3 h4 h5
    exact ⟨frzF F H B, fun p => p = a, x1, x2, .ins h1 hg h0 (OwnL.frz_in x1 _ _ _ h2 fun p x => frzF_in x) rfl, x3, x4, x5⟩
theorem OwnL.kid : ∀ {F H : Hp} {vs : List V} {ts : List T} {A : AP}, Same F H → Good F H A → OwnL K mg F H vs ts A → ∃ F1 A1, Same F F1 ∧ Same F1 H ∧ FlatL K mg F1 H vs (ts.map T.kid) A1 ∧ (∀ p, A1 p → A p) ∧ (∀ p, A1 p → F1 p = none) ∧ ∀ p o, F1 p = some o → F p = some o ∨ A p
  | F, H, _, _, A, s, g, .nil => ⟨F, A0, fun _ _ x => x, s, .nil, fun _ x => x.elim, fun _ x => x.elim, fun _ _ x => .inl x⟩
  | F, H, _, _, A, s, g, .cons (v := v) (t := t) (vs := vs) (ts := ts) (B := B) (C := C) h r d m1 m2 => by
    obtain ⟨F1, B1, a1, a2, a3, a4, a5, a6⟩ := h.kid s (g.mono m1)
    have gC : Good F1 H C := fun p x => ⟨by
      cases q : F1 p with
      | none => rfl
      | some o => rcases a6 p o q with z | z
                  · rw [(g p (m2 p x)).1] at z; cases z
                  · exact absurd x (d p z), (g p (m2 p x)).2⟩
    have r1 : OwnL K mg F1 H vs ts C := OwnL.mono a1 _ _ _ _ r (fun _ _ _ x => x) fun _ x => x
    obtain ⟨F2, C1, b1, b2, b3, b4, b5, b6⟩ := OwnL.kid a2 gC r1
    refine ⟨F2, Un2 B1 C1, fun p o x => b1 p o (a1 p o x), b2, .cons (a3.mono b1 fun _ x => x) b3 (fun p x y => d p (a4 p x) (b4 p y)) (fun _ x => .inl x) (fun _ x => .inr x), fun p x => x.elim (fun y => m1 p (a4 p y)) fun y => m2 p (b4 p y), fun p x => x.elim (fun y => ?_) (b5 p), fun p o x => (b6 p o x).elim (fun y => (a6 p o y).elim .inl fun z => .inr (m1 p z)) fun y => .inr (m2 p y)⟩
    cases q : F2 p with
    | none => rfl
    | some o => rcases b6 p o q with z | z
                · rw [a5 p y] at z; cases z
                · exact absurd z (d p (a4 p y))
/-- an operation whose arguments' kids are frozen first -/
def kidO (op : Op) : Op := fun ts => op (ts.map T.kid)
theorem OpS.kid {op : Op} {r : List V → Hp → VK → Prop} (h : ∀ F H vs ts B t ts', Same F H → Good F H B → FlatL K mg F H vs ts B → op ts = some (t, ts') → ∀ Q : VK,
    (∀ F' H' B' C v, Same F' H' → Good F' H' B' → Good F' H' C → OwnL K mg F' H' vs ts' B' → Own K mg F' H' v t C → Dis B' C → Step F H B F' H' (Un2 B' C) → Q v H') → r vs H Q) : OpS K mg (kidO op) r :=
  fun F H vs ts B t ts' s g o e Q k => by
    obtain ⟨F1, A1, a1, a2, a3, a4, a5, a6⟩ := OwnL.kid s g o
    refine h F1 H vs (ts.map T.kid) A1 t ts' a2 (fun p x => ⟨a5 p x, (g p (a4 p x)).2⟩) a3 e Q fun F' H' B' C v s' g1 g2 o1 o2 d st => k F' H' B' C v s' g1 g2 o1 o2 d ?_
    have st0 : Step F H B F1 H A1 := ⟨fun _ _ _ x => x, a1, fun p o x => (a6 p o x).elim .inl fun y => .inr (.inl y), fun p x => .inl (a4 p x)⟩
    exact st0.trans st
theorem FlatL.one {F H : Hp} {vs : List V} {t : T} {A : AP} (h : FlatL K mg F H vs [t] A) : ∃ v, vs = [v] ∧ Flat K mg F H v t A := by
  cases h with
  | cons h1 h2 h3 h4 h5 =>
    cases h2
    exact ⟨_, rfl, h1.mono (fun _ _ x => x) h4⟩
theorem FlatL.two {F H : Hp} {vs : List V} {t u : T} {A : AP} (h : FlatL K mg F H vs [t, u] A) : ∃ v w, vs = [v, w] ∧ Flat K mg F H v t A ∧ Flat K mg F H w u A := by
  cases h with
  | cons h1 h2 h3 h4 h5 =>
    obtain ⟨w, rfl, h6⟩ := FlatL.one h2
    exact ⟨_, w, rfl, h1.mono (fun _ _ x => x) h4, h6.mono (fun _ _ x => x) h5⟩
/-- a list of frozen kids -/
theorem Flat.lst_inv {F H : Hp} (s : Same F H) {v : V} {o : Bool} {ts : List T} {A : AP} (h : Flat K mg F H v (.lst o ts) A) : ∃ a vs, v = .ref a ∧ H a = some (.lst vs) ∧ Paired (Rep K mg F) vs ts := by
  cases h with
  | rep h => cases h with | lst h1 h2 => exact ⟨_, _, rfl, s _ _ h1, h2⟩
  | lst h1 h2 _ => exact ⟨_, _, rfl, h1, h2⟩
theorem Flat.tup_inv {F H : Hp} {v : V} {ts : List T} {A : AP} (h : Flat K mg F H v (.tup ts) A) : ∃ a vs, v = .ref a ∧ SqT K F a vs ∧ Paired (Rep K mg F) vs ts := h.own.tup_inv
/-- the end of an operation: a flat value, nothing changed -/
theorem fin_same {F H : Hp} {vs : List V} {ts : List T} {B : AP} {t : T} {v : V} {Q : VK} (s : Same F H) (g : Good F H B) (o : OwnL K mg F H vs ts B) (r : Rep K mg F v t)
    (k : ∀ F' H' B' C v, Same F' H' → Good F' H' B' → Good F' H' C → OwnL K mg F' H' vs ts B' → Own K mg F' H' v t C → Dis B' C → Step F H B F' H' (Un2 B' C) → Q v H') : Q v H :=
  k F H B A0 v s g Good.a0 o (.frz r) (fun _ _ x => x) (Step.refl.weak (fun _ x => x) fun p x => x.elim id fun y => y.elim)
/-- a new list of frozen kids -/
theorem fin_lst {F H : Hp} {vs ws : List V} {ts us : List T} {B : AP} {p : Addr} {Q : VK} (s : Same F H) (g : Good F H B) (o : OwnL K mg F H vs ts B) (r : Paired (Rep K mg F) ws us) (n : H p = none)
    (k : ∀ F' H' B' C v, Same F' H' → Good F' H' B' → Good F' H' C → OwnL K mg F' H' vs ts B' → Own K mg F' H' v (.lst true us) C → Dis B' C → Step F H B F' H' (Un2 B' C) → Q v H') : Q (.ref p) (upd H p (.lst ws)) := by
  obtain ⟨x1, x2, x3, x4, x5, x6⟩ := new_own (o := .lst ws) Step.refl s g n
  exact k F _ B (fun q => q = p) (.ref p) x1 x2 x3 (OwnL.mono (fun _ _ x => x) _ _ _ _ o (fun q u _ e => x6 q u e) fun _ x => x) (.lst (B := A0) upd_same (.of_rep r) rfl (fun x => x) fun _ x => x.elim) x4 x5
/-- a new tuple of frozen kids -/
theorem fin_tup {F H : Hp} {vs ws : List V} {ts us : List T} {B : AP} {p : Addr} {Q : VK} (s : Same F H) (g : Good F H B) (o : OwnL K mg F H vs ts B) (r : Paired (Rep K mg F) ws us) (n : H p = none)
    (k : ∀ F' H' B' C v, Same F' H' → Good F' H' B' → Good F' H' C → OwnL K mg F' H' vs ts B' → Own K mg F' H' v (.tup us) C → Dis B' C → Step F H B F' H' (Un2 B' C) → Q v H') : Q (.ref p) (upd H p (.tup ws)) := by
  obtain ⟨x1, x2, x3, x4⟩ := new_frz (o := .tup ws) Step.refl s g n
  have sm : Same H (upd H p (.tup ws)) := fun q u e => by rw [upd_ne (ne_of_none e n)]; exact e
  exact k _ _ B A0 (.ref p) x1 x2 Good.a0 (OwnL.mono x4 _ _ _ _ o (fun q u _ e => sm q u e) fun _ x => x) (.frz (.tup (.of upd_same) (RepL.mono x4 _ _ r))) (fun _ _ x => x) x3
end

/-! ### + and * -/
def addO : Op := fun ts => match ts with
  | [.int i, .int j] => some (.int (i + j), ts)
  | [.tup xs, .tup ys] => if xs.length + ys.length ≤ sizeLine then some (.tup (xs ++ ys), ts) else none
  | [.lst _ xs, .lst _ ys] => if xs.length + ys.length ≤ sizeLine then some (.lst true (xs ++ ys), ts) else none
  | [.str x, .str y] => if x.length + y.length ≤ sizeLine then some (.str (x ++ y), ts) else none
  | _ => none
def opAdd : Op := kidO addO

section
variable {X : Cx}
def rAdd4 (K : PySem.W.Frag) : R2 := fun x y H Q => (rI0 fun i j => .int (i + j)) x y H Q ∨ rCatA K x y H Q ∨ rCat x y H Q ∨ (∃ i j, x = .str i ∧ y = .str j ∧ i.length + j.length ≤ sizeLine ∧ Q (.str (i ++ j)) H)
theorem op_add4 : OpR X (binaryOp .Add) (rAdd4 X.K) := op_add.or (op_catA.or (op_cat.or op_add_str))
theorem opAdd_ok : OpS X.K X.mg opAdd fun vs H Q => ∃ x y, vs = [x, y] ∧ rAdd4 X.K x y H Q := OpS.kid fun F H vs ts B t ts' s g o e Q k => by
  unfold addO at e
  split at e
  · obtain ⟨v, w, rfl, h1, h2⟩ := o.two
    cases e
    have e1 := h1.own.int_inv
    have e2 := h2.own.int_inv
    subst e1 e2
    exact ⟨_, _, rfl, .inl ⟨_, _, rfl, rfl, fin_same s g o.own (.int _) k⟩⟩
  · rename_i xs ys
    obtain ⟨v, w, rfl, h1, h2⟩ := o.two
    split at e
    · cases e
      obtain ⟨a, vs, rfl, q1, r1⟩ := h1.tup_inv
      obtain ⟨b, ws, rfl, q2, r2⟩ := h2.tup_inv
      have l1 := r1.length
      have l2 := r2.length
      refine ⟨_, _, rfl, .inr (.inl ⟨a, b, vs, ws, rfl, rfl, SqT.mono s q1, SqT.mono s q2, by omega, fun z => ?_, fun z z2 => ?_, fun z z2 p n => ?_⟩)⟩
      · subst z
        cases r1
        exact fin_same s g o.own (.tup q2 (by simpa using r2)) k
      · subst z2
        cases r2
        exact fin_same s g o.own (.tup q1 (by simpa using r1)) k
      · exact fin_tup s g o.own (repL_app r1 r2) n k
    · cases e
  · obtain ⟨v, w, rfl, h1, h2⟩ := o.two
    split at e
    · cases e
      obtain ⟨a, vs, rfl, q1, r1⟩ := h1.lst_inv s
      obtain ⟨b, ws, rfl, q2, r2⟩ := h2.lst_inv s
      have l1 := r1.length
      have l2 := r2.length
      exact ⟨_, _, rfl, .inr (.inr (.inl ⟨a, b, vs, ws, rfl, rfl, q1, q2, by omega, fun p n => fin_lst s g o.own (repL_app r1 r2) n k⟩))⟩
    · cases e
  · obtain ⟨v, w, rfl, h1, h2⟩ := o.two
    split at e
    · cases e
      have e1 := h1.own.str_inv
      have e2 := h2.own.str_inv
      subst e1 e2
      exact ⟨_, _, rfl, .inr (.inr (.inr ⟨_, _, rfl, rfl, by assumption, fin_same s g o.own (.str _) k⟩))⟩
    · cases e
  · cases e
instance (i j : Int) : Decidable (CMul i j) := by unfold CMul; exact inferInstance
instance (i j : Int) : Decidable (CMulW i j) := by unfold CMulW; exact inferInstance
/-- products of ints; a list or a tuple so many times -/
def mulO : Op := fun ts => match ts with
  | [.int i, .int j] => if CMul i j ∨ CMulW i j then some (.int (i * j), ts) else none
  | [.lst _ xs, .int k] => if -(2 ^ 63) ≤ k ∧ k < 2 ^ 63 ∧ xs.length * k.toNat ≤ sizeLine then some (.lst true (List.replicate k.toNat xs).flatten, ts) else none
  | _ => none
theorem flat_rep {α β : Type} {R : α → β → Prop} {xs : List α} {ys : List β} (h : Paired R xs ys) : ∀ k : Nat, Paired R (List.replicate k xs).flatten (List.replicate k ys).flatten
  | 0 => .nil
  | k + 1 => by
    have app : ∀ {as : List α} {bs : List β} {cs : List α} {ds : List β}, Paired R as bs → Paired R cs ds → Paired R (as ++ cs) (bs ++ ds) := fun h h' => by
      induction h with
      | nil => exact h'
      | cons h1 _ ih => exact .cons h1 ih
    show Paired R (xs :: List.replicate k xs).flatten (ys :: List.replicate k ys).flatten
    rw [List.flatten_cons, List.flatten_cons]
    exact app h (flat_rep h k)
def opMul : Op := kidO mulO
def rMul4 : R2 := fun x y H Q => (rI CMul fun i j => .int (i * j)) x y H Q ∨ (rI CMulW fun i j => .int (i * j)) x y H Q ∨ rRep x y H Q
theorem op_mul4 : OpR X (binaryOp .Mult) rMul4 := op_mul.or (op_mulW.or op_rep)
theorem opMul_ok : OpS X.K X.mg opMul fun vs H Q => ∃ x y, vs = [x, y] ∧ rMul4 x y H Q := OpS.kid fun F H vs ts B t ts' s g o e Q k => by
  unfold mulO at e
  split at e
  · obtain ⟨v, w, rfl, h1, h2⟩ := o.two
    have e1 := h1.own.int_inv
    have e2 := h2.own.int_inv
    subst e1 e2
    split at e
    · rename_i c
      cases e
      rcases c with c | c
      · exact ⟨_, _, rfl, .inl ⟨_, _, rfl, rfl, c, fin_same s g o.own (.int _) k⟩⟩
      · exact ⟨_, _, rfl, .inr (.inl ⟨_, _, rfl, rfl, c, fin_same s g o.own (.int _) k⟩)⟩
    · cases e
  · obtain ⟨v, w, rfl, h1, h2⟩ := o.two
    split at e
    · rename_i c
      cases e
      obtain ⟨a, vs, rfl, q1, r1⟩ := h1.lst_inv s
      have e2 := h2.own.int_inv
      subst e2
      have l1 := r1.length
      exact ⟨_, _, rfl, .inr (.inr ⟨a, _, vs, rfl, rfl, q1, c.1, c.2.1, by rw [l1]; exact c.2.2, fun p n => fin_lst s g o.own (flat_rep r1 _) n k⟩)⟩
    · cases e
  · cases e
theorem opNeg_dummy : True := True.intro
end
/-! ### items, lengths -/
def keyT : Key → T
  | .inl i => .int i
  | .inr x => .str x
/-- the tree's item at a place; the list with that kid frozen -/
def ixO : Op := fun ts => match ts with
  | [.tup xs, .int i] => (atI xs i).map fun t => (t, ts)
  | [.lst o xs, .int i] => (ixN xs.length i).bind fun j => (xs[j]?).map fun t => (t.frz, [.lst o (xs.set j t.frz), .int i])
  | [.str z, .int i] => if z.length ≤ sizeLine then (atI z.cps.toList i).map fun c => (.str ⟨#[c]⟩, ts) else none
  | [.kt ks, .int i] => (atI ks i).map fun k => (keyT k, ts)
  | _ => none
section
variable {X : Cx}
theorem atI_rep {K : PySem.W.Frag} {mg : Str → Option Value} {F : Hp} {vs : List V} {ts : List T} {i : Int} {t : T} (r : Paired (Rep K mg F) vs ts) (e : atI ts i = some t) : ∃ v, atI vs i = some v ∧ Rep K mg F v t := by
  unfold atI at e ⊢
  rw [r.length]
  cases q : ixN ts.length i with
  | none => rw [q] at e; simp at e
  | some j =>
    rw [q] at e
    simp only [Option.bind_some] at e ⊢
    exact repL_get r e
/-- the j-th kid alone is frozen -/
theorem ownL_frz1 {K : PySem.W.Frag} {mg : Str → Option Value} {F H : Hp} (s : Same F H) : ∀ {vs : List V} {ts : List T} {A : AP} {j : Nat} {u : T} {x : V}, OwnL K mg F H vs ts A → vs[j]? = some x → ts[j]? = some u →
    ∃ D C : AP, (∀ p, D p → A p) ∧ (∀ p, C p → A p) ∧ Dis D C ∧ Rep K mg (frzF F H D) x u.frz ∧ OwnL K mg (frzF F H D) H vs (ts.set j u.frz) C
  | _, _, _, j, t, v, .nil, e, _ => by simp at e
  | _, _, _, 0, t, v, .cons (B := B1) (C := C1) h r d m1 m2, e1, e2 => by
    simp at e1 e2
    subst e1 e2
    have rp := Own.frz_in (frzF_same (A := B1) s) _ _ _ h fun p x => frzF_in x
    exact ⟨B1, C1, m1, m2, d, rp, .cons (B := A0) (.frz rp) (OwnL.mono (frzF_same s) _ _ _ _ r (fun _ _ _ x => x) fun _ x => x) (fun _ x => x.elim) (fun _ x => x.elim) fun _ x => x⟩
  | _, _, _, j + 1, t, v, .cons (B := B1) (C := C1) h r d m1 m2, e1, e2 => by
    obtain ⟨D, C, mD, mC, dD, rp, o⟩ := ownL_frz1 s r (j := j) (by simpa using e1) (by simpa using e2)
    exact ⟨D, Un2 B1 C, fun p x => m2 p (mD p x), fun p x => x.elim (m1 p) fun y => m2 p (mC p y), fun p x y => y.elim (fun z => d p z (mD p x)) (dD p x), rp,
      .cons (Own.mono (frzF_same s) _ _ _ _ h (fun _ _ _ x => x) fun _ x => x) o (fun p x y => d p x (mC p y)) (fun _ x => .inl x) fun _ x => .inr x⟩
def rIx3 (K : PySem.W.Frag) : R2 := rIx K
theorem opIx_ok : OpS X.K X.mg ixO fun vs H Q => ∃ x y, vs = [x, y] ∧ rIx X.K x y H Q := fun F H vs ts B t ts' s g o e Q k => by
  unfold ixO at e
  split at e
  · rename_i xs i
    obtain ⟨v, w, B1, B2, rfl, o1, o2, _⟩ := o.two
    obtain ⟨a, vs, rfl, q1, r1⟩ := o1.tup_inv
    have e2 := o2.int_inv
    subst e2
    cases q : atI xs i with
    | none => rw [q] at e; simp at e
    | some u =>
      rw [q] at e
      simp at e
      obtain ⟨rfl, rfl⟩ := e
      obtain ⟨x, z1, z2⟩ := atI_rep r1 q
      exact ⟨_, _, rfl, .inr (.inl ⟨a, vs, i, x, rfl, rfl, SqT.mono s q1, z1, fin_same s g o z2 k⟩)⟩
  · rename_i ow xs i
    obtain ⟨v, w, B1, B2, rfl, o1, o2, d12, m1, m2⟩ := o.two
    have e2 := o2.int_inv
    subst e2
    cases q : ixN xs.length i with
    | none => rw [q] at e; simp at e
    | some j =>
      rw [q] at e
      simp only [Option.bind_some] at e
      cases q2 : xs[j]? with
      | none => rw [q2] at e; simp at e
      | some u =>
        rw [q2] at e
        simp only [Option.map_some, Option.some.injEq, Prod.mk.injEq] at e
        obtain ⟨rfl, rfl⟩ := e
        obtain ⟨a, vs, rfl, hl, ol, ht, hf⟩ := o1.lst_inv s
        obtain ⟨x, D, z1, z2, z3⟩ := ol.get q2
        have len := ol.length
        have at1 : atI vs i = some x := by unfold atI; rw [len, q]; exact z1
        refine ⟨_, _, rfl, .inl ⟨a, vs, i, x, rfl, rfl, .of hl, at1, ?_⟩⟩
        cases ow with
        | false =>
          obtain ⟨h1, h2⟩ := hf rfl
          obtain ⟨x', y1, y2⟩ := repL_get h2 q2
          rw [z1] at y1
          cases y1
          rw [y2.frz_eq, set_self q2] at k
          exact fin_same s g o y2 k
        | true =>
          cases o1 with
          | frz h => cases h
          | lst h1 h2 h3 h4 h5 =>
            rename_i vs0 B0
            have e3 : vs0 = vs := by rw [hl] at h1; cases h1; rfl
            subst e3
            obtain ⟨D', C, mD, mC, dD, rp, oC⟩ := ownL_frz1 s h2 z1 q2
            have nD : ¬ D' a := fun y => h4 (mD a y)
            have gB : ∀ p, (p = a ∨ C p) → B p := fun p y => y.elim (fun z => by rw [z]; exact m1 a h3) fun z => m1 p (h5 p (mC p z))
            refine k (frzF F H D') H (fun p => p = a ∨ C p) A0 x (frzF_sub s) (fun p y => ⟨?_, (g p (gB p y)).2⟩) Good.a0 (.cons (B := fun p => p = a ∨ C p) (C := A0) (.lst h1 oC (.inl rfl) (fun y => h4 (mC a y)) fun p y => .inr y) (.cons (B := A0) (C := A0) (.frz (.int i)) .nil (fun _ y => y.elim) (fun _ y => y.elim) fun _ y => y.elim) (fun _ _ y => y.elim) (fun _ y => y) fun _ y => y.elim) (.frz rp) (fun _ _ y => y) ⟨fun _ _ _ y => y, frzF_same s, fun p u y => ?_, fun p y => y.elim (fun z => .inl (gB p z)) fun z => z.elim⟩
            · rw [frzF_out (y.elim (fun z => by rw [z]; exact nD) fun z w => dD p w z)]
              exact (g p (gB p y)).1
            · by_cases q : D' p
              · exact .inr (.inl (m1 p (h5 p (mD p q))))
              · rw [frzF_out q] at y; exact .inl y
  · rename_i z i
    obtain ⟨v, w, B1, B2, rfl, o1, o2, _⟩ := o.two
    have e1 := o1.str_inv
    have e2 := o2.int_inv
    subst e1 e2
    split at e
    · rename_i hz
      cases q : atI z.cps.toList i with
      | none => rw [q] at e; simp at e
      | some c =>
        rw [q] at e
        simp only [Option.map_some, Option.some.injEq, Prod.mk.injEq] at e
        obtain ⟨rfl, rfl⟩ := e
        exact ⟨_, _, rfl, .inr (.inr ⟨z, i, c, rfl, rfl, hz, q, fin_same s g o (.str _) k⟩)⟩
    · cases e
  · rename_i ks i
    obtain ⟨v, w, B1, B2, rfl, o1, o2, _⟩ := o.two
    have e2 := o2.int_inv
    subst e2
    cases q : atI ks i with
    | none => rw [q] at e; cases e
    | some c =>
      rw [q] at e
      simp only [Option.map_some, Option.some.injEq, Prod.mk.injEq] at e
      obtain ⟨rfl, rfl⟩ := e
      cases o1 with
      | frz h =>
        cases h with
        | kt h =>
          refine ⟨_, _, rfl, .inr (.inl ⟨_, _, i, kV c, rfl, rfl, .of (s _ _ h), ?_, fin_same s g o ?_ k⟩)⟩
          · unfold atI at q ⊢
            rw [List.length_map]
            cases q2 : ixN ks.length i with
            | none => rw [q2] at q; cases q
            | some j =>
              rw [q2] at q
              simp only [Option.bind_some] at q ⊢
              rw [List.getElem?_map, q]; rfl
          · cases c
            · exact .int _
            · exact .str _
  · cases e
end

/-! ### lengths, ==, is, in -/
def lenO : Op := fun ts => match ts with
  | [.tup xs] => some (.int xs.length, ts)
  | [.lst _ xs] => some (.int xs.length, ts)
  | [.str z] => if z.length ≤ sizeLine then some (.int z.length, ts) else none
  | [.dk _ ks _] => some (.int ks.length, ts)
  | _ => none
mutual
def T.dat : T → Option PyData
  | .non => some .none
  | .bl b => some (.bool b)
  | .int i => some (.int i)
  | .str s => some (.str s)
  | .tup ts => (datL ts).map .tuple
  | .lst _ ts => (datL ts).map .list
  | _ => none
def datL : List T → Option (List PyData)
  | [] => some []
  | t :: ts => t.dat.bind fun d => (datL ts).map (d :: ·)
end
def eqO (neg : Bool) : Op := fun ts => match ts with
  | [x, y] => x.dat.bind fun d => y.dat.bind fun e => if SeqAt.shaped d = true ∧ SeqAt.shaped e = true then some (.bl (neg != PyData.eqv d e), ts) else none
  | _ => none
def T.isNon : T → Bool
  | .non => true
  | _ => false
def isnO (neg : Bool) : Op := fun ts => match ts with
  | [x, .non] => some (.bl (neg != x.isNon), ts)
  | _ => none
def isbO (neg : Bool) : Op := fun ts => match ts with
  | [.bl a, .bl b] => some (.bl (neg != decide (a = b)), ts)
  | _ => none
/-- flat values -/
def T.fl : T → Option V
  | .non => some .non
  | .bl b => some (.bl b)
  | .int i => some (.int i)
  | .str s => some (.str s)
  | _ => none
def flL : List T → Option (List V)
  | [] => some []
  | t :: ts => t.fl.bind fun v => (flL ts).map (v :: ·)
def inO (neg : Bool) : Op := fun ts => match ts with
  | [x, .tup ys] => x.fl.bind fun v => (flL ys).map fun vs => (.bl (neg != inV v vs), ts)
  | [x, .lst _ ys] => x.fl.bind fun v => (flL ys).map fun vs => (.bl (neg != inV v vs), ts)
  | _ => none
section
variable {K : PySem.W.Frag} {mg : Str → Option Value} {F H : Hp}
mutual
theorem Own.dp (s : Same F H) : ∀ (t : T) (v : V) (A : AP) (d : PyData), Own K mg F H v t A → t.dat = some d → Dp K H v d
  | .non, _, _, _, h, e => by cases h.non_inv; cases e; exact .non
  | .bl b, _, _, _, h, e => by cases h.bl_inv; cases e; exact .bl b
  | .int i, _, _, _, h, e => by cases h.int_inv; cases e; exact .int i
  | .str x, _, _, _, h, e => by cases h.str_inv; cases e; exact .str x
  | .tup ts, _, A, _, h, e => by
    obtain ⟨a, vs, rfl, q, r⟩ := h.tup_inv
    unfold T.dat at e
    cases z : datL ts with
    | none => rw [z] at e; simp at e
    | some ds =>
      rw [z] at e
      simp at e
      subst e
      exact .tup (SqT.mono s q) (OwnL.dp s ts vs A0 ds (.of_rep r) z)
  | .lst o ts, _, A, _, h, e => by
    obtain ⟨a, vs, rfl, q, r, _⟩ := h.lst_inv s
    unfold T.dat at e
    cases z : datL ts with
    | none => rw [z] at e; simp at e
    | some ds =>
      rw [z] at e
      simp at e
      subst e
      exact .lst (.of q) (OwnL.dp s ts vs A ds r z)
  | .ty _, _, _, _, _, e => by cases e
  | .gl _, _, _, _, _, e => by cases e
  | .kt _, _, _, _, _, e => by cases e
  | .scr _, _, _, _, _, e => by cases e
  | .dk _ _ _, _, _, _, _, e => by cases e
  | .dt _ _ _, _, _, _, _, e => by cases e
  | .ins _ _ _ _, _, _, _, _, e => by cases e
  | .ex _ _, _, _, _, _, e => by cases e
theorem OwnL.dp (s : Same F H) : ∀ (ts : List T) (vs : List V) (A : AP) (ds : List PyData), OwnL K mg F H vs ts A → datL ts = some ds → DpAll K H vs ds
  | [], _, _, _, h, e => by cases h; cases e; exact .nil
  | t :: ts, _, _, ds, h, e => by
    cases h with
    | cons h1 h2 _ _ _ =>
      unfold datL at e
      cases z : t.dat with
      | none => rw [z] at e; simp at e
      | some d =>
        cases z2 : datL ts with
        | none => rw [z, z2] at e; simp at e
        | some ds' =>
          rw [z, z2] at e
          simp at e
          subst e
          exact .cons (Own.dp s t _ _ d h1 z) (OwnL.dp s ts _ _ ds' h2 z2)
end
theorem Own.fl {t : T} {v w : V} {A : AP} (h : Own K mg F H v t A) (e : t.fl = some w) : v = w ∧ flatV w = true := by
  cases t <;> simp [T.fl] at e
  · subst e; exact ⟨h.non_inv, rfl⟩
  · subst e; exact ⟨h.bl_inv, rfl⟩
  · subst e; exact ⟨h.int_inv, rfl⟩
  · subst e; exact ⟨h.str_inv, rfl⟩
theorem OwnL.fl : ∀ {ts : List T} {vs ws : List V} {A : AP}, OwnL K mg F H vs ts A → flL ts = some ws → vs = ws ∧ ws.all flatV = true
  | [], _, _, _, h, e => by cases h; cases e; exact ⟨rfl, rfl⟩
  | t :: ts, _, ws, _, h, e => by
    cases h with
    | cons h1 h2 _ _ _ =>
      unfold flL at e
      cases z : t.fl with
      | none => rw [z] at e; simp at e
      | some d =>
        cases z2 : flL ts with
        | none => rw [z, z2] at e; simp at e
        | some ds' =>
          rw [z, z2] at e
          simp at e
          subst e
          obtain ⟨e1, f1⟩ := h1.fl z
          obtain ⟨e2, f2⟩ := h2.fl z2
          subst e1 e2
          exact ⟨rfl, by simp [f1, f2]⟩
theorem Own.isNon {t : T} {v : V} {A : AP} (h : Own K mg F H v t A) : decide (v = .non) = t.isNon := by
  cases t with
  | non => cases h.non_inv; rfl
  | bl b => cases h.bl_inv; rfl
  | int b => cases h.int_inv; rfl
  | str b => cases h.str_inv; rfl
  | ty n => cases h.ty_inv; rfl
  | gl c => obtain ⟨a, rfl, _⟩ := h.gl_inv; rfl
  | scr ns => cases h with | frz h => cases h; rfl
  | kt ks => cases h with | frz h => cases h; rfl
  | ex ks ts => cases h with | frz h => cases h; rfl
  | tup ts => obtain ⟨a, vs, rfl, _⟩ := h.tup_inv; rfl
  | lst o ts => cases h with
    | frz h => cases h; rfl
    | lst => rfl
  | dk o ks ts => cases h with
    | frz h => cases h; rfl
    | dk => rfl
  | dt o ks ts => cases h with
    | frz h => cases h; rfl
    | dt => rfl
  | ins o c ks ts => cases h with
    | frz h => cases h; rfl
    | ins => rfl
theorem Own.dk_inv (s : Same F H) {v : V} {o : Bool} {ks : List Key} {ts : List T} {A : AP} (h : Own K mg F H v (.dk o ks ts) A) : ∃ a kvs, v = .ref a ∧ H a = some (.dK kvs) ∧ kvs.map (·.1) = ks ∧ OwnL K mg F H (kvs.map (·.2)) ts A ∧ (o = true → A a) ∧ (o = false → F a = some (.dK kvs) ∧ Paired (Rep K mg F) (kvs.map (·.2)) ts) := by
  cases h with
  | frz h =>
    cases h with
    | dk h1 h0 h2 => exact ⟨_, _, rfl, s _ _ h1, h0, OwnL.of_rep h2, fun z => (by cases z), fun _ => ⟨h1, h2⟩⟩
  | dk h1 h0 h2 h3 h4 h5 => exact ⟨_, _, rfl, h1, h0, OwnL.mono (fun _ _ x => x) _ _ _ _ h2 (fun _ _ _ x => x) h5, fun _ => h3, fun z => (by cases z)⟩
end
section
variable {X : Cx}
def rLen (K : PySem.W.Frag) : List V → Hp → VK → Prop := fun xs H Q => (∃ x n, xs = [x] ∧ LenV K x H n ∧ Q (.int n) H) ∨ (∃ a kvs, xs = [V.ref a] ∧ H a = some (.dK kvs) ∧ Q (.int kvs.length) H)
theorem cr_len : CallR X (.builtin "len") (rLen X.K) := call_len.or call_lenD
theorem lenO_ok : OpS X.K X.mg lenO (rLen X.K) := OpS.same fun F H vs ts B t ts' s o e => by
  unfold lenO at e
  split at e
  · cases e
    obtain ⟨v, rfl, o1⟩ := o.one
    obtain ⟨a, vs, rfl, q, r⟩ := o1.tup_inv
    exact ⟨rfl, _, .int _, fun Q k => .inl ⟨_, _, rfl, .inr ⟨vs, SqT.mono s q, rfl⟩, by rw [r.length]; exact k⟩⟩
  · cases e
    obtain ⟨v, rfl, o1⟩ := o.one
    obtain ⟨a, vs, rfl, q, r, _⟩ := o1.lst_inv s
    exact ⟨rfl, _, .int _, fun Q k => .inl ⟨_, _, rfl, .inl ⟨vs, .of q, rfl⟩, by rw [r.length]; exact k⟩⟩
  · split at e
    · cases e
      obtain ⟨v, rfl, o1⟩ := o.one
      have e1 := o1.str_inv
      subst e1
      exact ⟨rfl, _, .int _, fun Q k => .inl ⟨_, _, rfl, ⟨by assumption, rfl⟩, k⟩⟩
    · cases e
  · cases e
    obtain ⟨v, rfl, o1⟩ := o.one
    obtain ⟨a, kvs, rfl, q, r, _⟩ := o1.dk_inv s
    exact ⟨rfl, _, .int _, fun Q k => .inr ⟨_, kvs, rfl, q, by rw [← List.length_map (f := (·.1)) (as := kvs), r]; exact k⟩⟩
  · cases e
theorem eqO_ok {neg : Bool} {r : R2} (h : ∀ x y H (Q : VK) d e, Dp X.K H x d → Dp X.K H y e → SeqAt.shaped d = true → SeqAt.shaped e = true → Q (.bl (neg != PyData.eqv d e)) H → r x y H Q) : OpS X.K X.mg (eqO neg) fun vs H Q => ∃ x y, vs = [x, y] ∧ r x y H Q :=
  OpS.same fun F H vs ts B t ts' s o e => by
    unfold eqO at e
    split at e
    · rename_i x y
      obtain ⟨v, w, B1, B2, rfl, o1, o2, _⟩ := o.two
      cases q1 : x.dat with
      | none => rw [q1] at e; simp at e
      | some d =>
        cases q2 : y.dat with
        | none => rw [q1, q2] at e; simp at e
        | some d2 =>
          rw [q1, q2] at e
          simp only [Option.bind_some] at e
          split at e
          · rename_i c
            cases e
            exact ⟨rfl, _, .bl _, fun Q k => ⟨_, _, rfl, h _ _ _ _ d d2 (Own.dp s _ _ _ _ o1 q1) (Own.dp s _ _ _ _ o2 q2) c.1 c.2 k⟩⟩
          · cases e
    · cases e
theorem opEq_ok : OpS X.K X.mg (eqO false) fun vs H Q => ∃ x y, vs = [x, y] ∧ rEqD X.K x y H Q := eqO_ok fun x y H Q d e h1 h2 s1 s2 k => ⟨d, e, h1, h2, s1, s2, by simpa using k⟩
theorem opNe_ok : OpS X.K X.mg (eqO true) fun vs H Q => ∃ x y, vs = [x, y] ∧ rNeD X.K x y H Q := eqO_ok fun x y H Q d e h1 h2 s1 s2 k => ⟨d, e, h1, h2, s1, s2, by simpa using k⟩
theorem opIsn_ok : OpS X.K X.mg (isnO false) fun vs H Q => ∃ x y, vs = [x, y] ∧ (y = V.non ∧ Q (.bl (decide (x = .non))) H) := OpS.same fun F H vs ts B t ts' s o e => by
  unfold isnO at e
  split at e
  · cases e
    obtain ⟨v, w, B1, B2, rfl, o1, o2, _⟩ := o.two
    exact ⟨rfl, _, .bl _, fun Q k => ⟨_, _, rfl, o2.non_inv, by rw [o1.isNon]; simpa using k⟩⟩
  · cases e
theorem opNotn_ok : OpS X.K X.mg (isnO true) fun vs H Q => ∃ x y, vs = [x, y] ∧ (y = V.non ∧ Q (.bl (!decide (x = .non))) H) := OpS.same fun F H vs ts B t ts' s o e => by
  unfold isnO at e
  split at e
  · cases e
    obtain ⟨v, w, B1, B2, rfl, o1, o2, _⟩ := o.two
    exact ⟨rfl, _, .bl _, fun Q k => ⟨_, _, rfl, o2.non_inv, by rw [o1.isNon]; simpa using k⟩⟩
  · cases e
theorem opIsb_ok : OpS X.K X.mg (isbO false) fun vs H Q => ∃ x y, vs = [x, y] ∧ rIsB x y H Q := OpS.same fun F H vs ts B t ts' s o e => by
  unfold isbO at e
  split at e
  · cases e
    obtain ⟨v, w, B1, B2, rfl, o1, o2, _⟩ := o.two
    exact ⟨rfl, _, .bl _, fun Q k => ⟨_, _, rfl, _, _, o1.bl_inv, o2.bl_inv, by simpa using k⟩⟩
  · cases e
theorem opNotb_ok : OpS X.K X.mg (isbO true) fun vs H Q => ∃ x y, vs = [x, y] ∧ rNotB x y H Q := OpS.same fun F H vs ts B t ts' s o e => by
  unfold isbO at e
  split at e
  · cases e
    obtain ⟨v, w, B1, B2, rfl, o1, o2, _⟩ := o.two
    exact ⟨rfl, _, .bl _, fun Q k => ⟨_, _, rfl, _, _, o1.bl_inv, o2.bl_inv, by simpa using k⟩⟩
  · cases e
theorem inO_ok {neg : Bool} : OpS X.K X.mg (inO neg) fun vs H Q => ∃ x y, vs = [x, y] ∧ rIn X.K neg x y H Q := OpS.same fun F H vs ts B t ts' s o e => by
  have fin : ∀ {b : Bool} {z : Bool}, (if b = true then !z else z) = (b != z) := by intro b z; cases b <;> cases z <;> rfl
  unfold inO at e
  split at e
  · rename_i x ys
    obtain ⟨v, w, B1, B2, rfl, o1, o2, _⟩ := o.two
    cases q1 : x.fl with
    | none => rw [q1] at e; simp at e
    | some d =>
      cases q2 : flL ys with
      | none => rw [q1, q2] at e; simp at e
      | some ds =>
        rw [q1, q2] at e
        simp only [Option.bind_some, Option.map_some, Option.some.injEq, Prod.mk.injEq] at e
        obtain ⟨rfl, rfl⟩ := e
        obtain ⟨a, vs, rfl, q, r⟩ := o2.tup_inv
        obtain ⟨e1, f1⟩ := o1.fl q1
        obtain ⟨e2, f2⟩ := OwnL.fl (H := H) (A := A0) (.of_rep r) q2
        subst e1 e2
        exact ⟨rfl, _, .bl _, fun Q k => ⟨_, _, rfl, a, _, rfl, .inr (SqT.mono s q), f1, f2, by rw [fin]; exact k⟩⟩
  · rename_i x ow ys
    obtain ⟨v, w, B1, B2, rfl, o1, o2, _⟩ := o.two
    cases q1 : x.fl with
    | none => rw [q1] at e; simp at e
    | some d =>
      cases q2 : flL ys with
      | none => rw [q1, q2] at e; simp at e
      | some ds =>
        rw [q1, q2] at e
        simp only [Option.bind_some, Option.map_some, Option.some.injEq, Prod.mk.injEq] at e
        obtain ⟨rfl, rfl⟩ := e
        obtain ⟨a, vs, rfl, q, r, _⟩ := o2.lst_inv s
        obtain ⟨e1, f1⟩ := o1.fl q1
        obtain ⟨e2, f2⟩ := r.fl q2
        subst e1 e2
        exact ⟨rfl, _, .bl _, fun Q k => ⟨_, _, rfl, a, _, rfl, .inl (.of q), f1, f2, by rw [fin]; exact k⟩⟩
  · cases e
end

/-! ### the built-ins -/
def intO : Op := fun ts => match ts with
  | [.int i] => some (.int i, ts)
  | [.bl b] => some (.int (if b then 1 else 0), ts)
  | _ => none
def absO : Op := fun ts => match ts with
  | [.int i] => some (.int (if i < 0 then -i else i), ts)
  | _ => none
def max2O : Op := i2 fun i j => some (.int (if j > i then j else i))
def min2O : Op := i2 fun i j => some (.int (if j < i then j else i))
def negO : Op := fun ts => match ts with
  | [.int i] => some (.int (-i), ts)
  | _ => none
def allO : Op := fun ts => match ts with
  | [.lst _ xs] => (bls? xs).map fun bs => (.bl (bs.all id), ts)
  | _ => none
def anyO : Op := fun ts => match ts with
  | [.lst _ xs] => (bls? xs).map fun bs => (.bl (bs.any id), ts)
  | _ => none
/-- the least, the greatest of ints -/
def leastI : List Int → Int
  | [] => 0
  | x :: xs => xs.foldl (fun m y => if y < m then y else m) x
def greatestI : List Int → Int
  | [] => 0
  | x :: xs => xs.foldl (fun m y => if m < y then y else m) x
/-! ### min of a list of tuples of ints -/
def tuD (z : List Int) : PyData := .tuple (z.map PyData.int)
def leastL : List (List Int) → List Int
  | [] => []
  | z :: zs => zs.foldl (fun a y => if PySem.W.listLt y a = true then y else a) z
theorem leastL_of (z : List Int) (zs : List (List Int)) : (PySem.W.minOf (PySem.W.Tup.mk z) (zs.map PySem.W.Tup.mk)).items = leastL (z :: zs) := by
  show _ = zs.foldl (fun a y => if PySem.W.listLt y a = true then y else a) z
  unfold PySem.W.minOf
  induction zs generalizing z with
  | nil => rfl
  | cons y ys ih =>
    rw [List.map_cons, List.foldl_cons, List.foldl_cons]
    show (List.foldl _ (if PySem.W.listLt y z = true then PySem.W.Tup.mk y else PySem.W.Tup.mk z) _).items = _
    by_cases c : PySem.W.listLt y z = true
    · rw [if_pos c, if_pos c]
      exact ih y
    · rw [if_neg c, if_neg c]
      exact ih z
theorem tuD_inj {x y : List Int} (h : tuD x = tuD y) : x = y := by
  have h : x.map PyData.int = y.map PyData.int := by injection h
  exact List.map_inj_right (fun a b e => by injection e) |>.mp h
def tups? : List T → Option (List (List Int))
  | [] => some []
  | .tup xs :: ts => (ints? xs).bind fun ns => (tups? ts).map (ns :: ·)
  | _ :: _ => none
def minIO : Op := fun ts => match ts with
  | [.lst _ xs] => match ints? xs with
    | some ns => if 0 < ns.length then some (.int (leastI ns), ts) else none
    | none => (tups? xs).bind fun zs => if 0 < zs.length then some (.tup ((leastL zs).map T.int), ts) else none
  | _ => none
def maxIO : Op := fun ts => match ts with
  | [.lst _ xs] => (ints? xs).bind fun ns => if 0 < ns.length then some (.int (greatestI ns), ts) else none
  | _ => none
def tupO : Op := kidO fun ts => match ts with
  | [.lst _ xs] => some (.tup xs, ts)
  | [.tup xs] => some (.tup xs, ts)
  | _ => none
def listO : Op := kidO fun ts => match ts with
  | [.lst _ xs] => some (.lst true xs, ts)
  | [.tup xs] => some (.lst true xs, ts)
  | _ => none
theorem leastI_spec : ∀ (x : Int) (xs : List Int), (xs.foldl (fun m y => if y < m then y else m) x ∈ x :: xs) ∧ ∀ y ∈ x :: xs, xs.foldl (fun m y => if y < m then y else m) x ≤ y
  | x, [] => ⟨by simp, by simp⟩
  | x, z :: xs => by
    have key : ∀ m0 : Int, (m0 = x ∨ m0 = z) → m0 ≤ x → m0 ≤ z → (xs.foldl (fun m y => if y < m then y else m) m0 ∈ x :: z :: xs) ∧ ∀ y ∈ x :: z :: xs, xs.foldl (fun m y => if y < m then y else m) m0 ≤ y := fun m0 hm h1 h2 => by
      obtain ⟨k1, k2⟩ := leastI_spec m0 xs
      have k0 := k2 m0 List.mem_cons_self
      refine ⟨?_, fun y hy => ?_⟩
      · rcases List.mem_cons.mp k1 with h | h
        · rw [h]; rcases hm with h | h <;> rw [h] <;> simp
        · exact List.mem_cons_of_mem _ (List.mem_cons_of_mem _ h)
      · rcases List.mem_cons.mp hy with h | h
        · subst h; omega
        · rcases List.mem_cons.mp h with h | h
          · subst h; omega
          · exact k2 y (List.mem_cons_of_mem _ h)
    exact key (if z < x then z else x) (by split <;> simp) (by split <;> omega) (by split <;> omega)

theorem greatestI_spec : ∀ (x : Int) (xs : List Int), (xs.foldl (fun m y => if m < y then y else m) x ∈ x :: xs) ∧ ∀ y ∈ x :: xs, y ≤ xs.foldl (fun m y => if m < y then y else m) x
  | x, [] => ⟨by simp, by simp⟩
  | x, z :: xs => by
    have key : ∀ m0 : Int, (m0 = x ∨ m0 = z) → x ≤ m0 → z ≤ m0 → (xs.foldl (fun m y => if m < y then y else m) m0 ∈ x :: z :: xs) ∧ ∀ y ∈ x :: z :: xs, y ≤ xs.foldl (fun m y => if m < y then y else m) m0 := fun m0 hm h1 h2 => by
      obtain ⟨k1, k2⟩ := greatestI_spec m0 xs
      have k0 := k2 m0 List.mem_cons_self
      refine ⟨?_, fun y hy => ?_⟩
      · rcases List.mem_cons.mp k1 with h | h
        · rw [h]; rcases hm with h | h <;> rw [h] <;> simp
        · exact List.mem_cons_of_mem _ (List.mem_cons_of_mem _ h)
      · rcases List.mem_cons.mp hy with h | h
        · subst h; omega
        · rcases List.mem_cons.mp h with h | h
          · subst h; omega
          · exact k2 y (List.mem_cons_of_mem _ h)
    exact key (if x < z then z else x) (by split <;> simp) (by split <;> omega) (by split <;> omega)

section
variable {X : Cx}
def rInt1 : List V → Hp → VK → Prop := fun xs H Q => (∃ i, xs = [.int i] ∧ Q (.int i) H) ∨ ∃ k, xs = [.bl k] ∧ Q (.int (if k then 1 else 0)) H
theorem intO_ok : OpS X.K X.mg intO rInt1 := OpS.same fun F H vs ts B t ts' s o e => by
  unfold intO at e
  split at e
  · cases e
    obtain ⟨v, rfl, o1⟩ := o.one
    exact ⟨rfl, _, .int _, fun Q k => .inl ⟨_, by rw [o1.int_inv], k⟩⟩
  · cases e
    obtain ⟨v, rfl, o1⟩ := o.one
    exact ⟨rfl, _, .int _, fun Q k => .inr ⟨_, by rw [o1.bl_inv], k⟩⟩
  · cases e
theorem absO_ok : OpS X.K X.mg absO fun xs H Q => ∃ i, xs = [.int i] ∧ Q (.int (if i < 0 then -i else i)) H := OpS.same fun F H vs ts B t ts' s o e => by
  unfold absO at e
  split at e
  · cases e
    obtain ⟨v, rfl, o1⟩ := o.one
    exact ⟨rfl, _, .int _, fun Q k => ⟨_, by rw [o1.int_inv], k⟩⟩
  · cases e
theorem negO_ok : OpS X.K X.mg negO fun vs H Q => ∃ x, vs = [x] ∧ rU (fun i => .int (-i)) x H Q := OpS.same fun F H vs ts B t ts' s o e => by
  unfold negO at e
  split at e
  · cases e
    obtain ⟨v, rfl, o1⟩ := o.one
    exact ⟨rfl, _, .int _, fun Q k => ⟨_, rfl, _, o1.int_inv, k⟩⟩
  · cases e
theorem i2_okC {g : Int → Int → Option T} {r : List V → Hp → VK → Prop} (h : ∀ F i j t, g i j = some t → ∃ v, Rep X.K X.mg F v t ∧ ∀ H (Q : VK), Q v H → r [.int i, .int j] H Q) : OpS X.K X.mg (i2 g) r := OpS.same fun F H vs ts B t ts' s o e => by
  unfold i2 at e
  split at e
  · rename_i i j
    obtain ⟨v, w, B1, B2, rfl, o1, o2, _⟩ := o.two
    rw [o1.int_inv, o2.int_inv]
    cases q : g i j with
    | none => rw [q] at e; simp at e
    | some u =>
      rw [q] at e
      simp at e
      obtain ⟨rfl, rfl⟩ := e
      obtain ⟨v, rp, hq⟩ := h F i j u q
      exact ⟨rfl, v, rp, fun Q z => hq H Q z⟩
  · cases e
theorem max2_ok : OpS X.K X.mg max2O fun xs H Q => ∃ i j, xs = [.int i, .int j] ∧ Q (.int (if j > i then j else i)) H := i2_okC fun F i j t e => by cases e; exact ⟨_, .int _, fun H Q k => ⟨i, j, rfl, k⟩⟩
theorem min2_ok : OpS X.K X.mg min2O fun xs H Q => ∃ i j, xs = [.int i, .int j] ∧ Q (.int (if j < i then j else i)) H := i2_okC fun F i j t e => by cases e; exact ⟨_, .int _, fun H Q k => ⟨i, j, rfl, k⟩⟩
theorem allO_ok : OpS X.K X.mg allO (rAll X.K) := OpS.same fun F H vs ts B t ts' s o e => by
  unfold allO at e
  split at e
  · rename_i ow xs
    cases q : bls? xs with
    | none => rw [q] at e; simp at e
    | some bs =>
      rw [q] at e
      cases e
      obtain ⟨v, rfl, o1⟩ := o.one
      obtain ⟨a, vs, rfl, hl, ol, _⟩ := o1.lst_inv s
      have e1 := bls?_some q
      subst e1
      exact ⟨rfl, _, .bl _, fun Q k => ⟨a, bs, rfl, by rw [← ownL_bls ol]; exact .of hl, k⟩⟩
  · cases e
theorem anyO_ok : OpS X.K X.mg anyO (rAny X.K) := OpS.same fun F H vs ts B t ts' s o e => by
  unfold anyO at e
  split at e
  · rename_i ow xs
    cases q : bls? xs with
    | none => rw [q] at e; simp at e
    | some bs =>
      rw [q] at e
      cases e
      obtain ⟨v, rfl, o1⟩ := o.one
      obtain ⟨a, vs, rfl, hl, ol, _⟩ := o1.lst_inv s
      have e1 := bls?_some q
      subst e1
      exact ⟨rfl, _, .bl _, fun Q k => ⟨a, bs, rfl, by rw [← ownL_bls ol]; exact .of hl, k⟩⟩
  · cases e
def rMinT (K : PySem.W.Frag) : List V → Hp → VK → Prop := fun vs H Q => ∃ (a : Addr) (ws : List V) (z : List Int) (zs : List (List Int)), vs = [V.ref a] ∧ SqL K H a ws ∧ DpAll K H ws ((z :: zs).map tuD) ∧ ∀ (i : Nat) (v : V), ws[i]? = some v → (z :: zs)[i]? = some (leastL (z :: zs)) → Q v H
theorem cr_minT {X : Cx} (hc : X.calm = true) (hu : X.A.units + 65 < cLine) : CallR X (.builtin "min") (rMinT X.K) := by
  intro pins s σ H vs us Q I r h
  obtain ⟨a, ws, z, zs, rfl, hs, hd, q⟩ := h
  obtain ⟨its, rv, hl, _⟩ := I.list hs
  rw [Vals.ref1 r]
  obtain ⟨as, rs⟩ := Dp.readsAll I _ ws its hd rv
  have em : (PySem.W.Tup.mk z :: zs.map PySem.W.Tup.mk).map PySem.W.Datum.toD = (z :: zs).map tuD := by
    rw [List.map_cons, List.map_map]; rfl
  refine PySem.W.min_list_datum (x := PySem.W.Tup.mk z) (xs := zs.map PySem.W.Tup.mk) (vs := its.toArray) (I.ok.hd hc) hl.isList ⟨as, by rw [em]; exact rs⟩ (by
    have : PySem.W.Datum.depth (PySem.W.Tup Int) = 1 := rfl
    omega) fun i v h' tk hi hh hk => ?_
  have hi : its[i]? = some v := by simpa using hi
  obtain ⟨bs, rd, li, _, _⟩ := PySem.W.readsAll_at rs i v hi
  have rd := PySem.W.reads_keeps hk rd
  obtain ⟨cs, rm⟩ := hh
  have e1 : ((z :: zs).map tuD).getD i .none = tuD (leastL (z :: zs)) := by
    rw [← leastL_of]
    have a1 := SeqAt.readOf_plain (PySem.W.Datum.plain _) rm
    have li2 : i < (z :: zs).length := by rw [List.length_map] at li; exact li
    have e2 : ((z :: zs).map tuD).getD i .none = PySem.W.Datum.toD (PySem.W.Tup.mk (z :: zs)[i]) := by
      rw [List.getD_eq_getElem?_getD, List.getElem?_map, List.getElem?_eq_getElem li2]; rfl
    rw [e2] at rd ⊢
    have a2 := SeqAt.readOf_plain (PySem.W.Datum.plain _) rd
    rw [← a2, a1]; rfl
  have li2 : i < (z :: zs).length := by rw [List.length_map] at li; exact li
  have e3 : (z :: zs)[i]? = some (leastL (z :: zs)) := by
    rw [List.getD_eq_getElem?_getD, List.getElem?_map, List.getElem?_eq_getElem li2] at e1
    rw [List.getElem?_eq_getElem li2]
    exact congrArg some (tuD_inj e1)
  have lw : i < ws.length := by
    have := rv.length
    have := (List.getElem?_eq_some_iff.mp hi).1
    omega
  obtain ⟨u, hu1, hu2⟩ := rv.get (List.getElem?_eq_getElem lw)
  rw [hi] at hu1
  cases hu1
  exact ⟨_, H, I.kept hk, hu2, q i _ (List.getElem?_eq_getElem lw) e3⟩
theorem datL_intT : ∀ z : List Int, datL (z.map T.int) = some (z.map PyData.int)
  | [] => rfl
  | x :: z => by
    show (T.int x).dat.bind _ = _
    show (datL (z.map T.int)).map _ = _
    rw [datL_intT z]; rfl
theorem datL_tups : ∀ zs : List (List Int), datL (zs.map fun z => T.tup (z.map T.int)) = some (zs.map tuD)
  | [] => rfl
  | z :: zs => by
    show (T.tup (z.map T.int)).dat.bind _ = _
    show ((datL (z.map T.int)).map _).bind _ = _
    rw [datL_intT z]
    show (datL (zs.map _)).map _ = _
    rw [datL_tups zs]; rfl
theorem tups?_some : ∀ {xs : List T} {zs : List (List Int)}, tups? xs = some zs → xs = zs.map fun z => T.tup (z.map T.int)
  | [], zs, h => by
    unfold tups? at h
    cases h; rfl
  | .tup xs :: ts, zs, h => by
    unfold tups? at h
    cases q : ints? xs with
    | none => rw [q] at h; cases h
    | some ns =>
      rw [q] at h
      simp only [Option.bind_some] at h
      cases q2 : tups? ts with
      | none => rw [q2] at h; cases h
      | some zs' =>
        rw [q2] at h
        cases h
        rw [List.map_cons, ← tups?_some q2, ints?_some q]
theorem minIO_ok : OpS X.K X.mg minIO (fun vs H Q => rMin X.K vs H Q ∨ rMinT X.K vs H Q) := fun F H vs ts B t ts' s g o e Q k => by
  unfold minIO at e
  split at e
  · rename_i ow xs
    split at e
    · rename_i ns q
      split at e
      · rename_i hpos
        cases e
        obtain ⟨v, rfl, o1⟩ := o.one
        obtain ⟨a, vs, rfl, hl, ol, _⟩ := o1.lst_inv s
        have e1 := ints?_some q
        subst e1
        refine .inl ⟨a, ns, rfl, by rw [← ownL_ints ol]; exact .of hl, hpos, fun m hm hl' => ?_⟩
        cases ns with
        | nil => exact absurd hpos (by simp)
        | cons x xs =>
          obtain ⟨h1, h2⟩ := leastI_spec x xs
          have : m = leastI (x :: xs) := Int.le_antisymm (hl' _ h1) (h2 m hm)
          rw [this]
          exact fin_same s g o (.int _) k
      · cases e
    · cases q : tups? xs with
      | none => rw [q] at e; cases e
      | some zs =>
        rw [q] at e
        simp only [Option.bind_some] at e
        split at e
        · rename_i hpos
          cases e
          obtain ⟨v, rfl, o1⟩ := o.one
          obtain ⟨a, vs, rfl, hl, ol, _⟩ := o1.lst_inv s
          have e1 := tups?_some q
          subst e1
          cases zs with
          | nil => exact absurd hpos (by simp)
          | cons z zs =>
            refine .inr ⟨a, vs, z, zs, rfl, .of hl, OwnL.dp s _ _ _ _ ol (datL_tups (z :: zs)), fun i v hv he => ?_⟩
            obtain ⟨v', B', ev, ov, _⟩ := ol.get (i := i) (t := T.tup ((leastL (z :: zs)).map T.int)) (by rw [List.getElem?_map, he]; rfl)
            rw [hv] at ev
            cases ev
            cases ov with
            | frz r => exact fin_same s g o r k
        · cases e
  · cases e
theorem cr_minA (hc : X.calm = true) (hu : X.A.units + 65 < cLine) : CallR X (.builtin "min") (fun vs H Q => rMin X.K vs H Q ∨ rMinT X.K vs H Q) := (cr_min hc).or (cr_minT hc hu)
theorem maxIO_ok : OpS X.K X.mg maxIO (rMax X.K) := OpS.same fun F H vs ts B t ts' s o e => by
  unfold maxIO at e
  split at e
  · rename_i ow xs
    cases q : ints? xs with
    | none => rw [q] at e; simp at e
    | some ns =>
      rw [q] at e
      simp only [Option.bind_some] at e
      split at e
      · rename_i hpos
        cases e
        obtain ⟨v, rfl, o1⟩ := o.one
        obtain ⟨a, vs, rfl, hl, ol, _⟩ := o1.lst_inv s
        have e1 := ints?_some q
        subst e1
        refine ⟨rfl, _, .int _, fun Q k => ⟨a, ns, rfl, by rw [← ownL_ints ol]; exact .of hl, hpos, fun m hm hl' => ?_⟩⟩
        cases ns with
        | nil => exact absurd hpos (by simp)
        | cons x xs =>
          obtain ⟨h1, h2⟩ := greatestI_spec x xs
          have : m = greatestI (x :: xs) := Int.le_antisymm (h2 m hm) (hl' _ h1)
          rw [this]
          exact k
      · cases e
  · cases e
theorem tupO_ok : OpS X.K X.mg tupO (fun xs H Q => ∃ p ys, xs = [.ref p] ∧ ((SqL X.K H p ys ∧ ∀ l, H l = none → Q (.ref l) (upd H l (.tup ys))) ∨ (SqT X.K H p ys ∧ Q (.ref p) H))) := OpS.kid fun F H vs ts B t ts' s g o e Q k => by
  split at e
  · cases e
    obtain ⟨v, rfl, o1⟩ := o.one
    obtain ⟨a, vs, rfl, q, r⟩ := o1.lst_inv s
    exact ⟨a, vs, rfl, .inl ⟨.of q, fun l n => fin_tup s g o.own r n k⟩⟩
  · cases e
    obtain ⟨v, rfl, o1⟩ := o.one
    obtain ⟨a, vs, rfl, q, r⟩ := o1.tup_inv
    exact ⟨a, vs, rfl, .inr ⟨SqT.mono s q, fin_same s g o.own (.tup q r) k⟩⟩
  · cases e
theorem listO_ok : OpS X.K X.mg listO (fun xs H Q => ∃ p ys, xs = [.ref p] ∧ (SqL X.K H p ys ∨ SqT X.K H p ys) ∧ ∀ l, H l = none → Q (.ref l) (upd H l (.lst ys))) := OpS.kid fun F H vs ts B t ts' s g o e Q k => by
  split at e
  · cases e
    obtain ⟨v, rfl, o1⟩ := o.one
    obtain ⟨a, vs, rfl, q, r⟩ := o1.lst_inv s
    exact ⟨a, vs, rfl, .inl (.of q), fun l n => fin_lst s g o.own r n k⟩
  · cases e
    obtain ⟨v, rfl, o1⟩ := o.one
    obtain ⟨a, vs, rfl, q, r⟩ := o1.tup_inv
    exact ⟨a, vs, rfl, .inr (SqT.mono s q), fun l n => fin_lst s g o.own r n k⟩
  · cases e
end

/-! ### tests; and, or, not; if; chains -/
section
variable {K : PySem.W.Frag} {mg : Str → Option Value} {α β ν μ : Type} {R : St → Hp → Hp → ν → α → AP → Prop} {R' : St → Hp → Hp → μ → β → AP → Prop} {W : XW}
/-- going on from a state that was reached -/
theorem tG.go {σ : St} {F H F1 H1 : Hp} {A A1 B1 : AP} {η1 : Env} {f : Fe α} {g : α → Fe β} {Q : μ → Hp → Prop} {P : ν → Hp → Prop} (S1 : Sit K mg F1 H1 η1 σ A1) (st1 : Step F H A F1 H1 (Un2 A1 B1)) (h : After K mg R' W F H A σ ((f η1).bind g) Q)
    (k : ∀ F2 η2 A2 B2 a v H2, Sit K mg F2 H2 η2 σ A2 → R σ F2 H2 v a B2 → Good F2 H2 B2 → Dis A2 B2 → Step F H A F2 H2 (Un2 A2 B2) → After K mg R' W F H A σ (g a η2) Q → P v H2) : tG K mg R W f σ H1 P := by
  refine ⟨F1, η1, A1, S1, ?_⟩
  have st0 : Step F H A F1 H1 A1 := st1.weak (fun _ x => x) fun p x => .inl x
  cases e : f η1 with
  | ok a η2 =>
    rw [e] at h
    exact fun F2 H2 A2 B2 v s r gd d p => k F2 η2 A2 B2 a v H2 s r gd d (st0.trans p) h
  | exc c ks fs η' =>
    rw [e] at h
    exact fun F2 H2 A2 cls d s p ex => h F2 H2 A2 cls d s (st0.trans p) ex
  | bad =>
    rw [e] at h
    exact h
theorem tG.go1 {σ : St} {F H F1 H1 : Hp} {A A1 B1 : AP} {η1 : Env} {f : Fe β} {Q : μ → Hp → Prop} (S1 : Sit K mg F1 H1 η1 σ A1) (st1 : Step F H A F1 H1 (Un2 A1 B1)) (h : After K mg R' W F H A σ (f η1) Q) : tG K mg R' W f σ H1 Q := by
  refine ⟨F1, η1, A1, S1, ?_⟩
  have st0 : Step F H A F1 H1 A1 := st1.weak (fun _ x => x) fun p x => .inl x
  cases e : f η1 with
  | ok a η2 =>
    rw [e] at h
    exact fun F2 H2 A2 B2 v s r gd d p => h F2 H2 A2 B2 v s r gd d (st0.trans p)
  | exc c ks fs η' =>
    rw [e] at h
    exact fun F2 H2 A2 cls d s p ex => h F2 H2 A2 cls d s (st0.trans p) ex
  | bad =>
    rw [e] at h
    exact h
end
theorem Step.half {F H : Hp} {A : AP} {F1 H1 : Hp} {A1 B1 : AP} (st : Step F H A F1 H1 (Un2 A1 B1)) (B : AP) (h : ∀ p, B p → False) : Step F H A F1 H1 (Un2 A1 B) := st.weak (fun _ x => x) fun p x => x.elim .inl fun y => (h p y).elim
def isB (t : T) : Fe Bool := fun η => match t with
  | .bl b => .ok b η
  | _ => .bad
def tVal (f : Fe T) : Fe Bool := fun η => (f η).bind isB
def tAndF (a b : Fe Bool) : Fe Bool := fun η => (a η).bind fun c η1 => if c = true then b η1 else .ok false η1
def tOrF (a b : Fe Bool) : Fe Bool := fun η => (a η).bind fun c η1 => if c = true then .ok true η1 else b η1
def tNotF (a : Fe Bool) : Fe Bool := fun η => (a η).bind fun c η1 => .ok (!c) η1
def eAndF (a b : Fe T) : Fe T := fun η => (a η).bind fun t η1 => match t with
  | .bl c => if c = true then b η1 else .ok (.bl false) η1
  | _ => .bad
def eOrF (a b : Fe T) : Fe T := fun η => (a η).bind fun t η1 => match t with
  | .bl c => if c = true then .ok (.bl true) η1 else b η1
  | _ => .bad
def eNotF (a : Fe T) : Fe T := fun η => (a η).bind fun t η1 => match t with
  | .bl c => .ok (.bl (!c)) η1
  | _ => .bad
def eIfF (c : Fe Bool) (a b : Fe T) : Fe T := fun η => (c η).bind fun d η1 => if d = true then a η1 else b η1
def eChain (ka kb kc : AK) (g g' : Int → Int → Bool) : Fe T := fun η => (argsF [ka, kb] η).bind fun as η1 => match resolve as η1 with
  | some ([.int i, .int j], _) => if g i j = true then (argsF [kc] η1).bind fun as2 η2 => match resolve as2 η2 with
      | some ([.int k], _) => .ok (.bl (g' j k)) η2
      | _ => .bad
    else .ok (.bl false) η1
  | _ => .bad
theorem tK_mono {X : Cx} {W : XW} {k : AK} {σ : St} {H : Hp} {Q Q' : VK} (h : tK X W k σ H Q) (i : ∀ v H, Q v H → Q' v H) : tK X W k σ H Q' := by
  cases k with
  | s n =>
    obtain ⟨v, e, h⟩ := h
    exact ⟨v, e, i _ _ h⟩
  | v f =>
    obtain ⟨F, η, A, S, h⟩ := h
    exact ⟨F, η, A, S, h.imp fun _ _ _ _ _ _ _ v _ _ _ _ _ q => i v _ q⟩
section
variable {X : Cx} {W : XW} {pos : Pos} {a b c e : Expr} {rest : List Expr} {fa fb : Fe T} {ga gb : Fe Bool} {ka kb kc : AK} {op : Op}
theorem own_scalar {σ : St} {F H F1 H1 : Hp} {A A1 B1 : AP} {η1 : Env} {t : T} {v : V} {Q : VK} (S1 : Sit X.K X.mg F1 H1 η1 σ A1) (st1 : Step F H A F1 H1 (Un2 A1 B1)) (r : Rep X.K X.mg F1 v t) (h : After X.K X.mg (RO X.K X.mg) W F H A σ (.ok t η1) Q) : Q v H1 :=
  h F1 H1 A1 A0 v S1 (.frz r) Good.a0 (fun _ _ x => x) (st1.half A0 fun _ x => x)
theorem et_val (h : EE X W e fa) (he : ∀ whole, isTrue e X.env whole = (do let v ← whole; standAt e.pos; holding [v] (truthy v)) := by intro _; rfl) : ET X W e (tVal fa) :=
  PT.imp (pt_val h he) fun σ H Q q => tG.seq q fun F1 η1 A1 B1 t v H1 F A S1 ro g1 d1 st1 k => by
    unfold isB at k
    split at k
    · exact ⟨_, Own.bl_inv ro, k F1 H1 A1 A0 _ S1 rfl Good.a0 (fun _ _ x => x) (st1.half A0 fun _ x => x)⟩
    · exact k.elim
theorem et_cmp {co : CmpOp} {r : R2} (hr : OpR X (compareOp co) r) (ho : OpS X.K X.mg op fun vs H Q => ∃ x y, vs = [x, y] ∧ r x y H Q) (ha : EK X W a ka) (hb : EK X W b kb) (hm : behindInMarks co b = false) : ET X W (.Compare a [co] [b] pos) (tVal (eOp [ka, kb] op)) :=
  PT.imp (pt_cmpR hr ha hb hm) fun σ H Q q => by
    have h1 : tE X W (eOp [ka, kb] op) σ H fun z H' => ∃ k, z = .bl k ∧ Q k H' := tG.seq q fun F1 η1 A1 B1 t v H1 F A S1 ro g1 d1 st1 k => by
      unfold isB at k
      split at k
      · exact ⟨_, Own.bl_inv ro, k F1 H1 A1 A0 _ S1 rfl Good.a0 (fun _ _ x => x) (st1.half A0 fun _ x => x)⟩
      · exact k.elim
    refine tK_mono (args2 (op_run ho h1)) fun x H1 h1 => tK_mono h1 fun y H2 ⟨x', y', e, h2⟩ => ?_
    cases e
    exact h2
theorem et_not (ha : ET X W a ga) : ET X W (.UnaryOp .Not a pos) (tNotF ga) :=
  PT.imp (pt_not ha) fun σ H Q q => tG.seq q fun F1 η1 A1 B1 t v H1 F A S1 ro g1 d1 st1 k => by
    have ro : v = t := ro
    subst ro
    exact k F1 H1 A1 A0 _ S1 rfl Good.a0 (fun _ _ x => x) (st1.half A0 fun _ x => x)
abbrev EW (X : Cx) (W : XW) (e : Expr) (f : Fe Bool) : Prop := PW X e (tT X W f)
theorem PW.imp {e : Expr} {t t' : TT} (h : PW X e t) (i : ∀ σ H Q, t' σ H Q → t σ H Q) : PW X e t' := ⟨fun wh pins s σ H Q I q => h.run wh pins s σ H Q I (i σ H Q q)⟩
theorem ew_and1 (ha : ET X W a ga) : EW X W (.BoolOp .And [a] pos) ga := pw_and1 ha
theorem ew_or1 (ha : ET X W a ga) : EW X W (.BoolOp .Or [a] pos) ga := pw_or1 ha
theorem ew_and (ha : ET X W a ga) (hb : EW X W (.BoolOp .And (b :: rest) pos) gb) : EW X W (.BoolOp .And (a :: b :: rest) pos) (tAndF ga gb) :=
  PW.imp (pw_and ha hb) fun σ H Q q => tG.seq q fun F1 η1 A1 B1 t v H1 F A S1 ro g1 d1 st1 k => by
    have ro : v = t := ro
    subst ro
    cases v with
    | true => rw [if_pos rfl] at k ⊢; exact tG.go1 S1 st1 k
    | false =>
      rw [if_neg Bool.false_ne_true] at k ⊢
      exact k F1 H1 A1 A0 _ S1 rfl Good.a0 (fun _ _ x => x) (st1.half A0 fun _ x => x)
theorem ew_or (ha : ET X W a ga) (hb : EW X W (.BoolOp .Or (b :: rest) pos) gb) : EW X W (.BoolOp .Or (a :: b :: rest) pos) (tOrF ga gb) :=
  PW.imp (pw_or ha hb) fun σ H Q q => tG.seq q fun F1 η1 A1 B1 t v H1 F A S1 ro g1 d1 st1 k => by
    have ro : v = t := ro
    subst ro
    cases v with
    | false => rw [if_neg Bool.false_ne_true] at k ⊢; exact tG.go1 S1 st1 k
    | true =>
      rw [if_pos rfl] at k ⊢
      exact k F1 H1 A1 A0 _ S1 rfl Good.a0 (fun _ _ x => x) (st1.half A0 fun _ x => x)
theorem et_bo (h : EW X W e ga) : ET X W e ga := h.pt
theorem ev_one {op : BoolOp} (h : EE X W a fa) : EE X W (.BoolOp op [a] pos) fa := pe_one h
theorem ev_and (ha : EE X W a fa) (hb : EE X W (.BoolOp .And (b :: rest) pos) fb) : EE X W (.BoolOp .And (a :: b :: rest) pos) (eAndF fa fb) :=
  PE.imp (pe_and ha hb) fun σ H Q q => tG.seq q fun F1 η1 A1 B1 t v H1 F A S1 ro g1 d1 st1 k => by
    split at k
    · rename_i c
      refine ⟨c, Own.bl_inv ro, ?_⟩
      cases c with
      | true => rw [if_pos rfl] at k ⊢; exact tG.go1 S1 st1 k
      | false =>
        rw [if_neg Bool.false_ne_true] at k ⊢
        exact own_scalar S1 st1 (.bl _) k
    · exact k.elim
theorem ev_or (ha : EE X W a fa) (hb : EE X W (.BoolOp .Or (b :: rest) pos) fb) : EE X W (.BoolOp .Or (a :: b :: rest) pos) (eOrF fa fb) :=
  PE.imp (pe_or ha hb) fun σ H Q q => tG.seq q fun F1 η1 A1 B1 t v H1 F A S1 ro g1 d1 st1 k => by
    split at k
    · rename_i c
      refine ⟨c, Own.bl_inv ro, ?_⟩
      cases c with
      | false => rw [if_neg Bool.false_ne_true] at k ⊢; exact tG.go1 S1 st1 k
      | true =>
        rw [if_pos rfl] at k ⊢
        exact own_scalar S1 st1 (.bl _) k
    · exact k.elim
theorem ev_not (ha : EE X W a fa) : EE X W (.UnaryOp .Not a pos) (eNotF fa) :=
  PE.imp (pe_not ha) fun σ H Q q => tG.seq q fun F1 η1 A1 B1 t v H1 F A S1 ro g1 d1 st1 k => by
    split at k
    · exact ⟨_, Own.bl_inv ro, own_scalar S1 st1 (.bl _) k⟩
    · exact k.elim
theorem ev_if (hc : ET X W c ga) (ha : EE X W a fa) (hb : EE X W b fb) : EE X W (.IfExp c a b pos) (eIfF ga fa fb) :=
  PE.imp (pe_ifExp hc ha hb) fun σ H Q q => tG.seq q fun F1 η1 A1 B1 t v H1 F A S1 ro g1 d1 st1 k => by
    have ro : v = t := ro
    subst ro
    cases v with
    | true => rw [if_pos rfl] at k ⊢; exact tG.go1 S1 st1 k
    | false => rw [if_neg Bool.false_ne_true] at k ⊢; exact tG.go1 S1 st1 k
theorem ev_un {uo : UnaryOp} {r : V → Hp → VK → Prop} (hr : UnR X (unaryOp uo) r) (ho : OpS X.K X.mg op fun vs H Q => ∃ x, vs = [x] ∧ r x H Q) (ha : EK X W a ka) : EE X W (.UnaryOp uo a pos) (eOp [ka] op) :=
  PE.imp (pe_un hr ha) fun σ H Q h => tK_mono (args1 (op_run ho h)) fun x H1 ⟨x', e, h2⟩ => by cases e; exact h2
/-- a < b < c of ints -/
theorem chain_seq {g g' : Int → Int → Bool} {r r' : R2} (hr : ∀ i j H (Q : VK), Q (.bl (g i j)) H → r (.int i) (.int j) H Q) (hr' : ∀ i j H (Q : VK), Q (.bl (g' i j)) H → r' (.int i) (.int j) H Q) {σ : St} {H : Hp} {Q : VK} (h : tE X W (eChain ka kb kc g g') σ H Q) :
    tChain r r' (tK X W ka) (tK X W kb) (tK X W kc) σ H Q := by
  have h0 : tA X W (argsF [ka, kb]) σ H fun vs H2 => ∃ x y, vs = [x, y] ∧ r x y H2 fun z H3 => ∃ k, z = .bl k ∧ (if k = true then tK X W kc σ H3 fun w' H4 => r' y w' H4 Q else Q (.bl false) H3) := by
    refine tG.seq h fun F1 η1 A1 B1 as vs H1 F A S1 ra g1 d1 st1 k => ?_
    cases e1 : resolve as η1 with
    | none => rw [e1] at k; exact k.elim
    | some p =>
      obtain ⟨ts, η'⟩ := p
      rw [e1] at k
      obtain ⟨A', B', n1, o1, _⟩ := resolve_ok S1.env ra d1 e1
      split at k
      · rename_i i j η0 heq
        cases heq
        obtain ⟨v, w, C1, C2, rfl, q1, q2, _⟩ := o1.two
        rw [q1.int_inv, q2.int_inv]
        refine ⟨_, _, rfl, hr i j H1 _ ⟨_, rfl, ?_⟩⟩
        split
        · rename_i hg
          rw [if_pos hg] at k
          have h2 : tA X W (argsF [kc]) σ H1 fun vs H4 => ∃ w, vs = [w] ∧ r' (.int j) w H4 Q := by
            refine tG.go S1 st1 k fun F2 η2 A2 B2 as2 vs2 H2 S2 ra2 g2 d2 st2 k2 => ?_
            cases e2 : resolve as2 η2 with
            | none => rw [e2] at k2; exact k2.elim
            | some p =>
              obtain ⟨ts2, η2'⟩ := p
              rw [e2] at k2
              obtain ⟨A'', B'', n2, o2, _⟩ := resolve_ok S2.env ra2 d2 e2
              split at k2
              · rename_i m η0' heq2
                cases heq2
                obtain ⟨w, rfl, q3⟩ := o2.one
                rw [q3.int_inv]
                exact ⟨_, rfl, hr' j m H2 _ (own_scalar S2 st2 (.bl _) k2)⟩
              · exact k2.elim
          exact tK_mono (args1 h2) fun w H4 ⟨w', e, q⟩ => by cases e; exact q
        · rename_i hg
          rw [if_neg hg] at k
          exact own_scalar S1 st1 (.bl _) k
      · exact k.elim
  exact tK_mono (args2 h0) fun x H1 h1 => tK_mono h1 fun y H2 ⟨x', y', e, q⟩ => by cases e; exact q
theorem ev_chain {co co' : CmpOp} {g g' : Int → Int → Bool} (h1 : OpR X (compareOp co) (rI0 fun i j => .bl (g i j))) (h2 : OpR X (compareOp co') (rI0 fun i j => .bl (g' i j))) (ha : EK X W a ka) (hb : EK X W b kb) (hc : EK X W c kc)
    (hm : lastMarks [co, co'] [b, c] = false := by with_unfolding_all rfl) : EE X W (.Compare a [co, co'] [b, c] pos) (eChain ka kb kc g g') :=
  PE.imp (pe_chain h1 h2 ha hb hc hm) fun σ H Q q => chain_seq (fun i j H Q q => ⟨i, j, rfl, rfl, q⟩) (fun i j H Q q => ⟨i, j, rfl, rfl, q⟩) q
theorem et_chain {co co' : CmpOp} {g g' : Int → Int → Bool} (h1 : OpR X (compareOp co) (rI0 fun i j => .bl (g i j))) (h2 : OpR X (compareOp co') (rI0 fun i j => .bl (g' i j))) (ha : EK X W a ka) (hb : EK X W b kb) (hc : EK X W c kc)
    (hm : lastMarks [co, co'] [b, c] = false := by with_unfolding_all rfl) : ET X W (.Compare a [co, co'] [b, c] pos) (tVal (eChain ka kb kc g g')) :=
  PT.imp (pt_chain h1 h2 ha hb hc hm) fun σ H Q q => chain_seq (fun i j H Q q => ⟨i, j, rfl, rfl, q⟩) (fun i j H Q q => ⟨i, j, rfl, rfl, q⟩) (tG.seq (R := RO X.K X.mg) q fun F1 η1 A1 B1 t v H1 F A S1 ro g1 d1 st1 k => by
      unfold isB at k
      split at k
      · exact ⟨_, Own.bl_inv ro, k F1 H1 A1 A0 _ S1 rfl Good.a0 (fun _ _ x => x) (st1.half A0 fun _ x => x)⟩
      · exact k.elim)
end

/-! ### displays -/
def valsOf : List (Sum Nat T) → Option (List T)
  | [] => some []
  | .inr t :: as => (valsOf as).map (t :: ·)
  | .inl _ :: _ => none
def eLst (ks : List AK) : Fe T := fun η => (argsF ks η).bind fun as η1 => match valsOf as with
  | some ts => if ts.length ≤ sizeLine then .ok (.lst true ts) η1 else .bad
  | none => .bad
def eTup (ks : List AK) : Fe T := fun η => (argsF ks η).bind fun as η1 => match valsOf as with
  | some ts => if ts.length ≤ sizeLine then .ok (.tup (frzL ts)) η1 else .bad
  | none => .bad
section
variable {X : Cx} {W : XW} {pos : Pos} {es : List Expr} {ks : List AK}
theorem RA.vals {K : PySem.W.Frag} {mg : Str → Option Value} {σ : St} {F H : Hp} : ∀ {as : List (Sum Nat T)} {vs : List V} {ts : List T} {B : AP}, RA K mg σ F H vs as B → valsOf as = some ts → OwnL K mg F H vs ts B
  | [], _, _, _, .nil, e => by cases e; exact .nil
  | .inr t :: as, _, ts, _, .val h1 h2 h3 h4 h5, e => by
    unfold valsOf at e
    cases q : valsOf as with
    | none => rw [q] at e; simp at e
    | some us =>
      rw [q] at e
      simp at e
      subst e
      exact .cons h1 (RA.vals h2 q) h3 h4 h5
  | .inl i :: as, _, _, _, _, e => by cases e
theorem ev_lst (h : EAs X W es ks) : EE X W (.List es pos) (eLst ks) :=
  PE.imp (pe_lst h) fun σ H Q q => tG.seq q fun F1 η1 A1 B1 as vs H1 F A S1 ra g1 d1 st1 k => by
    cases e1 : valsOf as with
    | none => rw [e1] at k; exact k.elim
    | some ts =>
      rw [e1] at k
      simp only at k
      split at k
      · rename_i hz
        have ol := RA.vals ra e1
        refine ⟨by rw [ol.length]; exact hz, fun p n => ?_⟩
        obtain ⟨x1, x2, x3, x4, x5, x6⟩ := new_own (o := .lst vs) (B := Un2 A1 B1) (B1 := Un2 A1 B1) Step.refl S1.sub (S1.good.un g1) n
        have ne : ∀ q, Un2 A1 B1 q → q ≠ p := fun q y z => x4 q y z
        refine k F1 _ A1 (fun q => B1 q ∨ q = p) (.ref p) ⟨x1, x2.mono fun q y => .inl y, S1.env.mono (fun _ _ y => y) (fun q o _ y => x6 q o y) fun _ y => y⟩ ?_ ?_ ?_ ?_
        · exact .lst upd_same (OwnL.mono (fun _ _ y => y) _ _ _ _ ol (fun q o _ y => x6 q o y) fun _ y => y) (.inr rfl) (fun y => ne p (.inr y) rfl) fun q y => .inl y
        · exact fun q y => y.elim (fun z => x2 q (.inr z)) fun z => x3 q z
        · exact fun q y z => z.elim (d1 q y) fun w => ne q (.inl y) w
        · exact st1.trans ⟨x5.keep, x5.sub, x5.newF, fun q y => x5.newA q (y.elim (fun z => .inl (.inl z)) fun z => z.elim (fun w => .inl (.inr w)) .inr)⟩
      · exact k.elim
theorem ev_tup {x1} (h : EAs X W es ks) : EE X W (.Tuple es x1 pos) (eTup ks) :=
  PE.imp (pe_tup h) fun σ H Q q => tG.seq q fun F1 η1 A1 B1 as vs H1 F A S1 ra g1 d1 st1 k => by
    cases e1 : valsOf as with
    | none => rw [e1] at k; exact k.elim
    | some ts =>
      rw [e1] at k
      simp only at k
      split at k
      · rename_i hz
        have ol := RA.vals ra e1
        refine ⟨by rw [ol.length]; exact hz, fun p n => ?_⟩
        obtain ⟨gA, stF⟩ := frz_step (B := B1) S1.sub S1.good fun q y z => d1 q z y
        have rp := OwnL.frz_in (frzF_same (A := B1) S1.sub) _ _ _ ol fun q y => frzF_in y
        have st2 : Step F1 H1 (Un2 A1 B1) (frzF F1 H1 B1) H1 A1 := stF.weak (fun q y => y.elim .inr .inl) fun _ y => y
        obtain ⟨x1, x2, x3, x4⟩ := new_frz (o := .tup vs) st2 (frzF_sub S1.sub) gA n
        have sm : Same H1 (upd H1 p (.tup vs)) := fun q u e => by rw [upd_ne (ne_of_none e n)]; exact e
        exact k _ _ A1 A0 (.ref p) ⟨x1, x2, S1.env.mono (fun q o y => x4 q o (frzF_same S1.sub q o y)) (fun q o _ y => sm q o y) fun _ y => y⟩ (.frz (.tup (.of upd_same) (RepL.mono x4 _ _ rp))) Good.a0 (fun _ _ y => y) (st1.trans x3)
      · exact k.elim
end

/-! ### statements -/
inductive Fl where
  | nx | rt (t : T) | bk | ct
abbrev Fs := Fe Fl
structure Kp (ms : List Nat) (σ σ' : St) : Prop where
  len : σ'.length = σ.length
  at_ : ∀ i ∈ ms, σ'[i]? = σ[i]?
section
variable (K : PySem.W.Frag) (mg : Str → Option Value) (W : XW) (ms : List Nat)
def AfterS (F H : Hp) (A : AP) (σ : St) (r : Res Fl) (D : Ends) : Prop :=
  match r with
  | .ok .nx η' => ∀ F' H' A' σ', Sit K mg F' H' η' σ' A' → Step F H A F' H' A' → Kp ms σ σ' → D.nx σ' H'
  | .ok .bk η' => ∀ F' H' A' σ', Sit K mg F' H' η' σ' A' → Step F H A F' H' A' → Kp ms σ σ' → D.bk σ' H'
  | .ok .ct η' => ∀ F' H' A' σ', Sit K mg F' H' η' σ' A' → Step F H A F' H' A' → Kp ms σ σ' → D.ct σ' H'
  | .ok (.rt t) η' => ∀ F' H' A' B v σ', Sit K mg F' H' η' σ' A' → Own K mg F' H' v t B → Good F' H' B → Dis A' B → Step F H A F' H' (Un2 A' B) → Kp ms σ σ' → D.rt v H'
  | .exc c ks fs η' => ∀ F' H' A' σ' cls d, Sit K mg F' H' η' σ' A' → Step F H A F' H' A' → Kp ms σ σ' → ExcR K mg c ks fs F' H' cls d → W cls d σ' H'
  | .bad => False
def tS (f : Fs) : TS := fun D σ H => ∃ F η A, Sit K mg F H η σ A ∧ AfterS K mg W ms F H A σ (f η) D
end
abbrev SS (X : Cx) (W : XW) (ms : List Nat) (st : Stmt) (f : Fs) : Prop := PS X st (tS X.K X.mg W ms f)
abbrev SSs (X : Cx) (W : XW) (ms : List Nat) (st : List Stmt) (f : Fs) : Prop := PSs X st (tS X.K X.mg W ms f)
def sSkip : Fs := fun η => .ok .nx η
def goOn (g : Fs) (r : Res Fl) : Res Fl := match r with
  | .ok .nx η => g η
  | r => r
def sSeq (f g : Fs) : Fs := fun η => goOn g (f η)
def sSet (i : Nat) (e : Fe T) : Fs := fun η => (e η).bind fun t η1 => if i < η1.length then .ok .nx (η1.set i (some t)) else .bad
def sExpr (e : Fe T) : Fs := fun η => (e η).bind fun _ η1 => .ok .nx η1
def sRet (e : Fe T) : Fs := fun η => (e η).bind fun t η1 => .ok (.rt t) η1
def sRetN : Fs := fun η => .ok (.rt .non) η
def sIf (c : Fe Bool) (a b : Fs) : Fs := fun η => (c η).bind fun d η1 => if d = true then a η1 else b η1
def sBrk : Fs := fun η => .ok .bk η
def sCont : Fs := fun η => .ok .ct η
def sNever : Fs := fun _ => .bad
/-- targets -/
abbrev Tg := T → Env → Option Env
def tgN (i : Nat) : Tg := fun t η => if i < η.length then some (η.set i (some t)) else none
def tgL : List Tg → List T → Env → Option Env
  | [], [], η => some η
  | g :: gs, t :: ts, η => (g t η).bind fun η1 => tgL gs ts η1
  | _, _, _ => none
def tgT (gs : List Tg) : Tg := fun t η => match t with
  | .tup ts => tgL gs ts η
  | _ => none
def forF (tg : Tg) (body : Fs) : List T → Env → Res Fl
  | [], η => .ok .nx η
  | t :: ts, η => match tg t η with
    | none => .bad
    | some η1 => match body η1 with
      | .ok .nx η2 => forF tg body ts η2
      | .ok .ct η2 => forF tg body ts η2
      | .ok .bk η2 => .ok .nx η2
      | r => r
def sFor (it : Fe (List T)) (tg : Tg) (body : Fs) : Fs := fun η => (it η).bind fun ts η1 => forF tg body ts η1
def whileF (c : Fe Bool) (b : Fs) : Nat → Env → Res Fl
  | 0, _ => .bad
  | n + 1, η => (c η).bind fun d η1 => if d = true then (match b η1 with
      | .ok .nx η2 => whileF c b n η2
      | .ok .ct η2 => whileF c b n η2
      | .ok .bk η2 => .ok .nx η2
      | r => r) else .ok .nx η1
def sWhile (n : Nat) (c : Fe Bool) (b : Fs) : Fs := whileF c b n
section
variable {K : PySem.W.Frag} {mg : Str → Option Value} {W : XW} {ms : List Nat} {F H F1 H1 : Hp} {A A1 B1 : AP} {σ σ1 : St} {D : Ends}
theorem Kp.refl : Kp ms σ σ := ⟨rfl, fun _ _ => rfl⟩
theorem Kp.trans {σ2 : St} (a : Kp ms σ σ1) (b : Kp ms σ1 σ2) : Kp ms σ σ2 := ⟨b.len.trans a.len, fun i h => (b.at_ i h).trans (a.at_ i h)⟩
/-- from a later state -/
theorem AfterS.from {r : Res Fl} (h : AfterS K mg W ms F H A σ r D) (st : Step F H A F1 H1 A1) (k : Kp ms σ σ1) : AfterS K mg W ms F1 H1 A1 σ1 r D := by
  cases r with
  | ok f η => cases f with
    | nx => exact fun F' H' A' σ' s p q => h F' H' A' σ' s (st.trans p) (k.trans q)
    | bk => exact fun F' H' A' σ' s p q => h F' H' A' σ' s (st.trans p) (k.trans q)
    | ct => exact fun F' H' A' σ' s p q => h F' H' A' σ' s (st.trans p) (k.trans q)
    | rt t => exact fun F' H' A' B v σ' s o g d p q => h F' H' A' B v σ' s o g d (st.trans p) (k.trans q)
  | exc c ks fs η => exact fun F' H' A' σ' cls d s p q e => h F' H' A' σ' cls d s (st.trans p) (k.trans q) e
  | bad => exact h
theorem tS.mk {f : Fs} {η1 : Env} (S1 : Sit K mg F1 H1 η1 σ1 A1) (st : Step F H A F1 H1 A1) (k : Kp ms σ σ1) (h : AfterS K mg W ms F H A σ (f η1) D) : tS K mg W ms f D σ1 H1 := ⟨F1, η1, A1, S1, h.from st k⟩
/-- an expression first, then the rest of the statement -/
theorem tS.seq {α ν : Type} {R : St → Hp → Hp → ν → α → AP → Prop} {f : Fe α} {g : α → Fs} {P : ν → Hp → Prop} (h : tS K mg W ms (fun η => (f η).bind g) D σ H)
    (k : ∀ F1 η1 A1 B1 a v H1 F A, Sit K mg F1 H1 η1 σ A1 → R σ F1 H1 v a B1 → Good F1 H1 B1 → Dis A1 B1 → Step F H A F1 H1 (Un2 A1 B1) → AfterS K mg W ms F H A σ (g a η1) D → P v H1) : tG K mg R W f σ H P := by
  obtain ⟨F, η, A, S, h⟩ := h
  refine ⟨F, η, A, S, ?_⟩
  have h : AfterS K mg W ms F H A σ ((f η).bind g) D := h
  cases e : f η with
  | ok a η1 =>
    rw [e] at h
    exact fun F1 H1 A1 B1 v s r gd d p => k F1 η1 A1 B1 a v H1 F A s r gd d p h
  | exc c ks fs η' =>
    rw [e] at h
    exact fun F1 H1 A1 cls d s p ex => h F1 H1 A1 σ cls d s p Kp.refl ex
  | bad =>
    rw [e] at h
    exact h
theorem Step.halfS {F H : Hp} {A : AP} {F1 H1 : Hp} {A1 B1 : AP} (st : Step F H A F1 H1 (Un2 A1 B1)) : Step F H A F1 H1 A1 := st.weak (fun _ x => x) fun p x => .inl x
end
section
variable {X : Cx} {W : XW} {ms : List Nat} {st : Stmt} {sts : List Stmt} {f g : Fs} {e : Expr} {fe : Fe T} {c : Expr} {fc : Fe Bool} {pos : Pos}
theorem sss_nil : SSs X W ms [] sSkip := PSs.imp pss_nil fun D σ H ⟨F, η, A, S, h⟩ => h F H A σ S Step.refl Kp.refl
theorem sss_cons (h1 : SS X W ms st f) (h2 : SSs X W ms sts g) : SSs X W ms (st :: sts) (sSeq f g) := PSs.imp (pss_cons h1 h2) fun D σ H ⟨F, η, A, S, h⟩ => by
  refine ⟨F, η, A, S, ?_⟩
  have h : AfterS X.K X.mg W ms F H A σ (goOn g (f η)) D := h
  cases q : f η with
  | ok fl η1 =>
    rw [q] at h
    cases fl with
    | nx => exact fun F' H' A' σ' s p k => tS.mk s p k h
    | bk => exact h
    | ct => exact h
    | rt t => exact h
  | exc c ks fs η1 => rw [q] at h; exact h
  | bad => rw [q] at h; exact h
theorem sss_one (h1 : SS X W ms st f) : SSs X W ms [st] f := pss_one h1
theorem ss_pass : SS X W ms (.Pass pos) sSkip := PS.imp ps_pass fun D σ H ⟨F, η, A, S, h⟩ => h F H A σ S Step.refl Kp.refl
theorem ss_doc {x j pos pos'} : SS X W ms (.Expr (.Constant (.str x) j pos) pos') sSkip := PS.imp ps_doc fun D σ H ⟨F, η, A, S, h⟩ => h F H A σ S Step.refl Kp.refl
theorem ss_brk : SS X W ms (.Break pos) sBrk := PS.imp ps_break fun D σ H ⟨F, η, A, S, h⟩ => h F H A σ S Step.refl Kp.refl
theorem ss_cont : SS X W ms (.Continue pos) sCont := PS.imp ps_continue fun D σ H ⟨F, η, A, S, h⟩ => h F H A σ S Step.refl Kp.refl
theorem ss_never : SS X W ms st sNever := PS.imp ps_never fun D σ H ⟨F, η, A, S, h⟩ => h
theorem sss_never : SSs X W ms sts sNever := PSs.imp pss_never fun D σ H ⟨F, η, A, S, h⟩ => h
theorem ss_expr (he : EE X W e fe) (hs : swapsWith e none pos.line X.env = pure false := by rfl) : SS X W ms (.Expr e pos) (sExpr fe) := PS.imp (ps_expr he hs) fun D σ H h =>
  tS.seq h fun F1 η1 A1 B1 t v H1 F A S1 ro g1 d1 st1 k => k F1 H1 A1 σ S1 st1.halfS Kp.refl
theorem ss_ret (he : EE X W e fe) : SS X W ms (.Return (some e) pos) (sRet fe) := PS.imp (ps_ret he) fun D σ H h =>
  tS.seq h fun F1 η1 A1 B1 t v H1 F A S1 ro g1 d1 st1 k => k F1 H1 A1 B1 v σ S1 ro g1 d1 st1 Kp.refl
theorem ss_retN : SS X W ms (.Return none pos) sRetN := PS.imp ps_retN fun D σ H ⟨F, η, A, S, h⟩ => h F H A A0 .non σ S (.frz .non) Good.a0 (fun _ _ x => x) (Step.refl.weak (fun _ x => x) fun p x => x.elim id fun y => y.elim) Kp.refl
theorem ss_if {a b : List Stmt} (hc : ET X W c fc) (ha : SSs X W ms a f) (hb : SSs X W ms b g) : SS X W ms (.If c a b pos) (sIf fc f g) := PS.imp (ps_if hc ha hb) fun D σ H h =>
  tS.seq h fun F1 η1 A1 B1 t v H1 F A S1 ro g1 d1 st1 k => by
    have ro : v = t := ro
    subst ro
    cases v with
    | true => rw [if_pos rfl] at k ⊢; exact tS.mk S1 st1.halfS Kp.refl k
    | false => rw [if_neg Bool.false_ne_true] at k ⊢; exact tS.mk S1 st1.halfS Kp.refl k
theorem set_keep {i : Nat} {x : Option V} {σ : St} (h : ms.contains i = false) : Kp ms σ (σ.set i x) := ⟨List.length_set, fun j hj => by
  have ne : i ≠ j := fun z => by
    subst z
    have : ms.contains i = true := by simpa using hj
    rw [h] at this; cases this
  rw [List.getElem?_set_ne ne]⟩
theorem seq_set {i : Nat} (hm : ms.contains i = false) {D : Ends} {σ : St} {H : Hp} (h : tS X.K X.mg W ms (sSet i fe) D σ H) : tAsg (tE X W fe) (gName i) D σ H :=
  tS.seq h fun F1 η1 A1 B1 t v H1 F A S1 ro g1 d1 st1 k => by
    split at k
    · rename_i hi
      exact k F1 H1 (Un2 A1 B1) (σ.set i (some v)) ⟨S1.sub, S1.good.un g1, EnvO.put (S1.env.drop i) hi ro (fun p x y => d1 p y x) (fun p x => .inr x) fun p x => .inl x⟩ st1 (set_keep hm)
    · exact k.elim
theorem ss_set {i : Nat} {x : Str} {pos' : Pos} (hN : X.N.Nodup) (hi : X.N[i]? = some x) (hx : Loc X.env.scope x) (hm : ms.contains i = false) (he : EE X W e fe) (hs : swapsWith e (some (.Name x pos')) pos.line X.env = pure false := by rfl) (hf : X.fn x = true ∨ X.env.scope.names.lookup x = some .local := by first | exact .inl rfl | exact .inr rfl | assumption) :
    SS X W ms (.Assign [.Name x pos'] e pos) (sSet i fe) := PS.imp (ps_set hN hi hx he hs hf) fun D σ H h => seq_set hm h
/-- targets -/
def tTg (X : Cx) (ms : List Nat) (f : Tg) : TG := fun v σ H Q => ∃ F η A t, Sit X.K X.mg F H η σ A ∧ Rep X.K X.mg F v t ∧ match f t η with
  | none => False
  | some η' => ∀ σ' A', Sit X.K X.mg F H η' σ' A' → (∀ p, A' p → A p) → Kp ms σ σ' → Q σ' H
abbrev SG (X : Cx) (ms : List Nat) (tg : Expr) (f : Tg) : Prop := PG X tg (tTg X ms f)
theorem PG.imp {tg : Expr} {t t' : TG} (h : PG X tg t) (i : ∀ v σ H Q, t' v σ H Q → t v σ H Q) : PG X tg t' := ⟨fun pins s σ H v u Q I r q => h.run pins s σ H v u Q I r (i v σ H Q q)⟩
theorem sg_name {i : Nat} {x : Str} (hN : X.N.Nodup) (hi : X.N[i]? = some x) (hx : Loc X.env.scope x) (hm : ms.contains i = false) (hf : X.fn x = true ∨ X.env.scope.names.lookup x = some .local := by first | exact .inl rfl | exact .inr rfl | assumption) : SG X ms (.Name x pos) (tgN i) :=
  PG.imp (pg_name hN hi hx hf) fun v σ H Q ⟨F, η, A, t, S, r, h⟩ => by
    unfold tgN at h
    split at h
    · cases h
    · rename_i hh
      split at hh
      · rename_i hlt
        cases hh
        exact h _ A ⟨S.sub, S.good, EnvO.put (B := A0) (S.env.drop i) hlt (.frz r) (fun _ x => x.elim) (fun _ x => x.elim) fun _ x => x⟩ (fun _ x => x) (set_keep hm)
      · cases hh
/-- several, of one tuple -/
def tTgs (X : Cx) (ms : List Nat) (fs : List Tg) : TGs := fun vs σ H Q => ∃ F η A ts, Sit X.K X.mg F H η σ A ∧ Paired (Rep X.K X.mg F) vs ts ∧ match tgL fs ts η with
  | none => False
  | some η' => ∀ σ' A', Sit X.K X.mg F H η' σ' A' → (∀ p, A' p → A p) → Kp ms σ σ' → Q σ' H
abbrev SGs (X : Cx) (ms : List Nat) (tg : List Expr) (fs : List Tg) : Prop := PGs X tg (tTgs X ms fs)
theorem PGs.imp {tg : List Expr} {t t' : TGs} (h : PGs X tg t) (i : ∀ v σ H Q, t' v σ H Q → t v σ H Q) : PGs X tg t' := ⟨fun pins s σ H v u Q I r q => h.run pins s σ H v u Q I r (i v σ H Q q)⟩
theorem sgs_nil : SGs X ms [] [] := PGs.imp pgs_nil fun vs σ H Q ⟨F, η, A, ts, S, r, h⟩ => by
  cases r with
  | nil => exact ⟨rfl, h σ A S (fun _ x => x) Kp.refl⟩
  | cons => exact h.elim
theorem sgs_cons {tg : Expr} {tgs : List Expr} {f : Tg} {fs : List Tg} (h1 : SG X ms tg f) (h2 : SGs X ms tgs fs) (hs : (assignEach (tg :: tgs) X.env).map (·.2) = assign tg X.env :: (assignEach tgs X.env).map (·.2) := by rfl) : SGs X ms (tg :: tgs) (f :: fs) :=
  PGs.imp (pgs_cons h1 h2 hs) fun vs σ H Q ⟨F, η, A, ts, S, r, h⟩ => by
    cases r with
    | nil => exact h.elim
    | cons r1 rr =>
      rename_i v t vr tr hyp
      refine ⟨_, _, rfl, F, η, A, _, S, r1, ?_⟩
      unfold tgL at h
      cases q : f t η with
      | none => rw [q] at h; exact h.elim
      | some η1 =>
        rw [q] at h
        exact fun σ' A' S' m k => ⟨F, η1, A', _, S', rr, by
          simp only [Option.bind_some] at h
          cases q2 : tgL fs tr η1 with
          | none => rw [q2] at h; exact h.elim
          | some η2 =>
            rw [q2] at h
            exact fun σ2 A2 S2 m2 k2 => h σ2 A2 S2 (fun p x => m p (m2 p x)) (k.trans k2)⟩
theorem tgL_length : ∀ {fs : List Tg} {ts : List T} {η η' : Env}, tgL fs ts η = some η' → ts.length = fs.length
  | [], [], _, _, _ => rfl
  | [], _ :: _, _, _, h => by cases h
  | _ :: _, [], _, _, h => by cases h
  | f :: fs, t :: ts, η, η', h => by
    unfold tgL at h
    cases q : f t η with
    | none => rw [q] at h; cases h
    | some η1 => rw [q] at h; exact congrArg (· + 1) (tgL_length (show tgL fs ts η1 = some η' from h))
theorem sg_tup {es : List Expr} {k : Nat} {fs : List Tg} (hc : X.calm = true) (h : SGs X ms es fs) (hn : (assignEach es X.env).length = fs.length := by rfl) (hst : (assignEach es X.env).findIdx? (·.1) = none := by rfl) : SG X ms (.Tuple es k pos) (tgT fs) :=
  PG.imp (pg_tup hc h hn hst) fun v σ H Q ⟨F, η, A, t, S, r, h⟩ => by
    unfold tgT at h
    cases t with
    | tup ts =>
      cases r with
      | tup q r =>
        have h' := h
        simp only at h
        cases q2 : tgL fs ts η with
        | none => rw [q2] at h; exact h.elim
        | some η2 =>
          exact ⟨_, _, rfl, SqT.mono S.sub q, by rw [r.length]; exact tgL_length q2, F, η, A, ts, S, r, h'⟩
    | _ => exact h.elim
theorem ss_unpack {tg : Expr} {ft : Tg} (he : EE X W e fe) (hg : SG X ms tg ft) (hs : swapsWithSole [tg] e pos.line X.env = pure false := by rfl) (hw : swappedStores [tg] e X.env = pure none := by rfl)
    (h1 : (assignEach [tg] X.env).map (·.2) = [assign tg X.env] := by rfl) : SS X W ms (.Assign [tg] e pos) (fun η => (fe η).bind fun t η1 => match ft t.frz η1 with | none => .bad | some η2 => .ok .nx η2) :=
  PS.imp (ps_asg he hg hs hw h1) fun D σ H h => tS.seq h fun F1 η1 A1 B1 t v H1 F A S1 ro g1 d1 st1 k => by
    obtain ⟨gA, stF⟩ := frz_step (B := B1) S1.sub S1.good fun q y z => d1 q z y
    have rp := Own.frz_in (frzF_same (A := B1) S1.sub) _ _ _ ro fun q y => frzF_in y
    refine ⟨frzF F1 H1 B1, η1, A1, t.frz, ⟨frzF_sub S1.sub, gA, S1.env.mono (frzF_same S1.sub) (fun _ _ _ y => y) fun _ y => y⟩, rp, ?_⟩
    cases q : ft t.frz η1 with
    | none => rw [q] at k; exact k.elim
    | some η2 =>
      rw [q] at k
      exact fun σ' A' S' m kp => k _ H1 A' σ' S' (st1.trans (stF.weak (fun q y => y.elim .inr .inl) m)) kp
end
def sUnp (e : Fe T) (ft : Tg) : Fs := fun η => (e η).bind fun t η1 => match ft t.frz η1 with
  | none => .bad
  | some η2 => .ok .nx η2

/-! ### what is walked -/
/-- the iterator J gives the trees ts -/
structure WalkT (K : PySem.W.Frag) (mg : Str → Option Value) (F : Hp) (J : It) (ts : List T) : Prop where
  goes : ∀ i H, i < ts.length → Same F H → J.go i H
  stops : ∀ H, Same F H → J.stop ts.length H
  yields : ∀ (i : Nat) t H x H', ts[i]? = some t → Same F H → J.yld i H x H' → (H' = H ∧ Rep K mg F x t) ∨ ∃ p vs us, x = .ref p ∧ H p = none ∧ H' = upd H p (.tup vs) ∧ t = .tup us ∧ Paired (Rep K mg F) vs us
def RW (K : PySem.W.Frag) (mg : Str → Option Value) : St → Hp → Hp → It → List T → AP → Prop := fun _ F _ J ts _ => WalkT K mg F J ts
abbrev tI (X : Cx) (W : XW) (f : Fe (List T)) : TI := tG X.K X.mg (RW X.K X.mg) W f
abbrev SI (X : Cx) (W : XW) (tg iter : Expr) (f : Fe (List T)) : Prop := PI X tg iter (tI X W f)
theorem PI.imp {X : Cx} {tg iter : Expr} {t t' : TI} (h : PI X tg iter t) (i : ∀ σ H R, t' σ H R → t σ H R) : PI X tg iter t' := ⟨fun pins s σ H R I q => h.run pins s σ H R I (i σ H R q)⟩
/-- what comes at a turn, in a state -/
theorem WalkT.turn {K : PySem.W.Frag} {mg : Str → Option Value} {F F' H H' : Hp} {J : It} {ts : List T} (w : WalkT K mg F J ts) {i : Nat} {t : T} {x : V} {η : Env} {σ : St} {A : AP} (e : ts[i]? = some t) (s : Same F F') (S : Sit K mg F' H η σ A) (y : J.yld i H x H') :
    ∃ F2, Sit K mg F2 H' η σ A ∧ Rep K mg F2 x t ∧ Step F' H A F2 H' A := by
  rcases w.yields i t H x H' e (fun p o q => S.sub p o (s p o q)) y with ⟨rfl, r⟩ | ⟨p, vs, us, rfl, n, rfl, rfl, r⟩
  · exact ⟨F', S, Rep.mono s _ _ r, Step.refl⟩
  · obtain ⟨x1, x2, x3, x4⟩ := new_frz (o := .tup vs) Step.refl S.sub S.good n
    have sm : Same H (upd H p (.tup vs)) := fun q u e => by rw [upd_ne (ne_of_none e n)]; exact e
    exact ⟨upd F' p (.tup vs), ⟨x1, x2, S.env.mono x4 (fun q o _ y => sm q o y) fun _ y => y⟩, .tup (.of upd_same) (RepL.mono (fun q o y => x4 q o (s q o y)) _ _ r), x3.weak (fun _ y => y) fun q y => .inl y⟩
section
variable {X : Cx} {W : XW} {ms : List Nat} {body : List Stmt} {tg iter : Expr} {fi : Fe (List T)} {ft : Tg} {fb : Fs} {pos : Pos} {c : Expr} {fc : Fe Bool}
theorem ss_for (hp : PassesOwn (model X.prog X.w) X.A X.env X.xe) (hc : X.calm = true) (hi : SI X W tg iter fi) (hg : SG X ms tg ft) (hb : SSs X W ms body fb)
    (hs : ∀ x, foldedSetIterable iter X.env x = pure x := by intro _; rfl) : SS X W ms (.For tg iter body [] pos) (sFor fi ft fb) :=
  PS.imp (ps_for hp hc hi hg hb hs) fun D σ H h => tS.seq h fun F1 η1 A1 B1 ts J H1 F A S1 w g1 d1 st1 k => by
    have w : WalkT X.K X.mg F1 J ts := w
    let Wp : Nat → Nat → St → Hp → Prop := fun i m σ' H' => m = ts.length - i ∧ i ≤ ts.length ∧ ∃ F' η' A', Sit X.K X.mg F' H' η' σ' A' ∧ Same F1 F' ∧ Step F H A F' H' A' ∧ Kp ms σ σ' ∧ AfterS X.K X.mg W ms F H A σ (forF ft fb (ts.drop i) η') D
    refine ⟨Wp, ⟨ts.length, by simp, Nat.zero_le _, F1, η1, A1, S1, fun _ _ x => x, st1.halfS, Kp.refl, by simpa using k⟩, ?_⟩
    rintro i m σ' H' ⟨rfl, hi, F', η', A', S', sF, st', kp', k'⟩
    have sH : Same F1 H' := fun p o q => S'.sub p o (sF p o q)
    by_cases hlt : i < ts.length
    · refine .inr ⟨w.goes i H' hlt sH, fun σ2 H2 => Wp (i + 1) (ts.length - (i + 1)) σ2 H2, fun σ2 H2 q => ⟨_, by omega, q⟩, fun x H2 y => ?_⟩
      have et : ts[i]? = some ts[i] := List.getElem?_eq_getElem hlt
      rw [List.drop_eq_getElem_cons hlt] at k'
      obtain ⟨F2, S2, rp, st2⟩ := w.turn et sF S' y
      refine ⟨F2, η', A', ts[i], S2, rp, ?_⟩
      unfold forF at k'
      cases q : ft ts[i] η' with
      | none => rw [q] at k'; exact k'.elim
      | some η3 =>
        rw [q] at k'
        intro σ3 A3 S3 m3 kp3
        have st3 : Step F H A F2 H2 A3 := st'.trans (st2.weak (fun _ z => z) m3)
        refine ⟨F2, η3, A3, S3, ?_⟩
        simp only at k'
        cases q2 : fb η3 with
        | ok fl η4 =>
          rw [q2] at k'
          have again : AfterS X.K X.mg W ms F H A σ (forF ft fb (ts.drop (i + 1)) η4) D → ∀ F4 H4 A4 σ4, Sit X.K X.mg F4 H4 η4 σ4 A4 → Step F2 H2 A3 F4 H4 A4 → Kp ms σ3 σ4 → Wp (i + 1) (ts.length - (i + 1)) σ4 H4 := fun k4 F4 H4 A4 σ4 S4 st4 kp4 =>
            ⟨rfl, hlt, F4, η4, A4, S4, fun p o z => st4.sub p o (st2.sub p o (sF p o z)), st3.trans st4, (kp'.trans kp3).trans kp4, k4⟩
          cases fl with
          | nx => exact again k'
          | ct => exact again k'
          | bk => exact fun F4 H4 A4 σ4 S4 st4 kp4 => k' F4 H4 A4 σ4 S4 (st3.trans st4) ((kp'.trans kp3).trans kp4)
          | rt t => exact fun F4 H4 A4 B4 v σ4 S4 o4 g4 d4 st4 kp4 => k' F4 H4 A4 B4 v σ4 S4 o4 g4 d4 (st3.trans st4) ((kp'.trans kp3).trans kp4)
        | exc c ks fs η4 =>
          rw [q2] at k'
          exact fun F4 H4 A4 σ4 cls d S4 st4 kp4 ex => k' F4 H4 A4 σ4 cls d S4 (st3.trans st4) ((kp'.trans kp3).trans kp4) ex
        | bad => rw [q2] at k'; exact k'.elim
    · have e : i = ts.length := by omega
      subst e
      rw [List.drop_length] at k'
      exact .inl ⟨w.stops H' sH, k' F' H' A' σ' S' st' kp'⟩
theorem ss_while (n : Nat) (hp : PassesOwn (model X.prog X.w) X.A X.env X.xe) (hc : ET X W c fc) (hb : SSs X W ms body fb) : SS X W ms (.While c body [] pos) (sWhile n fc fb) :=
  PS.imp (ps_while hp hc hb) fun D σ H h => by
    refine ⟨fun m σ' H' => tS X.K X.mg W ms (whileF fc fb m) D σ' H', ⟨n, h⟩, ?_⟩
    intro m σ' H' q0
    cases m with
    | zero => obtain ⟨F', η', A', S', k'⟩ := q0; exact k'.elim
    | succ m =>
      refine tS.seq (P := fun b H1 => if b = true then ∃ N : St → Hp → Prop, (∀ σ'' H'', N σ'' H'' → ∃ m', m' < m + 1 ∧ tS X.K X.mg W ms (whileF fc fb m') D σ'' H'') ∧ tS X.K X.mg W ms fb { D with nx := N, ct := N, bk := D.nx } σ' H1 else D.nx σ' H1) q0 fun F1 η1 A1 B1 d v H1 F0 A0' S1 ro g1 d1 st1 k1 => ?_
      have ro : v = d := ro
      subst ro
      cases v with
      | false =>
        rw [if_neg Bool.false_ne_true] at k1 ⊢
        exact k1 F1 H1 A1 σ' S1 st1.halfS Kp.refl
      | true =>
        rw [if_pos rfl] at k1 ⊢
        have k2 := k1.from st1.halfS Kp.refl
        refine ⟨tS X.K X.mg W ms (whileF fc fb m) D, fun σ'' H'' q => ⟨m, Nat.lt_succ_self _, q⟩, F1, η1, A1, S1, ?_⟩
        cases q : fb η1 with
        | ok fl η2 =>
          rw [q] at k2
          cases fl with
          | nx => exact fun F4 H4 A4 σ4 S4 st4 kp4 => ⟨F4, η2, A4, S4, k2.from st4 kp4⟩
          | ct => exact fun F4 H4 A4 σ4 S4 st4 kp4 => ⟨F4, η2, A4, S4, k2.from st4 kp4⟩
          | bk => exact k2
          | rt t => exact k2
        | exc c ks fs η2 => rw [q] at k2; exact k2
        | bad => rw [q] at k2; exact k2.elim
end

/-! ### iterables -/
theorem WalkT.seqL {K : PySem.W.Frag} {mg : Str → Option Value} {F : Hp} {a : Addr} {vs : List V} {ts : List T} (h : F a = some (.lst vs)) (r : Paired (Rep K mg F) vs ts) : WalkT K mg F (Itl K a) ts where
  goes := fun i H hi s => ⟨vs, vs[i]'(by rw [r.length]; exact hi), .of (s _ _ h), List.getElem?_eq_getElem _⟩
  stops := fun H s => ⟨vs, .of (s _ _ h), by rw [r.length]; exact Nat.le_refl _⟩
  yields := fun i t H x H' e s y => by
    obtain ⟨y1, y2⟩ := y
    obtain ⟨v, e1, rp⟩ := repL_get r e
    have := y2 vs (.of (s _ _ h))
    rw [e1] at this
    cases this
    exact .inl ⟨y1, rp⟩
theorem WalkT.seqT {K : PySem.W.Frag} {mg : Str → Option Value} {F : Hp} {a : Addr} {vs : List V} {ts : List T} (h : SqT K F a vs) (r : Paired (Rep K mg F) vs ts) : WalkT K mg F (Itt K a) ts where
  goes := fun i H hi s => ⟨vs, vs[i]'(by rw [r.length]; exact hi), SqT.mono s h, List.getElem?_eq_getElem _⟩
  stops := fun H s => ⟨vs, SqT.mono s h, by rw [r.length]; exact Nat.le_refl _⟩
  yields := fun i t H x H' e s y => by
    obtain ⟨y1, y2⟩ := y
    obtain ⟨v, e1, rp⟩ := repL_get r e
    have := y2 vs (SqT.mono s h)
    rw [e1] at this
    cases this
    exact .inl ⟨y1, rp⟩
def rangeT (lo : Int) (n : Nat) : List T := (List.range n).map fun (i : Nat) => T.int (lo + (i : Int))
theorem rangeT_get {lo : Int} {n i : Nat} {t : T} (e : (rangeT lo n)[i]? = some t) : t = .int (lo + i) := by
  unfold rangeT at e
  rw [List.getElem?_map] at e
  cases q : (List.range n)[i]? with
  | none => rw [q] at e; simp at e
  | some j =>
    rw [q] at e
    have : j = i := by
      have hi : i < (List.range n).length := (List.getElem?_eq_some_iff.mp q).1
      rw [List.length_range] at hi
      rw [List.getElem?_range hi] at q
      exact (Option.some.inj q).symm
    subst this
    simpa using e.symm
theorem rangeT_length {lo : Int} {n : Nat} : (rangeT lo n).length = n := by simp [rangeT]
theorem WalkT.rng {K : PySem.W.Frag} {mg : Str → Option Value} {F : Hp} {lo : Int} {n : Nat} : WalkT K mg F (Itr lo n) (rangeT lo n) where
  goes := fun i H hi s => by rw [rangeT_length] at hi; exact hi
  stops := fun H s => by rw [rangeT_length]; exact Nat.le_refl _
  yields := fun i t H x H' e s y => by
    obtain ⟨y1, y2⟩ := y
    rw [rangeT_get e, y2]
    exact .inl ⟨y1, .int _⟩
/-- (number, item) -/
def enumT (ts : List T) : List T := ts.zipIdx.map fun p => T.tup [.int p.2, p.1]
theorem enumT_get {ts : List T} {i : Nat} {t : T} (e : (enumT ts)[i]? = some t) : ∃ u, ts[i]? = some u ∧ t = .tup [.int i, u] := by
  unfold enumT at e
  rw [List.getElem?_map, List.getElem?_zipIdx] at e
  cases q : ts[i]? with
  | none => rw [q] at e; simp at e
  | some u =>
    rw [q] at e
    simp at e
    exact ⟨u, rfl, e.symm⟩
theorem enumT_length {ts : List T} : (enumT ts).length = ts.length := by simp [enumT]
def zipT (ts us : List T) : List T := (ts.zip us).map fun p => T.tup [p.1, p.2]
theorem zipT_get {ts us : List T} {i : Nat} {t : T} (e : (zipT ts us)[i]? = some t) : ∃ u w, ts[i]? = some u ∧ us[i]? = some w ∧ t = .tup [u, w] := by
  unfold zipT at e
  rw [List.getElem?_map] at e
  cases q : (ts.zip us)[i]? with
  | none => rw [q] at e; simp at e
  | some u =>
    rw [q] at e
    obtain ⟨h1, h2⟩ := List.getElem?_zip_eq_some.mp q
    simp at e
    exact ⟨_, _, h1, h2, e.symm⟩
theorem zipT_length {ts us : List T} : (zipT ts us).length = min ts.length us.length := by simp [zipT]
/-- the items of a list or a tuple that was given -/
def itemsOf (t : T) : Fe (List T) := fun η => match t.frz with
  | .lst _ xs => .ok xs η
  | .tup xs => .ok xs η
  | _ => .bad
def iSeqF (f : Fe T) : Fe (List T) := fun η => (f η).bind itemsOf
def iRng1F (k : AK) : Fe (List T) := fun η => (argsF [k] η).bind fun as η1 => match resolve as η1 with
  | some ([.int j], _) => if -(2 ^ 62) ≤ j ∧ j < 2 ^ 62 then .ok (rangeT 0 j.toNat) η1 else .bad
  | _ => .bad
def iRng2F (k k' : AK) : Fe (List T) := fun η => (argsF [k, k'] η).bind fun as η1 => match resolve as η1 with
  | some ([.int i, .int j], _) => if -(2 ^ 62) ≤ i ∧ i < 2 ^ 62 ∧ -(2 ^ 62) ≤ j ∧ j < 2 ^ 62 then .ok (rangeT i (j - i).toNat) η1 else .bad
  | _ => .bad
def iEnumF (f : Fe T) : Fe (List T) := fun η => (f η).bind fun t η1 => match t.frz with
  | .lst _ xs => .ok (enumT xs) η1
  | .tup xs => .ok (enumT xs) η1
  | _ => .bad
def iSeqR (K : PySem.W.Frag) (tl : TE) : TI := fun σ H R => tl σ H fun x H1 => ∃ a, x = .ref a ∧ ((∃ xs, SqL K H1 a xs ∧ R (Itl K a) H1) ∨ (∃ xs, SqT K H1 a xs ∧ R (Itt K a) H1))
theorem pi_seq {X : Cx} {tg l : Expr} {tl : TE} (hl : PE X l tl) : PI X tg l (iSeqR X.K tl) := by
  refine ⟨fun pins s σ H R I h => ?_⟩
  refine thn (hl.run pins s σ H _ I h) fun v s1 ⟨x, H1, I1, r1, q1⟩ => ?_
  obtain ⟨a, e, q⟩ := q1
  subst e
  cases r1
  have fr : ∀ b ∈ [s1.heap.objs.size], FpOk X pins H1 b := fun b hb => by
    have e : b = s1.heap.objs.size := by simpa using hb
    subst e
    exact I1.fpOk (Nat.le_refl _) (I1.hok.fresh (Nat.le_refl _))
  rcases q with ⟨xs, hq, q⟩ | ⟨xs, hq, q⟩
  · obtain ⟨its, rv, p, hz⟩ := I1.list hq
    refine wpAny_pyIter_list p.isList ?_
    exact ⟨s1.heap.objs.size, [s1.heap.objs.size], _, _, H1, rfl, I1.kept (t' := s1.toks) fun b o e => Heap.get?_push_of_some _ e, turn_list a _, ⟨_, Heap.get?_push_size _ rfl, rfl, rfl⟩, fr, q⟩
  · obtain ⟨its, rv, p, hz⟩ := I1.tuple hq
    refine wpAny_pyIter_tuple (show s1.heap.IsTuple a its.toArray from p) ?_
    exact ⟨s1.heap.objs.size, [s1.heap.objs.size], _, _, H1, rfl, I1.kept (t' := s1.toks) fun b o e => Heap.get?_push_of_some _ e, turn_tuple a _, ⟨_, Heap.get?_push_size _ rfl, rfl, rfl⟩, fr, q⟩
section
variable {X : Cx} {W : XW} {tg e : Expr} {f : Fe T} {pos p : Pos} {k k' : AK} {a b : Expr}
theorem si_seq (h : EE X W e f) : SI X W tg e (iSeqF f) := PI.imp (pi_seq h) fun σ H R q => tG.seq q fun F1 η1 A1 B1 t v H1 F A S1 ro g1 d1 st1 kk => by
  obtain ⟨gA, stF⟩ := frz_step (B := B1) S1.sub S1.good fun q y z => d1 q z y
  have rp := Own.frz_in (frzF_same (A := B1) S1.sub) _ _ _ ro fun q y => frzF_in y
  have fin : ∀ {J : It} {xs : List T}, WalkT X.K X.mg (frzF F1 H1 B1) J xs → After X.K X.mg (RW X.K X.mg) W F H A σ (.ok xs η1) R → R J H1 := fun {J xs} w kk =>
    kk (frzF F1 H1 B1) H1 A1 A0 J ⟨frzF_sub S1.sub, gA, S1.env.mono (frzF_same S1.sub) (fun _ _ _ y => y) fun _ y => y⟩ w Good.a0 (fun _ _ y => y) (st1.trans (stF.weak (fun q y => y.elim .inr .inl) fun p y => y.elim id fun z => z.elim))
  unfold itemsOf at kk
  split at kk
  · rename_i o xs heq
    rw [heq] at rp
    cases rp with
    | lst h1 h2 => exact ⟨_, rfl, .inl ⟨_, .of (frzF_sub S1.sub _ _ h1), fin (WalkT.seqL h1 h2) kk⟩⟩
  · rename_i xs heq
    rw [heq] at rp
    cases rp with
    | tup h1 h2 => exact ⟨_, rfl, .inr ⟨_, SqT.mono (frzF_sub S1.sub) h1, fin (WalkT.seqT h1 h2) kk⟩⟩
  · exact kk.elim
theorem si_rng1 (hg : Gl X "range") (hm : X.mg "range" = none) (ha : EAs X W [a] [k]) (hs : starEach [a] X.env = [(false, eval a X.env)] := by rfl) : SI X W tg (.Call (.Name "range" p) [a] [] pos) (iRng1F k) :=
  PI.imp (pi_range1 hg hm ha hs) fun σ H R q => tG.seq q fun F1 η1 A1 B1 as vs H1 F A S1 ra g1 d1 st1 kk => by
    cases e1 : resolve as η1 with
    | none => rw [e1] at kk; exact kk.elim
    | some p =>
      obtain ⟨ts, η'⟩ := p
      rw [e1] at kk
      obtain ⟨A', B', n1, o1, _⟩ := resolve_ok S1.env ra d1 e1
      split at kk
      · rename_i j η0 heq
        cases heq
        obtain ⟨v, rfl, q1⟩ := o1.one
        rw [q1.int_inv]
        split at kk
        · rename_i hc
          exact ⟨_, rfl, hc.1, hc.2, kk F1 H1 A1 A0 _ S1 WalkT.rng Good.a0 (fun _ _ y => y) (st1.half A0 fun _ y => y)⟩
        · exact kk.elim
      · exact kk.elim
theorem si_rng2 (hg : Gl X "range") (hm : X.mg "range" = none) (ha : EAs X W [a, b] [k, k']) (hs : starEach [a, b] X.env = [(false, eval a X.env), (false, eval b X.env)] := by rfl) (hs2 : starEach [b] X.env = [(false, eval b X.env)] := by rfl) : SI X W tg (.Call (.Name "range" p) [a, b] [] pos) (iRng2F k k') :=
  PI.imp (pi_range2 hg hm ha hs hs2) fun σ H R q => tG.seq q fun F1 η1 A1 B1 as vs H1 F A S1 ra g1 d1 st1 kk => by
    cases e1 : resolve as η1 with
    | none => rw [e1] at kk; exact kk.elim
    | some p =>
      obtain ⟨ts, η'⟩ := p
      rw [e1] at kk
      obtain ⟨A', B', n1, o1, _⟩ := resolve_ok S1.env ra d1 e1
      split at kk
      · rename_i i j η0 heq
        cases heq
        obtain ⟨v, w, C1, C2, rfl, q1, q2, _⟩ := o1.two
        rw [q1.int_inv, q2.int_inv]
        split at kk
        · rename_i hc
          exact ⟨_, _, rfl, hc, kk F1 H1 A1 A0 _ S1 WalkT.rng Good.a0 (fun _ _ y => y) (st1.half A0 fun _ y => y)⟩
        · exact kk.elim
      · exact kk.elim
theorem WalkT.enumL {K : PySem.W.Frag} {mg : Str → Option Value} {F : Hp} {a : Addr} {vs : List V} {ts : List T} (h : F a = some (.lst vs)) (r : Paired (Rep K mg F) vs ts) : WalkT K mg F (Ite K a) (enumT ts) where
  goes := fun i H hi s => ⟨vs, vs[i]'(by rw [r.length]; rw [enumT_length] at hi; exact hi), .of (s _ _ h), List.getElem?_eq_getElem _⟩
  stops := fun H s => ⟨vs, .of (s _ _ h), by rw [r.length, enumT_length]; exact Nat.le_refl _⟩
  yields := fun i t H x H' e s y => by
    obtain ⟨q, z, y1, y2, y3, y4⟩ := y
    obtain ⟨u, e1, e2⟩ := enumT_get e
    obtain ⟨v, e3, rp⟩ := repL_get r e1
    have := y4 vs (.of (s _ _ h))
    rw [e3] at this
    cases this
    exact .inr ⟨q, _, _, y1, y2, y3, e2, .cons (.int _) (.cons rp .nil)⟩
theorem WalkT.enumTu {K : PySem.W.Frag} {mg : Str → Option Value} {F : Hp} {a : Addr} {vs : List V} {ts : List T} (h : SqT K F a vs) (r : Paired (Rep K mg F) vs ts) : WalkT K mg F (IteT K a) (enumT ts) where
  goes := fun i H hi s => ⟨vs, vs[i]'(by rw [r.length]; rw [enumT_length] at hi; exact hi), SqT.mono s h, List.getElem?_eq_getElem _⟩
  stops := fun H s => ⟨vs, SqT.mono s h, by rw [r.length, enumT_length]⟩
  yields := fun i t H x H' e s y => by
    obtain ⟨q, z, y1, y2, y3, y4⟩ := y
    obtain ⟨u, e1, e2⟩ := enumT_get e
    obtain ⟨v, e3, rp⟩ := repL_get r e1
    have := y4 vs (SqT.mono s h)
    rw [e3] at this
    cases this
    exact .inr ⟨q, _, _, y1, y2, y3, e2, .cons (.int _) (.cons rp .nil)⟩
theorem tA_one {σ : St} {H : Hp} {Q : List V → Hp → Prop} (h : tE X W f σ H fun x H1 => Q [x] H1) : tCons (tE X W f) tNil σ H Q := h
theorem si_enum {elts : List Expr} {kk0 : Nat} {tpos : Pos} (hg : Gl X "enumerate") (hm : X.mg "enumerate" = none) (h : EE X W e f) (hs1 : starEach [e] X.env = (false, eval e X.env) :: starEach [] X.env := by rfl) (hs : starEach [e] X.env = [(false, eval e X.env)] := by rfl) : SI X W (.Tuple elts kk0 tpos) (.Call (.Name "enumerate" p) [e] [] pos) (iEnumF f) :=
  PI.imp (pi_enumA hg hm (pa_cons h pa_nil hs1) hs) fun σ H R q => tA_one (tG.seq q fun F1 η1 A1 B1 t v H1 F A S1 ro g1 d1 st1 kk => by
    obtain ⟨gA, stF⟩ := frz_step (B := B1) S1.sub S1.good fun q y z => d1 q z y
    have rp := Own.frz_in (frzF_same (A := B1) S1.sub) _ _ _ ro fun q y => frzF_in y
    have fin : ∀ {J : It} {xs : List T}, WalkT X.K X.mg (frzF F1 H1 B1) J xs → After X.K X.mg (RW X.K X.mg) W F H A σ (.ok xs η1) R → R J H1 := fun {J xs} w kk =>
      kk (frzF F1 H1 B1) H1 A1 A0 J ⟨frzF_sub S1.sub, gA, S1.env.mono (frzF_same S1.sub) (fun _ _ _ y => y) fun _ y => y⟩ w Good.a0 (fun _ _ y => y) (st1.trans (stF.weak (fun q y => y.elim .inr .inl) fun p y => y.elim id fun z => z.elim))
    split at kk
    · rename_i o xs heq
      rw [heq] at rp
      cases rp with
      | lst h1 h2 => exact ⟨_, _, rfl, .inl ⟨.of (frzF_sub S1.sub _ _ h1), fin (WalkT.enumL h1 h2) kk⟩⟩
    · rename_i xs heq
      rw [heq] at rp
      cases rp with
      | tup h1 h2 => exact ⟨_, _, rfl, .inr ⟨SqT.mono (frzF_sub S1.sub) h1, fin (WalkT.enumTu h1 h2) kk⟩⟩
    · exact kk.elim)
end

/-! ### comprehensions -/
def wipeE (η : Env) : List Nat → Env
  | [] => η
  | v :: vs => (wipeE η vs).set v none
section
variable {K : PySem.W.Frag} {mg : Str → Option Value} {F H : Hp}
theorem EnvO.slot {x : Option V} : ∀ {σ : St} {η : Env} {A : AP} {i : Nat}, EnvO K mg F H σ (η.set i none) A → EnvO K mg F H (σ.set i x) (η.set i none) A
  | [], η, _, i, h => by simpa using h
  | s :: σ, [], _, i, h => by cases h
  | s :: σ, e :: η, _, 0, h => by
    cases h with
    | skip h => exact .skip h
  | s :: σ, none :: η, _, i + 1, h => by
    cases h with
    | skip h => exact .skip (EnvO.slot h)
  | s :: σ, some t :: η, _, i + 1, h => by
    cases h with
    | cons h1 h2 h3 h4 h5 => exact .cons h1 (EnvO.slot h2) h3 h4 h5
theorem wipe_drop : ∀ {σ : St} {η : Env} {A : AP} (vs : List Nat), EnvO K mg F H σ η A → EnvO K mg F H σ (wipeE η vs) A
  | _, _, _, [], h => h
  | _, _, _, v :: vs, h => (wipe_drop vs h).drop v
theorem wipe_both : ∀ {σ : St} {η : Env} {A : AP} (vs : List Nat), EnvO K mg F H σ η A → EnvO K mg F H (wipe σ vs) (wipeE η vs) A
  | _, _, _, [], h => h
  | _, _, _, v :: vs, h => ((wipe_both vs h).drop v).slot
theorem set_set_comm {α : Type} (l : List α) (i : Nat) (x y : α) : (l.set i x).set i y = l.set i y := by simp
theorem wipe_out : ∀ {σ : St} {η : Env} {A : AP} (vs : List Nat), EnvO K mg F H (wipe σ vs) (wipeE η vs) A → EnvO K mg F H σ (wipeE η vs) A := by
  -- the slots of vs may hold anything
  have key : ∀ (vs : List Nat) {σ σ' : St} {η : Env} {A : AP}, EnvO K mg F H σ' (wipeE η vs) A → wipe σ vs = wipe σ' vs → σ.length = σ'.length → EnvO K mg F H σ (wipeE η vs) A := by
    intro vs
    -- by the entries one by one
    have gen : ∀ {σ σ' : St} {η : Env} {A : AP}, EnvO K mg F H σ' η A → σ.length = σ'.length → (∀ (i : Nat), (∃ t, η[i]? = some (some t)) → σ[i]? = σ'[i]?) → EnvO K mg F H σ η A := by
      intro σ σ' η A h
      induction h generalizing σ with
      | nil => intro hl _; cases σ with
        | nil => exact .nil
        | cons => simp at hl
      | skip h ih =>
        intro hl he
        cases σ with
        | nil => simp at hl
        | cons s σ => exact .skip (ih (by simpa using hl) fun i ⟨t, e⟩ => by
            have := he (i + 1) ⟨t, by simpa using e⟩
            simpa using this)
      | cons h1 h2 h3 h4 h5 ih =>
        intro hl he
        cases σ with
        | nil => simp at hl
        | cons s σ =>
          have e0 := he 0 ⟨_, rfl⟩
          simp at e0
          subst e0
          exact .cons h1 (ih (by simpa using hl) fun i ⟨t, e⟩ => by
            have := he (i + 1) ⟨t, by simpa using e⟩
            simpa using this) h3 h4 h5
    intro σ σ' η A h hw hl
    refine gen h hl fun i ⟨t, e⟩ => ?_
    -- i is not wiped
    have nv : i ∉ vs := by
      intro hm
      have wn : ∀ (vs : List Nat) (η : Env), i ∈ vs → ∀ t, (wipeE η vs)[i]? ≠ some (some t) := by
        intro vs
        induction vs with
        | nil => intro η hm; cases hm
        | cons v vs ih =>
          intro η hm t q
          unfold wipeE at q
          by_cases hv : v = i
          · subst hv
            by_cases hlt : v < (wipeE η vs).length
            · rw [List.getElem?_set_self hlt] at q; cases q
            · rw [List.getElem?_eq_none (by simpa using hlt)] at q; cases q
          · rw [List.getElem?_set_ne hv] at q
            rcases List.mem_cons.mp hm with z | z
            · exact hv z.symm
            · exact ih η z t q
      exact wn vs η hm t e
    have w1 := L2.wipe_out (σ := σ) (i := i) nv
    have w2 := L2.wipe_out (σ := σ') (i := i) nv
    rw [← w1, ← w2, hw]
  intro σ η A vs h
  refine key vs h ?_ (by rw [wipe_length])
  -- wiping twice
  have ww : ∀ (vs : List Nat) (σ : St), wipe σ vs = wipe (wipe σ vs) vs := fun vs σ => by
    apply List.ext_getElem?
    intro i
    by_cases hm : i ∈ vs
    · have wn : ∀ (vs : List Nat) (σ : St), i ∈ vs → (wipe σ vs)[i]? = if i < σ.length then some none else none := by
        intro vs
        induction vs with
        | nil => intro σ hm; cases hm
        | cons v vs ih =>
          intro σ hm
          unfold wipe
          by_cases hv : v = i
          · subst hv
            by_cases hlt : v < σ.length
            · rw [List.getElem?_set_self (by rw [wipe_length]; exact hlt), if_pos hlt]
            · rw [List.getElem?_eq_none (by rw [List.length_set, wipe_length]; omega), if_neg hlt]
          · rw [List.getElem?_set_ne hv]
            rcases List.mem_cons.mp hm with z | z
            · exact absurd z.symm hv
            · exact ih σ z
      rw [wn vs σ hm, wn vs (wipe σ vs) hm, wipe_length]
    · rw [L2.wipe_out (σ := wipe σ vs) hm]
  exact ww vs σ
end

def cYes : Fe Bool := fun η => .ok true η
def compF (own : List Nat) (tg : Tg) (c : Fe Bool) (elt : Fe T) : List T → List T → Env → Res (List T)
  | [], acc, η => .ok acc η
  | t :: ts, acc, η => match tg t η with
    | none => .bad
    | some η1 => match c η1 with
      | .ok true η2 => match elt η2 with
        | .ok u η3 => if acc.length < sizeLine then compF own tg c elt ts (acc ++ [u]) (wipeE η3 own) else .bad
        | _ => .bad
      | .ok false η2 => compF own tg c elt ts acc (wipeE η2 own)
      | _ => .bad
def eComp (it : Fe (List T)) (own : List Nat) (tg : Tg) (c : Fe Bool) (elt : Fe T) : Fe T := fun η => (it η).bind fun ts η1 => match compF own tg c elt ts [] (wipeE η1 own) with
  | .ok acc η2 => .ok (.lst true acc) η2
  | _ => .bad
abbrev W0 : XW := fun _ _ _ _ => False
abbrev othersOf (n : Nat) (own : List Nat) : List Nat := (List.range n).filter fun i => !own.contains i
theorem wipe_keep {σ σ' : St} {n : Nat} {own : List Nat} (hl : σ.length = n) (hl' : σ'.length = n) (h : Kp (othersOf n own) (wipe σ own) σ') : wipe σ' own = wipe σ own := by
  apply List.ext_getElem?
  intro i
  by_cases hi : i < n
  · by_cases hm : i ∈ own
    · have wn : ∀ (vs : List Nat) (σ : St), i < σ.length → i ∈ vs → (wipe σ vs)[i]? = some none := by
        intro vs
        induction vs with
        | nil => intro σ _ hm; cases hm
        | cons v vs ih =>
          intro σ hlt hm
          unfold wipe
          by_cases hv : v = i
          · subst hv
            rw [List.getElem?_set_self (by rw [wipe_length]; exact hlt)]
          · rw [List.getElem?_set_ne hv]
            rcases List.mem_cons.mp hm with z | z
            · exact absurd z.symm hv
            · exact ih σ hlt z
      rw [wn own σ' (by omega) hm, wn own σ (by omega) hm]
    · rw [L2.wipe_out hm]
      exact h.at_ i (List.mem_filter.mpr ⟨List.mem_range.mpr hi, by simpa using hm⟩)
  · rw [List.getElem?_eq_none (by rw [wipe_length]; omega), List.getElem?_eq_none (by rw [wipe_length]; omega)]
section
variable {X : Cx} {W : XW}
abbrev SC (X : Cx) (W : XW) (ifs : List Expr) (f : Fe Bool) : Prop := PTs X ifs (tT X W f)
theorem PTs.imp {ifs : List Expr} {t t' : TT} (h : PTs X ifs t) (i : ∀ σ H Q, t' σ H Q → t σ H Q) : PTs X ifs t' := ⟨fun pins s σ H Q I q => h.run pins s σ H Q I (i σ H Q q)⟩
theorem sc_nil : SC X W [] cYes := PTs.imp pts_nil fun σ H Q ⟨F, η, A, S, h⟩ => h F H A A0 true S rfl Good.a0 (fun _ _ x => x) (Step.refl.weak (fun _ x => x) fun p x => x.elim id fun y => y.elim)
theorem sc_one {c : Expr} {f : Fe Bool} (h : ET X W c f) : SC X W [c] f := pts_one h
theorem ownL_app {K : PySem.W.Frag} {mg : Str → Option Value} {F H : Hp} : ∀ {vs : List V} {ts : List T} {A : AP} {v : V} {t : T} {B : AP}, OwnL K mg F H vs ts A → Own K mg F H v t B → Dis A B → OwnL K mg F H (vs ++ [v]) (ts ++ [t]) (Un2 A B)
  | [], [], A, v, t, B, .nil, o, d => .cons (C := A0) o .nil (fun _ _ x => x) (fun _ x => .inr x) fun _ x => x.elim
  | _ :: _, _ :: _, A, v, t, B, .cons h r d1 m1 m2, o, d => .cons h (ownL_app r o fun p x => d p (m2 p x)) (fun p x y => y.elim (d1 p x) fun z => d p (m1 p x) z) (fun p x => .inl (m1 p x)) fun p x => x.elim (fun y => .inl (m2 p y)) .inr
/-- THE COMPREHENSION -/
theorem comp_seq {wi : Fe (List T)} {ft : Tg} {fc : Fe Bool} {fe : Fe T} {own : List Nat} {n : Nat} {σ : St} {H : Hp} {Q : VK} (hn : σ.length = n) (h : tE X W (eComp wi own ft fc fe) σ H Q) :
    tLc (tI X W wi) (tTg X (othersOf n own) ft) (tT X W0 fc) (tE X W0 fe) own σ H Q := by
  refine tG.seq h fun F1 η1 A1 B1 ts J H1 F A S1 w g1 d1 st1 k D hD => ?_
  have w : WalkT X.K X.mg F1 J ts := w
  obtain ⟨R0, hR0⟩ : ∃ r, r = compF own ft fc fe ts [] (wipeE η1 own) := ⟨_, rfl⟩
  rw [← hR0] at k
  -- what holds at each turn
  let P : Nat → Hp → Prop := fun i H' => ∃ F' η' A' accV accT B, Sit X.K X.mg F' H' (wipeE η' own) (wipe σ own) A' ∧ H' D = some (.lst accV) ∧ OwnL X.K X.mg F' H' accV accT B ∧ Good F' H' (fun p => B p ∨ p = D) ∧ ¬ B D ∧ Dis A' (fun p => B p ∨ p = D) ∧ Same F1 F' ∧
    Step F H A F' H' (Un2 A' fun p => B p ∨ p = D) ∧ compF own ft fc fe (ts.drop i) accT (wipeE η' own) = R0
  refine ⟨fun i m H' => m = ts.length - i ∧ i ≤ ts.length ∧ P i H', ⟨ts.length, by simp, Nat.zero_le _, ?_⟩, ?_⟩
  · obtain ⟨x1, x2, x3, x4, x5, x6⟩ := new_own (o := .lst []) (B := A1) (B1 := A1) Step.refl S1.sub S1.good hD
    refine ⟨F1, η1, A1, [], [], A0, ⟨x1, x2, wipe_both own (S1.env.mono (fun _ _ y => y) (fun q o _ y => x6 q o y) fun _ y => y)⟩, upd_same, .nil, ?_, fun y => y, ?_, fun _ _ y => y, ?_, by simp [hR0]⟩
    · exact fun p y => y.elim (fun z => z.elim) fun z => x3 p z
    · exact fun p y z => z.elim (fun q => q) fun q => x4 p y q
    · exact st1.halfS.trans (x5.weak (fun _ y => y) fun p y => y.elim .inl fun z => z.elim (fun q => q.elim) .inr)
  · rintro i m H' ⟨rfl, hi, F', η', A', accV, accT, B, S', hDl, oB, gB, nBD, dB, sF, st', hc⟩
    have sH : Same F1 H' := fun p o q => S'.sub p o (sF p o q)
    by_cases hlt : i < ts.length
    · refine .inr ⟨w.goes i H' hlt sH, P (i + 1), fun H2 q => ⟨_, by omega, rfl, hlt, q⟩, fun x H2 y => ?_⟩
      have et : ts[i]? = some ts[i] := List.getElem?_eq_getElem hlt
      rw [List.drop_eq_getElem_cons hlt] at hc
      obtain ⟨F2, S2, rp, st2⟩ := w.turn et sF S' y
      -- what is held stays
      obtain ⟨gB2, dB2, kB2⟩ := st2.frame gB dB
      unfold compF at hc
      have k2 := k
      rw [← hc] at k2
      refine ⟨F2, wipeE η' own, A', ts[i], S2, rp, ?_⟩
      cases q : ft ts[i] (wipeE η' own) with
      | none => rw [q] at k2; exact k2.elim
      | some η3 =>
        rw [q] at hc k2
        simp only at hc k2
        intro σ3 A3 S3 m3 kp3
        have l3 : σ3.length = n := by
          rw [kp3.len, wipe_length, hn]
        have hw : wipe σ3 own = wipe σ own := wipe_keep hn l3 kp3
        refine ⟨hw, ?_⟩
        refine ⟨F2, η3, A3, S3, ?_⟩
        have dB3 : Dis A3 (fun p => B p ∨ p = D) := fun p x => dB2 p (m3 p x)
        cases q3 : fc η3 with
        | exc c ks fs η4 => rw [q3] at k2; exact k2.elim
        | bad => rw [q3] at k2; exact k2.elim
        | ok b η4 =>
          rw [q3] at k2 hc
          intro F4 H4 A4 B4 b' S4 rb g4 d4 st4
          have rb : b' = b := rb
          subst rb
          obtain ⟨gB4, dB4, kB4⟩ := st4.frame gB2 dB3
          have oB4 : OwnL X.K X.mg F4 H4 accV accT B := OwnL.mono (fun p o z => st4.sub p o (st2.sub p o z)) _ _ _ _ oB (fun p o y z => kB4 p o (.inl y) (kB2 p o (.inl y) z)) fun _ y => y
          have hD4 : H4 D = some (.lst accV) := kB4 D _ (.inr rfl) (kB2 D _ (.inr rfl) hDl)
          -- the steps so far, what is held within
          have big4 : Step F H A F4 H4 (Un2 A4 fun p => B p ∨ p = D) := by
            refine st'.trans (Step.trans (A' := Un2 A3 fun p => B p ∨ p = D) (st2.wide (B := Un2 A' fun p => B p ∨ p = D) (fun p y => .inl y) fun p y => y.elim (fun z => .inl (m3 p z)) fun z => .inr (.inr z)) (st4.wide (fun p y => .inl y) fun p y => y.elim (fun z => .inl (.inl z)) fun z => .inr (.inr z)))
          cases b' with
          | false =>
            rw [if_neg Bool.false_ne_true]
            refine ⟨F4, η4, A4, accV, accT, B, ⟨S4.sub, S4.good, by rw [← hw]; exact wipe_both own S4.env⟩, hD4, oB4, gB4, nBD, fun p y => dB4 p (.inl y), fun p o z => st4.sub p o (st2.sub p o (sF p o z)), big4, hc⟩
          | true =>
            rw [if_pos rfl]
            simp only at k2 hc
            refine ⟨F4, η4, A4, S4, ?_⟩
            cases q5 : fe η4 with
            | exc c ks fs η5 => rw [q5] at k2; exact k2.elim
            | bad => rw [q5] at k2; exact k2.elim
            | ok u η5 =>
              rw [q5] at k2 hc
              simp only at k2 hc
              intro F5 H5 A5 B5 y S5 ro g5 d5 st5
              obtain ⟨gB5, dB5, kB5⟩ := st5.frame gB4 fun p y => dB4 p (.inl y)
              have oB5 : OwnL X.K X.mg F5 H5 accV accT B := OwnL.mono st5.sub _ _ _ _ oB4 (fun p o y z => kB5 p o (.inl y) z) fun _ y => y
              have hD5 : H5 D = some (.lst accV) := kB5 D _ (.inr rfl) hD4
              split at k2
              · rename_i acc0 η0 heq
                have hz : accT.length < sizeLine := Classical.byContradiction fun z => by rw [if_neg z] at heq; cases heq
                rw [if_pos hz] at hc
                refine ⟨accV, hD5, by rw [oB5.length]; exact hz, ?_⟩
                -- the new item is in the list
                have nD : ∀ p, p = D → ¬ A5 p ∧ ¬ B5 p ∧ ¬ B p := fun p z => ⟨fun y => dB5 p (.inl y) (.inr z), fun y => dB5 p (.inr y) (.inr z), fun y => by rw [z] at y; exact nBD y⟩
                have up : ∀ p o, p ≠ D → H5 p = some o → upd H5 D (.lst (accV ++ [y])) p = some o := fun p o z q => by rw [upd_ne z]; exact q
                have tr : ∀ p, H5 p ≠ none → upd H5 D (.lst (accV ++ [y])) p ≠ none := fun p z => by
                  by_cases e : p = D
                  · rw [e, upd_same]; simp
                  · rw [upd_ne e]; exact z
                have FD : F5 D = none := (gB5 D (.inr rfl)).1
                have neA : ∀ p, A5 p → p ≠ D := fun p z e => (nD p e).1 z
                have neB5 : ∀ p, B5 p → p ≠ D := fun p z e => (nD p e).2.1 z
                have neB : ∀ p, B p → p ≠ D := fun p z e => (nD p e).2.2 z
                have s5 : Same F5 (upd H5 D (.lst (accV ++ [y]))) := fun p o z => up p o (fun e => by rw [e, FD] at z; cases z) (S5.sub p o z)
                refine ⟨F5, η5, A5, accV ++ [y], accT ++ [u], Un2 B B5, ⟨s5, fun p z => ⟨(S5.good p z).1, tr p (S5.good p z).2⟩, ?_⟩, upd_same, ?_, fun p z => ?_, fun z => z.elim nBD fun q => neB5 D q rfl, fun p z q => ?_, fun p o z => st5.sub p o (st4.sub p o (st2.sub p o (sF p o z))), ?_, hc⟩
                · rw [← hw]
                  exact wipe_both own (S5.env.mono (fun _ _ q => q) (fun p o z q => up p o (neA p z) q) fun _ q => q)
                · exact ownL_app (OwnL.mono (fun _ _ q => q) _ _ _ _ oB5 (fun p o z q => up p o (neB p z) q) fun _ q => q) (Own.mono (fun _ _ q => q) _ _ _ _ ro (fun p o z q => up p o (neB5 p z) q) fun _ q => q) fun p z q => dB5 p (.inr q) (.inl z)
                · rcases z with (z | z) | z
                  · exact ⟨(gB5 p (.inl z)).1, tr p (gB5 p (.inl z)).2⟩
                  · exact ⟨(g5 p z).1, tr p (g5 p z).2⟩
                  · exact ⟨(gB5 p (.inr z)).1, tr p (gB5 p (.inr z)).2⟩
                · rcases q with (q | q) | q
                  · exact dB5 p (.inl z) (.inl q)
                  · exact d5 p z q
                  · exact dB5 p (.inl z) (.inr q)
                · have st6 : Step F4 H4 (Un2 A4 fun p => B p ∨ p = D) F5 H5 (Un2 A5 fun p => (Un2 B B5) p ∨ p = D) := st5.wide (fun p z => .inl z) fun p z => z.elim (fun q => .inl (.inl q)) fun q => q.elim (fun r => r.elim (fun t => .inr (.inr (.inl t))) fun t => .inl (.inr t)) fun r => .inr (.inr (.inr r))
                  refine big4.trans (st6.trans ⟨fun p o z q => up p o (fun e => z (.inr (.inr e))) q, fun _ _ q => q, fun p o q => .inl q, fun p q => .inl q⟩)
              · exact k2.elim
    · have e : i = ts.length := by omega
      subst e
      rw [List.drop_length] at hc
      refine .inl ⟨w.stops H' sH, ?_⟩
      have k2 := k
      rw [← hc] at k2
      unfold compF at k2
      simp only at k2
      refine k2 F' H' A' (fun p => B p ∨ p = D) (.ref D) ⟨S'.sub, S'.good, wipe_out own S'.env⟩ (.lst hDl oB (.inr rfl) nBD fun p z => .inl z) gB dB st'
end

section
variable {X : Cx} {W : XW} {elt tg iter : Expr} {ifs : List Expr} {scope : Scope} {own : List (Str × Nat)} {pos : Pos} {fi : Fe (List T)} {ft : Tg} {fc : Fe Bool} {fe : Fe T}
theorem ev_comp {ix : List Nat} {n : Nat} (hn : X.N.length = n) (hc : X.calm = true) (hN : X.N.Nodup) (hi : SI X W tg iter fi) (ok : BlkOk X.N X.env.scope scope own) (hx : own.map (·.2) = ix)
    (hg : ∀ (s : Shared) (H : Hp) (C : Addr) (cl : List (Str × Addr)) (fp : List Addr), SG (X.blk s H scope (compEnvC scope cl C X.env) fp) (othersOf n ix) tg ft) (ht : ∀ (s : Shared) (H : Hp) (C : Addr) (cl : List (Str × Addr)) (fp : List Addr), SC (X.blk s H scope (compEnvC scope cl C X.env) fp) W0 ifs fc)
    (he : ∀ (s : Shared) (H : Hp) (C : Addr) (cl : List (Str × Addr)) (fp : List Addr), EE (X.blk s H scope (compEnvC scope cl C X.env) fp) W0 elt fe) (hs : ∀ x, foldedSetIterable iter X.env x = pure x := by intro _; rfl) :
    EE X W (.ListComp elt [⟨tg, iter, ifs, 0⟩] scope pos) (eComp fi ix ft fc fe) := by
  subst hx
  have h := pe_lc (pos := pos) (g := tTg X (othersOf n (own.map fun (p : Str × Nat) => p.2)) ft) (tt := tT X W0 fc) (te := tE X W0 fe) hc hN hi ok hg ht he hs
  exact ⟨fun pins s σ H Q I q => h.run pins s σ H Q I (comp_seq (by rw [I.len]; exact hn) q)⟩
theorem ss_setComp {ms ix : List Nat} {n i : Nat} {y : Str} {py spos : Pos} (hn : X.N.length = n) (hc : X.calm = true) (hN : X.N.Nodup) (hy : X.N[i]? = some y) (hyl : X.env.scope.names.lookup y = some .local) (hm : ms.contains i = false)
    (hsw : swapsWith (.ListComp elt [⟨tg, iter, ifs, 0⟩] scope pos) (some (.Name y py)) spos.line X.env = pure true) (hi : SI X W tg iter fi) (ok : BlkOk X.N X.env.scope scope own) (hx : own.map (·.2) = ix)
    (hg : ∀ (s : Shared) (H : Hp) (C : Addr) (cl : List (Str × Addr)) (fp : List Addr), SG (X.blk s H scope (compEnvC scope cl C X.env) fp) (othersOf n ix) tg ft) (ht : ∀ (s : Shared) (H : Hp) (C : Addr) (cl : List (Str × Addr)) (fp : List Addr), SC (X.blk s H scope (compEnvC scope cl C X.env) fp) W0 ifs fc)
    (he : ∀ (s : Shared) (H : Hp) (C : Addr) (cl : List (Str × Addr)) (fp : List Addr), EE (X.blk s H scope (compEnvC scope cl C X.env) fp) W0 elt fe) (hs : ∀ x, foldedSetIterable iter X.env x = pure x := by intro _; rfl) :
    SS X W ms (.Assign [.Name y py] (.ListComp elt [⟨tg, iter, ifs, 0⟩] scope pos) spos) (sSet i (eComp fi ix ft fc fe)) := by
  subst hx
  have h := ps_setLc (pos := pos) (spos := spos) (py := py) (i := i) (y := y) (g := tTg X (othersOf n (own.map fun (p : Str × Nat) => p.2)) ft) (tt := tT X W0 fc) (te := tE X W0 fe) hc hN hy hyl hsw hi ok hg ht he hs
  refine ⟨fun pins s σ H D I q => h.run pins s σ H D I ?_⟩
  obtain ⟨F, η, A, S, hh⟩ : tAsg (tE X W (eComp fi (own.map (·.2)) ft fc fe)) (gName i) D σ H := seq_set hm q
  exact comp_seq (by rw [I.len]; exact hn) ⟨F, η, A, S, hh⟩
end

/-! ### defs and their calls -/
inductive FRes where
  | ok (t : T) (us : List T)
  | exc (c : Str) (ks : List Str) (fs : List T) (us : List T)
  | bad
abbrev Fn := List T → FRes
def pickV (ms : List Nat) (vs : List V) : List V := ms.map fun j => vs.getD j .non
def pickE : List Nat → Env → Option (List T)
  | [], _ => some []
  | i :: ms, η => match η[i]? with
    | some (some t) => (pickE ms η).map (t :: ·)
    | _ => none
def spOf (K : PySem.W.Frag) (mg : Str → Option Value) (ms : List Nat) (n : Nat) (f : Fn) : Sp := fun vs H Q E => vs.length = n ∧ ∃ F ts A, Same F H ∧ Good F H A ∧ OwnL K mg F H vs ts A ∧ match f ts with
  | .ok t us => ∀ F' H' A' B v, Same F' H' → Good F' H' A' → Good F' H' B → OwnL K mg F' H' (pickV ms vs) us A' → Own K mg F' H' v t B → Dis A' B → Step F H A F' H' (Un2 A' B) → Q v H'
  | .exc c ks fs us => ∀ F' H' A' cls d, Same F' H' → Good F' H' A' → OwnL K mg F' H' (pickV ms vs) us A' → Step F H A F' H' A' → ExcR K mg c ks fs F' H' cls d → E cls d H'
  | .bad => False
/-- a def by its body: n slots, the parameters first; the slots ms are lent -/
def defF (n : Nat) (ms : List Nat) (body : Fs) : Fn := fun ts => match body (ts.map some ++ List.replicate (n - ts.length) none) with
  | .ok .nx η => match pickE ms η with
    | some us => .ok .non us
    | none => .bad
  | .ok (.rt t) η => match pickE ms η with
    | some us => .ok t us
    | none => .bad
  | .exc c ks fs η => match pickE ms η with
    | some us => .exc c ks fs us
    | none => .bad
  | _ => .bad
def backM : List Nat → List (Sum Nat T) → List T → Env → Env
  | j :: ms, as, u :: us, η => match as[j]? with
    | some (.inl i) => (backM ms as us η).set i (some u)
    | _ => backM ms as us η
  | _, _, _, η => η
def eCall (f : Fn) (ms : List Nat) (ks : List AK) : Fe T := fun η => (argsF ks η).bind fun as η1 => match resolve as η1 with
  | some (ts, η2) => match f ts with
    | .ok t us => .ok t (backM ms as us η2)
    | .exc c k fs us => .exc c k fs (backM ms as us η2)
    | .bad => .bad
  | none => .bad
section
variable {K : PySem.W.Frag} {mg : Str → Option Value} {F H : Hp}
theorem EnvO.start : ∀ {vs : List V} {ts : List T} {A : AP} (n : Nat), OwnL K mg F H vs ts A → EnvO K mg F H (vs.map some ++ List.replicate n none) (ts.map some ++ List.replicate n none) A
  | _, _, A, n, .nil => by
    show EnvO K mg F H (List.replicate n none) (List.replicate n none) A
    induction n with
    | zero => exact .nil
    | succ n ih => exact .skip ih
  | _, _, A, n, .cons h r d m1 m2 => .cons h (EnvO.start n r) d m1 m2
theorem EnvO.pick : ∀ {ms : List Nat} {σ : St} {η : Env} {A : AP} {us : List T}, EnvO K mg F H σ η A → ms.Nodup → pickE ms η = some us → ∃ B, OwnL K mg F H (ms.map fun j => ((σ[j]?.getD none).getD .non)) us B ∧ (∀ p, B p → A p) ∧ ∀ i ∈ ms, ∃ v, σ[i]? = some (some v)
  | [], σ, η, A, us, h, _, e => by cases e; exact ⟨A0, .nil, fun _ x => x.elim, fun i hi => by cases hi⟩
  | i :: ms, σ, η, A, us, h, nd, e => by
    unfold pickE at e
    cases q : η[i]? with
    | none => rw [q] at e; cases e
    | some o =>
      cases o with
      | none => rw [q] at e; cases e
      | some t =>
        rw [q] at e
        simp only at e
        cases q2 : pickE ms η with
        | none => rw [q2] at e; cases e
        | some us' =>
          rw [q2] at e
          cases e
          obtain ⟨v, B, C, e1, o1, n1, d1, m1, m2⟩ := h.take q
          have nd' := List.nodup_cons.mp nd
          have pk : ∀ (ms : List Nat) (us : List T), i ∉ ms → pickE ms η = some us → pickE ms (η.set i none) = some us := by
            intro ms
            induction ms with
            | nil => intro us _ e; exact e
            | cons j ms ih =>
              intro us hni e
              unfold pickE at e ⊢
              have hj : i ≠ j := fun z => hni (z ▸ List.mem_cons_self)
              rw [List.getElem?_set_ne hj]
              cases z : η[j]? with
              | none => rw [z] at e; cases e
              | some o =>
                cases o with
                | none => rw [z] at e; cases e
                | some t' =>
                  rw [z] at e
                  simp only at e ⊢
                  cases z2 : pickE ms η with
                  | none => rw [z2] at e; cases e
                  | some us2 =>
                    rw [z2] at e
                    cases e
                    rw [ih us2 (fun z => hni (List.mem_cons_of_mem _ z)) z2]
                    rfl
          obtain ⟨B', o2, m3, hv⟩ := n1.pick nd'.2 (pk ms us' nd'.1 q2)
          refine ⟨Un2 B B', .cons (by show Own K mg F H ((σ[i]?.getD none).getD V.non) t B; rw [e1]; exact o1) o2 (fun p x y => d1 p x (m3 p y)) (fun _ x => .inl x) (fun _ x => .inr x), fun p x => x.elim (m1 p) fun y => m2 p (m3 p y), fun j hj => ?_⟩
          rcases List.mem_cons.mp hj with z | z
          · subst z; exact ⟨v, e1⟩
          · exact hv j z
theorem backM_ok {σ : St} {as : List (Sum Nat T)} {vs : List V} (hs : ∀ (j i : Nat), as[j]? = some (.inl i) → ∃ v, vs[j]? = some v ∧ σ[i]? = some (some v)) : ∀ {ms : List Nat} {us : List T} {η : Env} {A B D : AP}, EnvO K mg F H σ η A → OwnL K mg F H (pickV ms vs) us B → Dis A B → (∀ p, A p → D p) → (∀ p, B p → D p) → EnvO K mg F H σ (backM ms as us η) D
  | [], us, η, A, B, D, h, _, _, m, _ => by
    unfold backM
    exact h.mono (fun _ _ x => x) (fun _ _ _ x => x) m
  | j :: ms, [], η, A, B, D, h, _, _, m, _ => by
    unfold backM
    exact h.mono (fun _ _ x => x) (fun _ _ _ x => x) m
  | j :: ms, u :: us, η, A, B, D, h, o, d, m1, m2 => by
    have o' : OwnL K mg F H (vs.getD j .non :: pickV ms vs) (u :: us) B := o
    cases o' with
    | cons h1 h2 h3 h4 h5 =>
      rename_i B1 C1
      unfold backM
      split
      · rename_i i e
        obtain ⟨v, e1, e2⟩ := hs j i e
        have e3 : vs.getD j .non = v := by rw [List.getD_eq_getElem?_getD, e1]; rfl
        rw [e3] at h1
        have ih := backM_ok hs (D := Un2 A C1) h h2 (fun p x y => d p x (h5 p y)) (fun p x => .inl x) fun p x => .inr x
        exact EnvO.back (ih.drop i) e2 h1 (fun p x y => y.elim (fun z => d p z (h4 p x)) (h3 p x)) (fun p x => m2 p (h4 p x)) fun p x => x.elim (m1 p) fun y => m2 p (h5 p y)
      · exact backM_ok hs h h2 (fun p x y => d p x (h5 p y)) m1 fun p x => m2 p (h5 p x)
end
abbrev wE (E : XK) : XW := fun cls d _ H => E cls d H
theorem tG.seqE {K : PySem.W.Frag} {mg : Str → Option Value} {α β ν μ : Type} {R : St → Hp → Hp → ν → α → AP → Prop} {R' : St → Hp → Hp → μ → β → AP → Prop} {W : XW} {σ : St} {H : Hp} {f : Fe α} {g : α → Fe β} {Q : μ → Hp → Prop} {P : ν → Hp → Prop} (h : tG K mg R' W (fun η => (f η).bind g) σ H Q)
    (k : ∀ F1 η1 A1 B1 a v H1 F A, Sit K mg F1 H1 η1 σ A1 → R σ F1 H1 v a B1 → Good F1 H1 B1 → Dis A1 B1 → Step F H A F1 H1 (Un2 A1 B1) → After K mg R' W F H A σ (g a η1) Q → (∃ η, f η = .ok a η1) → P v H1) : tG K mg R W f σ H P := by
  obtain ⟨F, η, A, S, h⟩ := h
  refine ⟨F, η, A, S, ?_⟩
  have h : After K mg R' W F H A σ ((f η).bind g) Q := h
  cases e : f η with
  | ok a η1 =>
    rw [e] at h
    exact fun F1 H1 A1 B1 v s r gd d p => k F1 η1 A1 B1 a v H1 F A s r gd d p h ⟨η, e⟩
  | exc c ks fs η' =>
    rw [e] at h
    exact h
  | bad =>
    rw [e] at h
    exact h
section
variable {X : Cx} {W : XW} {k : Nat} {f : Addr} {fd : FuncData} {ps : List Str} {fn : Fn} {ms : List Nat} {n : Nat} {x : Str} {p pos : Pos} {e : Expr} {es : List Expr} {ks : List AK}
theorem argsF_len : ∀ {ks : List AK} {η η' : Env} {as : List (Sum Nat T)}, argsF ks η = .ok as η' → as.length = ks.length
  | [], η, η', as, e => by cases e; rfl
  | .s i :: ks, η, η', as, e => by
    have e : aSlot i (argsF ks) η = .ok as η' := e
    unfold aSlot at e
    split at e
    · cases q : argsF ks η with
      | ok as' η2 =>
        rw [q] at e
        cases e
        exact congrArg (· + 1) (argsF_len q)
      | exc => rw [q] at e; cases e
      | bad => rw [q] at e; cases e
    · cases e
  | .v f :: ks, η, η', as, e => by
    have e : aVal f (argsF ks) η = .ok as η' := e
    unfold aVal at e
    cases q0 : f η with
    | exc => rw [q0] at e; cases e
    | bad => rw [q0] at e; cases e
    | ok t η1 =>
      rw [q0] at e
      have e : (argsF ks η1).bind (fun as η2 => .ok (.inr t :: as) η2) = .ok as η' := e
      cases q : argsF ks η1 with
      | ok as' η2 =>
        rw [q] at e
        cases e
        exact congrArg (· + 1) (argsF_len q)
      | exc => rw [q] at e; cases e
      | bad => rw [q] at e; cases e
theorem RA.length {K : PySem.W.Frag} {mg : Str → Option Value} {σ : St} {F H : Hp} : ∀ {vs : List V} {as : List (Sum Nat T)} {B : AP}, RA K mg σ F H vs as B → vs.length = as.length
  | _, _, _, .nil => rfl
  | _, _, _, .slot _ h => congrArg (· + 1) h.length
  | _, _, _, .val _ h _ _ _ => congrArg (· + 1) h.length
theorem call_seq {σ : St} {H : Hp} {Q : VK} (hn : ks.length = n) (h : tE X W (eCall fn ms ks) σ H Q) : tA X W (argsF ks) σ H fun vs H1 => spOf X.K X.mg ms n fn vs H1 Q (WE W σ) := by
  refine tG.seqE h fun F1 η1 A1 B1 as vs H1 F A S1 ra g1 d1 st1 q ⟨η0, qe⟩ => ?_
  cases e1 : resolve as η1 with
  | none => rw [e1] at q; exact q.elim
  | some p =>
    obtain ⟨ts, η2⟩ := p
    rw [e1] at q
    simp only at q
    obtain ⟨A', B', n1, o1, d2, m1, m2⟩ := resolve_ok S1.env ra d1 e1
    have gB : Good F1 H1 B' := (S1.good.un g1).mono m2
    have gA : Good F1 H1 A' := S1.good.mono m1
    refine ⟨?_, F1, ts, B', S1.sub, gB, o1, ?_⟩
    · rw [ra.length, argsF_len qe, hn]
    cases e2 : fn ts with
    | bad => rw [e2] at q; exact q.elim
    | ok t us =>
      rw [e2] at q
      intro F' H' B'' C v s gb gc oo ov dd st
      obtain ⟨gA', dA', kA'⟩ := st.frame gA fun p x y => d2 p y x
      have n2 : EnvO X.K X.mg F' H' σ η2 A' := n1.mono st.sub (fun p o x => kA' p o x) fun _ x => x
      have n3 : EnvO X.K X.mg F' H' σ (backM ms as us η2) (Un2 A' B'') := backM_ok ra.slots n2 oo (fun p x y => dA' p (.inl y) x) (fun p x => .inl x) fun p x => .inr x
      refine q F' H' (Un2 A' B'') C v ⟨s, gA'.un gb, n3⟩ ov gc (fun p x y => x.elim (fun z => dA' p (.inr y) z) fun z => dd p z y) ?_
      exact st1.trans (st.wide (fun p x => m2 p x) fun p x => x.elim (fun y => y.elim (fun z => .inr (.inl (m1 p z))) fun z => .inl (.inl z)) fun y => .inl (.inr y))
    | exc c kk fs us =>
      rw [e2] at q
      intro F' H' B'' cls d s gb oo st ex
      obtain ⟨gA', dA', kA'⟩ := st.frame gA fun p x y => d2 p y x
      have n2 : EnvO X.K X.mg F' H' σ η2 A' := n1.mono st.sub (fun p o x => kA' p o x) fun _ x => x
      have n3 : EnvO X.K X.mg F' H' σ (backM ms as us η2) (Un2 A' B'') := backM_ok ra.slots n2 oo (fun p x y => dA' p y x) (fun p x => .inl x) fun p x => .inr x
      refine q F' H' (Un2 A' B'') cls d ⟨s, gA'.un gb, n3⟩ ?_ ex
      exact st1.trans (st.wide (fun p x => m2 p x) fun p x => x.elim (fun z => .inr (.inl (m1 p z))) fun z => .inl z)
theorem ev_call (F : FnOk X.prog X.w X.K X.mg X.base (L2.CX X.prog X.w) k f fd ps (spOf X.K X.mg ms n fn)) (hr : Room k X.A) (hg : Gl X x) (hm : X.mg x = some (.ref f)) (hk : PySem.W.keepIn X.K (.ref f) = true) (hb : Binds X.K fd ps []) (tk : Takes X W) (hn : ks.length = n)
    (ha : EAs X W (e :: es) ks) (hdb : (x == ("__debug__" : Str)) = false := by decide) (he : starEach (e :: es) X.env = (false, eval e X.env) :: starEach es X.env := by rfl) (hpl : (backTo pos (starEach es X.env)).any (·.1) = false := by rfl) :
    EE X W (.Call (.Name x p) (e :: es) [] pos) (eCall fn ms ks) :=
  PE.imp (pe_callS F hr hg hm hk hb (fun σ => passAt tk σ) ha hdb he hpl) fun σ H Q q => call_seq hn q
end
section
variable {P : Program} {w : World} {K : PySem.W.Frag} {mg : Str → Option Value} {base : Heap}
/-- A DEF, by its body -/
theorem def_ok {x qual : Str} {st : Stmt} {f : Addr} {fd : FuncData} {N ps : List Str} {k n m : Nat} {ms : List Nat} {fb : Fs} (F : Fun K x qual st f fd) (S : FnScope N ps (defScope st)) (hn : N.length = n) (hp : ps.length = m) (hms : (ms.all fun i => decide (i < m)) = true) (hnd : ms.Nodup)
    (hbody : ∀ (cdv : Value) (A : Around) (outer : List PySem.Env) (s : Shared) (H : Hp) (E : XK), Room k (A.deeper (PyProof.Rows.envOfC qual (defScope st) s.heap.objs.size f cdv)) →
      SSs (cxOf (L2.CX P w) P w K mg base N qual (defScope st) f cdv A outer s H E) (wE E) ms (defBody st) fb) : FnOk P w K mg base (L2.CX P w) (k + 1) f fd ps (spOf K mg ms m (defF n ms fb)) := by
  refine F.okX S (fun vs H Q E h => by rw [hp]; exact h.1) fun cdv A outer s H vs Q E hr hsp => ?_
  refine ⟨_, hbody cdv A outer s H E hr, ?_⟩
  obtain ⟨hl, F0, ts, A0', sub, good, ol, h⟩ := hsp
  have lt : ts.length = m := by rw [← ol.length]; exact hl
  have st0 : L2.start N vs = vs.map some ++ List.replicate (n - ts.length) none := by
    unfold L2.start
    rw [hn, ol.length]
  refine ⟨F0, ts.map some ++ List.replicate (n - ts.length) none, A0', ⟨sub, good, by rw [st0]; exact EnvO.start _ ol⟩, ?_⟩
  have pv : ∀ σ', Kp ms (L2.start N vs) σ' → (ms.map fun j => ((σ'[j]?.getD none).getD V.non)) = pickV ms vs := fun σ' kp => by
    unfold pickV
    refine List.map_congr_left fun j hj => ?_
    have hjm : j < m := by
      have := List.all_eq_true.mp hms j hj
      simpa using this
    rw [kp.at_ j hj, st0]
    have hjv : j < vs.length := by omega
    rw [List.getElem?_append_left (by rw [List.length_map]; exact hjv), List.getElem?_map, List.getD_eq_getElem?_getD, List.getElem?_eq_getElem hjv]
    rfl
  unfold defF at h
  cases q : fb (ts.map some ++ List.replicate (n - ts.length) none) with
  | bad => rw [q] at h; exact h
  | exc c ks fs η' =>
    rw [q] at h
    simp only at h
    cases q2 : pickE ms η' with
    | none => rw [q2] at h; exact h.elim
    | some us =>
      rw [q2] at h
      intro F' H' A' σ' cls d S' st kp ex
      obtain ⟨B, oB, mB, _⟩ := S'.env.pick hnd q2
      rw [pv σ' kp] at oB
      exact h F' H' B cls d S'.sub (S'.good.mono mB) oB (st.weak (fun _ y => y) mB) ex
  | ok fl η' =>
    rw [q] at h
    cases fl with
    | bk => exact h.elim
    | ct => exact h.elim
    | nx =>
      simp only at h
      cases q2 : pickE ms η' with
      | none => rw [q2] at h; exact h.elim
      | some us =>
        rw [q2] at h
        intro F' H' A' σ' S' st kp
        obtain ⟨B, oB, mB, _⟩ := S'.env.pick hnd q2
        rw [pv σ' kp] at oB
        exact h F' H' B A0 .non S'.sub (S'.good.mono mB) Good.a0 oB (.frz .non) (fun _ _ y => y) (st.weak (fun _ y => y) fun p y => y.elim (mB p) fun z => z.elim)
    | rt t =>
      simp only at h
      cases q2 : pickE ms η' with
      | none => rw [q2] at h; exact h.elim
      | some us =>
        rw [q2] at h
        intro F' H' A' B0 v σ' S' ov g0 d0 st kp
        obtain ⟨B, oB, mB, _⟩ := S'.env.pick hnd q2
        rw [pv σ' kp] at oB
        exact h F' H' B B0 v S'.sub (S'.good.mono mB) g0 oB ov (fun p y => d0 p (mB p y)) (st.weak (fun _ y => y) fun p y => y.elim (fun z => .inl (mB p z)) .inr)
end

/-! ### slices -/
def cutL {α : Type} (xs : List α) (lo hi : Option Int) : List α := (xs.drop (HT.sIx xs.length 0 lo)).take (HT.sIx xs.length xs.length hi - HT.sIx xs.length 0 lo)
def intF (f : Fe T) : Fe T := fun η => (f η).bind fun t η1 => match t with
  | .int i => .ok (.int i) η1
  | _ => .bad
def cutO (x : T) (lo hi : Option Int) (ts : List T) : Option (T × List T) := match x with
  | .tup xs => some (.tup (cutL xs lo hi), ts)
  | .lst _ xs => some (.lst true (cutL xs lo hi), ts)
  | .scr ns => if ns.length ≤ sizeLine then some (.lst true ((cutL ns lo hi).map T.int), ts) else none
  | .str z => if z.length ≤ sizeLine then some (.str (cutS z lo hi), ts) else none
  | _ => none
def sl11 : Op := kidO fun ts => match ts with
  | [x, .int i, .int j] => cutO x (some i) (some j) ts
  | _ => none
def sl10 : Op := kidO fun ts => match ts with
  | [x, .int i] => cutO x (some i) none ts
  | _ => none
def sl01 : Op := kidO fun ts => match ts with
  | [x, .int j] => cutO x none (some j) ts
  | _ => none
def sl00 : Op := kidO fun ts => match ts with
  | [x] => cutO x none none ts
  | _ => none
def rSlAny (K : PySem.W.Frag) : V → Option Int → Option Int → Hp → VK → Prop := fun x l h H Q => rSlL K x l h H Q ∨ rSlA K x l h H Q ∨ rSlS x l h H Q
theorem sl_any {X : Cx} : SlR X (rSlAny X.K) := sl_list.or (sl_tupA.or sl_str)
section
variable {X : Cx} {W : XW} {pos : Pos} {a lo hi : Expr} {ka : AK} {fl fh : Fe T}
theorem FlatL.three {K : PySem.W.Frag} {mg : Str → Option Value} {F H : Hp} {vs : List V} {t u w : T} {A : AP} (h : FlatL K mg F H vs [t, u, w] A) : ∃ x y z, vs = [x, y, z] ∧ Flat K mg F H x t A ∧ Flat K mg F H y u A ∧ Flat K mg F H z w A := by
  cases h with
  | cons h1 h2 h3 h4 h5 =>
    obtain ⟨y, z, rfl, h6, h7⟩ := FlatL.two h2
    exact ⟨_, y, z, rfl, h1.mono (fun _ _ x => x) h4, h6.mono (fun _ _ x => x) h5, h7.mono (fun _ _ x => x) h5⟩
theorem cut_ok {F H : Hp} {vs : List V} {ts : List T} {B : AP} {x : T} {v : V} {l h : Option Int} {t : T} {ts' : List T} {Q : VK} (s : Same F H) (g : Good F H B) (o : FlatL X.K X.mg F H vs ts B) (f : Flat X.K X.mg F H v x B) (e : cutO x l h ts = some (t, ts'))
    (k : ∀ F' H' B' C v, Same F' H' → Good F' H' B' → Good F' H' C → OwnL X.K X.mg F' H' vs ts' B' → Own X.K X.mg F' H' v t C → Dis B' C → Step F H B F' H' (Un2 B' C) → Q v H') : rSlAny X.K v l h H Q := by
  unfold cutO at e
  split at e
  · cases e
    obtain ⟨a, vs, rfl, q, r⟩ := f.tup_inv
    have len := r.length
    refine .inr (.inl ⟨a, vs, rfl, SqT.mono s q, fun hw => ?_, fun hw p n => ?_⟩)
    · refine fin_same s g o.own (.tup q ?_) k
      unfold cutL
      rw [len] at hw
      rw [hw.1, hw.2]
      simpa using r
    · refine fin_tup s g o.own ?_ n k
      unfold cutV cutL
      rw [len]
      exact repL_take (repL_drop r _) _
  · cases e
    obtain ⟨a, vs, rfl, q, r⟩ := f.lst_inv s
    have len := r.length
    refine .inl ⟨a, vs, rfl, .of q, fun p n => fin_lst s g o.own ?_ n k⟩
    unfold cutV cutL
    rw [len]
    exact repL_take (repL_drop r _) _
  · split at e
    · cases e
      cases f with
      | rep f =>
        cases f with
        | scr q =>
          rename_i ns hz a
          refine .inl ⟨a, ns.map V.int, rfl, Same.seq s q, fun p n => fin_lst s g o.own ?_ n k⟩
          unfold cutV cutL
          rw [List.length_map, ← List.map_drop, ← List.map_take]
          have all : ∀ ms : List Int, Paired (Rep X.K X.mg F) (ms.map V.int) (ms.map T.int) := fun ms => by
            induction ms with
            | nil => exact .nil
            | cons m ms ih => exact .cons (.int m) ih
          exact all _
    · cases e
  · split at e
    · cases e
      have e1 := f.own.str_inv
      subst e1
      exact .inr (.inr ⟨_, rfl, by assumption, fin_same s g o.own (.str _) k⟩)
    · cases e
  · cases e
theorem sl11_ok : OpS X.K X.mg sl11 fun vs H Q => ∃ x i j, vs = [x, .int i, .int j] ∧ rSlAny X.K x (some i) (some j) H Q := OpS.kid fun F H vs ts B t ts' s g o e Q k => by
  split at e
  · obtain ⟨x, y, z, rfl, f1, f2, f3⟩ := o.three
    have e2 := f2.own.int_inv
    have e3 := f3.own.int_inv
    subst e2 e3
    exact ⟨_, _, _, rfl, cut_ok s g o f1 e k⟩
  · cases e
theorem sl10_ok : OpS X.K X.mg sl10 fun vs H Q => ∃ x i, vs = [x, .int i] ∧ rSlAny X.K x (some i) none H Q := OpS.kid fun F H vs ts B t ts' s g o e Q k => by
  split at e
  · obtain ⟨x, y, rfl, f1, f2⟩ := o.two
    have e2 := f2.own.int_inv
    subst e2
    exact ⟨_, _, rfl, cut_ok s g o f1 e k⟩
  · cases e
theorem sl01_ok : OpS X.K X.mg sl01 fun vs H Q => ∃ x i, vs = [x, .int i] ∧ rSlAny X.K x none (some i) H Q := OpS.kid fun F H vs ts B t ts' s g o e Q k => by
  split at e
  · obtain ⟨x, y, rfl, f1, f2⟩ := o.two
    have e2 := f2.own.int_inv
    subst e2
    exact ⟨_, _, rfl, cut_ok s g o f1 e k⟩
  · cases e
theorem sl00_ok : OpS X.K X.mg sl00 fun vs H Q => ∃ x, vs = [x] ∧ rSlAny X.K x none none H Q := OpS.kid fun F H vs ts B t ts' s g o e Q k => by
  split at e
  · obtain ⟨x, rfl, f1⟩ := o.one
    exact ⟨_, rfl, cut_ok s g o f1 e k⟩
  · cases e
theorem intF_ok {f : Fe T} {σ : St} {H : Hp} {P : VK} (h : tE X W (intF f) σ H P) : tE X W f σ H fun x H1 => ∃ i, x = .int i ∧ P (.int i) H1 :=
  tG.seq h fun F1 η1 A1 B1 t v H1 F A S1 ro g1 d1 st1 k => by
    split at k
    · exact ⟨_, Own.int_inv ro, own_scalar S1 st1 (.int _) k⟩
    · exact k.elim
theorem ev_sl11 {p2 : Pos} (ha : EK X W a ka) (hl : EE X W lo fl) (hh : EE X W hi fh) : EE X W (.Subscript a (.Slice (some lo) (some hi) none p2) pos) (eOp [ka, .v (intF fl), .v (intF fh)] sl11) :=
  PE.imp (pe_slice sl_any ha (po_some hl) (po_some hh)) fun σ H Q h => by
    refine tK_mono (seq_K (op_run sl11_ok h)) fun x H1 h1 => ?_
    obtain ⟨F, η, A, S, q⟩ := intF_ok (seq_val h1)
    refine ⟨F, η, A, S, q.imp fun _ _ _ _ _ _ _ v _ _ _ _ _ ⟨i, e, h2⟩ => ⟨i, e, ?_⟩⟩
    obtain ⟨F, η, A, S, q⟩ := intF_ok (seq_val h2)
    refine ⟨F, η, A, S, q.imp fun _ _ _ _ _ _ _ v _ _ _ _ _ ⟨j, e, h3⟩ => ⟨j, e, ?_⟩⟩
    obtain ⟨x', i', j', e1, r⟩ := tA_nil h3
    cases e1
    exact r
theorem ev_sl10 {p2 : Pos} (ha : EK X W a ka) (hl : EE X W lo fl) : EE X W (.Subscript a (.Slice (some lo) none none p2) pos) (eOp [ka, .v (intF fl)] sl10) :=
  PE.imp (pe_slice sl_any ha (po_some hl) po_none) fun σ H Q h => by
    refine tK_mono (seq_K (op_run sl10_ok h)) fun x H1 h1 => ?_
    obtain ⟨F, η, A, S, q⟩ := intF_ok (seq_val h1)
    refine ⟨F, η, A, S, q.imp fun _ _ _ _ _ _ _ v _ _ _ _ _ ⟨i, e, h2⟩ => ⟨i, e, ?_⟩⟩
    obtain ⟨x', i', e1, r⟩ := tA_nil h2
    cases e1
    exact r
theorem ev_sl01 {p2 : Pos} (ha : EK X W a ka) (hh : EE X W hi fh) : EE X W (.Subscript a (.Slice none (some hi) none p2) pos) (eOp [ka, .v (intF fh)] sl01) :=
  PE.imp (pe_slice sl_any ha po_none (po_some hh)) fun σ H Q h => by
    refine tK_mono (seq_K (op_run sl01_ok h)) fun x H1 h1 => ?_
    show tE X W fh σ H1 _
    obtain ⟨F, η, A, S, q⟩ := intF_ok (seq_val h1)
    refine ⟨F, η, A, S, q.imp fun _ _ _ _ _ _ _ v _ _ _ _ _ ⟨i, e, h2⟩ => ⟨i, e, ?_⟩⟩
    obtain ⟨x', i', e1, r⟩ := tA_nil h2
    cases e1
    exact r
theorem ev_sl00 {p2 : Pos} (ha : EK X W a ka) : EE X W (.Subscript a (.Slice none none none p2) pos) (eOp [ka] sl00) :=
  PE.imp (pe_slice sl_any ha po_none po_none) fun σ H Q h => by
    refine tK_mono (seq_K (op_run sl00_ok h)) fun x H1 h1 => ?_
    obtain ⟨x', e1, r⟩ := tA_nil h1
    cases e1
    exact r
end

/-! ### methods of lists; stores by place -/
abbrev Om := T → List T → Option (T × T)
def OpM (K : PySem.W.Frag) (mg : Str → Option Value) (op : Om) (r : V → List V → Hp → VK → Prop) : Prop :=
  ∀ F H v0 vs t0 ts B t t0', Same F H → Good F H B → OwnL K mg F H (v0 :: vs) (t0 :: ts) B → op t0 ts = some (t, t0') → ∀ Q : VK,
    (∀ F' H' B' C v, Same F' H' → Good F' H' B' → Good F' H' C → Own K mg F' H' v0 t0' B' → Own K mg F' H' v t C → Dis B' C → Step F H B F' H' (Un2 B' C) → Q v H') → r v0 vs H Q
/-- o.m(e, ..), o a name's slot whose tree is of a kind -/
def eMeth (kd : T → Bool) (i : Nat) (ks : List AK) (op : Om) : Fe T := fun η => match η[i]? with
  | some (some t) => if kd t = true then (argsF ks η).bind fun as η1 => match η1[i]? with
      | some (some t0) => match valsOf as with
        | some ts => match op t0 ts with
          | some (t, t0') => .ok t (η1.set i (some t0'))
          | none => .bad
        | none => .bad
      | _ => .bad
    else .bad
  | _ => .bad
def isL : T → Bool
  | .lst _ _ => true
  | _ => false
section
variable {X : Cx} {W : XW} {i : Nat} {ks : List AK} {op : Om}
theorem meth_seq {kd : T → Bool} {Ty : String} {r : V → List V → Hp → VK → Prop} (hk : ∀ {F H : Hp} {v : V} {t : T} {A : AP}, Same F H → Own X.K X.mg F H v t A → kd t = true → tyV X.K Ty v H) (ho : OpM X.K X.mg op r) {σ : St} {H : Hp} {Q : VK} (h : tE X W (eMeth kd i ks op) σ H Q) :
    tBM X.K Ty r (tVar i) (tA X W (argsF ks)) σ H Q := by
  obtain ⟨F, η, A, S, h⟩ := h
  unfold eMeth at h
  cases e : η[i]? with
  | none => rw [e] at h; exact h.elim
  | some o =>
    cases o with
    | none => rw [e] at h; exact h.elim
    | some t =>
      rw [e] at h
      simp only at h
      split at h
      · rename_i hkt
        obtain ⟨v, B, C, h1, h2, h3, h4, h5, h6⟩ := S.env.take e
        refine ⟨v, h1, hk S.sub h2 hkt, ?_⟩
        refine tG.go (f := argsF ks) (A1 := A) (B1 := A0) S (Step.refl.weak (fun _ x => x) fun p x => x.elim id fun y => y.elim) h fun F1 η1 A1 B1 as vs H1 S1 ra g1 d1 st1 k => ?_
        cases e1 : η1[i]? with
        | none => rw [e1] at k; exact k.elim
        | some o =>
          cases o with
          | none => rw [e1] at k; exact k.elim
          | some t0 =>
            rw [e1] at k
            simp only at k
            cases e2 : valsOf as with
            | none => rw [e2] at k; exact k.elim
            | some ts =>
              rw [e2] at k
              simp only at k
              cases e3 : op t0 ts with
              | none => rw [e3] at k; exact k.elim
              | some p =>
                obtain ⟨u, t0'⟩ := p
                rw [e3] at k
                simp only at k
                obtain ⟨v1, B2, C2, q1, q2, q3, q4, q5, q6⟩ := S1.env.take e1
                rw [h1] at q1
                cases q1
                have ol := RA.vals ra e2
                have oo : OwnL X.K X.mg F1 H1 (v :: vs) (t0 :: ts) (Un2 B2 B1) := .cons q2 ol (fun p x y => d1 p (q5 p x) y) (fun _ x => .inl x) fun _ x => .inr x
                refine ho F1 H1 v vs t0 ts (Un2 B2 B1) u t0' S1.sub ((S1.good.mono q5).un g1) oo e3 Q fun F' H' B' C' w s gb gc o1 o2 dd st => ?_
                have gC2 : Good F1 H1 C2 := S1.good.mono q6
                obtain ⟨gA', dA', kA'⟩ := st.frame gC2 fun p x y => x.elim (fun z => q4 p z y) fun z => d1 p (q6 p y) z
                have n2 : EnvO X.K X.mg F' H' σ (η1.set i none) C2 := q3.mono st.sub (fun p o x => kA' p o x) fun _ x => x
                have n3 : EnvO X.K X.mg F' H' σ (η1.set i (some t0')) (Un2 C2 B') := EnvO.back n2 h1 o1 (fun p x y => dA' p (.inl x) y) (fun p x => .inr x) fun p x => .inl x
                refine k F' H' (Un2 C2 B') C' w ⟨s, gA'.un gb, n3⟩ o2 gc (fun p x y => x.elim (fun z => dA' p (.inr y) z) fun z => dd p z y) ?_
                exact st1.trans (st.wide (fun p x => x.elim (fun y => .inl (q5 p y)) .inr) fun p x => x.elim (fun y => y.elim (fun z => .inr (.inl (q6 p z))) fun z => .inl (.inl z)) fun y => .inl (.inr y))
      · exact h.elim
theorem isL_ty {F H : Hp} {v : V} {t : T} {A : AP} (s : Same F H) (h : Own X.K X.mg F H v t A) (e : isL t = true) : tyV X.K "list" v H := by
  cases t with
  | lst o ts =>
    obtain ⟨a, vs, rfl, q, _⟩ := h.lst_inv s
    exact .inl ⟨rfl, vs, .of q⟩
  | _ => cases e
def appM : Om := fun t0 ts => match t0, ts with
  | .lst true xs, [y] => if xs.length < sizeLine then some (.non, .lst true (xs ++ [y])) else none
  | _, _ => none
def extM : Om := fun t0 ts => match t0, ts with
  | .lst true xs, [.lst _ ys] => if xs.length + ys.length ≤ sizeLine then some (.non, .lst true (xs ++ ys)) else none
  | _, _ => none
def popM : Om := fun t0 ts => match t0, ts with
  | .lst true xs, [] => xs[xs.length - 1]?.map fun y => (y, .lst true xs.dropLast)
  | _, _ => none
/-- an owned list, and what is owned in it -/
theorem Own.lst_own {K : PySem.W.Frag} {mg : Str → Option Value} {F H : Hp} {v : V} {ts : List T} {A : AP} (h : Own K mg F H v (.lst true ts) A) : ∃ a vs B, v = .ref a ∧ H a = some (.lst vs) ∧ OwnL K mg F H vs ts B ∧ A a ∧ ¬ B a ∧ ∀ p, B p → A p := by
  cases h with
  | frz h => cases h
  | lst h1 h2 h3 h4 h5 => exact ⟨_, _, _, rfl, h1, h2, h3, h4, h5⟩
theorem ownL_appL {K : PySem.W.Frag} {mg : Str → Option Value} {F H : Hp} : ∀ {vs : List V} {ts : List T} {A : AP} {ws : List V} {us : List T} {B : AP}, OwnL K mg F H vs ts A → OwnL K mg F H ws us B → Dis A B → OwnL K mg F H (vs ++ ws) (ts ++ us) (Un2 A B)
  | [], [], A, ws, us, B, .nil, o, d => OwnL.mono (fun _ _ x => x) _ _ _ _ o (fun _ _ _ x => x) fun _ x => .inr x
  | _ :: _, _ :: _, A, ws, us, B, .cons h r d1 m1 m2, o, d => .cons h (ownL_appL r o fun p x => d p (m2 p x)) (fun p x y => y.elim (d1 p x) fun z => d p (m1 p x) z) (fun p x => .inl (m1 p x)) fun p x => x.elim (fun y => .inl (m2 p y)) .inr
/-- an owned list's object is written -/
theorem write_own {F H : Hp} {B C : AP} {a : Addr} {o : HO} (s : Same F H) (g : Good F H B) (ha : B a) (m : ∀ p, C p → B p ∧ p ≠ a) : Same F (upd H a o) ∧ Good F (upd H a o) (fun p => C p ∨ p = a) ∧ Step F H B F (upd H a o) (fun p => C p ∨ p = a) ∧ ∀ p u, p ≠ a → H p = some u → upd H a o p = some u := by
  have up : ∀ p u, p ≠ a → H p = some u → upd H a o p = some u := fun p u z q => by rw [upd_ne z]; exact q
  refine ⟨fun p u q => up p u (fun e => by rw [e, (g a ha).1] at q; cases q) (s p u q), fun p x => ?_, ⟨fun p u n q => up p u (fun e => n (e ▸ ha)) q, fun _ _ q => q, fun p u q => .inl q, fun p x => .inl (x.elim (fun y => (m p y).1) fun y => y ▸ ha)⟩, up⟩
  rcases x with x | x
  · exact ⟨(g p (m p x).1).1, by rw [upd_ne (m p x).2]; exact (g p (m p x).1).2⟩
  · subst x
    exact ⟨(g p ha).1, by rw [upd_same]; simp⟩
theorem appM_ok : OpM X.K X.mg appM rAppend := fun F H v0 vs t0 ts B t t0' s g o e Q k => by
  unfold appM at e
  split at e
  · rename_i xs y
    split at e
    · rename_i hz
      cases e
      cases o with
      | cons h1 h2 d m1 m2 =>
        rename_i B1 C1
        obtain ⟨w, rfl, o2⟩ := h2.one
        obtain ⟨a, vs, D, rfl, hH, ol, ha, nD, mD⟩ := h1.lst_own
        have len := ol.length
        refine ⟨a, vs, w, rfl, rfl, hH, by rw [len]; exact hz, ?_⟩
        obtain ⟨x1, x2, x3, x4⟩ := write_own (o := .lst (vs ++ [w])) (C := Un2 D C1) s g (m1 a ha) fun p x => ⟨x.elim (fun z => m1 p (mD p z)) (m2 p), fun e => by subst e; exact x.elim nD (d p ha)⟩
        have neD : ∀ p, D p → p ≠ a := fun p z e => nD (e ▸ z)
        have neC : ∀ p, C1 p → p ≠ a := fun p z e => d a ha (e ▸ z)
        refine k F _ (fun p => Un2 D C1 p ∨ p = a) A0 .non x1 x2 Good.a0 (.lst (B := Un2 D C1) upd_same (ownL_app (OwnL.mono (fun _ _ q => q) _ _ _ _ ol (fun p u z q => x4 p u (neD p z) q) fun _ q => q) (Own.mono (fun _ _ q => q) _ _ _ _ o2 (fun p u z q => x4 p u (neC p z) q) fun _ q => q) fun p z q => d p (mD p z) q) (.inr rfl) (fun z => z.elim nD (d a ha)) fun p z => .inl z) (.frz .non) (fun _ _ y => y) (x3.weak (fun _ y => y) fun p y => y.elim id fun z => z.elim)
    · cases e
  · cases e
theorem extM_ok : OpM X.K X.mg extM rExtend := fun F H v0 vs t0 ts B t t0' s g o e Q k => by
  unfold extM at e
  split at e
  · rename_i xs ow ys
    split at e
    · rename_i hz
      cases e
      cases o with
      | cons h1 h2 d m1 m2 =>
        rename_i B1 C1
        obtain ⟨w, rfl, o2⟩ := h2.one
        obtain ⟨a, vs, D, rfl, hH, ol, ha, nD, mD⟩ := h1.lst_own
        obtain ⟨b, ws, rfl, hb, ol2, _⟩ := o2.lst_inv s
        have len := ol.length
        have len2 := ol2.length
        refine ⟨a, b, vs, ws, rfl, rfl, hH, hb, by rw [len, len2]; exact hz, ?_⟩
        obtain ⟨x1, x2, x3, x4⟩ := write_own (o := .lst (vs ++ ws)) (C := Un2 D C1) s g (m1 a ha) fun p x => ⟨x.elim (fun z => m1 p (mD p z)) (m2 p), fun e => by subst e; exact x.elim nD (d p ha)⟩
        have neD : ∀ p, D p → p ≠ a := fun p z e => nD (e ▸ z)
        have neC : ∀ p, C1 p → p ≠ a := fun p z e => d a ha (e ▸ z)
        refine k F _ (fun p => Un2 D C1 p ∨ p = a) A0 .non x1 x2 Good.a0 (.lst (B := Un2 D C1) upd_same (ownL_appL (OwnL.mono (fun _ _ q => q) _ _ _ _ ol (fun p u z q => x4 p u (neD p z) q) fun _ q => q) (OwnL.mono (fun _ _ q => q) _ _ _ _ ol2 (fun p u z q => x4 p u (neC p z) q) fun _ q => q) fun p z q => d p (mD p z) q) (.inr rfl) (fun z => z.elim nD (d a ha)) fun p z => .inl z) (.frz .non) (fun _ _ y => y) (x3.weak (fun _ y => y) fun p y => y.elim id fun z => z.elim)
    · cases e
  · cases e
theorem ownL_last {K : PySem.W.Frag} {mg : Str → Option Value} {F H : Hp} : ∀ {vs : List V} {ts : List T} {A : AP} {t : T}, OwnL K mg F H vs ts A → ts[ts.length - 1]? = some t → ∃ v B C, vs[vs.length - 1]? = some v ∧ Own K mg F H v t B ∧ OwnL K mg F H vs.dropLast ts.dropLast C ∧ Dis B C ∧ (∀ p, B p → A p) ∧ ∀ p, C p → A p
  | [], [], _, t, .nil, e => by simp at e
  | [v], [u], A, t, .cons h r d m1 m2, e => by
    simp at e
    subst e
    exact ⟨v, _, A0, rfl, h, .nil, fun _ _ x => x, m1, fun _ x => x.elim⟩
  | v :: w :: vs, u :: x :: ts, A, t, .cons (B := B1) h r d m1 m2, e => by
    obtain ⟨y, B, C, e1, o1, o2, d1, k1, k2⟩ := ownL_last r (t := t) (by simpa using e)
    exact ⟨y, B, Un2 B1 C, by simpa using e1, o1, .cons h o2 (fun p q z => d p q (k2 p z)) (fun _ q => .inl q) (fun _ q => .inr q), fun p q z => z.elim (fun y => d p y (k1 p q)) (d1 p q), fun p q => m2 p (k1 p q), fun p q => q.elim (m1 p) fun z => m2 p (k2 p z)⟩
theorem popM_ok : OpM X.K X.mg popM rPop := fun F H v0 vs t0 ts B t t0' s g o e Q k => by
  unfold popM at e
  split at e
  · rename_i xs
    cases e0 : xs[xs.length - 1]? with
    | none => rw [e0] at e; cases e
    | some u =>
      rw [e0] at e
      cases e
      cases o with
      | cons h1 h2 d m1 m2 =>
        cases h2
        obtain ⟨a, vs, D, rfl, hH, ol, ha, nD, mD⟩ := h1.lst_own
        obtain ⟨w, E1, E2, e1, o1, o2, d1, k1, k2⟩ := ownL_last ol e0
        refine ⟨a, vs, w, rfl, rfl, hH, e1, ?_⟩
        obtain ⟨x1, x2, x3, x4⟩ := write_own (o := .lst vs.dropLast) (C := D) s g (m1 a ha) fun p x => ⟨m1 p (mD p x), fun e => nD (e ▸ x)⟩
        have ne1 : ∀ p, E1 p → p ≠ a := fun p z e => nD (e ▸ k1 p z)
        have ne2 : ∀ p, E2 p → p ≠ a := fun p z e => nD (e ▸ k2 p z)
        refine k F _ (fun p => E2 p ∨ p = a) E1 w x1 (x2.mono fun p z => z.elim (fun q => .inl (k2 p q)) .inr) (x2.mono fun p z => .inl (k1 p z)) (.lst (B := E2) upd_same (OwnL.mono (fun _ _ q => q) _ _ _ _ o2 (fun p u z q => x4 p u (ne2 p z) q) fun _ q => q) (.inr rfl) (fun z => ne2 a z rfl) fun p z => .inl z) (Own.mono (fun _ _ q => q) _ _ _ _ o1 (fun p u z q => x4 p u (ne1 p z) q) fun _ q => q) (fun p z q => z.elim (fun y => d1 p q y) fun y => ne1 p q y) (x3.weak (fun _ y => y) fun p y => y.elim (fun z => z.elim (fun q => .inl (k2 p q)) .inr) fun z => .inl (k1 p z))
  · cases e
end

end Jo
namespace PySem
theorem jo_iter_intTup {prog : Program} {w : World} {A : Around} {E : Value → Shared → Prop} {s : Shared} {l : Addr} {xs : Array (Int × Tok)} {Q : Value → Shared → Prop} (hl : s.heap.IsTuple l (intItems xs))
    (h : ∀ s₂ : Shared, s₂ = { s with heap := s.heap.push { cls := .type "tuple_iterator", data := .fields #[.ref l, .int 0 0] } } →
      (s₂.heap.IsTupleIter s.heap.objs.size l 0 ∧ s₂.heap.IsTuple l (intItems xs)) → (∀ b ∈ [s.heap.objs.size, l], b < s₂.heap.objs.size) → l ≠ s.heap.objs.size → Q (.ref s.heap.objs.size) s₂) :
    wpAny (model prog w) A (pyIter (.ref l)) Q E s := by
  have hlt : l < s.heap.objs.size := by obtain ⟨_, e, _⟩ := hl; exact Heap.lt_size e
  obtain ⟨o, e, r⟩ := id hl
  refine wpAny_pyIter_tuple hl (h _ rfl ⟨⟨_, Heap.get?_push_size _ rfl, rfl, rfl⟩, ⟨o, Heap.get?_push_of_some _ e, r⟩⟩ (fun b hb => ?_) (Nat.ne_of_lt hlt))
  show b < (s.heap.push _).objs.size
  rw [Heap.size_push]
  have e' : b = s.heap.objs.size ∨ b = l := by simpa using hb
  rcases e' with z | z
  · rw [z]; exact Nat.lt_succ_self _
  · rw [z]; exact Nat.lt_succ_of_lt hlt
theorem jo_sum_intTup {prog : Program} {w : World} {A : Around} {E : Value → Shared → Prop} {s : Shared} {l : Addr} {xs : Array (Int × Tok)} {Q : Value → Shared → Prop} (hh : A.handled = none) (hl : s.heap.IsTuple l (intItems xs))
    (h : ∀ h' tk t', (∀ b o, s.heap.get? b = some o → h'.get? b = some o) → Q (.int (preSum (numAt xs) xs.size) t') { s with heap := h', toks := tk }) :
    wpAny (model prog w) A (call (.builtin "sum") [.ref l]) Q E s := by
  refine call_sum_walkG (jo_iter_intTup hl fun s₂ e st hfp hlI => ?_)
  subst e
  refine ⟨_, _, _, _, _, _, numAt xs, rfl, Walks.tuple (A := A.in1) hh _ l hlI (intItems xs), st, hfp, (fun _ _ => intItems_at), fun h' tk t' hk => ?_⟩
  have := h h' tk t' (fun b o e => hk b o (fun hb => by
    have e' : b = s.heap.objs.size := by simpa using hb
    rw [e'] at e
    exact absurd (Heap.lt_size e) (Nat.lt_irrefl _)) (Heap.get?_push_of_some _ e))
  simpa [intItems] using this
end PySem
namespace L2
open PySem PySem.Spec PyProof.Rows
theorem jo_sum_rawT {prog : Program} {w : World} {A : Around} {E : Value → Shared → Prop} {s : Shared} {l : Addr} {its : List Value} {ns : List Int} {Q : Value → Shared → Prop} (hh : A.handled = none) (hl : s.heap.IsTuple l its.toArray) (hi : IntsAre its ns)
    (h : ∀ h' tk t', (∀ b o, s.heap.get? b = some o → h'.get? b = some o) → Q (.int ns.sum t') { s with heap := h', toks := tk }) : wpAny (model prog w) A (call (.builtin "sum") [.ref l]) Q E s := by
  obtain ⟨xs, e⟩ := hi.allInts.items
  have hn : numsOf (intItems xs).toList = ns := by rw [← e]; exact hi.numsOf
  rw [nums_intItems] at hn
  rw [e] at hl
  refine PySem.jo_sum_intTup hh hl fun h' tk t' hk => ?_
  have := h h' tk t' hk
  rw [preSum_eq, List.take_of_length_le (by simp), hn]; exact this
def rSumT (K : PySem.W.Frag) : List V → Hp → VK → Prop := fun vs H Q => ∃ (a : Addr) (ns : List Int), vs = [V.ref a] ∧ SqT K H a (ns.map V.int) ∧ Q (.int ns.sum) H
theorem cr_sumT {X : Cx} (hc : X.calm = true) : CallR X (.builtin "sum") (rSumT X.K) := by
  intro pins s σ H vs us Q I r h
  obtain ⟨a, ns, rfl, hs, q⟩ := h
  obtain ⟨its, rv, hl, _⟩ := I.tuple hs
  rw [Vals.ref1 r]
  exact jo_sum_rawT (I.ok.hd hc) hl rv.ints fun h' tk t' hk => ⟨.int _, H, I.kept (h' := h') (t' := tk) hk, ⟨t', rfl⟩, q⟩
end L2
namespace Jo
open PySem L2
def sumO : Op := fun ts => match ts with
  | [.lst _ xs] => (ints? xs).map fun ns => (.int ns.sum, ts)
  | [.tup xs] => (ints? xs).map fun ns => (.int ns.sum, ts)
  | _ => none
def rSum2 (K : PySem.W.Frag) : List V → Hp → VK → Prop := fun vs H Q => rSum K vs H Q ∨ rSumT K vs H Q
section
variable {X : Cx} {W : XW} {ms : List Nat} {pos : Pos}
theorem cr_sum2 (hc : X.calm = true) : CallR X (.builtin "sum") (rSum2 X.K) := (cr_sum hc).or (cr_sumT hc)
theorem sumO_ok : OpS X.K X.mg sumO (rSum2 X.K) := OpS.same fun F H vs ts B t ts' s o e => by
  unfold sumO at e
  split at e
  · rename_i ow xs
    cases q : ints? xs with
    | none => rw [q] at e; cases e
    | some ns =>
      rw [q] at e
      cases e
      obtain ⟨v, rfl, o1⟩ := o.one
      obtain ⟨a, vs, rfl, hl, ol, _⟩ := o1.lst_inv s
      have e1 := ints?_some q
      subst e1
      exact ⟨rfl, _, .int _, fun Q k => .inl ⟨a, ns, rfl, by rw [← ownL_ints ol]; exact .of hl, k⟩⟩
  · rename_i xs
    cases q : ints? xs with
    | none => rw [q] at e; cases e
    | some ns =>
      rw [q] at e
      cases e
      obtain ⟨v, rfl, o1⟩ := o.one
      obtain ⟨a, vs, rfl, hl, r⟩ := o1.tup_inv
      have e1 := ints?_some q
      subst e1
      exact ⟨rfl, _, .int _, fun Q k => .inr ⟨a, ns, rfl, by rw [← repL_ints r]; exact SqT.mono s hl, k⟩⟩
  · cases e

/-! ### x[i] = e, x op= e -/
abbrev Oi := T → T → T → Option T
def setIxO : Oi := fun y t0 k => match t0, k with
  | .lst true xs, .int i => (ixN xs.length i).map fun j => .lst true (xs.set j y)
  | _, _ => none
/-- x[i] = e: the value, the name, the place -/
def sSetIx (op : Oi) (e : Fe T) (i : Nat) (k : AK) : Fs := fun η => (argsF [.v e, .s i, k] η).bind fun as η1 => match resolve as η1 with
  | some ([y, t0, k], η2) => match op y t0 k with
    | some t0' => .ok .nx (η2.set i (some t0'))
    | none => .bad
  | _ => .bad
def OpI (K : PySem.W.Frag) (mg : Str → Option Value) (op : Oi) (r : TSet) : Prop :=
  ∀ F H vy vo vk y t0 k B t0', Same F H → Good F H B → OwnL K mg F H [vy, vo, vk] [y, t0, k] B → op y t0 k = some t0' → ∀ Q : Hp → Prop,
    (∀ F' H' B', Same F' H' → Good F' H' B' → Own K mg F' H' vo t0' B' → Step F H B F' H' B' → Q H') → r vo vk vy H Q
theorem OwnL.three {K : PySem.W.Frag} {mg : Str → Option Value} {F H : Hp} {vs : List V} {t u w : T} {A : AP} (h : OwnL K mg F H vs [t, u, w] A) : ∃ x y z B C D, vs = [x, y, z] ∧ Own K mg F H x t B ∧ Own K mg F H y u C ∧ Own K mg F H z w D ∧ Dis B C ∧ Dis B D ∧ Dis C D ∧ (∀ p, B p → A p) ∧ (∀ p, C p → A p) ∧ (∀ p, D p → A p) := by
  cases h with
  | cons h1 h2 h3 h4 h5 =>
    obtain ⟨y, z, C, D, rfl, h6, h7, h8, h9, h10⟩ := OwnL.two h2
    exact ⟨_, y, z, _, C, D, rfl, h1, h6, h7, fun p x q => h3 p x (h9 p q), fun p x q => h3 p x (h10 p q), h8, h4, fun p x => h5 p (h9 p x), fun p x => h5 p (h10 p x)⟩
theorem ownL_setj {K : PySem.W.Frag} {mg : Str → Option Value} {F H : Hp} : ∀ {vs : List V} {ts : List T} {A : AP} {j : Nat} {v : V} {t : T} {B : AP}, OwnL K mg F H vs ts A → Own K mg F H v t B → Dis A B → OwnL K mg F H (vs.set j v) (ts.set j t) (Un2 A B)
  | [], [], A, j, v, t, B, .nil, o, d => .nil
  | _ :: _, _ :: _, A, 0, v, t, B, .cons h r d1 m1 m2, o, d => .cons o r (fun p x y => d p (m2 p y) x) (fun p x => .inr x) fun p x => .inl (m2 p x)
  | _ :: _, _ :: _, A, j + 1, v, t, B, .cons h r d1 m1 m2, o, d => .cons h (ownL_setj r o fun p x => d p (m2 p x)) (fun p x y => y.elim (d1 p x) fun z => d p (m1 p x) z) (fun p x => .inl (m1 p x)) fun p x => x.elim (fun y => .inl (m2 p y)) .inr
theorem setIxO_ok : OpI X.K X.mg setIxO rSetL := fun F H vy vo vk y t0 k B t0' s g o e Q kk => by
  unfold setIxO at e
  split at e
  · rename_i xs i
    cases q : ixN xs.length i with
    | none => rw [q] at e; cases e
    | some j =>
      rw [q] at e
      cases e
      obtain ⟨x1, x2, x3, B1, B2, B3, e0, o1, o2, o3, d12, _, _, m1, m2, m3⟩ := o.three
      cases e0
      obtain ⟨a, vs, D, rfl, hH, ol, ha, nD, mD⟩ := o2.lst_own
      have e3 := o3.int_inv
      subst e3
      refine ⟨a, vs, i, j, rfl, rfl, hH, by rw [ol.length]; exact q, ?_⟩
      obtain ⟨y1, y2, y3, y4⟩ := write_own (o := .lst (vs.set j vy)) (C := Un2 D B1) s g (m2 a ha) fun p x => ⟨x.elim (fun z => m2 p (mD p z)) (m1 p), fun e => by subst e; exact x.elim nD fun z => d12 p z ha⟩
      have neD : ∀ p, D p → p ≠ a := fun p z e => nD (e ▸ z)
      have neC : ∀ p, B1 p → p ≠ a := fun p z e => d12 a (e ▸ z) ha
      exact kk F _ (fun p => Un2 D B1 p ∨ p = a) y1 y2 (.lst (B := Un2 D B1) upd_same (ownL_setj (OwnL.mono (fun _ _ q => q) _ _ _ _ ol (fun p u z q => y4 p u (neD p z) q) fun _ q => q) (Own.mono (fun _ _ q => q) _ _ _ _ o1 (fun p u z q => y4 p u (neC p z) q) fun _ q => q) fun p z q => d12 p q (mD p z)) (.inr rfl) (fun z => z.elim nD fun q => d12 a q ha) fun p z => .inl z) y3
  · cases e
theorem argsF_two {f : Fe T} {i : Nat} {k : AK} {η η1 : Env} {as : List (Sum Nat T)} (e : argsF [.v f, .s i, k] η = .ok as η1) : as[1]? = some (.inl i) := by
  have e : ((f η).bind fun t η1 => (aSlot i (argsF [k]) η1).bind fun as η2 => .ok (.inr t :: as) η2) = .ok as η1 := e
  cases q : f η with
  | ok t η2 =>
    rw [q] at e
    have e : ((aSlot i (argsF [k]) η2).bind fun as η2 => .ok (.inr t :: as) η2) = .ok as η1 := e
    cases q2 : aSlot i (argsF [k]) η2 with
    | ok as2 η3 =>
      rw [q2] at e
      cases e
      unfold aSlot at q2
      split at q2
      · cases q3 : argsF [k] η2 with
        | ok as3 η4 => rw [q3] at q2; cases q2; rfl
        | exc _ _ _ _ => rw [q3] at q2; cases q2
        | bad => rw [q3] at q2; cases q2
      · cases q2
    | exc _ _ _ _ => rw [q2] at e; cases e
    | bad => rw [q2] at e; cases e
  | exc _ _ _ _ => rw [q] at e; cases e
  | bad => rw [q] at e; cases e
theorem tS.seqE {K : PySem.W.Frag} {mg : Str → Option Value} {D : Ends} {σ : St} {H : Hp} {α ν : Type} {R : St → Hp → Hp → ν → α → AP → Prop} {f : Fe α} {g : α → Fs} {P : ν → Hp → Prop} (h : tS K mg W ms (fun η => (f η).bind g) D σ H)
    (k : ∀ F1 η1 A1 B1 a v H1 F A, Sit K mg F1 H1 η1 σ A1 → R σ F1 H1 v a B1 → Good F1 H1 B1 → Dis A1 B1 → Step F H A F1 H1 (Un2 A1 B1) → AfterS K mg W ms F H A σ (g a η1) D → (∃ η, f η = .ok a η1) → P v H1) : tG K mg R W f σ H P := by
  obtain ⟨F, η, A, S, h⟩ := h
  refine ⟨F, η, A, S, ?_⟩
  have h : AfterS K mg W ms F H A σ ((f η).bind g) D := h
  cases e : f η with
  | ok a η1 =>
    rw [e] at h
    exact fun F1 H1 A1 B1 v s r gd d p => k F1 η1 A1 B1 a v H1 F A s r gd d p h ⟨η, e⟩
  | exc c ks fs η' =>
    rw [e] at h
    exact fun F1 H1 A1 cls d s p ex => h F1 H1 A1 σ cls d s p Kp.refl ex
  | bad =>
    rw [e] at h
    exact h
theorem ss_setIx {x : Str} {e ie : Expr} {fe : Fe T} {i : Nat} {k : AK} {op : Oi} {r : TSet} {p1 p2 : Pos} (he : EE X W e fe) (ho : PE X (.Name x p1) (tVar i)) (hk : EK X W ie k) (hset : PSet X r) (hop : OpI X.K X.mg op r)
    (hs : swapsWithSole [.Subscript (.Name x p1) ie p2] e pos.line X.env = pure false := by rfl) (hw : swappedStores [.Subscript (.Name x p1) ie p2] e X.env = pure none := by rfl)
    (ha : ∀ v, assign (.Subscript (.Name x p1) ie p2) X.env v = (do
      let ov ← holding [v] (eval (.Name x p1) X.env)
      let iv ← holding [v, ov] (eval ie X.env)
      standAt p2
      holding [v, ov, iv] (setItem ov iv v)
      release [v, ov, iv] []) := by intro _; rfl)
    (h1 : (assignEach [.Subscript (.Name x p1) ie p2] X.env).map (·.2) = [assign (.Subscript (.Name x p1) ie p2) X.env] := by rfl) :
    SS X W ms (.Assign [.Subscript (.Name x p1) ie p2] e pos) (sSetIx op fe i k) :=
  PS.imp (ps_asg he (pg_sub ho hk hset ha) hs hw h1) fun D σ H h => by
    have q : tA X W (argsF [.v fe, .s i, k]) σ H fun vs H1 => ∃ vy vo vk, vs = [vy, vo, vk] ∧ r vo vk vy H1 fun H2 => D.nx σ H2 := tS.seqE h fun F1 η1 A1 B1 as vs H1 F A S1 ra g1 d1 st1 kk ⟨ηq, eq0⟩ => by
      cases e1 : resolve as η1 with
      | none => rw [e1] at kk; exact kk.elim
      | some p =>
        obtain ⟨ts, η2⟩ := p
        rw [e1] at kk
        obtain ⟨A', B', n1, o1, d2, m1, m2⟩ := resolve_ok S1.env ra d1 e1
        split at kk
        · rename_i y t0 kt η0 heq
          cases heq
          split at kk
          · rename_i t0' e2
            obtain ⟨vy, vo, vk, C1, C2, C3, rfl, q1, q2, q3, _⟩ := o1.three
            refine ⟨vy, vo, vk, rfl, hop F1 H1 vy vo vk y t0 kt B' t0' S1.sub ((S1.good.un g1).mono m2) o1 e2 _ fun F' H' B'' s gb o' st => ?_⟩
            obtain ⟨gA', dA', kA'⟩ := st.frame (S1.good.mono m1) fun p x y => d2 p y x
            have n2 : EnvO X.K X.mg F' H' σ η2 A' := n1.mono st.sub (fun p o x => kA' p o x) fun _ x => x
            have hsl : σ[i]? = some (some vo) := by
              obtain ⟨w, w1, w2⟩ := ra.slots 1 i (argsF_two eq0)
              cases w1
              exact w2
            have n3 : EnvO X.K X.mg F' H' σ (η2.set i (some t0')) (Un2 A' B'') := EnvO.back (n2.drop i) hsl o' (fun p x y => dA' p x y) (fun p x => .inr x) fun p x => .inl x
            exact kk F' H' (Un2 A' B'') σ ⟨s, (gA'.un gb), n3⟩ (st1.trans (st.wide (fun p x => m2 p x) fun p x => x.elim (fun z => .inr (.inl (m1 p z))) .inl)) Kp.refl
          · exact kk.elim
        · exact kk.elim
    obtain ⟨F, η, A, S, h2⟩ := seq_val (f := fe) (r := argsF [.s i, k]) q
    refine ⟨F, η, A, S, h2.imp fun _ _ _ _ _ _ _ v _ _ _ _ _ h3 => ?_⟩
    refine tK_mono (k := .s i) (seq_K (k := .s i) (r := argsF [k]) h3) fun vo H2 h4 => ?_
    refine tK_mono (args1 h4) fun vk H3 h5 => ?_
    obtain ⟨vy', vo', vk', e, h6⟩ := h5
    cases e
    exact h6
/-- x op= e of a name -/
def sAug (i : Nat) (e : Fe T) (op : Op) : Fs := sSet i (eOp [.s i, .v e] op)
theorem ss_aug {i : Nat} {x : Str} {e : Expr} {fe : Fe T} {bo : Operator} {ti : TIp} {op : Op} {pos' : Pos} (hN : X.N.Nodup) (hi : X.N[i]? = some x) (hx : Loc X.env.scope x) (hm : ms.contains i = false) (he : EE X W e fe) (hp : PIp X bo ti) (ho : OpS X.K X.mg op fun vs H Q => ∃ x y, vs = [x, y] ∧ ti x y H Q)
    (hf : X.fn x = true ∨ X.env.scope.names.lookup x = some .local := by first | exact .inl rfl | exact .inr rfl | assumption) : SS X W ms (.AugAssign (.Name x pos') bo e pos) (sAug i fe op) :=
  PS.imp (ps_aug hN hi hx he hp hf) fun D σ H h => by
    have q : tE X W (eOp [.s i, .v fe] op) σ H fun x H1 => gName i x σ H1 D.nx := seq_set hm h
    obtain ⟨v, e, h1⟩ := args2 (op_run ho q)
    refine ⟨v, e, ?_⟩
    obtain ⟨F, η, A, S, h2⟩ := h1
    refine ⟨F, η, A, S, h2.imp fun _ _ _ _ _ _ _ w _ _ _ _ _ h3 => ?_⟩
    obtain ⟨x', y', e2, h4⟩ := h3
    cases e2
    exact h4
theorem aug_addI : OpS X.K X.mg (i2 fun i j => some (.int (i + j))) fun vs H Q => ∃ x y, vs = [x, y] ∧ ipI (fun i j => i + j) x y H Q := i2_ok fun F i j t e => by cases e; exact ⟨_, .int _, fun H Q q => ⟨i, j, rfl, rfl, q⟩⟩
theorem aug_subI : OpS X.K X.mg (i2 fun i j => some (.int (i - j))) fun vs H Q => ∃ x y, vs = [x, y] ∧ ipI (fun i j => i - j) x y H Q := i2_ok fun F i j t e => by cases e; exact ⟨_, .int _, fun H Q q => ⟨i, j, rfl, rfl, q⟩⟩
end

/-! ### isinstance with built-in types -/
inductive Ty7 where
  | non | bl | int | str | tup | lst | dct
deriving DecidableEq
def Ty7.nm : Ty7 → String
  | .non => "NoneType"
  | .bl => "bool"
  | .int => "int"
  | .str => "str"
  | .tup => "tuple"
  | .lst => "list"
  | .dct => "dict"
def Ty7.isa : Ty7 → Ty7 → Bool
  | .bl, .int => true
  | a, b => decide (a = b)
theorem Ty7.kit : ∀ a b : Ty7, kitB a.nm b.nm = some (a.isa b) := by
  intro a b
  cases a <;> cases b <;> decide +kernel
def T.ty7 : T → Option Ty7
  | .non => some .non
  | .bl _ => some .bl
  | .int _ => some .int
  | .str _ => some .str
  | .tup _ => some .tup
  | .lst _ _ => some .lst
  | .scr _ => some .lst
  | .dk _ _ _ => some .dct
  | .dt _ _ _ => some .dct
  | _ => none
def isiO (bs : List Ty7) : Op := fun ts => match ts with
  | [x] => x.ty7.map fun a => (.bl (bs.any fun b => a.isa b), ts)
  | _ => none
section
variable {K : PySem.W.Frag} {mg : Str → Option Value} {F H : Hp} {v : V} {t : T} {A : AP}
theorem sqT_tyx {a : Addr} {vs : List V} (h : SqT K H a vs) : TyX K H (.ref a) (.type "tuple") := by
  rcases h with (h | ⟨o, h⟩) | ⟨o, its, n, e, c, _⟩
  · exact .base (.tup h)
  · exact .fTuple h
  · exact .kTuple e c
theorem sqL_tyx {a : Addr} {vs : List V} (h : SqL K H a vs) : TyX K H (.ref a) (.type "list") := by
  rcases h with (h | ⟨o, h⟩) | ⟨o, its, n, e, c, _⟩
  · exact .base (.lst h)
  · exact .base (.frz h)
  · exact .kList e c
theorem rep_tyx {a : Ty7} (s : Same F H) (h : Rep K mg F v t) (e : t.ty7 = some a) : TyX K H v (.type a.nm) := by
  cases h with
  | non => cases e; exact .base .non
  | bl b => cases e; exact .base (.bl b)
  | int i => cases e; exact .base (.int i)
  | str z => cases e; exact .base (.str z)
  | ty n => cases e
  | kt ks => cases e
  | gl g => cases e
  | tup h r => cases e; exact sqT_tyx (SqT.mono s h)
  | scr h => cases e; exact sqL_tyx (s.seq h)
  | lst h r => cases e; exact .base (.lst (s _ _ h))
  | dk h h0 r => cases e; exact .base (.dK (s _ _ h))
  | dt h h0 r => cases e; exact .base (.dT (s _ _ h))
  | ins h g h0 r => cases e
  | ex g1 g2 h h0 r => cases e
theorem own_tyx {a : Ty7} (s : Same F H) (h : Own K mg F H v t A) (e : t.ty7 = some a) : TyX K H v (.type a.nm) := by
  cases h with
  | frz r => exact rep_tyx s r e
  | lst h _ _ _ _ => cases e; exact .base (.lst h)
  | dk h _ _ _ _ _ => cases e; exact .base (.dK h)
  | dt h _ _ _ _ _ => cases e; exact .base (.dT h)
  | ins h _ _ _ _ _ _ => cases e
theorem kit_any {a : Ty7} : ∀ bs : List Ty7, PySem.W.kitAny K (.type a.nm) (bs.map fun b => Value.type b.nm) = some (bs.any fun b => a.isa b)
  | [] => rfl
  | b :: bs => by
    refine kitAny_cons (kit_ty (Ty7.kit a b)) (fun h => ?_) fun h => ?_
    · rw [List.any_cons, h, Bool.false_or]; exact kit_any bs
    · rw [List.any_cons, h]; rfl
theorem pair_cls : ∀ bs : List Ty7, Paired ClsV (bs.map fun b => V.ty b.nm) (bs.map fun b => Value.type b.nm)
  | [] => .nil
  | b :: bs => .cons (.ty b.nm) (pair_cls bs)
end
section
variable {X : Cx} {W : XW} {pos : Pos} {a : Expr} {k : AK} {bs : List Ty7}
/-- what isinstance of one, or of several asks -/
def rIsi7 (K : PySem.W.Frag) (bs : List Ty7) : List V → Hp → VK → Prop := fun vs H Q => ∃ x n, vs = [x] ∧ ∀ H', Same H H' → TyX K H' x (.type (Ty7.nm n)) ∧ Q (.bl (bs.any fun b => n.isa b)) H'
theorem isiO_ok : OpS X.K X.mg (isiO bs) (rIsi7 X.K bs) := fun F H vs ts B t ts' s g o e Q kk => by
  unfold isiO at e
  split at e
  · rename_i x
    cases q : x.ty7 with
    | none => rw [q] at e; cases e
    | some n =>
      rw [q] at e
      cases e
      obtain ⟨v, rfl, o1⟩ := o.one
      refine ⟨v, n, rfl, fun H' ex => ?_⟩
      have kp : ∀ p u, B p → H p = some u → H' p = some u := fun p u _ y => ex p u y
      have gB : Good F H' B := fun p y => ⟨(g p y).1, fun z => by
        cases q2 : H p with
        | none => exact (g p y).2 q2
        | some u => rw [ex p u q2] at z; cases z⟩
      refine ⟨own_tyx (fun p u y => ex p u (s p u y)) (Own.mono (fun _ _ y => y) _ _ _ _ o1 kp fun _ y => y) q, ?_⟩
      exact kk F H' B A0 _ (fun p u y => ex p u (s p u y)) gB Good.a0 (OwnL.mono (fun _ _ y => y) _ _ _ _ o kp fun _ y => y) (.frz (.bl _)) (fun _ _ y => y) ⟨fun p u _ y => ex p u y, fun _ _ y => y, fun _ _ y => .inl y, fun p y => .inl (y.elim id fun z => z.elim)⟩
  · cases e
theorem ext_refl {H : Hp} : Same H H := fun _ _ h => h
theorem ext_upd {H : Hp} {l : Addr} {o : HO} (h : H l = none) : Same H (upd H l o) := fun b u e => by rw [upd_ne (ne_of_none e h)]; exact e
/-- a type's name -/
structure TyN (X : Cx) (e : Expr) (b : Ty7) : Prop where
  pe : PE X e (tC (.ty b.nm))
theorem tyn {x : Str} {b : Ty7} (hg : Gl X x) (hm : X.mg x = none) (hv : bootBuiltins x = some (.type b.nm)) (hn : x ≠ "__name__" := by decide) (hd : (x == ("__debug__" : Str)) = false := by decide) : TyN X (.Name x pos) b := ⟨pe_bltn hg hm hv (v := .ty b.nm) rfl hn hd⟩
theorem ev_isi {c : Expr} {b : Ty7} {x : Str} {p : Pos} (hx : x = "isinstance") (hg : Gl X x) (hm : X.mg x = none) (ha : EK X W a k) (hc : TyN X c b)
    (he : starEach (a :: [c]) X.env = (false, eval a X.env) :: starEach [c] X.env := by rfl) (he2 : starEach [c] X.env = (false, eval c X.env) :: starEach [] X.env := by rfl) (hpl : (backTo pos (starEach [c] X.env)).any (·.1) = false := by rfl) : EE X W (.Call (.Name x p) [a, c] [] pos) (eOp [k] (isiO [b])) := by
  subst hx
  exact PE.imp (pe_callB call_isi hg hm PyProof.Rows.boot_isinstance (pa_cons ha (pa_cons hc.pe pa_nil he2) he) (by decide) (by decide) he hpl) fun σ H Q h => by
    refine tK_mono (args1 (op_run isiO_ok h)) fun x H1 ⟨y, n, e, q⟩ => ?_
    cases e
    exact ⟨_, _, _, _, _, rfl, .ty _, (q H1 ext_refl).1, kit_ty (Ty7.kit n b), by simpa using (q H1 ext_refl).2⟩
inductive TyNs (X : Cx) : List Expr → List Ty7 → Prop
  | nil : TyNs X [] []
  | cons {e : Expr} {b : Ty7} {es : List Expr} {bs : List Ty7} (h : TyN X e b) (r : TyNs X es bs) (he : starEach (e :: es) X.env = (false, eval e X.env) :: starEach es X.env := by rfl) : TyNs X (e :: es) (b :: bs)
theorem TyNs.pa {es : List Expr} {bs : List Ty7} (h : TyNs X es bs) : ∃ t, PA X es t ∧ ∀ σ H Q, Q (bs.map fun b => V.ty b.nm) H → t σ H Q := by
  induction h with
  | nil => exact ⟨_, pa_nil, fun σ H Q q => q⟩
  | cons h r he ih =>
    obtain ⟨t, p, i⟩ := ih
    exact ⟨_, pa_cons h.pe p he, fun σ H Q q => i _ _ _ q⟩
theorem ev_isiT {cs : List Expr} {kk : Nat} {x : Str} {p tp : Pos} (hx : x = "isinstance") (hg : Gl X x) (hm : X.mg x = none) (ha : EK X W a k) (hc : TyNs X cs bs) (hz : bs.length ≤ sizeLine := by decide)
    (he : starEach (a :: [.Tuple cs kk tp]) X.env = (false, eval a X.env) :: starEach [.Tuple cs kk tp] X.env := by rfl) (he2 : starEach [.Tuple cs kk tp] X.env = (false, eval (.Tuple cs kk tp) X.env) :: starEach [] X.env := by rfl) (hpl : (backTo pos (starEach [.Tuple cs kk tp] X.env)).any (·.1) = false := by rfl) : EE X W (.Call (.Name x p) [a, .Tuple cs kk tp] [] pos) (eOp [k] (isiO bs)) := by
  subst hx
  obtain ⟨t, pt, it⟩ := hc.pa
  exact PE.imp (pe_callB call_isiT hg hm PyProof.Rows.boot_isinstance (pa_cons ha (pa_cons (pe_tup pt) pa_nil he2) he) (by decide) (by decide) he hpl) fun σ H Q h => by
    refine tK_mono (args1 (op_run isiO_ok h)) fun x H1 ⟨y, n, e, q⟩ => ?_
    cases e
    refine it _ _ _ ⟨?_, fun l hl => ?_⟩
    · rw [List.length_map]; exact hz
    · exact ⟨_, _, _, _, _, _, rfl, upd_same, pair_cls bs, (q _ (ext_upd hl)).1, kit_any bs, (q _ (ext_upd hl)).2⟩
/-! ### never -/
def eNever {α : Type} : Fe α := fun _ => .bad
theorem ev_never {e : Expr} : EE X W e eNever := ⟨fun _ _ _ _ _ _ ⟨_, _, _, _, h⟩ => h.elim⟩
theorem et_never {e : Expr} : ET X W e eNever := ⟨fun _ _ _ _ _ _ ⟨_, _, _, _, h⟩ => h.elim⟩
end
/-! ### methods' calls -/
section
variable {X : Cx} {W : XW} {i : Nat} {pos : Pos} {o e : Expr} {es : List Expr} {ks : List AK}
theorem ev_append {apos cpos p : Pos} {x : Str} (ho : PE X (.Name x p) (tVar i)) (ha : EAs X W [e] ks)
    (hline : (apos.endLine == cpos.line) = true := by rfl) (hs : starEach (e :: []) X.env = (false, eval e X.env) :: starEach [] X.env := by rfl) 
    (hbase : attributeBase (.Name x p) "append" X.env (eval (.Name x p) X.env) = eval (.Name x p) X.env := by rfl)
    (hfew : ((backTo cpos (starEach [e] X.env)).all (fun x => !x.1) && (backToKw cpos (keywordEach [] X.env)).all (fun x => x.1.isSome)
      && decide ([e].length + ([] : List Keyword).length + (if ([] : List Keyword).isEmpty then 0 else 1) < 30)) = true := by rfl) :
    EE X W (.Call (.Attribute (.Name x p) "append" apos) [e] [] cpos) (eMeth isL i ks appM) :=
  PE.imp (pe_bm PySem.F.plainAttrs_list PySem.F.slot_list_append PySem.F.type_list_append mt_append ho ha hbase hfew hline hs rfl) fun σ H Q h => meth_seq (fun s o e => isL_ty s o e) appM_ok h
end

/-! ### small facts for the printed derivations -/
theorem jb_len : bootBuiltins "len" = some (.builtin "len") := by decide +kernel
theorem jb_sum : bootBuiltins "sum" = some (.builtin "sum") := by decide +kernel
theorem jb_abs : bootBuiltins "abs" = some (.builtin "abs") := by decide +kernel
theorem jb_max : bootBuiltins "max" = some (.builtin "max") := by decide +kernel
theorem jb_min : bootBuiltins "min" = some (.builtin "min") := by decide +kernel
theorem jb_all : bootBuiltins "all" = some (.builtin "all") := by decide +kernel
theorem jb_any : bootBuiltins "any" = some (.builtin "any") := by decide +kernel
theorem jb_int : bootBuiltins "int" = some (.type "int") := by decide +kernel
theorem jb_bool : bootBuiltins "bool" = some (.type "bool") := by decide +kernel
theorem jb_str : bootBuiltins "str" = some (.type "str") := by decide +kernel
theorem jb_list : bootBuiltins "list" = some (.type "list") := by decide +kernel
theorem jb_tuple : bootBuiltins "tuple" = some (.type "tuple") := by decide +kernel
theorem jb_dict : bootBuiltins "dict" = some (.type "dict") := by decide +kernel
theorem hu64 {k : Nat} {A : Around} (r : Room k A) : A.units + 64 < cLine := by have := r.un; omega
def blkB (N : List Str) (sc scope : Scope) (own : List (Str × Nat)) : Bool :=
  (match scope.kind with | .function => true | _ => false) && (scope.names.all fun y => decide (scope.names.lookup y.1 = some y.2)) && (own.all fun p => decide (N[p.2]? = some p.1))
  && (scope.names.all fun y => decide (y.2 ≠ .free) || decide (sc.names.lookup y.1 = some .cell) || decide (sc.names.lookup y.1 = some .free))
  && (scope.names.all fun y => !(decide (y.2 = .local) || decide (y.2 = .cell)) || (own.map (·.1)).contains y.1 || !N.contains y.1)
theorem blk_of {N : List Str} {sc scope : Scope} {own : List (Str × Nat)} (h : blkB N sc scope own = true) : BlkOk N sc scope own := by
  unfold blkB at h
  simp only [Bool.and_eq_true, List.all_eq_true, decide_eq_true_eq] at h
  obtain ⟨⟨⟨⟨h1, h2⟩, h3⟩, h4⟩, h5⟩ := h
  refine ⟨?_, h2, h3, fun y hy e => ?_, fun y hy e => ?_⟩
  · split at h1
    · assumption
    · cases h1
  · have := h4 y hy
    simp only [Bool.or_eq_true, decide_eq_true_eq] at this
    rcases this with (a | a) | a
    · exact (a e).elim
    · exact .inl a
    · exact .inr a
  · have := h5 y hy
    simp only [Bool.or_eq_true, Bool.not_eq_true', decide_eq_true_eq, Bool.or_eq_false_iff, decide_eq_false_iff_not] at this
    rcases this with (a | a) | a
    · exact (e.elim a.1 a.2).elim
    · exact .inl (by simpa using a)
    · exact .inr (by simpa using a)

/-! ### the end: the law's promise -/
def spEnd (K : PySem.W.Frag) : Sp := fun vs H Q E => (∃ (a : Addr) (ns : List Int), vs = [.ref a] ∧ SqL K H a (ns.map V.int) ∧ ns.length ≤ 63 ∧ ∀ H', Q (.bl true) H')
theorem spEnd_of {K : PySem.W.Frag} {mg : Str → Option Value} {f : Fn} (h : ∀ ns : List Int, ns.length ≤ 63 → ∃ us, f [.scr ns] = .ok (.bl true) us) : ∀ vs H Q E, spEnd K vs H Q E → spOf K mg [] 1 f vs H Q E := fun vs H Q E ⟨a, ns, e, hs, hl, k⟩ => by
  subst e
  obtain ⟨us, q⟩ := h ns hl
  refine ⟨rfl, H, [.scr ns], A0, fun _ _ x => x, Good.a0, .cons (B := A0) (C := A0) (.frz (.scr hs)) .nil (fun _ x => x.elim) (fun _ x => x) (fun _ x => x), ?_⟩
  rw [q]
  intro F' H' A' B v s g1 g2 o1 o2 d st
  cases o2 with
  | frz r => cases r; exact k H'
theorem walk {l : PySem.W.OpenLaw} {q : Program} {loose : List Str} {XP : (Str → Option Value) → Heap → Prop} {YP : World → Heap → Prop} {d : DefRec} {K : Params → PySem.W.Frag} {k : Nat} {x : Str} {f : Fn} (hn : l.most = some 63) (hdf : d.params.defaults = []) (hr : Room k callerA)
    (hY : ∀ (w : World) (h : Heap), YP w h → (K w.params).In h)
    (F : ∀ (w : World) (mg : Str → Option Value) (fa : Addr) (h : Heap), (K w.params).In h → h.Ns mainGlobals mg → mg d.name = some (.ref fa) →
      ∃ fd : FuncData, (∀ (s : Shared) (u : Value), BindsTo s fd ⟨[u], []⟩ [(x, u)]) ∧ ∀ base : Heap, (K w.params).In base → base.Ns mainGlobals mg → FnOk l.prog w (K w.params) mg base (L2.CX l.prog w) k fa fd [x] (spOf (K w.params) mg [] 1 f))
    (h : ∀ ns : List Int, ns.length ≤ 63 → ∃ us, f [.scr ns] = .ok (.bl true) us) :
    PySem.W.WalkO q loose XP YP l.row.toRowW d [] (fun f vs => PySem.call f vs) :=
  L2.walk_of (n := 63) (k := k) (x := x) (CX := fun w => L2.CX l.prog w) (sp := fun w => spEnd (K w.params)) hn (by decide) hdf hr hY (fun w mg fa hp h1 h2 h3 => by
    obtain ⟨fd, b, g⟩ := F w mg fa hp h1 h2 h3
    exact ⟨fd, b, fun base h4 h5 => (g base h4 h5).imp (spEnd_of h)⟩)
    (fun _ _ a ns hl _ hS => ⟨a, ns, rfl, hS, hl, fun _ => rfl⟩) fun _ _ _ _ _ z => by
      obtain ⟨_, _, _, _, _, _, _, _, _, _, _, _, z⟩ := z
      exact z

/-! ### running the terms on given trees -/
theorem o_sub (a b : Int) : opSub [.int a, .int b] = some (.int (a - b), [.int a, .int b]) := rfl
theorem o_add (a b : Int) : opAdd [.int a, .int b] = some (.int (a + b), [.int a, .int b]) := rfl
theorem o_lt (a b : Int) : opLt [.int a, .int b] = some (.bl (decide (a < b)), [.int a, .int b]) := rfl
theorem o_le (a b : Int) : opLe [.int a, .int b] = some (.bl (decide (a ≤ b)), [.int a, .int b]) := rfl
theorem o_gt (a b : Int) : opGt [.int a, .int b] = some (.bl (decide (b < a)), [.int a, .int b]) := rfl
theorem o_ge (a b : Int) : opGe [.int a, .int b] = some (.bl (decide (b ≤ a)), [.int a, .int b]) := rfl
theorem o_mul (a b : Int) (h : CMul a b ∨ CMulW a b) : opMul [.int a, .int b] = some (.int (a * b), [.int a, .int b]) := by
  show mulO [.int a, .int b] = _
  unfold mulO
  simp only [h, if_true]
theorem mulR (a b : Int) (h : -(2 ^ 64) < b ∧ b < 2 ^ 64) : CMul a b ∨ CMulW a b := .inl (.inr h)
theorem mulL (a b : Int) (h : -(2 ^ 64) < a ∧ a < 2 ^ 64) : CMul a b ∨ CMulW a b := .inl (.inl h)
theorem o_mod (a b : Int) (h : 0 < b) : opMod [.int a, .int b] = some (.int (a % b), [.int a, .int b]) := by
  unfold opMod i2
  simp [h]
theorem o_fdiv (a b : Int) (h : 0 < b) (h2 : b < 1073741824) : opFdiv [.int a, .int b] = some (.int (a / b), [.int a, .int b]) := by
  unfold opFdiv i2
  simp [h, h2]
theorem o_int (a : Int) : intO [.int a] = some (.int a, [.int a]) := rfl
theorem o_intb (a : Bool) : intO [.bl a] = some (.int (if a then 1 else 0), [.bl a]) := rfl
theorem o_abs (a : Int) : absO [.int a] = some (.int (if a < 0 then -a else a), [.int a]) := rfl
theorem o_neg (a : Int) : negO [.int a] = some (.int (-a), [.int a]) := rfl
theorem o_lenl (o : Bool) (xs : List T) : lenO [.lst o xs] = some (.int xs.length, [.lst o xs]) := rfl
theorem o_lent (xs : List T) : lenO [.tup xs] = some (.int xs.length, [.tup xs]) := rfl
theorem o_eq (a b : Int) : eqO false [.int a, .int b] = some (.bl (decide (a = b)), [.int a, .int b]) := by
  unfold eqO
  have h : ∀ i : Int, SeqAt.shaped (.int i) = true := fun i => rfl
  have g : ∀ i j : Int, PyData.eqv (.int i) (.int j) = decide (i = j) := fun i j => by show (i == j) = _; by_cases e : i = j <;> simp [e]
  simp [T.dat, h, g]
theorem o_ne (a b : Int) : eqO true [.int a, .int b] = some (.bl (!decide (a = b)), [.int a, .int b]) := by
  unfold eqO
  have h : ∀ i : Int, SeqAt.shaped (.int i) = true := fun i => rfl
  have g : ∀ i j : Int, PyData.eqv (.int i) (.int j) = decide (i = j) := fun i j => by show (i == j) = _; by_cases e : i = j <;> simp [e]
  simp [T.dat, h, g]
theorem ixN_nat (n : Nat) (i : Int) (h : 0 ≤ i) (h2 : i < n) : ixN n i = some i.toNat := by
  unfold ixN
  rw [if_pos h, if_pos h2]
theorem o_ix (o : Bool) (xs : List T) (i : Int) (j : Nat) (t : T) (h : ixN xs.length i = some j) (e : xs[j]? = some t) : ixO [.lst o xs, .int i] = some (t.frz, [.lst o (xs.set j t.frz), .int i]) := by
  unfold ixO
  simp only [h, e, Option.bind_some, Option.map_some]
/-! ### the hand -/
/-- a hand: its cells, what is read of them, the great cell's rest, the seed, the turns -/
def HandT (cells : List Int) (a b s n : Int) : T := .lst true [.lst false (cells.map .int), .int a, .int b, .int s, .int n]
theorem frzL_ints (ns : List Int) : frzL (ns.map T.int) = ns.map T.int := by
  rw [frzL_map, List.map_map]; rfl
theorem defF_rt {n : Nat} {ms : List Nat} {body : Fs} {ts us : List T} {t : T} {η : Env} (h : body (ts.map some ++ List.replicate (n - ts.length) none) = .ok (.rt t) η) (p : pickE ms η = some us) : defF n ms body ts = .ok t us := by
  unfold defF
  rw [h]
  simp only [p]
theorem defF_nx {n : Nat} {ms : List Nat} {body : Fs} {ts us : List T} {η : Env} (h : body (ts.map some ++ List.replicate (n - ts.length) none) = .ok .nx η) (p : pickE ms η = some us) : defF n ms body ts = .ok .non us := by
  unfold defF
  rw [h]
  simp only [p]
theorem sSeq_nx {f g : Fs} {η η1 : Env} (h : f η = .ok .nx η1) : sSeq f g η = g η1 := by
  unfold sSeq
  rw [h]
  rfl
theorem sSeq_rt {f g : Fs} {η η1 : Env} {t : T} (h : f η = .ok (.rt t) η1) : sSeq f g η = .ok (.rt t) η1 := by
  unfold sSeq
  rw [h]
  rfl

/-! ### loops by what they keep -/
theorem forF_inv {tg : Tg} {body : Fs} : ∀ {ts : List T} (I : Nat → Env → Prop), (∀ i t η, ts[i]? = some t → I i η → ∃ η1 η2, tg t η = some η1 ∧ (body η1 = .ok .nx η2 ∨ body η1 = .ok .ct η2) ∧ I (i + 1) η2) → ∀ {η : Env}, I 0 η → ∃ η', forF tg body ts η = .ok .nx η' ∧ I ts.length η'
  | [], I, step, η, h => ⟨η, rfl, h⟩
  | t :: ts, I, step, η, h => by
    obtain ⟨η1, η2, e1, e2, h2⟩ := step 0 t η rfl h
    obtain ⟨η', e3, h3⟩ := forF_inv (tg := tg) (body := body) (ts := ts) (fun i => I (i + 1)) (fun i u ζ eu hu => step (i + 1) u ζ (by simpa using eu) hu) h2
    refine ⟨η', ?_, h3⟩
    unfold forF
    rw [e1]
    rcases e2 with e2 | e2 <;> · simp only [e2]; exact e3
theorem forF_rng {tg : Tg} {body : Fs} {lo : Int} {n : Nat} (I : Nat → Env → Prop) (step : ∀ i η, i < n → I i η → ∃ η1 η2, tg (.int (lo + i)) η = some η1 ∧ (body η1 = .ok .nx η2 ∨ body η1 = .ok .ct η2) ∧ I (i + 1) η2) {η : Env} (h : I 0 η) : ∃ η', forF tg body (rangeT lo n) η = .ok .nx η' ∧ I n η' := by
  obtain ⟨η', e, k⟩ := forF_inv (tg := tg) (body := body) (ts := rangeT lo n) I (fun i t η e hI => by
    have e' := rangeT_get e
    subst e'
    have hl : i < (rangeT lo n).length := (List.getElem?_eq_some_iff.mp e).1
    rw [rangeT_length] at hl
    exact step i η hl hI) h
  rw [rangeT_length] at k
  exact ⟨η', e, k⟩
theorem compF_inv {own : List Nat} {tg : Tg} {c : Fe Bool} {elt : Fe T} : ∀ {ts : List T} (I : Nat → List T → Env → Prop), (∀ i t acc η, ts[i]? = some t → I i acc η → ∃ η1 b η2, tg t η = some η1 ∧ c η1 = .ok b η2 ∧ (b = false → I (i + 1) acc (wipeE η2 own)) ∧ (b = true → ∃ u η3, elt η2 = .ok u η3 ∧ I (i + 1) (acc ++ [u]) (wipeE η3 own))) →
    ∀ {acc : List T} {η : Env}, acc.length + ts.length ≤ sizeLine → I 0 acc η → ∃ acc' η', compF own tg c elt ts acc η = .ok acc' η' ∧ I ts.length acc' η'
  | [], I, step, acc, η, hz, h => ⟨acc, η, rfl, h⟩
  | t :: ts, I, step, acc, η, hz, h => by
    obtain ⟨η1, b, η2, e1, e2, hf, ht⟩ := step 0 t acc η rfl h
    have hz : acc.length + (ts.length + 1) ≤ sizeLine := hz
    cases b with
    | false =>
      obtain ⟨acc', η', e3, h3⟩ := compF_inv (own := own) (tg := tg) (c := c) (elt := elt) (ts := ts) (fun i => I (i + 1)) (fun i u a ζ eu hu => step (i + 1) u a ζ (by simpa using eu) hu) (by omega) (hf rfl)
      refine ⟨acc', η', ?_, h3⟩
      unfold compF
      simp only [e1, e2]
      exact e3
    | true =>
      obtain ⟨u, η3, e4, h4⟩ := ht rfl
      obtain ⟨acc', η', e3, h3⟩ := compF_inv (own := own) (tg := tg) (c := c) (elt := elt) (ts := ts) (fun i => I (i + 1)) (fun i u a ζ eu hu => step (i + 1) u a ζ (by simpa using eu) hu) (acc := acc ++ [u]) (by rw [List.length_append]; simp; omega) h4
      refine ⟨acc', η', ?_, h3⟩
      unfold compF
      have hl : acc.length < sizeLine := by omega
      simp only [e1, e2, e4, hl, if_true]
      exact e3
/-- every element by itself, nothing else changed -/
theorem compF_map {own : List Nat} {tg : Tg} {elt : Fe T} {E : Env} (hE : wipeE E own = E) (g : T → T) {ts : List T} (step : ∀ t ∈ ts, ∃ η1 η3, tg t E = some η1 ∧ elt η1 = .ok (g t) η3 ∧ wipeE η3 own = E) (hz : ts.length ≤ sizeLine) : compF own tg cYes elt ts [] E = .ok (ts.map g) E := by
  obtain ⟨acc, η, e, h1, h2⟩ := compF_inv (own := own) (tg := tg) (c := cYes) (elt := elt) (ts := ts) (fun i acc η => acc = (ts.take i).map g ∧ η = E) (fun i t acc η et hI => by
    obtain ⟨ha, he⟩ := hI
    subst he
    obtain ⟨η1, η3, e1, e2, e3⟩ := step t (List.mem_of_getElem? et)
    refine ⟨η1, true, η1, e1, rfl, (fun z => by cases z), fun _ => ⟨g t, η3, e2, ?_, e3⟩⟩
    subst ha
    have hl := (List.getElem?_eq_some_iff.mp et).1
    rw [List.take_succ, et, List.map_append]
    rfl) (acc := []) (η := E) (by simpa using hz) ⟨rfl, rfl⟩
  rw [e, h1, h2, List.take_length]
theorem o_sum (o : Bool) (ns : List Int) : sumO [.lst o (ns.map T.int)] = some (.int ns.sum, [.lst o (ns.map T.int)]) := by
  unfold sumO
  simp only [ints?_map, Option.map_some]
theorem cutL_map {α β : Type} (f : α → β) (xs : List α) (lo hi : Option Int) : cutL (xs.map f) lo hi = (cutL xs lo hi).map f := by
  unfold cutL
  rw [List.length_map, List.map_take, List.map_drop]
theorem eComp_of {it : Fe (List T)} {own : List Nat} {tg : Tg} {c : Fe Bool} {elt : Fe T} {η η1 η2 : Env} {ts acc : List T} (h1 : it η = .ok ts η1) (h2 : compF own tg c elt ts [] (wipeE η1 own) = .ok acc η2) : eComp it own tg c elt η = .ok (.lst true acc) η2 := by
  unfold eComp
  rw [h1]
  simp only [Res.bind, h2]
theorem sFor_of {it : Fe (List T)} {tg : Tg} {b : Fs} {η η1 : Env} {ts : List T} {r : Res Fl} (h1 : it η = .ok ts η1) (h2 : forF tg b ts η1 = r) : sFor it tg b η = r := by
  unfold sFor
  rw [h1]
  exact h2
theorem iRng1_of {k : AK} {η η1 η2 : Env} {as : List (Sum Nat T)} {j : Int} (h : argsF [k] η = .ok as η1) (h2 : resolve as η1 = some ([.int j], η2)) (hb : -(2 ^ 62) ≤ j ∧ j < 2 ^ 62) : iRng1F k η = .ok (rangeT 0 j.toNat) η1 := by
  unfold iRng1F
  rw [h]
  show (match resolve as η1 with | some ([.int j], _) => _ | _ => _) = _
  rw [h2]
  exact if_pos hb
theorem iRng2_of {k k' : AK} {η η1 η2 : Env} {as : List (Sum Nat T)} {i j : Int} (h : argsF [k, k'] η = .ok as η1) (h2 : resolve as η1 = some ([.int i, .int j], η2)) (hb : -(2 ^ 62) ≤ i ∧ i < 2 ^ 62 ∧ -(2 ^ 62) ≤ j ∧ j < 2 ^ 62) : iRng2F k k' η = .ok (rangeT i (j - i).toNat) η1 := by
  unfold iRng2F
  rw [h]
  show (match resolve as η1 with | some ([.int i, .int j], _) => _ | _ => _) = _
  rw [h2]
  exact if_pos hb
theorem bd62 {i : Int} (h0 : -(2 ^ 60) ≤ i) (h1 : i ≤ 2 ^ 60) : -(2 ^ 62) ≤ i ∧ i < 2 ^ 62 := by omega
theorem eLst_of {ks : List AK} {η η1 : Env} {as : List (Sum Nat T)} {ts : List T} (h : argsF ks η = .ok as η1) (h2 : valsOf as = some ts) (hz : ts.length ≤ 1000) : eLst ks η = .ok (.lst true ts) η1 := by
  have hz' : ts.length ≤ sizeLine := Nat.le_trans hz (by decide)
  unfold eLst
  rw [h]
  simp only [Res.bind, h2, hz', if_true]
theorem eTup_of {ks : List AK} {η η1 : Env} {as : List (Sum Nat T)} {ts : List T} (h : argsF ks η = .ok as η1) (h2 : valsOf as = some ts) (hz : ts.length ≤ 1000) : eTup ks η = .ok (.tup (frzL ts)) η1 := by
  have hz' : ts.length ≤ sizeLine := Nat.le_trans hz (by decide)
  unfold eTup
  rw [h]
  simp only [Res.bind, h2, hz', if_true]
theorem eOp_of {ks : List AK} {op : Op} {η η1 η2 : Env} {as : List (Sum Nat T)} {ts ts' : List T} {t : T} (h : argsF ks η = .ok as η1) (h2 : resolve as η1 = some (ts, η2)) (h3 : op ts = some (t, ts')) : eOp ks op η = .ok t (putBack as ts' η2) := by
  unfold eOp
  rw [h]
  simp only [Res.bind, h2, h3]
theorem sSet_of {i : Nat} {e : Fe T} {η η1 : Env} {t : T} (h : e η = .ok t η1) (hi : i < η1.length) : sSet i e η = .ok .nx (η1.set i (some t)) := by
  unfold sSet
  rw [h]
  exact if_pos hi
theorem sRet_of {e : Fe T} {η η1 : Env} {t : T} (h : e η = .ok t η1) : sRet e η = .ok (.rt t) η1 := by
  unfold sRet
  rw [h]
  rfl
theorem sExpr_of {e : Fe T} {η η1 : Env} {t : T} (h : e η = .ok t η1) : sExpr e η = .ok .nx η1 := by
  unfold sExpr
  rw [h]
  rfl
theorem sIf_t {c : Fe Bool} {a b : Fs} {η η1 : Env} (h : c η = .ok true η1) : sIf c a b η = a η1 := by
  unfold sIf
  rw [h]
  rfl
theorem sIf_f {c : Fe Bool} {a b : Fs} {η η1 : Env} (h : c η = .ok false η1) : sIf c a b η = b η1 := by
  unfold sIf
  rw [h]
  rfl
theorem tVal_of {e : Fe T} {η η1 : Env} {b : Bool} (h : e η = .ok (.bl b) η1) : tVal e η = .ok b η1 := by
  unfold tVal
  rw [h]
  rfl
theorem tNot_of {e : Fe Bool} {η η1 : Env} {b : Bool} (h : e η = .ok b η1) : tNotF e η = .ok (!b) η1 := by
  unfold tNotF
  rw [h]
  rfl
theorem eCall_of {f : Fn} {ms : List Nat} {ks : List AK} {η η1 η2 : Env} {as : List (Sum Nat T)} {ts us : List T} {t : T} (h : argsF ks η = .ok as η1) (h2 : resolve as η1 = some (ts, η2)) (h3 : f ts = .ok t us) : eCall f ms ks η = .ok t (backM ms as us η2) := by
  unfold eCall
  rw [h]
  simp only [Res.bind, h2, h3]
theorem args_v {f : Fe T} {ks : List AK} {η η1 η2 : Env} {t : T} {as : List (Sum Nat T)} (h : f η = .ok t η1) (h2 : argsF ks η1 = .ok as η2) : argsF (.v f :: ks) η = .ok (.inr t :: as) η2 := by
  show ((f η).bind fun t η1 => (argsF ks η1).bind fun as η2 => .ok (.inr t :: as) η2) = _
  rw [h]
  show ((argsF ks η1).bind fun as η2 => .ok (.inr t :: as) η2) = _
  rw [h2]
  rfl
theorem args_s {i : Nat} {ks : List AK} {η η2 : Env} {t : T} {as : List (Sum Nat T)} (h : η[i]? = some (some t)) (h2 : argsF ks η = .ok as η2) : argsF (.s i :: ks) η = .ok (.inl i :: as) η2 := by
  show (match η[i]? with | some (some _) => _ | _ => _) = _
  rw [h]
  show ((argsF ks η).bind fun as η2 => .ok (.inl i :: as) η2) = _
  rw [h2]
  rfl
theorem args_0 {η : Env} : argsF [] η = .ok [] η := rfl
theorem eOp_r {ks : List AK} {op : Op} {η η1 η2 η3 : Env} {as : List (Sum Nat T)} {ts ts' : List T} {t : T} (h : argsF ks η = .ok as η1) (h2 : resolve as η1 = some (ts, η2)) (h3 : op ts = some (t, ts')) (h4 : putBack as ts' η2 = η3) : eOp ks op η = .ok t η3 := h4 ▸ eOp_of h h2 h3
theorem eCall_r {f : Fn} {ms : List Nat} {ks : List AK} {η η1 η2 η3 : Env} {as : List (Sum Nat T)} {ts us : List T} {t : T} (h : argsF ks η = .ok as η1) (h2 : resolve as η1 = some (ts, η2)) (h3 : f ts = .ok t us) (h4 : backM ms as us η2 = η3) : eCall f ms ks η = .ok t η3 := h4 ▸ eCall_of h h2 h3

/-! ### zip of two -/
section
variable {K : PySem.W.Frag} {mg : Str → Option Value} {F : Hp} {a b : Addr} {vs ws : List V} {ts us : List T}
theorem WalkT.zipL (h : F a = some (.lst vs)) (r : Paired (Rep K mg F) vs ts) (h2 : F b = some (.lst ws)) (r2 : Paired (Rep K mg F) ws us) : WalkT K mg F (Itz K a b) (zipT ts us) where
  goes := fun i H hi s => by
    rw [zipT_length] at hi
    exact ⟨vs, ws, vs[i]'(by rw [r.length]; omega), ws[i]'(by rw [r2.length]; omega), .of (s _ _ h), .of (s _ _ h2), List.getElem?_eq_getElem _, List.getElem?_eq_getElem _⟩
  stops := fun H s => ⟨vs, ws, .of (s _ _ h), .of (s _ _ h2), by rw [zipT_length, r.length, r2.length]; omega⟩
  yields := fun i t H x H' e s y => by
    obtain ⟨q, x1, y1, e0, hn, hH, k1, k2⟩ := y
    obtain ⟨u, w, e1, e2, e3⟩ := zipT_get e
    obtain ⟨v, e4, rp⟩ := repL_get r e1
    obtain ⟨v', e5, rp'⟩ := repL_get r2 e2
    have := k1 vs (.of (s _ _ h))
    rw [e4] at this
    cases this
    have := k2 ws (.of (s _ _ h2))
    rw [e5] at this
    cases this
    exact .inr ⟨q, _, _, e0, hn, hH, e3, .cons rp (.cons rp' .nil)⟩
theorem WalkT.zipTu (h : SqT K F a vs) (r : Paired (Rep K mg F) vs ts) (h2 : SqT K F b ws) (r2 : Paired (Rep K mg F) ws us) : WalkT K mg F (RZ.ItzT K a b) (zipT ts us) where
  goes := fun i H hi s => by
    rw [zipT_length] at hi
    exact ⟨vs, ws, vs[i]'(by rw [r.length]; omega), ws[i]'(by rw [r2.length]; omega), SqT.mono s h, SqT.mono s h2, List.getElem?_eq_getElem _, List.getElem?_eq_getElem _⟩
  stops := fun H s => ⟨vs, ws, SqT.mono s h, SqT.mono s h2, by rw [zipT_length, r.length, r2.length]; omega⟩
  yields := fun i t H x H' e s y => by
    obtain ⟨q, x1, y1, e0, hn, hH, k1, k2⟩ := y
    obtain ⟨u, w, e1, e2, e3⟩ := zipT_get e
    obtain ⟨v, e4, rp⟩ := repL_get r e1
    obtain ⟨v', e5, rp'⟩ := repL_get r2 e2
    have := k1 vs (SqT.mono s h)
    rw [e4] at this
    cases this
    have := k2 ws (SqT.mono s h2)
    rw [e5] at this
    cases this
    exact .inr ⟨q, _, _, e0, hn, hH, e3, .cons rp (.cons rp' .nil)⟩
end
def zipOf (ts : List T) : Option (List T) := match frzL ts with
  | [.lst _ xs, .lst _ ys] => some (zipT xs ys)
  | [.tup xs, .tup ys] => some (zipT xs ys)
  | _ => none
def iZipF (f g : Fe T) : Fe (List T) := fun η => (argsF [.v f, .v g] η).bind fun as η1 => match valsOf as with
  | some ts => match zipOf ts with
    | some zs => .ok zs η1
    | none => .bad
  | none => .bad
section
variable {X : Cx} {W : XW} {pos p : Pos} {e e2 : Expr} {f g : Fe T}
theorem si_zip {elts : List Expr} {kk0 : Nat} {tpos : Pos} (hg : Gl X "zip") (hm : X.mg "zip" = none) (h : EE X W e f) (h2 : EE X W e2 g) (hs : starEach [e, e2] X.env = (false, eval e X.env) :: starEach [e2] X.env := by rfl) (hs2 : starEach [e2] X.env = (false, eval e2 X.env) :: starEach [] X.env := by rfl) (hpl : (backTo pos (starEach [e2] X.env)).any (·.1) = false := by rfl) :
    SI X W (.Tuple elts kk0 tpos) (.Call (.Name "zip" p) [e, e2] [] pos) (iZipF f g) :=
  PI.imp (RZ.pi_zipA hg hm (eas_cons (ek_v h) (eas_cons (ek_v h2) eas_nil hs2) hs) hs hpl) fun σ H R q => tG.seq q fun F1 η1 A1 B1 as vs H1 F A S1 ra g1 d1 st1 kk => by
    cases e0 : valsOf as with
    | none => rw [e0] at kk; exact kk.elim
    | some ts =>
      rw [e0] at kk
      simp only at kk
      have ol := RA.vals ra e0
      obtain ⟨gA, stF⟩ := frz_step (B := B1) S1.sub S1.good fun q y z => d1 q z y
      have rp := OwnL.frz_in (frzF_same (A := B1) S1.sub) _ _ _ ol fun q y => frzF_in y
      have fin : ∀ {J : It} {xs : List T}, WalkT X.K X.mg (frzF F1 H1 B1) J xs → After X.K X.mg (RW X.K X.mg) W F H A σ (.ok xs η1) R → R J H1 := fun {J xs} w kk =>
        kk (frzF F1 H1 B1) H1 A1 A0 J ⟨frzF_sub S1.sub, gA, S1.env.mono (frzF_same S1.sub) (fun _ _ _ y => y) fun _ y => y⟩ w Good.a0 (fun _ _ y => y) (st1.trans (stF.weak (fun q y => y.elim .inr .inl) fun p y => y.elim id fun z => z.elim))
      cases e1 : zipOf ts with
      | none => rw [e1] at kk; exact kk.elim
      | some zs =>
        rw [e1] at kk
        simp only at kk
        unfold zipOf at e1
        split at e1
        · rename_i heq
          cases e1
          rw [heq] at rp
          cases rp with
          | cons r1 rr =>
            cases rr with
            | cons r2 rr =>
              cases rr
              cases r1 with
              | lst a1 a2 =>
                cases r2 with
                | lst b1 b2 => exact ⟨_, _, _, _, rfl, .inl ⟨.of (frzF_sub S1.sub _ _ a1), .of (frzF_sub S1.sub _ _ b1), fin (WalkT.zipL a1 a2 b1 b2) kk⟩⟩
        · rename_i heq
          cases e1
          rw [heq] at rp
          cases rp with
          | cons r1 rr =>
            cases rr with
            | cons r2 rr =>
              cases rr
              cases r1 with
              | tup a1 a2 =>
                cases r2 with
                | tup b1 b2 => exact ⟨_, _, _, _, rfl, .inr ⟨SqT.mono (frzF_sub S1.sub) a1, SqT.mono (frzF_sub S1.sub) b1, fin (WalkT.zipTu a1 a2 b1 b2) kk⟩⟩
        · cases e1
end
/-! ### a call that only looks: the arguments come back as they were -/
def T.flat : T → Bool
  | .non => true
  | .bl _ => true
  | .int _ => true
  | .str _ => true
  | _ => false
def borO (fn : Fn) : Op := fun ts => match fn (frzL ts) with
  | .ok t _ => if t.flat = true then some (t, ts) else none
  | _ => none
section
variable {X : Cx} {W : XW} {k n : Nat} {f : Addr} {fd : FuncData} {ps : List Str} {fn : Fn} {x : Str} {p pos : Pos} {e : Expr} {es : List Expr} {ks : List AK}
theorem Rep.flat {K : PySem.W.Frag} {mg : Str → Option Value} {F F' : Hp} {v : V} {t : T} (h : Rep K mg F v t) (e : t.flat = true) : Rep K mg F' v t := by
  cases h <;> first | exact .non | exact .bl _ | exact .int _ | exact .str _ | cases e
theorem Own.flat {K : PySem.W.Frag} {mg : Str → Option Value} {F H F' : Hp} {v : V} {t : T} {A : AP} (h : Own K mg F H v t A) (e : t.flat = true) : Rep K mg F' v t := by
  cases h with
  | frz r => exact r.flat e
  | lst => cases e
  | dk => cases e
  | dt => cases e
  | ins => cases e
theorem borO_ok : OpS X.K X.mg (borO fn) fun vs H Q => ∀ (E : XK), vs.length = n → spOf X.K X.mg [] n fn vs H Q E := fun F H vs ts B t ts' s g o e Q kk E hn => by
  unfold borO at e
  cases q : fn (frzL ts) with
  | bad => rw [q] at e; cases e
  | exc c a b d => rw [q] at e; cases e
  | ok t0 us =>
    rw [q] at e
    simp only at e
    split at e
    · rename_i hf
      cases e
      have rp := OwnL.frz_in (frzF_same (A := B) s) _ _ _ o fun q y => frzF_in y
      refine ⟨hn, frzF F H B, frzL ts, A0, frzF_sub s, Good.a0, OwnL.of_rep rp, ?_⟩
      rw [q]
      intro F' H' A' B' v s' g1 g2 o1 o2 d st
      have sH : Same H H' := fun p u h => st.keep p u (fun z => z.elim) h
      refine kk F H' B A0 v (fun p u h => sH p u (s p u h)) (fun p y => ⟨(g p y).1, fun z => ?_⟩) Good.a0 (OwnL.mono (fun _ _ y => y) _ _ _ _ o (fun p u _ y => sH p u y) fun _ y => y) (.frz (o2.flat hf)) (fun _ _ y => y) ⟨fun p u _ y => sH p u y, fun _ _ y => y, fun _ _ y => .inl y, fun p y => .inl (y.elim id fun z => z.elim)⟩
      cases q2 : H p with
      | none => exact (g p y).2 q2
      | some u => rw [sH p u q2] at z; cases z
    · cases e
theorem ev_callBor (F : FnOk X.prog X.w X.K X.mg X.base (L2.CX X.prog X.w) k f fd ps (spOf X.K X.mg [] n fn)) (hr : Room k X.A) (hg : Gl X x) (hm : X.mg x = some (.ref f)) (hk : PySem.W.keepIn X.K (.ref f) = true) (hb : Binds X.K fd ps []) (tk : Takes X W) (hn : ks.length = n)
    (ha : EAs X W (e :: es) ks) (hdb : (x == ("__debug__" : Str)) = false := by decide) (he : starEach (e :: es) X.env = (false, eval e X.env) :: starEach es X.env := by rfl) (hpl : (backTo pos (starEach es X.env)).any (·.1) = false := by rfl) :
    EE X W (.Call (.Name x p) (e :: es) [] pos) (eOp ks (borO fn)) :=
  PE.imp (pe_callS F hr hg hm hk hb (fun σ => passAt tk σ) ha hdb he hpl) fun σ H Q q => by
    -- how many values there are is known of the arguments
    have q2 : tA X W (argsF ks) σ H fun vs H1 => vs.length = n ∧ ∀ (E : XK), vs.length = n → spOf X.K X.mg [] n fn vs H1 Q E := by
      have h1 := op_run (borO_ok (n := n)) q
      obtain ⟨F, η, A, S, h2⟩ := h1
      refine ⟨F, η, A, S, ?_⟩
      cases e0 : argsF ks η with
      | bad => rw [e0] at h2; exact h2.elim
      | exc c kk fs η' => rw [e0] at h2; exact h2
      | ok as η' =>
        rw [e0] at h2
        intro F' H' A' B v S' ra g d st
        exact ⟨by rw [RA.length ra, argsF_len e0, hn], h2 F' H' A' B v S' ra g d st⟩
    obtain ⟨F, η, A, S, h2⟩ := q2
    exact ⟨F, η, A, S, h2.imp fun _ _ _ _ _ _ _ v _ _ _ _ _ h3 => h3.2 _ h3.1⟩
end
/-! ### a def that calls itself, by depth -/
theorem ok_none {P : Program} {w : World} {K : PySem.W.Frag} {mg : Str → Option Value} {base : Heap} {CX : CXT} {k n : Nat} {f : Addr} {fd : FuncData} {ps : List Str} (hn : ps.length = n) : FnOk P w K mg base CX k f fd ps (spOf K mg [] n fun _ => .bad) :=
  ⟨fun vs H Q E h => h.1.trans hn.symm, fun A outer s H args us vs Q E hr he hb hv hs => by
    obtain ⟨_, _, _, _, _, _, _, z⟩ := hs
    exact z.elim⟩

/-! ### more methods; sorted; attributes -/
section
variable {X : Cx} {W : XW} {i : Nat} {pos : Pos} {o e : Expr} {es : List Expr} {ks : List AK}
theorem ev_extend {apos cpos p : Pos} {x : Str} (ho : PE X (.Name x p) (tVar i)) (ha : EAs X W [e] ks)
    (hline : (apos.endLine == cpos.line) = true := by rfl) (hs : starEach (e :: []) X.env = (false, eval e X.env) :: starEach [] X.env := by rfl)
    (hbase : attributeBase (.Name x p) "extend" X.env (eval (.Name x p) X.env) = eval (.Name x p) X.env := by rfl)
    (hfew : ((backTo cpos (starEach [e] X.env)).all (fun x => !x.1) && (backToKw cpos (keywordEach [] X.env)).all (fun x => x.1.isSome)
      && decide ([e].length + ([] : List Keyword).length + (if ([] : List Keyword).isEmpty then 0 else 1) < 30)) = true := by rfl) :
    EE X W (.Call (.Attribute (.Name x p) "extend" apos) [e] [] cpos) (eMeth isL i ks extM) :=
  PE.imp (pe_bm PySem.F.plainAttrs_list PySem.F.slot_list_extend PySem.F.type_list_extend mt_extend ho ha hbase hfew hline hs rfl) fun σ H Q h => meth_seq (fun s o e => isL_ty s o e) extM_ok h
theorem ev_pop {apos cpos p : Pos} {x : Str} (ho : PE X (.Name x p) (tVar i)) (hline : (apos.endLine == cpos.line) = true := by rfl)
    (hbase : attributeBase (.Name x p) "pop" X.env (eval (.Name x p) X.env) = eval (.Name x p) X.env := by rfl) :
    EE X W (.Call (.Attribute (.Name x p) "pop" apos) [] [] cpos) (eMeth isL i [] popM) :=
  PE.imp (pe_bm0 PySem.F.plainAttrs_list PySem.F.slot_list_pop PySem.F.type_list_pop mt_pop ho hbase hline) fun σ H Q h => by
    obtain ⟨v, e, ty, h2⟩ := meth_seq (fun s o e => isL_ty s o e) popM_ok h
    exact ⟨v, e, ty, tA_nil h2⟩
end
/-- insertion, in ascending order -/
def insI (x : Int) : List Int → List Int
  | [] => [x]
  | y :: ys => if x ≤ y then x :: y :: ys else y :: insI x ys
def sortI : List Int → List Int
  | [] => []
  | x :: xs => insI x (sortI xs)
theorem insI_perm (x : Int) : ∀ ys : List Int, (insI x ys).Perm (x :: ys)
  | [] => .refl _
  | y :: ys => by
    unfold insI
    split
    · exact .refl _
    · exact ((insI_perm x ys).cons y).trans (List.Perm.swap x y ys)
theorem sortI_perm : ∀ xs : List Int, (sortI xs).Perm xs
  | [] => .refl _
  | x :: xs => (insI_perm x _).trans ((sortI_perm xs).cons x)
theorem insI_sorted (x : Int) : ∀ ys : List Int, ys.Pairwise (· ≤ ·) → (insI x ys).Pairwise (· ≤ ·)
  | [], _ => by simp [insI]
  | y :: ys, h => by
    have h1 := List.pairwise_cons.mp h
    unfold insI
    split
    · rename_i hxy
      exact List.pairwise_cons.mpr ⟨fun z hz => by
        rcases List.mem_cons.mp hz with q | q
        · rw [q]; exact hxy
        · exact Int.le_trans hxy (h1.1 z q), h⟩
    · rename_i hxy
      exact List.pairwise_cons.mpr ⟨fun z hz => by
        rcases List.mem_cons.mp ((insI_perm x ys).mem_iff.mp hz) with q | q
        · rw [q]; omega
        · exact h1.1 z q, insI_sorted x ys h1.2⟩
theorem sortI_sorted : ∀ xs : List Int, (sortI xs).Pairwise (· ≤ ·)
  | [] => .nil
  | x :: xs => insI_sorted x _ (sortI_sorted xs)
theorem sorted_one : ∀ {xs ys : List Int}, xs.Perm ys → xs.Pairwise (· ≤ ·) → ys.Pairwise (· ≤ ·) → xs = ys
  | [], ys, p, _, _ => p.nil_eq
  | x :: xs, [], p, _, _ => by cases p.symm.nil_eq
  | x :: xs, y :: ys, p, h1, h2 => by
    have a1 := List.pairwise_cons.mp h1
    have a2 := List.pairwise_cons.mp h2
    have e : x = y := by
      rcases List.mem_cons.mp (p.mem_iff.mp (List.mem_cons_self : x ∈ x :: xs)) with q | q
      · exact q
      · rcases List.mem_cons.mp (p.mem_iff.mpr (List.mem_cons_self : y ∈ y :: ys)) with r | r
        · exact r.symm
        · have := a1.1 y r
          have := a2.1 x q
          omega
    subst e
    rw [sorted_one (List.perm_cons x |>.mp p) a1.2 a2.2]
def sortO : Op := fun ts => match ts with
  | [.lst _ xs] => (ints? xs).map fun ns => (.lst true ((sortI ns).map T.int), ts)
  | _ => none
section
variable {X : Cx}
theorem sortO_ok : OpS X.K X.mg sortO (rSortedI X.K) := fun F H vs ts B t ts' s g o e Q k => by
  unfold sortO at e
  split at e
  · rename_i ow xs
    cases q : ints? xs with
    | none => rw [q] at e; cases e
    | some ns =>
      rw [q] at e
      cases e
      obtain ⟨v, rfl, o1⟩ := o.one
      obtain ⟨a, vs, rfl, hl, ol, _⟩ := o1.lst_inv s
      have e1 := ints?_some q
      subst e1
      refine ⟨a, ns, rfl, by rw [← ownL_ints ol]; exact .of hl, fun ns' p hp hs hn => ?_⟩
      have en : ns' = sortI ns := sorted_one (hp.trans (sortI_perm ns).symm) hs (sortI_sorted ns)
      subst en
      have rp : ∀ zs : List Int, Paired (Rep X.K X.mg F) (zs.map V.int) (zs.map T.int) := fun zs => by
        induction zs with
        | nil => exact .nil
        | cons z zs ih => exact .cons (.int z) ih
      exact fin_lst s g o (rp _) hn k
  · cases e
/-! ### attributes -/
/-- what is known of a class: its objects are plain, f is none of its own attributes -/
def InsC (K : PySem.W.Frag) (mg : Str → Option Value) (c f : Str) : Prop := ∀ C, mg c = some (.ref C) → Cls K C ∧ NoAttr K C f
def fldO (c f : Str) : Op := kidO fun ts => match ts with
  | [.ins _ c' ks us] => if c' = c then ((ks.zip us).lookup f).map fun t => (t, ts) else none
  | _ => none
theorem lookup_rep {K : PySem.W.Frag} {mg : Str → Option Value} {F : Hp} {f : Str} {t : T} : ∀ {fs : List (Str × V)} {us : List T}, Paired (Rep K mg F) (fs.map (·.2)) us → ((fs.map (·.1)).zip us).lookup f = some t → ∃ v, fs.lookup f = some v ∧ Rep K mg F v t
  | [], _, .nil, e => by cases e
  | (n, v) :: fs, u :: us, .cons h r, e => by
    rw [List.map_cons, List.zip_cons_cons, List.lookup_cons] at e
    rw [List.lookup_cons]
    cases q : f == n with
    | true =>
      rw [q] at e
      cases e
      exact ⟨v, rfl, h⟩
    | false =>
      rw [q] at e
      exact lookup_rep r e
def rFld (K : PySem.W.Frag) (f : Str) : List V → Hp → VK → Prop := fun vs H Q => ∃ a C dx fs v, vs = [.ref a] ∧ H a = some (.ins C dx fs) ∧ Cls K C ∧ NoAttr K C f ∧ fs.lookup f = some v ∧ Q v H
theorem fldO_ok {c f : Str} (hc : InsC X.K X.mg c f) : OpS X.K X.mg (fldO c f) (rFld X.K f) := OpS.kid fun F H vs ts B t ts' s g o e Q k => by
  split at e
  · rename_i ow c' ks us
    split at e
    · rename_i ec
      subst ec
      cases q : (ks.zip us).lookup f with
      | none => rw [q] at e; cases e
      | some t0 =>
        rw [q] at e
        cases e
        obtain ⟨v, rfl, o1⟩ := o.one
        cases o1 with
        | rep r =>
          cases r with
          | ins h1 h2 h3 h4 =>
            subst h3
            obtain ⟨w, e1, rw1⟩ := lookup_rep h4 q
            obtain ⟨z1, z2⟩ := hc _ h2
            exact ⟨_, _, _, _, w, rfl, s _ _ h1, z1, z2, e1, fin_same s g o.own rw1 k⟩
        | ins h1 h2 h3 h4 h5 =>
          subst h3
          obtain ⟨w, e1, rw1⟩ := lookup_rep h4 q
          obtain ⟨z1, z2⟩ := hc _ h2
          exact ⟨_, _, _, _, w, rfl, h1, z1, z2, e1, fin_same s g o.own rw1 k⟩
    · cases e
  · cases e
theorem ev_fld {W : XW} {a : Expr} {ka : AK} {c f : Str} {pos : Pos} (hc : InsC X.K X.mg c f) (ha : EK X W a ka) (hb : attributeBase a f X.env (eval a X.env) = eval a X.env := by rfl) : EE X W (.Attribute a f pos) (eOp [ka] (fldO c f)) :=
  PE.imp (pe_fld ha hb) fun σ H Q h => tK_mono (args1 (op_run (fldO_ok hc) h)) fun x H1 ⟨a, C, dx, fs, v, e, h1, h2, h3, h4, h5⟩ => by
    cases e
    exact ⟨a, C, dx, fs, v, rfl, h1, h2, h3, h4, h5⟩
end
theorem jb_sorted : bootBuiltins "sorted" = some (.builtin "sorted") := by decide +kernel

/-! ### objects: made, and their attributes stored -/
def eMake (c : Str) (f : Fn) (ks : List AK) : Fe T := fun η => (argsF ks η).bind fun as η1 => match resolve as η1 with
  | some (ts, η2) => match f (.ins true c [] [] :: ts) with
    | .ok .non [t] => .ok t η2
    | _ => .bad
  | none => .bad
section
variable {X : Cx} {W : XW} {k n : Nat} {fI C : Addr} {fd : FuncData} {ps : List Str} {fn : Fn} {x : Str} {p pos : Pos} {e : Expr} {es : List Expr} {ks : List AK}
theorem make_seq (hm : X.mg x = some (.ref C)) (hn : ks.length + 1 = n) {σ : St} {H : Hp} {Q : VK} (h : tE X W (eMake x fn ks) σ H Q) : tMake C (spOf X.K X.mg [0] n fn) [] E0 (tA X W (argsF ks)) σ H Q := by
  refine tG.seqE h fun F1 η1 A1 B1 as vs H1 F A S1 ra g1 d1 st1 q ⟨η0, qe⟩ => ?_
  intro y dx ny ndx nex
  cases e1 : resolve as η1 with
  | none => rw [e1] at q; exact q.elim
  | some pr =>
    obtain ⟨ts, η2⟩ := pr
    rw [e1] at q
    simp only at q
    obtain ⟨A', B', n1, o1, d2, m1, m2⟩ := resolve_ok S1.env ra d1 e1
    have gB : Good F1 H1 B' := (S1.good.un g1).mono m2
    have gA : Good F1 H1 A' := S1.good.mono m1
    -- the new object
    have sm : Same H1 (upd (upd H1 dx (.own y)) y (.ins C dx [])) := fun b o z => by rw [upd_ne (ne_of_none z ny), upd_ne (ne_of_none z ndx)]; exact z
    have fy : F1 y = none := by
      cases z : F1 y with
      | none => rfl
      | some u => rw [S1.sub _ _ z] at ny; cases ny
    have ngB : ∀ b, B' b → b ≠ y := fun b z1 z2 => (gB b z1).2 (by rw [z2]; exact ny)
    have ngA : ∀ b, A' b → b ≠ y := fun b z1 z2 => (gA b z1).2 (by rw [z2]; exact ny)
    have up : ∀ {b : Addr}, H1 b ≠ none → (upd (upd H1 dx (.own y)) y (.ins C dx [])) b ≠ none := fun {b} z w => by
      cases z2 : H1 b with
      | none => exact z z2
      | some u => rw [sm _ _ z2] at w; cases w
    refine ⟨by rw [List.append_nil, List.length_cons, ra.length, argsF_len qe, hn], F1, .ins true x [] [] :: ts, Un2 (fun b => b = y) B', fun b o z => sm b o (S1.sub b o z), fun b z => ?_, ?_, ?_⟩
    · rcases z with z | z
      · subst z; exact ⟨fy, by rw [upd_same]; exact fun w => nomatch w⟩
      · exact ⟨(gB b z).1, up (gB b z).2⟩
    · rw [List.append_nil]
      exact .cons (B := fun b => b = y) (C := B') (.ins (B := A0) upd_same hm rfl .nil rfl (fun z => z) fun _ z => z.elim) (OwnL.mono (fun _ _ z => z) _ _ _ _ o1 (fun b o _ z => sm b o z) fun _ z => z) (fun b z1 z2 => ngB b z2 z1) (fun _ z => .inl z) fun _ z => .inr z
    cases e2 : fn (.ins true x [] [] :: ts) with
    | bad => rw [e2] at q; exact q.elim
    | exc c kk fs us => rw [e2] at q; exact q.elim
    | ok t us =>
      rw [e2] at q
      cases t <;> try exact q.elim
      cases us with
      | nil => exact q.elim
      | cons t us =>
        cases us with
        | cons _ _ => exact q.elim
        | nil =>
          simp only at q
          intro F' H' B'' Cp v s gb gc oo ov dd st
          refine ⟨by cases ov with | frz r => cases r; rfl, ?_⟩
          obtain ⟨z, ez, oz⟩ := oo.one
          cases ez
          have gA2 : Good F1 (upd (upd H1 dx (.own y)) y (.ins C dx [])) A' := fun b z => ⟨(gA b z).1, up (gA b z).2⟩
          obtain ⟨gA', dA', kA'⟩ := st.frame gA2 fun b z1 z2 => z1.elim (fun w => ngA b z2 w) fun w => d2 b z2 w
          have n2 : EnvO X.K X.mg F' H' σ η2 A' := n1.mono st.sub (fun b o z w => kA' b o z (sm b o w)) fun _ z => z
          refine q F' H' A' B'' (.ref y) ⟨s, gA', n2⟩ oz gb (fun b z1 z2 => dA' b (.inl z2) z1) ?_
          refine st1.trans ⟨fun b o nb w => st.keep b o (fun z => z.elim (fun w2 => ?_) fun w2 => nb (m2 b w2)) (sm b o w), st.sub, fun b o w => ?_, fun b z => ?_⟩
          · rw [w2, ny] at w; cases w
          · rcases st.newF b o w with w | w
            · exact .inl w
            · rcases w with (w | w) | w
              · right; right; rw [w]; exact ny
              · exact .inr (.inl (m2 b w))
              · right; right
                cases z2 : H1 b with
                | none => rfl
                | some u => rw [sm _ _ z2] at w; cases w
          · rcases z with z | z
            · exact .inl (.inl (m1 b z))
            · rcases st.newA b (.inl z) with w | w
              · rcases w with w | w
                · right; rw [w]; exact ny
                · exact .inl (m2 b w)
              · right
                cases z2 : H1 b with
                | none => rfl
                | some u => rw [sm _ _ z2] at w; cases w
theorem ev_make (M : Mk X.K C fI) (F : FnOk X.prog X.w X.K X.mg X.base (L2.CX X.prog X.w) k fI fd ps (spOf X.K X.mg [0] n fn)) (hr : Room (k + 1) X.A) (hg : Gl X x) (hm : X.mg x = some (.ref C)) (hb : Binds X.K fd ps []) (hn : ks.length + 1 = n)
    (ha : EAs X W (e :: es) ks) (hdb : (x == ("__debug__" : Str)) = false := by decide) (he : starEach (e :: es) X.env = (false, eval e X.env) :: starEach es X.env := by rfl) (hpl : (backTo pos (starEach es X.env)).any (·.1) = false := by rfl) :
    EE X W (.Call (.Name x p) (e :: es) [] pos) (eMake x fn ks) :=
  PE.imp (pe_make M F hr hg hm hb .nil passL ha hdb he hpl) fun σ H Q q => make_seq hm hn q
end

theorem putF_new {f : Str} {v : V} : ∀ {fs : List (Str × V)}, f ∉ fs.map (·.1) → putF f v fs = fs ++ [(f, v)]
  | [], _ => rfl
  | (g, x) :: r, h => by
    unfold putF
    have hn : ¬ g = f := fun z => h (by rw [z]; exact List.mem_cons_self)
    rw [if_neg hn, putF_new (fun z => h (List.mem_cons_of_mem _ z))]
    rfl
theorem putF_old {f : Str} {v : V} : ∀ {fs : List (Str × V)}, f ∈ fs.map (·.1) → (putF f v fs).map (·.1) = fs.map (·.1) ∧ (putF f v fs).map (·.2) = (fs.map (·.2)).set ((fs.map (·.1)).idxOf f) v
  | [], h => by cases h
  | (g, x) :: r, h => by
    unfold putF
    by_cases q : g = f
    · subst q
      rw [if_pos rfl]
      simp
    · rw [if_neg q]
      have h2 : f ∈ r.map (·.1) := by
        rcases List.mem_cons.mp h with z | z
        · exact absurd z.symm q
        · exact z
      obtain ⟨a, b⟩ := putF_old (v := v) h2
      refine ⟨by rw [List.map_cons, List.map_cons, a], ?_⟩
      have e : (g :: r.map (·.1)).idxOf f = (r.map (·.1)).idxOf f + 1 := by rw [List.idxOf_cons, beq_false_of_ne q]; rfl
      show x :: (putF f v r).map (·.2) = (x :: r.map (·.2)).set ((g :: r.map (·.1)).idxOf f) v
      rw [e, b]; rfl
def sSetF (c f : Str) (e : Fe T) (i : Nat) : Fs := fun η => (e η).bind fun t η1 => match η1[i]? with
  | some (some (.ins true c' ks us)) => if c' = c ∧ ks.contains f = false ∧ ks.length < 1000 then .ok .nx (η1.set i (some (.ins true c (ks ++ [f]) (us ++ [t])))) else if c' = c ∧ ks.contains f = true ∧ ks.length < 1000 then .ok .nx (η1.set i (some (.ins true c ks (us.set (ks.idxOf f) t)))) else .bad
  | _ => .bad
section
variable {X : Cx} {W : XW} {ms : List Nat} {pos p2 : Pos} {o e : Expr} {fe : Fe T} {c f : Str} {i : Nat}
theorem ss_setF (hc : InsC X.K X.mg c f) (he : EE X W e fe) (ho : PE X o (tVar i)) (hs : swapsWith e (some (.Attribute o f p2)) pos.line X.env = pure false := by rfl) : SS X W ms (.Assign [.Attribute o f p2] e pos) (sSetF c f fe i) :=
  PS.imp (ps_fld ho he hs) fun D σ H h => tS.seq h fun F1 η1 A1 B1 t v H1 F A S1 ro g1 d1 st1 k => by
    split at k
    · rename_i c' ks us heq
      split at k
      · rename_i hk
        obtain ⟨rfl, hk2, hk3⟩ := hk
        obtain ⟨v0, Bi, A', h1, h2, h3, h4, h5, h6⟩ := S1.env.take heq
        cases h2 with
        | frz r => cases r
        | ins q1 q2 q3 q4 q5 q6 q7 =>
          rename_i a C dx fs Bf
          subst q3
          have hnew : f ∉ fs.map (·.1) := fun z => by
            have : (fs.map (·.1)).contains f = true := by simpa using z
            rw [hk2] at this
            cases this
          obtain ⟨z1, z2⟩ := hc _ q2
          have gI : Good F1 H1 Bi := S1.good.mono h5
          have gA : Good F1 H1 A' := S1.good.mono h6
          obtain ⟨y1, y2, y3, y4⟩ := write_own (o := .ins C dx (fs ++ [(f, v)])) (B := Un2 Bi B1) (C := Un2 Bf B1) S1.sub (gI.un g1) (.inl q5) fun b x => ⟨x.elim (fun z => .inl (q7 b z)) .inr, fun z => by
            subst z
            exact x.elim q6 fun w => d1 _ (h5 _ q5) w⟩
          refine ⟨_, h1, a, C, dx, fs, rfl, q1, z1, z2, by rw [List.length_map] at hk3; exact hk3, ?_⟩
          rw [putF_new hnew]
          obtain ⟨gA', dA', kA'⟩ := y3.frame gA fun b x y => x.elim (fun z => h4 b z y) fun z => d1 b (h6 b y) z
          have n2 : EnvO X.K X.mg F1 (upd H1 a (.ins C dx (fs ++ [(f, v)]))) σ (η1.set i none) A' := h3.mono (fun _ _ z => z) (fun b u x z => kA' b u x z) fun _ x => x
          have neF : ∀ b, Bf b → b ≠ a := fun b z w => q6 (w ▸ z)
          have neB : ∀ b, B1 b → b ≠ a := fun b z w => d1 a (h5 a q5) (w ▸ z)
          have oNew : Own X.K X.mg F1 (upd H1 a (.ins C dx (fs ++ [(f, v)]))) (.ref a) (.ins true c' (fs.map (·.1) ++ [f]) (us ++ [t])) (fun b => Un2 Bf B1 b ∨ b = a) :=
            .ins (B := Un2 Bf B1) upd_same q2 (by rw [List.map_append]; rfl) (by
              rw [List.map_append]
              exact ownL_appL (OwnL.mono (fun _ _ z => z) _ _ _ _ q4 (fun b u x z => y4 b u (neF b x) z) fun _ z => z) (.cons (B := B1) (C := A0) (Own.mono (fun _ _ z => z) _ _ _ _ ro (fun b u x z => y4 b u (neB b x) z) fun _ z => z) .nil (fun _ _ z => z) (fun _ z => z) fun _ z => z.elim) fun b x y => d1 b (h5 b (q7 b x)) y) (.inr rfl) (fun z => z.elim q6 fun w => d1 a (h5 a q5) w) fun b z => .inl z
          have n3 : EnvO X.K X.mg F1 (upd H1 a (.ins C dx (fs ++ [(f, v)]))) σ (η1.set i (some (.ins true c' (fs.map (·.1) ++ [f]) (us ++ [t])))) (Un2 A' fun b => Un2 Bf B1 b ∨ b = a) := EnvO.back n2 h1 oNew (fun b x y => dA' b x y) (fun b x => .inr x) fun b x => .inl x
          refine k F1 _ _ σ ⟨y1, gA'.un y2, n3⟩ (st1.trans (y3.wide (fun b x => x.elim (fun z => .inl (h5 b z)) .inr) fun b x => x.elim (fun z => .inr (.inl (h6 b z))) .inl)) Kp.refl
      · split at k
        · rename_i hk
          obtain ⟨rfl, hk2, hk3⟩ := hk
          obtain ⟨v0, Bi, A', h1, h2, h3, h4, h5, h6⟩ := S1.env.take heq
          cases h2 with
          | frz r => cases r
          | ins q1 q2 q3 q4 q5 q6 q7 =>
            rename_i a C dx fs Bf
            subst q3
            have hold : f ∈ fs.map (·.1) := by simpa using hk2
            obtain ⟨p1, p2⟩ := putF_old (v := v) hold
            obtain ⟨z1, z2⟩ := hc _ q2
            have gI : Good F1 H1 Bi := S1.good.mono h5
            have gA : Good F1 H1 A' := S1.good.mono h6
            obtain ⟨y1, y2, y3, y4⟩ := write_own (o := .ins C dx (putF f v fs)) (B := Un2 Bi B1) (C := Un2 Bf B1) S1.sub (gI.un g1) (.inl q5) fun b x => ⟨x.elim (fun z => .inl (q7 b z)) .inr, fun z => by
              subst z
              exact x.elim q6 fun w => d1 _ (h5 _ q5) w⟩
            refine ⟨_, h1, a, C, dx, fs, rfl, q1, z1, z2, by rw [List.length_map] at hk3; exact hk3, ?_⟩
            obtain ⟨gA', dA', kA'⟩ := y3.frame gA fun b x y => x.elim (fun z => h4 b z y) fun z => d1 b (h6 b y) z
            have n2 : EnvO X.K X.mg F1 (upd H1 a (.ins C dx (putF f v fs))) σ (η1.set i none) A' := h3.mono (fun _ _ z => z) (fun b u x z => kA' b u x z) fun _ x => x
            have neF : ∀ b, Bf b → b ≠ a := fun b z w => q6 (w ▸ z)
            have neB : ∀ b, B1 b → b ≠ a := fun b z w => d1 a (h5 a q5) (w ▸ z)
            have oNew : Own X.K X.mg F1 (upd H1 a (.ins C dx (putF f v fs))) (.ref a) (.ins true c' (fs.map (·.1)) (us.set ((fs.map (·.1)).idxOf f) t)) (fun b => Un2 Bf B1 b ∨ b = a) :=
              .ins (B := Un2 Bf B1) upd_same q2 p1 (by
                rw [p2]
                exact ownL_setj (OwnL.mono (fun _ _ z => z) _ _ _ _ q4 (fun b u x z => y4 b u (neF b x) z) fun _ z => z) (Own.mono (fun _ _ z => z) _ _ _ _ ro (fun b u x z => y4 b u (neB b x) z) fun _ z => z) fun b x y => d1 b (h5 b (q7 b x)) y) (.inr rfl) (fun z => z.elim q6 fun w => d1 a (h5 a q5) w) fun b z => .inl z
            have n3 : EnvO X.K X.mg F1 (upd H1 a (.ins C dx (putF f v fs))) σ (η1.set i (some (.ins true c' (fs.map (·.1)) (us.set ((fs.map (·.1)).idxOf f) t)))) (Un2 A' fun b => Un2 Bf B1 b ∨ b = a) := EnvO.back n2 h1 oNew (fun b x y => dA' b x y) (fun b x => .inr x) fun b x => .inl x
            refine k F1 _ _ σ ⟨y1, gA'.un y2, n3⟩ (st1.trans (y3.wide (fun b x => x.elim (fun z => .inl (h5 b z)) .inr) fun b x => x.elim (fun z => .inr (.inl (h6 b z))) .inl)) Kp.refl
        · exact k.elim
    · exact k.elim
end

/-! ### a new dict; raise of an own class without arguments; a list reversed -/
def eD0 : Fe T := fun η => .ok (.dk true [] []) η
def revO : Op := kidO fun ts => match ts with
  | [.lst _ xs] => some (.lst true xs.reverse, ts)
  | _ => none
theorem paired_rev {α β : Type} {R : α → β → Prop} {xs : List α} {ys : List β} (h : Paired R xs ys) : Paired R xs.reverse ys.reverse := by
  have app : ∀ {as : List α} {bs : List β} {cs : List α} {ds : List β}, Paired R as bs → Paired R cs ds → Paired R (as ++ cs) (bs ++ ds) := fun h h' => by
    induction h with
    | nil => exact h'
    | cons h1 _ ih => exact .cons h1 ih
  induction h with
  | nil => exact .nil
  | cons h1 _ ih =>
    rw [List.reverse_cons, List.reverse_cons]
    exact app ih (.cons h1 .nil)
section
variable {X : Cx} {W : XW} {ms : List Nat} {pos p : Pos} {a : Expr} {ka : AK}
theorem ev_d0 : EE X W (.Dict [] [] pos) eD0 := PE.imp pe_dnewK fun σ H Q ⟨F, η, A, S, q⟩ p n => by
  obtain ⟨x1, x2, x3, x4, x5, x6⟩ := new_own (o := .dK []) (B := A) (B1 := A) Step.refl S.sub S.good n
  exact q F _ A (fun q => q = p) (.ref p) ⟨x1, x2, S.env.mono (fun _ _ y => y) (fun q o _ y => x6 q o y) fun _ y => y⟩ (.dk (B := A0) upd_same rfl .nil rfl (fun z => z) fun _ z => z.elim) (fun q y => x3 q y) (fun q y z => x4 q y z) x5
theorem revO_ok : OpS X.K X.mg revO (fun vs H Q => ∃ b xs, vs = [.ref b] ∧ SqL X.K H b xs ∧ ∀ p, H p = none → Q (.ref p) (upd H p (.lst xs.reverse))) := OpS.kid fun F H vs ts B t ts' s g o e Q k => by
  split at e
  · cases e
    obtain ⟨v, rfl, o1⟩ := o.one
    obtain ⟨b, vs, rfl, q, r⟩ := o1.lst_inv s
    exact ⟨b, vs, rfl, .of q, fun l n => fin_lst s g o.own (paired_rev r) n k⟩
  · cases e
theorem ev_rev {kk : Nat} {p1 p2 p3 : Pos} (ha : EK X W a ka) : EE X W (.Subscript a (.Slice none none (some (.UnaryOp .USub (.Constant (.int 1) kk p1) p2)) p3) pos) (eOp [ka] revO) :=
  PE.imp (pe_revL ha) fun σ H Q h => tK_mono (args1 (op_run revO_ok h)) fun x H1 ⟨b, xs, e, h1, h2⟩ => by
    cases e
    exact ⟨b, xs, rfl, h1, h2⟩
theorem pmk_own0 {C : Addr} {bmB : List Value} {B newId initId : String} {x : Str} (F : ExcBaseFacts B newId initId bmB) (q : PySem.W.excIn X.K C bmB newId = true) (gC : X.mg x = some (.ref C))
    (kC : PySem.W.keepIn X.K (.ref C) = true) (r : Raises X (.ref C)) (hg : Gl X x) (hdb : (x == ("__debug__" : Str)) = false := by decide) : PMk X (.Call (.Name x p) [] [] pos) (fun _ H Q => Q (.ref C) none H) := by
  intro pins s σ H Q I h
  refine wpAny_Call_Name_kw (ld_glob I hg gC ?_ hdb)
  refine PySem.W.callWith_K0 I.kIn kC ?_
  obtain ⟨bm, N, nm, qn, bs, hdct, sn, sub, ab, col, dd, k0, k1, k2, k3, k5, mN, hC, hN, hni, T⟩ := exc_obj I.kIn q
  refine wpAny_call_exc_subT F T hC hN hni (fun h' e hm => ?_) (Nat.zero_le _)
  exact mk_of I hm r h (I.hok.gone hm.new)
/-- what is known of an exception class of our own without __init__ (over ValueError) -/
structure Exc0 (K : PySem.W.Frag) (mg : Str → Option Value) (c : Str) (C : Addr) : Prop where
  g : mg c = some (.ref C)
  q : PySem.W.excIn K C [.type "ValueError", .type "Exception", .type "BaseException", .type "object"] "ValueError.__new__" = true
  k : PySem.W.keepIn K (.ref C) = true
  sub : PySem.W.subIn K (.ref C) (.type "BaseException") = some true
  ty : PySem.W.typeIn K (.ref C) = some (.type "type")
def sRaise0 (c : Str) : Fs := fun η => .exc c [] [] η
theorem ss_raise0 {C : Addr} {x : Str} {p2 : Pos} (E : Exc0 X.K X.mg x C) (hc : X.calm = true) (tk : Takes X W) (hg : Gl X x) (hdb : (x == ("__debug__" : Str)) = false := by decide) : SS X W ms (.Raise (some (.Call (.Name x p) [] [] p2)) none pos) (sRaise0 x) :=
  PS.imp (ps_raise hc tk (pmk_own0 PySem.F.excBase_ValueError E.q E.g E.k (raises_own E.sub E.ty) hg hdb)) fun D σ H ⟨F, η, A, S, h⟩ => h F H A σ (.ref C) none S Step.refl Kp.refl ⟨E.g, rfl, rfl⟩
end

end Jo
namespace SrtO
open PySem PyProof.Rows Srt
section
variable {prog : Program} {w : World} {A : Around} {E : Value → Shared → Prop} {s : Shared}
theorem jo_collectT {l : Addr} {vs : List Value} {Q : List Value → Shared → Prop} (hl : s.heap.IsTuple l vs.toArray) (h : Q vs { s with heap := (s.heap.push (seqObj "list" #[] 0)).update s.heap.objs.size (Obj.mapSeq (· ++ vs.toArray)) }) (hsz : vs.length ≤ sizeLine) : wpAny (model prog w) A (collect (.ref l)) Q E s := by
  obtain ⟨o, ho, hc, n, hd⟩ := id hl
  have ho' : (s.heap.push (seqObj "list" #[] 0)).get? l = some o := Heap.get?_push_of_some _ ho
  unfold collect
  refine wpAny_bind (wpAny_runValue (codeAny_builtin entry_proto_collect' ?_))
  show wpAny _ _ (do again (.builtin "list.__iadd__" ⟨[← newList [], .ref l], []⟩)) _ _ s
  refine wpAny_bind (wpAny_newList (wpAny_pure ⟨Code.quiet_builtin _ (by decide +kernel), codeAny_builtin entry_list_iadd' ?_⟩)); show wpAny _ _ (Builtin.List.listExtendWith (.ref s.heap.objs.size) (.ref l) (.ref s.heap.objs.size)) _ _ { s with heap := s.heap.push (seqObj "list" #[] 0) }
  unfold Builtin.List.listExtendWith
  refine wpAny_bind (wpAny_typeOf (T := "tuple") ⟨o, ho', hc⟩ ?_)
  rw [if_pos (by have ht : (Value.type "tuple" == Value.type "tuple") = true := by rfl
                 rw [ht]; simp)]
  refine wpAny_bind (listItems_at ho' hd ?_); refine wpAny_bind (listItems_at (xs := #[]) (n := 0) (Heap.get?_push_size _ rfl) rfl ?_)
  rw [if_neg (by simp)]
  refine wpAny_bind (listUpdate_at (xs := #[]) (n := 0) (Heap.get?_push_size _ rfl) rfl ?_ (Nat.zero_le _) (by show (#[] ++ vs.toArray).size ≤ sizeLine + 1; simp only [Array.size_append, List.size_toArray, List.length_nil]; omega)); refine wpAny_pure ?_
  show wpAny (model prog w) A (do
      let o ← load s.heap.objs.size
      match o.data with | .seq xs _ => pure xs.toList | _ => unsupported "internal:collect") Q E { s with heap := (s.heap.push (seqObj "list" #[] 0)).update s.heap.objs.size (Obj.mapSeq (· ++ vs.toArray)) }
  refine wpAny_bind (wpAny_load (get?_update_seq (Heap.get?_push_size _ rfl) _) ?_)
  show wpAny _ _ (pure ((#[] : Array Value) ++ vs.toArray).toList) Q E _; rw [show ((#[] : Array Value) ++ vs.toArray).toList = vs by simp]; exact wpAny_pure h
theorem jo_sortedT {l : Addr} {vs : List Value} {ltv : Value → Value → Bool} {Q : Value → Shared → Prop} (O : Swo ltv) (hl : s.heap.IsTuple l vs.toArray) (hz : vs.length ≤ sizeLine) (hS : 2 ≤ vs.length → ∀ (h₁ : Heap) (a : Addr), h₁.get? a = some (seqObj "list" vs.toArray 0) → (∀ b o, s.heap.get? b = some o → b ≠ a ∧ h₁.get? b = some o) → SortableO prog w A.in1.in1 { s with heap := h₁ } a vs ltv)
    (h : ∀ out : List Value, Srtd ltv out → Stb ltv out vs → Q (.ref (s.heap.objs.size + 1)) { s with heap := sortedAll s.heap vs out.toArray }) : wpAny (model prog w) A (call (.builtin "sorted") [.ref l]) Q E s := by
  refine Calls.call_function_entry kind_sorted plain_sorted entry_sorted (args_sorted1 _) ?_
  unfold Builtin.«sorted»
  refine wpAny_bind (m := checkCount "sorted" 1 1 _) (wpAny_pure (wpAny_bind (jo_collectT hl ?_ hz))); refine wpAny_bind (wpAny_newList ?_ hz)
  have hsz : ((s.heap.push (seqObj "list" #[] 0)).update s.heap.objs.size (Obj.mapSeq (· ++ vs.toArray))).objs.size = s.heap.objs.size + 1 := by rw [Heap.size_update, size_push']
  have hoL : (((s.heap.push (seqObj "list" #[] 0)).update s.heap.objs.size (Obj.mapSeq (· ++ vs.toArray))).push (seqObj "list" vs.toArray 0)).get? (s.heap.objs.size + 1) = some (seqObj "list" vs.toArray 0) := by rw [← hsz]; exact Heap.get?_push_size _ rfl
  have keep : ∀ b o, s.heap.get? b = some o → b ≠ s.heap.objs.size + 1 ∧ (((s.heap.push (seqObj "list" #[] 0)).update s.heap.objs.size (Obj.mapSeq (· ++ vs.toArray))).push (seqObj "list" vs.toArray 0)).get? b = some o := fun b o q => by
    have hlt : b < s.heap.objs.size := Heap.lt_size q
    exact ⟨Nat.ne_of_lt (Nat.lt_succ_of_lt hlt), Heap.get?_push_of_some _ (by rw [Heap.get?_update_ne _ _ _ _ (Nat.ne_of_lt hlt)]; exact Heap.get?_push_of_some _ q)⟩
  show wpAny _ _ _ _ _ { s with heap := ((s.heap.push (seqObj "list" #[] 0)).update s.heap.objs.size (Obj.mapSeq (· ++ vs.toArray))).push (seqObj "list" vs.toArray 0) }
  rw [hsz]; refine wpAny_bind (wpAny_holding (wpAny_call_entry slot_list_sort ⟨_, hoL, rfl⟩ entry_list_sort (list_sort_ord O hoL hz (fun h2 => hS h2 _ _ hoL keep) fun out hs hb => ⟨_, rfl, ?_⟩) (args_list_sort _)))
  exact wpAny_pure ⟨_, rfl, h out hs hb⟩
end
end SrtO
namespace L2
open PySem PySem.Spec PyProof.Rows
def rSortedTu (K : PySem.W.Frag) : List V → Hp → VK → Prop := fun vs H Q => ∃ (a : Addr) (ns : List Int), vs = [V.ref a] ∧ SqT K H a (ns.map V.int) ∧ ∀ (ns' : List Int) (p : Addr), ns'.Perm ns → ns'.Pairwise (· ≤ ·) → H p = none → Q (.ref p) (upd H p (.lst (ns'.map V.int)))
theorem cr_sortedTu {X : Cx} : CallR X (.builtin "sorted") (rSortedTu X.K) := by
  intro pins s σ H vs us Q I r h
  obtain ⟨a, ns, rfl, hs, q⟩ := h
  obtain ⟨its, rv, hl, hz⟩ := I.tuple hs
  rw [Vals.ref1 r]
  have hi := rv.ints
  refine SrtO.jo_sortedT SrtO.swo_int hl (by rw [← rv.length]; exact hz) (fun h2 h₁ a' _ _ => SrtO.ints_sortable hi h2) fun out h1 h2 => ?_
  obtain ⟨k1, k2, k3⟩ := SrtO.ints_out hi h1 h2
  obtain ⟨ep, he'⟩ := PyProof.Rows.sortedAll_at s.heap its out.toArray
  have hlen : ((out.map SrtO.iv).map V.int).length ≤ sizeLine := by rw [List.length_map, k2.length_eq]; rw [List.length_map] at hz; exact hz
  exact ⟨.ref _, upd H (s.heap.objs.size + 1) (.lst ((out.map SrtO.iv).map V.int)), I.laid (t' := s.toks) (fun _ _ => PyProof.Rows.sortedAll_old) (Nat.le_succ _) ⟨hlen, out, ep, vals_of_ints k1, he'⟩, rfl, q _ _ k2 k3 (I.hok.fresh (Nat.le_succ _))⟩
end L2
namespace Jo
open PySem L2
def sortO2 : Op := fun ts => match ts with
  | [.lst _ xs] => (ints? xs).map fun ns => (.lst true ((sortI ns).map T.int), ts)
  | [.tup xs] => (ints? xs).map fun ns => (.lst true ((sortI ns).map T.int), ts)
  | _ => none
section
variable {X : Cx}
theorem cr_sort2 : CallR X (.builtin "sorted") (fun vs H Q => rSortedI X.K vs H Q ∨ rSortedTu X.K vs H Q) := cr_sortedI.or cr_sortedTu
theorem sortO2_ok : OpS X.K X.mg sortO2 (fun vs H Q => rSortedI X.K vs H Q ∨ rSortedTu X.K vs H Q) := fun F H vs ts B t ts' s g o e Q k => by
  unfold sortO2 at e
  split at e
  · exact .inl (sortO_ok F H vs _ B t ts' s g o e Q k)
  · rename_i xs
    cases q : ints? xs with
    | none => rw [q] at e; cases e
    | some ns =>
      rw [q] at e
      cases e
      obtain ⟨v, rfl, o1⟩ := o.one
      obtain ⟨a, vs, rfl, hl, r⟩ := o1.tup_inv
      have e1 := ints?_some q
      subst e1
      refine .inr ⟨a, ns, rfl, by rw [← repL_ints r]; exact SqT.mono s hl, fun ns' p hp hs hn => ?_⟩
      have en : ns' = sortI ns := sorted_one (hp.trans (sortI_perm ns).symm) hs (sortI_sorted ns)
      subst en
      have rp : ∀ zs : List Int, Paired (Rep X.K X.mg F) (zs.map V.int) (zs.map T.int) := fun zs => by
        induction zs with
        | nil => exact .nil
        | cons z zs ih => exact .cons (.int z) ih
      exact fin_lst s g o (rp _) hn k
  · cases e
end

/-! ### a tuple so many times -/
def opRepT : Op := kidO fun ts => match ts with
  | [.tup xs, .int k] => if 0 < xs.length ∧ 2 ≤ k ∧ k ≤ 1000 ∧ xs.length ≤ 1000 then some (.tup (List.replicate k.toNat xs).flatten, ts) else none
  | _ => none
section
variable {X : Cx}
theorem opRepT_ok : OpS X.K X.mg opRepT fun vs H Q => ∃ x y, vs = [x, y] ∧ rRepT X.K x y H Q := OpS.kid fun F H vs ts B t ts' s g o e Q k => by
  split at e
  · rename_i xs i
    split at e
    · rename_i hc
      cases e
      obtain ⟨v, w, rfl, o1, o2⟩ := o.two
      obtain ⟨a, us, rfl, q, r⟩ := o1.tup_inv
      have ew := o2.own.int_inv
      subst ew
      have hl := r.length
      exact ⟨_, _, rfl, a, i, us, rfl, rfl, SqT.mono s q, (fun z => by rw [z] at hl; simp at hl; omega), hc.2.1, hc.2.2.1, by rw [hl]; exact hc.2.2.2, fun p hn => fin_tup s g o.own (flat_rep r _) hn k⟩
    · cases e
  · cases e
end

end Jo
namespace PySem
theorem jo_max_intTup {prog : Program} {w : World} {A : Around} {E : Value → Shared → Prop} {s : Shared} {l : Addr} {xs : Array (Int × Tok)} {Q : Value → Shared → Prop} (hh : A.handled = none) (hl : s.heap.IsTuple l (intItems xs)) (hne : 0 < xs.size)
    (h : ∀ v h' tk, (intItems xs)[argBest (fun i j => decide (numAt xs i > numAt xs j)) (xs.size - 1)]? = some v → (∀ b o, s.heap.get? b = some o → h'.get? b = some o) → Q v { s with heap := h', toks := tk }) : wpAny (model prog w) A (call (.builtin "max") [.ref l]) Q E s := by
  refine call_max_walk (jo_iter_intTup hl fun s₂ e st hfp hlI => ?_)
  subst e
  exact ⟨_, _, _, _, _, _, _, rfl, Walks.tuple (A := A.in1) hh _ l hlI (intItems xs), st, hfp, by simpa [intItems] using hne, CmpOf.ints_gt (numAt xs) (fun _ _ => intItems_at), fun v h' tk hP hk => h v h' tk (by simpa [intItems] using hP) (fun b o e => hk b o (fun hb => by
    have e' : b = s.heap.objs.size := by simpa using hb
    rw [e'] at e
    exact absurd (Heap.lt_size e) (Nat.lt_irrefl _)) (Heap.get?_push_of_some _ e))⟩
end PySem
namespace L2
open PySem PySem.Spec PyProof.Rows
theorem jo_max_rawT {prog : Program} {w : World} {A : Around} {E : Value → Shared → Prop} {s : Shared} {l : Addr} {its : List Value} {ns : List Int} {Q : Value → Shared → Prop} (hh : A.handled = none) (hl : s.heap.IsTuple l its.toArray) (hi : IntsAre its ns) (hne : 0 < ns.length)
    (h : ∀ h' tk M t', (∀ b o, s.heap.get? b = some o → h'.get? b = some o) → M ∈ ns → (∀ a, a ∈ ns → a ≤ M) → Q (.int M t') { s with heap := h', toks := tk }) : wpAny (model prog w) A (call (.builtin "max") [.ref l]) Q E s := by
  obtain ⟨xs, e⟩ := hi.allInts.items
  have hn : numsOf (intItems xs).toList = ns := by rw [← e]; exact hi.numsOf
  rw [nums_intItems] at hn; subst hn; rw [e] at hl
  refine PySem.jo_max_intTup hh hl (by simpa using hne) fun v h' tk hv hk => ?_
  have hsz : 0 < xs.size := by simpa using hne
  obtain ⟨t, rfl⟩ := intItems_at hv
  obtain ⟨h1, h2⟩ := argBest_gt (numAt xs) (xs.size - 1)
  refine h h' tk _ t hk (by rw [numAt_eq]; exact PySem.getD_mem (by rw [List.length_map, Array.length_toList]; omega)) fun a ha => ?_
  obtain ⟨j, hj, rfl⟩ := mem_getD ha
  rw [List.length_map, Array.length_toList] at hj; rw [← numAt_eq]; exact h2 j (by omega)
def rMaxTu (K : PySem.W.Frag) : List V → Hp → VK → Prop := fun vs H Q => ∃ (a : Addr) (ns : List Int), vs = [V.ref a] ∧ SqT K H a (ns.map V.int) ∧ 0 < ns.length ∧ ∀ m, m ∈ ns → (∀ y, y ∈ ns → y ≤ m) → Q (.int m) H
theorem cr_maxTu {X : Cx} (hc : X.calm = true) : CallR X (.builtin "max") (rMaxTu X.K) := by
  intro pins s σ H vs us Q I r h
  obtain ⟨a, ns, rfl, hs, hne, q⟩ := h
  obtain ⟨its, rv, hl, _⟩ := I.tuple hs
  rw [Vals.ref1 r]
  exact jo_max_rawT (I.ok.hd hc) hl rv.ints hne fun h' tk m t' hk h1 h2 => ⟨.int _, H, I.kept hk, ⟨_, rfl⟩, q m h1 h2⟩
end L2
namespace Jo
open PySem L2
def maxIO2 : Op := fun ts => match ts with
  | [.tup xs] => (ints? xs).bind fun ns => if 0 < ns.length then some (.int (greatestI ns), ts) else none
  | _ => maxIO ts
section
variable {X : Cx}
theorem cr_max22 (hc : X.calm = true) : CallR X (.builtin "max") (fun vs H Q => rMax X.K vs H Q ∨ rMaxTu X.K vs H Q) := (cr_max hc).or (cr_maxTu hc)
theorem maxIO2_ok : OpS X.K X.mg maxIO2 (fun vs H Q => rMax X.K vs H Q ∨ rMaxTu X.K vs H Q) := fun F H vs ts B t ts' s g o e Q k => by
  unfold maxIO2 at e
  split at e
  · rename_i xs
    cases q : ints? xs with
    | none => rw [q] at e; cases e
    | some ns =>
      rw [q] at e
      simp only [Option.bind_some] at e
      split at e
      · rename_i hpos
        cases e
        obtain ⟨v, rfl, o1⟩ := o.one
        obtain ⟨a, vs, rfl, hl, r⟩ := o1.tup_inv
        have e1 := ints?_some q
        subst e1
        refine .inr ⟨a, ns, rfl, by rw [← repL_ints r]; exact SqT.mono s hl, hpos, fun m hm hl' => ?_⟩
        cases ns with
        | nil => exact absurd hpos (by simp)
        | cons x xs =>
          obtain ⟨h1, h2⟩ := greatestI_spec x xs
          have : m = greatestI (x :: xs) := Int.le_antisymm (h2 m hm) (hl' _ h1)
          rw [this]
          exact fin_same s g o (.int _) k
      · cases e
  · exact .inl (maxIO_ok F H vs ts B t ts' s g o e Q k)
end

end Jo
namespace L2
open PySem PySem.Spec PyProof.Rows
/-- a tuple once: the tuple itself -/
theorem jo_tuple_mul1 (l : Addr) (items : Array Value) (n : Nat) (dd : Option Addr) (sl : Array (Option Value)) (u : Tok) :
    Meets (Builtin.«tuple.__mul__» ⟨[.ref l, .int 1 u], []⟩) (fun _ R s => s.heap.get? l = some { cls := .type "tuple", dict := dd, data := .seq items n, slots := sl } ∧ R (.ok (.ret (Value.ref l))) s) := .of_wp fun prog w A R s h => by
    obtain ⟨hp, g, d, tk, os⟩ := s; obtain ⟨hl, h⟩ := h; have f1 := AutoSeq1.idx_int; wp_walk using wpAny_loadPart' hl
    all_goals first | exact ⟨_, rfl, h⟩ | skip
def rRepT1 (K : PySem.W.Frag) : R2 := fun x y H Q => ∃ l xs, x = .ref l ∧ y = .int 1 ∧ SqT K H l xs ∧ Q (.ref l) H
theorem op_repT1 {X : Cx} : OpR X (binaryOp .Mult) (rRepT1 X.K) := by
  intro pins s σ H x y v u Q I rx ry h
  obtain ⟨l, xs, rfl, rfl, hT, q⟩ := h
  cases rx
  obtain ⟨t, rfl⟩ := ry
  obtain ⟨its, r, ⟨⟨cls, dd, data, sl⟩, ho, hc, n, hd⟩, hs⟩ := I.tuple hT
  simp only at hc hd; subst hc hd
  exact wpAny_binaryOp_repeat_ref (T := "tuple") (U := "int") (by decide) ⟨_, ho, rfl⟩ (fun s' => typeIs_int s' 1 t) noFill_tuple_mul F.fills_int_mul F.slot_int_rmul repeat_tuple F.slot_int_index.lookup
    (call_meets F.slot_int_rmul (typeIs_int s 1 t) F.entry_int_rmul (F.args_int_rmul_2 _ _) (int_rmul_tuple 1 t l its.toArray n dd sl)
      ⟨ho, rfl, ⟨_, ho, rfl⟩, call_meets F.slot_tuple_mul ⟨_, ho, rfl⟩ F.entry_tuple_mul (F.args_tuple_mul_2 _ _) (jo_tuple_mul1 l its.toArray n dd sl t) ⟨ho, .ref l, H, I, rfl, q⟩⟩)
end L2
namespace Jo
open PySem L2
def opRepT2 : Op := kidO fun ts => match ts with
  | [.tup xs, .int k] => if k = 1 then some (.tup xs, ts) else if 0 < xs.length ∧ 2 ≤ k ∧ k ≤ 1000 ∧ xs.length ≤ 1000 then some (.tup (List.replicate k.toNat xs).flatten, ts) else none
  | _ => none
section
variable {X : Cx}
theorem op_repT2 : OpR X (binaryOp .Mult) (fun x y H Q => rRepT1 X.K x y H Q ∨ rRepT X.K x y H Q) := op_repT1.or op_repT
theorem opRepT2_ok : OpS X.K X.mg opRepT2 fun vs H Q => ∃ x y, vs = [x, y] ∧ (rRepT1 X.K x y H Q ∨ rRepT X.K x y H Q) := OpS.kid fun F H vs ts B t ts' s g o e Q k => by
  split at e
  · rename_i xs i
    obtain ⟨v, w, rfl, o1, o2⟩ := o.two
    obtain ⟨a, us, rfl, q, r⟩ := o1.tup_inv
    have ew := o2.own.int_inv
    subst ew
    have hl := r.length
    split at e
    · rename_i h1
      cases e
      subst h1
      exact ⟨_, _, rfl, .inl ⟨a, us, rfl, rfl, SqT.mono s q, fin_same s g o.own (.tup q r) k⟩⟩
    · split at e
      · rename_i hc
        cases e
        exact ⟨_, _, rfl, .inr ⟨a, i, us, rfl, rfl, SqT.mono s q, (fun z => by rw [z] at hl; simp at hl; omega), hc.2.1, hc.2.2.1, by rw [hl]; exact hc.2.2.2, fun p hn => fin_tup s g o.own (flat_rep r _) hn k⟩⟩
      · cases e
  · cases e
end

/-! ### rules for running by goals -/
theorem r_seq {f g : Fs} {η : Env} {r r' : Res Fl} (h : f η = r') (h2 : goOn g r' = r) : sSeq f g η = r := by
  unfold sSeq
  rw [h]
  exact h2
theorem go_nx {g : Fs} {η : Env} {r : Res Fl} (h : g η = r) : goOn g (.ok .nx η) = r := h
theorem go_rt {g : Fs} {η : Env} {t : T} : goOn g (.ok (.rt t) η) = .ok (.rt t) η := rfl
theorem go_bk {g : Fs} {η : Env} : goOn g (.ok .bk η) = .ok .bk η := rfl
theorem go_ct {g : Fs} {η : Env} : goOn g (.ok .ct η) = .ok .ct η := rfl
theorem r_set {i : Nat} {e : Fe T} {η η1 η2 : Env} {t : T} (h : e η = .ok t η1) (hi : i < η1.length) (h2 : η1.set i (some t) = η2) : sSet i e η = .ok .nx η2 := h2 ▸ sSet_of h hi
theorem r_aug {i : Nat} {e : Fe T} {op : Op} {η : Env} {r : Res Fl} (h : sSet i (eOp [.s i, .v e] op) η = r) : sAug i e op η = r := h
theorem r_if {c : Fe Bool} {a b : Fs} {η η1 : Env} {d : Bool} {r : Res Fl} (h : c η = .ok d η1) (h2 : (if d = true then a η1 else b η1) = r) : sIf c a b η = r := by
  unfold sIf
  rw [h]
  exact h2
theorem r_eif {c : Fe Bool} {a b : Fe T} {η η1 : Env} {d : Bool} {r : Res T} (h : c η = .ok d η1) (h2 : (if d = true then a η1 else b η1) = r) : eIfF c a b η = r := by
  unfold eIfF
  rw [h]
  exact h2
theorem r_tand {a b : Fe Bool} {η η1 : Env} {d : Bool} {r : Res Bool} (h : a η = .ok d η1) (h2 : (if d = true then b η1 else .ok false η1) = r) : tAndF a b η = r := by
  unfold tAndF
  rw [h]
  exact h2
theorem r_tor {a b : Fe Bool} {η η1 : Env} {d : Bool} {r : Res Bool} (h : a η = .ok d η1) (h2 : (if d = true then .ok true η1 else b η1) = r) : tOrF a b η = r := by
  unfold tOrF
  rw [h]
  exact h2
theorem r_and {a b : Fe T} {η η1 : Env} {d : Bool} {r : Res T} (h : a η = .ok (.bl d) η1) (h2 : (if d = true then b η1 else .ok (.bl false) η1) = r) : eAndF a b η = r := by
  unfold eAndF
  rw [h]
  exact h2
theorem r_or {a b : Fe T} {η η1 : Env} {d : Bool} {r : Res T} (h : a η = .ok (.bl d) η1) (h2 : (if d = true then .ok (.bl true) η1 else b η1) = r) : eOrF a b η = r := by
  unfold eOrF
  rw [h]
  exact h2
theorem r_not {a : Fe T} {η η1 : Env} {d : Bool} (h : a η = .ok (.bl d) η1) : eNotF a η = .ok (.bl (!d)) η1 := by
  unfold eNotF
  rw [h]
  rfl
theorem br_t {α : Type} {A B r : α} (h : A = r) : (if true = true then A else B) = r := h
theorem br_f {α : Type} {A B r : α} (h : B = r) : (if false = true then A else B) = r := h
theorem br_nt {α : Type} {A B r : α} (h : B = r) : (if (!true) = true then A else B) = r := h
theorem br_nf {α : Type} {A B r : α} (h : A = r) : (if (!false) = true then A else B) = r := h
theorem br_dt {α : Type} {A B r : α} {p : Prop} [Decidable p] (hp : p) (h : A = r) : (if decide p = true then A else B) = r := by rw [decide_eq_true hp]; exact h
theorem br_df {α : Type} {A B r : α} {p : Prop} [Decidable p] (hp : ¬ p) (h : B = r) : (if decide p = true then A else B) = r := by rw [decide_eq_false hp]; exact h
theorem br_ndt {α : Type} {A B r : α} {p : Prop} [Decidable p] (hp : p) (h : B = r) : (if (!decide p) = true then A else B) = r := by rw [decide_eq_true hp]; exact h
theorem br_ndf {α : Type} {A B r : α} {p : Prop} [Decidable p] (hp : ¬ p) (h : A = r) : (if (!decide p) = true then A else B) = r := by rw [decide_eq_false hp]; exact h
theorem br_vt {α : Type} {A B r : α} {d : Bool} (hd : d = true) (h : A = r) : (if d = true then A else B) = r := by rw [hd]; exact h
theorem br_vf {α : Type} {A B r : α} {d : Bool} (hd : d = false) (h : B = r) : (if d = true then A else B) = r := by rw [hd]; exact h
theorem r_chain {ka kb kc : AK} {g g' : Int → Int → Bool} {η η1 η2 η3 η4 : Env} {as as2 : List (Sum Nat T)} {i j k : Int} (h : argsF [ka, kb] η = .ok as η1) (h2 : resolve as η1 = some ([.int i, .int j], η2)) (hg : g i j = true) (h3 : argsF [kc] η1 = .ok as2 η3) (h4 : resolve as2 η3 = some ([.int k], η4)) {b : Bool} (hb : g' j k = b) : eChain ka kb kc g g' η = .ok (.bl b) η3 := by
  subst hb
  unfold eChain
  rw [h]
  simp only [Res.bind, h2, hg, if_true, h3, h4]
theorem r_chainF {ka kb kc : AK} {g g' : Int → Int → Bool} {η η1 η2 : Env} {as : List (Sum Nat T)} {i j : Int} (h : argsF [ka, kb] η = .ok as η1) (h2 : resolve as η1 = some ([.int i, .int j], η2)) (hg : g i j = false) : eChain ka kb kc g g' η = .ok (.bl false) η1 := by
  unfold eChain
  rw [h]
  simp only [Res.bind, h2, hg]
  rfl
theorem r_meth {kd : T → Bool} {i : Nat} {ks : List AK} {op : Om} {η η1 η2 : Env} {t0 t1 t r : T} {as : List (Sum Nat T)} {ts : List T} (h0 : η[i]? = some (some t0)) (hk : kd t0 = true) (h : argsF ks η = .ok as η1) (h1 : η1[i]? = some (some t1)) (h2 : valsOf as = some ts) (h3 : op t1 ts = some (t, r)) (h4 : η1.set i (some r) = η2) : eMeth kd i ks op η = .ok t η2 := by
  unfold eMeth
  simp only [h0, hk, if_true, h, Res.bind, h1, h2, h3, h4]
theorem r_setIx {op : Oi} {e : Fe T} {i : Nat} {k : AK} {η η1 η2 η3 : Env} {as : List (Sum Nat T)} {y t0 kk t1 : T} (h : argsF [.v e, .s i, k] η = .ok as η1) (h2 : resolve as η1 = some ([y, t0, kk], η2)) (h3 : op y t0 kk = some t1) (h4 : η2.set i (some t1) = η3) : sSetIx op e i k η = .ok .nx η3 := by
  unfold sSetIx
  rw [h]
  simp only [Res.bind, h2, h3, h4]
theorem r_var {i : Nat} {η η1 : Env} {t u : T} (h : η[i]? = some (some t)) (hu : t.frz = u) (h2 : η.set i (some u) = η1) : eVar i η = .ok u η1 := by
  subst hu h2
  unfold eVar
  rw [h]
theorem r_move {i : Nat} {η η1 : Env} {t : T} (h : η[i]? = some (some t)) (h2 : η.set i none = η1) : eMove i η = .ok t η1 := by
  subst h2
  unfold eMove
  rw [h]
theorem r_c {t : T} {η : Env} : eC t η = .ok t η := rfl
theorem r_lst {ks : List AK} {η η1 : Env} {as : List (Sum Nat T)} {ts : List T} (h : argsF ks η = .ok as η1) (h2 : valsOf as = some ts) (hz : ts.length ≤ 1000) : eLst ks η = .ok (.lst true ts) η1 := eLst_of h h2 hz
theorem r_tup {ks : List AK} {η η1 : Env} {as : List (Sum Nat T)} {ts us : List T} (h : argsF ks η = .ok as η1) (h2 : valsOf as = some ts) (hz : ts.length ≤ 1000) (h3 : frzL ts = us) : eTup ks η = .ok (.tup us) η1 := h3 ▸ eTup_of h h2 hz
theorem r_seqL {f : Fe T} {η η1 : Env} {t : T} {b : Bool} {xs : List T} (h : f η = .ok t η1) (h2 : t.frz = .lst b xs) : iSeqF f η = .ok xs η1 := by
  unfold iSeqF
  rw [h]
  show itemsOf t η1 = _
  unfold itemsOf
  rw [h2]
theorem r_seqT {f : Fe T} {η η1 : Env} {t : T} {xs : List T} (h : f η = .ok t η1) (h2 : t.frz = .tup xs) : iSeqF f η = .ok xs η1 := by
  unfold iSeqF
  rw [h]
  show itemsOf t η1 = _
  unfold itemsOf
  rw [h2]
theorem r_enuL {f : Fe T} {η η1 : Env} {t : T} {b : Bool} {xs : List T} (h : f η = .ok t η1) (h2 : t.frz = .lst b xs) : iEnumF f η = .ok (enumT xs) η1 := by
  unfold iEnumF
  rw [h]
  simp only [Res.bind, h2]
theorem r_enuT {f : Fe T} {η η1 : Env} {t : T} {xs : List T} (h : f η = .ok t η1) (h2 : t.frz = .tup xs) : iEnumF f η = .ok (enumT xs) η1 := by
  unfold iEnumF
  rw [h]
  simp only [Res.bind, h2]
theorem r_rng1 {k : AK} {η η1 η2 : Env} {as : List (Sum Nat T)} {j : Int} {n : Nat} (h : argsF [k] η = .ok as η1) (h2 : resolve as η1 = some ([.int j], η2)) (hb : -(2 ^ 62) ≤ j ∧ j < 2 ^ 62) (hn : j.toNat = n) : iRng1F k η = .ok (rangeT 0 n) η1 := hn ▸ iRng1_of h h2 hb
theorem r_rng2 {k k' : AK} {η η1 η2 : Env} {as : List (Sum Nat T)} {i j : Int} {n : Nat} (h : argsF [k, k'] η = .ok as η1) (h2 : resolve as η1 = some ([.int i, .int j], η2)) (hi : -(2 ^ 62) ≤ i ∧ i < 2 ^ 62) (hb : -(2 ^ 62) ≤ j ∧ j < 2 ^ 62) (hn : (j - i).toNat = n) : iRng2F k k' η = .ok (rangeT i n) η1 := hn ▸ iRng2_of h h2 ⟨hi.1, hi.2, hb.1, hb.2⟩
theorem r_comp {it : Fe (List T)} {own : List Nat} {tg : Tg} {c : Fe Bool} {elt : Fe T} {η η1 η2 η3 : Env} {ts acc : List T} (h1 : it η = .ok ts η1) (hw : wipeE η1 own = η2) (h2 : compF own tg c elt ts [] η2 = .ok acc η3) : eComp it own tg c elt η = .ok (.lst true acc) η3 := eComp_of h1 (hw ▸ h2)
theorem r_intF {f : Fe T} {η η1 : Env} {i : Int} (h : f η = .ok (.int i) η1) : intF f η = .ok (.int i) η1 := by
  unfold intF
  rw [h]
  rfl
theorem r_unp {e : Fe T} {tg : Tg} {η η1 η2 : Env} {t u : T} (h : e η = .ok t η1) (h1 : t.frz = u) (h2 : tg u η1 = some η2) : sUnp e tg η = .ok .nx η2 := by
  subst h1
  unfold sUnp
  rw [h]
  simp only [Res.bind, h2]
theorem tg_n {i : Nat} {t : T} {η η1 : Env} (hi : i < η.length) (h : η.set i (some t) = η1) : tgN i t η = some η1 := by
  unfold tgN
  rw [if_pos hi, h]
theorem tg_t {gs : List Tg} {ts : List T} {η : Env} {r : Option Env} (h : tgL gs ts η = r) : tgT gs (.tup ts) η = r := h
theorem tg_l0 {η : Env} : tgL [] [] η = some η := rfl
theorem tg_l {g : Tg} {gs : List Tg} {t : T} {ts : List T} {η η1 : Env} {r : Option Env} (h : g t η = some η1) (h2 : tgL gs ts η1 = r) : tgL (g :: gs) (t :: ts) η = r := by
  show (g t η).bind _ = _
  rw [h]
  exact h2
/-! ### loops by functions -/
/-- a comprehension over told things: what each gives, and what stands in the names meanwhile -/
theorem compF_q {α : Type} {own : List Nat} {tg : Tg} {c : Fe Bool} {elt : Fe T} (E : Nat → Env) (q : α → T) (p : α → Bool) (g : α → T) : ∀ {xs : List α} {k : Nat} {acc : List T}, acc.length + xs.length ≤ 100000 →
    (∀ i x, xs[i]? = some x → ∃ η1 η2, tg (q x) (E (k + i)) = some η1 ∧ c η1 = .ok (p x) η2 ∧ (p x = false → wipeE η2 own = E (k + i + 1)) ∧ (p x = true → ∃ η3, elt η2 = .ok (g x) η3 ∧ wipeE η3 own = E (k + i + 1))) →
    compF own tg c elt (xs.map q) acc (E k) = .ok (acc ++ (xs.filter p).map g) (E (k + xs.length))
  | [], k, acc, _, _ => by simp [compF]
  | x :: xs, k, acc, hz, st => by
    obtain ⟨η1, η2, e1, e2, hf, ht⟩ := st 0 x rfl
    have hz : acc.length + (xs.length + 1) ≤ 100000 := hz
    have hl : acc.length < sizeLine := Nat.lt_of_lt_of_le (show acc.length < 100000 by omega) (by decide)
    have rest : ∀ i u, xs[i]? = some u → ∃ η1 η2, tg (q u) (E (k + 1 + i)) = some η1 ∧ c η1 = .ok (p u) η2 ∧ (p u = false → wipeE η2 own = E (k + 1 + i + 1)) ∧ (p u = true → ∃ η3, elt η2 = .ok (g u) η3 ∧ wipeE η3 own = E (k + 1 + i + 1)) := fun i u eu => by
      have := st (i + 1) u (by simpa using eu)
      rw [show k + (i + 1) = k + 1 + i by omega] at this
      exact this
    have e1' : tg (q x) (E k) = some η1 := e1
    have le : k + (x :: xs).length = k + 1 + xs.length := by simp; omega
    rw [List.map_cons]
    unfold compF
    cases hp : p x with
    | false =>
      rw [hp] at e2
      have w := hf hp
      have IH := compF_q (own := own) (tg := tg) (c := c) (elt := elt) E q p g (xs := xs) (k := k + 1) (acc := acc) (by omega) rest
      simp only [e1', e2]
      rw [w, show k + 0 + 1 = k + 1 from rfl, IH, List.filter_cons, hp, le]
      rfl
    | true =>
      rw [hp] at e2
      obtain ⟨η3, e4, w⟩ := ht hp
      have IH := compF_q (own := own) (tg := tg) (c := c) (elt := elt) E q p g (xs := xs) (k := k + 1) (acc := acc ++ [g x]) (by rw [List.length_append]; simp; omega) rest
      simp only [e1', e2, e4, hl, if_true]
      rw [w, show k + 0 + 1 = k + 1 from rfl, IH, List.filter_cons, hp, le]
      simp
theorem compF_c {α : Type} {own : List Nat} {tg : Tg} {c : Fe Bool} {elt : Fe T} {E : Env} (q : α → T) (p : α → Bool) (g : α → T) {xs : List α} (hz : xs.length ≤ 100000)
    (st : ∀ x ∈ xs, ∃ η1 η2, tg (q x) E = some η1 ∧ c η1 = .ok (p x) η2 ∧ (p x = false → wipeE η2 own = E) ∧ (p x = true → ∃ η3, elt η2 = .ok (g x) η3 ∧ wipeE η3 own = E)) :
    compF own tg c elt (xs.map q) [] E = .ok ((xs.filter p).map g) E := by
  have := compF_q (own := own) (tg := tg) (c := c) (elt := elt) (fun _ => E) q p g (xs := xs) (k := 0) (acc := []) (by simpa using hz) (fun i t e => st t (List.mem_of_getElem? e))
  simpa using this
theorem compF_y {α : Type} {own : List Nat} {tg : Tg} {elt : Fe T} {E : Env} (q : α → T) (g : α → T) {xs : List α} (hz : xs.length ≤ 100000)
    (st : ∀ x ∈ xs, ∃ η1 η3, tg (q x) E = some η1 ∧ elt η1 = .ok (g x) η3 ∧ wipeE η3 own = E) :
    compF own tg cYes elt (xs.map q) [] E = .ok (xs.map g) E := by
  have := compF_c (own := own) (tg := tg) (c := cYes) (elt := elt) (E := E) q (fun _ => true) g hz (fun x hx => by
    obtain ⟨η1, η3, h1, h2, h3⟩ := st x hx
    exact ⟨η1, η1, h1, rfl, (fun z => by cases z), fun _ => ⟨η3, h2, h3⟩⟩)
  rw [List.filter_eq_self.mpr (by simp)] at this
  exact this
theorem compF_ym {α β : Type} {own : List Nat} {tg : Tg} {elt : Fe T} {E : Env} (q : α → T) (f : α → β) (q' : β → T) {xs : List α} (hz : xs.length ≤ 100000)
    (st : ∀ x ∈ xs, ∃ η1 η3, tg (q x) E = some η1 ∧ elt η1 = .ok (q' (f x)) η3 ∧ wipeE η3 own = E) :
    compF own tg cYes elt (xs.map q) [] E = .ok ((xs.map f).map q') E := by
  rw [List.map_map]
  exact compF_y q (q' ∘ f) hz st
theorem compF_cm {α β : Type} {own : List Nat} {tg : Tg} {c : Fe Bool} {elt : Fe T} {E : Env} (q : α → T) (p : α → Bool) (f : α → β) (q' : β → T) {xs : List α} (hz : xs.length ≤ 100000)
    (st : ∀ x ∈ xs, ∃ η1 η2, tg (q x) E = some η1 ∧ c η1 = .ok (p x) η2 ∧ (p x = false → wipeE η2 own = E) ∧ (p x = true → ∃ η3, elt η2 = .ok (q' (f x)) η3 ∧ wipeE η3 own = E)) :
    compF own tg c elt (xs.map q) [] E = .ok (((xs.filter p).map f).map q') E := by
  rw [List.map_map]
  exact compF_c q p (q' ∘ f) hz st
theorem ex_y {own : List Nat} {tg : Tg} {elt : Fe T} {E E' η1 η3 : Env} {t u : T} (h1 : tg t E = some η1) (h2 : elt η1 = .ok u η3) (h3 : wipeE η3 own = E') : ∃ η1 η3, tg t E = some η1 ∧ elt η1 = .ok u η3 ∧ wipeE η3 own = E' := ⟨_, _, h1, h2, h3⟩
theorem ex_c {own : List Nat} {tg : Tg} {c : Fe Bool} {elt : Fe T} {E E' η1 η2 η3 : Env} {t u : T} {b : Bool} (h1 : tg t E = some η1) (h2 : c η1 = .ok b η2) (h3 : wipeE η2 own = E') (h4 : elt η2 = .ok u η3) (h5 : wipeE η3 own = E') : ∃ η1 η2, tg t E = some η1 ∧ c η1 = .ok b η2 ∧ (b = false → wipeE η2 own = E') ∧ (b = true → ∃ η3, elt η2 = .ok u η3 ∧ wipeE η3 own = E') := ⟨_, _, h1, h2, fun _ => h3, fun _ => ⟨_, h4, h5⟩⟩
theorem ex_f {tg : Tg} {body : Fs} {η η1 η2 : Env} {t : T} {R : Env → Prop} (h1 : tg t η = some η1) (h2 : body η1 = .ok .nx η2) (h3 : R η2) : ∃ η1 η2, tg t η = some η1 ∧ body η1 = .ok .nx η2 ∧ R η2 := ⟨_, _, h1, h2, h3⟩
/-- all of a comprehension's are true -/
theorem compF_all {own : List Nat} {tg : Tg} {elt : Fe T} {E : Env} {ts : List T} (hz : ts.length ≤ 100000)
    (st : ∀ t ∈ ts, ∃ η1 η3, tg t E = some η1 ∧ elt η1 = .ok (.bl true) η3 ∧ wipeE η3 own = E) :
    compF own tg cYes elt ts [] E = .ok ((List.replicate ts.length true).map T.bl) E := by
  have := compF_y (own := own) (tg := tg) (elt := elt) (E := E) id (fun _ => T.bl true) hz st
  rw [List.map_id] at this
  rw [this, List.map_replicate, List.map_const']
theorem all_rep (n : Nat) : (List.replicate n true).all id = true := by
  induction n with
  | zero => rfl
  | succ n ih => rw [List.replicate_succ, List.all_cons, ih]; rfl
/-- a loop whose state is told by a function of what was before -/
theorem forF_fold {α S : Type} {tg : Tg} {body : Fs} (E : S → Env) (q : α → T) (f : S → α → S) (I : S → List α → Prop) : ∀ {xs : List α} {s : S}, I s xs →
    (∀ s x xs, I s (x :: xs) → I (f s x) xs ∧ ∃ η1, tg (q x) (E s) = some η1 ∧ body η1 = .ok .nx (E (f s x))) →
    forF tg body (xs.map q) (E s) = .ok .nx (E (xs.foldl f s))
  | [], s, _, _ => rfl
  | x :: xs, s, h, st => by
    obtain ⟨h1, η1, e1, e2⟩ := st s x xs h
    have IH := forF_fold (tg := tg) (body := body) E q f I h1 st
    show (match tg (q x) (E s) with
      | none => _
      | some η1 => _) = _
    rw [e1]
    simp only [e2]
    exact IH
/-- the same by a relation: what else stands in the names is not said -/
theorem forF_rel {α S : Type} {tg : Tg} {body : Fs} (R : S → Env → Prop) (q : α → T) (f : S → α → S) (I : S → List α → Prop) : ∀ {xs : List α} {s : S} {η : Env}, I s xs → R s η →
    (∀ s x xs η, I s (x :: xs) → R s η → I (f s x) xs ∧ ∃ η1 η2, tg (q x) η = some η1 ∧ body η1 = .ok .nx η2 ∧ R (f s x) η2) →
    ∃ η', forF tg body (xs.map q) η = .ok .nx η' ∧ R (xs.foldl f s) η'
  | [], s, η, _, r, _ => ⟨η, rfl, r⟩
  | x :: xs, s, η, h, r, st => by
    obtain ⟨h1, η1, η2, e1, e2, r2⟩ := st s x xs η h r
    obtain ⟨η', e3, r3⟩ := forF_rel (tg := tg) (body := body) R q f I h1 r2 st
    refine ⟨η', ?_, r3⟩
    show (match tg (q x) η with
      | none => _
      | some η1 => _) = _
    rw [e1]
    simp only [e2]
    exact e3

/-! ### operations on given trees -/
def seqT (t : T) : Option (List T) := match t.frz with
  | .lst _ xs => some xs
  | .tup xs => some xs
  | _ => none
theorem frz_int (i : Int) : (T.int i).frz = .int i := rfl
theorem frz_bl (b : Bool) : (T.bl b).frz = .bl b := rfl
theorem frz_non : T.non.frz = .non := rfl
theorem frz_str (z : Str) : (T.str z).frz = .str z := rfl
theorem frz_tup (xs : List T) : (T.tup xs).frz = .tup xs := rfl
theorem frz_lf (xs : List T) : (T.lst false xs).frz = .lst false xs := rfl
theorem frz_lt (xs : List T) : (T.lst true xs).frz = .lst false (frzL xs) := rfl
theorem frzL_nil : frzL [] = [] := rfl
theorem frzL_cons (t : T) (ts : List T) : frzL (t :: ts) = t.frz :: frzL ts := rfl
theorem frz_inst (c : Str) (ks : List Str) (xs : List T) : (T.ins true c ks xs).frz = .ins false c ks (frzL xs) := rfl
theorem frz_insf (c : Str) (ks : List Str) (xs : List T) : (T.ins false c ks xs).frz = .ins false c ks xs := rfl
theorem frz_scr (ns : List Int) : (T.scr ns).frz = .scr ns := rfl
theorem seqT_t (xs : List T) : seqT (.tup xs) = some xs := rfl
theorem seqT_f (xs : List T) : seqT (.lst false xs) = some xs := rfl
theorem seqT_o (xs : List T) : seqT (.lst true xs) = some (frzL xs) := rfl
theorem r_seqI {f : Fe T} {η η1 : Env} {t : T} {xs : List T} (h : f η = .ok t η1) (h2 : seqT t = some xs) : iSeqF f η = .ok xs η1 := by
  unfold seqT at h2
  split at h2
  · rename_i e; cases h2; exact r_seqL h e
  · rename_i e; cases h2; exact r_seqT h e
  · cases h2
theorem r_enuI {f : Fe T} {η η1 : Env} {t : T} {xs : List T} (h : f η = .ok t η1) (h2 : seqT t = some xs) : iEnumF f η = .ok (enumT xs) η1 := by
  unfold seqT at h2
  split at h2
  · rename_i e; cases h2; exact r_enuL h e
  · rename_i e; cases h2; exact r_enuT h e
  · cases h2
theorem frzL_of {α : Type} (f : α → T) (h : ∀ x, (f x).frz = f x) (xs : List α) : frzL (xs.map f) = xs.map f := by
  rw [frzL_map, List.map_map]
  exact List.map_congr_left fun x _ => h x
/-- trees that are frozen as they stand -/
class FrzC {α : Type} (f : α → T) : Prop where
  h : ∀ x, (f x).frz = f x
theorem frzL_cls {α : Type} (f : α → T) [FrzC f] (xs : List α) : frzL (xs.map f) = xs.map f := frzL_of f FrzC.h xs
instance : FrzC T.int := ⟨fun _ => rfl⟩
instance : FrzC T.bl := ⟨fun _ => rfl⟩
instance : FrzC T.tup := ⟨fun _ => rfl⟩
instance : FrzC T.str := ⟨fun _ => rfl⟩
theorem frzL_app (xs ys : List T) : frzL (xs ++ ys) = frzL xs ++ frzL ys := by
  rw [frzL_map, frzL_map, frzL_map, List.map_append]
theorem frzL_len (xs : List T) : (frzL xs).length = xs.length := by rw [frzL_map, List.length_map]
theorem sz5 {n : Nat} (h : n ≤ 100000) : n ≤ sizeLine := Nat.le_trans h (by decide)
theorem o_min (o : Bool) (ns : List Int) (h : 0 < ns.length) : minIO [.lst o (ns.map T.int)] = some (.int (leastI ns), [.lst o (ns.map T.int)]) := by
  unfold minIO
  simp only [ints?_map, h, if_true]
theorem tups?_map : ∀ zs : List (List Int), tups? (zs.map fun z => T.tup (z.map T.int)) = some zs
  | [] => rfl
  | z :: zs => by
    rw [List.map_cons]
    unfold tups?
    rw [ints?_map, tups?_map zs]; rfl
theorem o_minT (o : Bool) (zs : List (List Int)) (h : 0 < zs.length) : minIO [.lst o (zs.map fun z => T.tup (z.map T.int))] = some (.tup ((leastL zs).map T.int), [.lst o (zs.map fun z => T.tup (z.map T.int))]) := by
  unfold minIO
  have e : ints? (zs.map fun z => T.tup (z.map T.int)) = none := by
    cases zs with
    | nil => cases h
    | cons z zs => rfl
  simp only [e, tups?_map, Option.bind_some, h, if_true]
theorem o_max (o : Bool) (ns : List Int) (h : 0 < ns.length) : maxIO [.lst o (ns.map T.int)] = some (.int (greatestI ns), [.lst o (ns.map T.int)]) := by
  unfold maxIO
  simp only [ints?_map, Option.bind_some, h, if_true]
theorem o_max2 (o : Bool) (ns : List Int) (h : 0 < ns.length) : maxIO2 [.lst o (ns.map T.int)] = some (.int (greatestI ns), [.lst o (ns.map T.int)]) := o_max o ns h
theorem o_max2t (ns : List Int) (h : 0 < ns.length) : maxIO2 [.tup (ns.map T.int)] = some (.int (greatestI ns), [.tup (ns.map T.int)]) := by
  unfold maxIO2
  simp only [ints?_map, Option.bind_some, h, if_true]
theorem o_all (o : Bool) (bs : List Bool) : allO [.lst o (bs.map T.bl)] = some (.bl (bs.all id), [.lst o (bs.map T.bl)]) := by
  unfold allO
  simp only [bls?_map, Option.map_some]
theorem o_allR (o : Bool) (n : Nat) : allO [.lst o ((List.replicate n true).map T.bl)] = some (.bl true, [.lst o ((List.replicate n true).map T.bl)]) := by
  rw [o_all, all_rep]
theorem o_any (o : Bool) (bs : List Bool) : anyO [.lst o (bs.map T.bl)] = some (.bl (bs.any id), [.lst o (bs.map T.bl)]) := by
  unfold anyO
  simp only [bls?_map, Option.map_some]
theorem o_tupT {xs ys : List T} (h : frzL xs = ys) : tupO [.lst true xs] = some (.tup ys, [.lst true ys]) := h ▸ rfl
theorem o_tupF (xs : List T) : tupO [.lst false xs] = some (.tup xs, [.lst false xs]) := rfl
theorem o_listT {xs ys : List T} (h : frzL xs = ys) : listO [.lst true xs] = some (.lst true ys, [.lst true ys]) := h ▸ rfl
theorem o_listU (xs : List T) : listO [.tup xs] = some (.lst true xs, [.tup xs]) := rfl
theorem o_catT {xs ys : List T} (h : xs.length + ys.length ≤ 100000) : opAdd [.tup xs, .tup ys] = some (.tup (xs ++ ys), [.tup xs, .tup ys]) := by
  have hz := sz5 h
  show addO [.tup xs, .tup ys] = _
  unfold addO
  simp only [hz, if_true]
def frzIf (o : Bool) (xs : List T) : List T := if o = true then frzL xs else xs
theorem frzIf_len (o : Bool) (xs : List T) : (frzIf o xs).length = xs.length := by
  unfold frzIf
  split
  · exact frzL_len xs
  · rfl
theorem kid_lst (o : Bool) (xs : List T) : (T.lst o xs).kid = .lst o (frzIf o xs) := by cases o <;> rfl
theorem o_catL {o o' : Bool} {xs ys xs' ys' : List T} (hx : frzIf o xs = xs') (hy : frzIf o' ys = ys') (h : xs.length + ys.length ≤ 100000) : opAdd [.lst o xs, .lst o' ys] = some (.lst true (xs' ++ ys'), [.lst o xs', .lst o' ys']) := by
  subst hx hy
  have hz := sz5 h
  show addO [(T.lst o xs).kid, (T.lst o' ys).kid] = _
  rw [kid_lst, kid_lst]
  unfold addO
  simp only [frzIf_len, hz, if_true]
theorem sIx_lo {n d : Nat} {a : Int} (h : 0 ≤ a) : HT.sIx n d (some a) = min a.toNat n := by
  have := HT.sIx_nat n d a.toNat
  rw [Int.toNat_of_nonneg h] at this
  rw [this]
theorem cutL_take {α : Type} (xs : List α) {a : Int} (h : 0 ≤ a) : cutL xs none (some a) = xs.take a.toNat := by
  unfold cutL
  rw [sIx_lo h, HT.sIx_none]
  simp only [List.drop_zero, Nat.sub_zero]
  by_cases q : a.toNat ≤ xs.length
  · rw [Nat.min_eq_left q]
  · rw [Nat.min_eq_right (by omega), List.take_length, List.take_of_length_le (by omega)]
theorem cutL_drop {α : Type} (xs : List α) {a : Int} (h : 0 ≤ a) : cutL xs (some a) none = xs.drop a.toNat := by
  unfold cutL
  rw [sIx_lo h, HT.sIx_none]
  by_cases q : a.toNat ≤ xs.length
  · rw [Nat.min_eq_left q, List.take_of_length_le (by rw [List.length_drop]; omega)]
  · rw [Nat.min_eq_right (by omega), List.drop_length, List.take_nil, List.drop_of_length_le (by omega)]
theorem cutL_mid {α : Type} (xs : List α) {a b : Int} (h : 0 ≤ a) (h2 : 0 ≤ b) : cutL xs (some a) (some b) = (xs.drop a.toNat).take (b.toNat - a.toNat) := by
  unfold cutL
  rw [sIx_lo h, sIx_lo h2]
  generalize a.toNat = a at *
  generalize b.toNat = b at *
  by_cases q : a ≤ xs.length
  · rw [Nat.min_eq_left q]
    by_cases q2 : b ≤ xs.length
    · rw [Nat.min_eq_left q2]
    · rw [Nat.min_eq_right (by omega), List.take_of_length_le (by rw [List.length_drop]; omega), List.take_of_length_le (by rw [List.length_drop]; omega)]
  · rw [Nat.min_eq_right (show xs.length ≤ a by omega), List.drop_length, List.drop_of_length_le (by omega), List.take_nil, List.take_nil]
theorem o_s01t (xs : List T) {a : Int} (h : 0 ≤ a) : sl01 [.tup xs, .int a] = some (.tup (xs.take a.toNat), [.tup xs, .int a]) := by
  show some (T.tup (cutL xs none (some a)), _) = _
  rw [cutL_take xs h]; rfl
theorem o_s10t (xs : List T) {a : Int} (h : 0 ≤ a) : sl10 [.tup xs, .int a] = some (.tup (xs.drop a.toNat), [.tup xs, .int a]) := by
  show some (T.tup (cutL xs (some a) none), _) = _
  rw [cutL_drop xs h]; rfl
theorem o_s11t (xs : List T) {a b : Int} (h : 0 ≤ a) (h2 : 0 ≤ b) : sl11 [.tup xs, .int a, .int b] = some (.tup ((xs.drop a.toNat).take (b.toNat - a.toNat)), [.tup xs, .int a, .int b]) := by
  show some (T.tup (cutL xs (some a) (some b)), _) = _
  rw [cutL_mid xs h h2]; rfl
theorem o_s01l {o : Bool} {xs ys : List T} {a : Int} (hf : frzIf o xs = ys) (h : 0 ≤ a) : sl01 [.lst o xs, .int a] = some (.lst true (ys.take a.toNat), [.lst o ys, .int a]) := by
  subst hf
  show (match [(T.lst o xs).kid, .int a] with | [x, .int j] => cutO x none (some j) _ | _ => none) = _
  rw [kid_lst]
  show some (T.lst true (cutL (frzIf o xs) none (some a)), [(T.lst o xs).kid, .int a]) = _
  rw [cutL_take _ h, kid_lst]
theorem o_s10l {o : Bool} {xs ys : List T} {a : Int} (hf : frzIf o xs = ys) (h : 0 ≤ a) : sl10 [.lst o xs, .int a] = some (.lst true (ys.drop a.toNat), [.lst o ys, .int a]) := by
  subst hf
  show (match [(T.lst o xs).kid, .int a] with | [x, .int j] => cutO x (some j) none _ | _ => none) = _
  rw [kid_lst]
  show some (T.lst true (cutL (frzIf o xs) (some a) none), [(T.lst o xs).kid, .int a]) = _
  rw [cutL_drop _ h, kid_lst]
theorem o_app {xs : List T} {y : T} (h : xs.length < 100000) : appM (.lst true xs) [y] = some (.non, .lst true (xs ++ [y])) := by
  have hz : xs.length < sizeLine := Nat.lt_of_lt_of_le h (by decide)
  unfold appM
  simp only [hz, if_true]
theorem o_ext {o : Bool} {xs ys : List T} (h : xs.length + ys.length ≤ 100000) : extM (.lst true xs) [.lst o ys] = some (.non, .lst true (xs ++ ys)) := by
  have hz := sz5 h
  unfold extM
  simp only [hz, if_true]
theorem atI_nat {α : Type} {xs : List α} {i : Int} {t : α} (h : 0 ≤ i) (e : xs[i.toNat]? = some t) : atI xs i = some t := by
  unfold atI
  rw [ixN_nat _ _ h (by have := (List.getElem?_eq_some_iff.mp e).1; omega)]
  exact e
theorem o_ixT {xs : List T} {i : Int} {t : T} (h : 0 ≤ i) (e : xs[i.toNat]? = some t) : ixO [.tup xs, .int i] = some (t, [.tup xs, .int i]) := by
  show (atI xs i).map _ = _
  rw [atI_nat h e]; rfl
theorem o_ixL {o : Bool} {xs ys : List T} {i : Int} {t : T} (h : 0 ≤ i) (e : xs[i.toNat]? = some t) {u : T} (hu : t.frz = u) (hy : xs.set i.toNat u = ys) : ixO [.lst o xs, .int i] = some (u, [.lst o ys, .int i]) := by
  subst hu hy
  exact o_ix o xs i i.toNat t (ixN_nat _ _ h (by have := (List.getElem?_eq_some_iff.mp e).1; omega)) e
theorem set_get {xs : List T} {i : Nat} {t : T} (e : xs[i]? = some t) : xs.set i t = xs := by
  obtain ⟨h, rfl⟩ := List.getElem?_eq_some_iff.mp e
  exact List.set_getElem_self h
/-- an item that is frozen: nothing is changed -/
theorem o_ixLf {o : Bool} {xs : List T} {i : Int} {t : T} (h : 0 ≤ i) (e : xs[i.toNat]? = some t) (hu : t.frz = t) : ixO [.lst o xs, .int i] = some (t, [.lst o xs, .int i]) := o_ixL h e hu (set_get e)
theorem r_intFv {i : Nat} {η : Env} {a : Int} (h : η[i]? = some (some (.int a))) : intF (eVar i) η = .ok (.int a) η := by
  refine r_intF (r_var h rfl ?_)
  obtain ⟨hi, e⟩ := List.getElem?_eq_some_iff.mp h
  rw [← e]
  exact List.set_getElem_self hi
theorem r_chain_ee {ka kb kc : AK} {η η1 η2 η3 η4 : Env} {as as2 : List (Sum Nat T)} {i j k : Int} (h : argsF [ka, kb] η = .ok as η1) (h2 : resolve as η1 = some ([.int i, .int j], η2)) (hg : i ≤ j) (h3 : argsF [kc] η1 = .ok as2 η3) (h4 : resolve as2 η3 = some ([.int k], η4)) (hb : j ≤ k) : eChain ka kb kc (fun i j => decide (i ≤ j)) (fun i j => decide (i ≤ j)) η = .ok (.bl true) η3 := r_chain h h2 (decide_eq_true hg) h3 h4 (decide_eq_true hb)
theorem r_chain_el {ka kb kc : AK} {η η1 η2 η3 η4 : Env} {as as2 : List (Sum Nat T)} {i j k : Int} (h : argsF [ka, kb] η = .ok as η1) (h2 : resolve as η1 = some ([.int i, .int j], η2)) (hg : i ≤ j) (h3 : argsF [kc] η1 = .ok as2 η3) (h4 : resolve as2 η3 = some ([.int k], η4)) (hb : j < k) : eChain ka kb kc (fun i j => decide (i ≤ j)) (fun i j => decide (i < j)) η = .ok (.bl true) η3 := r_chain h h2 (decide_eq_true hg) h3 h4 (decide_eq_true hb)
theorem r_chain_le {ka kb kc : AK} {η η1 η2 η3 η4 : Env} {as as2 : List (Sum Nat T)} {i j k : Int} (h : argsF [ka, kb] η = .ok as η1) (h2 : resolve as η1 = some ([.int i, .int j], η2)) (hg : i < j) (h3 : argsF [kc] η1 = .ok as2 η3) (h4 : resolve as2 η3 = some ([.int k], η4)) (hb : j ≤ k) : eChain ka kb kc (fun i j => decide (i < j)) (fun i j => decide (i ≤ j)) η = .ok (.bl true) η3 := r_chain h h2 (decide_eq_true hg) h3 h4 (decide_eq_true hb)
theorem r_chain_ll {ka kb kc : AK} {η η1 η2 η3 η4 : Env} {as as2 : List (Sum Nat T)} {i j k : Int} (h : argsF [ka, kb] η = .ok as η1) (h2 : resolve as η1 = some ([.int i, .int j], η2)) (hg : i < j) (h3 : argsF [kc] η1 = .ok as2 η3) (h4 : resolve as2 η3 = some ([.int k], η4)) (hb : j < k) : eChain ka kb kc (fun i j => decide (i < j)) (fun i j => decide (i < j)) η = .ok (.bl true) η3 := r_chain h h2 (decide_eq_true hg) h3 h4 (decide_eq_true hb)
theorem g_ix {η : Env} {i : Nat} {r : Option (Option T)} (h : η[i]? = r) : η[i]? = r := h
theorem o_eqv {op : Op} {ts ts' : List T} {t u : T} (h : op ts = some (t, ts')) (e : t = u) : op ts = some (u, ts') := e ▸ h
theorem o_isiT {bs : List Ty7} {t : T} (h : isiO bs [t] = some (.bl true, [t])) : isiO bs [t] = some (.bl true, [t]) := h
theorem o_isiF {bs : List Ty7} {t : T} (h : isiO bs [t] = some (.bl false, [t])) : isiO bs [t] = some (.bl false, [t]) := h
theorem r_skip {η : Env} : sSkip η = .ok .nx η := rfl
theorem r_brk {η : Env} : sBrk η = .ok .bk η := rfl
theorem r_cont {η : Env} : sCont η = .ok .ct η := rfl
theorem r_retn {η : Env} : sRetN η = .ok (.rt .non) η := rfl
theorem r_yes {η : Env} : cYes η = .ok true η := rfl
section
variable {α : Type} {f : α → T} [FrzC f]
theorem frzIf_cls (o : Bool) (xs : List α) : frzIf o (xs.map f) = xs.map f := by
  cases o
  · rfl
  · exact frzL_cls f xs
theorem o_s10m {o : Bool} {xs : List α} {a : Int} {k : Nat} (h : 0 ≤ a) (hk : a.toNat = k) : sl10 [.lst o (xs.map f), .int a] = some (.lst true ((xs.drop k).map f), [.lst o (xs.map f), .int a]) := by
  subst hk
  rw [o_s10l (frzIf_cls o xs) h, List.map_drop]
theorem o_s01m {o : Bool} {xs : List α} {a : Int} {k : Nat} (h : 0 ≤ a) (hk : a.toNat = k) : sl01 [.lst o (xs.map f), .int a] = some (.lst true ((xs.take k).map f), [.lst o (xs.map f), .int a]) := by
  subst hk
  rw [o_s01l (frzIf_cls o xs) h, List.map_take]
end
theorem o_s10tm {α : Type} {f : α → T} {xs : List α} {a : Int} {k : Nat} (h : 0 ≤ a) (hk : a.toNat = k) : sl10 [.tup (xs.map f), .int a] = some (.tup ((xs.drop k).map f), [.tup (xs.map f), .int a]) := by
  subst hk
  rw [o_s10t _ h, List.map_drop]
theorem o_s01tm {α : Type} {f : α → T} {xs : List α} {a : Int} {k : Nat} (h : 0 ≤ a) (hk : a.toNat = k) : sl01 [.tup (xs.map f), .int a] = some (.tup ((xs.take k).map f), [.tup (xs.map f), .int a]) := by
  subst hk
  rw [o_s01t _ h, List.map_take]

/-! ### equal data -/
inductive Pl : Nat → T → Prop
  | int {n : Nat} (i : Int) : Pl n (.int i)
  | bl {n : Nat} (b : Bool) : Pl n (.bl b)
  | non {n : Nat} : Pl n .non
  | str {n : Nat} (z : Str) : PyData.canLay0 (.str z) = true → Pl n (.str z)
  | tup {n : Nat} {ts : List T} : (∀ t ∈ ts, Pl n t) → Pl (n + 1) (.tup ts)
  | lst {n : Nat} {o : Bool} {ts : List T} : (∀ t ∈ ts, Pl n t) → Pl (n + 1) (.lst o ts)
theorem pl_all {n : Nat} : ∀ {ts : List T}, (∀ t ∈ ts, ∃ d, t.dat = some d ∧ d.canLay0 = true ∧ d.depth ≤ n) → ∃ ds, datL ts = some ds ∧ PyData.canLayAll0 ds = true ∧ PyData.depthAll ds ≤ n
  | [], _ => ⟨[], rfl, rfl, Nat.zero_le _⟩
  | t :: ts, h => by
    obtain ⟨d, h1, h2, h3⟩ := h t List.mem_cons_self
    obtain ⟨ds, k1, k2, k3⟩ := pl_all (ts := ts) fun u hu => h u (List.mem_cons_of_mem _ hu)
    refine ⟨d :: ds, ?_, ?_, ?_⟩
    · show t.dat.bind _ = _
      rw [h1]
      show (datL ts).map _ = _
      rw [k1]; rfl
    · show (d.canLay0 && PyData.canLayAll0 ds) = true
      rw [h2, k2]; rfl
    · show max d.depth (PyData.depthAll ds) ≤ n
      omega
theorem pl_dat {n : Nat} {t : T} (h : Pl n t) : ∃ d, t.dat = some d ∧ d.canLay0 = true ∧ d.depth ≤ n := by
  induction h with
  | int i => exact ⟨_, rfl, rfl, Nat.zero_le _⟩
  | bl b => exact ⟨_, rfl, rfl, Nat.zero_le _⟩
  | non => exact ⟨_, rfl, rfl, Nat.zero_le _⟩
  | str z h => exact ⟨_, rfl, h, Nat.zero_le _⟩
  | tup h ih =>
    obtain ⟨ds, k1, k2, k3⟩ := pl_all ih
    exact ⟨.tuple ds, by show (datL _).map _ = _; rw [k1]; rfl, k2, Nat.succ_le_succ k3⟩
  | lst h ih =>
    obtain ⟨ds, k1, k2, k3⟩ := pl_all ih
    exact ⟨.list ds, by show (datL _).map _ = _; rw [k1]; rfl, k2, Nat.succ_le_succ k3⟩
theorem eq_dat {n : Nat} {t u : T} (h : Pl n t) (hn : n ≤ 64) (e : u.dat = t.dat) (neg : Bool) : eqO neg [t, u] = some (.bl (!neg), [t, u]) := by
  obtain ⟨d, h1, h2, h3⟩ := pl_dat h
  have hs : SeqAt.shaped d = true := by
    unfold SeqAt.shaped
    rw [h2, Bool.true_and]
    exact decide_eq_true (by omega)
  unfold eqO
  simp only [e, h1, Option.bind_some, hs, and_self, if_true, SeqAt.eqv_refl d h2]
  cases neg <;> rfl
theorem eq_selfT {n : Nat} {t : T} (h : Pl n t) (hn : n ≤ 64) : eqO true [t, t] = some (.bl false, [t, t]) := eq_dat h hn rfl true
theorem eq_selfF {n : Nat} {t : T} (h : Pl n t) (hn : n ≤ 64) : eqO false [t, t] = some (.bl true, [t, t]) := eq_dat h hn rfl false
theorem pl_ints (xs : List Int) : Pl 1 (.tup (xs.map .int)) := .tup fun t ht => by
  obtain ⟨i, _, rfl⟩ := List.mem_map.mp ht
  exact .int i
theorem pl_lints (o : Bool) (xs : List Int) : Pl 1 (.lst o (xs.map .int)) := .lst fun t ht => by
  obtain ⟨i, _, rfl⟩ := List.mem_map.mp ht
  exact .int i
/-! ### more of the operations -/
theorem o_bor {fn : Fn} {ts us us' : List T} {t : T} (hf : frzL ts = us) (h : fn us = .ok t us') (fl : t.flat = true) : borO fn ts = some (t, ts) := by
  unfold borO
  rw [hf, h]
  simp only [fl, if_true]
theorem o_pow (a b c : Int) (hb : 0 ≤ b ∧ b ≤ 1000000 ∧ a.natAbs < 2 ^ 64) (h : a ^ b.toNat = c) : opPow [.int a, .int b] = some (.int c, [.int a, .int b]) := by
  subst h
  unfold opPow i2
  simp only [hb, and_self, if_true, Option.map_some]
theorem pow10_6 : opPow [.int 10, .int 6] = some (.int 1000000, [.int 10, .int 6]) := o_pow _ _ _ ⟨by omega, by omega, by decide⟩ (by decide)
theorem pow10_4 : opPow [.int 10, .int 4] = some (.int 10000, [.int 10, .int 4]) := o_pow _ _ _ ⟨by omega, by omega, by decide⟩ (by decide)
theorem pow10_9 : opPow [.int 10, .int 9] = some (.int 1000000000, [.int 10, .int 9]) := o_pow _ _ _ ⟨by omega, by omega, by decide⟩ (by decide)
theorem o_ixLast {o : Bool} {xs : List T} {y : T} (hy : y.frz = y) : ixO [.lst o (xs ++ [y]), .int (-1)] = some (y, [.lst o (xs ++ [y]), .int (-1)]) := by
  have e : ixN (xs ++ [y]).length (-1) = some xs.length := by
    unfold ixN
    rw [if_neg (by omega), List.length_append, List.length_singleton, if_pos (by omega)]
    exact congrArg some (by omega)
  rw [o_ix o _ _ _ y e (by simp), hy, List.set_append_right _ _ (Nat.le_refl _), Nat.sub_self]
  rfl
/-- one of three by a drawn place -/
theorem ix_3 (a b c : Int) {r : Int} (h0 : 0 ≤ r) (h1 : r < 3) : ∃ v, ixO [.lst true [.int a, .int b, .int c], .int r] = some (.int v, [.lst true [.int a, .int b, .int c], .int r]) ∧ (v = a ∨ v = b ∨ v = c) := by
  obtain rfl | rfl | rfl : r = 0 ∨ r = 1 ∨ r = 2 := by omega
  · exact ⟨a, rfl, .inl rfl⟩
  · exact ⟨b, rfl, .inr (.inl rfl)⟩
  · exact ⟨c, rfl, .inr (.inr rfl)⟩
theorem ix_2 (a b : Int) {r : Int} (h0 : 0 ≤ r) (h1 : r < 2) : ∃ v, ixO [.lst true [.int a, .int b], .int r] = some (.int v, [.lst true [.int a, .int b], .int r]) ∧ (v = a ∨ v = b) := by
  obtain rfl | rfl : r = 0 ∨ r = 1 := by omega
  · exact ⟨a, rfl, .inl rfl⟩
  · exact ⟨b, rfl, .inr rfl⟩
theorem o_rept {xs ys : List T} {k : Int} (h : 0 < xs.length) (h1 : 1 ≤ k) (h2 : k ≤ 1000) (h3 : xs.length ≤ 1000) (e : (List.replicate k.toNat xs).flatten = ys) : opRepT2 [.tup xs, .int k] = some (.tup ys, [.tup xs, .int k]) := by
  subst e
  show (if k = 1 then some (T.tup xs, _) else if 0 < xs.length ∧ 2 ≤ k ∧ k ≤ 1000 ∧ xs.length ≤ 1000 then some (T.tup (List.replicate k.toNat xs).flatten, _) else none) = _
  by_cases q : k = 1
  · subst q
    rw [if_pos rfl, show (1 : Int).toNat = 1 from rfl, List.replicate_one, List.flatten_singleton]
    rfl
  · rw [if_neg q, if_pos ⟨h, by omega, h2, h3⟩]
    rfl
theorem o_sort2t (ns : List Int) : sortO2 [.tup (ns.map T.int)] = some (.lst true ((sortI ns).map T.int), [.tup (ns.map T.int)]) := by
  unfold sortO2
  simp only [ints?_map, Option.map_some]
theorem o_sort2l (o : Bool) (ns : List Int) : sortO2 [.lst o (ns.map T.int)] = some (.lst true ((sortI ns).map T.int), [.lst o (ns.map T.int)]) := by
  unfold sortO2
  simp only [ints?_map, Option.map_some]
theorem flatten_rep1 {α : Type} (x : α) : ∀ n : Nat, (List.replicate n [x]).flatten = List.replicate n x
  | 0 => rfl
  | n + 1 => by rw [List.replicate_succ, List.flatten_cons, flatten_rep1 x n]; rfl
theorem greatestI_mem {ns : List Int} (h : 0 < ns.length) : greatestI ns ∈ ns := by
  cases ns with
  | nil => simp at h
  | cons x xs => exact (greatestI_spec x xs).1
theorem le_greatestI {ns : List Int} {y : Int} (h : y ∈ ns) : y ≤ greatestI ns := by
  cases ns with
  | nil => cases h
  | cons x xs => exact (greatestI_spec x xs).2 y h
theorem enum_map {α : Type} (q : α → T) (xs : List α) : enumT (xs.map q) = xs.zipIdx.map fun x => T.tup [.int x.2, q x.1] := by
  unfold enumT
  rw [List.zipIdx_map, List.map_map]
  rfl

/-! ### tuple(range(..)), list(range(..)) -/
instance (i j : Int) : Decidable (RgOk i j) := by unfold RgOk; exact inferInstance
theorem rg_pair {K : PySem.W.Frag} {mg : Str → Option Value} {F : Hp} (a b : Int) : Paired (Rep K mg F) (rgV a b) (rangeT a (b - a).toNat) := by
  unfold rgV rangeT
  induction List.range (b - a).toNat with
  | nil => exact .nil
  | cons x xs ih => exact .cons (.int _) ih
def rgT2O : Op := kidO fun ts => match ts with
  | [.int i, .int j] => if RgOk i j then some (.tup (rangeT i (j - i).toNat), ts) else none
  | _ => none
def rgT1O : Op := kidO fun ts => match ts with
  | [.int j] => if RgOk 0 j then some (.tup (rangeT 0 (j - 0).toNat), ts) else none
  | _ => none
def rgL2O : Op := kidO fun ts => match ts with
  | [.int i, .int j] => if RgOk i j then some (.lst true (rangeT i (j - i).toNat), ts) else none
  | _ => none
def rgL1O : Op := kidO fun ts => match ts with
  | [.int j] => if RgOk 0 j then some (.lst true (rangeT 0 (j - 0).toNat), ts) else none
  | _ => none
section
variable {X : Cx} {W : XW} {pos : Pos} {a b : Expr} {ka kb : AK}
theorem rgT2O_ok : OpS X.K X.mg rgT2O fun vs H Q => ∃ i j, vs = [.int i, .int j] ∧ RgOk i j ∧ ∀ q, H q = none → Q (.ref q) (upd H q (.tup (rgV i j))) := OpS.kid fun F H vs ts B t ts' s g o e Q k => by
  split at e
  · rename_i i j
    obtain ⟨v, w, rfl, o1, o2⟩ := o.two
    have e1 := o1.own.int_inv
    have e2 := o2.own.int_inv
    subst e1 e2
    split at e
    · rename_i hc
      cases e
      exact ⟨i, j, rfl, hc, fun p hn => fin_tup s g o.own (rg_pair i j) hn k⟩
    · cases e
  · cases e
theorem rgT1O_ok : OpS X.K X.mg rgT1O fun vs H Q => ∃ j, vs = [.int j] ∧ RgOk 0 j ∧ ∀ q, H q = none → Q (.ref q) (upd H q (.tup (rgV 0 j))) := OpS.kid fun F H vs ts B t ts' s g o e Q k => by
  split at e
  · rename_i j
    obtain ⟨v, rfl, o1⟩ := o.one
    have e1 := o1.own.int_inv
    subst e1
    split at e
    · rename_i hc
      cases e
      exact ⟨j, rfl, hc, fun p hn => fin_tup s g o.own (rg_pair 0 j) hn k⟩
    · cases e
  · cases e
theorem rgL2O_ok : OpS X.K X.mg rgL2O fun vs H Q => ∃ i j, vs = [.int i, .int j] ∧ RgOk i j ∧ ∀ q, H q = none → Q (.ref q) (upd H q (.lst (rgV i j))) := OpS.kid fun F H vs ts B t ts' s g o e Q k => by
  split at e
  · rename_i i j
    obtain ⟨v, w, rfl, o1, o2⟩ := o.two
    have e1 := o1.own.int_inv
    have e2 := o2.own.int_inv
    subst e1 e2
    split at e
    · rename_i hc
      cases e
      exact ⟨i, j, rfl, hc, fun p hn => fin_lst s g o.own (rg_pair i j) hn k⟩
    · cases e
  · cases e
theorem rgL1O_ok : OpS X.K X.mg rgL1O fun vs H Q => ∃ j, vs = [.int j] ∧ RgOk 0 j ∧ ∀ q, H q = none → Q (.ref q) (upd H q (.lst (rgV 0 j))) := OpS.kid fun F H vs ts B t ts' s g o e Q k => by
  split at e
  · rename_i j
    obtain ⟨v, rfl, o1⟩ := o.one
    have e1 := o1.own.int_inv
    subst e1
    split at e
    · rename_i hc
      cases e
      exact ⟨j, rfl, hc, fun p hn => fin_lst s g o.own (rg_pair 0 j) hn k⟩
    · cases e
  · cases e
variable {p p2 p3 : Pos}
theorem ev_tupRg2 (hc : X.calm = true) (hg : Gl X "tuple") (hm : X.mg "tuple" = none) (hg2 : Gl X "range") (hm2 : X.mg "range" = none) (ha : EK X W a ka) (hb : EK X W b kb) (na : starEach [a, b] X.env = (false, eval a X.env) :: starEach [b] X.env := by rfl) (nb : starEach [b] X.env = (false, eval b X.env) :: starEach [] X.env := by rfl) (hp : (backTo p3 (starEach [b] X.env)).any (·.1) = false := by rfl) : EE X W (.Call (.Name "tuple" p) [.Call (.Name "range" p2) [a, b] [] p3] [] pos) (eOp [ka, kb] rgT2O) :=
  PE.imp (pe_tupRg hc hg hm (prg_2 hg2 hm2 ha hb na nb hp)) fun σ H Q q => tK_mono (args2 (op_run rgT2O_ok q)) fun v H1 h1 => tK_mono h1 fun w H2 h2 => by
    obtain ⟨i, j, e, h3⟩ := h2
    cases e
    exact ⟨i, j, rfl, rfl, h3⟩
theorem ev_tupRg1 (hc : X.calm = true) (hg : Gl X "tuple") (hm : X.mg "tuple" = none) (hg2 : Gl X "range") (hm2 : X.mg "range" = none) (ha : EK X W a ka) (na : starEach [a] X.env = (false, eval a X.env) :: starEach [] X.env := by rfl) : EE X W (.Call (.Name "tuple" p) [.Call (.Name "range" p2) [a] [] p3] [] pos) (eOp [ka] rgT1O) :=
  PE.imp (pe_tupRg hc hg hm (prg_1 hg2 hm2 ha na)) fun σ H Q q => tK_mono (args1 (op_run rgT1O_ok q)) fun v H1 h1 => by
    obtain ⟨j, e, h3⟩ := h1
    cases e
    exact ⟨j, rfl, h3⟩
theorem ev_listRg2 (hc : X.calm = true) (hg : Gl X "list") (hm : X.mg "list" = none) (hg2 : Gl X "range") (hm2 : X.mg "range" = none) (ha : EK X W a ka) (hb : EK X W b kb) (na : starEach [a, b] X.env = (false, eval a X.env) :: starEach [b] X.env := by rfl) (nb : starEach [b] X.env = (false, eval b X.env) :: starEach [] X.env := by rfl) (hp : (backTo p3 (starEach [b] X.env)).any (·.1) = false := by rfl) : EE X W (.Call (.Name "list" p) [.Call (.Name "range" p2) [a, b] [] p3] [] pos) (eOp [ka, kb] rgL2O) :=
  PE.imp (pe_listRg hc hg hm (prg_2 hg2 hm2 ha hb na nb hp)) fun σ H Q q => tK_mono (args2 (op_run rgL2O_ok q)) fun v H1 h1 => tK_mono h1 fun w H2 h2 => by
    obtain ⟨i, j, e, h3⟩ := h2
    cases e
    exact ⟨i, j, rfl, rfl, h3⟩
theorem ev_listRg1 (hc : X.calm = true) (hg : Gl X "list") (hm : X.mg "list" = none) (hg2 : Gl X "range") (hm2 : X.mg "range" = none) (ha : EK X W a ka) (na : starEach [a] X.env = (false, eval a X.env) :: starEach [] X.env := by rfl) : EE X W (.Call (.Name "list" p) [.Call (.Name "range" p2) [a] [] p3] [] pos) (eOp [ka] rgL1O) :=
  PE.imp (pe_listRg hc hg hm (prg_1 hg2 hm2 ha na)) fun σ H Q q => tK_mono (args1 (op_run rgL1O_ok q)) fun v H1 h1 => by
    obtain ⟨j, e, h3⟩ := h1
    cases e
    exact ⟨j, rfl, h3⟩
end
theorem o_rgT2 {i j : Int} {n : Nat} (h : RgOk i j) (hn : (j - i).toNat = n) : rgT2O [.int i, .int j] = some (.tup (rangeT i n), [.int i, .int j]) := by
  subst hn
  show (if RgOk i j then some (T.tup (rangeT i (j - i).toNat), _) else none) = _
  rw [if_pos h]
  rfl
theorem ok_refl {α : Type} {a : α} {η : Env} : (Res.ok a η : Res α) = Res.ok a η := rfl
theorem o_s11m {α : Type} {f : α → T} [FrzC f] {o : Bool} {xs : List α} {a b : Int} {j k : Nat} (h : 0 ≤ a) (h2 : 0 ≤ b) (hj : a.toNat = j) (hk : b.toNat - a.toNat = k) : sl11 [.lst o (xs.map f), .int a, .int b] = some (.lst true (((xs.drop j).take k).map f), [.lst o (xs.map f), .int a, .int b]) := by
  subst hk hj
  show (match [(T.lst o (xs.map f)).kid, .int a, .int b] with | [x, .int i, .int j] => cutO x (some i) (some j) _ | _ => none) = _
  rw [kid_lst, frzIf_cls]
  show some (T.lst true (cutL (xs.map f) (some a) (some b)), [(T.lst o (xs.map f)).kid, .int a, .int b]) = _
  rw [cutL_mid _ h h2, kid_lst, frzIf_cls, List.map_take, List.map_drop]
theorem o_s11tm {α : Type} {f : α → T} {xs : List α} {a b : Int} {j k : Nat} (h : 0 ≤ a) (h2 : 0 ≤ b) (hj : a.toNat = j) (hk : b.toNat - a.toNat = k) : sl11 [.tup (xs.map f), .int a, .int b] = some (.tup (((xs.drop j).take k).map f), [.tup (xs.map f), .int a, .int b]) := by
  subst hk hj
  rw [o_s11t _ h h2, List.map_take, List.map_drop]
theorem o_min2 (a b : Int) : min2O [.int a, .int b] = some (.int (if b < a then b else a), [.int a, .int b]) := rfl
theorem o_max2i (a b : Int) : max2O [.int a, .int b] = some (.int (if b > a then b else a), [.int a, .int b]) := rfl
theorem o_setIx {y : T} {xs : List T} {i : Int} {j : Nat} (h : 0 ≤ i) (hj : i.toNat = j) (hl : j < xs.length) : setIxO y (.lst true xs) (.int i) = some (.lst true (xs.set j y)) := by
  subst hj
  show (ixN xs.length i).map _ = _
  rw [ixN_nat _ _ h (by omega)]; rfl
theorem eq_ll (o o' : Bool) (xs : List Int) : eqO true [.lst o (xs.map .int), .lst o' (xs.map .int)] = some (.bl false, [.lst o (xs.map .int), .lst o' (xs.map .int)]) := eq_dat (u := .lst o' (xs.map .int)) (pl_lints o xs) (by decide) rfl true
theorem eq_llF (o o' : Bool) (xs : List Int) : eqO false [.lst o (xs.map .int), .lst o' (xs.map .int)] = some (.bl true, [.lst o (xs.map .int), .lst o' (xs.map .int)]) := eq_dat (u := .lst o' (xs.map .int)) (pl_lints o xs) (by decide) rfl false
theorem ix_5 (a b c d e : Int) {r lo hi : Int} (h0 : 0 ≤ r) (h1 : r < 5) (ha : lo ≤ a ∧ a ≤ hi) (hb : lo ≤ b ∧ b ≤ hi) (hc : lo ≤ c ∧ c ≤ hi) (hd : lo ≤ d ∧ d ≤ hi) (he : lo ≤ e ∧ e ≤ hi) : ∃ v, ixO [.lst true [.int a, .int b, .int c, .int d, .int e], .int r] = some (.int v, [.lst true [.int a, .int b, .int c, .int d, .int e], .int r]) ∧ lo ≤ v ∧ v ≤ hi := by
  obtain rfl | rfl | rfl | rfl | rfl : r = 0 ∨ r = 1 ∨ r = 2 ∨ r = 3 ∨ r = 4 := by omega
  · exact ⟨a, rfl, ha⟩
  · exact ⟨b, rfl, hb⟩
  · exact ⟨c, rfl, hc⟩
  · exact ⟨d, rfl, hd⟩
  · exact ⟨e, rfl, he⟩
theorem sum_bd {c : Int} : ∀ {xs : List Int}, (∀ x ∈ xs, 0 ≤ x ∧ x ≤ c) → 0 ≤ xs.sum ∧ xs.sum ≤ c * xs.length
  | [], _ => by simp
  | x :: xs, h => by
    have h1 := h x List.mem_cons_self
    have h2 := sum_bd (xs := xs) fun y hy => h y (List.mem_cons_of_mem _ hy)
    rw [List.sum_cons, List.length_cons]
    have : c * ((xs.length + 1 : Nat) : Int) = c * xs.length + c := by
      rw [Int.natCast_add, Int.mul_add]; simp
    omega
theorem r_make {c : Str} {f : Fn} {ks : List AK} {η η1 η2 : Env} {as : List (Sum Nat T)} {ts : List T} {t : T} (h : argsF ks η = .ok as η1) (h2 : resolve as η1 = some (ts, η2)) (h3 : f (.ins true c [] [] :: ts) = .ok .non [t]) : eMake c f ks η = .ok t η2 := by
  unfold eMake
  rw [h]
  simp only [Res.bind, h2, h3]
theorem ix_sel (a b : Int) (p : Prop) [Decidable p] : ∃ v, ixO [.lst true [.int a, .int b], .int (if decide p = true then 1 else 0)] = some (.int v, [.lst true [.int a, .int b], .int (if decide p = true then 1 else 0)]) ∧ (v = a ∨ v = b) := by
  by_cases h : p
  · rw [decide_eq_true h]; exact ⟨b, rfl, .inr rfl⟩
  · rw [decide_eq_false h]; exact ⟨a, rfl, .inl rfl⟩

end Jo
namespace L2
open PySem PySem.Spec PyProof.Rows
/-! ### zip of a tuple and a list -/
def ItzM (K : PySem.W.Frag) (a b : Addr) : It :=
  ⟨fun i H => ∃ (xs ys : List V) (x y : V), SqT K H a xs ∧ SqL K H b ys ∧ xs[i]? = some x ∧ ys[i]? = some y,
    fun i H v H' => ∃ T x y, v = .ref T ∧ H T = none ∧ H' = upd H T (.tup [x, y]) ∧ (∀ xs, SqT K H a xs → xs[i]? = some x) ∧ ∀ ys, SqL K H b ys → ys[i]? = some y,
    fun i H => ∃ xs ys : List V, SqT K H a xs ∧ SqL K H b ys ∧ i ≤ xs.length ∧ i ≤ ys.length ∧ (i = xs.length ∨ i = ys.length)⟩
def ItzN (K : PySem.W.Frag) (a b : Addr) : It :=
  ⟨fun i H => ∃ (xs ys : List V) (x y : V), SqL K H a xs ∧ SqT K H b ys ∧ xs[i]? = some x ∧ ys[i]? = some y,
    fun i H v H' => ∃ T x y, v = .ref T ∧ H T = none ∧ H' = upd H T (.tup [x, y]) ∧ (∀ xs, SqL K H a xs → xs[i]? = some x) ∧ ∀ ys, SqT K H b ys → ys[i]? = some y,
    fun i H => ∃ xs ys : List V, SqL K H a xs ∧ SqT K H b ys ∧ i ≤ xs.length ∧ i ≤ ys.length ∧ (i = xs.length ∨ i = ys.length)⟩
theorem jo_zsep {z TI TO i1 i2 a b : Addr} (D : ZipApart z TI TO i1 i2 a b) : ZipSep2 z TI TO i1 i2 [i1, a] [i2, b] where
  TIz := D.TIz
  TOz := D.TOz
  TITO := D.TITO
  TIi1 := D.TIi1
  mem1 := by simp
  zf1 := by simp [Ne.symm D.i1z, Ne.symm D.l1z]
  Tf1 := by simp [D.TOi1, Ne.symm D.l1TO]
  TIi2 := D.TIi2
  mem2 := by simp
  zf2 := by simp [Ne.symm D.i2z, Ne.symm D.l2z]
  Tf2 := by simp [D.TOi2, Ne.symm D.l2TO]
  sep1_2 := by simp [D.i12, Ne.symm D.l2i1]
  sep2_1 := by simp [Ne.symm D.i12, Ne.symm D.l1i2]
theorem turn_zipM {P : Program} {w : World} {K : PySem.W.Frag} {elts : List Expr} {kk : Nat} {tpos : Pos} {a b z TI TO i1 i2 : Addr} (D : ZipApart z TI TO i1 i2 a b) :
    Turn P w K (.Tuple elts kk tpos) (ItzM K a b) [z, TI, TO, i1, i2] z (fun i h => IsZip h z TI TO .none ∧ IsPair h TI (.ref i1) (.ref i2) ∧ (∃ x y, IsPair h TO x y) ∧ h.IsTupleIter i1 a i ∧ h.IsListIter i2 b i) where
  mem := by simp
  obj := fun i h st c hc => by
    obtain ⟨hz, hTI, ⟨x, y, hTO⟩, ⟨o1, e1, _, d1⟩, ⟨o2, e2, _, d2⟩⟩ := st
    have e' : c = z ∨ c = TI ∨ c = TO ∨ c = i1 ∨ c = i2 := by simpa using hc
    rcases e' with q | q | q | q | q
    · rw [q]; exact ⟨_, hz, fun v q => nomatch q⟩
    · rw [q]; exact ⟨_, hTI, fun v q => nomatch q⟩
    · rw [q]; exact ⟨_, hTO, fun v q => nomatch q⟩
    · rw [q]; exact ⟨o1, e1, fun v q => by rw [d1] at q; cases q⟩
    · rw [q]; exact ⟨o2, e2, fun v q => by rw [d2] at q; cases q⟩
  keep := fun i h h' st k => by
    obtain ⟨hz, hTI, ⟨x, y, hTO⟩, h1, h2⟩ := st
    exact ⟨k z (by simp) _ hz, k TI (by simp) _ hTI, ⟨x, y, k TO (by simp) _ hTO⟩, h1.at fun o q => k i1 (by simp) o q, h2.at fun o q => k i2 (by simp) o q⟩
  item := by
    intro X hP hw hK hc i pins s σ H E I hf st hg
    subst hP hw hK
    obtain ⟨hz, hTI, ⟨x0, y0, hTO⟩, h1, h2⟩ := st
    obtain ⟨xs, ys, x, y, hqx, hqy, hx, hy⟩ := hg
    obtain ⟨its, rv, p, _⟩ := I.tuple hqx
    obtain ⟨its2, rv2, p2, _⟩ := I.list hqy
    obtain ⟨u, hu, ru⟩ := rv.get hx
    obtain ⟨u2, hu2, ru2⟩ := rv2.get hy
    have hzl : z < s.heap.objs.size := Heap.lt_size hz
    have hh : X.A.in1.handled = none := I.ok.hd hc
    have D1 : Draws X.prog X.w X.A.in1 i1 [i1, a] its.toArray.size (fun i v => its.toArray[i]? = some v) (fun i h => h.IsTupleIter i1 a i ∧ h.IsTuple a its.toArray) := Draws.tuple hh i1 a D.l1i1 its.toArray
    have D2 : Draws X.prog X.w X.A.in1 i2 [i2, b] its2.toArray.size (fun i v => its2.toArray[i]? = some v) (fun i h => h.IsListIter i2 b i ∧ h.IsList b its2.toArray) := Draws.list hh i2 b D.l2i2 its2.toArray
    have lt1 : i < its.toArray.size := by rw [List.size_toArray]; exact (List.getElem?_eq_some_iff.mp hu).1
    have lt2 : i < its2.toArray.size := by rw [List.size_toArray]; exact (List.getElem?_eq_some_iff.mp hu2).1
    refine wpAny_pyNext_zipD2_item (jo_zsep D) D1 D2 hz hTI hTO ⟨h1, p⟩ ⟨h2, p2.isList⟩ lt1 lt2 fun w1 w2 h' tk y1 y2 z' TO' st1 st2 hT hsz hk => ?_
    have ew1 : w1 = u := by
      have : its.toArray[i]? = some u := by simpa using hu
      rw [this] at y1; exact (Option.some.inj y1).symm
    have ew2 : w2 = u2 := by
      have : its2.toArray[i]? = some u2 := by simpa using hu2
      rw [this] at y2; exact (Option.some.inj y2).symm
    subst ew1 ew2
    obtain ⟨h1', _⟩ := st1
    obtain ⟨h2', _⟩ := st2
    refine ⟨_, rfl, wpAny_letOwnedTupleGo_zip (s := { s with heap := h', toks := tk }) z' fun h'' z'' sb => ?_⟩
    have hT2 : h''.get? s.heap.objs.size = some { cls := .type "tuple", data := .seq #[w1, w2] } := (sb.2 _ (Nat.ne_of_gt hzl)).trans hT
    have new : ObjOk X.prog X.w (upd H s.heap.objs.size (.tup [x, y])) h'' s.heap.objs.size (.tup [x, y]) :=
      ⟨by show 2 ≤ sizeLine; decide, [w1, w2], .cons ru (.cons ru2 .nil), ⟨_, hT2, rfl, _, rfl⟩⟩
    have I1 : Inv X pins σ (upd H s.heap.objs.size (.tup [x, y])) { s with heap := h'', toks := tk } :=
      I.turnedNew (ch := [z, TI, TO, i1, i2]) (fun c o hb q => (sb.2 c (fun q' => hb (by simp [q']))).trans (hk c o (fun q' => hb (by simp [q'])) (fun q' => hb (by simp [q'])) (fun q' => hb (by simp [q'])) (fun q' => hb (by simp [q'])) q)) hf (Nat.le_refl _) new
    refine ⟨.ref s.heap.objs.size, _, I1, rfl, ⟨_, x, y, rfl, I.hok.fresh (Nat.le_refl _), rfl, fun l hl => by rw [I.tuple_inj hl hqx]; exact hx, fun l hl => by rw [I.list_inj hl hqy]; exact hy⟩, ⟨z'', ?_, ⟨w1, w2, ?_⟩, ?_, ?_⟩, fun c hcm => ?_⟩
    · exact (sb.2 _ D.TIz).trans (hk _ _ D.TIz D.TITO D.TIi1 D.TIi2 hTI)
    · exact (sb.2 _ D.TOz).trans TO'
    · exact h1'.at fun o q => (sb.2 _ D.i1z).trans q
    · exact h2'.at fun o q => (sb.2 _ D.i2z).trans q
    · have hlt : c < s.heap.objs.size := by
        have e' : c = z ∨ c = TI ∨ c = TO ∨ c = i1 ∨ c = i2 := by simpa using hcm
        rcases e' with q | q | q | q | q
        · rw [q]; exact hzl
        · rw [q]; exact Heap.lt_size hTI
        · rw [q]; exact Heap.lt_size hTO
        · rw [q]; obtain ⟨_, e1, _⟩ := h1; exact Heap.lt_size e1
        · rw [q]; obtain ⟨_, e2, _⟩ := h2; exact Heap.lt_size e2
      rw [upd_ne (Nat.ne_of_lt hlt)]
      exact (hf c hcm).1
  done := by
    intro X hP hw hK hc i pins s σ H E I hf st hg
    subst hP hw hK
    obtain ⟨hz, hTI, ⟨x0, y0, hTO⟩, h1, h2⟩ := st
    obtain ⟨xs, ys, hqx, hqy, hle1, hle2, hend⟩ := hg
    obtain ⟨its, rv, p, _⟩ := I.tuple hqx
    obtain ⟨its2, rv2, p2, _⟩ := I.list hqy
    have l1 : its.length = xs.length := rv.length.symm
    have l2 : its2.length = ys.length := rv2.length.symm
    have hh : X.A.in1.handled = none := I.ok.hd hc
    have D1 : Draws X.prog X.w X.A.in1 i1 [i1, a] its.toArray.size (fun i v => its.toArray[i]? = some v) (fun i h => h.IsTupleIter i1 a i ∧ h.IsTuple a its.toArray) := Draws.tuple hh i1 a D.l1i1 its.toArray
    have D2 : Draws X.prog X.w X.A.in1 i2 [i2, b] its2.toArray.size (fun i v => its2.toArray[i]? = some v) (fun i h => h.IsListIter i2 b i ∧ h.IsList b its2.toArray) := Draws.list hh i2 b D.l2i2 its2.toArray
    exact wpAny_pyNext_zipD2_end (jo_zsep D) D1 D2 hz hTI hTO ⟨h1, p⟩ ⟨h2, p2.isList⟩ (by rw [List.size_toArray]; omega) (by rw [List.size_toArray]; omega) (by rw [List.size_toArray, List.size_toArray]; omega) fun h' tk hk => ⟨rfl, I.turnedL (t' := tk) (ch := [z, TI, TO, i1, i2]) (fun c o hb q =>
      hk c o (fun q' => hb (by simp [q'])) (fun q' => hb (by simp [q'])) (fun q' => hb (by simp [q'])) (fun q' => hb (by simp [q'])) q) hf⟩
  self := fun A i s Q E st h => wpAny_pyIter_zip st.1 h
theorem turn_zipN {P : Program} {w : World} {K : PySem.W.Frag} {elts : List Expr} {kk : Nat} {tpos : Pos} {a b z TI TO i1 i2 : Addr} (D : ZipApart z TI TO i1 i2 a b) :
    Turn P w K (.Tuple elts kk tpos) (ItzN K a b) [z, TI, TO, i1, i2] z (fun i h => IsZip h z TI TO .none ∧ IsPair h TI (.ref i1) (.ref i2) ∧ (∃ x y, IsPair h TO x y) ∧ h.IsListIter i1 a i ∧ h.IsTupleIter i2 b i) where
  mem := by simp
  obj := fun i h st c hc => by
    obtain ⟨hz, hTI, ⟨x, y, hTO⟩, ⟨o1, e1, _, d1⟩, ⟨o2, e2, _, d2⟩⟩ := st
    have e' : c = z ∨ c = TI ∨ c = TO ∨ c = i1 ∨ c = i2 := by simpa using hc
    rcases e' with q | q | q | q | q
    · rw [q]; exact ⟨_, hz, fun v q => nomatch q⟩
    · rw [q]; exact ⟨_, hTI, fun v q => nomatch q⟩
    · rw [q]; exact ⟨_, hTO, fun v q => nomatch q⟩
    · rw [q]; exact ⟨o1, e1, fun v q => by rw [d1] at q; cases q⟩
    · rw [q]; exact ⟨o2, e2, fun v q => by rw [d2] at q; cases q⟩
  keep := fun i h h' st k => by
    obtain ⟨hz, hTI, ⟨x, y, hTO⟩, h1, h2⟩ := st
    exact ⟨k z (by simp) _ hz, k TI (by simp) _ hTI, ⟨x, y, k TO (by simp) _ hTO⟩, h1.at fun o q => k i1 (by simp) o q, h2.at fun o q => k i2 (by simp) o q⟩
  item := by
    intro X hP hw hK hc i pins s σ H E I hf st hg
    subst hP hw hK
    obtain ⟨hz, hTI, ⟨x0, y0, hTO⟩, h1, h2⟩ := st
    obtain ⟨xs, ys, x, y, hqx, hqy, hx, hy⟩ := hg
    obtain ⟨its, rv, p, _⟩ := I.list hqx
    obtain ⟨its2, rv2, p2, _⟩ := I.tuple hqy
    obtain ⟨u, hu, ru⟩ := rv.get hx
    obtain ⟨u2, hu2, ru2⟩ := rv2.get hy
    have hzl : z < s.heap.objs.size := Heap.lt_size hz
    have hh : X.A.in1.handled = none := I.ok.hd hc
    have D1 : Draws X.prog X.w X.A.in1 i1 [i1, a] its.toArray.size (fun i v => its.toArray[i]? = some v) (fun i h => h.IsListIter i1 a i ∧ h.IsList a its.toArray) := Draws.list hh i1 a D.l1i1 its.toArray
    have D2 : Draws X.prog X.w X.A.in1 i2 [i2, b] its2.toArray.size (fun i v => its2.toArray[i]? = some v) (fun i h => h.IsTupleIter i2 b i ∧ h.IsTuple b its2.toArray) := Draws.tuple hh i2 b D.l2i2 its2.toArray
    have lt1 : i < its.toArray.size := by rw [List.size_toArray]; exact (List.getElem?_eq_some_iff.mp hu).1
    have lt2 : i < its2.toArray.size := by rw [List.size_toArray]; exact (List.getElem?_eq_some_iff.mp hu2).1
    refine wpAny_pyNext_zipD2_item (jo_zsep D) D1 D2 hz hTI hTO ⟨h1, p.isList⟩ ⟨h2, p2⟩ lt1 lt2 fun w1 w2 h' tk y1 y2 z' TO' st1 st2 hT hsz hk => ?_
    have ew1 : w1 = u := by
      have : its.toArray[i]? = some u := by simpa using hu
      rw [this] at y1; exact (Option.some.inj y1).symm
    have ew2 : w2 = u2 := by
      have : its2.toArray[i]? = some u2 := by simpa using hu2
      rw [this] at y2; exact (Option.some.inj y2).symm
    subst ew1 ew2
    obtain ⟨h1', _⟩ := st1
    obtain ⟨h2', _⟩ := st2
    refine ⟨_, rfl, wpAny_letOwnedTupleGo_zip (s := { s with heap := h', toks := tk }) z' fun h'' z'' sb => ?_⟩
    have hT2 : h''.get? s.heap.objs.size = some { cls := .type "tuple", data := .seq #[w1, w2] } := (sb.2 _ (Nat.ne_of_gt hzl)).trans hT
    have new : ObjOk X.prog X.w (upd H s.heap.objs.size (.tup [x, y])) h'' s.heap.objs.size (.tup [x, y]) :=
      ⟨by show 2 ≤ sizeLine; decide, [w1, w2], .cons ru (.cons ru2 .nil), ⟨_, hT2, rfl, _, rfl⟩⟩
    have I1 : Inv X pins σ (upd H s.heap.objs.size (.tup [x, y])) { s with heap := h'', toks := tk } :=
      I.turnedNew (ch := [z, TI, TO, i1, i2]) (fun c o hb q => (sb.2 c (fun q' => hb (by simp [q']))).trans (hk c o (fun q' => hb (by simp [q'])) (fun q' => hb (by simp [q'])) (fun q' => hb (by simp [q'])) (fun q' => hb (by simp [q'])) q)) hf (Nat.le_refl _) new
    refine ⟨.ref s.heap.objs.size, _, I1, rfl, ⟨_, x, y, rfl, I.hok.fresh (Nat.le_refl _), rfl, fun l hl => by rw [I.list_inj hl hqx]; exact hx, fun l hl => by rw [I.tuple_inj hl hqy]; exact hy⟩, ⟨z'', ?_, ⟨w1, w2, ?_⟩, ?_, ?_⟩, fun c hcm => ?_⟩
    · exact (sb.2 _ D.TIz).trans (hk _ _ D.TIz D.TITO D.TIi1 D.TIi2 hTI)
    · exact (sb.2 _ D.TOz).trans TO'
    · exact h1'.at fun o q => (sb.2 _ D.i1z).trans q
    · exact h2'.at fun o q => (sb.2 _ D.i2z).trans q
    · have hlt : c < s.heap.objs.size := by
        have e' : c = z ∨ c = TI ∨ c = TO ∨ c = i1 ∨ c = i2 := by simpa using hcm
        rcases e' with q | q | q | q | q
        · rw [q]; exact hzl
        · rw [q]; exact Heap.lt_size hTI
        · rw [q]; exact Heap.lt_size hTO
        · rw [q]; obtain ⟨_, e1, _⟩ := h1; exact Heap.lt_size e1
        · rw [q]; obtain ⟨_, e2, _⟩ := h2; exact Heap.lt_size e2
      rw [upd_ne (Nat.ne_of_lt hlt)]
      exact (hf c hcm).1
  done := by
    intro X hP hw hK hc i pins s σ H E I hf st hg
    subst hP hw hK
    obtain ⟨hz, hTI, ⟨x0, y0, hTO⟩, h1, h2⟩ := st
    obtain ⟨xs, ys, hqx, hqy, hle1, hle2, hend⟩ := hg
    obtain ⟨its, rv, p, _⟩ := I.list hqx
    obtain ⟨its2, rv2, p2, _⟩ := I.tuple hqy
    have l1 : its.length = xs.length := rv.length.symm
    have l2 : its2.length = ys.length := rv2.length.symm
    have hh : X.A.in1.handled = none := I.ok.hd hc
    have D1 : Draws X.prog X.w X.A.in1 i1 [i1, a] its.toArray.size (fun i v => its.toArray[i]? = some v) (fun i h => h.IsListIter i1 a i ∧ h.IsList a its.toArray) := Draws.list hh i1 a D.l1i1 its.toArray
    have D2 : Draws X.prog X.w X.A.in1 i2 [i2, b] its2.toArray.size (fun i v => its2.toArray[i]? = some v) (fun i h => h.IsTupleIter i2 b i ∧ h.IsTuple b its2.toArray) := Draws.tuple hh i2 b D.l2i2 its2.toArray
    exact wpAny_pyNext_zipD2_end (jo_zsep D) D1 D2 hz hTI hTO ⟨h1, p.isList⟩ ⟨h2, p2⟩ (by rw [List.size_toArray]; omega) (by rw [List.size_toArray]; omega) (by rw [List.size_toArray, List.size_toArray]; omega) fun h' tk hk => ⟨rfl, I.turnedL (t' := tk) (ch := [z, TI, TO, i1, i2]) (fun c o hb q =>
      hk c o (fun q' => hb (by simp [q'])) (fun q' => hb (by simp [q'])) (fun q' => hb (by simp [q'])) (fun q' => hb (by simp [q'])) q) hf⟩
  self := fun A i s Q E st h => wpAny_pyIter_zip st.1 h
def iZip3 (K : PySem.W.Frag) (ta : TA) : TI := fun σ H R => ta σ H fun vs H1 => ∃ a b xs ys, vs = [.ref a, .ref b] ∧ ((SqL K H1 a xs ∧ SqL K H1 b ys ∧ R (Itz K a b) H1) ∨ (SqT K H1 a xs ∧ SqT K H1 b ys ∧ R (RZ.ItzT K a b) H1) ∨ (SqT K H1 a xs ∧ SqL K H1 b ys ∧ R (ItzM K a b) H1) ∨ (SqL K H1 a xs ∧ SqT K H1 b ys ∧ R (ItzN K a b) H1))
theorem pi_zip3 {X : Cx} {e e2 : Expr} {ta : TA} {p pos tpos : Pos} {elts : List Expr} {kk : Nat} (hg : Gl X "zip") (hm : X.mg "zip" = none) (ha : PA X [e, e2] ta)
    (hs : starEach [e, e2] X.env = (false, eval e X.env) :: starEach [e2] X.env := by rfl) (hpl : (backTo pos (starEach [e2] X.env)).any (·.1) = false := by rfl) :
    PI X (.Tuple elts kk tpos) (.Call (.Name "zip" p) [e, e2] [] pos) (iZip3 X.K ta) := by
  refine ⟨fun pins s σ H R I h => ?_⟩
  refine Call_ (ld_blt I hg hm PyProof.Rows.boot_zip (PyProof.Rows.callWith_type1 (thn (ha.run pos pins s σ H _ I h) fun us s1 ⟨vs, H1, I1, r1, q1⟩ => ?_) hs hpl))
  obtain ⟨a, b, xs, ys, ex, q1⟩ := q1
  subst ex
  cases r1 with
  | cons r rr =>
    cases rr with
    | cons r' rr =>
      cases rr
      cases r
      cases r'
      have fresh5 : ∀ c, c ∈ [s1.heap.objs.size + 4, s1.heap.objs.size + 2, s1.heap.objs.size + 3, s1.heap.objs.size, s1.heap.objs.size + 1] → FpOk X pins H1 c := fun c hcm => by
        have e' : c = s1.heap.objs.size + 4 ∨ c = s1.heap.objs.size + 2 ∨ c = s1.heap.objs.size + 3 ∨ c = s1.heap.objs.size ∨ c = s1.heap.objs.size + 1 := by simpa using hcm
        have hle : s1.heap.objs.size ≤ c := by
          rcases e' with z | z | z | z | z
          · rw [z]; exact Nat.le_add_right _ _
          · rw [z]; exact Nat.le_add_right _ _
          · rw [z]; exact Nat.le_add_right _ _
          · rw [z]; exact Nat.le_refl _
          · rw [z]; exact Nat.le_add_right _ _
        exact I1.fpOk hle (I1.hok.fresh hle)
      rcases q1 with ⟨hqx, hqy, q⟩ | ⟨hqx, hqy, q⟩ | ⟨hqx, hqy, q⟩ | ⟨hqx, hqy, q⟩
      · obtain ⟨its, rv, p1, _⟩ := I1.list hqx
        obtain ⟨its2, rv2, p2, _⟩ := I1.list hqy
        refine call_zip_2 p1.isList p2.isList fun h' hz hTI hTO h1 h2 hsz hk => wpAny_pyIter_zip hz ?_
        have I2 : Inv X pins σ H1 { s1 with heap := h' } := I1.kept (t' := s1.toks) hk
        exact ⟨s1.heap.objs.size + 4, [s1.heap.objs.size + 4, s1.heap.objs.size + 2, s1.heap.objs.size + 3, s1.heap.objs.size, s1.heap.objs.size + 1], _, _, H1, rfl, I2, turn_zip (PySem.W.ktu_apart s1.heap.objs.size a b p1.lt p2.lt), ⟨hz, hTI, ⟨_, _, hTO⟩, h1, h2⟩, fresh5, q⟩
      · obtain ⟨its, rv, p1, _⟩ := I1.tuple hqx
        obtain ⟨its2, rv2, p2, _⟩ := I1.tuple hqy
        obtain ⟨o1, ho1, _⟩ := id p1
        obtain ⟨o2, ho2, _⟩ := id p2
        refine RZ.call_zipT (show s1.heap.IsTuple a its.toArray from p1) (show s1.heap.IsTuple b its2.toArray from p2) fun h' hz hTI hTO h1 h2 hsz hk => wpAny_pyIter_zip hz ?_
        have I2 : Inv X pins σ H1 { s1 with heap := h' } := I1.kept (t' := s1.toks) hk
        exact ⟨s1.heap.objs.size + 4, [s1.heap.objs.size + 4, s1.heap.objs.size + 2, s1.heap.objs.size + 3, s1.heap.objs.size, s1.heap.objs.size + 1], _, _, H1, rfl, I2, RZ.turn_zipT (PySem.W.ktu_apart s1.heap.objs.size a b (Heap.lt_size ho1) (Heap.lt_size ho2)), ⟨hz, hTI, ⟨_, _, hTO⟩, h1, h2⟩, fresh5, q⟩
      · obtain ⟨its, rv, p1, _⟩ := I1.tuple hqx
        obtain ⟨its2, rv2, p2, _⟩ := I1.list hqy
        obtain ⟨o1, ho1, _⟩ := id p1
        refine zip_begins2 (begins_tuple a its.toArray) (begins_list b its2.toArray) p1 p2.isList fun h' hz hTI hTO g1 g2 hsz hk => wpAny_pyIter_zip hz ?_
        have I2 : Inv X pins σ H1 { s1 with heap := h' } := I1.kept (t' := s1.toks) hk
        exact ⟨s1.heap.objs.size + 4, [s1.heap.objs.size + 4, s1.heap.objs.size + 2, s1.heap.objs.size + 3, s1.heap.objs.size, s1.heap.objs.size + 1], _, _, H1, rfl, I2, turn_zipM (PySem.W.ktu_apart s1.heap.objs.size a b (Heap.lt_size ho1) p2.lt), ⟨hz, hTI, ⟨_, _, hTO⟩, ⟨_, g1, rfl, rfl⟩, ⟨_, g2, rfl, rfl⟩⟩, fresh5, q⟩
      · obtain ⟨its, rv, p1, _⟩ := I1.list hqx
        obtain ⟨its2, rv2, p2, _⟩ := I1.tuple hqy
        obtain ⟨o2, ho2, _⟩ := id p2
        refine zip_begins2 (begins_list a its.toArray) (begins_tuple b its2.toArray) p1.isList p2 fun h' hz hTI hTO g1 g2 hsz hk => wpAny_pyIter_zip hz ?_
        have I2 : Inv X pins σ H1 { s1 with heap := h' } := I1.kept (t' := s1.toks) hk
        exact ⟨s1.heap.objs.size + 4, [s1.heap.objs.size + 4, s1.heap.objs.size + 2, s1.heap.objs.size + 3, s1.heap.objs.size, s1.heap.objs.size + 1], _, _, H1, rfl, I2, turn_zipN (PySem.W.ktu_apart s1.heap.objs.size a b p1.lt (Heap.lt_size ho2)), ⟨hz, hTI, ⟨_, _, hTO⟩, ⟨_, g1, rfl, rfl⟩, ⟨_, g2, rfl, rfl⟩⟩, fresh5, q⟩
end L2
namespace Jo
open PySem L2
theorem WalkT.zipM {K : PySem.W.Frag} {mg : Str → Option Value} {F : Hp} {a b : Addr} {vs ws : List V} {ts us : List T} (h : SqT K F a vs) (r : Paired (Rep K mg F) vs ts) (h2 : F b = some (.lst ws)) (r2 : Paired (Rep K mg F) ws us) : WalkT K mg F (ItzM K a b) (zipT ts us) where
  goes := fun i H hi s => by
    rw [zipT_length] at hi
    exact ⟨vs, ws, vs[i]'(by rw [r.length]; omega), ws[i]'(by rw [r2.length]; omega), SqT.mono s h, .of (s _ _ h2), List.getElem?_eq_getElem _, List.getElem?_eq_getElem _⟩
  stops := fun H s => ⟨vs, ws, SqT.mono s h, .of (s _ _ h2), by rw [zipT_length, r.length]; omega, by rw [zipT_length, r2.length]; omega, by rw [zipT_length, r.length, r2.length]; omega⟩
  yields := fun i t H x H' e s y => by
    obtain ⟨q, x1, y1, e0, hn, hH, k1, k2⟩ := y
    obtain ⟨u, w, e1, e2, e3⟩ := zipT_get e
    obtain ⟨v, e4, rp⟩ := repL_get r e1
    obtain ⟨v', e5, rp'⟩ := repL_get r2 e2
    have := k1 vs (SqT.mono s h)
    rw [e4] at this
    cases this
    have := k2 ws (.of (s _ _ h2))
    rw [e5] at this
    cases this
    exact .inr ⟨q, _, _, e0, hn, hH, e3, .cons rp (.cons rp' .nil)⟩
theorem WalkT.zipN {K : PySem.W.Frag} {mg : Str → Option Value} {F : Hp} {a b : Addr} {vs ws : List V} {ts us : List T} (h : F a = some (.lst vs)) (r : Paired (Rep K mg F) vs ts) (h2 : SqT K F b ws) (r2 : Paired (Rep K mg F) ws us) : WalkT K mg F (ItzN K a b) (zipT ts us) where
  goes := fun i H hi s => by
    rw [zipT_length] at hi
    exact ⟨vs, ws, vs[i]'(by rw [r.length]; omega), ws[i]'(by rw [r2.length]; omega), .of (s _ _ h), SqT.mono s h2, List.getElem?_eq_getElem _, List.getElem?_eq_getElem _⟩
  stops := fun H s => ⟨vs, ws, .of (s _ _ h), SqT.mono s h2, by rw [zipT_length, r.length]; omega, by rw [zipT_length, r2.length]; omega, by rw [zipT_length, r.length, r2.length]; omega⟩
  yields := fun i t H x H' e s y => by
    obtain ⟨q, x1, y1, e0, hn, hH, k1, k2⟩ := y
    obtain ⟨u, w, e1, e2, e3⟩ := zipT_get e
    obtain ⟨v, e4, rp⟩ := repL_get r e1
    obtain ⟨v', e5, rp'⟩ := repL_get r2 e2
    have := k1 vs (.of (s _ _ h))
    rw [e4] at this
    cases this
    have := k2 ws (SqT.mono s h2)
    rw [e5] at this
    cases this
    exact .inr ⟨q, _, _, e0, hn, hH, e3, .cons rp (.cons rp' .nil)⟩
def zipO3 (ts : List T) : Option (List T) := match frzL ts with
  | [.lst _ xs, .lst _ ys] => some (zipT xs ys)
  | [.tup xs, .tup ys] => some (zipT xs ys)
  | [.tup xs, .lst _ ys] => some (zipT xs ys)
  | [.lst _ xs, .tup ys] => some (zipT xs ys)
  | _ => none
def iZ3F (f g : Fe T) : Fe (List T) := fun η => (argsF [.v f, .v g] η).bind fun as η1 => match valsOf as with
  | some ts => match zipO3 ts with
    | some zs => .ok zs η1
    | none => .bad
  | none => .bad
section
variable {X : Cx} {W : XW} {pos p : Pos} {e e2 : Expr} {f g : Fe T}
theorem si_zip3 {elts : List Expr} {kk0 : Nat} {tpos : Pos} (hg : Gl X "zip") (hm : X.mg "zip" = none) (h : EE X W e f) (h2 : EE X W e2 g) (hs : starEach [e, e2] X.env = (false, eval e X.env) :: starEach [e2] X.env := by rfl) (hs2 : starEach [e2] X.env = (false, eval e2 X.env) :: starEach [] X.env := by rfl) (hpl : (backTo pos (starEach [e2] X.env)).any (·.1) = false := by rfl) :
    SI X W (.Tuple elts kk0 tpos) (.Call (.Name "zip" p) [e, e2] [] pos) (iZ3F f g) :=
  PI.imp (pi_zip3 hg hm (eas_cons (ek_v h) (eas_cons (ek_v h2) eas_nil hs2) hs) hs hpl) fun σ H R q => tG.seq q fun F1 η1 A1 B1 as vs H1 F A S1 ra g1 d1 st1 kk => by
    cases e0 : valsOf as with
    | none => rw [e0] at kk; exact kk.elim
    | some ts =>
      rw [e0] at kk
      simp only at kk
      have ol := RA.vals ra e0
      obtain ⟨gA, stF⟩ := frz_step (B := B1) S1.sub S1.good fun q y z => d1 q z y
      have rp := OwnL.frz_in (frzF_same (A := B1) S1.sub) _ _ _ ol fun q y => frzF_in y
      have fin : ∀ {J : It} {xs : List T}, WalkT X.K X.mg (frzF F1 H1 B1) J xs → After X.K X.mg (RW X.K X.mg) W F H A σ (.ok xs η1) R → R J H1 := fun {J xs} w kk =>
        kk (frzF F1 H1 B1) H1 A1 A0 J ⟨frzF_sub S1.sub, gA, S1.env.mono (frzF_same S1.sub) (fun _ _ _ y => y) fun _ y => y⟩ w Good.a0 (fun _ _ y => y) (st1.trans (stF.weak (fun q y => y.elim .inr .inl) fun p y => y.elim id fun z => z.elim))
      cases e1 : zipO3 ts with
      | none => rw [e1] at kk; exact kk.elim
      | some zs =>
        rw [e1] at kk
        simp only at kk
        unfold zipO3 at e1
        split at e1
        · rename_i heq
          cases e1
          rw [heq] at rp
          cases rp with
          | cons r1 rr =>
            cases rr with
            | cons r2 rr =>
              cases rr
              cases r1 with
              | lst a1 a2 =>
                cases r2 with
                | lst b1 b2 => exact ⟨_, _, _, _, rfl, .inl ⟨.of (frzF_sub S1.sub _ _ a1), .of (frzF_sub S1.sub _ _ b1), fin (WalkT.zipL a1 a2 b1 b2) kk⟩⟩
        · rename_i heq
          cases e1
          rw [heq] at rp
          cases rp with
          | cons r1 rr =>
            cases rr with
            | cons r2 rr =>
              cases rr
              cases r1 with
              | tup a1 a2 =>
                cases r2 with
                | tup b1 b2 => exact ⟨_, _, _, _, rfl, .inr (.inl ⟨SqT.mono (frzF_sub S1.sub) a1, SqT.mono (frzF_sub S1.sub) b1, fin (WalkT.zipTu a1 a2 b1 b2) kk⟩)⟩
        · rename_i heq
          cases e1
          rw [heq] at rp
          cases rp with
          | cons r1 rr =>
            cases rr with
            | cons r2 rr =>
              cases rr
              cases r1 with
              | tup a1 a2 =>
                cases r2 with
                | lst b1 b2 => exact ⟨_, _, _, _, rfl, .inr (.inr (.inl ⟨SqT.mono (frzF_sub S1.sub) a1, .of (frzF_sub S1.sub _ _ b1), fin (WalkT.zipM a1 a2 b1 b2) kk⟩))⟩
        · rename_i heq
          cases e1
          rw [heq] at rp
          cases rp with
          | cons r1 rr =>
            cases rr with
            | cons r2 rr =>
              cases rr
              cases r1 with
              | lst a1 a2 =>
                cases r2 with
                | tup b1 b2 => exact ⟨_, _, _, _, rfl, .inr (.inr (.inr ⟨.of (frzF_sub S1.sub _ _ a1), SqT.mono (frzF_sub S1.sub) b1, fin (WalkT.zipN a1 a2 b1 b2) kk⟩))⟩
        · cases e1
end

end Jo
namespace PySem
open Sem (wp)
/-! ### a zip whose tuples are kept: over any two iterators -/
section
variable {prog : Program} {w : World} {A : Around} {E : Value → Shared → Prop} {s : Shared} {z TI TO i1 i2 T : Addr} {fp1 fp2 : List Addr} {n1 n2 i : Nat} {P1 P2 : Nat → Value → Prop} {St1 St2 : Nat → Heap → Prop} {a1 a2 : Value} {f : Bool} {oT : Obj}
theorem jo_zip_next_held {Q : Value → Shared → Prop} (S : ZipSep2 z TI TO i1 i2 fp1 fp2) (D1 : Draws prog w A i1 fp1 n1 P1 St1) (D2 : Draws prog w A i2 fp2 n2 P2 St2)
    (hz : IsZipHeld s.heap z TI TO T f) (hT : s.heap.get? T = some oT) (hTI : IsTupOf2 s.heap TI (.ref i1) (.ref i2)) (st1 : St1 i s.heap) (st2 : St2 i s.heap) (hlt1 : i < n1) (hlt2 : i < n2)
    (hQ : ∀ x1 x2 h' tk, P1 i x1 → P2 i x2 → IsZipHeld h' z TI TO T true → St1 (i + 1) h' → St2 (i + 1) h' → IsTupOf2 h' s.heap.objs.size x1 x2 → h'.objs.size = s.heap.objs.size + 1 →
      (∀ c o, c ≠ z → c ≠ i1 → c ≠ i2 → s.heap.get? c = some o → h'.get? c = some o) → Q (.ref s.heap.objs.size) { s with heap := h', toks := tk }) :
    wpAny (model prog w) A (Builtin.«zip.__next__» ⟨[.ref z], []⟩) (fun fin s' => ∃ v, fin = .done (.ret v) ∧ Q v s') E s := by
  obtain ⟨hp, g, d, tk0, os⟩ := s
  show wpAny _ _ (field (.ref z) 2 >>= _) _ _ _
  refine wpAny_bind (wpAny_field hz rfl (x := .bool false) rfl ?_)
  show wpAny _ _ (field (.ref z) 3 >>= _) _ _ _
  refine wpAny_bind (wpAny_field hz rfl (x := .ref TI) rfl ?_)
  refine wpAny_bind (wpAny_seqItems hTI rfl ?_)
  show wpAny _ _ (Builtin.SmallTypes.ownedTupleIsFree (.ref z) >>= _) _ _ _
  refine wpAny_bind (wpAny_tupleHeld_zip hz hT fun g0 hz0 hs0 => ?_)
  replace hs0 : Heap.SameBut z hp g0 := hs0
  simp only [Bool.false_eq_true, if_false]
  refine wpAny_bind ?_
  rw [← Array.forIn_toList]
  simp only [List.forIn_cons, List.forIn_nil]
  refine wpAny_bind (wpAny_bind (wpAny_holding ?_))
  show wpAny _ _ (Builtin.SmallTypes.nextOf (.ref i1) >>= _) _ _ ⟨g0, g, d, tk0, os⟩
  refine wpAny_bind (D1.item i _ _ _ hlt1 (D1.over st1 hs0 S.zf1) fun x1 p1 tk1 hx1 sn1 hp1 => wpAny_pure ?_)
  replace hp1 : Heap.SameBut i1 g0 p1 := hp1
  refine wpAny_pure ?_
  refine wpAny_bind (wpAny_bind (wpAny_holding ?_))
  show wpAny _ _ (Builtin.SmallTypes.nextOf (.ref i2) >>= _) _ _ ⟨p1, g, d, tk1, os⟩
  refine wpAny_bind (D2.item i _ _ _ hlt2 (D2.over (D2.over st2 hs0 S.zf2) hp1 S.sep1_2) fun x2 p2 tk2 hx2 sn2 hp2 => wpAny_pure ?_)
  replace hp2 : Heap.SameBut i2 p1 p2 := hp2
  refine wpAny_pure (wpAny_pure ?_)
  show wpAny _ _ (newTuple [x1, x2] >>= _) _ _ _
  refine wpAny_bind (wpAny_newTuple ?_)
  have hsz : p2.objs.size = hp.objs.size := by rw [hp2.1, hp1.1, hs0.1]
  have hzz : IsZipHeld p2 z TI TO T true := hp2.extBut _ _ S.zi2 (hp1.extBut _ _ S.zi1 hz0)
  have hkk : ∀ c o, c ≠ z → c ≠ i1 → c ≠ i2 → hp.get? c = some o → p2.get? c = some o := fun c o cz c1 c2 e => hp2.extBut _ _ c2 (hp1.extBut _ _ c1 (hs0.extBut _ _ cz e))
  have hj1 : St1 (i + 1) p2 := D1.over sn1 hp2 S.sep2_1
  refine wpAny_pure ⟨_, rfl, ?_⟩
  show Q (.ref p2.objs.size) ⟨p2.push { cls := .type "tuple", data := .seq #[x1, x2] }, g, d, tk2, os⟩
  have hpr : IsTupOf2 (p2.push { cls := .type "tuple", data := .seq #[x1, x2] }) p2.objs.size x1 x2 := Heap.get?_push_size _ rfl
  have hz4 : (p2.push { cls := .type "tuple", data := .seq #[x1, x2] }).objs.size = p2.objs.size + 1 := Heap.size_push ..
  rw [hsz] at hpr hz4 ⊢
  exact hQ x1 x2 _ tk2 hx1 hx2 (Heap.get?_push_of_some _ hzz) (D1.frame _ _ _ hj1 fun b _ o e => Heap.get?_push_of_some _ e) (D2.frame _ _ _ sn2 fun b _ o e => Heap.get?_push_of_some _ e) hpr hz4 fun c o c1 c2 c3 e => Heap.get?_push_of_some _ (hkk c o c1 c2 c3 e)
theorem jo_zip_end_held {Q : Fin → Shared → Prop} (S : ZipSep2 z TI TO i1 i2 fp1 fp2) (D1 : Draws prog w A i1 fp1 n1 P1 St1) (D2 : Draws prog w A i2 fp2 n2 P2 St2)
    (hz : IsZipHeld s.heap z TI TO T f) (hT : s.heap.get? T = some oT) (hTI : IsTupOf2 s.heap TI (.ref i1) (.ref i2)) (st1 : St1 i s.heap) (st2 : St2 i s.heap) (hle1 : i ≤ n1) (hle2 : i ≤ n2) (hend : i = n1 ∨ i = n2)
    (hE : ∀ h' tk e, (∀ c o, c ≠ z → c ≠ i1 → c ≠ i2 → s.heap.get? c = some o → h'.get? c = some o) → (∃ o, h'.get? e = some o ∧ o.cls = .type "StopIteration") → E (.ref e) { s with heap := h', toks := tk }) :
    wpAny (model prog w) A (Builtin.«zip.__next__» ⟨[.ref z], []⟩) Q E s := by
  obtain ⟨hp, g, d, tk0, os⟩ := s
  show wpAny _ _ (field (.ref z) 2 >>= _) _ _ _
  refine wpAny_bind (wpAny_field hz rfl (x := .bool false) rfl ?_)
  show wpAny _ _ (field (.ref z) 3 >>= _) _ _ _
  refine wpAny_bind (wpAny_field hz rfl (x := .ref TI) rfl ?_)
  refine wpAny_bind (wpAny_seqItems hTI rfl ?_)
  show wpAny _ _ (Builtin.SmallTypes.ownedTupleIsFree (.ref z) >>= _) _ _ _
  refine wpAny_bind (wpAny_tupleHeld_zip hz hT fun g0 hz0 hs0 => ?_)
  replace hs0 : Heap.SameBut z hp g0 := hs0
  simp only [Bool.false_eq_true, if_false]
  refine wpAny_bind ?_
  rw [← Array.forIn_toList]
  simp only [List.forIn_cons, List.forIn_nil]
  refine wpAny_bind (wpAny_bind (wpAny_holding ?_))
  show wpAny _ _ (Builtin.SmallTypes.nextOf (.ref i1) >>= _) _ _ ⟨g0, g, d, tk0, os⟩
  by_cases hlt1 : i < n1
  · refine wpAny_bind (D1.item i _ _ _ hlt1 (D1.over st1 hs0 S.zf1) fun x1 p1 tk1 hx1 sn1 hp1 => wpAny_pure ?_)
    replace hp1 : Heap.SameBut i1 g0 p1 := hp1
    refine wpAny_pure ?_
    have hi2 : i = n2 := by omega
    refine wpAny_bind (wpAny_bind (wpAny_holding ?_))
    show wpAny _ _ (Builtin.SmallTypes.nextOf (.ref i2) >>= _) _ _ ⟨p1, g, d, tk1, os⟩
    refine wpAny_bind (D2.done ⟨p1, g, d, tk1, os⟩ _ _ (by rw [← hi2]; exact D2.over (D2.over st2 hs0 S.zf2) hp1 S.sep1_2) fun q e hq he => ?_)
    replace hq : Heap.ExtBut i2 p1 q := hq
    exact hE q tk1 e (fun c o cz c1 c2 x => hq _ _ c2 (hp1.extBut _ _ c1 (hs0.extBut _ _ cz x))) he
  · have hi1 : i = n1 := by omega
    refine wpAny_bind (D1.done ⟨g0, g, d, tk0, os⟩ _ _ (by rw [← hi1]; exact D1.over st1 hs0 S.zf1) fun q e hq he => ?_)
    replace hq : Heap.ExtBut i1 g0 q := hq
    exact hE q tk0 e (fun c o cz c1 c2 x => hq _ _ c1 (hs0.extBut _ _ cz x)) he
end
end PySem
namespace Jo
open PySem L2

end Jo
namespace PySem
open Sem (wp)
section
variable {prog : Program} {w : World} {A : Around} {E : Value → Shared → Prop} {s : Shared} {z TI TO i1 i2 T : Addr} {fp1 fp2 : List Addr} {n1 n2 i : Nat} {P1 P2 : Nat → Value → Prop} {St1 St2 : Nat → Heap → Prop} {f : Bool} {oT : Obj}
theorem jo_pyNext_zip_held {Q : Option Value → Shared → Prop} (S : ZipSep2 z TI TO i1 i2 fp1 fp2) (D1 : Draws prog w A.in1 i1 fp1 n1 P1 St1) (D2 : Draws prog w A.in1 i2 fp2 n2 P2 St2)
    (hz : IsZipHeld s.heap z TI TO T f) (hTo : s.heap.get? T = some oT) (hTI : IsTupOf2 s.heap TI (.ref i1) (.ref i2)) (st1 : St1 i s.heap) (st2 : St2 i s.heap) (hlt1 : i < n1) (hlt2 : i < n2)
    (hQ : ∀ x1 x2 h' tk, P1 i x1 → P2 i x2 → IsZipHeld h' z TI TO T true → St1 (i + 1) h' → St2 (i + 1) h' → IsTupOf2 h' s.heap.objs.size x1 x2 → h'.objs.size = s.heap.objs.size + 1 →
      (∀ c o, c ≠ z → c ≠ i1 → c ≠ i2 → s.heap.get? c = some o → h'.get? c = some o) → Q (some (.ref s.heap.objs.size)) { s with heap := h', toks := tk }) :
    wpAny (model prog w) A (pyNext (.ref z)) Q E s := by
  have hT : s.TypeIs (.ref z) "zip" := ⟨_, hz, rfl⟩
  unfold pyNext
  exact wpAny_bind (wpAny_attempt (wpAny_callSpecial?_slot (name := Str.ofString "__next__") hT F.slot_zip_next
    (wpAny_call_entry F.slot_zip_next hT F.entry_zip_next
      (jo_zip_next_held S D1 D2 hz hTo hTI st1 st2 hlt1 hlt2 fun x1 x2 h' tk y1 y2 b1 d1 d2 b5 b6 b7 => wpAny_pure (hQ x1 x2 h' tk y1 y2 b1 d1 d2 b5 b6 b7)) (F.args_zip_next_1 _))))
theorem jo_pyNext_zip_end {Q : Option Value → Shared → Prop} (S : ZipSep2 z TI TO i1 i2 fp1 fp2) (D1 : Draws prog w A.in1 i1 fp1 n1 P1 St1) (D2 : Draws prog w A.in1 i2 fp2 n2 P2 St2)
    (hz : IsZipHeld s.heap z TI TO T f) (hTo : s.heap.get? T = some oT) (hTI : IsTupOf2 s.heap TI (.ref i1) (.ref i2)) (st1 : St1 i s.heap) (st2 : St2 i s.heap) (hle1 : i ≤ n1) (hle2 : i ≤ n2) (hend : i = n1 ∨ i = n2)
    (hQ : ∀ h' tk, (∀ c o, c ≠ z → c ≠ i1 → c ≠ i2 → s.heap.get? c = some o → h'.get? c = some o) → Q none { s with heap := h', toks := tk }) : wpAny (model prog w) A (pyNext (.ref z)) Q E s := by
  have hT : s.TypeIs (.ref z) "zip" := ⟨_, hz, rfl⟩
  unfold pyNext
  refine wpAny_bind (wpAny_attempt (wpAny_callSpecial?_slot (name := Str.ofString "__next__") hT F.slot_zip_next
    (wpAny_call_entry F.slot_zip_next hT F.entry_zip_next (jo_zip_end_held S D1 D2 hz hTo hTI st1 st2 hle1 hle2 hend fun h' tk e hk he => ?_) (F.args_zip_next_1 _))))
  obtain ⟨o, ho, hc⟩ := he
  refine wpAny_bind (wpAny_isInstance (T := "StopIteration") (b := true) ⟨o, ho, hc⟩ isSubtype_stop ?_)
  exact wpAny_pure (hQ _ _ hk)
theorem jo_nolen_zip : typeLookup (.type "zip") "__len__" = pure none := by rw [typeLookup_type, builtinLookup_eq_fast]; kernel_rfl
theorem jo_nohint_zip : typeLookup (.type "zip") "__length_hint__" = pure none := by rw [typeLookup_type, builtinLookup_eq_fast]; kernel_rfl
end
end PySem
namespace L2
open PySem PySem.Spec PyProof.Rows
/-! ### tuple(zip(a tuple, a list)) -/
inductive News : Hp → Hp → List Addr → List (V × V) → Prop
  | nil (H : Hp) : News H H [] []
  | cons {H H' : Hp} {p : Addr} {ps : List Addr} {x y : V} {zs : List (V × V)} : H p = none → News (upd H p (.tup [x, y])) H' ps zs → News H H' (p :: ps) ((x, y) :: zs)
structure ZSt (z TI TO i1 i2 a b S : Addr) (j : Nat) (h : Heap) : Prop where
  head : (IsZip h z TI TO .none ∧ ∃ x y, IsPair h TO x y) ∨ ∃ T f oT, IsZipHeld h z TI TO T f ∧ h.get? T = some oT ∧ T ≠ S ∧ T ≠ z ∧ T ≠ i1 ∧ T ≠ i2
  ti : IsPair h TI (.ref i1) (.ref i2)
  it1 : h.IsTupleIter i1 a j
  it2 : h.IsListIter i2 b j
  to : TO < h.objs.size
structure ZApart (z TI TO i1 i2 a b S : Addr) : Prop where
  D : ZipApart z TI TO i1 i2 a b
  Sz : S ≠ z
  STI : S ≠ TI
  STO : S ≠ TO
  Si1 : S ≠ i1
  Si2 : S ≠ i2
theorem FpOk.upd {X : Cx} {pins : List (Addr × Obj)} {H : Hp} {e T : Addr} {ob : HO} (h : FpOk X pins H e) (hn : e ≠ T) : FpOk X pins (L2.upd H T ob) e :=
  ⟨by rw [upd_ne hn]; exact h.1, h.2⟩
theorem jo_zip_loop {X : Cx} {pins : List (Addr × Obj)} {σ : St} {A : Around} {R : Result → Shared → Prop} {z TI TO i1 i2 a b S : Addr} {xs ys : List V} (Z : ZApart z TI TO i1 i2 a b S) (hh : A.handled = none) (hlen : min xs.length ys.length ≤ sizeLine) (res : Value) :
    ∀ (k j : Nat) (s : Shared) (H : Hp) (acc : Array Value) (c : Nat), min xs.length ys.length - j = k → j ≤ min xs.length ys.length → acc.size = j → ZSt z TI TO i1 i2 a b S j s.heap →
      s.heap.get? S = some { cls := .type "list", dict := none, data := .seq acc c, slots := #[] } → Inv X pins σ H s → (∀ e ∈ [z, TI, TO, i1, i2, S], FpOk X pins H e) → SqT X.K H a xs → SqL X.K H b ys →
      (∀ s' H' ps c', News H H' ps ((xs.zip ys).drop j) → Inv X pins σ H' s' → s'.heap.get? S = some { cls := .type "list", dict := none, data := .seq (acc ++ (ps.map Value.ref).toArray) c', slots := #[] } → R (.ok (.ret res)) s') →
      codeAny (model X.prog X.w) A (.builtin "list.extend.loop" ⟨[.ref S, .ref z, res], []⟩) R s := by
  intro k
  induction k with
  | zero =>
    intro j s H acc c hk hj ha hst hS I hf hqx hqy hR
    obtain ⟨its, rv, p, _⟩ := I.tuple hqx
    obtain ⟨its2, rv2, p2, _⟩ := I.list hqy
    have l1 : its.length = xs.length := rv.length.symm
    have l2 : its2.length = ys.length := rv2.length.symm
    have hh1 : A.in1.in1.handled = none := hh
    have D1 : Draws X.prog X.w A.in1.in1 i1 [i1, a] its.toArray.size (fun i v => its.toArray[i]? = some v) (fun i h => h.IsTupleIter i1 a i ∧ h.IsTuple a its.toArray) := Draws.tuple hh1 i1 a Z.D.l1i1 its.toArray
    have D2 : Draws X.prog X.w A.in1.in1 i2 [i2, b] its2.toArray.size (fun i v => its2.toArray[i]? = some v) (fun i h => h.IsListIter i2 b i ∧ h.IsList b its2.toArray) := Draws.list hh1 i2 b Z.D.l2i2 its2.toArray
    have dn : (xs.zip ys).drop j = [] := List.drop_of_length_le (by rw [List.length_zip]; omega)
    have fin : ∀ h' tk, (∀ c o, c ≠ z → c ≠ TO → c ≠ i1 → c ≠ i2 → s.heap.get? c = some o → h'.get? c = some o) → R (.ok (.ret res)) { s with heap := h', toks := tk } := fun h' tk hk => by
      refine hR _ H [] c (by rw [dn]; exact .nil H) (I.turnedL (t' := tk) (ch := [z, TI, TO, i1, i2, S]) (fun c o hb q => hk c o (fun q' => hb (by simp [q'])) (fun q' => hb (by simp [q'])) (fun q' => hb (by simp [q'])) (fun q' => hb (by simp [q'])) q) hf) ?_
      have := hk S _ Z.Sz Z.STO Z.Si1 Z.Si2 hS
      simpa using this
    refine codeAny_builtin F.entry_extend_loop ?_
    rw [Around.under_plainId F.plain_extend_loop _]
    show wpAny _ A.in1 (pyNext (.ref z) >>= _) _ _ s
    rcases hst.head with ⟨hz, x0, y0, hTO⟩ | ⟨T, f, oT, hz, hT, _⟩
    · refine wpAny_bind (wpAny_pyNext_zipD2_end (jo_zsep Z.D) D1 D2 hz hst.ti hTO ⟨hst.it1, p⟩ ⟨hst.it2, p2.isList⟩ (by rw [List.size_toArray]; omega) (by rw [List.size_toArray]; omega) (by rw [List.size_toArray, List.size_toArray]; omega) fun h' tk hk => ?_)
      exact wpAny_pure (fin h' tk hk)
    · refine wpAny_bind (jo_pyNext_zip_end (jo_zsep Z.D) D1 D2 hz hT hst.ti ⟨hst.it1, p⟩ ⟨hst.it2, p2.isList⟩ (by rw [List.size_toArray]; omega) (by rw [List.size_toArray]; omega) (by rw [List.size_toArray, List.size_toArray]; omega) fun h' tk hk => ?_)
      exact wpAny_pure (fin h' tk fun c o c1 _ c3 c4 e => hk c o c1 c3 c4 e)
  | succ k ih =>
    intro j s H acc c hk hj ha hst hS I hf hqx hqy hR
    obtain ⟨its, rv, p, _⟩ := I.tuple hqx
    obtain ⟨its2, rv2, p2, _⟩ := I.list hqy
    have l1 : its.length = xs.length := rv.length.symm
    have l2 : its2.length = ys.length := rv2.length.symm
    have hj1 : j < xs.length := by omega
    have hj2 : j < ys.length := by omega
    obtain ⟨u, hu, ru⟩ := rv.get (List.getElem?_eq_getElem hj1)
    obtain ⟨u2, hu2, ru2⟩ := rv2.get (List.getElem?_eq_getElem hj2)
    have hh1 : A.in1.in1.handled = none := hh
    have D1 : Draws X.prog X.w A.in1.in1 i1 [i1, a] its.toArray.size (fun i v => its.toArray[i]? = some v) (fun i h => h.IsTupleIter i1 a i ∧ h.IsTuple a its.toArray) := Draws.tuple hh1 i1 a Z.D.l1i1 its.toArray
    have D2 : Draws X.prog X.w A.in1.in1 i2 [i2, b] its2.toArray.size (fun i v => its2.toArray[i]? = some v) (fun i h => h.IsListIter i2 b i ∧ h.IsList b its2.toArray) := Draws.list hh1 i2 b Z.D.l2i2 its2.toArray
    have dn : (xs.zip ys).drop j = (xs[j], ys[j]) :: (xs.zip ys).drop (j + 1) := by
      rw [List.drop_eq_getElem_cons (by rw [List.length_zip]; omega), List.getElem_zip]
    have hzl : z < s.heap.objs.size := by
      rcases hst.head with ⟨hz, _⟩ | ⟨_, _, _, hz, _⟩
      · exact Heap.lt_size hz
      · exact Heap.lt_size hz
    have hSl : S < s.heap.objs.size := Heap.lt_size hS
    have lts : ∀ e ∈ [z, TI, TO, i1, i2, S], e ≠ TO → e ≠ s.heap.objs.size := fun e he hto => by
      have e' : e = z ∨ e = TI ∨ e = TO ∨ e = i1 ∨ e = i2 ∨ e = S := by simpa using he
      rcases e' with q | q | q | q | q | q
      · rw [q]; exact Nat.ne_of_lt hzl
      · rw [q]; exact Nat.ne_of_lt (Heap.lt_size hst.ti)
      · exact absurd q hto
      · rw [q]; obtain ⟨_, e1, _⟩ := hst.it1; exact Nat.ne_of_lt (Heap.lt_size e1)
      · rw [q]; obtain ⟨_, e2, _⟩ := hst.it2; exact Nat.ne_of_lt (Heap.lt_size e2)
      · rw [q]; exact Nat.ne_of_lt hSl
    have tail : ∀ w1 w2 h' tk, h'.objs.size = s.heap.objs.size + 1 → its.toArray[j]? = some w1 → its2.toArray[j]? = some w2 → (∃ T f oT, IsZipHeld h' z TI TO T f ∧ h'.get? T = some oT ∧ T ≠ S ∧ T ≠ z ∧ T ≠ i1 ∧ T ≠ i2) → h'.IsTupleIter i1 a (j + 1) → h'.IsListIter i2 b (j + 1) →
        IsPair h' s.heap.objs.size w1 w2 → (∀ c o, c ≠ z → c ≠ TO → c ≠ i1 → c ≠ i2 → s.heap.get? c = some o → h'.get? c = some o) →
        codeAny (model X.prog X.w) A (.builtin "list.extend.loop" ⟨[.ref S, .ref z, res], []⟩) R { s with heap := h'.update S (Obj.mapSeq (·.push (.ref s.heap.objs.size))), toks := tk } := by
      intro w1 w2 h' tk hsz hw1 hw2 hd ht1 ht2 hp hk
      have ew1 : w1 = u := by
        have : its.toArray[j]? = some u := by simpa using hu
        rw [this] at hw1; exact (Option.some.inj hw1).symm
      have ew2 : w2 = u2 := by
        have : its2.toArray[j]? = some u2 := by simpa using hu2
        rw [this] at hw2; exact (Option.some.inj hw2).symm
      subst ew1 ew2
      have hn : H s.heap.objs.size = none := I.hok.fresh (Nat.le_refl _)
      have new : ObjOk X.prog X.w (upd H s.heap.objs.size (.tup [xs[j], ys[j]])) h' s.heap.objs.size (.tup [xs[j], ys[j]]) :=
        ⟨by show 2 ≤ sizeLine; decide, [w1, w2], .cons ru (.cons ru2 .nil), ⟨_, hp, rfl, _, rfl⟩⟩
      have I1 : Inv X pins σ (upd H s.heap.objs.size (.tup [xs[j], ys[j]])) { s with heap := h', toks := tk } :=
        I.turnedNew (ch := [z, TI, TO, i1, i2, S]) (fun c o hb q => hk c o (fun q' => hb (by simp [q'])) (fun q' => hb (by simp [q'])) (fun q' => hb (by simp [q'])) (fun q' => hb (by simp [q'])) q) hf (Nat.le_refl _) new
      have hf1 : ∀ e ∈ [z, TI, TO, i1, i2, S], FpOk X pins (upd H s.heap.objs.size (.tup [xs[j], ys[j]])) e := fun e he => FpOk.upd (hf e he) (by
        by_cases q : e = TO
        · rw [q]; exact Nat.ne_of_lt hst.to
        · exact lts e he q)
      have hS' : h'.get? S = some { cls := .type "list", dict := none, data := .seq acc c, slots := #[] } := hk S _ Z.Sz Z.STO Z.Si1 Z.Si2 hS
      have oth : ∀ e o, e ≠ S → h'.get? e = some o → (h'.update S (Obj.mapSeq (·.push (.ref s.heap.objs.size)))).get? e = some o := fun e o he q => (Heap.get?_update_other _ _ (Ne.symm he)).trans q
      have I2 : Inv X pins σ (upd H s.heap.objs.size (.tup [xs[j], ys[j]])) { s with heap := h'.update S (Obj.mapSeq (·.push (.ref s.heap.objs.size))), toks := tk } :=
        Inv.turnedL (s := { s with heap := h', toks := tk }) (t' := tk) (ch := [S]) I1 (fun e o he q => oth e o (fun z => he (by simp [z])) q) (fun e he => by rw [List.mem_singleton.mp he]; exact hf1 S (by simp))
      have sm : Same H (upd H s.heap.objs.size (.tup [xs[j], ys[j]])) := fun e o q => by rw [upd_ne (fun z => by rw [z, hn] at q; cases q)]; exact q
      obtain ⟨T, f, oT, hz', hT', hTS, hTr⟩ := hd
      refine ih (j + 1) _ _ (acc.push (.ref s.heap.objs.size)) _ (by omega) (by omega) (by rw [Array.size_push, ha]) ⟨.inr ⟨T, f, oT, oth _ _ (Ne.symm Z.Sz) hz', oth _ _ hTS hT', hTS, hTr⟩, oth _ _ (Ne.symm Z.STI) ?_, ht1.at fun o q => oth _ _ (Ne.symm Z.Si1) q, ht2.at fun o q => oth _ _ (Ne.symm Z.Si2) q, by rw [(Heap.SameBut.update ..).1, hsz]; exact Nat.lt_succ_of_lt hst.to⟩ (Heap.get?_update_self _ hS' rfl) I2 hf1 (Jo.SqT.mono sm hqx) ?_ fun s' H' ps c' nw I' hS'' => ?_
      · exact hk _ _ Z.D.TIz Z.D.TITO Z.D.TIi1 Z.D.TIi2 hst.ti
      · exact sm.seq hqy
      · refine hR s' H' (s.heap.objs.size :: ps) c' (by rw [dn]; exact .cons hn nw) I' ?_
        rw [hS'']
        congr 2
        simp
    refine codeAny_builtin F.entry_extend_loop ?_
    rw [Around.under_plainId F.plain_extend_loop _]
    show wpAny _ A.in1 (pyNext (.ref z) >>= _) _ _ s
    have lt1 : j < its.toArray.size := by rw [List.size_toArray]; omega
    have lt2 : j < its2.toArray.size := by rw [List.size_toArray]; omega
    have szA : acc.size < sizeLine := by omega
    rcases hst.head with ⟨hz, x0, y0, hTO⟩ | ⟨T, f, oT, hz, hT, hTS, hTz, hT1, hT2'⟩
    · refine wpAny_bind (wpAny_pyNext_zipD2_item (jo_zsep Z.D) D1 D2 hz hst.ti hTO ⟨hst.it1, p⟩ ⟨hst.it2, p2.isList⟩ lt1 lt2 fun w1 w2 h' tk y1 y2 z' TO' st1 st2 hT hsz hk => ?_)
      have hS' : h'.get? S = some { cls := .type "list", dict := none, data := .seq acc c, slots := #[] } := hk S _ Z.Sz Z.STO Z.Si1 Z.Si2 hS
      show wpAny _ A.in1 (updateSeq S (·.push (.ref s.heap.objs.size)) >>= _) _ _ _
      refine wpAny_bind ?_
      refine wpAny_updateSeq hS' rfl (wpAny_pure ⟨plainId_quiet F.plain_extend_loop _, tail w1 w2 h' tk hsz y1 y2 ⟨_, false, _, z', hT, fun q => by rw [← q] at hSl; exact Nat.lt_irrefl _ hSl, Nat.ne_of_gt hzl, Ne.symm (lts i1 (by simp) (Ne.symm Z.D.TOi1)), Ne.symm (lts i2 (by simp) (Ne.symm Z.D.TOi2))⟩ st1.1 st2.1 hT hk⟩)
        (by omega) (by show (acc.push _).size ≤ sizeLine + 1; rw [Array.size_push]; omega)
    · refine wpAny_bind (jo_pyNext_zip_held (jo_zsep Z.D) D1 D2 hz hT hst.ti ⟨hst.it1, p⟩ ⟨hst.it2, p2.isList⟩ lt1 lt2 fun w1 w2 h' tk y1 y2 z' st1 st2 hT2 hsz hk => ?_)
      have hS' : h'.get? S = some { cls := .type "list", dict := none, data := .seq acc c, slots := #[] } := hk S _ Z.Sz Z.Si1 Z.Si2 hS
      show wpAny _ A.in1 (updateSeq S (·.push (.ref s.heap.objs.size)) >>= _) _ _ _
      refine wpAny_bind ?_
      refine wpAny_updateSeq hS' rfl (wpAny_pure ⟨plainId_quiet F.plain_extend_loop _, tail w1 w2 h' tk hsz y1 y2 ⟨T, true, oT, z', hk _ _ hTz hT1 hT2' hT, hTS, hTz, hT1, hT2'⟩ st1.1 st2.1 hT2 (fun c o c1 _ c3 c4 e => hk c o c1 c3 c4 e)⟩)
        (by omega) (by show (acc.push _).size ≤ sizeLine + 1; rw [Array.size_push]; omega)
end L2
namespace Jo
open PySem L2

end Jo
namespace L2
open PySem PySem.Spec PyProof.Rows
section
variable {X : Cx} {pins : List (Addr × Obj)} {σ : St} {A : Around} {E : Value → Shared → Prop} {s : Shared} {H : Hp} {z TI TO i1 i2 a b : Addr} {xs ys : List V}
theorem jo_collect_zip {Q : List Value → Shared → Prop} (D : ZipApart z TI TO i1 i2 a b) (hh : A.handled = none) (hlen : min xs.length ys.length ≤ sizeLine)
    (hz : IsZip s.heap z TI TO .none) (hTI : IsPair s.heap TI (.ref i1) (.ref i2)) (hTO : ∃ x y, IsPair s.heap TO x y) (h1 : s.heap.IsTupleIter i1 a 0) (h2 : s.heap.IsListIter i2 b 0)
    (I : Inv X pins σ H s) (hf : ∀ e ∈ [z, TI, TO, i1, i2], FpOk X pins H e) (hqx : SqT X.K H a xs) (hqy : SqL X.K H b ys)
    (hQ : ∀ s' H' ps, News H H' ps (xs.zip ys) → Inv X pins σ H' s' → Q (ps.map Value.ref) s') : wpAny (model X.prog X.w) A (collect (.ref z)) Q E s := by
  have lz : z < s.heap.objs.size := Heap.lt_size hz
  have lTI : TI < s.heap.objs.size := Heap.lt_size hTI
  have lTO : TO < s.heap.objs.size := by obtain ⟨_, _, e⟩ := hTO; exact Heap.lt_size e
  have li1 : i1 < s.heap.objs.size := by obtain ⟨_, e, _⟩ := h1; exact Heap.lt_size e
  have li2 : i2 < s.heap.objs.size := by obtain ⟨_, e, _⟩ := h2; exact Heap.lt_size e
  have hT0 : s.TypeIs (.ref z) "zip" := ⟨_, hz, rfl⟩
  have hSI : s.heap.objs.size ≠ z := Nat.ne_of_gt lz
  unfold collect
  refine wpAny_bind (wpAny_runValue (codeAny_builtin F.entry_proto_collect ?_))
  rw [Around.under_plainId F.plain_proto_collect _]
  show wpAny _ A.in1 (newList [] >>= fun l => again (.builtin "list.__iadd__" ⟨[l, .ref z], []⟩)) _ _ s
  refine wpAny_bind (wpAny_newObj_type ?_)
  refine wpAny_pure ⟨plainId_quiet F.plain_list_iadd _, codeAny_builtin F.entry_list_iadd ?_⟩
  rw [Around.under_plainId F.plain_list_iadd _]
  show wpAny _ A.in1 (Builtin.List.listExtendWith (.ref s.heap.objs.size) (.ref z) (.ref s.heap.objs.size)) _ _ _
  have zP : IsZip (s.heap.push { cls := .type "list", data := .seq ([] : List Value).toArray }) z TI TO .none := Heap.get?_push_of_some _ hz
  have hT1 : ({ s with heap := s.heap.push { cls := .type "list", data := .seq ([] : List Value).toArray } } : Shared).TypeIs (.ref z) "zip" := ⟨_, zP, rfl⟩
  unfold Builtin.List.listExtendWith
  refine wpAny_bind (wpAny_typeOf hT1 ?_)
  have q1 : Builtin.List.listSameRef (.ref s.heap.objs.size) (.ref z) = false := by simp [Builtin.List.listSameRef, hSI]
  have q2 : (Value.type "zip" == Value.type "list") = false := by decide
  have q3 : (Value.type "zip" == Value.type "tuple") = false := by decide
  simp only [q1, q2, q3, Bool.or_false, Bool.false_eq_true, if_false]
  refine wpAny_bind (wpAny_pyIter_zip zP ?_)
  refine wpAny_bind (wpAny_holding ?_)
  unfold Builtin.List.listLengthHint
  refine wpAny_bind (wpAny_specialOf hT1 jo_nolen_zip ?_)
  show wpAny _ A.in1 (specialOf (Value.ref z) (Str.ofString "__length_hint__") >>= _) _ _ _
  refine wpAny_bind (wpAny_specialOf hT1 jo_nohint_zip ?_)
  refine wpAny_pure ?_
  show wpAny _ A.in1 (rule "list.extend.makes-room" >>= fun _ => Builtin.List.listTouch (.ref s.heap.objs.size) >>= fun _ =>
    again (.builtin "list.extend.loop" ⟨[.ref s.heap.objs.size, .ref z, .ref s.heap.objs.size], []⟩)) _ _ _
  refine wpAny_bind (wpAny_rule ?_)
  have hS₁ : (s.heap.push { cls := .type "list", data := .seq ([] : List Value).toArray }).get? s.heap.objs.size = some { cls := .type "list", data := .seq ([] : List Value).toArray } := Heap.get?_push_size _ rfl
  refine wpAny_bind ?_
  show wpAny _ A.in1 (updateSeq s.heap.objs.size (·.push .none) >>= fun _ => updateSeq s.heap.objs.size (·.pop)) _ _ _
  refine wpAny_bind (wpAny_updateSeq hS₁ rfl ?_)
  have hS₂ := Heap.get?_update_self (Obj.mapSeq (·.push Value.none)) hS₁ rfl
  refine wpAny_updateSeq hS₂ rfl ?_
  have hS₃ := Heap.get?_update_self (Obj.mapSeq (·.pop)) hS₂ rfl
  have oth : ∀ e o, s.heap.get? e = some o →
      (((s.heap.push { cls := .type "list", data := .seq ([] : List Value).toArray }).update s.heap.objs.size (Obj.mapSeq (·.push Value.none))).update s.heap.objs.size (Obj.mapSeq (·.pop))).get? e = some o :=
    fun e o q => by
      have hne : s.heap.objs.size ≠ e := Nat.ne_of_gt (Heap.lt_size q)
      exact (Heap.get?_update_other _ _ hne).trans ((Heap.get?_update_other _ _ hne).trans (Heap.get?_push_of_some _ q))
  have I2 : Inv X pins σ H { s with heap := ((s.heap.push { cls := .type "list", data := .seq ([] : List Value).toArray }).update s.heap.objs.size (Obj.mapSeq (·.push Value.none))).update s.heap.objs.size (Obj.mapSeq (·.pop)) } := I.kept (t' := s.toks) oth
  have hf2 : ∀ e ∈ [z, TI, TO, i1, i2, s.heap.objs.size], FpOk X pins H e := fun e he => by
    have e' : e ∈ [z, TI, TO, i1, i2] ∨ e = s.heap.objs.size := by
      simp only [List.mem_cons, List.not_mem_nil, or_false] at he ⊢
      rcases he with q | q | q | q | q | q
      · exact .inl (.inl q)
      · exact .inl (.inr (.inl q))
      · exact .inl (.inr (.inr (.inl q)))
      · exact .inl (.inr (.inr (.inr (.inl q))))
      · exact .inl (.inr (.inr (.inr (.inr q))))
      · exact .inr q
    rcases e' with q | q
    · exact hf e q
    · rw [q]; exact I.fpOk (Nat.le_refl _) (I.hok.fresh (Nat.le_refl _))
  obtain ⟨x0, y0, hTO⟩ := hTO
  have Z : ZApart z TI TO i1 i2 a b s.heap.objs.size := ⟨D, hSI, Nat.ne_of_gt lTI, Nat.ne_of_gt lTO, Nat.ne_of_gt li1, Nat.ne_of_gt li2⟩
  refine wpAny_pure ⟨plainId_quiet F.plain_extend_loop _, jo_zip_loop (A := A) Z hh hlen _ _ 0 _ H #[] _ rfl (Nat.zero_le _) rfl ⟨.inl ⟨oth _ _ hz, x0, y0, oth _ _ hTO⟩, oth _ _ hTI, h1.at fun o q => oth _ _ q, h2.at fun o q => oth _ _ q, Heap.lt_size (oth _ _ hTO)⟩ hS₃ I2 hf2 hqx hqy fun s' H' ps c' nw I' hS' => ?_⟩
  show wpAny _ A (load s.heap.objs.size >>= _) _ _ s'
  refine wpAny_bind (wpAny_load hS' ?_)
  refine wpAny_pure ?_
  have e : (#[] ++ (ps.map Value.ref).toArray : Array Value).toList = ps.map Value.ref := by simp
  show Q (#[] ++ (ps.map Value.ref).toArray : Array Value).toList s'
  rw [e]
  exact hQ s' H' ps (by simpa using nw) I'
end
end L2
namespace Jo
open PySem L2

end Jo
namespace L2
open PySem PySem.Spec PyProof.Rows
section
variable {X : Cx} {pins : List (Addr × Obj)} {σ : St} {A : Around} {E : Value → Shared → Prop} {s : Shared} {H : Hp} {z TI TO i1 i2 a b : Addr} {xs ys : List V}
theorem News.len {H H' : Hp} {ps : List Addr} {zs : List (V × V)} (h : News H H' ps zs) : ps.length = zs.length := by
  induction h with
  | nil => rfl
  | cons _ _ ih => rw [List.length_cons, List.length_cons, ih]
theorem jo_code_tuple_zip {Q₁ : Value → Shared → Prop} (D : ZipApart z TI TO i1 i2 a b) (hh : A.handled = none) (hlen : min xs.length ys.length ≤ sizeLine)
    (hz : IsZip s.heap z TI TO .none) (hTI : IsPair s.heap TI (.ref i1) (.ref i2)) (hTO : ∃ x y, IsPair s.heap TO x y) (h1 : s.heap.IsTupleIter i1 a 0) (h2 : s.heap.IsListIter i2 b 0)
    (I : Inv X pins σ H s) (hf : ∀ e ∈ [z, TI, TO, i1, i2], FpOk X pins H e) (hqx : SqT X.K H a xs) (hqy : SqL X.K H b ys)
    (h : ∀ s' H' ps, News H H' ps (xs.zip ys) → Inv X pins σ H' s' → Q₁ (.ref s'.heap.objs.size) { s' with heap := s'.heap.push { cls := .type "tuple", data := .seq (ps.map Value.ref).toArray } }) :
    codeAny (model X.prog X.w) A (.call (.builtin "tuple.__new__") ⟨[.type "tuple", .ref z], []⟩) (wants Q₁ E) s := by
  refine codeAny_of_tree ?_
  show wpAny _ A.in1 (do checkBuiltinCall "tuple.__new__" ⟨[.type "tuple", .ref z], []⟩; again (.builtin "tuple.__new__" ⟨[.type "tuple", .ref z], []⟩)) _ _ s
  refine wpAny_bind (wpAny_of_eq (F.newCall_tuple_1 _) (wpAny_pure ⟨plainId_quiet F.plain_tuple_new _, codeAny_builtin F.entry_tuple_new ?_⟩))
  rw [Around.under_plainId F.plain_tuple_new _]
  have hsub := sub_tuple_self
  have hinit := init_tuple_lookup
  have hmh := madeHere_tuple
  have hTy : s.TypeIs (.ref z) "zip" := ⟨_, hz, rfl⟩
  have hh1 : A.in1.handled = none := hh
  wp_walk using wpAny_typeOf hTy, jo_collect_zip (A := A.in1) D hh1 hlen hz hTI hTO h1 h2 I hf hqx hqy
  intro s' H' ps nw I'
  show wpAny _ _ (Builtin.Tuple.tupleExact (ps.map Value.ref).toArray >>= fun v => ret v) _ _ _
  unfold Builtin.Tuple.tupleExact
  have hl : ps.length = min xs.length ys.length := by rw [nw.len, List.length_zip]
  refine wpAny_bind (wpAny_newObj_type ?_ (by show (ps.map Value.ref).toArray.size ≤ sizeLine; rw [List.size_toArray, List.length_map, hl]; exact hlen))
  refine wpAny_pure ?_
  exact h s' H' ps nw I'
theorem jo_call_tuple_zip {Q : Value → Shared → Prop} (D : ZipApart z TI TO i1 i2 a b) (hh : A.handled = none) (hlen : min xs.length ys.length ≤ sizeLine)
    (hz : IsZip s.heap z TI TO .none) (hTI : IsPair s.heap TI (.ref i1) (.ref i2)) (hTO : ∃ x y, IsPair s.heap TO x y) (h1 : s.heap.IsTupleIter i1 a 0) (h2 : s.heap.IsListIter i2 b 0)
    (I : Inv X pins σ H s) (hf : ∀ e ∈ [z, TI, TO, i1, i2], FpOk X pins H e) (hqx : SqT X.K H a xs) (hqy : SqL X.K H b ys)
    (h : ∀ s' H' ps, News H H' ps (xs.zip ys) → Inv X pins σ H' s' → Q (.ref s'.heap.objs.size) { s' with heap := s'.heap.push { cls := .type "tuple", data := .seq (ps.map Value.ref).toArray } }) :
    wpAny (model X.prog X.w) A (call (.type "tuple") [.ref z]) Q E s := by
  refine callType_codes (Q₁ := fun obj s₁ => s₁.TypeIs obj "tuple" ∧ Q obj s₁) F.called_tuple (F.typeCall_tuple_1 _) F.entry_object_init
    (jo_code_tuple_zip (A := A.in1) D hh hlen hz hTI hTO h1 h2 I hf hqx hqy fun s' H' ps nw I' => ⟨⟨_, Heap.get?_push_size _ rfl, rfl⟩, h s' H' ps nw I'⟩) fun obj s₁ h₁ => ?_
  exact ⟨h₁.1, F.args_object_init_2 obj _, object_init_meets F.called_tuple.init.lookup F.called_tuple.made (by decide) X.prog X.w A.in1 _ s₁ ⟨h₁.1, rfl, h₁.2⟩⟩
end
def tTupZip (K : PySem.W.Frag) (ta : TA) : TE := fun σ H Q => ta σ H fun vs H1 => ∃ a b xs ys, vs = [.ref a, .ref b] ∧ SqT K H1 a xs ∧ SqL K H1 b ys ∧ ∀ H2 ps, News H1 H2 ps (xs.zip ys) → ∀ q, H2 q = none → Q (.ref q) (upd H2 q (.tup (ps.map V.ref)))
theorem pe_tupZip {X : Cx} {e e2 : Expr} {ta : TA} {p p2 p3 pos : Pos} (hc : X.calm = true) (hgt : Gl X "tuple") (hmt : X.mg "tuple" = none) (hg : Gl X "zip") (hm : X.mg "zip" = none) (ha : PA X [e, e2] ta)
    (hs : starEach [e, e2] X.env = (false, eval e X.env) :: starEach [e2] X.env := by rfl) (hpl : (backTo p3 (starEach [e2] X.env)).any (·.1) = false := by rfl)
    (na : starEach [.Call (.Name "zip" p2) [e, e2] [] p3] X.env = (false, eval (.Call (.Name "zip" p2) [e, e2] [] p3) X.env) :: starEach [] X.env := by rfl) :
    PE X (.Call (.Name "tuple" p) [.Call (.Name "zip" p2) [e, e2] [] p3] [] pos) (tTupZip X.K ta) := by
  refine ⟨fun pins s σ H Q I h => ?_⟩
  refine Call_ (ld_blt I hgt hmt boot_tuple (PyProof.Rows.callWith_type1 (args_cons ?_ na) na))
  refine Call_ (ld_blt I hg hm PyProof.Rows.boot_zip (PyProof.Rows.callWith_type1 (thn (ha.run p3 pins s σ H _ I h) fun us s1 ⟨vs, H1, I1, r1, q1⟩ => ?_) hs hpl))
  obtain ⟨a, b, xs, ys, ex, hqx, hqy, q⟩ := q1
  subst ex
  cases r1 with
  | cons r rr =>
    cases rr with
    | cons r' rr =>
      cases rr
      cases r
      cases r'
      obtain ⟨its, rv, p1, hz1⟩ := I1.tuple hqx
      obtain ⟨its2, rv2, p2', _⟩ := I1.list hqy
      obtain ⟨o1, ho1, _⟩ := id p1
      have fresh5 : ∀ c, c ∈ [s1.heap.objs.size + 4, s1.heap.objs.size + 2, s1.heap.objs.size + 3, s1.heap.objs.size, s1.heap.objs.size + 1] → FpOk X pins H1 c := fun c hcm => by
        have e' : c = s1.heap.objs.size + 4 ∨ c = s1.heap.objs.size + 2 ∨ c = s1.heap.objs.size + 3 ∨ c = s1.heap.objs.size ∨ c = s1.heap.objs.size + 1 := by simpa using hcm
        have hle : s1.heap.objs.size ≤ c := by
          rcases e' with z | z | z | z | z
          · rw [z]; exact Nat.le_add_right _ _
          · rw [z]; exact Nat.le_add_right _ _
          · rw [z]; exact Nat.le_add_right _ _
          · rw [z]; exact Nat.le_refl _
          · rw [z]; exact Nat.le_add_right _ _
        exact I1.fpOk hle (I1.hok.fresh hle)
      refine zip_begins2 (begins_tuple a its.toArray) (begins_list b its2.toArray) p1 p2'.isList fun h' hz hTI hTO g1 g2 hsz hk => ?_
      have I2 : Inv X pins σ H1 { s1 with heap := h' } := I1.kept (t' := s1.toks) hk
      refine args_nil ?_
      have hlen : min xs.length ys.length ≤ sizeLine := Nat.le_trans (Nat.min_le_left _ _) hz1
      refine jo_call_tuple_zip (s := { s1 with heap := h' }) (PySem.W.ktu_apart s1.heap.objs.size a b (Heap.lt_size ho1) p2'.lt) (I1.ok.hd hc) hlen hz hTI ⟨_, _, hTO⟩ ⟨_, g1, rfl, rfl⟩ ⟨_, g2, rfl, rfl⟩ I2 fresh5 hqx hqy fun s' H' ps nw I' => ?_
      have hl : ps.length ≤ sizeLine := by rw [nw.len, List.length_zip]; exact hlen
      refine ⟨.ref s'.heap.objs.size, upd H' s'.heap.objs.size (.tup (ps.map V.ref)), I'.laid (t' := s'.toks) (fun c o e => Heap.get?_push_of_some _ e) (Nat.le_refl _) (show ObjOk X.prog X.w _ _ _ (.tup (ps.map V.ref)) from ⟨by rw [List.length_map]; exact hl, ps.map Value.ref, vals_refs ps, IsTup.new _ _⟩), rfl, q H' ps nw _ (I'.hok.fresh (Nat.le_refl _))⟩
end L2
namespace Jo
open PySem L2

/-! ### tuple(zip(a tuple, a list)) as a term -/
def tzO : Op := kidO fun ts => match ts with
  | [.tup xs, .lst _ ys] => some (.tup (zipT xs ys), ts)
  | _ => none
section
variable {K : PySem.W.Frag} {mg : Str → Option Value}
/-- pairs of values and their trees -/
def ZP (K : PySem.W.Frag) (mg : Str → Option Value) (F : Hp) (z : V × V) (t : T) : Prop := ∃ t1 t2, t = .tup [t1, t2] ∧ Rep K mg F z.1 t1 ∧ Rep K mg F z.2 t2
theorem zp_mono {F F' : Hp} (s : Same F F') : ∀ {zs : List (V × V)} {ts : List T}, Paired (ZP K mg F) zs ts → Paired (ZP K mg F') zs ts
  | _, _, .nil => .nil
  | _, _, .cons ⟨t1, t2, e, r1, r2⟩ rr => .cons ⟨t1, t2, e, Rep.mono s _ _ r1, Rep.mono s _ _ r2⟩ (zp_mono s rr)
theorem zp_zip {F : Hp} : ∀ {xs ys : List V} {ts us : List T}, Paired (Rep K mg F) xs ts → Paired (Rep K mg F) ys us → Paired (ZP K mg F) (xs.zip ys) (zipT ts us)
  | [], _, [], _, .nil, _ => .nil
  | _ :: _, [], _ :: _, [], .cons _ _, .nil => .nil
  | _ :: _, _ :: _, _ :: _, _ :: _, .cons r rr, .cons r' rr' => .cons ⟨_, _, rfl, r, r'⟩ (zp_zip rr rr')
theorem news_frz {B : AP} : ∀ {H H' : Hp} {ps : List Addr} {zs : List (V × V)} (nw : News H H' ps zs) {F : Hp} {ts : List T}, Same F H → Good F H B → Paired (ZP K mg F) zs ts →
    ∃ F', Same F' H' ∧ Good F' H' B ∧ Step F H B F' H' B ∧ Same F F' ∧ Same H H' ∧ Paired (Rep K mg F') (ps.map V.ref) ts
  | H, _, _, _, .nil _, F, _, s, g, .nil => ⟨F, s, g, Step.refl, fun _ _ e => e, fun _ _ e => e, .nil⟩
  | H, H', _, _, .cons (p := p) (x := x) (y := y) hn nw, F, _, s, g, .cons ⟨t1, t2, e, r1, r2⟩ rr => by
    subst e
    obtain ⟨x1, x2, x3, x4⟩ := new_frz (o := .tup [x, y]) Step.refl s g hn
    obtain ⟨F', y1, y2, y3, y4, y5, y6⟩ := news_frz nw x1 x2 (zp_mono x4 rr)
    have sm : Same H (upd H p (.tup [x, y])) := fun q u e => by rw [upd_ne (ne_of_none e hn)]; exact e
    have s2 : Same F F' := fun q u e => y4 q u (x4 q u e)
    refine ⟨F', y1, y2, (x3.weak (fun _ q => q) fun _ q => .inl q).trans y3, s2, fun q u e => y5 q u (sm q u e), .cons ?_ y6⟩
    exact .tup (SqT.mono y4 (.of upd_same)) (.cons (Rep.mono s2 _ _ r1) (.cons (Rep.mono s2 _ _ r2) .nil))
end
section
variable {X : Cx} {W : XW} {pos p p2 p3 : Pos} {e e2 : Expr} {ka kb : AK}
theorem tzO_ok : OpS X.K X.mg tzO fun vs H Q => ∃ a b xs ys, vs = [.ref a, .ref b] ∧ SqT X.K H a xs ∧ SqL X.K H b ys ∧ ∀ H2 ps, News H H2 ps (xs.zip ys) → ∀ q, H2 q = none → Q (.ref q) (upd H2 q (.tup (ps.map V.ref))) := OpS.kid fun F H vs ts B t ts' s g o e Q k => by
  split at e
  · cases e
    obtain ⟨v, w, rfl, o1, o2⟩ := o.two
    obtain ⟨a, xs, rfl, q1, r1⟩ := o1.tup_inv
    obtain ⟨b, ys, rfl, q2, r2⟩ := o2.lst_inv s
    refine ⟨a, b, xs, ys, rfl, SqT.mono s q1, .of q2, fun H2 ps nw q hq => ?_⟩
    obtain ⟨F2, y1, y2, y3, y4, y5, y6⟩ := news_frz nw s g (zp_zip r1 r2)
    refine fin_tup (F := F2) (H := H2) (B := B) y1 y2 (OwnL.mono y4 _ _ _ _ o.own (fun q u _ e => y5 q u e) fun _ x => x) y6 hq fun F' H' B' C v s' g1 g2 o1 o2 d st => ?_
    exact k F' H' B' C v s' g1 g2 o1 o2 d (y3.trans st)
  · cases e
theorem ev_tupZip (hc : X.calm = true) (hgt : Gl X "tuple") (hmt : X.mg "tuple" = none) (hg : Gl X "zip") (hm : X.mg "zip" = none) (ha : EAs X W [e, e2] [ka, kb])
    (hs : starEach [e, e2] X.env = (false, eval e X.env) :: starEach [e2] X.env := by rfl) (hpl : (backTo p3 (starEach [e2] X.env)).any (·.1) = false := by rfl) :
    EE X W (.Call (.Name "tuple" p) [.Call (.Name "zip" p2) [e, e2] [] p3] [] pos) (eOp [ka, kb] tzO) :=
  PE.imp (pe_tupZip hc hgt hmt hg hm ha hs hpl) fun σ H Q q => op_run tzO_ok q
end
theorem o_tz {xs ys zs : List T} {o : Bool} (h : frzIf o ys = zs) : tzO [.tup xs, .lst o ys] = some (.tup (zipT xs zs), [.tup xs, .lst o zs]) := by
  subst h
  cases o <;> rfl
theorem zipT_map {α β : Type} (f : α → T) (g : β → T) (xs : List α) (ys : List β) : zipT (xs.map f) (ys.map g) = (xs.zip ys).map fun p => T.tup [f p.1, g p.2] := by
  unfold zipT
  rw [List.zip_map, List.map_map]
  rfl
theorem r_zip3 {f g : Fe T} {η η1 : Env} {as : List (Sum Nat T)} {ts zs : List T} (h : argsF [.v f, .v g] η = .ok as η1) (h2 : valsOf as = some ts) (h3 : zipO3 ts = some zs) : iZ3F f g η = .ok zs η1 := by
  unfold iZ3F
  rw [h]
  simp only [Res.bind, h2, h3]

/-! ### in, of things of any depth -/
def rInA (K : PySem.W.Frag) (neg : Bool) : R2 := fun x y H Q => ∃ d ds, Dp K H x d ∧ (Dp K H y (.list ds) ∨ Dp K H y (.tuple ds)) ∧ SeqAt.shaped d = true ∧ SeqAt.shaped (.list ds) = true ∧ Q (.bl (neg != ds.any fun z => PyData.eqv z d)) H
theorem op_inA {X : Cx} (hu : X.A.units + 65 < cLine) : OpR X (compareOp .In) (rInA X.K false) := by
  intro pins s σ H x y v u Q I rx ry h
  obtain ⟨d, ds, hd, he, sd, se, q⟩ := h
  obtain ⟨as, r1⟩ := Dp.reads I d x v hd rx
  rcases he with he | he
  · obtain ⟨bs, r2⟩ := Dp.reads I (.list ds) y u he ry
    exact SeqAt.in_list_reads r2 r1 (SeqAt.canLay_of_shaped se) (SeqAt.canLay_of_shaped sd) (by have := SeqAt.depth_of_shaped sd; omega) ⟨.bl _, H, I, rfl, by simpa using q⟩
  · obtain ⟨bs, r2⟩ := Dp.reads I (.tuple ds) y u he ry
    exact SeqAt.in_tuple_reads r2 r1 (SeqAt.canLay_of_shaped se) (SeqAt.canLay_of_shaped sd) (by have := SeqAt.depth_of_shaped sd; omega) ⟨.bl _, H, I, rfl, by simpa using q⟩
theorem op_notInA {X : Cx} (hu : X.A.units + 65 < cLine) : OpR X (compareOp .NotIn) (rInA X.K true) := by
  intro pins s σ H x y v u Q I rx ry h
  obtain ⟨d, ds, hd, he, sd, se, q⟩ := h
  obtain ⟨as, r1⟩ := Dp.reads I d x v hd rx
  rcases he with he | he
  · obtain ⟨bs, r2⟩ := Dp.reads I (.list ds) y u he ry
    exact SeqAt.notIn_list_reads r2 r1 (SeqAt.canLay_of_shaped se) (SeqAt.canLay_of_shaped sd) (by have := SeqAt.depth_of_shaped sd; omega) ⟨.bl _, H, I, rfl, by simpa using q⟩
  · obtain ⟨bs, r2⟩ := Dp.reads I (.tuple ds) y u he ry
    exact SeqAt.notIn_tuple_reads r2 r1 (SeqAt.canLay_of_shaped se) (SeqAt.canLay_of_shaped sd) (by have := SeqAt.depth_of_shaped sd; omega) ⟨.bl _, H, I, rfl, by simpa using q⟩
def inAO (neg : Bool) : Op := fun ts => match ts with
  | [x, .tup ys] => x.dat.bind fun d => (datL ys).bind fun ds => if SeqAt.shaped d = true ∧ SeqAt.shaped (.list ds) = true then some (.bl (neg != ds.any fun z => PyData.eqv z d), ts) else none
  | [x, .lst _ ys] => x.dat.bind fun d => (datL ys).bind fun ds => if SeqAt.shaped d = true ∧ SeqAt.shaped (.list ds) = true then some (.bl (neg != ds.any fun z => PyData.eqv z d), ts) else none
  | _ => none
section
variable {X : Cx}
theorem inAO_ok {neg : Bool} : OpS X.K X.mg (inAO neg) fun vs H Q => ∃ x y, vs = [x, y] ∧ rInA X.K neg x y H Q := OpS.same fun F H vs ts B t ts' s o e => by
  unfold inAO at e
  split at e
  · rename_i x ys
    obtain ⟨v, w, B1, B2, rfl, o1, o2, _⟩ := o.two
    cases q1 : x.dat with
    | none => rw [q1] at e; simp at e
    | some d =>
      cases q2 : datL ys with
      | none => rw [q1, q2] at e; simp at e
      | some ds =>
        rw [q1, q2] at e
        simp only [Option.bind_some] at e
        split at e
        · rename_i c
          cases e
          exact ⟨rfl, _, .bl _, fun Q k => ⟨_, _, rfl, d, ds, Own.dp s _ _ _ _ o1 q1, .inr (Own.dp s _ _ _ (.tuple ds) o2 (by unfold T.dat; rw [q2]; rfl)), c.1, c.2, k⟩⟩
        · cases e
  · rename_i x ow ys
    obtain ⟨v, w, B1, B2, rfl, o1, o2, _⟩ := o.two
    cases q1 : x.dat with
    | none => rw [q1] at e; simp at e
    | some d =>
      cases q2 : datL ys with
      | none => rw [q1, q2] at e; simp at e
      | some ds =>
        rw [q1, q2] at e
        simp only [Option.bind_some] at e
        split at e
        · rename_i c
          cases e
          exact ⟨rfl, _, .bl _, fun Q k => ⟨_, _, rfl, d, ds, Own.dp s _ _ _ _ o1 q1, .inl (Own.dp s _ _ _ (.list ds) o2 (by unfold T.dat; rw [q2]; rfl)), c.1, c.2, k⟩⟩
        · cases e
  · cases e
end
theorem hu65 {k : Nat} {A : Around} (r : Room k A) : A.units + 65 < cLine := by have := r.un; omega
/-! what == and in answer, of told things -/
theorem datL_map {α : Type} (f : α → T) (g : α → PyData) (h : ∀ x, (f x).dat = some (g x)) : ∀ xs : List α, datL (xs.map f) = some (xs.map g)
  | [] => rfl
  | x :: xs => by
    show (f x).dat.bind (fun d => (datL (xs.map f)).map (d :: ·)) = _
    rw [h, datL_map f g h xs]; rfl
/-- a way of telling things of one kind -/
class DatC {α : Type} [DecidableEq α] (f : α → T) where
  n : Nat
  g : α → PyData
  dat : ∀ x, (f x).dat = some (g x)
  eqv : ∀ x y, PyData.eqv (g x) (g y) = decide (x = y)
  lay : ∀ x, (g x).canLay0 = true
  dep : ∀ x, (g x).depth ≤ n
theorem dc_lay {α : Type} [DecidableEq α] (f : α → T) [D : DatC f] : ∀ xs : List α, PyData.canLayAll0 (xs.map D.g) = true
  | [] => rfl
  | x :: xs => by
    show (_ && PyData.canLayAll0 (xs.map D.g)) = true
    rw [D.lay, dc_lay f xs]; rfl
theorem dc_dep {α : Type} [DecidableEq α] (f : α → T) [D : DatC f] : ∀ xs : List α, PyData.depthAll (xs.map D.g) ≤ D.n
  | [] => Nat.zero_le _
  | x :: xs => by
    have := D.dep x
    have := dc_dep f xs
    show max _ (PyData.depthAll (xs.map D.g)) ≤ _
    omega
theorem dc_eqv {α : Type} [DecidableEq α] (f : α → T) [D : DatC f] : ∀ xs ys : List α, PyData.eqvAll (xs.map D.g) (ys.map D.g) = decide (xs = ys)
  | [], [] => rfl
  | [], y :: ys => rfl
  | x :: xs, [] => rfl
  | x :: xs, y :: ys => by
    show (PyData.eqv (D.g x) (D.g y) && PyData.eqvAll (xs.map D.g) (ys.map D.g)) = _
    rw [D.eqv, dc_eqv f xs ys]
    by_cases h1 : x = y <;> by_cases h2 : xs = ys <;> simp [h1, h2]
instance dcInt : DatC T.int := ⟨0, PyData.int, fun _ => rfl, fun x y => by show (x == y) = _; by_cases h : x = y <;> simp [h], fun _ => rfl, fun _ => Nat.le_refl _⟩
instance dcBl : DatC T.bl := ⟨0, PyData.bool, fun _ => rfl, fun x y => by show (x == y) = _; by_cases h : x = y <;> simp [h], fun _ => rfl, fun _ => Nat.le_refl _⟩
@[reducible] def dcTup {α : Type} [DecidableEq α] (f : α → T) [D : DatC f] : DatC (fun xs : List α => T.tup (xs.map f)) :=
  ⟨D.n + 1, fun xs => .tuple (xs.map D.g), fun xs => by show (datL (xs.map f)).map _ = _; rw [datL_map f D.g D.dat]; rfl, fun xs ys => dc_eqv f xs ys, fun xs => dc_lay f xs, fun xs => Nat.succ_le_succ (dc_dep f xs)⟩
@[reducible] def dcLst (o : Bool) {α : Type} [DecidableEq α] (f : α → T) [D : DatC f] : DatC (fun xs : List α => T.lst o (xs.map f)) :=
  ⟨D.n + 1, fun xs => .list (xs.map D.g), fun xs => by show (datL (xs.map f)).map _ = _; rw [datL_map f D.g D.dat]; rfl, fun xs ys => dc_eqv f xs ys, fun xs => dc_lay f xs, fun xs => Nat.succ_le_succ (dc_dep f xs)⟩
@[reducible] def dcPair {α β : Type} [DecidableEq α] [DecidableEq β] (f : α → T) [D : DatC f] (h : β → T) [E : DatC h] : DatC (fun p : α × β => T.tup [f p.1, h p.2]) :=
  ⟨max D.n E.n + 1, fun p => .tuple [D.g p.1, E.g p.2], fun p => by show ((f p.1).dat.bind _).map _ = _; rw [D.dat]; show (((h p.2).dat.bind _).map _).map _ = _; rw [E.dat]; rfl,
   fun p r => by
    show (PyData.eqv (D.g p.1) (D.g r.1) && (PyData.eqv (E.g p.2) (E.g r.2) && true)) = _
    rw [D.eqv, E.eqv, Bool.and_true]
    obtain ⟨a, b⟩ := p
    obtain ⟨c, d⟩ := r
    by_cases h1 : a = c <;> by_cases h2 : b = d <;> simp [h1, h2],
   fun p => by show (_ && (_ && true)) = true; rw [D.lay, E.lay]; rfl,
   fun p => by
    have h1 := D.dep p.1
    have h2 := E.dep p.2
    show max _ (max _ 0) + 1 ≤ _
    omega⟩
instance dcDT : DatC (fun d : Int × Int => T.tup [.int d.1, .int d.2]) := dcPair T.int T.int
instance dcTI : DatC (fun xs : List Int => T.tup (xs.map T.int)) := dcTup T.int
instance dcTTI : DatC (fun xs : List (List Int) => T.tup (xs.map fun xs : List Int => T.tup (xs.map T.int))) := dcTup _
theorem dc_sh {α : Type} [DecidableEq α] (f : α → T) [D : DatC f] (h : D.n ≤ 64) (x : α) : SeqAt.shaped (D.g x) = true := by
  have := D.dep x
  unfold SeqAt.shaped
  rw [D.lay, Bool.true_and]
  exact decide_eq_true (by omega)
theorem dc_shL {α : Type} [DecidableEq α] (f : α → T) [D : DatC f] (h : D.n ≤ 63) (xs : List α) : SeqAt.shaped (.list (xs.map D.g)) = true := by
  have := dc_dep f xs
  show (PyData.canLayAll0 (xs.map D.g) && decide (PyData.depthAll (xs.map D.g) + 1 ≤ 64)) = true
  rw [dc_lay, Bool.true_and]
  exact decide_eq_true (by omega)
theorem eq_dc {α : Type} [DecidableEq α] (f : α → T) [D : DatC f] (h : D.n ≤ 64) (neg : Bool) (x y : α) : eqO neg [f x, f y] = some (.bl (neg != decide (x = y)), [f x, f y]) := by
  unfold eqO
  simp only [D.dat, Option.bind_some, dc_sh f h, and_self, if_true, D.eqv]
theorem any_dc {α : Type} [DecidableEq α] (f : α → T) [D : DatC f] (x : α) (l : List α) : ((l.map D.g).any fun z => PyData.eqv z (D.g x)) = decide (x ∈ l) := by
  induction l with
  | nil => rfl
  | cons r l ih =>
    rw [List.map_cons, List.any_cons, ih, D.eqv]
    by_cases h1 : r = x
    · subst h1; simp
    · rw [decide_eq_false h1, Bool.false_or]
      by_cases h2 : x ∈ l
      · rw [decide_eq_true h2, decide_eq_true (List.mem_cons_of_mem _ h2)]
      · rw [decide_eq_false h2, decide_eq_false fun z => (List.mem_cons.mp z).elim (fun z => h1 z.symm) h2]
theorem in_dcT {α : Type} [DecidableEq α] (f : α → T) [D : DatC f] (h : D.n ≤ 63) (neg : Bool) (x : α) (l : List α) : inAO neg [f x, .tup (l.map f)] = some (.bl (neg != decide (x ∈ l)), [f x, .tup (l.map f)]) := by
  unfold inAO
  simp only [D.dat, datL_map f D.g D.dat, Option.bind_some, dc_sh f (Nat.le_trans h (by decide)), dc_shL f h, any_dc, and_self, if_true]
theorem in_dcL {α : Type} [DecidableEq α] (f : α → T) [D : DatC f] (h : D.n ≤ 63) (neg o : Bool) (x : α) (l : List α) : inAO neg [f x, .lst o (l.map f)] = some (.bl (neg != decide (x ∈ l)), [f x, .lst o (l.map f)]) := by
  unfold inAO
  simp only [D.dat, datL_map f D.g D.dat, Option.bind_some, dc_sh f (Nat.le_trans h (by decide)), dc_shL f h, any_dc, and_self, if_true]

theorem defF_go {n : Nat} {ms : List Nat} {body : Fs} {ts us : List T} {t : T} {η0 η : Env} (h0 : ts.map some ++ List.replicate (n - ts.length) none = η0) (h : body η0 = .ok (.rt t) η) (p : pickE ms η = some us) : defF n ms body ts = .ok t us := defF_rt (h0 ▸ h) p
theorem defF_gn {n : Nat} {ms : List Nat} {body : Fs} {ts us : List T} {η0 η : Env} (h0 : ts.map some ++ List.replicate (n - ts.length) none = η0) (h : body η0 = .ok .nx η) (p : pickE ms η = some us) : defF n ms body ts = .ok .non us := defF_nx (h0 ▸ h) p

/-! ### lists within lists, written in place -/
section
variable {K : PySem.W.Frag} {mg : Str → Option Value} {F H : Hp}
/-- one kid alone: the others stay while it changes -/
theorem OwnL.focus : ∀ {vs : List V} {ts : List T} {A : AP} {j : Nat} {t : T}, OwnL K mg F H vs ts A → ts[j]? = some t →
    ∃ v B R, vs[j]? = some v ∧ Own K mg F H v t B ∧ Dis B R ∧ (∀ p, B p → A p) ∧ (∀ p, R p → A p) ∧
      ∀ F' H' t' B', Same F F' → (∀ p o, R p → H p = some o → H' p = some o) → Own K mg F' H' v t' B' → Dis B' R → OwnL K mg F' H' vs (ts.set j t') (Un2 R B')
  | _, _, _, j, t, .nil, e => by simp at e
  | _, _, _, 0, t, .cons (B := B1) (C := C1) h r d m1 m2, e => by
    simp at e
    subst e
    exact ⟨_, B1, C1, rfl, h, d, m1, m2, fun F' H' t' B' s k o' d' => .cons o' (OwnL.mono s _ _ _ _ r k fun _ x => x) d' (fun _ x => .inr x) fun _ x => .inl x⟩
  | _, _, _, j + 1, t, .cons (B := B1) (C := C1) h r d m1 m2, e => by
    obtain ⟨v, B, R, g1, g2, g3, g4, g5, g6⟩ := OwnL.focus (j := j) r (by simpa using e)
    refine ⟨v, B, Un2 B1 R, by simpa using g1, g2, fun p x y => y.elim (fun z => d p z (g4 p x)) (g3 p x), fun p x => m2 p (g4 p x), fun p x => x.elim (m1 p) fun y => m2 p (g5 p y), fun F' H' t' B' s k o' d' => ?_⟩
    have q := g6 F' H' t' B' s (fun p o x => k p o (.inr x)) o' fun p x y => d' p x (.inr y)
    exact .cons (Own.mono s _ _ _ _ h (fun p o x => k p o (.inl x)) fun _ x => x) q (fun p x y => y.elim (fun z => d p x (g5 p z)) fun z => d' p z (.inl x)) (fun p x => .inl (.inl x)) fun p x => x.elim (fun y => .inl (.inr y)) .inr
theorem Own.focusL {v : V} {ts : List T} {A : AP} {j : Nat} {t : T} (h : Own K mg F H v (.lst true ts) A) (e : ts[j]? = some t) :
    ∃ a vs w B R, v = .ref a ∧ H a = some (.lst vs) ∧ vs.length = ts.length ∧ vs[j]? = some w ∧ Own K mg F H w t B ∧ Dis B R ∧ (∀ p, B p → A p) ∧ (∀ p, R p → A p) ∧ R a ∧
      ∀ F' H' t' B', Same F F' → (∀ p o, R p → H p = some o → H' p = some o) → Own K mg F' H' w t' B' → Dis B' R → Own K mg F' H' v (.lst true (ts.set j t')) (Un2 R B') := by
  obtain ⟨a, vs, D, rfl, hH, ol, ha, nD, mD⟩ := h.lst_own
  obtain ⟨w, B, R, g1, g2, g3, g4, g5, g6⟩ := ol.focus e
  refine ⟨a, vs, w, B, fun p => R p ∨ p = a, rfl, hH, ol.length, g1, g2, fun p x y => y.elim (g3 p x) fun z => nD (z ▸ g4 p x), fun p x => mD p (g4 p x), fun p x => x.elim (fun y => mD p (g5 p y)) fun y => y ▸ ha, .inr rfl, fun F' H' t' B' s k o' d' => ?_⟩
  have q := g6 F' H' t' B' s (fun p o x => k p o (.inl x)) o' fun p x y => d' p x (.inl y)
  exact .lst (k a _ (.inr rfl) hH) q (.inl (.inr rfl)) (fun z => z.elim (fun y => nD (g5 a y)) fun y => d' a y (.inr rfl)) fun p x => x.elim (fun y => .inl (.inl y)) .inr
end
/-- whole numbers by names and constants alone -/
inductive PIx where
  | s (n : Nat)
  | c (i : Int)
  | sub (a b : PIx)
  | add (a b : PIx)
def PIx.ev : PIx → Env → Option Int
  | .s n, η => match η[n]? with
    | some (some (.int i)) => some i
    | _ => none
  | .c i, _ => some i
  | .sub a b, η => (a.ev η).bind fun i => (b.ev η).map fun j => i - j
  | .add a b, η => (a.ev η).bind fun i => (b.ev η).map fun j => i + j
/-- the same, told of the slots -/
def PIx.vl : PIx → St → Option Int
  | .s n, σ => match σ[n]? with
    | some (some (.int i)) => some i
    | _ => none
  | .c i, _ => some i
  | .sub a b, σ => (a.vl σ).bind fun i => (b.vl σ).map fun j => i - j
  | .add a b, σ => (a.vl σ).bind fun i => (b.vl σ).map fun j => i + j
def tPI (p : PIx) : TE := fun σ H Q => ∃ i, p.vl σ = some i ∧ Q (.int i) H
section
variable {X : Cx} {W : XW} {a b e e1 e2 : Expr} {p q : PIx} {pos : Pos}
abbrev EP (X : Cx) (e : Expr) (p : PIx) : Prop := PE X e (tPI p)
theorem ep_s {i : Nat} (h : PE X e (tVar i)) : EP X e (.s i) := PE.imp h fun σ H Q ⟨j, e1, q⟩ => by
  unfold PIx.vl at e1
  split at e1
  · rename_i k e2
    cases e1
    exact ⟨_, e2, q⟩
  · cases e1
theorem ep_c {i : Int} (h : PE X e (tC (.int i))) : EP X e (.c i) := PE.imp h fun σ H Q ⟨j, e1, q⟩ => by cases e1; exact q
theorem ep_bin {op : Operator} {g : Int → Int → Int} {r : PIx} (hr : OpR X (binaryOp op) (rI0 fun i j => .int (g i j))) (ha : EP X a p) (hb : EP X b q) (hv : ∀ σ k, r.vl σ = some k → ∃ i j, p.vl σ = some i ∧ q.vl σ = some j ∧ k = g i j) : EP X (.BinOp a op b pos) r :=
  PE.imp (pe_op hr ha hb) fun σ H Q ⟨k, e1, h⟩ => by
    obtain ⟨i, j, h1, h2, rfl⟩ := hv σ k e1
    exact ⟨i, h1, j, h2, i, j, rfl, rfl, h⟩
theorem ev_vl {F H : Hp} {K : PySem.W.Frag} {mg : Str → Option Value} {σ : St} {η : Env} {A : AP} (h : EnvO K mg F H σ η A) : ∀ {p : PIx} {i : Int}, p.ev η = some i → p.vl σ = some i
  | .s n, i, e => by
    unfold PIx.ev at e
    split at e
    · rename_i j e2
      cases e
      obtain ⟨v, B, C, h1, h2, _⟩ := h.take e2
      have := h2.int_inv
      subst this
      unfold PIx.vl
      rw [h1]
    · cases e
  | .c _, i, e => e
  | .sub a b, i, e => by
    unfold PIx.ev at e
    cases qa : a.ev η with
    | none => rw [qa] at e; cases e
    | some x =>
      cases qb : b.ev η with
      | none => rw [qa, qb] at e; cases e
      | some y =>
        rw [qa, qb] at e
        unfold PIx.vl
        rw [ev_vl h qa, ev_vl h qb]
        exact e
  | .add a b, i, e => by
    unfold PIx.ev at e
    cases qa : a.ev η with
    | none => rw [qa] at e; cases e
    | some x =>
      cases qb : b.ev η with
      | none => rw [qa, qb] at e; cases e
      | some y =>
        rw [qa, qb] at e
        unfold PIx.vl
        rw [ev_vl h qa, ev_vl h qb]
        exact e
end
def setN (y : T) (t0 : T) (a b : Int) : Option T := match t0 with
  | .lst true rows => (ixN rows.length a).bind fun j => match rows[j]? with
    | some (.lst true cells) => (ixN cells.length b).map fun l => .lst true (rows.set j (.lst true (cells.set l y)))
    | _ => none
  | _ => none
section
variable {K : PySem.W.Frag} {mg : Str → Option Value} {F H : Hp}
theorem setN_core {v vy : V} {t0 y t1 : T} {C B1 : AP} {a b : Int} (s : Same F H) (g : Good F H (Un2 C B1)) (ho : Own K mg F H v t0 C) (hy : Own K mg F H vy y B1) (d : Dis C B1) (e : setN y t0 a b = some t1) :
    ∃ ad vs w ad2 vs2 l, v = .ref ad ∧ H ad = some (.lst vs) ∧ atI vs a = some w ∧ w = .ref ad2 ∧ H ad2 = some (.lst vs2) ∧ ixN vs2.length b = some l ∧
      ∃ D, Same F (upd H ad2 (.lst (vs2.set l vy))) ∧ Good F (upd H ad2 (.lst (vs2.set l vy))) D ∧ Own K mg F (upd H ad2 (.lst (vs2.set l vy))) v t1 D ∧ Step F H (Un2 C B1) F (upd H ad2 (.lst (vs2.set l vy))) D := by
  unfold setN at e
  split at e
  · rename_i rows
    cases q1 : ixN rows.length a with
    | none => rw [q1] at e; cases e
    | some j =>
      rw [q1] at e
      simp only [Option.bind_some] at e
      split at e
      · rename_i cells er
        cases q2 : ixN cells.length b with
        | none => rw [q2] at e; cases e
        | some l =>
          rw [q2] at e
          cases e
          obtain ⟨ad, vs, w, B, R, rfl, h1, h2, h3, h4, h5, h6, h7, h8, h9⟩ := ho.focusL er
          obtain ⟨ad2, vs2, D, rfl, k1, k2, k3, k4, k5⟩ := h4.lst_own
          obtain ⟨y1, y2, y3, y4⟩ := write_own (o := .lst (vs2.set l vy)) (C := fun p => (R p ∨ D p ∨ B1 p) ∧ p ≠ ad2) s g (.inl (h6 _ k3)) fun p x => ⟨x.1.elim (fun z => .inl (h7 p z)) fun z => z.elim (fun z => .inl (h6 p (k5 p z))) .inr, x.2⟩
          have nD : ∀ p, D p → p ≠ ad2 := fun p z e => k4 (e ▸ z)
          have nR : ∀ p, R p → p ≠ ad2 := fun p z e => h5 ad2 k3 (e ▸ z)
          have n1 : ∀ p, B1 p → p ≠ ad2 := fun p z e => d p (h6 p (e ▸ k3)) z
          have oc : Own K mg F (upd H ad2 (.lst (vs2.set l vy))) (.ref ad2) (.lst true (cells.set l y)) (fun p => (D p ∨ B1 p) ∨ p = ad2) :=
            .lst (B := Un2 D B1) upd_same (ownL_setj (OwnL.mono (fun _ _ q => q) _ _ _ _ k2 (fun p u z q => y4 p u (nD p z) q) fun _ q => q) (Own.mono (fun _ _ q => q) _ _ _ _ hy (fun p u z q => y4 p u (n1 p z) q) fun _ q => q) fun p z q => d p (h6 p (k5 p z)) q) (.inr rfl) (fun z => z.elim k4 fun q => n1 ad2 q rfl) fun p z => .inl z
          have op := h9 F (upd H ad2 (.lst (vs2.set l vy))) _ _ (fun _ _ x => x) (fun p o x z => y4 p o (nR p x) z) oc fun p x y => x.elim (fun z => z.elim (fun z => h5 p (k5 p z) y) fun z => d p (h7 p y) z) fun z => nR p y z
          have m : ∀ p, Un2 R (fun p => (D p ∨ B1 p) ∨ p = ad2) p → ((R p ∨ D p ∨ B1 p) ∧ p ≠ ad2) ∨ p = ad2 := fun p x => x.elim (fun z => .inl ⟨.inl z, nR p z⟩) fun z => z.elim (fun z => z.elim (fun z => .inl ⟨.inr (.inl z), nD p z⟩) fun z => .inl ⟨.inr (.inr z), n1 p z⟩) .inr
          refine ⟨ad, vs, _, ad2, vs2, l, rfl, h1, ?_, rfl, k1, by rw [k2.length]; exact q2, _, y1, y2.mono m, op, ⟨y3.keep, y3.sub, y3.newF, fun p x => y3.newA p (m p x)⟩⟩
          unfold atI
          rw [h2, q1]
          exact h3
      · cases e
  · cases e
end
/-- L[p][q] = e -/
def sSetN (e : Fe T) (i : Nat) (p q : PIx) : Fs := fun η => (e η).bind fun y η1 => match η1[i]? with
  | some (some t0) => match p.ev η1, q.ev η1 with
    | some a, some b => match setN y t0 a b with
      | some t1 => .ok .nx (η1.set i (some t1))
      | none => .bad
    | _, _ => .bad
  | _ => .bad
section
variable {X : Cx} {W : XW} {ms : List Nat}
theorem ss_setN {x : Str} {e ie ie2 : Expr} {fe : Fe T} {i : Nat} {p q : PIx} {pos p1 p2 p3 : Pos} (he : EE X W e fe) (ho : PE X (.Name x p1) (tVar i)) (hp : EP X ie p) (hq : EP X ie2 q) (hpl : PlainIx ie)
    (hs : swapsWithSole [.Subscript (.Subscript (.Name x p1) ie p2) ie2 p3] e pos.line X.env = pure false := by rfl) (hw : swappedStores [.Subscript (.Subscript (.Name x p1) ie p2) ie2 p3] e X.env = pure none := by rfl)
    (ha : ∀ v, assign (.Subscript (.Subscript (.Name x p1) ie p2) ie2 p3) X.env v = (do
      let ov ← holding [v] (eval (.Subscript (.Name x p1) ie p2) X.env)
      let iv ← holding [v, ov] (eval ie2 X.env)
      standAt p3
      holding [v, ov, iv] (setItem ov iv v)
      release [v, ov, iv] []) := by intro _; rfl)
    (h1 : (assignEach [.Subscript (.Subscript (.Name x p1) ie p2) ie2 p3] X.env).map (·.2) = [assign (.Subscript (.Subscript (.Name x p1) ie p2) ie2 p3) X.env] := by rfl) :
    SS X W ms (.Assign [.Subscript (.Subscript (.Name x p1) ie p2) ie2 p3] e pos) (sSetN fe i p q) :=
  PS.imp (ps_asg he (pg_sub (pe_ix ix_list ho hp hpl) hq set_list ha) hs hw h1) fun D σ H h => by
    refine tS.seqE h fun F1 η1 A1 B1 y vy H1 F A S1 ra g1 d1 st1 kk ⟨ηq, eq0⟩ => ?_
    split at kk
    · rename_i t0 e1
      split at kk
      · rename_i a b ea eb
        split at kk
        · rename_i t1 e2
          obtain ⟨v, C, C0, hσ, o0, hn, dC, mC, mC0⟩ := S1.env.take e1
          obtain ⟨ad, vs, w, ad2, vs2, l, rfl, z1, z2, rfl, z3, z4, D', s', g', o', st⟩ := setN_core S1.sub ((S1.good.un g1).mono fun p x => x.elim (fun z => .inl (mC p z)) .inr) o0 ra (fun p x y => d1 p (mC p x) y) e2
          refine ⟨_, hσ, a, ev_vl S1.env ea, ad, vs, a, _, rfl, rfl, .of z1, z2, b, ev_vl S1.env eb, ad2, vs2, b, l, rfl, rfl, z3, z4, ?_⟩
          obtain ⟨gA', dA', kA'⟩ := st.frame (S1.good.mono mC0) fun p y x => y.elim (fun z => dC p z x) fun z => d1 p (mC0 p x) z
          have n2 : EnvO X.K X.mg F1 _ σ (η1.set i none) C0 := hn.mono (fun _ _ x => x) (fun p o x => kA' p o x) fun _ x => x
          have n3 := EnvO.back (D := Un2 C0 D') n2 hσ o' (fun p x y => dA' p x y) (fun p x => .inr x) fun p x => .inl x
          exact kk F1 _ (Un2 C0 D') σ ⟨s', gA'.un g', n3⟩ (st1.trans (st.wide (fun p x => x.elim (fun z => .inl (mC p z)) .inr) fun p x => x.elim (fun z => .inr (.inl (mC0 p z))) .inl)) Kp.refl
        · exact kk.elim
      · exact kk.elim
    · exact kk.elim
end

/-! ### x = L[p]; x[q] = e, as one: x is not known behind it -/
def PIx.no (x : Nat) : PIx → Bool
  | .s n => n != x
  | .c _ => true
  | .sub a b => a.no x && b.no x
  | .add a b => a.no x && b.no x
theorem PIx.vl_set {x : Nat} {v : Option V} {σ : St} : ∀ {p : PIx}, p.no x = true → p.vl (σ.set x v) = p.vl σ
  | .s n, h => by
    have h : n ≠ x := by simpa [PIx.no] using h
    unfold PIx.vl
    rw [List.getElem?_set_ne (Ne.symm h)]
  | .c _, _ => rfl
  | .sub a b, h => by
    obtain ⟨h1, h2⟩ := Bool.and_eq_true_iff.mp h
    unfold PIx.vl
    rw [vl_set h1, vl_set h2]
  | .add a b, h => by
    obtain ⟨h1, h2⟩ := Bool.and_eq_true_iff.mp h
    unfold PIx.vl
    rw [vl_set h1, vl_set h2]
def sAliN (x : Nat) (e : PIx) (i : Nat) (p q : PIx) : Fs := fun η => match η[i]? with
  | some (some t0) => match p.ev η, q.ev η, e.ev η with
    | some a, some b, some y => match setN (.int y) t0 a b with
      | some t1 => if x ≠ i ∧ x < η.length ∧ q.no x = true ∧ e.no x = true then .ok .nx ((η.set i (some t1)).set x none) else .bad
      | none => .bad
    | _, _, _ => .bad
  | _ => .bad
section
variable {X : Cx} {W : XW} {ms : List Nat}
theorem sss_ali {y L : Str} {e ie ie2 : Expr} {x i : Nat} {p q pe : PIx} {g : Fs} {sts : List Stmt} {posA posB py p1 p2 p3 p4 : Pos} (hN : X.N.Nodup) (hiy : X.N[x]? = some y) (hy : Loc X.env.scope y) (hm : ms.contains x = false)
    (ho : PE X (.Name L p1) (tVar i)) (hp : EP X ie p) (hpl : PlainIx ie) (hoy : PE X (.Name y p3) (tVar x)) (hq : EP X ie2 q) (he : EP X e pe) (hr : SSs X W ms sts g)
    (hsA : swapsWith (.Subscript (.Name L p1) ie p2) (some (.Name y py)) posA.line X.env = pure false := by rfl)
    (hs : swapsWithSole [.Subscript (.Name y p3) ie2 p4] e posB.line X.env = pure false := by rfl) (hw : swappedStores [.Subscript (.Name y p3) ie2 p4] e X.env = pure none := by rfl)
    (ha : ∀ v, assign (.Subscript (.Name y p3) ie2 p4) X.env v = (do
      let ov ← holding [v] (eval (.Name y p3) X.env)
      let iv ← holding [v, ov] (eval ie2 X.env)
      standAt p4
      holding [v, ov, iv] (setItem ov iv v)
      release [v, ov, iv] []) := by intro _; rfl)
    (h1 : (assignEach [.Subscript (.Name y p3) ie2 p4] X.env).map (·.2) = [assign (.Subscript (.Name y p3) ie2 p4) X.env] := by rfl)
    (hf : X.fn y = true ∨ X.env.scope.names.lookup y = some .local := by first | exact .inl rfl | exact .inr rfl | assumption) :
    SSs X W ms (.Assign [.Name y py] (.Subscript (.Name L p1) ie p2) posA :: .Assign [.Subscript (.Name y p3) ie2 p4] e posB :: sts) (sSeq (sAliN x pe i p q) g) :=
  PSs.imp (pss_cons (ps_set hN hiy hy (pe_ix ix_list ho hp hpl) hsA hf) (pss_cons (ps_asg he (pg_sub hoy hq set_list ha) hs hw h1) hr)) fun D σ H ⟨F, η, A, S, h⟩ => by
    have h : AfterS X.K X.mg W ms F H A σ (goOn g (sAliN x pe i p q η)) D := h
    unfold sAliN at h
    split at h
    · rename_i t0 e1
      split at h
      · rename_i a b yy ea eb ey
        split at h
        · rename_i t1 e2
          split at h
          · rename_i hx
            obtain ⟨hxi, hxl, hqx, hex⟩ := hx
            obtain ⟨v, C, C0, hσ, o0, hn, dC, mC, mC0⟩ := S.env.take e1
            obtain ⟨ad, vs, w, ad2, vs2, l, rfl, z1, z2, rfl, z3, z4, D', s', g', o', st⟩ := setN_core (B1 := A0) (vy := .int yy) S.sub (S.good.mono fun p x => x.elim (fun z => mC p z) fun z => z.elim) o0 (.frz (.int yy)) (fun p x y => y) e2
            refine ⟨_, hσ, a, ev_vl S.env ea, ad, vs, a, _, rfl, rfl, .of z1, z2, ?_⟩
            show tSeq (tAsg (tPI pe) (gSub (tVar x) (tPI q) rSetL)) (tS X.K X.mg W ms g) D (σ.set x (some (.ref ad2))) H
            have hsl : (σ.set x (some (.ref ad2)))[x]? = some (some (.ref ad2)) := by
              rw [List.getElem?_set_self (by rw [S.env.length]; exact hxl)]
            refine ⟨yy, by rw [PIx.vl_set hex]; exact ev_vl S.env ey, _, hsl, b, by rw [PIx.vl_set hqx]; exact ev_vl S.env eb, ad2, vs2, b, l, rfl, rfl, z3, z4, ?_⟩
            obtain ⟨gA', dA', kA'⟩ := st.frame (S.good.mono mC0) fun p y x => y.elim (fun z => dC p z x) fun z => z.elim
            have n2 : EnvO X.K X.mg F _ σ (η.set i none) C0 := hn.mono (fun _ _ x => x) (fun p o x => kA' p o x) fun _ x => x
            have n3 := EnvO.back (D := Un2 C0 D') n2 hσ o' (fun p x y => dA' p x y) (fun p x => .inr x) fun p x => .inl x
            have n4 : EnvO X.K X.mg F _ (σ.set x (some (.ref ad2))) ((η.set i (some t1)).set x none) (Un2 C0 D') := EnvO.slot (n3.drop x)
            exact tS.mk ⟨s', gA'.un g', n4⟩ ((st.wide (fun p x => x.elim (fun z => mC p z) fun z => z.elim) fun p x => x.elim (fun z => .inr (mC0 p z)) .inl)) (set_keep hm) h
          · exact h.elim
        · exact h.elim
      · exact h.elim
    · exact h.elim
end

/-! ### places: kids of what a name holds, read and written in place -/
theorem Own.ins_own {K : PySem.W.Frag} {mg : Str → Option Value} {F H : Hp} {v : V} {c : Str} {ks : List Str} {ts : List T} {A : AP} (h : Own K mg F H v (.ins true c ks ts) A) : ∃ a C dx fs B, v = .ref a ∧ H a = some (.ins C dx fs) ∧ mg c = some (.ref C) ∧ fs.map (·.1) = ks ∧ OwnL K mg F H (fs.map (·.2)) ts B ∧ A a ∧ ¬ B a ∧ ∀ p, B p → A p := by
  cases h with
  | frz r => cases r
  | ins h1 h2 h3 h4 h5 h6 h7 => exact ⟨_, _, _, _, _, rfl, h1, h2, h3, h4, h5, h6, h7⟩
structure Foc (K : PySem.W.Frag) (mg : Str → Option Value) (F H : Hp) (v : V) (t : T) (A : AP) (w : V) (u : T) (rb : T → T) (B R : AP) : Prop where
  own : Own K mg F H w u B
  dis : Dis B R
  mB : ∀ p, B p → A p
  mR : ∀ p, R p → A p
  back : ∀ F' H' u' B', Same F F' → (∀ p o, R p → H p = some o → H' p = some o) → Own K mg F' H' w u' B' → Dis B' R → Own K mg F' H' v (rb u') (Un2 R B')
def fIx : List Str → Str → Option Nat
  | [], _ => none
  | k :: ks, f => if f = k then some 0 else (fIx ks f).map (· + 1)
theorem fIx_look : ∀ {fs : List (Str × V)} {f : Str} {j : Nat} {w : V}, fIx (fs.map (·.1)) f = some j → (fs.map (·.2))[j]? = some w → fs.lookup f = some w
  | [], f, j, w, e, _ => by cases e
  | (k, x) :: fs, f, j, w, e, q => by
    unfold fIx at e
    simp only [List.map_cons] at e
    by_cases h : f = k
    · rw [if_pos h] at e
      cases e
      subst h
      simp only [List.map_cons, List.getElem?_cons_zero, Option.some.injEq] at q
      rw [List.lookup_cons_self, q]
    · rw [if_neg h] at e
      cases e2 : fIx (fs.map (·.1)) f with
      | none => rw [e2] at e; cases e
      | some i =>
        rw [e2] at e
        cases e
        rw [List.lookup_cons, show (f == k) = false from beq_eq_false_iff_ne.mpr h]
        exact fIx_look e2 (by simpa using q)
section
variable {K : PySem.W.Frag} {mg : Str → Option Value} {F H : Hp} {v w x : V} {t u z : T} {A B R B2 R2 : AP} {rb rb2 : T → T}
theorem Foc.refl (h : Own K mg F H v t A) : Foc K mg F H v t A v t id A A0 :=
  ⟨h, fun _ _ y => y, fun _ x => x, fun _ x => x.elim, fun F' H' u' B' s k o d => Own.mono (fun _ _ x => x) _ _ _ _ o (fun _ _ _ x => x) fun _ x => .inr x⟩
theorem Foc.comp (a : Foc K mg F H v t A w u rb B R) (b : Foc K mg F H w u B x z rb2 B2 R2) : Foc K mg F H v t A x z (rb ∘ rb2) B2 (Un2 R R2) :=
  ⟨b.own, fun p x y => y.elim (fun q => a.dis p (b.mB p x) q) (b.dis p x), fun p x => a.mB p (b.mB p x), fun p x => x.elim (a.mR p) fun y => a.mB p (b.mR p y), fun F' H' u' B' s k o d => by
    have i1 := b.back F' H' u' B' s (fun p o x => k p o (.inr x)) o fun p x y => d p x (.inr y)
    have i2 := a.back F' H' (rb2 u') (Un2 R2 B') s (fun p o x => k p o (.inl x)) i1 fun p x y => x.elim (fun q => a.dis p (b.mR p q) y) fun q => d p q (.inl y)
    exact Own.mono (fun _ _ x => x) _ _ _ _ i2 (fun _ _ _ x => x) fun p x => x.elim (fun y => .inl (.inl y)) fun y => y.elim (fun q => .inl (.inr q)) .inr⟩
end
inductive Stp where
  | ix (p : PIx)
  | fld (c f : Str)
def Stp.go (η : Env) (t : T) : Stp → Option (T × (T → T))
  | .ix p => match t with
    | .lst true xs => (p.ev η).bind fun a => (ixN xs.length a).bind fun j => (xs[j]?).map fun u => (u, fun u' => .lst true (xs.set j u'))
    | _ => none
  | .fld c f => match t with
    | .ins true c' ks xs => if c' = c then (fIx ks f).bind fun j => (xs[j]?).map fun u => (u, fun u' => .ins true c' ks (xs.set j u')) else none
    | _ => none
def goP (η : Env) : List Stp → T → Option (T × (T → T))
  | [], t => some (t, id)
  | s :: ss, t => (s.go η t).bind fun p => (goP η ss p.1).map fun q => (q.1, p.2 ∘ q.2)
def Stp.at (K : PySem.W.Frag) (σ : St) (H : Hp) : Stp → V → V → Prop
  | .ix p, v, w => ∃ a vs i, v = .ref a ∧ H a = some (.lst vs) ∧ p.vl σ = some i ∧ atI vs i = some w
  | .fld _ f, v, w => ∃ a C dx fs, v = .ref a ∧ H a = some (.ins C dx fs) ∧ Cls K C ∧ NoAttr K C f ∧ fs.lookup f = some w
def atP (K : PySem.W.Frag) (σ : St) (H : Hp) : List Stp → V → V → Prop
  | [], v, w => v = w
  | s :: ss, v, w => ∃ z, s.at K σ H v z ∧ atP K σ H ss z w
theorem atP_snoc {K : PySem.W.Frag} {σ : St} {H : Hp} {s : Stp} {w : V} : ∀ {ss : List Stp} {v : V}, atP K σ H (ss ++ [s]) v w → ∃ z, atP K σ H ss v z ∧ s.at K σ H z w
  | [], v, ⟨z, h, e⟩ => ⟨v, rfl, e ▸ h⟩
  | _ :: ss, v, ⟨z, h, e⟩ => let ⟨y, h1, h2⟩ := atP_snoc (ss := ss) e; ⟨y, ⟨z, h, h1⟩, h2⟩
inductive PathC (K : PySem.W.Frag) (mg : Str → Option Value) : List Stp → Prop
  | nil : PathC K mg []
  | ix {p : PIx} {ss : List Stp} : PathC K mg ss → PathC K mg (.ix p :: ss)
  | fld {c f : Str} {ss : List Stp} : InsC K mg c f → PathC K mg ss → PathC K mg (.fld c f :: ss)
theorem go_foc {K : PySem.W.Frag} {mg : Str → Option Value} {F H : Hp} {σ : St} {η : Env} {A0' : AP} (E : EnvO K mg F H σ η A0') : ∀ {ss : List Stp} {v : V} {t u : T} {rb : T → T} {A : AP}, PathC K mg ss → Own K mg F H v t A → goP η ss t = some (u, rb) → ∃ w B R, atP K σ H ss v w ∧ Foc K mg F H v t A w u rb B R
  | [], v, t, u, rb, A, _, h, e => by
    cases e
    exact ⟨v, A, A0, rfl, .refl h⟩
  | s :: ss, v, t, u, rb, A, hc, h, e => by
    unfold goP at e
    cases e1 : s.go η t with
    | none => rw [e1] at e; cases e
    | some p =>
      obtain ⟨u1, rb1⟩ := p
      rw [e1] at e
      simp only [Option.bind_some] at e
      cases e2 : goP η ss u1 with
      | none => rw [e2] at e; cases e
      | some q =>
        obtain ⟨u2, rb2⟩ := q
        rw [e2] at e
        cases e
        have step : ∃ w B R, s.at K σ H v w ∧ Foc K mg F H v t A w u1 rb1 B R := by
          cases s with
          | ix p =>
            unfold Stp.go at e1
            simp only at e1
            split at e1
            · rename_i xs
              cases q1 : p.ev η with
              | none => rw [q1] at e1; cases e1
              | some a =>
                cases q2 : ixN xs.length a with
                | none => rw [q1] at e1; simp only [Option.bind_some] at e1; rw [q2] at e1; cases e1
                | some j =>
                  cases q3 : xs[j]? with
                  | none => rw [q1] at e1; simp only [Option.bind_some] at e1; rw [q2] at e1; simp only [Option.bind_some] at e1; rw [q3] at e1; cases e1
                  | some u0 =>
                    rw [q1] at e1
                    simp only [Option.bind_some] at e1
                    rw [q2] at e1
                    simp only [Option.bind_some] at e1
                    rw [q3] at e1
                    cases e1
                    obtain ⟨a', vs, w, B, R, rfl, h1, h2, h3, h4, h5, h6, h7, h8, h9⟩ := h.focusL q3
                    refine ⟨w, B, R, ⟨a', vs, a, rfl, h1, ev_vl E q1, ?_⟩, ⟨h4, h5, h6, h7, h9⟩⟩
                    unfold atI
                    rw [h2, q2]
                    exact h3
            · cases e1
          | fld c f =>
            unfold Stp.go at e1
            simp only at e1
            split at e1
            · rename_i c' ks xs
              split at e1
              · rename_i ec
                subst ec
                cases q2 : fIx ks f with
                | none => rw [q2] at e1; cases e1
                | some j =>
                  cases q3 : xs[j]? with
                  | none => rw [q2] at e1; simp only [Option.bind_some] at e1; rw [q3] at e1; cases e1
                  | some u0 =>
                    rw [q2] at e1
                    simp only [Option.bind_some] at e1
                    rw [q3] at e1
                    cases e1
                    obtain ⟨a, C, dx, fs, D, rfl, hH, hm, hk, ol, ha, nD, mD⟩ := h.ins_own
                    subst hk
                    obtain ⟨w, B, R, g1, g2, g3, g4, g5, g6⟩ := ol.focus q3
                    cases hc with
                    | fld hi _ =>
                      obtain ⟨z1, z2⟩ := hi C hm
                      refine ⟨w, B, fun p => R p ∨ p = a, ⟨a, C, dx, fs, rfl, hH, z1, z2, fIx_look q2 g1⟩, g2, fun p x y => y.elim (g3 p x) fun z => nD (z ▸ g4 p x), fun p x => mD p (g4 p x), fun p x => x.elim (fun y => mD p (g5 p y)) fun y => y ▸ ha, fun F' H' t' B' s k o' d' => ?_⟩
                      have q := g6 F' H' t' B' s (fun p o x => k p o (.inl x)) o' fun p x y => d' p x (.inl y)
                      exact .ins (k a _ (.inr rfl) hH) hm rfl q (.inl (.inr rfl)) (fun z => z.elim (fun y => nD (g5 a y)) fun y => d' a y (.inr rfl)) fun p x => x.elim (fun y => .inl (.inl y)) .inr
              · cases e1
            · cases e1
        obtain ⟨w1, B1, R1, f1, f2⟩ := step
        have hc2 : PathC K mg ss := by cases hc with | ix h => exact h | fld _ h => exact h
        obtain ⟨w2, B2, R2, f3, f4⟩ := go_foc (ss := ss) E hc2 f2.own e2
        exact ⟨w2, B2, _, ⟨w1, f1, f3⟩, f2.comp f4⟩
def tPl (K : PySem.W.Frag) (i : Nat) (ss : List Stp) : TE := fun σ H Q => ∃ v w, σ[i]? = some (some v) ∧ atP K σ H ss v w ∧ Q w H
section
variable {X : Cx} {i : Nat} {ss : List Stp} {e ie : Expr} {pos : Pos}
theorem pl_name (h : PE X e (tVar i)) : PE X e (tPl X.K i []) := PE.imp h fun σ H Q ⟨v, w, e1, e2, q⟩ => ⟨v, e1, by cases e2; exact q⟩
theorem pl_ix {p : PIx} (h : PE X e (tPl X.K i ss)) (hp : EP X ie p) (hpl : PlainIx ie) : PE X (.Subscript e ie pos) (tPl X.K i (ss ++ [.ix p])) := PE.imp (pe_ix ix_list h hp hpl) fun σ H Q ⟨v, w, e1, e2, q⟩ => by
  obtain ⟨z, h1, a, vs, k, rfl, h2, h3, h4⟩ := atP_snoc e2
  exact ⟨v, _, e1, h1, k, h3, a, vs, k, w, rfl, rfl, .of h2, h4, q⟩
theorem pl_fld {c f : Str} (h : PE X e (tPl X.K i ss)) (hb : attributeBase e f X.env (eval e X.env) = eval e X.env := by rfl) : PE X (.Attribute e f pos) (tPl X.K i (ss ++ [.fld c f])) := PE.imp (pe_fld h hb) fun σ H Q ⟨v, w, e1, e2, q⟩ => by
  obtain ⟨z, h1, a, C, dx, fs, rfl, h2, h3, h4, h5⟩ := atP_snoc e2
  exact ⟨v, _, e1, h1, a, C, dx, fs, w, rfl, h2, h3, h4, h5, q⟩
end
/-- place.m(e, ..): the name is hidden while the arguments are told -/
def eMethP (kd : T → Bool) (i : Nat) (ss : List Stp) (ks : List AK) (op : Om) : Fe T := fun η => match η[i]? with
  | some (some t) => match goP η ss t with
    | some (u, rb) => if kd u = true then (argsF ks (η.set i none)).bind fun as η1 => match valsOf as with
        | some ts => match op u ts with
          | some (r, u') => .ok r (η1.set i (some (rb u')))
          | none => .bad
        | none => .bad
      else .bad
    | none => .bad
  | _ => .bad
section
variable {X : Cx} {W : XW} {i : Nat} {ss : List Stp} {ks : List AK} {op : Om}
theorem hide {α ν : Type} {K : PySem.W.Frag} {mg : Str → Option Value} {R : St → Hp → Hp → ν → α → AP → Prop} {F H : Hp} {σ : St} {η : Env} {A C : AP} {β μ : Type} {R' : St → Hp → Hp → μ → β → AP → Prop} {f : Fe α} {g : α → Fe β} {Q : μ → Hp → Prop} {P : ν → Hp → Prop}
    (S : Sit K mg F H η σ C) (hC : ∀ p, C p → A p) (h : After K mg R' W F H A σ ((f η).bind g) Q)
    (k : ∀ F2 η2 A2 B2 a v H2, Sit K mg F2 H2 η2 σ A2 → R σ F2 H2 v a B2 → Good F2 H2 B2 → Dis A2 B2 → Step F H C F2 H2 (Un2 A2 B2) → After K mg R' W F H A σ (g a η2) Q → P v H2) : tG K mg R W f σ H P := by
  refine ⟨F, η, C, S, ?_⟩
  cases e : f η with
  | ok a η2 =>
    rw [e] at h
    exact fun F2 H2 A2 B2 v s r gd d p => k F2 η2 A2 B2 a v H2 s r gd d p h
  | exc c ks fs η' =>
    rw [e] at h
    exact fun F' H' A' cls d s p ex => h F' H' A' cls d s (p.wide hC fun p x => .inl x) ex
  | bad =>
    rw [e] at h
    exact h
theorem methP_seq {kd : T → Bool} {Ty : String} {r : V → List V → Hp → VK → Prop} (hk : ∀ {F H : Hp} {v : V} {t : T} {A : AP}, Same F H → Own X.K X.mg F H v t A → kd t = true → tyV X.K Ty v H) (ho : OpM X.K X.mg op r) (hc : PathC X.K X.mg ss) {σ : St} {H : Hp} {Q : VK} (h : tE X W (eMethP kd i ss ks op) σ H Q) :
    tBM X.K Ty r (tPl X.K i ss) (tA X W (argsF ks)) σ H Q := by
  obtain ⟨F, η, A, S, h⟩ := h
  unfold eMethP at h
  split at h
  · rename_i t e
    split at h
    · rename_i u rb e1
      split at h
      · rename_i hkt
        obtain ⟨v, B0, C0, h1, h2, h3, h4, h5, h6⟩ := S.env.take e
        obtain ⟨w, B, R, hp, fo⟩ := go_foc S.env hc h2 e1
        refine ⟨v, w, h1, hp, hk S.sub fo.own hkt, ?_⟩
        refine hide (A := A) (η := η.set i none) (C := C0) ⟨S.sub, S.good.mono h6, h3⟩ h6 h fun F1 η1 A1 B1 as vs H1 S1 ra g1 d1 st1 k => ?_
        cases e2 : valsOf as with
        | none => rw [e2] at k; exact k.elim
        | some ts =>
          rw [e2] at k
          simp only at k
          cases e3 : op u ts with
          | none => rw [e3] at k; exact k.elim
          | some p =>
            obtain ⟨z, u'⟩ := p
            rw [e3] at k
            simp only at k
            obtain ⟨gB0, dB0, kB0⟩ := st1.frame (S.good.mono h5) fun p x y => h4 p y x
            have ow : Own X.K X.mg F1 H1 w u B := Own.mono st1.sub _ _ _ _ fo.own (fun p o x => kB0 p o (fo.mB p x)) fun _ x => x
            have ol := RA.vals ra e2
            have oo : OwnL X.K X.mg F1 H1 (w :: vs) (u :: ts) (Un2 B B1) := .cons ow ol (fun p x y => dB0 p (.inr y) (fo.mB p x)) (fun _ x => .inl x) fun _ x => .inr x
            refine ho F1 H1 w vs u ts (Un2 B B1) z u' S1.sub ((gB0.mono fo.mB).un g1) oo e3 Q fun F' H' B' C' y s gb gc o1 o2 dd st => ?_
            have gR : Good F1 H1 R := gB0.mono fo.mR
            obtain ⟨gR', dR', kR'⟩ := st.frame gR fun p x y => x.elim (fun q => fo.dis p q y) fun q => dB0 p (.inr q) (fo.mR p y)
            obtain ⟨gA', dA', kA'⟩ := st.frame S1.good fun p x y => x.elim (fun q => dB0 p (.inl y) (fo.mB p q)) fun q => d1 p y q
            have ov := fo.back F' H' u' B' (fun p o x => st.sub p o (st1.sub p o x)) (fun p o x q => kR' p o x (kB0 p o (fo.mR p x) q)) o1 fun p x q => dR' p (.inl x) q
            have n2 : EnvO X.K X.mg F' H' σ η1 A1 := S1.env.mono st.sub (fun p o x => kA' p o x) fun _ x => x
            have n3 : EnvO X.K X.mg F' H' σ (η1.set i (some (rb u'))) (Un2 A1 (Un2 R B')) := EnvO.back (n2.drop i) h1 ov (fun p x y => x.elim (fun q => dB0 p (.inl y) (fo.mR p q)) fun q => dA' p (.inl q) y) (fun p x => .inr x) fun p x => .inl x
            refine k F' H' (Un2 A1 (Un2 R B')) C' y ⟨s, gA'.un (gR'.un gb), n3⟩ o2 gc (fun p x q => x.elim (fun x => dA' p (.inr q) x) fun x => x.elim (fun x => dR' p (.inr q) x) fun x => dd p x q) ?_
            have sA : Step F H A F1 H1 (Un2 (Un2 A1 B1) B0) := st1.wide h6 fun p x => x.elim .inl fun x => .inr (h5 p x)
            refine sA.trans (st.wide (fun p x => x.elim (fun y => .inr (fo.mB p y)) fun y => .inl (.inr y)) fun p x => ?_)
            exact x.elim (fun x => x.elim (fun x => .inr (.inl (.inl x))) fun x => x.elim (fun x => .inr (.inr (fo.mR p x))) fun x => .inl (.inl x)) fun x => .inl (.inr x)
      · exact h.elim
    · exact h.elim
  · exact h.elim
end

/-! shapes -/
theorem d_res {as : List (Sum Nat T)} {η : Env} {r : Option (List T × Env)} (h : resolve as η = r) : resolve as η = r := h
theorem d_put {as : List (Sum Nat T)} {ts : List T} {η η' : Env} (h : putBack as ts η = η') : putBack as ts η = η' := h
theorem d_back {ms : List Nat} {as : List (Sum Nat T)} {ts : List T} {η η' : Env} (h : backM ms as ts η = η') : backM ms as ts η = η' := h
theorem d_vals {as : List (Sum Nat T)} {r : Option (List T)} (h : valsOf as = r) : valsOf as = r := h
theorem d_wipe {η η' : Env} {is : List Nat} (h : wipeE η is = η') : wipeE η is = η' := h
theorem d_pick {ms : List Nat} {η : Env} {r : Option (List T)} (h : pickE ms η = r) : pickE ms η = r := h
theorem d_frzL {ts us : List T} (h : frzL ts = us) : frzL ts = us := h
theorem d_frz {t u : T} (h : t.frz = u) : t.frz = u := h
theorem d_set {η η' : Env} {i : Nat} {x : Option T} (h : η.set i x = η') : η.set i x = η' := h
theorem d_frzIf {o : Bool} {ts us : List T} (h : frzIf o ts = us) : frzIf o ts = us := h
theorem d_ite {α : Type} {b : Bool} {x y r : α} (h : (if b = true then x else y) = r) : (if b = true then x else y) = r := h
theorem d_chain {ka kb kc : AK} {g g' : Int → Int → Bool} {η : Env} {r : Res T} (h : eChain ka kb kc g g' η = r) : eChain ka kb kc g g' η = r := h

/-! ### methods of lists at places -/
section
variable {X : Cx} {W : XW} {i : Nat} {ss : List Stp} {ks : List AK} {e o : Expr}
theorem ev_appendP {apos cpos : Pos} (ho : PE X o (tPl X.K i ss)) (hc : PathC X.K X.mg ss) (ha : EAs X W [e] ks)
    (hline : (apos.endLine == cpos.line) = true := by rfl) (hs : starEach (e :: []) X.env = (false, eval e X.env) :: starEach [] X.env := by rfl)
    (hbase : attributeBase o "append" X.env (eval o X.env) = eval o X.env := by rfl)
    (hfew : ((backTo cpos (starEach [e] X.env)).all (fun x => !x.1) && (backToKw cpos (keywordEach [] X.env)).all (fun x => x.1.isSome)
      && decide ([e].length + ([] : List Keyword).length + (if ([] : List Keyword).isEmpty then 0 else 1) < 30)) = true := by rfl) :
    EE X W (.Call (.Attribute o "append" apos) [e] [] cpos) (eMethP isL i ss ks appM) :=
  PE.imp (pe_bm PySem.F.plainAttrs_list PySem.F.slot_list_append PySem.F.type_list_append mt_append ho ha hbase hfew hline hs rfl) fun σ H Q h => methP_seq (fun s o e => isL_ty s o e) appM_ok hc h
theorem ev_extendP {apos cpos : Pos} (ho : PE X o (tPl X.K i ss)) (hc : PathC X.K X.mg ss) (ha : EAs X W [e] ks)
    (hline : (apos.endLine == cpos.line) = true := by rfl) (hs : starEach (e :: []) X.env = (false, eval e X.env) :: starEach [] X.env := by rfl)
    (hbase : attributeBase o "extend" X.env (eval o X.env) = eval o X.env := by rfl)
    (hfew : ((backTo cpos (starEach [e] X.env)).all (fun x => !x.1) && (backToKw cpos (keywordEach [] X.env)).all (fun x => x.1.isSome)
      && decide ([e].length + ([] : List Keyword).length + (if ([] : List Keyword).isEmpty then 0 else 1) < 30)) = true := by rfl) :
    EE X W (.Call (.Attribute o "extend" apos) [e] [] cpos) (eMethP isL i ss ks extM) :=
  PE.imp (pe_bm PySem.F.plainAttrs_list PySem.F.slot_list_extend PySem.F.type_list_extend mt_extend ho ha hbase hfew hline hs rfl) fun σ H Q h => methP_seq (fun s o e => isL_ty s o e) extM_ok hc h
end
section
variable {X : Cx} {a b : Expr} {p q : PIx} {pos : Pos}
theorem ep_add (ha : EP X a p) (hb : EP X b q) : EP X (.BinOp a .Add b pos) (.add p q) := ep_bin (g := fun i j => i + j) op_add ha hb fun σ k e => by
  unfold PIx.vl at e
  cases qa : p.vl σ with
  | none => rw [qa] at e; cases e
  | some x =>
    cases qb : q.vl σ with
    | none => rw [qa, qb] at e; cases e
    | some y => rw [qa, qb] at e; cases e; exact ⟨x, y, rfl, rfl, rfl⟩
theorem ep_sub (ha : EP X a p) (hb : EP X b q) : EP X (.BinOp a .Sub b pos) (.sub p q) := ep_bin (g := fun i j => i - j) op_sub ha hb fun σ k e => by
  unfold PIx.vl at e
  cases qa : p.vl σ with
  | none => rw [qa] at e; cases e
  | some x =>
    cases qb : q.vl σ with
    | none => rw [qa, qb] at e; cases e
    | some y => rw [qa, qb] at e; cases e; exact ⟨x, y, rfl, rfl, rfl⟩
end
/-! running places -/
theorem r_methP {kd : T → Bool} {i : Nat} {ss : List Stp} {ks : List AK} {op : Om} {η η0 η1 η2 : Env} {t u u' r : T} {rb : T → T} {as : List (Sum Nat T)} {ts : List T} (h0 : η[i]? = some (some t)) (h1 : goP η ss t = some (u, rb)) (hk : kd u = true) (hE : η.set i none = η0) (h : argsF ks η0 = .ok as η1) (h2 : valsOf as = some ts) (h3 : op u ts = some (r, u')) (h4 : η1.set i (some (rb u')) = η2) : eMethP kd i ss ks op η = .ok r η2 := by
  subst hE
  unfold eMethP
  simp only [h0, h1, hk, if_true, h, Res.bind, h2, h3, h4]
theorem goP_ix {η : Env} {p : PIx} {xs : List T} {a : Int} {j : Nat} {u : T} (h1 : p.ev η = some a) (h2 : 0 ≤ a) (h3 : a.toNat = j) (h4 : xs[j]? = some u) : goP η [.ix p] (.lst true xs) = some (u, fun u' => .lst true (xs.set j u')) := by
  subst h3
  have hl := (List.getElem?_eq_some_iff.mp h4).1
  show (Stp.go η (.lst true xs) (.ix p)).bind _ = _
  unfold Stp.go
  simp only [h1, Option.bind_some, ixN_nat _ _ h2 (show a < (xs.length : Int) by omega), h4, Option.map_some]
  rfl
theorem ev_s {η : Env} {n : Nat} {i : Int} (h : η[n]? = some (some (.int i))) : (PIx.s n).ev η = some i := by
  unfold PIx.ev
  rw [h]
theorem ev_c {η : Env} {i : Int} : (PIx.c i).ev η = some i := rfl
theorem ev_sub {η : Env} {p q : PIx} {i j : Int} (h1 : p.ev η = some i) (h2 : q.ev η = some j) : (PIx.sub p q).ev η = some (i - j) := by
  unfold PIx.ev
  rw [h1, h2]; rfl
theorem ev_add {η : Env} {p q : PIx} {i j : Int} (h1 : p.ev η = some i) (h2 : q.ev η = some j) : (PIx.add p q).ev η = some (i + j) := by
  unfold PIx.ev
  rw [h1, h2]; rfl
theorem setN_of {xs cells : List T} {a b : Int} {j l : Nat} {y : T} (h1 : 0 ≤ a) (h2 : a.toNat = j) (h3 : xs[j]? = some (.lst true cells)) (h4 : 0 ≤ b) (h5 : b.toNat = l) (h6 : l < cells.length) : setN y (.lst true xs) a b = some (.lst true (xs.set j (.lst true (cells.set l y)))) := by
  subst h2 h5
  have hl := (List.getElem?_eq_some_iff.mp h3).1
  unfold setN
  simp only [ixN_nat _ _ h1 (show a < (xs.length : Int) by omega), Option.bind_some, h3, ixN_nat _ _ h4 (show b < (cells.length : Int) by omega), Option.map_some]
theorem r_setN {e : Fe T} {i : Nat} {p q : PIx} {η η1 η2 : Env} {y t0 t1 : T} {a b : Int} (h : e η = .ok y η1) (h0 : η1[i]? = some (some t0)) (hp : p.ev η1 = some a) (hq : q.ev η1 = some b) (h1 : setN y t0 a b = some t1) (h2 : η1.set i (some t1) = η2) : sSetN e i p q η = .ok .nx η2 := by
  unfold sSetN
  rw [h]
  simp only [Res.bind, h0, hp, hq, h1, h2]
theorem r_ali {x : Nat} {e : PIx} {i : Nat} {p q : PIx} {η η2 η3 : Env} {t0 t1 : T} {a b y : Int} (h0 : η[i]? = some (some t0)) (hp : p.ev η = some a) (hq : q.ev η = some b) (he : e.ev η = some y) (h1 : setN (.int y) t0 a b = some t1) (hx : x ≠ i) (hl : x < η.length) (nq : q.no x = true) (ne : e.no x = true) (h2 : η.set i (some t1) = η2) (h3 : η2.set x none = η3) : sAliN x e i p q η = .ok .nx η3 := by
  subst h2
  unfold sAliN
  simp only [h0, hp, hq, he, h1, hx, ne_eq, not_false_eq_true, hl, nq, ne, and_self, if_true, h3]
theorem d_goP {η : Env} {ss : List Stp} {t : T} {r : Option (T × (T → T))} (h : goP η ss t = r) : goP η ss t = r := h
theorem d_ev {η : Env} {p : PIx} {r : Option Int} (h : p.ev η = r) : p.ev η = r := h

/-! ### tuples that are keys; dicts at places -/
theorem Own.kt_inv {K : PySem.W.Frag} {mg : Str → Option Value} {F H : Hp} {v : V} {ks : List Key} {A : AP} (h : Own K mg F H v (.kt ks) A) : ∃ a, v = .ref a ∧ F a = some (.tup (ks.map kV)) := by
  cases h with
  | frz h => cases h with | kt h => exact ⟨_, rfl, h⟩
def toKey : T → Option Key
  | .int i => some (.inl i)
  | .str s => some (.inr s)
  | _ => none
def keysT : List T → Option (List Key)
  | [] => some []
  | t :: ts => (toKey t).bind fun k => (keysT ts).map (k :: ·)
theorem keysT_ok {K : PySem.W.Frag} {mg : Str → Option Value} {F H : Hp} : ∀ {vs : List V} {ts : List T} {A : AP} {ks : List Key}, OwnL K mg F H vs ts A → keysT ts = some ks → vs = ks.map kV
  | [], [], _, ks, .nil, e => by cases e; rfl
  | v :: vs, t :: ts, _, ks, .cons h r _ _ _, e => by
    unfold keysT at e
    cases q : toKey t with
    | none => rw [q] at e; cases e
    | some k =>
      cases q2 : keysT ts with
      | none => rw [q, q2] at e; cases e
      | some l =>
        rw [q, q2] at e
        cases e
        rw [List.map_cons, ← keysT_ok r q2]
        congr 1
        cases t <;> try (cases q; done)
        · cases q; exact h.int_inv
        · cases q; exact h.str_inv
def eKTup (ks : List AK) : Fe T := fun η => (argsF ks η).bind fun as η1 => match valsOf as with
  | some ts => match keysT ts with
    | some k => if k.length ≤ 1000 then .ok (.kt k) η1 else .bad
    | none => .bad
  | none => .bad
theorem ev_ktup {X : Cx} {W : XW} {pos : Pos} {es : List Expr} {ks : List AK} {x1} (h : EAs X W es ks) : EE X W (.Tuple es x1 pos) (eKTup ks) :=
  PE.imp (pe_tup h) fun σ H Q q => tG.seq q fun F1 η1 A1 B1 as vs H1 F A S1 ra g1 d1 st1 k => by
    cases e1 : valsOf as with
    | none => rw [e1] at k; exact k.elim
    | some ts =>
      rw [e1] at k
      simp only at k
      cases e2 : keysT ts with
      | none => rw [e2] at k; exact k.elim
      | some kk =>
        rw [e2] at k
        simp only at k
        split at k
        · rename_i hz
          have ol := RA.vals ra e1
          have ev := keysT_ok ol e2
          refine ⟨by rw [ev, List.length_map]; exact Nat.le_trans hz (by decide), fun p n => ?_⟩
          obtain ⟨gA, stF⟩ := frz_step (B := B1) S1.sub S1.good fun q y z => d1 q z y
          have st2 : Step F1 H1 (Un2 A1 B1) (frzF F1 H1 B1) H1 A1 := stF.weak (fun q y => y.elim .inr .inl) fun _ y => y
          obtain ⟨x1, x2, x3, x4⟩ := new_frz (o := .tup vs) st2 (frzF_sub S1.sub) gA n
          have sm : Same H1 (upd H1 p (.tup vs)) := fun q u e => by rw [upd_ne (ne_of_none e n)]; exact e
          exact k _ _ A1 A0 (.ref p) ⟨x1, x2, S1.env.mono (fun q o y => x4 q o (frzF_same S1.sub q o y)) (fun q o _ y => sm q o y) fun _ y => y⟩ (.frz (.kt (by rw [← ev]; exact upd_same))) Good.a0 (fun _ _ y => y) (st1.trans x3)
        · exact k.elim
def T.froz : T → Bool
  | .lst true _ => false
  | .dk true _ _ => false
  | .dt true _ _ => false
  | .ins true _ _ _ => false
  | _ => true
theorem Own.froz {K : PySem.W.Frag} {mg : Str → Option Value} {F H : Hp} {v : V} {t : T} {A : AP} (h : Own K mg F H v t A) (e : t.froz = true) : Rep K mg F v t := by
  cases h with
  | frz r => exact r
  | lst _ _ _ _ _ => cases e
  | dk _ _ _ _ _ _ => cases e
  | dt _ _ _ _ _ _ => cases e
  | ins _ _ _ _ _ _ _ => cases e
section
variable {κ : Type} [DecidableEq κ]
def kIdx : List κ → κ → Option Nat
  | [], _ => none
  | a :: as, k => if a = k then some 0 else (kIdx as k).map (· + 1)
theorem kIdx_none : ∀ {kvs : List (κ × V)} {k : κ}, kIdx (kvs.map (·.1)) k = none → valV kvs k = none
  | [], _, _ => valV_nil
  | p :: kvs, k, e => by
    unfold kIdx at e
    simp only [List.map_cons] at e
    by_cases h : p.1 = k
    · rw [if_pos h] at e; cases e
    · rw [if_neg h] at e
      rw [valV_neg h]
      cases e2 : kIdx (kvs.map (·.1)) k with
      | none => exact kIdx_none e2
      | some j => rw [e2] at e; cases e
theorem kIdx_some : ∀ {kvs : List (κ × V)} {k : κ} {j : Nat}, kIdx (kvs.map (·.1)) k = some j → ∃ w, (kvs.map (·.2))[j]? = some w ∧ valV kvs k = some w
  | [], _, _, e => by cases e
  | p :: kvs, k, j, e => by
    unfold kIdx at e
    simp only [List.map_cons] at e
    by_cases h : p.1 = k
    · rw [if_pos h] at e
      cases e
      exact ⟨p.2, rfl, valV_pos h⟩
    · rw [if_neg h] at e
      rw [valV_neg h]
      cases e2 : kIdx (kvs.map (·.1)) k with
      | none => rw [e2] at e; cases e
      | some i =>
        rw [e2] at e
        cases e
        obtain ⟨w, h1, h2⟩ := kIdx_some e2
        exact ⟨w, by simpa using h1, h2⟩
end
def dFind (t y : T) : Option (Option T) := match t, y with
  | .dt _ ks ts, .kt k => match kIdx ks k with
    | none => some none
    | some j => (ts[j]?).map some
  | _, _ => none
section
variable {K : PySem.W.Frag} {mg : Str → Option Value} {F H : Hp}
theorem Own.dt_inv {v : V} {o : Bool} {ks : List (List Key)} {ts : List T} {A : AP} (s : Same F H) (h : Own K mg F H v (.dt o ks ts) A) : ∃ a kvs B, v = .ref a ∧ H a = some (.dT kvs) ∧ kvs.map (·.1) = ks ∧ OwnL K mg F H (kvs.map (·.2)) ts B := by
  cases h with
  | frz r => cases r with | dt h1 h2 h3 => exact ⟨_, _, A0, rfl, s _ _ h1, h2, .of_rep h3⟩
  | dt h1 h2 h3 h4 h5 h6 => exact ⟨_, _, _, rfl, h1, h2, h3⟩
theorem Own.dt_own {v : V} {ks : List (List Key)} {ts : List T} {A : AP} (h : Own K mg F H v (.dt true ks ts) A) : ∃ a kvs B, v = .ref a ∧ H a = some (.dT kvs) ∧ kvs.map (·.1) = ks ∧ OwnL K mg F H (kvs.map (·.2)) ts B ∧ A a ∧ ¬ B a ∧ ∀ p, B p → A p := by
  cases h with
  | frz r => cases r
  | dt h1 h2 h3 h4 h5 h6 => exact ⟨_, _, _, rfl, h1, h2, h3, h4, h5, h6⟩
theorem dFind_ok {v w : V} {t y : T} {A B : AP} {r : Option T} (s : Same F H) (ho : Own K mg F H v t A) (hy : Own K mg F H w y B) (e : dFind t y = some r) : ∃ a o, v = .ref a ∧ DGet H a w o ∧ (r = none → o = none) ∧ ∀ z, r = some z → ∃ x D, o = some x ∧ Own K mg F H x z D := by
  unfold dFind at e
  split at e
  · rename_i ow ks ts k
    obtain ⟨a, kvs, D, rfl, h1, h2, h3⟩ := ho.dt_inv s
    obtain ⟨b, rfl, hb⟩ := hy.kt_inv
    subst h2
    refine ⟨a, valV kvs k, rfl, .t h1 (s _ _ hb), ?_⟩
    cases e2 : kIdx (kvs.map (·.1)) k with
    | none =>
      rw [e2] at e
      cases e
      exact ⟨fun _ => kIdx_none e2, fun z q => nomatch q⟩
    | some j =>
      rw [e2] at e
      simp only at e
      obtain ⟨x, x1, x2⟩ := kIdx_some e2
      cases e3 : ts[j]? with
      | none => rw [e3] at e; cases e
      | some z =>
        rw [e3] at e
        cases e
        obtain ⟨x', D', z1, z2, z3⟩ := h3.get e3
        rw [x1] at z1
        cases z1
        exact ⟨(fun q => nomatch q), fun z' q => by cases q; exact ⟨x, D', x2, z2⟩⟩
  · cases e
end
def dSet (t y z : T) : Option T := match t, y with
  | .dt true ks ts, .kt k => if ts.length < sizeLine ∧ kIdx ks k = none then some (.dt true (ks ++ [k]) (ts ++ [z])) else none
  | _, _ => none
theorem dSet_ok {K : PySem.W.Frag} {mg : Str → Option Value} {F H : Hp} {v vy vz : V} {t y z t' : T} {A B B1 : AP} (s : Same F H) (g : Good F H (Un2 A B1)) (ho : Own K mg F H v t A) (hy : Own K mg F H vy y B) (hz : Own K mg F H vz z B1) (d : Dis A B1) (e : dSet t y z = some t') :
    ∃ a H' D, v = .ref a ∧ DPut H a vy vz H' ∧ Same F H' ∧ Good F H' D ∧ Own K mg F H' v t' D ∧ Step F H (Un2 A B1) F H' D := by
  unfold dSet at e
  split at e
  · rename_i ks ts k
    split at e
    · rename_i hc
      cases e
      obtain ⟨a, kvs, D, rfl, h1, h2, h3, h4, h5, h6⟩ := ho.dt_own
      obtain ⟨b, rfl, hb⟩ := hy.kt_inv
      subst h2
      have hl : kvs.length < sizeLine := by have := h3.length; rw [List.length_map] at this; omega
      have pn := putK_new vz (kIdx_none hc.2)
      obtain ⟨y1, y2, y3, y4⟩ := write_own (o := .dT (putK kvs k vz)) (C := Un2 D B1) s g (.inl h4) fun p x => ⟨x.elim (fun q => .inl (h6 p q)) .inr, fun q => x.elim (fun w => h5 (q ▸ w)) fun w => d a h4 (q ▸ w)⟩
      have nD : ∀ p, D p → p ≠ a := fun p w q => h5 (q ▸ w)
      have n1 : ∀ p, B1 p → p ≠ a := fun p w q => d a h4 (q ▸ w)
      refine ⟨a, _, _, rfl, .t h1 (s _ _ hb) hl, y1, y2, ?_, y3⟩
      have e5 : (putK kvs k vz).map (·.2) = kvs.map (·.2) ++ [vz] := by rw [pn, List.map_append]; rfl
      have e6 : (putK kvs k vz).map (·.1) = kvs.map (·.1) ++ [k] := by rw [pn, List.map_append]; rfl
      refine .dt (B := Un2 D B1) upd_same e6 ?_ (.inr rfl) (fun w => w.elim h5 fun q => n1 a q rfl) fun p w => .inl w
      rw [e5]
      exact ownL_appL (OwnL.mono (fun _ _ q => q) _ _ _ _ h3 (fun p u w q => y4 p u (nD p w) q) fun _ q => q) (.cons (B := B1) (C := A0) (Own.mono (fun _ _ q => q) _ _ _ _ hz (fun p u w q => y4 p u (n1 p w) q) fun _ q => q) .nil (fun _ _ q => q) (fun _ q => q) fun _ q => q.elim) fun p x q => d p (h6 p x) q
    · cases e
  · cases e
def eDT0 : Fe T := fun η => .ok (.dt true [] []) η
/-- place[k] -/
def eDGet (i : Nat) (ss : List Stp) (kf : Fe T) : Fe T := fun η => match η[i]? with
  | some (some t) => match goP η ss t with
    | some (u, _) => (kf (η.set i none)).bind fun y η1 => match dFind u y with
      | some (some z) => if z.froz = true then .ok z (η1.set i (some t)) else .bad
      | _ => .bad
    | none => .bad
  | _ => .bad
/-- k in place, k not in place -/
def eDIn (neg : Bool) (kf : Fe T) (i : Nat) (ss : List Stp) : Fe T := fun η => (kf η).bind fun y η1 => match η1[i]? with
  | some (some t) => match goP η1 ss t with
    | some (u, _) => match dFind u y with
      | some r => .ok (.bl (neg != r.isSome)) η1
      | none => .bad
    | none => .bad
  | _ => .bad
/-- place[k] = e -/
def sDPutP (e : Fe T) (i : Nat) (ss : List Stp) (kf : Fe T) : Fs := fun η => (e η).bind fun z η1 => match η1[i]? with
  | some (some t) => match goP η1 ss t with
    | some (u, rb) => (kf (η1.set i none)).bind fun y η2 => match dSet u y z with
      | some u' => .ok .nx (η2.set i (some (rb u')))
      | none => .bad
    | none => .bad
  | _ => .bad
section
variable {X : Cx} {W : XW} {ms : List Nat} {o k e : Expr} {pos pos' : Pos} {i : Nat} {ss : List Stp} {kf fe : Fe T}
theorem ev_dget (hu : X.A.units + 1 < cLine) (ho : PE X o (tPl X.K i ss)) (hc : PathC X.K X.mg ss) (hk : EE X W k kf) (hs : NoSl k) : EE X W (.Subscript o k pos) (eDGet i ss kf) :=
  PE.imp (pe_dget hu ho hk hs) fun σ H Q ⟨F, η, A, S, h⟩ => by
    unfold eDGet at h
    split at h
    · rename_i t e1
      split at h
      · rename_i u rb e2
        obtain ⟨v, B0, C0, h1, h2, h3, h4, h5, h6⟩ := S.env.take e1
        obtain ⟨w, B, R, hp, fo⟩ := go_foc S.env hc h2 e2
        refine ⟨v, w, h1, hp, ?_⟩
        refine hide (A := A) (η := η.set i none) (C := C0) ⟨S.sub, S.good.mono h6, h3⟩ h6 h fun F1 η1 A1 B1 y vy H1 S1 ra g1 d1 st1 kk => ?_
        split at kk
        · rename_i z e3
          split at kk
          · rename_i hz
            obtain ⟨gB0, dB0, kB0⟩ := st1.frame (S.good.mono h5) fun p x y => h4 p y x
            have ow : Own X.K X.mg F1 H1 w u B := Own.mono st1.sub _ _ _ _ fo.own (fun p o x => kB0 p o (fo.mB p x)) fun _ x => x
            obtain ⟨a, ov, rfl, dg, _, m⟩ := dFind_ok S1.sub ow ra e3
            obtain ⟨x, D, rfl, oz⟩ := m z rfl
            refine ⟨a, x, rfl, dg, ?_⟩
            have o0 : Own X.K X.mg F1 H1 v t B0 := Own.mono st1.sub _ _ _ _ h2 (fun p o x => kB0 p o x) fun _ x => x
            have n3 : EnvO X.K X.mg F1 H1 σ (η1.set i (some t)) (Un2 A1 B0) := EnvO.back (S1.env.drop i) h1 o0 (fun p x y => dB0 p (.inl y) x) (fun p x => .inr x) fun p x => .inl x
            exact kk F1 H1 (Un2 A1 B0) A0 x ⟨S1.sub, S1.good.un gB0, n3⟩ (.frz (oz.froz hz)) Good.a0 (fun _ _ y => y) (st1.wide h6 fun p x => x.elim (fun x => x.elim (fun y => .inl (.inl y)) fun y => .inr (h5 p y)) fun y => y.elim)
          · exact kk.elim
        · exact kk.elim
      · exact h.elim
    · exact h.elim
theorem dIn_seq {neg : Bool} {σ : St} {H : Hp} {Q : VK} (hc : PathC X.K X.mg ss) (h : tE X W (eDIn neg kf i ss) σ H Q) : tE X W kf σ H fun y H1 => tPl X.K i ss σ H1 fun x H2 => ∃ a o, x = .ref a ∧ DGet H2 a y o ∧ Q (.bl (neg != o.isSome)) H2 := by
  refine tG.seq h fun F1 η1 A1 B1 y vy H1 F A S1 ra g1 d1 st1 k => ?_
  split at k
  · rename_i t e1
    split at k
    · rename_i u rb e2
      split at k
      · rename_i r e3
        obtain ⟨v, B0, C0, h1, h2, h3, h4, h5, h6⟩ := S1.env.take e1
        obtain ⟨w, B, R, hp, fo⟩ := go_foc S1.env hc h2 e2
        obtain ⟨a, ov, rfl, dg, m1, m2⟩ := dFind_ok S1.sub fo.own ra e3
        refine ⟨v, _, h1, hp, a, ov, rfl, dg, ?_⟩
        have er : ov.isSome = r.isSome := by
          cases r with
          | none => rw [m1 rfl]; rfl
          | some z => obtain ⟨x, D, rfl, _⟩ := m2 z rfl; rfl
        rw [er]
        exact k F1 H1 A1 A0 (.bl _) S1 (.frz (.bl _)) Good.a0 (fun _ _ y => y) (st1.weak (fun _ x => x) fun p x => x.elim .inl fun y => y.elim)
      · exact k.elim
    · exact k.elim
  · exact k.elim
theorem op_dIn (hu : X.A.units + 1 < cLine) : OpR X (compareOp .In) (fun x y H Q => ∃ a o, y = .ref a ∧ DGet H a x o ∧ Q (.bl (false != o.isSome)) H) := by
  intro pins s σ H x y v u Q I rx ry h
  obtain ⟨a, ov, rfl, g, q⟩ := h
  cases (show u = Value.ref a from ry)
  exact d_in hu I g rx fun s3 I3 => ⟨.bl ov.isSome, H, I3, rfl, by simpa using q⟩
theorem op_dNotIn (hu : X.A.units + 1 < cLine) : OpR X (compareOp .NotIn) (fun x y H Q => ∃ a o, y = .ref a ∧ DGet H a x o ∧ Q (.bl (true != o.isSome)) H) := by
  intro pins s σ H x y v u Q I rx ry h
  obtain ⟨a, ov, rfl, g, q⟩ := h
  cases (show u = Value.ref a from ry)
  exact d_notIn hu I g rx fun s3 I3 => ⟨.bl (!ov.isSome), H, I3, rfl, by simpa using q⟩
theorem ev_din {co : CmpOp} {neg : Bool} (hr : OpR X (compareOp co) (fun x y H Q => ∃ a o, y = .ref a ∧ DGet H a x o ∧ Q (.bl (neg != o.isSome)) H)) (ho : PE X o (tPl X.K i ss)) (hc : PathC X.K X.mg ss) (hk : EE X W k kf) (hm : behindInMarks co o = false) : EE X W (.Compare k [co] [o] pos) (eDIn neg kf i ss) :=
  PE.imp (pe_cmpR hr hk ho hm) fun σ H Q h => dIn_seq hc h
theorem et_din {co : CmpOp} {neg : Bool} (hr : OpR X (compareOp co) (fun x y H Q => ∃ a o, y = .ref a ∧ DGet H a x o ∧ Q (.bl (neg != o.isSome)) H)) (ho : PE X o (tPl X.K i ss)) (hc : PathC X.K X.mg ss) (hk : EE X W k kf) (hm : behindInMarks co o = false) : ET X W (.Compare k [co] [o] pos) (tVal (eDIn neg kf i ss)) :=
  PT.imp (pt_cmpR hr hk ho hm) fun σ H Q q => by
    have h1 : tE X W (eDIn neg kf i ss) σ H fun z H' => ∃ k, z = .bl k ∧ Q k H' := tG.seq q fun F1 η1 A1 B1 t v H1 F A S1 ro g1 d1 st1 k => by
      unfold isB at k
      split at k
      · exact ⟨_, Own.bl_inv ro, k F1 H1 A1 A0 _ S1 rfl Good.a0 (fun _ _ x => x) (st1.half A0 fun _ x => x)⟩
      · exact k.elim
    exact dIn_seq hc h1
theorem ss_dput (hu : X.A.units + 1 < cLine) (he : EE X W e fe) (ho : PE X o (tPl X.K i ss)) (hc : PathC X.K X.mg ss) (hk : EE X W k kf) (hs : swapsWith e (some (.Subscript o k pos')) pos.line X.env = pure false := by rfl) : SS X W ms (.Assign [.Subscript o k pos'] e pos) (sDPutP fe i ss kf) :=
  PS.imp (ps_dput hu ho hk he hs) fun D σ H h => by
    refine tS.seqE h fun F1 η1 A1 B1 z vz H1 F A S1 ra g1 d1 st1 kk ⟨ηq, eq0⟩ => ?_
    split at kk
    · rename_i t e1
      split at kk
      · rename_i u rb e2
        obtain ⟨v, B0, C0, h1, h2, h3, h4, h5, h6⟩ := S1.env.take e1
        obtain ⟨w, B, R, hp, fo⟩ := go_foc S1.env hc h2 e2
        refine ⟨v, w, h1, hp, ?_⟩
        refine ⟨F1, η1.set i none, C0, ⟨S1.sub, S1.good.mono h6, h3⟩, ?_⟩
        have kk : AfterS X.K X.mg W ms F H A σ ((kf (η1.set i none)).bind fun y η2 => match dSet u y z with
          | some u' => .ok .nx (η2.set i (some (rb u')))
          | none => .bad) D := kk
        cases e3 : kf (η1.set i none) with
        | bad => rw [e3] at kk; exact kk
        | exc c ks fs η' =>
          rw [e3] at kk
          exact fun F' H' A' cls d s p ex => kk F' H' A' σ cls d s (st1.trans (p.wide (fun p x => .inl (h6 p x)) fun p x => .inl x)) Kp.refl ex
        | ok y η2 =>
          rw [e3] at kk
          have kk : AfterS X.K X.mg W ms F H A σ (match dSet u y z with
            | some u' => .ok .nx (η2.set i (some (rb u')))
            | none => .bad) D := kk
          intro F2 H2 A2 B2 vy S2 ry g2 d2 st2
          cases e4 : dSet u y z with
          | none => rw [e4] at kk; exact kk.elim
          | some u' =>
            rw [e4] at kk
            obtain ⟨gX, dX, kX⟩ := st2.frame ((S1.good.mono h5).un g1) fun p x y => y.elim (fun q => h4 p q x) fun q => d1 p (h6 p x) q
            have ow : Own X.K X.mg F2 H2 w u B := Own.mono st2.sub _ _ _ _ fo.own (fun p o x => kX p o (.inl (fo.mB p x))) fun _ x => x
            have oz : Own X.K X.mg F2 H2 vz z B1 := Own.mono st2.sub _ _ _ _ ra (fun p o x => kX p o (.inr x)) fun _ x => x
            have dBB : Dis B B1 := fun p x y => d1 p (h5 p (fo.mB p x)) y
            obtain ⟨a, H', D', rfl, dp, s', g', o', st'⟩ := dSet_ok S2.sub (gX.mono fun p x => x.elim (fun q => .inl (fo.mB p q)) .inr) ow ry oz dBB e4
            refine ⟨a, H', rfl, dp, ?_⟩
            obtain ⟨gR, dR, kR⟩ := st'.frame (gX.mono fun p (x : R p) => .inl (fo.mR p x)) fun p x y => x.elim (fun q => fo.dis p q y) fun q => d1 p (h5 p (fo.mR p y)) q
            obtain ⟨gA, dA, kA⟩ := st'.frame S2.good fun p x y => dX p (.inl y) (x.elim (fun q => .inl (fo.mB p q)) .inr)
            have ov := fo.back F2 H' u' D' (fun p o x => st2.sub p o x) (fun p o x q => kR p o x (kX p o (.inl (fo.mR p x)) q)) o' fun p x q => dR p x q
            have n2 : EnvO X.K X.mg F2 H' σ η2 A2 := S2.env.mono (fun _ _ x => x) (fun p o x => kA p o x) fun _ x => x
            have n3 : EnvO X.K X.mg F2 H' σ (η2.set i (some (rb u'))) (Un2 A2 (Un2 R D')) := EnvO.back (n2.drop i) h1 ov (fun p x y => x.elim (fun q => dX p (.inl y) (.inl (fo.mR p q))) fun q => dA p q y) (fun p x => .inr x) fun p x => .inl x
            refine kk F2 H' (Un2 A2 (Un2 R D')) σ ⟨s', gA.un (gR.un g'), n3⟩ ?_ Kp.refl
            refine st1.trans ?_
            have sA : Step F1 H1 (Un2 A1 B1) F2 H2 (Un2 A2 (Un2 B0 B1)) := st2.wide (fun p x => .inl (h6 p x)) fun p x => x.elim (fun y => .inl (.inl y)) fun y => .inr (y.elim (fun q => .inl (h5 p q)) .inr)
            refine sA.trans (st'.wide (fun p x => .inr (x.elim (fun q => .inl (fo.mB p q)) .inr)) fun p x => ?_)
            exact x.elim (fun y => .inr (.inl y)) fun y => y.elim (fun q => .inr (.inr (.inl (fo.mR p q)))) .inl
      · exact kk.elim
    · exact kk.elim
theorem ev_dT0 : EE X W (.Dict [] [] pos) eDT0 :=
  PE.imp pe_dnewT fun σ H Q ⟨F, η, A, S, h⟩ => fun p n => by
    obtain ⟨x1, x2, x3, x4, x5, x6⟩ := new_own (o := .dT []) (B := A) (B1 := A) Step.refl S.sub S.good n
    exact h F _ A (fun q => q = p) (.ref p) ⟨x1, x2, S.env.mono (fun _ _ y => y) (fun q o _ y => x6 q o y) fun _ y => y⟩ (.dt (B := A0) upd_same rfl .nil rfl (fun y => y) fun _ y => y.elim) x3 x4 x5
end

end Jo
namespace L2
open PySem PySem.Spec PyProof.Rows
/-! ### methods, functions that attributes hold -/
section
variable {X : Cx} {CX : CXT} {k : Nat} {f C : Addr} {fd : FuncData} {ps : List Str} {sp : Sp} {E : St → XK} {m : Str} {pos apos : Pos} {e o : Expr} {es : List Expr} {ta : TE} {t : TA}
def tMethJ (C : Addr) (m : Str) (sp : Sp) (E : St → XK) (ta : TE) (t : TA) : TE := fun σ H Q => ta σ H fun x H1 => ∃ a dx fs, x = .ref a ∧ H1 a = some (.ins C dx fs) ∧ fs.lookup m = none ∧ t σ H1 fun vs H2 => sp (x :: vs) H2 Q (E σ)
theorem pe_methJ {pl : Sem Bool} (he : PE X o ta) (c : Cls X.K C) (hm : Meth X.K C m f) (F : FnOk X.prog X.w X.K X.mg X.base CX k f fd ps sp) (hr : Room k X.A) (hb : Binds X.K fd ps []) (hx : ∀ σ, PassesAt CX X σ (E σ)) (ha : PA X (e :: es) t)
    (hst : starEach (e :: es) X.env = (false, eval e X.env) :: starEach es X.env := by rfl) (hpl : (backTo pos (starEach es X.env)).any (·.1) = false := by rfl)
    (ht : eval (.Call (.Attribute o m apos) (e :: es) [] pos) X.env = (do
      let ov ← eval o X.env
      standAt apos.atName
      let (g, first) ← holding [ov] (getMethod ov m pl)
      callWith pos g first (backTo pos (starEach (e :: es) X.env)) (backToKw pos (keywordEach [] X.env))) := by rfl) : PE X (.Call (.Attribute o m apos) (e :: es) [] pos) (tMethJ C m sp E ta t) := by
  refine ⟨fun pins s σ H Q I h => ?_⟩
  refine PySem.W.methodCall_KW (pl := pl) (thn (he.run pins s σ H _ I h) fun u s1 ⟨x, H1, I1, rx, a, dx, fs, ex, ea, l, q⟩ => ?_) ht
  subst ex
  cases (show u = Value.ref a from rx)
  refine getmeth_ok I1 ea c hm l (PySem.W.callWith_K (first := [.ref a]) (h₀ := X.base) I.ok.mod.kin hm.kp (thn (ha.run pos pins s1 σ H1 _ I1 q) fun us s2 ⟨vs, H2, I2, r, q2⟩ => ⟨I2.kIn, ?_⟩) hst hpl)
  exact run_fnS (us := .ref a :: us) (vs := .ref a :: vs) F hr hb (hx σ) I2 (.cons rfl r) q2
theorem pe_methJ0 {pl : Sem Bool} (he : PE X o ta) (c : Cls X.K C) (hm : Meth X.K C m f) (F : FnOk X.prog X.w X.K X.mg X.base CX k f fd ps sp) (hr : Room k X.A) (hb : Binds X.K fd ps []) (hx : ∀ σ, PassesAt CX X σ (E σ))
    (ht : eval (.Call (.Attribute o m apos) [] [] pos) X.env = (do
      let ov ← eval o X.env
      standAt apos.atName
      let (g, first) ← holding [ov] (getMethod ov m pl)
      callWith pos g first (backTo pos (starEach [] X.env)) (backToKw pos (keywordEach [] X.env))) := by rfl) : PE X (.Call (.Attribute o m apos) [] [] pos) (tMethJ C m sp E ta tNil) := by
  refine ⟨fun pins s σ H Q I h => ?_⟩
  refine PySem.W.methodCall_KW (pl := pl) (thn (he.run pins s σ H _ I h) fun u s1 ⟨x, H1, I1, rx, a, dx, fs, ex, ea, l, q⟩ => ?_) ht
  subst ex
  cases (show u = Value.ref a from rx)
  refine getmeth_ok I1 ea c hm l ?_
  exact PySem.W.callWith_K0 (first := [.ref a]) I1.kIn hm.kp (run_fnS (us := [.ref a]) (vs := [.ref a]) F hr hb (hx σ) I1 (.cons rfl .nil) q)
/-- the method's name stands in the object itself: what is there, and nothing ahead -/
theorem jo_getattrM {pins : List (Addr × Obj)} {σ : St} {H : Hp} {s : Shared} {a dx : Addr} {fs : List (Str × V)} {v : V} {pl : Sem Bool} {A : Around} {E : Value → Shared → Prop} {Q : Value × List Value → Shared → Prop} (I : Inv X pins σ H s) (e : H a = some (.ins C dx fs)) (c : Cls X.K C) (n : NoAttr X.K C m) (l : fs.lookup m = some v)
    (h : ∀ u s', Inv X pins σ H s' → RelV v u → Q (u, []) s') : wpAny (model X.prog X.w) A (getMethod (.ref a) m pl) Q E s := by
  obtain ⟨mA, O, _, _, _, _⟩ := ins_get I.hok e
  obtain ⟨od, J, hl⟩ := O.look
  have hcan := PySem.F.canon_object_ga
  have hg := PySem.W.plainGet_of (c.get m)
  unfold getMethod specialOf
  refine wpAny_bind (wpAny_bind (J.type.here ((PySem.W.looks_findIn I.kIn hg.1).here ?_)))
  dsimp only
  rw [hcan, if_neg (by decide)]
  refine wpAny_bind (wpAny_bind (J.type.here ((PySem.W.looks_findIn I.kIn hg.2).here ?_)))
  refine wpAny_bind (wpAny_bind (J.type.here ((PySem.W.looks_findIn I.kIn n).here ?_)))
  dsimp only
  refine wpAny_bind (getattr_ok I e c n l fun u s' I' r => wpAny_pure (h u s' I' r))
def tAttrJ (f : Addr) (m : Str) (sp : Sp) (E : St → XK) (ta : TE) (t : TA) : TE := fun σ H Q => ta σ H fun x H1 => ∃ a C dx fs, x = .ref a ∧ H1 a = some (.ins C dx fs) ∧ Cls X.K C ∧ NoAttr X.K C m ∧ fs.lookup m = some (.ref f) ∧ t σ H1 fun vs H2 => sp vs H2 Q (E σ)
theorem pe_attrJ {pl : Sem Bool} (he : PE X o ta) (hk : PySem.W.keepIn X.K (.ref f) = true) (F : FnOk X.prog X.w X.K X.mg X.base CX k f fd ps sp) (hr : Room k X.A) (hb : Binds X.K fd ps []) (hx : ∀ σ, PassesAt CX X σ (E σ)) (ha : PA X (e :: es) t)
    (hst : starEach (e :: es) X.env = (false, eval e X.env) :: starEach es X.env := by rfl) (hpl : (backTo pos (starEach es X.env)).any (·.1) = false := by rfl)
    (ht : eval (.Call (.Attribute o m apos) (e :: es) [] pos) X.env = (do
      let ov ← eval o X.env
      standAt apos.atName
      let (g, first) ← holding [ov] (getMethod ov m pl)
      callWith pos g first (backTo pos (starEach (e :: es) X.env)) (backToKw pos (keywordEach [] X.env))) := by rfl) : PE X (.Call (.Attribute o m apos) (e :: es) [] pos) (tAttrJ (X := X) f m sp E ta t) := by
  refine ⟨fun pins s σ H Q I h => ?_⟩
  refine PySem.W.methodCall_KW (pl := pl) (thn (he.run pins s σ H _ I h) fun u s1 ⟨x, H1, I1, rx, a, C, dx, fs, ex, ea, c, n, l, q⟩ => ?_) ht
  subst ex
  cases (show u = Value.ref a from rx)
  refine jo_getattrM I1 ea c n l fun g s2 I2 rg => ?_
  cases (show g = Value.ref f from rg)
  refine PySem.W.callWith_K (first := []) (h₀ := X.base) I.ok.mod.kin hk (thn (ha.run pos pins s2 σ H1 _ I2 q) fun us s3 ⟨vs, H2, I3, r, q2⟩ => ⟨I3.kIn, ?_⟩) hst hpl
  exact run_fnS F hr hb (hx σ) I3 r q2
end
end L2
namespace Jo
open PySem L2
theorem fIx_none : ∀ {fs : List (Str × V)} {f : Str}, fIx (fs.map (·.1)) f = none → fs.lookup f = none
  | [], _, _ => rfl
  | (k, x) :: fs, f, e => by
    unfold fIx at e
    simp only [List.map_cons] at e
    by_cases h : f = k
    · rw [if_pos h] at e; cases e
    · rw [if_neg h] at e
      rw [List.lookup_cons, show (f == k) = false from beq_eq_false_iff_ne.mpr h]
      cases e2 : fIx (fs.map (·.1)) f with
      | none => exact fIx_none e2
      | some j => rw [e2] at e; cases e
/-- an object of this class, no attribute of this name -/
def isInsM (c m : Str) : T → Bool
  | .ins _ c' fk _ => decide (c' = c) && (fIx fk m).isNone
  | _ => false
theorem isInsM_ok {K : PySem.W.Frag} {mg : Str → Option Value} {F H : Hp} {v : V} {t : T} {A : AP} {c m : Str} {C : Addr} (s : Same F H) (hC : mg c = some (.ref C)) (h : Own K mg F H v t A) (e : isInsM c m t = true) : ∃ a dx fs, v = .ref a ∧ H a = some (.ins C dx fs) ∧ fs.lookup m = none := by
  cases t with
  | ins o c' fk xs =>
    obtain ⟨e1, e2⟩ := Bool.and_eq_true_iff.mp e
    have e1 := of_decide_eq_true e1
    subst e1
    have e2 : fIx fk m = none := by
      cases q : fIx fk m with
      | none => rfl
      | some j => rw [q] at e2; cases e2
    cases h with
    | frz r =>
      cases r with
      | ins h1 h2 h3 h4 =>
        rw [hC] at h2
        cases h2
        subst h3
        exact ⟨_, _, _, rfl, s _ _ h1, fIx_none e2⟩
    | ins h1 h2 h3 h4 h5 h6 h7 =>
      rw [hC] at h2
      cases h2
      subst h3
      exact ⟨_, _, _, rfl, h1, fIx_none e2⟩
  | _ => cases e
/-- name.m(e, ..) of an own object -/
def eMCall (c m : Str) (f : Fn) (ms : List Nat) (i : Nat) (ks : List AK) : Fe T := fun η => match η[i]? with
  | some (some t) => if isInsM c m t = true then eCall f ms (.s i :: ks) η else .bad
  | _ => .bad
section
variable {X : Cx} {W : XW} {k n : Nat} {fA C : Addr} {fd : FuncData} {ps : List Str} {fn : Fn} {ms : List Nat} {c m : Str} {apos pos : Pos} {o e : Expr} {es : List Expr} {ks : List AK} {i : Nat}
theorem mcall_seq (hC : X.mg c = some (.ref C)) (hn : ks.length + 1 = n) {σ : St} {H : Hp} {Q : VK} (h : tE X W (eMCall c m fn ms i ks) σ H Q) : tMethJ C m (spOf X.K X.mg ms n fn) (WE W) (tVar i) (tA X W (argsF ks)) σ H Q := by
  obtain ⟨F, η, A, S, h⟩ := h
  unfold eMCall at h
  split at h
  · rename_i t e1
    split at h
    · rename_i e2
      obtain ⟨v, B, D, h1, h2, _⟩ := S.env.take e1
      obtain ⟨a, dx, fs, rfl, h3, h4⟩ := isInsM_ok S.sub hC h2 e2
      have q := call_seq (n := n) (W := W) (fn := fn) (ms := ms) (ks := .s i :: ks) (by rw [List.length_cons]; exact hn) ⟨F, η, A, S, h⟩
      obtain ⟨v', e3, q2⟩ := seq_K (k := .s i) q
      rw [h1] at e3
      cases e3
      exact ⟨_, h1, a, dx, fs, rfl, h3, h4, q2⟩
    · exact h.elim
  · exact h.elim
theorem ev_meth (ho : PE X o (tVar i)) (hC : X.mg c = some (.ref C)) (hc : Cls X.K C) (hm : Meth X.K C m fA) (F : FnOk X.prog X.w X.K X.mg X.base (L2.CX X.prog X.w) k fA fd ps (spOf X.K X.mg ms n fn)) (hr : Room k X.A) (hb : Binds X.K fd ps []) (tk : Takes X W) (hn : ks.length + 1 = n) (ha : EAs X W (e :: es) ks)
    {pl : Sem Bool} (hst : starEach (e :: es) X.env = (false, eval e X.env) :: starEach es X.env := by rfl) (hpl : (backTo pos (starEach es X.env)).any (·.1) = false := by rfl)
    (ht : eval (.Call (.Attribute o m apos) (e :: es) [] pos) X.env = (do
      let ov ← eval o X.env
      standAt apos.atName
      let (g, first) ← holding [ov] (getMethod ov m pl)
      callWith pos g first (backTo pos (starEach (e :: es) X.env)) (backToKw pos (keywordEach [] X.env))) := by rfl) : EE X W (.Call (.Attribute o m apos) (e :: es) [] pos) (eMCall c m fn ms i ks) :=
  PE.imp (pe_methJ ho hc hm F hr hb (fun σ => passAt tk σ) ha hst hpl ht) fun σ H Q q => mcall_seq hC hn q
theorem ev_meth0 (ho : PE X o (tVar i)) (hC : X.mg c = some (.ref C)) (hc : Cls X.K C) (hm : Meth X.K C m fA) (F : FnOk X.prog X.w X.K X.mg X.base (L2.CX X.prog X.w) k fA fd ps (spOf X.K X.mg ms 1 fn)) (hr : Room k X.A) (hb : Binds X.K fd ps []) (tk : Takes X W)
    {pl : Sem Bool} (ht : eval (.Call (.Attribute o m apos) [] [] pos) X.env = (do
      let ov ← eval o X.env
      standAt apos.atName
      let (g, first) ← holding [ov] (getMethod ov m pl)
      callWith pos g first (backTo pos (starEach [] X.env)) (backToKw pos (keywordEach [] X.env))) := by rfl) : EE X W (.Call (.Attribute o m apos) [] [] pos) (eMCall c m fn ms i []) :=
  PE.imp (pe_methJ0 ho hc hm F hr hb (fun σ => passAt tk σ) ht) fun σ H Q q => by
    obtain ⟨v, h1, a, dx, fs, e1, h2, h3, h4⟩ := mcall_seq (ks := []) hC rfl q
    exact ⟨v, h1, a, dx, fs, e1, h2, h3, tA_nil h4⟩
end

/-! ### a method of a thing just made -/
def callG (f : Fn) (ms : List Nat) (as : List (Sum Nat T)) (η1 : Env) : Res T := match resolve as η1 with
  | some (ts, η2) => match f ts with
    | .ok t us => .ok t (backM ms as us η2)
    | .exc c ks fs us => .exc c ks fs (backM ms as us η2)
    | .bad => .bad
  | none => .bad
def eMCallV (c m : Str) (f : Fn) (ms : List Nat) (e0 : Fe T) (ks : List AK) : Fe T := fun η => (e0 η).bind fun t η1 => if isInsM c m t = true then (argsF ks η1).bind fun as η2 => callG f ms (.inr t :: as) η2 else .bad
section
variable {X : Cx} {W : XW} {k n : Nat} {fA C : Addr} {fd : FuncData} {ps : List Str} {fn : Fn} {ms : List Nat} {c m : Str} {apos pos : Pos} {o e : Expr} {es : List Expr} {ks : List AK} {e0 : Fe T}
theorem callG_core {σ : St} {Q : VK} {F H F1 H1 : Hp} {A A1 B1 : AP} {η1 : Env} {as : List (Sum Nat T)} {vs : List V} (hn : as.length = n) (S1 : Sit X.K X.mg F1 H1 η1 σ A1) (ra : RA X.K X.mg σ F1 H1 vs as B1) (g1 : Good F1 H1 B1) (d1 : Dis A1 B1) (st1 : Step F H A F1 H1 (Un2 A1 B1)) (q : After X.K X.mg (RO X.K X.mg) W F H A σ (callG fn ms as η1) Q) : spOf X.K X.mg ms n fn vs H1 Q (WE W σ) := by
  unfold callG at q
  cases e1 : resolve as η1 with
  | none => rw [e1] at q; exact q.elim
  | some p =>
    obtain ⟨ts, η2⟩ := p
    rw [e1] at q
    simp only at q
    obtain ⟨A', B', n1, o1, d2, m1, m2⟩ := resolve_ok S1.env ra d1 e1
    have gB : Good F1 H1 B' := (S1.good.un g1).mono m2
    have gA : Good F1 H1 A' := S1.good.mono m1
    refine ⟨by rw [ra.length, hn], F1, ts, B', S1.sub, gB, o1, ?_⟩
    cases e2 : fn ts with
    | bad => rw [e2] at q; exact q.elim
    | ok t us =>
      rw [e2] at q
      intro F' H' B'' D v s gb gc oo ov dd st
      obtain ⟨gA', dA', kA'⟩ := st.frame gA fun p x y => d2 p y x
      have n2 : EnvO X.K X.mg F' H' σ η2 A' := n1.mono st.sub (fun p o x => kA' p o x) fun _ x => x
      have n3 : EnvO X.K X.mg F' H' σ (backM ms as us η2) (Un2 A' B'') := backM_ok ra.slots n2 oo (fun p x y => dA' p (.inl y) x) (fun p x => .inl x) fun p x => .inr x
      refine q F' H' (Un2 A' B'') D v ⟨s, gA'.un gb, n3⟩ ov gc (fun p x y => x.elim (fun z => dA' p (.inr y) z) fun z => dd p z y) ?_
      exact st1.trans (st.wide (fun p x => m2 p x) fun p x => x.elim (fun y => y.elim (fun z => .inr (.inl (m1 p z))) fun z => .inl (.inl z)) fun y => .inl (.inr y))
    | exc c kk fs us =>
      rw [e2] at q
      intro F' H' B'' cls d s gb oo st ex
      obtain ⟨gA', dA', kA'⟩ := st.frame gA fun p x y => d2 p y x
      have n2 : EnvO X.K X.mg F' H' σ η2 A' := n1.mono st.sub (fun p o x => kA' p o x) fun _ x => x
      have n3 : EnvO X.K X.mg F' H' σ (backM ms as us η2) (Un2 A' B'') := backM_ok ra.slots n2 oo (fun p x y => dA' p y x) (fun p x => .inl x) fun p x => .inr x
      refine q F' H' (Un2 A' B'') cls d ⟨s, gA'.un gb, n3⟩ ?_ ex
      exact st1.trans (st.wide (fun p x => m2 p x) fun p x => x.elim (fun z => .inr (.inl (m1 p z))) fun z => .inl z)
theorem mcallV_seq (hC : X.mg c = some (.ref C)) (hn : ks.length + 1 = n) {σ : St} {H : Hp} {Q : VK} (h : tE X W (eMCallV c m fn ms e0 ks) σ H Q) : tMethJ C m (spOf X.K X.mg ms n fn) (WE W) (tE X W e0) (tA X W (argsF ks)) σ H Q := by
  refine tG.seq h fun F1 η1 A1 B1 t v H1 F A S1 ro g1 d1 st1 q => ?_
  split at q
  · rename_i e2
    obtain ⟨a, dx, fs, rfl, h3, h4⟩ := isInsM_ok S1.sub hC ro e2
    refine ⟨a, dx, fs, rfl, h3, h4, F1, η1, A1, S1, ?_⟩
    cases e3 : argsF ks η1 with
    | bad => rw [e3] at q; exact q
    | exc c kk fs η' =>
      rw [e3] at q
      have gB := g1
      exact fun F' H' A' cls d s p ex => q F' H' A' cls d s (st1.trans ((p.wide (fun p x => .inl x) fun p x => .inl x))) ex
    | ok as η2 =>
      rw [e3] at q
      have q : After X.K X.mg (RO X.K X.mg) W F H A σ (callG fn ms (.inr t :: as) η2) Q := q
      intro F2 H2 A2 B2 vs S2 ra g2 d2 st2
      obtain ⟨gX, dX, kX⟩ := st2.frame g1 fun p x y => d1 p x y
      have o2 : Own X.K X.mg F2 H2 (.ref a) t B1 := Own.mono st2.sub _ _ _ _ ro (fun p o x => kX p o x) fun _ x => x
      have ra2 : RA X.K X.mg σ F2 H2 (.ref a :: vs) (.inr t :: as) (Un2 B1 B2) := .val o2 ra (fun p x y => dX p (.inr y) x) (fun _ x => .inl x) fun _ x => .inr x
      refine callG_core (by rw [List.length_cons, argsF_len e3]; exact hn) S2 ra2 (gX.un g2) (fun p x y => y.elim (fun z => dX p (.inl x) z) fun z => d2 p x z) ?_ q
      exact st1.trans (st2.wide (fun p x => .inl x) fun p x => x.elim (fun y => .inl (.inl y)) fun y => y.elim (fun z => .inr (.inr z)) fun z => .inl (.inr z))
  · exact q.elim
theorem ev_methV (ho : EE X W o e0) (hC : X.mg c = some (.ref C)) (hc : Cls X.K C) (hm : Meth X.K C m fA) (F : FnOk X.prog X.w X.K X.mg X.base (L2.CX X.prog X.w) k fA fd ps (spOf X.K X.mg ms n fn)) (hr : Room k X.A) (hb : Binds X.K fd ps []) (tk : Takes X W) (hn : ks.length + 1 = n) (ha : EAs X W (e :: es) ks)
    {pl : Sem Bool} (hst : starEach (e :: es) X.env = (false, eval e X.env) :: starEach es X.env := by rfl) (hpl : (backTo pos (starEach es X.env)).any (·.1) = false := by rfl)
    (ht : eval (.Call (.Attribute o m apos) (e :: es) [] pos) X.env = (do
      let ov ← eval o X.env
      standAt apos.atName
      let (g, first) ← holding [ov] (getMethod ov m pl)
      callWith pos g first (backTo pos (starEach (e :: es) X.env)) (backToKw pos (keywordEach [] X.env))) := by rfl) : EE X W (.Call (.Attribute o m apos) (e :: es) [] pos) (eMCallV c m fn ms e0 ks) :=
  PE.imp (pe_methJ ho hc hm F hr hb (fun σ => passAt tk σ) ha hst hpl ht) fun σ H Q q => mcallV_seq hC hn q
theorem ev_methV0 (ho : EE X W o e0) (hC : X.mg c = some (.ref C)) (hc : Cls X.K C) (hm : Meth X.K C m fA) (F : FnOk X.prog X.w X.K X.mg X.base (L2.CX X.prog X.w) k fA fd ps (spOf X.K X.mg ms 1 fn)) (hr : Room k X.A) (hb : Binds X.K fd ps []) (tk : Takes X W)
    {pl : Sem Bool} (ht : eval (.Call (.Attribute o m apos) [] [] pos) X.env = (do
      let ov ← eval o X.env
      standAt apos.atName
      let (g, first) ← holding [ov] (getMethod ov m pl)
      callWith pos g first (backTo pos (starEach [] X.env)) (backToKw pos (keywordEach [] X.env))) := by rfl) : EE X W (.Call (.Attribute o m apos) [] [] pos) (eMCallV c m fn ms e0 []) :=
  PE.imp (pe_methJ0 ho hc hm F hr hb (fun σ => passAt tk σ) ht) fun σ H Q q => by
    obtain ⟨F1, η, A, S, h⟩ := mcallV_seq (ks := []) hC rfl q
    exact ⟨F1, η, A, S, h.imp fun _ _ _ _ _ _ _ v _ _ _ _ _ ⟨a, dx, fs, e1, h2, h3, h4⟩ => ⟨a, dx, fs, e1, h2, h3, tA_nil h4⟩⟩
end
/-! ### a function that an attribute holds; attributes read in place -/
def eACall (c m g : Str) (f : Fn) (i : Nat) (ks : List AK) : Fe T := fun η => match η[i]? with
  | some (some t) => match goP η [.fld c m] t with
    | some (.gl g', _) => if g' = g then eCall f [] ks η else .bad
    | _ => .bad
  | _ => .bad
section
variable {X : Cx} {W : XW} {k n : Nat} {fA : Addr} {fd : FuncData} {ps : List Str} {fn : Fn} {c m g : Str} {apos pos : Pos} {o e : Expr} {es : List Expr} {ks : List AK} {i : Nat}
theorem ev_acall (ho : PE X o (tVar i)) (hi : InsC X.K X.mg c m) (hg : X.mg g = some (.ref fA)) (hk : PySem.W.keepIn X.K (.ref fA) = true) (F : FnOk X.prog X.w X.K X.mg X.base (L2.CX X.prog X.w) k fA fd ps (spOf X.K X.mg [] n fn)) (hr : Room k X.A) (hb : Binds X.K fd ps []) (tk : Takes X W) (hn : ks.length = n) (ha : EAs X W (e :: es) ks)
    {pl : Sem Bool} (hst : starEach (e :: es) X.env = (false, eval e X.env) :: starEach es X.env := by rfl) (hpl : (backTo pos (starEach es X.env)).any (·.1) = false := by rfl)
    (ht : eval (.Call (.Attribute o m apos) (e :: es) [] pos) X.env = (do
      let ov ← eval o X.env
      standAt apos.atName
      let (g, first) ← holding [ov] (getMethod ov m pl)
      callWith pos g first (backTo pos (starEach (e :: es) X.env)) (backToKw pos (keywordEach [] X.env))) := by rfl) : EE X W (.Call (.Attribute o m apos) (e :: es) [] pos) (eACall c m g fn i ks) :=
  PE.imp (pe_attrJ (f := fA) ho hk F hr hb (fun σ => passAt tk σ) ha hst hpl ht) fun σ H Q ⟨F, η, A, S, h⟩ => by
    unfold eACall at h
    split at h
    · rename_i t e1
      split at h
      · rename_i g' rb e2
        split at h
        · rename_i eg
          subst eg
          obtain ⟨v, B0, C0, h1, h2, _⟩ := S.env.take e1
          obtain ⟨w, B, R, ⟨z, ⟨a, C, dx, fs, rfl, q1, q2, q3, q4⟩, e3⟩, fo⟩ := go_foc S.env (.fld hi .nil) h2 e2
          cases e3
          obtain ⟨b, rfl, q5⟩ := Own.gl_inv fo.own
          rw [hg] at q5
          cases q5
          exact ⟨_, h1, a, C, dx, fs, rfl, q1, q2, q3, q4, call_seq hn ⟨F, η, A, S, h⟩⟩
        · exact h.elim
      · exact h.elim
    · exact h.elim
/-- a place's thing that is frozen -/
def eGetP (i : Nat) (ss : List Stp) : Fe T := fun η => match η[i]? with
  | some (some t) => match goP η ss t with
    | some (u, _) => if u.froz = true then .ok u η else .bad
    | none => .bad
  | _ => .bad
theorem ev_getP {ss : List Stp} (ho : PE X o (tPl X.K i ss)) (hc : PathC X.K X.mg ss) : EE X W o (eGetP i ss) :=
  PE.imp ho fun σ H Q ⟨F, η, A, S, h⟩ => by
    unfold eGetP at h
    split at h
    · rename_i t e1
      split at h
      · rename_i u rb e2
        split at h
        · rename_i hz
          obtain ⟨v, B0, C0, h1, h2, _⟩ := S.env.take e1
          obtain ⟨w, B, R, hp, fo⟩ := go_foc S.env hc h2 e2
          exact ⟨v, w, h1, hp, h F H A A0 w S (.frz (fo.own.froz hz)) Good.a0 (fun _ _ y => y) (Step.refl.weak (fun _ x => x) fun p x => x.elim id fun y => y.elim)⟩
        · exact h.elim
      · exact h.elim
    · exact h.elim
theorem ev_glob {x : Str} {p : Pos} (hgl : Gl X x) (hg : X.mg x = some (.ref fA)) (hk : PySem.W.keepIn X.K (.ref fA) = true) (hdb : (x == ("__debug__" : Str)) = false := by decide) : EE X W (.Name x p) (eC (.gl x)) :=
  const_ok (pe_glob (v := .ref fA) hgl hg rfl hdb) fun _ _ _ => .frz (.gl hg)
end
theorem hu1 {k : Nat} {A : Around} (r : Room k A) : A.units + 1 < cLine := by have := r.un; omega

/-! ### running methods, dicts, attributes -/
theorem r_mcall {c m : Str} {f : Fn} {ms : List Nat} {i : Nat} {ks : List AK} {η η1 η2 η3 : Env} {as : List (Sum Nat T)} {ts us : List T} {t t0 : T} (h0 : η[i]? = some (some t0)) (hk : isInsM c m t0 = true) (h : argsF (.s i :: ks) η = .ok as η1) (h2 : resolve as η1 = some (ts, η2)) (h3 : f ts = .ok t us) (h4 : backM ms as us η2 = η3) : eMCall c m f ms i ks η = .ok t η3 := by
  unfold eMCall
  simp only [h0, hk, if_true]
  exact eCall_r h h2 h3 h4
theorem r_mcallV {c m : Str} {f : Fn} {ms : List Nat} {e0 : Fe T} {ks : List AK} {η η0 η1 η2 η3 : Env} {as : List (Sum Nat T)} {ts us : List T} {t t0 : T} (he : e0 η = .ok t0 η0) (hk : isInsM c m t0 = true) (h : argsF ks η0 = .ok as η1) (h2 : resolve (.inr t0 :: as) η1 = some (ts, η2)) (h3 : f ts = .ok t us) (h4 : backM ms (.inr t0 :: as) us η2 = η3) : eMCallV c m f ms e0 ks η = .ok t η3 := by
  unfold eMCallV
  rw [he]
  simp only [Res.bind, hk, if_true, h]
  unfold callG
  simp only [h2, h3, h4]
theorem r_acall {c m g : Str} {f : Fn} {i : Nat} {ks : List AK} {η : Env} {t0 : T} {rb : T → T} {r : Res T} (h0 : η[i]? = some (some t0)) (h1 : goP η [.fld c m] t0 = some (.gl g, rb)) (h : eCall f [] ks η = r) : eACall c m g f i ks η = r := by
  unfold eACall
  simp only [h0, h1, if_true]
  exact h
theorem r_getP {i : Nat} {ss : List Stp} {η : Env} {t u : T} {rb : T → T} (h0 : η[i]? = some (some t)) (h1 : goP η ss t = some (u, rb)) (hz : u.froz = true) : eGetP i ss η = .ok u η := by
  unfold eGetP
  simp only [h0, h1, hz, if_true]
theorem r_dget {i : Nat} {ss : List Stp} {kf : Fe T} {η η0 η1 η2 : Env} {t u y z : T} {rb : T → T} (h0 : η[i]? = some (some t)) (h1 : goP η ss t = some (u, rb)) (hE : η.set i none = η0) (hk : kf η0 = .ok y η1) (hf : dFind u y = some (some z)) (hz : z.froz = true) (h2 : η1.set i (some t) = η2) : eDGet i ss kf η = .ok z η2 := by
  subst hE
  unfold eDGet
  simp only [h0, h1, hk, Res.bind, hf, hz, if_true, h2]
theorem r_din {neg b : Bool} {i : Nat} {ss : List Stp} {kf : Fe T} {η η1 : Env} {t u y : T} {rb : T → T} {r : Option T} (hk : kf η = .ok y η1) (h0 : η1[i]? = some (some t)) (h1 : goP η1 ss t = some (u, rb)) (hf : dFind u y = some r) (hb : (neg != r.isSome) = b) : eDIn neg kf i ss η = .ok (.bl b) η1 := by
  subst hb
  unfold eDIn
  rw [hk]
  simp only [Res.bind, h0, h1, hf]
theorem r_dput {e : Fe T} {i : Nat} {ss : List Stp} {kf : Fe T} {η η0 η1 η2 η3 : Env} {t u u' y z : T} {rb : T → T} (he : e η = .ok z η1) (h0 : η1[i]? = some (some t)) (h1 : goP η1 ss t = some (u, rb)) (hE : η1.set i none = η0) (hk : kf η0 = .ok y η2) (hd : dSet u y z = some u') (h2 : η2.set i (some (rb u')) = η3) : sDPutP e i ss kf η = .ok .nx η3 := by
  subst hE
  unfold sDPutP
  rw [he]
  simp only [Res.bind, h0, h1, hk, hd, h2]
theorem r_ktup {ks : List AK} {η η1 : Env} {as : List (Sum Nat T)} {ts : List T} {k : List Key} (h : argsF ks η = .ok as η1) (h2 : valsOf as = some ts) (h3 : keysT ts = some k) (hz : k.length ≤ 1000) : eKTup ks η = .ok (.kt k) η1 := by
  unfold eKTup
  rw [h]
  simp only [Res.bind, h2, h3, hz, if_true]
theorem goP_fld {η : Env} {c f : Str} {ks : List Str} {xs : List T} {j : Nat} {u : T} (h1 : fIx ks f = some j) (h2 : xs[j]? = some u) : goP η [.fld c f] (.ins true c ks xs) = some (u, fun u' => .ins true c ks (xs.set j u')) := by
  show (Stp.go η (.ins true c ks xs) (.fld c f)).bind _ = _
  unfold Stp.go
  simp only [if_true, h1, Option.bind_some, h2, Option.map_some]
  rfl
theorem frz_kt (k : List Key) : (T.kt k).frz = .kt k := rfl
theorem frz_gl (c : Str) : (T.gl c).frz = .gl c := rfl

/-! ### a < b, of alike data -/
def rLtD (K : PySem.W.Frag) : R2 := fun x y H Q => ∃ d e, Dp K H x d ∧ Dp K H y e ∧ PySem.W.alike d e = true ∧ d ≠ PyData.none ∧ SeqAt.shaped d = true ∧ Q (.bl (PySem.W.dataLt d e)) H
theorem op_ltD {X : Cx} (hu : X.A.units + 65 < cLine) : OpR X (compareOp .Lt) (rLtD X.K) := by
  intro pins s σ H x y v u Q I rx ry h
  obtain ⟨d, e, hd, he, ha, hn, sd, q⟩ := h
  obtain ⟨as, r1⟩ := Dp.reads I d x v hd rx
  obtain ⟨bs, r2⟩ := Dp.reads I e y u he ry
  exact PySem.W.lt_data r1 r2 ha hn (by have := SeqAt.depth_of_shaped sd; omega) ⟨.bl _, H, I, rfl, q⟩
def someD : PyData → Bool
  | .none => false
  | _ => true
def ltDO : Op := fun ts => match ts with
  | [x, y] => x.dat.bind fun d => y.dat.bind fun e => if PySem.W.alike d e = true ∧ someD d = true ∧ SeqAt.shaped d = true then some (.bl (PySem.W.dataLt d e), ts) else none
  | _ => none
theorem ltDO_ok {X : Cx} : OpS X.K X.mg ltDO fun vs H Q => ∃ x y, vs = [x, y] ∧ rLtD X.K x y H Q :=
  OpS.same fun F H vs ts B t ts' s o e => by
    unfold ltDO at e
    split at e
    · rename_i x y
      obtain ⟨v, w, B1, B2, rfl, o1, o2, _⟩ := o.two
      cases q1 : x.dat with
      | none => rw [q1] at e; simp at e
      | some d =>
        cases q2 : y.dat with
        | none => rw [q1, q2] at e; simp at e
        | some d2 =>
          rw [q1, q2] at e
          simp only [Option.bind_some] at e
          split at e
          · rename_i c
            cases e
            exact ⟨rfl, _, .bl _, fun Q k => ⟨_, _, rfl, d, d2, Own.dp s _ _ _ _ o1 q1, Own.dp s _ _ _ _ o2 q2, c.1, (fun z => by rw [z] at c; cases c.2.1), c.2.2, k⟩⟩
          · cases e
    · cases e
theorem o_ltT (x y : List Int) : ltDO [.tup (x.map T.int), .tup (y.map T.int)] = some (.bl (PySem.W.listLt x y), [.tup (x.map T.int), .tup (y.map T.int)]) := by
  have e1 : ∀ z : List Int, (T.tup (z.map T.int)).dat = some (.tuple (z.map PyData.int)) := fun z => by
    show (datL (z.map T.int)).map _ = _
    rw [datL_intT z]; rfl
  have a : PySem.W.alike (.tuple (x.map PyData.int)) (.tuple (y.map PyData.int)) = true := PySem.W.DatumOrd.alike (PySem.W.Tup.mk x) (PySem.W.Tup.mk y)
  have l : PySem.W.dataLt (.tuple (x.map PyData.int)) (.tuple (y.map PyData.int)) = PySem.W.listLt x y := PySem.W.DatumOrd.lt_eq (PySem.W.Tup.mk x) (PySem.W.Tup.mk y)
  have s : SeqAt.shaped (.tuple (x.map PyData.int)) = true := dc_sh (fun xs : List Int => T.tup (xs.map T.int)) (by decide) x
  unfold ltDO
  simp only [e1, Option.bind_some, a, s, l, someD, and_self, if_true]

theorem goP_ix2 {η : Env} {p q : PIx} {xs ys : List T} {a b : Int} {j l : Nat} {u : T} (h1 : p.ev η = some a) (h2 : q.ev η = some b) (h3 : 0 ≤ a) (h4 : a.toNat = j) (h5 : xs[j]? = some (.lst true ys)) (h6 : 0 ≤ b) (h7 : b.toNat = l) (h8 : ys[l]? = some u) : goP η [.ix p, .ix q] (.lst true xs) = some (u, fun u' => .lst true (xs.set j (.lst true (ys.set l u')))) := by
  have e1 := goP_ix (η := η) (p := p) h1 h3 h4 h5
  have e2 := goP_ix (η := η) (p := q) h2 h6 h7 h8
  have step : goP η [.ix p, .ix q] (.lst true xs) = (Stp.go η (.lst true xs) (.ix p)).bind fun r => (goP η [.ix q] r.1).map fun s => (s.1, r.2 ∘ s.2) := rfl
  subst h4
  have hl := (List.getElem?_eq_some_iff.mp h5).1
  rw [step]
  unfold Stp.go
  simp only [h1, Option.bind_some, ixN_nat _ _ h3 (show a < (xs.length : Int) by omega), h5, Option.map_some, e2]
  rfl

/-! ### {i: x}; isinstance of own objects -/
theorem upd_non {H : Hp} {p q : Addr} {o : HO} (h : upd H p o q = none) : H q = none := by
  by_cases e : q = p
  · subst e
    rw [upd_same] at h; cases h
  · rwa [upd_ne e] at h
theorem step_pre {F H F' H' : Hp} {A A' : AP} {p : Addr} {o : HO} (h : Step F (upd H p o) A F' H' A') (n : H p = none) : Step F H A F' H' A' := ⟨fun q u a e => h.keep q u a (by rw [upd_ne (ne_of_none e n)]; exact e), h.sub, fun q u e => (h.newF q u e).imp_right fun z => z.imp_right upd_non, fun q a => (h.newA q a).imp_right upd_non⟩
def eD1 (i : Int) (f : Fe T) : Fe T := fun η => (f η).bind fun t η1 => .ok (.dk true [.inl i] [t]) η1
section
variable {X : Cx} {W : XW} {pos : Pos} {k v : Expr} {i : Int} {f : Fe T}
theorem ev_d1 (hk : PE X k (tC (.int i))) (hv : EE X W v f) : EE X W (.Dict [some k] [v] pos) (eD1 i f) :=
  PE.imp (pe_disp (pps_cons hk hv pps_nil) rfl rfl (by simp) (by simp)) fun σ H Q ⟨F, η, A, S, q⟩ p n => by
    have na : ¬ A p := fun a => (S.good p a).2 n
    have up : ∀ q u, H q = some u → upd H p (.dK []) q = some u := fun q u e => by rw [upd_ne (ne_of_none e n)]; exact e
    show tE X W f σ (upd H p (.dK [])) fun y H2 => _
    refine ⟨F, η, A, ⟨fun q u e => up q u (S.sub q u e), fun q a => ⟨(S.good q a).1, fun z => (S.good q a).2 (upd_non z)⟩, S.env.mono (fun _ _ y => y) (fun q u _ e => up q u e) fun _ y => y⟩, ?_⟩
    unfold eD1 at q
    cases e : f η with
    | bad => rw [e] at q; exact q.elim
    | exc c ks fs η1 =>
      rw [e] at q
      exact fun F' H' A' cls d S' st ex => q F' H' A' cls d S' (step_pre st n) ex
    | ok t η1 =>
      rw [e] at q
      intro F' H' A' B y S' ro g d st
      have hp : H' p = some (.dK []) := st.keep p _ na upd_same
      have nA' : ¬ A' p := fun a => (st.newA p (.inl a)).elim na fun z => by rw [upd_same] at z; cases z
      have nB : ¬ B p := fun a => (st.newA p (.inr a)).elim na fun z => by rw [upd_same] at z; cases z
      have fp : F' p = none := by
        cases z : F' p with
        | none => rfl
        | some u =>
          rcases st.newF p u z with w | w | w
          · have := S.sub p u w
            rw [n] at this; cases this
          · exact absurd w na
          · rw [upd_same] at w; cases w
      refine ⟨hp, [(.inl i, y)], rfl, by simp, ?_⟩
      have kp : ∀ q u, q ≠ p → H' q = some u → upd H' p (.dK (mergeK [] [(.inl i, y)])) q = some u := fun q u ne e => by rw [upd_ne ne]; exact e
      have neA : ∀ q, A' q → q ≠ p := fun q a z => nA' (z ▸ a)
      have neB : ∀ q, B q → q ≠ p := fun q a z => nB (z ▸ a)
      have sF : Same F' (upd H' p (.dK (mergeK [] [(.inl i, y)]))) := fun q u e => kp q u (fun z => by rw [z, fp] at e; cases e) (S'.sub q u e)
      have nn : ∀ q, q ≠ p → upd H' p (.dK (mergeK [] [(.inl i, y)])) q = none → H' q = none := fun q ne z => by rwa [upd_ne ne] at z
      refine q F' _ A' (fun q => B q ∨ q = p) (.ref p) ⟨sF, fun q a => ⟨(S'.good q a).1, fun z => (S'.good q a).2 (nn q (neA q a) z)⟩, S'.env.mono (fun _ _ y => y) (fun q u a e => kp q u (neA q a) e) fun _ y => y⟩ ?_ ?_ ?_ ?_
      · exact .dk (B := B) upd_same rfl (.cons (B := B) (C := A0) (Own.mono (fun _ _ z => z) _ _ _ _ ro (fun q u a e => kp q u (neB q a) e) fun _ z => z) .nil (fun _ _ z => z) (fun _ z => z) fun _ z => z.elim) (.inr rfl) nB fun q z => .inl z
      · exact fun q a => a.elim (fun z => ⟨(g q z).1, fun w => (g q z).2 (nn q (neB q z) w)⟩) fun z => ⟨z ▸ fp, fun w => by rw [z, upd_same] at w; cases w⟩
      · exact fun q a z => z.elim (d q a) fun w => neA q a w
      · have st' := step_pre st n
        refine ⟨fun q u a e => kp q u (ne_of_none e n) (st'.keep q u a e), st'.sub, st'.newF, fun q a => ?_⟩
        rcases a with a | a | a
        · exact st'.newA q (.inl a)
        · exact st'.newA q (.inr a)
        · exact .inr (a ▸ n)
end
theorem r_d1 {i : Int} {f : Fe T} {η η1 : Env} {t : T} (h : f η = .ok t η1) : eD1 i f η = .ok (.dk true [.inl i] [t]) η1 := by
  unfold eD1
  rw [h]; rfl
/-- what isinstance asks of an own class, for the built-in types -/
structure NoTy7 (K : PySem.W.Frag) (C : Addr) : Prop where
  cl : Cls K C
  ha : PySem.W.findIn K (.ref C) "__class__" = some (some (.builtin "object.__class__"))
  hn : PySem.W.specialIn K (.builtin "object.__class__") "__get__" = some (some (.builtin "getset_descriptor.__get__"))
  ht : PySem.W.takesIn K (.builtin "object.__class__") = some true
  hm : PySem.W.mroIn K C (.type "object") = some true
  no : ∀ b : Ty7, PySem.W.kitOne K (.ref C) (.type b.nm) = some false
def isiX (c0 : Str) (bs : List Ty7) : Op := fun ts => match ts with
  | [.ins _ c _ _] => if c = c0 then some (.bl false, ts) else none
  | [x] => x.ty7.map fun a => (.bl (bs.any fun b => a.isa b), ts)
  | _ => none
def rIsiX (K : PySem.W.Frag) (bs : List Ty7) : List V → Hp → VK → Prop := fun vs H Q => ∃ (x : V) (t : Value) (r : Bool), vs = [x] ∧ (∀ b ∈ bs, ∃ s, PySem.W.kitOne K t (.type b.nm) = some s ∧ (s = true → r = true)) ∧ (r = true → ∃ b ∈ bs, PySem.W.kitOne K t (.type b.nm) = some true) ∧ ∀ H', Same H H' → TyX K H' x t ∧ Q (.bl r) H'
theorem isiX_ok {X : Cx} {c0 : Str} {C : Addr} {bs : List Ty7} (hg : X.mg c0 = some (.ref C)) (hc : NoTy7 X.K C) : OpS X.K X.mg (isiX c0 bs) (rIsiX X.K bs) := fun F H vs ts B t ts' s g o e Q kk => by
  have go : ∀ (x : T) (v : V) (ty : Value) (r : Bool), vs = [v] → ts = [x] → t = .bl r → ts' = ts → (∀ b ∈ bs, ∃ s, PySem.W.kitOne X.K ty (.type b.nm) = some s ∧ (s = true → r = true)) → (r = true → ∃ b ∈ bs, PySem.W.kitOne X.K ty (.type b.nm) = some true) → (∀ H', Same H H' → TyX X.K H' v ty) → rIsiX X.K bs vs H Q := fun x v ty r hv hx ht ht' h1 h2 h3 => by
    subst ht ht'
    refine ⟨v, ty, r, hv, h1, h2, fun H' ex => ⟨h3 H' ex, ?_⟩⟩
    have kp : ∀ p u, B p → H p = some u → H' p = some u := fun p u _ y => ex p u y
    have gB : Good F H' B := fun p y => ⟨(g p y).1, fun z => by
      cases q2 : H p with
      | none => exact (g p y).2 q2
      | some u => rw [ex p u q2] at z; cases z⟩
    exact kk F H' B A0 _ (fun p u y => ex p u (s p u y)) gB Good.a0 (OwnL.mono (fun _ _ y => y) _ _ _ _ o kp fun _ y => y) (.frz (.bl _)) (fun _ _ y => y) ⟨fun p u _ y => ex p u y, fun _ _ y => y, fun _ _ y => .inl y, fun p y => .inl (y.elim id fun z => z.elim)⟩
  unfold isiX at e
  split at e
  · rename_i o' c ks us
    split at e
    · rename_i hcc
      subst hcc
      cases e
      obtain ⟨v, rfl, o1⟩ := o.one
      have key : ∃ (a dx : Addr) (fs : List (Str × V)), v = .ref a ∧ H a = some (.ins C dx fs) := by
        cases o1 with
        | frz r =>
          cases r with
          | ins h q2 h0 r =>
            have : some (Value.ref C) = some (.ref _) := hg.symm.trans q2
            cases this
            exact ⟨_, _, _, rfl, s _ _ h⟩
        | ins h q2 h0 h1 h2 h3 h4 =>
          have : some (Value.ref C) = some (.ref _) := hg.symm.trans q2
          cases this
          exact ⟨_, _, _, rfl, h⟩
      obtain ⟨a, dx, fs, rfl, ha⟩ := key
      exact go _ _ (.ref C) false rfl rfl rfl rfl (fun b _ => ⟨false, hc.no b, fun z => z⟩) (fun z => by cases z) fun H' ex => .base (.ins (ex _ _ ha) hc.cl hc.ha hc.hn hc.ht hc.hm)
    · cases e
  · rename_i x hx
    cases q : x.ty7 with
    | none => rw [q] at e; cases e
    | some n =>
      rw [q] at e
      cases e
      obtain ⟨v, rfl, o1⟩ := o.one
      refine go x v (.type n.nm) (bs.any fun b => n.isa b) rfl rfl rfl rfl (fun b hb => ⟨n.isa b, kit_ty (Ty7.kit n b), fun z => List.any_eq_true.mpr ⟨b, hb, z⟩⟩) (fun z => ?_) fun H' ex => ?_
      · obtain ⟨b, hb, y⟩ := List.any_eq_true.mp z
        exact ⟨b, hb, by rw [kit_ty (Ty7.kit n b), y]⟩
      · have kp : ∀ p u, B p → H p = some u → H' p = some u := fun p u _ y => ex p u y
        exact own_tyx (fun p u y => ex p u (s p u y)) (Own.mono (fun _ _ y => y) _ _ _ _ o1 kp fun _ y => y) q
  · cases e
theorem kitAny_of {K : PySem.W.Frag} {t : Value} {r : Bool} : ∀ {bs : List Ty7}, (∀ b ∈ bs, ∃ s, PySem.W.kitOne K t (.type b.nm) = some s ∧ (s = true → r = true)) → (r = true → ∃ b ∈ bs, PySem.W.kitOne K t (.type b.nm) = some true) → PySem.W.kitAny K t (bs.map fun b => Value.type b.nm) = some r
  | [], _, h2 => by
    cases r with
    | false => rfl
    | true => obtain ⟨b, hb, _⟩ := h2 rfl; cases hb
  | b :: bs, h1, h2 => by
    obtain ⟨s, e, hs⟩ := h1 b List.mem_cons_self
    refine kitAny_cons e (fun z => ?_) hs
    subst z
    refine kitAny_of (fun c hc => h1 c (List.mem_cons_of_mem _ hc)) fun hr => ?_
    obtain ⟨c, hc, ec⟩ := h2 hr
    rcases List.mem_cons.mp hc with y | y
    · subst y
      rw [e] at ec; cases ec
    · exact ⟨c, y, ec⟩
section
variable {X : Cx} {W : XW} {pos : Pos} {a : Expr} {k : AK} {bs : List Ty7} {c0 : Str} {C : Addr}
theorem ev_isiX {c : Expr} {b : Ty7} {x : Str} {p : Pos} (hc0 : X.mg c0 = some (.ref C)) (hno : NoTy7 X.K C) (hx : x = "isinstance") (hg : Gl X x) (hm : X.mg x = none) (ha : EK X W a k) (hc : TyN X c b)
    (he : starEach (a :: [c]) X.env = (false, eval a X.env) :: starEach [c] X.env := by rfl) (he2 : starEach [c] X.env = (false, eval c X.env) :: starEach [] X.env := by rfl) (hpl : (backTo pos (starEach [c] X.env)).any (·.1) = false := by rfl) : EE X W (.Call (.Name x p) [a, c] [] pos) (eOp [k] (isiX c0 [b])) := by
  subst hx
  exact PE.imp (pe_callB call_isi hg hm PyProof.Rows.boot_isinstance (pa_cons ha (pa_cons hc.pe pa_nil he2) he) (by decide) (by decide) he hpl) fun σ H Q h => by
    refine tK_mono (args1 (op_run (isiX_ok hc0 hno) h)) fun x H1 ⟨y, t, r, e, h1, h2, q⟩ => ?_
    cases e
    have hk := kitAny_of h1 h2
    have h3 : PySem.W.kitOne X.K t (.type b.nm) = some r := by
      obtain ⟨s, e1, e2⟩ := h1 b (List.mem_singleton.mpr rfl)
      rw [e1]
      cases s with
      | true => rw [e2 rfl]
      | false =>
        cases r with
        | false => rfl
        | true =>
          obtain ⟨c, hc, ec⟩ := h2 rfl
          rw [List.mem_singleton.mp hc, e1] at ec
          cases ec
    exact ⟨_, _, _, _, _, rfl, .ty _, (q H1 ext_refl).1, h3, (q H1 ext_refl).2⟩
theorem ev_isiXT {cs : List Expr} {kk : Nat} {x : Str} {p tp : Pos} (hc0 : X.mg c0 = some (.ref C)) (hno : NoTy7 X.K C) (hx : x = "isinstance") (hg : Gl X x) (hm : X.mg x = none) (ha : EK X W a k) (hc : TyNs X cs bs) (hz : bs.length ≤ sizeLine := by decide)
    (he : starEach (a :: [.Tuple cs kk tp]) X.env = (false, eval a X.env) :: starEach [.Tuple cs kk tp] X.env := by rfl) (he2 : starEach [.Tuple cs kk tp] X.env = (false, eval (.Tuple cs kk tp) X.env) :: starEach [] X.env := by rfl) (hpl : (backTo pos (starEach [.Tuple cs kk tp] X.env)).any (·.1) = false := by rfl) : EE X W (.Call (.Name x p) [a, .Tuple cs kk tp] [] pos) (eOp [k] (isiX c0 bs)) := by
  subst hx
  obtain ⟨t, pt, it⟩ := hc.pa
  exact PE.imp (pe_callB call_isiT hg hm PyProof.Rows.boot_isinstance (pa_cons ha (pa_cons (pe_tup pt) pa_nil he2) he) (by decide) (by decide) he hpl) fun σ H Q h => by
    refine tK_mono (args1 (op_run (isiX_ok hc0 hno) h)) fun x H1 ⟨y, ty, r, e, h1, h2, q⟩ => ?_
    cases e
    refine it _ _ _ ⟨?_, fun l hl => ?_⟩
    · rw [List.length_map]; exact hz
    · exact ⟨_, _, _, _, _, _, rfl, upd_same, pair_cls bs, (q _ (ext_upd hl)).1, kitAny_of h1 h2, (q _ (ext_upd hl)).2⟩
end

end Jo
namespace RevT
open PySem PySem.Spec PyProof.Rows HT
theorem fm_congr {α β : Type} {f g : α → Option β} : ∀ {l : List α}, (∀ x ∈ l, f x = g x) → l.filterMap f = l.filterMap g
  | [], _ => rfl
  | x :: l, h => by
    rw [List.filterMap_cons, List.filterMap_cons, h x List.mem_cons_self, fm_congr fun y hy => h y (List.mem_cons_of_mem _ hy)]
theorem rev_pick {α : Type} : ∀ l : List α, ((List.range l.length).filterMap fun m => l[l.length - 1 - m]?) = l.reverse
  | [] => rfl
  | x :: r => by
    rw [List.length_cons, List.range_succ, List.filterMap_append, List.reverse_cons, ← rev_pick r]
    congr 1
    · apply fm_congr
      intro m hm
      have hm := List.mem_range.mp hm
      rw [show r.length + 1 - 1 - m = (r.length - 1 - m) + 1 by omega, List.getElem?_cons_succ]
    · simp
theorem rev_arr (xs : Array Value) : ((List.range xs.size).filterMap fun (m : Nat) => xs[(((xs.size : Nat) : Int) - 1 + (m : Int) * (-1)).toNat]?).toArray = xs.toList.reverse.toArray := by
  rw [← rev_pick, Array.length_toList]
  congr 1
  apply fm_congr
  intro m hm
  have hm := List.mem_range.mp hm
  rw [show (((xs.size : Nat) : Int) - 1 + (m : Int) * (-1)).toNat = xs.size - 1 - m by omega, Array.getElem?_toList]
section
variable {prog : Program} {w : World} {A : Around} {E : Value → Shared → Prop} {s : Shared}
theorem adjust_rev (n : Nat) : Builtin.Slice.sliceAdjust none none (-1) (n : Int) = ((n : Int) - 1, -1) := by
  unfold Builtin.Slice.sliceAdjust
  have h1 : ((-1 : Int) < 0) := by omega
  simp [h1]
theorem places_rev (n : Nat) : Builtin.Slice.slicePlaces ((n : Int) - 1) (-1) (-1) = n := by
  unfold Builtin.Slice.slicePlaces
  have h1 : ¬ ((-1 : Int) > 0) := by omega
  simp only [h1, if_false]
  split <;> simp <;> omega
theorem sliceApplied_rev {sl : Addr} {vk : Value} {n : Nat} {Q : Int × Int × Nat → Shared → Prop} (hs : s.heap.IsSliceOf sl .none .none vk) (pk : IsPart vk (some (-1)))
    (h : Q ((n : Int) - 1, -1, n) s) : wpAny (model prog w) A (Builtin.Slice.sliceApplied (.ref sl) (pure (n : Int))) Q E s := by
  obtain ⟨os, hos, hcs, hds⟩ := id hs
  unfold Builtin.Slice.sliceApplied Builtin.Slice.sliceFields
  refine wpAny_bind (wpAny_bind (wpAny_field hos hds (x := .none) rfl (wpAny_bind (wpAny_field hos hds (x := .none) rfl (wpAny_bind (wpAny_field hos hds (x := vk) rfl (wpAny_pure ?_)))))))
  refine wpAny_bind (slicePart_ pk ?_)
  show wpAny _ _ (if ((-1 : Int) == 0) = true then _ else _) _ _ s
  rw [if_neg (by decide)]
  refine wpAny_bind (slicePart_ .none (wpAny_bind (slicePart_ .none (wpAny_bind (wpAny_pure ?_)))))
  show wpAny _ _ (match Builtin.Slice.sliceAdjust none none (-1) (n : Int) with | (lo, hi) => pure (lo, (-1 : Int), Builtin.Slice.slicePlaces lo hi (-1))) _ _ s
  rw [adjust_rev n]
  show wpAny _ _ (pure ((n : Int) - 1, (-1 : Int), Builtin.Slice.slicePlaces ((n : Int) - 1) (-1) (-1))) _ _ s
  rw [places_rev]
  exact wpAny_pure h
theorem getItem_tuple_rev {t sl : Addr} {items : Array Value} {vk : Value} {Q : Value → Shared → Prop} (ht : IsTup s.heap t items) (hs : s.heap.IsSliceOf sl .none .none vk) (pk : IsPart vk (some (-1)))
    (h : Q (.ref s.heap.objs.size) { s with heap := s.heap.push { cls := .type "tuple", data := .seq items.toList.reverse.toArray } })
    (hsz : items.size ≤ sizeLine) : wpAny (model prog w) A (getItem (.ref t) (.ref sl)) Q E s := by
  have htake : sizeOk (.seq items.toList.reverse.toArray) := by
    show items.toList.reverse.toArray.size ≤ sizeLine
    rw [List.size_toArray, List.length_reverse, Array.length_toList]
    exact hsz
  obtain ⟨os, hos, hcs, hds⟩ := id hs
  have hTs : s.TypeIs (.ref sl) "slice" := ⟨os, hos, hcs⟩
  unfold getItem
  try with_reducible refine wpAny_holding ?_
  first | refine wpAny_bind (wpAny_pure ?_) | skip
  refine wpAny_bind (wpAny_sequenceKey ht.typeIs (by decide) ?_)
  refine wpAny_bind (wpAny_callSpecial?_slot (name := Str.ofString "__getitem__") ht.typeIs PyProof.Rows.slot_tuple_getitem
    (wpAny_call_entry PyProof.Rows.slot_tuple_getitem ht.typeIs entry_tuple_getitem ?_ (args_tuple_getitem _ _)))
  show wpAny _ _ (Builtin.Tuple.tupleItemsOf (.ref t) >>= _) _ _ s
  refine wpAny_bind (tupleItemsOf_ ht ?_)
  refine wpAny_bind (wpAny_typeOf hTs ?_)
  rw [if_pos (by decide)]
  refine wpAny_bind (sliceApplied_rev hs pk ?_)
  have hno : ¬ ((((items.size : Int) - 1) == 0 && (-1 : Int) == 1 && items.size == items.size) = true) := by
    intro q
    rw [Bool.and_eq_true, Bool.and_eq_true] at q
    have q1 : (-1 : Int) = 1 := eq_of_beq q.1.2
    omega
  show wpAny _ _ (if (((items.size : Int) - 1) == 0 && (-1 : Int) == 1 && items.size == items.size) = true then _ else _) _ _ s
  rw [if_neg hno, rev_arr]
  first
    | exact wpAny_bind (m := Builtin.Tuple.tupleExact _) (wpAny_newObj_type (wpAny_pure ⟨_, rfl, wpAny_pure h⟩) htake)
    | exact wpAny_bind (m := Builtin.Tuple.tupleExact _) (wpAny_newObj_type (wpAny_bind (wpAny_pure (wpAny_pure ⟨_, rfl, wpAny_pure h⟩))) htake)
    | exact wpAny_bind (wpAny_bind (m := Builtin.Tuple.tupleExact _) (wpAny_newObj_type (wpAny_pure (wpAny_pure ⟨_, rfl, wpAny_pure h⟩)) htake))
    | exact wpAny_bind (wpAny_bind (m := Builtin.Tuple.tupleExact _) (wpAny_newObj_type (wpAny_pure ⟨_, rfl, wpAny_pure h⟩) htake))
end
end RevT
namespace L2
open PySem PySem.Spec PyProof.Rows
def tRevT (K : PySem.W.Frag) (te : TE) : TE := fun σ H Q => te σ H fun x H1 => ∃ a xs, x = .ref a ∧ SqT K H1 a xs ∧ ∀ p, H1 p = none → Q (.ref p) (upd H1 p (.tup xs.reverse))
theorem pe_revT {X : Cx} {e : Expr} {te : TE} {k : Nat} {p1 p2 p3 pos : Pos} (he : PE X e te) : PE X (.Subscript e (.Slice none none (some (.UnaryOp .USub (.Constant (.int 1) k p1) p2)) p3) pos) (tRevT X.K te) := by
  refine ⟨fun pins s σ H Q I h => ?_⟩
  refine Subscript_ (thn (he.run pins s σ H _ I h) fun v s1 ⟨x, H1, I1, r1, q1⟩ => ?_)
  obtain ⟨a, xs, ex, hx, q⟩ := q1
  subst ex
  cases r1
  have hst : PO X (some (.UnaryOp .USub (.Constant (.int 1) k p1) p2)) (tPart (tUn (rU fun i => .int (-i)) (tC (.int 1)))) := po_some (pe_un un_neg pe_int)
  refine wpAny_Slice (thn (po_none.run pins s1 σ H1 (fun o H2 => o = none ∧ H2 = H1) I1 ⟨rfl, rfl⟩) fun vl s2 ⟨l, H2, I2, pl, el, e2⟩ => ?_)
  subst el e2
  refine thn (po_none.run pins s2 σ H2 (fun o H3 => o = none ∧ H3 = H2) I2 ⟨rfl, rfl⟩) fun vu s3 ⟨u, H3, I3, pu, eu, e3⟩ => ?_
  subst eu e3
  refine thn (hst.run pins s3 σ H3 (fun o H4 => o = some (-1) ∧ H4 = H3) I3 ⟨1, rfl, -1, rfl, rfl, rfl⟩) fun vs s4 ⟨o, H4, I4, ps, eo, e4⟩ => ?_
  subst eo e4
  cases pl
  cases pu
  have I5 : Inv X pins σ H4 { s4 with heap := s4.heap.push { cls := .type "slice", data := .fields #[.none, .none, vs] } } := I4.kept (t' := s4.toks) fun b ob q => Heap.get?_push_of_some _ q
  obtain ⟨its, r, ht, hz⟩ := I5.tuple hx
  have hlen := r.length
  show wpAny (model X.prog X.w) X.A (subscriptTail e (.Slice none none (some (.UnaryOp .USub (.Constant (.int 1) k p1) p2)) p3) (.ref a) (.ref s4.heap.objs.size)) (EP X pins σ Q) X.xe { s4 with heap := s4.heap.push { cls := .type "slice", data := .fields #[.none, .none, vs] } }
  refine tail_any (ops := [.ref a, .ref s4.heap.objs.size]) ht.typeIs (PyProof.Rows.slot_tuple_getitem.lookup) ?_ (by with_unfolding_all rfl)
  refine RevT.getItem_tuple_rev ht (Heap.IsSliceOf.new _ .none .none vs) ps ?_ (by rw [List.size_toArray]; omega)
  refine ⟨.ref _, _, I5.laid (t' := s4.toks) (o := .tup xs.reverse) (fun b ob q => Heap.get?_push_of_some _ q) (Nat.le_refl _) ?_, rfl, q _ (I5.hok.fresh (Nat.le_refl _))⟩
  exact ⟨by rw [List.length_reverse]; exact hz, _, r.reverse, IsTup.new _ _⟩
end L2
namespace Jo
open PySem L2
def revTO : Op := fun ts => match ts with
  | [.tup xs] => some (.tup xs.reverse, ts)
  | _ => none
theorem revTO_ok {X : Cx} : OpS X.K X.mg revTO (fun vs H Q => ∃ b xs, vs = [.ref b] ∧ SqT X.K H b xs ∧ ∀ p, H p = none → Q (.ref p) (upd H p (.tup xs.reverse))) := fun F H vs ts B t ts' s g o e Q k => by
  unfold revTO at e
  split at e
  · cases e
    obtain ⟨v, rfl, o1⟩ := o.one
    obtain ⟨b, vs, rfl, q, r⟩ := o1.tup_inv
    exact ⟨b, vs, rfl, SqT.mono s q, fun l n => fin_tup s g o (paired_rev r) n k⟩
  · cases e
theorem ev_revT {X : Cx} {W : XW} {pos : Pos} {a : Expr} {ka : AK} {kk : Nat} {p1 p2 p3 : Pos} (ha : EK X W a ka) : EE X W (.Subscript a (.Slice none none (some (.UnaryOp .USub (.Constant (.int 1) kk p1) p2)) p3) pos) (eOp [ka] revTO) :=
  PE.imp (pe_revT ha) fun σ H Q h => tK_mono (args1 (op_run revTO_ok h)) fun x H1 ⟨b, xs, e, h1, h2⟩ => by
    cases e
    exact ⟨b, xs, rfl, h1, h2⟩
theorem o_revT (xs : List T) : revTO [.tup xs] = some (.tup xs.reverse, [.tup xs]) := rfl
theorem pow10_30 : opPow [.int 10, .int 30] = some (.int (10 ^ 30), [.int 10, .int 30]) := o_pow _ _ _ ⟨by omega, by omega, by decide⟩ rfl
theorem o_isiXT {c : Str} {bs : List Ty7} {t : T} (h : isiX c bs [t] = some (.bl true, [t])) : isiX c bs [t] = some (.bl true, [t]) := h
theorem o_isiXF {c : Str} {bs : List Ty7} {t : T} (h : isiX c bs [t] = some (.bl false, [t])) : isiX c bs [t] = some (.bl false, [t]) := h
theorem isiX_ins (c : Str) (bs : List Ty7) (o : Bool) (ks : List Str) (us : List T) : isiX c bs [.ins o c ks us] = some (.bl false, [.ins o c ks us]) := by
  unfold isiX
  simp
theorem isiX_dk (c : Str) (bs : List Ty7) (o : Bool) (ks : List Key) (us : List T) : isiX c bs [.dk o ks us] = some (.bl (bs.any fun b => Ty7.dct.isa b), [.dk o ks us]) := rfl
theorem r_chain_fe {ka kb kc : AK} {g' : Int → Int → Bool} {η η1 η2 : Env} {as : List (Sum Nat T)} {i j : Int} (h : argsF [ka, kb] η = .ok as η1) (h2 : resolve as η1 = some ([.int i, .int j], η2)) (hg : ¬ i ≤ j) : eChain ka kb kc (fun i j => decide (i ≤ j)) g' η = .ok (.bl false) η1 := r_chainF h h2 (decide_eq_false hg)
theorem r_chain_ef {ka kb kc : AK} {η η1 η2 η3 η4 : Env} {as as2 : List (Sum Nat T)} {i j k : Int} (h : argsF [ka, kb] η = .ok as η1) (h2 : resolve as η1 = some ([.int i, .int j], η2)) (hg : i ≤ j) (h3 : argsF [kc] η1 = .ok as2 η3) (h4 : resolve as2 η3 = some ([.int k], η4)) (hb : ¬ j ≤ k) : eChain ka kb kc (fun i j => decide (i ≤ j)) (fun i j => decide (i ≤ j)) η = .ok (.bl false) η3 := r_chain h h2 (decide_eq_true hg) h3 h4 (decide_eq_false hb)

/-! ### sorted of a list of tuples of ints -/
end Jo
namespace SrtO
open PySem PyProof.Rows Srt TS
section
variable {prog : Program} {w : World} {A : Around} {E : Value → Shared → Prop} {s : Shared} {Q : Bool → Shared → Prop}
theorem jo_lexT {b fin : Bool} {xs ys : List Value} {ns ms : List Int} (i : Nat) (hx : IntsAre xs ns) (hy : IntsAre ys ms) (hf : fin = decide (ns.length < ms.length)) (h : Q (HT.lexLt ns ms) s) : PySem.W.KatLex prog w A b fin Q (xs.zip ys) i s := by
  induction hx generalizing ys ms i with
  | nil =>
    cases hy with
    | nil =>
      rw [List.zip_nil_left]
      refine PySem.W.kat_nil ?_
      rw [hf]; exact h
    | @cons q u ys ms hy =>
      rw [List.zip_nil_left]
      refine PySem.W.kat_nil ?_
      have e : decide (([] : List Int).length < (q :: ms).length) = true := decide_eq_true (by simp)
      rw [hf, e]; exact h
  | @cons p t xs ns hx ih =>
    cases hy with
    | nil =>
      rw [List.zip_nil_right]
      refine PySem.W.kat_nil ?_
      rw [hf]; exact h
    | @cons q u ys ms hy =>
      show PySem.W.KatLex prog w A b fin Q ((Value.int p t, Value.int q u) :: xs.zip ys) i s
      rw [HT.lexLt_cons] at h
      refine PySem.W.kat_cons (wpAny_eqBool_int ?_)
      by_cases e : p = q
      · subst e
        rw [beq_self_eq_true]
        rw [if_pos rfl] at h
        exact PySem.W.kat_yes (ih (i + 1) hy (by rw [hf]; exact decide_eq_decide.mpr (by simp)) h)
      · rw [show (p == q) = false from beq_eq_false_iff_ne.mpr e]
        rw [if_neg e] at h
        exact PySem.W.kat_no (oneLt_ints _ h)
theorem jo_firsts {h : Heap} {k : Value → List Int} : ∀ vs : List Value, (∀ v ∈ vs, TupInts h v (k v) ∧ k v ≠ []) → ∃ fs, PySem.W.KatTups h vs fs ∧ fs.length = vs.length ∧ ∀ f, f ∈ fs → ∃ n t, f = Value.int n t
  | [], _ => ⟨[], PySem.W.KatTups.nil, rfl, fun f hf => by simp at hf⟩
  | v :: vs, x => by
    obtain ⟨fs, kk, hl, hi⟩ := jo_firsts vs fun u hu => x u (List.mem_cons_of_mem _ hu)
    obtain ⟨⟨a, xs, rfl, ⟨o, ho, hc, n, hdt⟩, i⟩, hn⟩ := x v (List.mem_cons_self ..)
    obtain ⟨y, ys, e⟩ : ∃ y ys, xs.toList = y :: ys := by
      cases q : xs.toList with
      | nil =>
        rw [q] at i
        have l := i.length
        rw [List.length_nil] at l
        exact absurd (List.length_eq_zero_iff.mp l.symm) hn
      | cons y ys => exact ⟨y, ys, rfl⟩
    obtain ⟨m, t, hy⟩ := i.all y (by rw [e]; exact List.mem_cons_self ..)
    refine ⟨y :: fs, PySem.W.KatTups.cons ho hc hdt ?_ kk, by simp [hl], ?_⟩
    · have z := congrArg (fun l : List Value => l[0]?) e
      simpa using z
    · intro f hf
      rcases List.mem_cons.mp hf with rfl | hf
      · exact ⟨m, t, hy⟩
      · exact hi f hf
theorem jo_tcmp {vs : List Value} {k : Value → List Int} (hp : ∀ v ∈ vs, TupInts s.heap v (k v) ∧ k v ≠ []) (b : Bool) : Cmp prog w A s (tuples' b) (fun p => p.1 ∈ vs) (lt2 fun v u => HT.lexLt (k v) (k u)) := by
  intro p q hm hm'
  obtain ⟨h1, _⟩ := hp _ hm
  obtain ⟨h2, _⟩ := hp _ hm'
  show wpAny (model prog w) A (keyLt' (tuples' b) p.1 q.1) (fun r s' => s' = s ∧ r = HT.lexLt (k p.1) (k q.1)) (fun _ _ => False) s
  generalize k p.1 = ns at h1 ⊢
  generalize k q.1 = ms at h2 ⊢
  obtain ⟨a, xs, e, ⟨o, ho, hc, n, hd⟩, hx⟩ := h1
  obtain ⟨a', ys, e', ⟨o', ho', hc', n', hd'⟩, hy⟩ := h2
  rw [e, e']
  refine PySem.W.kat_lt ho hd ho' hd' (jo_lexT 0 hx hy ?_ ⟨rfl, rfl⟩)
  have l1 := hx.length
  have l2 := hy.length
  rw [Array.length_toList] at l1 l2
  rw [l1, l2]
theorem jo_tsortable {a : Addr} {vs : List Value} {k : Value → List Int} (h0 : 0 < vs.length) (hp : ∀ v ∈ vs, TupInts s.heap v (k v) ∧ k v ≠ []) (ha : ∀ o, s.heap.get? a = some o → o.cls ≠ .type "tuple") : SortableO prog w A s a vs fun v u => HT.lexLt (k v) (k u) := by
  intro h' keep
  have hp' : ∀ v ∈ vs, TupInts h' v (k v) ∧ k v ≠ [] := fun v hm => ⟨(hp v hm).1.keeps fun b o e c => keep b o (fun z => by subst z; exact ha o e c) e, (hp v hm).2⟩
  obtain ⟨fs, h1, h2, h3⟩ := jo_firsts vs hp'
  refine ⟨tuples' true, fun Q E hq => ?_, jo_tcmp (s := { s with heap := h' }) hp' true⟩
  refine PySem.W.kat_kind (T := .type "int") h1 (by omega) (fun f hm => ?_) (by rfl) ?_
  · obtain ⟨x, t, rfl⟩ := h3 f hm
    exact PySem.W.Looks.now
  · have e : (Value.type "int" != Value.type "tuple") = true := by first | decide +kernel | rfl | decide
    rw [e]
    exact hq
end
end SrtO
namespace L2
open PySem PySem.Spec PyProof.Rows
def rSortedTs (K : PySem.W.Frag) : List V → Hp → VK → Prop := fun vs H Q => ∃ (a : Addr) (zs : List (Addr × List Int)), vs = [V.ref a] ∧ SqL K H a (zs.map fun z => V.ref z.1) ∧ (∀ z ∈ zs, SqT K H z.1 (z.2.map V.int) ∧ z.2 ≠ []) ∧
  ∀ (zs' : List (Addr × List Int)) (p : Addr), zs'.Perm zs → zs'.Pairwise (fun x y => HT.lexLt y.2 x.2 = false) → H p = none → Q (.ref p) (upd H p (.lst (zs'.map fun z => V.ref z.1)))
theorem jo_refs : ∀ {zs : List (Addr × List Int)} {us : List Value}, Vals (zs.map fun z => V.ref z.1) us → us = zs.map fun z => Value.ref z.1
  | [], us, r => by
    rw [List.map_nil] at r
    cases r; rfl
  | t :: ts, us, r => by
    rw [List.map_cons] at r
    cases r with
    | cons h q =>
      cases h
      rw [List.map_cons, ← jo_refs q]
theorem cr_sortedTs {X : Cx} : CallR X (.builtin "sorted") (rSortedTs X.K) := by
  intro pins s σ H vs us Q I r h
  obtain ⟨a, zs, rfl, hs, hz, q⟩ := h
  obtain ⟨its, rv, hl, hsz⟩ := I.list hs
  rw [Vals.ref1 r]
  have ei := jo_refs rv
  let k : Value → List Int := TS.intsOf s.heap
  have ht : ∀ z ∈ zs, TS.TupInts s.heap (.ref z.1) z.2 ∧ z.2 ≠ [] := fun z hm => by
    obtain ⟨q1, q2⟩ := hz z hm
    obtain ⟨ts, r2, p2, _⟩ := I.tuple q1
    exact ⟨⟨z.1, ts.toArray, rfl, p2, by simpa using r2.ints⟩, q2⟩
  have hk : ∀ z ∈ zs, k (.ref z.1) = z.2 := fun z hm => (ht z hm).1.ints
  have hv : ∀ v ∈ its, TS.TupInts s.heap v (k v) ∧ k v ≠ [] := fun v hm => by
    rw [ei] at hm
    obtain ⟨z, hm2, rfl⟩ := List.mem_map.mp hm
    rw [hk z hm2]
    exact ht z hm2
  refine SrtO.sorted_ord (NtL.swo_lexL k) hl.isList (by rw [← rv.length]; exact hsz) (fun h2 h₁ a' ha kk => ?_) fun out h1 h2 => ?_
  · refine SrtO.jo_tsortable (s := { s with heap := h₁ }) (by omega) (fun v hm => ⟨(hv v hm).1.keeps fun b o e _ => (kk b o e).2, (hv v hm).2⟩) fun o e => ?_
    have e' : some o = some (seqObj "list" its.toArray 0) := e.symm.trans ha
    cases e'
    intro c
    exact absurd (Value.type.inj c) (by decide)
  · have pe : (out.map fun v => (adO v, k v)).Perm zs := by
      have p1 := h2.perm.map fun v => (adO v, k v)
      rw [ei, List.map_map] at p1
      have e2 : zs.map ((fun v => (adO v, k v)) ∘ fun z => Value.ref z.1) = zs := by
        refine (List.map_congr_left fun z hm => ?_).trans (List.map_id zs)
        show (z.1, k (.ref z.1)) = z
        rw [hk z hm]
      rw [e2] at p1
      exact p1
    have eo : out = (out.map fun v => (adO v, k v)).map fun z => Value.ref z.1 := by
      rw [List.map_map]
      refine ((List.map_congr_left fun v hm => ?_).trans (List.map_id out)).symm
      have hm' : v ∈ its := h2.perm.mem_iff.mp hm
      rw [ei] at hm'
      obtain ⟨z, _, rfl⟩ := List.mem_map.mp hm'
      rfl
    obtain ⟨ep, he'⟩ := PyProof.Rows.sortedAll_at s.heap its out.toArray
    have vo : ∀ ts : List (Addr × List Int), Vals (ts.map fun z => V.ref z.1) (ts.map fun z => Value.ref z.1) := fun ts => by
      induction ts with
      | nil => exact .nil
      | cons z ts ih => exact .cons rfl ih
    have hlen : ((out.map fun v => (adO v, k v)).map fun z => V.ref z.1).length ≤ sizeLine := by
      rw [List.length_map, pe.length_eq]
      rw [List.length_map] at hsz
      exact hsz
    have vv : Vals ((out.map fun v => (adO v, k v)).map fun z => V.ref z.1) out := by
      have := vo (out.map fun v => (adO v, k v))
      rw [← eo] at this
      exact this
    exact ⟨.ref _, upd H (s.heap.objs.size + 1) (.lst ((out.map fun v => (adO v, k v)).map fun z => V.ref z.1)), I.laid (t' := s.toks) (fun _ _ => PyProof.Rows.sortedAll_old) (Nat.le_succ _) ⟨hlen, out, ep, vv, he'⟩, rfl,
      q _ _ pe (List.pairwise_map.mpr h1) (I.hok.fresh (Nat.le_succ _))⟩
end L2
namespace Jo
open PySem L2
def insL (x : List Int) : List (List Int) → List (List Int)
  | [] => [x]
  | y :: ys => if HT.lexLt y x then y :: insL x ys else x :: y :: ys
def sortL : List (List Int) → List (List Int)
  | [] => []
  | x :: xs => insL x (sortL xs)
abbrev SortedL (xs : List (List Int)) : Prop := xs.Pairwise fun x y => HT.lexLt y x = false
theorem insL_perm (x : List Int) : ∀ ys, (insL x ys).Perm (x :: ys)
  | [] => .refl _
  | y :: ys => by
    unfold insL
    split
    · exact ((insL_perm x ys).cons y).trans (.swap x y ys)
    · exact .refl _
theorem sortL_perm : ∀ xs, (sortL xs).Perm xs
  | [] => .refl _
  | x :: xs => (insL_perm x _).trans ((sortL_perm xs).cons x)
theorem insL_sorted (x : List Int) : ∀ ys, SortedL ys → SortedL (insL x ys)
  | [], _ => List.pairwise_singleton _ _
  | y :: ys, h => by
    have h1 := List.pairwise_cons.mp h
    unfold insL
    split
    · rename_i q
      refine List.pairwise_cons.mpr ⟨fun z hz => ?_, insL_sorted x ys h1.2⟩
      rcases List.mem_cons.mp ((insL_perm x ys).mem_iff.mp hz) with e | hz
      · rw [e]; exact NtL.lex_asym _ _ q
      · exact h1.1 z hz
    · rename_i q
      have q : HT.lexLt y x = false := by simpa using q
      refine List.pairwise_cons.mpr ⟨fun z hz => ?_, h⟩
      rcases List.mem_cons.mp hz with e | hz
      · rw [e]; exact q
      · exact NtL.lex_tr x y z q (h1.1 z hz)
theorem sortL_sorted : ∀ xs, SortedL (sortL xs)
  | [] => .nil
  | x :: xs => insL_sorted x _ (sortL_sorted xs)
theorem lexLt_anti : ∀ {x y : List Int}, HT.lexLt x y = false → HT.lexLt y x = false → x = y
  | [], [], _, _ => rfl
  | [], _ :: _, h, _ => by cases h
  | _ :: _, [], _, h => by cases h
  | a :: x, b :: y, h1, h2 => by
    rw [HT.lexLt_cons] at h1 h2
    by_cases e : a = b
    · subst e
      rw [if_pos rfl] at h1 h2
      rw [lexLt_anti h1 h2]
    · rw [if_neg e] at h1
      rw [if_neg (Ne.symm e)] at h2
      have := of_decide_eq_false h1
      have := of_decide_eq_false h2
      omega
theorem sortedL_one : ∀ {xs ys : List (List Int)}, xs.Perm ys → SortedL xs → SortedL ys → xs = ys
  | [], ys, p, _, _ => p.nil_eq
  | x :: xs, [], p, _, _ => by cases p.symm.nil_eq
  | x :: xs, y :: ys, p, h1, h2 => by
    have a1 := List.pairwise_cons.mp h1
    have a2 := List.pairwise_cons.mp h2
    have e : x = y := by
      rcases List.mem_cons.mp (p.mem_iff.mp (List.mem_cons_self : x ∈ x :: xs)) with q | q
      · exact q
      · rcases List.mem_cons.mp (p.mem_iff.mpr (List.mem_cons_self : y ∈ y :: ys)) with r | r
        · exact r.symm
        · exact lexLt_anti (a2.1 x q) (a1.1 y r)
    subst e
    rw [sortedL_one (List.perm_cons x |>.mp p) a1.2 a2.2]
theorem sortL_of {xs : List (List Int)} (h : SortedL xs) : sortL xs = xs := sortedL_one (sortL_perm xs) (sortL_sorted xs) h
abbrev tTu (z : List Int) : T := .tup (z.map T.int)
def sortO3 : Op := fun ts => match sortO2 ts with
  | some r => some r
  | none => match ts with
    | [.lst _ xs] => (tups? xs).bind fun nss => if nss.all (fun z => !z.isEmpty) = true then some (.lst true ((sortL nss).map tTu), ts) else none
    | _ => none
section
variable {X : Cx}
theorem cr_sort3 : CallR X (.builtin "sorted") (fun vs H Q => (rSortedI X.K vs H Q ∨ rSortedTu X.K vs H Q) ∨ rSortedTs X.K vs H Q) := cr_sort2.or cr_sortedTs
theorem ownL_tups {K : PySem.W.Frag} {mg : Str → Option Value} {F H : Hp} : ∀ {nss : List (List Int)} {vs : List V} {B : AP}, OwnL K mg F H vs (nss.map tTu) B → ∃ zs : List (Addr × List Int), vs = zs.map (fun z => V.ref z.1) ∧ nss = zs.map (·.2) ∧ ∀ z ∈ zs, Rep K mg F (.ref z.1) (tTu z.2)
  | [], _, _, .nil => ⟨[], rfl, rfl, fun z hz => by cases hz⟩
  | n :: nss, _, _, .cons h r _ _ _ => by
    obtain ⟨zs, e1, e2, k⟩ := ownL_tups r
    have e1' := e1
    subst e1' 
    cases h with
    | frz h =>
      cases h with
      | @tup a ws _ h1 h2 =>
        refine ⟨(a, n) :: zs, rfl, by rw [List.map_cons, ← e2], fun z hz => ?_⟩
        rcases List.mem_cons.mp hz with e | hz
        · rw [e]; exact .tup h1 h2
        · exact k z hz
theorem sortO3_ok : OpS X.K X.mg sortO3 (fun vs H Q => (rSortedI X.K vs H Q ∨ rSortedTu X.K vs H Q) ∨ rSortedTs X.K vs H Q) := fun F H vs ts B t ts' s g o e Q k => by
  unfold sortO3 at e
  split at e
  · rename_i r q
    cases e
    exact .inl (sortO2_ok F H vs _ B t ts' s g o q Q k)
  · split at e
    · rename_i ow xs _
      cases q : tups? xs with
      | none => rw [q] at e; cases e
      | some nss =>
        rw [q] at e
        simp only [Option.bind_some] at e
        split at e
        · rename_i hne
          cases e
          obtain ⟨v, rfl, o1⟩ := o.one
          obtain ⟨a, vs, rfl, hl, ol, _⟩ := o1.lst_inv s
          have e1 := tups?_some q
          subst e1
          obtain ⟨zs, rfl, rfl, hr⟩ := ownL_tups ol
          refine .inr ⟨a, zs, rfl, .of hl, fun z hz => ?_, fun zs' p hp hs hn => ?_⟩
          · have hz2 := List.all_eq_true.mp hne z.2 (List.mem_map_of_mem hz)
            cases hr z hz with
            | tup h1 h2 =>
              rw [← repL_ints h2]
              exact ⟨SqT.mono s h1, fun z0 => by rw [z0] at hz2; cases hz2⟩
          · have es : zs'.map (·.2) = sortL (zs.map (·.2)) := sortedL_one ((hp.map (·.2)).trans (sortL_perm _).symm) (List.pairwise_map.mpr hs) (sortL_sorted _)
            rw [← es] at k
            have rp : ∀ us : List (Addr × List Int), (∀ z ∈ us, Rep X.K X.mg F (.ref z.1) (tTu z.2)) → Paired (Rep X.K X.mg F) (us.map fun z => V.ref z.1) ((us.map (·.2)).map tTu) := fun us hu => by
              induction us with
              | nil => exact .nil
              | cons u us ih => exact .cons (hu u List.mem_cons_self) (ih fun z hz => hu z (List.mem_cons_of_mem _ hz))
            exact fin_lst s g o (rp zs' fun z hz => hr z (hp.mem_iff.mp hz)) hn k
        · cases e
    · cases e
end
theorem o_sort3t (ns : List Int) : sortO3 [.tup (ns.map T.int)] = some (.lst true ((sortI ns).map T.int), [.tup (ns.map T.int)]) := by
  unfold sortO3
  rw [o_sort2t]
theorem o_sort3l (o : Bool) (ns : List Int) : sortO3 [.lst o (ns.map T.int)] = some (.lst true ((sortI ns).map T.int), [.lst o (ns.map T.int)]) := by
  unfold sortO3
  rw [o_sort2l]
theorem o_sort3L (o : Bool) (z : List Int) (zs : List (List Int)) (h : ∀ x ∈ z :: zs, x ≠ []) : sortO3 [.lst o ((z :: zs).map tTu)] = some (.lst true ((sortL (z :: zs)).map tTu), [.lst o ((z :: zs).map tTu)]) := by
  have e : sortO2 [.lst o ((z :: zs).map tTu)] = none := rfl
  unfold sortO3
  rw [e]
  simp only [tups?_map, Option.bind_some]
  rw [if_pos (List.all_eq_true.mpr fun x hx => by
    cases x with
    | nil => exact absurd rfl (h [] hx)
    | cons a b => rfl)]

/-! ### the rules once more, for a module map of one's own: what an except suite may read -/
abbrev wmX (X : Cx) (m : Str → Option Value) : Cx := { X with mg := m }
abbrev tEm (X : Cx) (m : Str → Option Value) (W : XW) (f : Fe T) : TE := tG X.K m (RO X.K m) W f
abbrev tTm (X : Cx) (m : Str → Option Value) (W : XW) (f : Fe Bool) : TT := tG X.K m RB W f
abbrev tAm (X : Cx) (m : Str → Option Value) (W : XW) (f : Fe (List (Sum Nat T))) : TA := tG X.K m (RA X.K m) W f
abbrev EEm (X : Cx) (m : Str → Option Value) (W : XW) (e : Expr) (f : Fe T) : Prop := PE X e (tEm X m W f)
abbrev ETm (X : Cx) (m : Str → Option Value) (W : XW) (e : Expr) (f : Fe Bool) : Prop := PT X e (tTm X m W f)
abbrev EAm (X : Cx) (m : Str → Option Value) (W : XW) (es : List Expr) (f : Fe (List (Sum Nat T))) : Prop := PA X es (tAm X m W f)
def tKm (X : Cx) (m : Str → Option Value) (W : XW) : AK → TE
  | .s i => tVar i
  | .v f => tEm X m W f
abbrev EKm (X : Cx) (m : Str → Option Value) (W : XW) (e : Expr) (k : AK) : Prop := PE X e (tKm X m W k)
abbrev EAsm (X : Cx) (m : Str → Option Value) (W : XW) (es : List Expr) (ks : List AK) : Prop := EAm X m W es (argsF ks)
abbrev EWm (X : Cx) (m : Str → Option Value) (W : XW) (e : Expr) (f : Fe Bool) : Prop := PW X e (tTm X m W f)
abbrev SSm (X : Cx) (m : Str → Option Value) (W : XW) (ms : List Nat) (st : Stmt) (f : Fs) : Prop := PS X st (tS X.K m W ms f)
abbrev SSsm (X : Cx) (m : Str → Option Value) (W : XW) (ms : List Nat) (st : List Stmt) (f : Fs) : Prop := PSs X st (tS X.K m W ms f)

section
variable {X : Cx} {W : XW} {pos : Pos}
variable {m : Str → Option Value}
theorem const_ok_m {e : Expr} {v : V} {t : T} (h : PE X e (tC v)) (r : ∀ F H B, Own X.K m F H v t B) : EEm X m W e (eC t) :=
  PE.imp h fun σ H Q ⟨F, η, A, S, q⟩ => q F H A A0 v S (r F H A0) Good.a0 (fun _ _ x => x) ⟨fun _ _ _ h => h, fun _ _ h => h, fun _ _ h => .inl h, fun p h => .inl (h.elim id fun x => x.elim)⟩
end
section
variable {X : Cx} {W : XW} {pos : Pos}
variable {m : Str → Option Value}
theorem ev_int_m {i j pos} : EEm X m W (.Constant (.int i) j pos) (eC (.int i)) := const_ok_m pe_int fun _ _ _ => .frz (.int i)
end
section
variable {X : Cx} {W : XW} {pos : Pos}
variable {m : Str → Option Value}
theorem ev_bl_m {b j pos} : EEm X m W (.Constant (.bool b) j pos) (eC (.bl b)) := const_ok_m pe_bl fun _ _ _ => .frz (.bl b)
end
section
variable {X : Cx} {W : XW} {pos : Pos}
variable {m : Str → Option Value}
theorem ev_non_m {j pos} : EEm X m W (.Constant .none j pos) (eC .non) := const_ok_m pe_non fun _ _ _ => .frz .non
end
section
variable {X : Cx} {W : XW} {pos : Pos}
variable {m : Str → Option Value}
theorem ev_str_m {x j pos} : EEm X m W (.Constant (.str x) j pos) (eC (.str x)) := const_ok_m pe_str fun _ _ _ => .frz (.str x)
end
section
variable {X : Cx} {W : XW} {pos : Pos}
variable {m : Str → Option Value}
theorem tVar_ok_m {i : Nat} {σ : St} {H : Hp} {Q : VK} (h : tEm X m W (eVar i) σ H Q) : tVar i σ H Q := by
  obtain ⟨F, η, A, S, q⟩ := h
  unfold eVar at q
  cases e : η[i]? with
  | none => rw [e] at q; exact q.elim
  | some o =>
    cases o with
    | none => rw [e] at q; exact q.elim
    | some t =>
      rw [e] at q
      obtain ⟨v, B, C, h1, h2, h3, h4, h5, h6⟩ := S.env.take e
      obtain ⟨g, st⟩ := frz_step S.sub (S.good.mono h6) h4
      have hr := Own.frz_in (frzF_same S.sub) t v B h2 fun p x => frzF_in x
      have hi : i < η.length := (List.getElem?_eq_some_iff.mp e).1
      refine ⟨v, h1, q (frzF F H B) H C A0 v ⟨frzF_sub S.sub, g, ?_⟩ (.frz hr) Good.a0 (fun _ _ x => x) (st.weak (fun p x => x.elim (h5 p) (h6 p)) fun p x => x.elim id fun y => y.elim)⟩
      exact EnvO.back (h3.mono (frzF_same S.sub) (fun _ _ _ x => x) fun _ x => x) h1 (.frz (A := A0) hr) (fun _ x => x.elim) (fun _ x => x.elim) fun _ x => x
end
section
variable {X : Cx} {W : XW} {pos : Pos}
variable {m : Str → Option Value}
theorem ev_var_m (i : Nat) {x : Str} (h : PE X (.Name x pos) (tVar i)) : EEm X m W (.Name x pos) (eVar i) := PE.imp h fun σ H Q q => tVar_ok_m q
end
section
variable {X : Cx} {W : XW} {pos : Pos} {e : Expr} {es : List Expr} {f : Fe T} {r : Fe (List (Sum Nat T))}
variable {m : Str → Option Value}
theorem ea_nil_m : EAm X m W [] aNil := PA.imp pa_nil fun σ H Q ⟨F, η, A, S, q⟩ => q F H A A0 [] S .nil Good.a0 (fun _ _ x => x) (Step.refl.weak (fun _ x => x) fun p x => x.elim id fun y => y.elim)
end
section
variable {X : Cx} {W : XW} {pos : Pos} {e : Expr} {es : List Expr} {f : Fe T} {r : Fe (List (Sum Nat T))}
variable {m : Str → Option Value}
theorem ea_val_m (h : EEm X m W e f) (hr : EAm X m W es r) (hs : starEach (e :: es) X.env = (false, eval e X.env) :: starEach es X.env := by rfl) : EAm X m W (e :: es) (aVal f r) :=
  PA.imp (pa_cons h hr hs) fun _ _ _ q => seq_val q
end
section
variable {X : Cx} {W : XW} {pos : Pos} {e : Expr} {es : List Expr} {f : Fe T} {r : Fe (List (Sum Nat T))}
variable {m : Str → Option Value}
theorem ea_slot_m (i : Nat) {x : Str} (h : PE X (.Name x pos) (tVar i)) (hr : EAm X m W es r) (hs : starEach (.Name x pos :: es) X.env = (false, eval (.Name x pos) X.env) :: starEach es X.env := by rfl) : EAm X m W (.Name x pos :: es) (aSlot i r) :=
  PA.imp (pa_cons h hr hs) fun _ _ _ q => seq_slot q
end
section
variable {X : Cx} {W : XW} {pos : Pos} {e a b o : Expr} {es : List Expr} {k ka kb : AK} {ks : List AK} {op : Op}
variable {m : Str → Option Value}
theorem ek_s_m (i : Nat) {x : Str} (h : PE X (.Name x pos) (tVar i)) : EKm X m W (.Name x pos) (.s i) := h
end
section
variable {X : Cx} {W : XW} {pos : Pos} {e a b o : Expr} {es : List Expr} {k ka kb : AK} {ks : List AK} {op : Op}
variable {m : Str → Option Value}
theorem ek_v_m {f : Fe T} (h : EEm X m W e f) : EKm X m W e (.v f) := h
end
section
variable {X : Cx} {W : XW} {pos : Pos} {e a b o : Expr} {es : List Expr} {k ka kb : AK} {ks : List AK} {op : Op}
variable {m : Str → Option Value}
theorem seq_K_m {r : Fe (List (Sum Nat T))} {σ : St} {H : Hp} {Q : List V → Hp → Prop} (h : tAm X m W (consA k r) σ H Q) : tKm X m W k σ H fun x H1 => tAm X m W r σ H1 fun xs H2 => Q (x :: xs) H2 := by
  cases k with
  | s i => exact seq_slot h
  | v f => exact seq_val h
end
section
variable {X : Cx} {W : XW} {pos : Pos} {e a b o : Expr} {es : List Expr} {k ka kb : AK} {ks : List AK} {op : Op}
variable {m : Str → Option Value}
theorem eas_nil_m : EAsm X m W [] [] := ea_nil_m
end
section
variable {X : Cx} {W : XW} {pos : Pos} {e a b o : Expr} {es : List Expr} {k ka kb : AK} {ks : List AK} {op : Op}
variable {m : Str → Option Value}
theorem eas_cons_m (h : EKm X m W e k) (hr : EAsm X m W es ks) (hs : starEach (e :: es) X.env = (false, eval e X.env) :: starEach es X.env := by rfl) : EAsm X m W (e :: es) (k :: ks) :=
  PA.imp (pa_cons h hr hs) fun _ _ _ q => seq_K_m q
end
section
variable {X : Cx} {W : XW} {pos : Pos} {e a b o : Expr} {es : List Expr} {k ka kb : AK} {ks : List AK} {op : Op}
variable {m : Str → Option Value}
theorem tA_nil_m {σ : St} {H : Hp} {Q : List V → Hp → Prop} (h : tAm X m W aNil σ H Q) : Q [] H := by
  obtain ⟨F, η, A, S, q⟩ := h
  exact q F H A A0 [] S .nil Good.a0 (fun _ _ x => x) (Step.refl.weak (fun _ x => x) fun p x => x.elim id fun y => y.elim)
end
section
variable {X : Cx} {W : XW} {pos : Pos} {e a b o : Expr} {es : List Expr} {k ka kb : AK} {ks : List AK} {op : Op}
variable {m : Str → Option Value}
theorem args2_m {σ : St} {H : Hp} {Q : List V → Hp → Prop} (h : tAm X m W (argsF [ka, kb]) σ H Q) : tKm X m W ka σ H fun x H1 => tKm X m W kb σ H1 fun y H2 => Q [x, y] H2 := by
  have q := seq_K_m h
  have mono : ∀ (k : AK) σ H (Q Q' : VK), tKm X m W k σ H Q → (∀ v H, Q v H → Q' v H) → tKm X m W k σ H Q' := fun k σ H Q Q' h i => by
    cases k with
    | s n =>
      obtain ⟨v, e, h⟩ := h
      exact ⟨v, e, i _ _ h⟩
    | v f =>
      obtain ⟨F, η, A, S, h⟩ := h
      refine ⟨F, η, A, S, ?_⟩
      exact h.imp fun _ _ _ _ _ _ _ v _ _ _ _ _ q => i v _ q
  refine mono ka _ _ _ _ q fun v H1 h1 => ?_
  exact mono kb _ _ _ _ (seq_K_m (k := kb) (r := aNil) h1) fun v' H2 h2 => tA_nil_m h2
end
section
variable {X : Cx} {W : XW} {pos : Pos} {e a b o : Expr} {es : List Expr} {k ka kb : AK} {ks : List AK} {op : Op}
variable {m : Str → Option Value}
theorem args1_m {σ : St} {H : Hp} {Q : List V → Hp → Prop} (h : tAm X m W (argsF [ka]) σ H Q) : tKm X m W ka σ H fun x H1 => Q [x] H1 := by
  have q := seq_K_m h
  cases ka with
  | s n =>
    obtain ⟨v, e, h⟩ := q
    exact ⟨v, e, tA_nil_m h⟩
  | v f =>
    obtain ⟨F, η, A, S, h⟩ := q
    refine ⟨F, η, A, S, ?_⟩
    exact h.imp fun _ _ _ _ _ _ _ v _ _ _ _ _ q => tA_nil_m q
end
section
variable {X : Cx} {W : XW} {pos : Pos} {e a b o : Expr} {es : List Expr} {k ka kb : AK} {ks : List AK} {op : Op}
variable {m : Str → Option Value}
theorem op_run_m {r : List V → Hp → VK → Prop} (ho : OpS (wmX X m).K (wmX X m).mg op r) {σ : St} {H : Hp} {Q : VK} (h : tEm X m W (eOp ks op) σ H Q) : tAm X m W (argsF ks) σ H fun vs H1 => r vs H1 Q := by
  refine tG.seq h fun F1 η1 A1 B1 as vs H1 F A S1 ra g1 d1 st1 q => ?_
  cases e1 : resolve as η1 with
  | none => rw [e1] at q; exact q.elim
  | some p =>
    obtain ⟨ts, η2⟩ := p
    rw [e1] at q
    simp only at q
    cases e2 : op ts with
    | none => rw [e2] at q; exact q.elim
    | some p =>
      obtain ⟨t, ts'⟩ := p
      rw [e2] at q
      simp only at q
      obtain ⟨A', B', n1, o1, d2, m1, m2⟩ := resolve_ok S1.env ra d1 e1
      have gB : Good F1 H1 B' := (S1.good.un g1).mono m2
      have gA : Good F1 H1 A' := S1.good.mono m1
      refine ho F1 H1 vs ts B' t ts' S1.sub gB o1 e2 Q fun F' H' B'' C v s gb gc oo ov dd st => ?_
      obtain ⟨gA', dA', kA'⟩ := st.frame gA fun p x y => d2 p y x
      have n2 : EnvO X.K m F' H' σ η2 A' := n1.mono st.sub (fun p o x => kA' p o x) fun _ x => x
      have n3 : EnvO X.K m F' H' σ (putBack as ts' η2) (Un2 A' B'') := putBack_ok n2 (fun i hi => by
        obtain ⟨j, hj⟩ := List.getElem?_of_mem hi
        obtain ⟨w, _, z⟩ := ra.slots j i hj
        exact ⟨w, z⟩) ra.slots oo (fun p x y => dA' p (.inl y) x) (fun p x => .inl x) fun p x => .inr x
      refine q F' H' (Un2 A' B'') C v ⟨s, gA'.un gb, n3⟩ ov gc (fun p x y => x.elim (fun z => dA' p (.inr y) z) fun z => dd p z y) ?_
      exact st1.trans (st.wide (fun p x => m2 p x) fun p x => x.elim (fun y => y.elim (fun z => .inr (.inl (m1 p z))) fun z => .inl (.inl z)) fun y => .inl (.inr y))
end
section
variable {X : Cx} {W : XW} {pos : Pos} {e a b o : Expr} {es : List Expr} {k ka kb : AK} {ks : List AK} {op : Op}
variable {m : Str → Option Value}
theorem ev_bin_m {bo : Operator} {r : R2} (hr : OpR X (binaryOp bo) r) (ho : OpS (wmX X m).K (wmX X m).mg op fun vs H Q => ∃ x y, vs = [x, y] ∧ r x y H Q) (ha : EKm X m W a ka) (hb : EKm X m W b kb) : EEm X m W (.BinOp a bo b pos) (eOp [ka, kb] op) :=
  PE.imp (pe_op hr ha hb) fun σ H Q h => by
    have q := args2_m (op_run_m ho h)
    have mono : ∀ (k : AK) σ H (Q Q' : VK), tKm X m W k σ H Q → (∀ v H, Q v H → Q' v H) → tKm X m W k σ H Q' := fun k σ H Q Q' h i => by
      cases k with
      | s n =>
        obtain ⟨v, e, h⟩ := h
        exact ⟨v, e, i _ _ h⟩
      | v f =>
        obtain ⟨F, η, A, S, h⟩ := h
        exact ⟨F, η, A, S, h.imp fun _ _ _ _ _ _ _ v _ _ _ _ _ q => i v _ q⟩
    refine mono _ _ _ _ _ q fun x H1 h1 => mono _ _ _ _ _ h1 fun y H2 ⟨x', y', e, h2⟩ => ?_
    cases e
    exact h2
end
section
variable {X : Cx} {W : XW} {pos : Pos} {e a b o : Expr} {es : List Expr} {k ka kb : AK} {ks : List AK} {op : Op}
variable {m : Str → Option Value}
theorem ev_cmp_m {co : CmpOp} {r : R2} (hr : OpR X (compareOp co) r) (ho : OpS (wmX X m).K (wmX X m).mg op fun vs H Q => ∃ x y, vs = [x, y] ∧ r x y H Q) (ha : EKm X m W a ka) (hb : EKm X m W b kb) (hm : behindInMarks co b = false) : EEm X m W (.Compare a [co] [b] pos) (eOp [ka, kb] op) :=
  PE.imp (pe_cmpR hr ha hb hm) fun σ H Q h => by
    have q := args2_m (op_run_m ho h)
    have mono : ∀ (k : AK) σ H (Q Q' : VK), tKm X m W k σ H Q → (∀ v H, Q v H → Q' v H) → tKm X m W k σ H Q' := fun k σ H Q Q' h i => by
      cases k with
      | s n =>
        obtain ⟨v, e, h⟩ := h
        exact ⟨v, e, i _ _ h⟩
      | v f =>
        obtain ⟨F, η, A, S, h⟩ := h
        exact ⟨F, η, A, S, h.imp fun _ _ _ _ _ _ _ v _ _ _ _ _ q => i v _ q⟩
    refine mono _ _ _ _ _ q fun x H1 h1 => mono _ _ _ _ _ h1 fun y H2 ⟨x', y', e, h2⟩ => ?_
    cases e
    exact h2
end
section
variable {X : Cx} {W : XW} {pos : Pos} {e a b o : Expr} {es : List Expr} {k ka kb : AK} {ks : List AK} {op : Op}
variable {m : Str → Option Value}
theorem ev_callB_m {x : Str} {p : Pos} {id : String} {r : List V → Hp → VK → Prop} (hc : CallR X (.builtin id) r) (ho : OpS (wmX X m).K (wmX X m).mg op r) (hg : Gl X x) (hm : X.mg x = none) (hv : bootBuiltins x = some (.builtin id)) (ha : EAsm X m W (e :: es) ks) (hn : x ≠ "__name__" := by decide) (hdb : (x == ("__debug__" : Str)) = false := by decide)
    (he : starEach (e :: es) X.env = (false, eval e X.env) :: starEach es X.env := by rfl) (hpl : (backTo pos (starEach es X.env)).any (·.1) = false := by rfl) : EEm X m W (.Call (.Name x p) (e :: es) [] pos) (eOp ks op) :=
  PE.imp (pe_callB hc hg hm hv ha hn hdb he hpl) fun σ H Q h => op_run_m ho h
end
section
variable {X : Cx} {W : XW} {pos : Pos} {e a b o : Expr} {es : List Expr} {k ka kb : AK} {ks : List AK} {op : Op}
variable {m : Str → Option Value}
theorem ev_callTy_m {x : Str} {p : Pos} {Ty : String} {r : List V → Hp → VK → Prop} (hc : CallR X (.type Ty) r) (ho : OpS (wmX X m).K (wmX X m).mg op r) (hg : Gl X x) (hm : X.mg x = none) (hv : bootBuiltins x = some (.type Ty)) (ha : EAsm X m W (e :: es) ks) (hn : x ≠ "__name__" := by decide) (hdb : (x == ("__debug__" : Str)) = false := by decide)
    (he : starEach (e :: es) X.env = (false, eval e X.env) :: starEach es X.env := by rfl) (hpl : (backTo pos (starEach es X.env)).any (·.1) = false := by rfl) : EEm X m W (.Call (.Name x p) (e :: es) [] pos) (eOp ks op) :=
  PE.imp (pe_callTy hc hg hm hv ha hn hdb he hpl) fun σ H Q h => op_run_m ho h
end
section
variable {X : Cx} {W : XW} {pos : Pos} {e a b o : Expr} {es : List Expr} {k ka kb : AK} {ks : List AK} {op : Op}
variable {m : Str → Option Value}
theorem ev_ix_m {r : R2} (hr : IxR X r) (ho : OpS (wmX X m).K (wmX X m).mg op fun vs H Q => ∃ x y, vs = [x, y] ∧ r x y H Q) (ha : EKm X m W a ka) (hb : EKm X m W b kb) (hs : PlainIx b) : EEm X m W (.Subscript a b pos) (eOp [ka, kb] op) :=
  PE.imp (pe_ix hr ha hb hs) fun σ H Q h => by
    have q := args2_m (op_run_m ho h)
    have mono : ∀ (k : AK) σ H (Q Q' : VK), tKm X m W k σ H Q → (∀ v H, Q v H → Q' v H) → tKm X m W k σ H Q' := fun k σ H Q Q' h i => by
      cases k with
      | s n =>
        obtain ⟨v, e, h⟩ := h
        exact ⟨v, e, i _ _ h⟩
      | v f =>
        obtain ⟨F, η, A, S, h⟩ := h
        exact ⟨F, η, A, S, h.imp fun _ _ _ _ _ _ _ v _ _ _ _ _ q => i v _ q⟩
    refine mono _ _ _ _ _ q fun x H1 h1 => mono _ _ _ _ _ h1 fun y H2 ⟨x', y', e, h2⟩ => ?_
    cases e
    exact h2
end
section
variable {m : Str → Option Value}
theorem tK_mono_m {X : Cx} {W : XW} {k : AK} {σ : St} {H : Hp} {Q Q' : VK} (h : tKm X m W k σ H Q) (i : ∀ v H, Q v H → Q' v H) : tKm X m W k σ H Q' := by
  cases k with
  | s n =>
    obtain ⟨v, e, h⟩ := h
    exact ⟨v, e, i _ _ h⟩
  | v f =>
    obtain ⟨F, η, A, S, h⟩ := h
    exact ⟨F, η, A, S, h.imp fun _ _ _ _ _ _ _ v _ _ _ _ _ q => i v _ q⟩
end
section
variable {X : Cx} {W : XW} {pos : Pos} {a b c e : Expr} {rest : List Expr} {fa fb : Fe T} {ga gb : Fe Bool} {ka kb kc : AK} {op : Op}
variable {m : Str → Option Value}
theorem own_scalar_m {σ : St} {F H F1 H1 : Hp} {A A1 B1 : AP} {η1 : Env} {t : T} {v : V} {Q : VK} (S1 : Sit X.K m F1 H1 η1 σ A1) (st1 : Step F H A F1 H1 (Un2 A1 B1)) (r : Rep X.K m F1 v t) (h : After X.K m (RO X.K m) W F H A σ (.ok t η1) Q) : Q v H1 :=
  h F1 H1 A1 A0 v S1 (.frz r) Good.a0 (fun _ _ x => x) (st1.half A0 fun _ x => x)
end
section
variable {X : Cx} {W : XW} {pos : Pos} {a b c e : Expr} {rest : List Expr} {fa fb : Fe T} {ga gb : Fe Bool} {ka kb kc : AK} {op : Op}
variable {m : Str → Option Value}
theorem et_val_m (h : EEm X m W e fa) (he : ∀ whole, isTrue e X.env whole = (do let v ← whole; standAt e.pos; holding [v] (truthy v)) := by intro _; rfl) : ETm X m W e (tVal fa) :=
  PT.imp (pt_val h he) fun σ H Q q => tG.seq q fun F1 η1 A1 B1 t v H1 F A S1 ro g1 d1 st1 k => by
    unfold isB at k
    split at k
    · exact ⟨_, Own.bl_inv ro, k F1 H1 A1 A0 _ S1 rfl Good.a0 (fun _ _ x => x) (st1.half A0 fun _ x => x)⟩
    · exact k.elim
end
section
variable {X : Cx} {W : XW} {pos : Pos} {a b c e : Expr} {rest : List Expr} {fa fb : Fe T} {ga gb : Fe Bool} {ka kb kc : AK} {op : Op}
variable {m : Str → Option Value}
theorem et_cmp_m {co : CmpOp} {r : R2} (hr : OpR X (compareOp co) r) (ho : OpS (wmX X m).K (wmX X m).mg op fun vs H Q => ∃ x y, vs = [x, y] ∧ r x y H Q) (ha : EKm X m W a ka) (hb : EKm X m W b kb) (hm : behindInMarks co b = false) : ETm X m W (.Compare a [co] [b] pos) (tVal (eOp [ka, kb] op)) :=
  PT.imp (pt_cmpR hr ha hb hm) fun σ H Q q => by
    have h1 : tEm X m W (eOp [ka, kb] op) σ H fun z H' => ∃ k, z = .bl k ∧ Q k H' := tG.seq q fun F1 η1 A1 B1 t v H1 F A S1 ro g1 d1 st1 k => by
      unfold isB at k
      split at k
      · exact ⟨_, Own.bl_inv ro, k F1 H1 A1 A0 _ S1 rfl Good.a0 (fun _ _ x => x) (st1.half A0 fun _ x => x)⟩
      · exact k.elim
    refine tK_mono_m (args2_m (op_run_m ho h1)) fun x H1 h1 => tK_mono_m h1 fun y H2 ⟨x', y', e, h2⟩ => ?_
    cases e
    exact h2
end
section
variable {X : Cx} {W : XW} {pos : Pos} {a b c e : Expr} {rest : List Expr} {fa fb : Fe T} {ga gb : Fe Bool} {ka kb kc : AK} {op : Op}
variable {m : Str → Option Value}
theorem et_not_m (ha : ETm X m W a ga) : ETm X m W (.UnaryOp .Not a pos) (tNotF ga) :=
  PT.imp (pt_not ha) fun σ H Q q => tG.seq q fun F1 η1 A1 B1 t v H1 F A S1 ro g1 d1 st1 k => by
    have ro : v = t := ro
    subst ro
    exact k F1 H1 A1 A0 _ S1 rfl Good.a0 (fun _ _ x => x) (st1.half A0 fun _ x => x)
end
section
variable {X : Cx} {W : XW} {pos : Pos} {a b c e : Expr} {rest : List Expr} {fa fb : Fe T} {ga gb : Fe Bool} {ka kb kc : AK} {op : Op}
variable {m : Str → Option Value}
theorem ew_and1_m (ha : ETm X m W a ga) : EWm X m W (.BoolOp .And [a] pos) ga := pw_and1 ha
end
section
variable {X : Cx} {W : XW} {pos : Pos} {a b c e : Expr} {rest : List Expr} {fa fb : Fe T} {ga gb : Fe Bool} {ka kb kc : AK} {op : Op}
variable {m : Str → Option Value}
theorem ew_or1_m (ha : ETm X m W a ga) : EWm X m W (.BoolOp .Or [a] pos) ga := pw_or1 ha
end
section
variable {X : Cx} {W : XW} {pos : Pos} {a b c e : Expr} {rest : List Expr} {fa fb : Fe T} {ga gb : Fe Bool} {ka kb kc : AK} {op : Op}
variable {m : Str → Option Value}
theorem ew_and_m (ha : ETm X m W a ga) (hb : EWm X m W (.BoolOp .And (b :: rest) pos) gb) : EWm X m W (.BoolOp .And (a :: b :: rest) pos) (tAndF ga gb) :=
  PW.imp (pw_and ha hb) fun σ H Q q => tG.seq q fun F1 η1 A1 B1 t v H1 F A S1 ro g1 d1 st1 k => by
    have ro : v = t := ro
    subst ro
    cases v with
    | true => rw [if_pos rfl] at k ⊢; exact tG.go1 S1 st1 k
    | false =>
      rw [if_neg Bool.false_ne_true] at k ⊢
      exact k F1 H1 A1 A0 _ S1 rfl Good.a0 (fun _ _ x => x) (st1.half A0 fun _ x => x)
end
section
variable {X : Cx} {W : XW} {pos : Pos} {a b c e : Expr} {rest : List Expr} {fa fb : Fe T} {ga gb : Fe Bool} {ka kb kc : AK} {op : Op}
variable {m : Str → Option Value}
theorem ew_or_m (ha : ETm X m W a ga) (hb : EWm X m W (.BoolOp .Or (b :: rest) pos) gb) : EWm X m W (.BoolOp .Or (a :: b :: rest) pos) (tOrF ga gb) :=
  PW.imp (pw_or ha hb) fun σ H Q q => tG.seq q fun F1 η1 A1 B1 t v H1 F A S1 ro g1 d1 st1 k => by
    have ro : v = t := ro
    subst ro
    cases v with
    | false => rw [if_neg Bool.false_ne_true] at k ⊢; exact tG.go1 S1 st1 k
    | true =>
      rw [if_pos rfl] at k ⊢
      exact k F1 H1 A1 A0 _ S1 rfl Good.a0 (fun _ _ x => x) (st1.half A0 fun _ x => x)
end
section
variable {X : Cx} {W : XW} {pos : Pos} {a b c e : Expr} {rest : List Expr} {fa fb : Fe T} {ga gb : Fe Bool} {ka kb kc : AK} {op : Op}
variable {m : Str → Option Value}
theorem et_bo_m (h : EWm X m W e ga) : ETm X m W e ga := h.pt
end
section
variable {X : Cx} {W : XW} {pos : Pos} {a b c e : Expr} {rest : List Expr} {fa fb : Fe T} {ga gb : Fe Bool} {ka kb kc : AK} {op : Op}
variable {m : Str → Option Value}
theorem ev_one_m {op : BoolOp} (h : EEm X m W a fa) : EEm X m W (.BoolOp op [a] pos) fa := pe_one h
end
section
variable {X : Cx} {W : XW} {pos : Pos} {a b c e : Expr} {rest : List Expr} {fa fb : Fe T} {ga gb : Fe Bool} {ka kb kc : AK} {op : Op}
variable {m : Str → Option Value}
theorem ev_and_m (ha : EEm X m W a fa) (hb : EEm X m W (.BoolOp .And (b :: rest) pos) fb) : EEm X m W (.BoolOp .And (a :: b :: rest) pos) (eAndF fa fb) :=
  PE.imp (pe_and ha hb) fun σ H Q q => tG.seq q fun F1 η1 A1 B1 t v H1 F A S1 ro g1 d1 st1 k => by
    split at k
    · rename_i c
      refine ⟨c, Own.bl_inv ro, ?_⟩
      cases c with
      | true => rw [if_pos rfl] at k ⊢; exact tG.go1 S1 st1 k
      | false =>
        rw [if_neg Bool.false_ne_true] at k ⊢
        exact own_scalar_m S1 st1 (.bl _) k
    · exact k.elim
end
section
variable {X : Cx} {W : XW} {pos : Pos} {a b c e : Expr} {rest : List Expr} {fa fb : Fe T} {ga gb : Fe Bool} {ka kb kc : AK} {op : Op}
variable {m : Str → Option Value}
theorem ev_or_m (ha : EEm X m W a fa) (hb : EEm X m W (.BoolOp .Or (b :: rest) pos) fb) : EEm X m W (.BoolOp .Or (a :: b :: rest) pos) (eOrF fa fb) :=
  PE.imp (pe_or ha hb) fun σ H Q q => tG.seq q fun F1 η1 A1 B1 t v H1 F A S1 ro g1 d1 st1 k => by
    split at k
    · rename_i c
      refine ⟨c, Own.bl_inv ro, ?_⟩
      cases c with
      | false => rw [if_neg Bool.false_ne_true] at k ⊢; exact tG.go1 S1 st1 k
      | true =>
        rw [if_pos rfl] at k ⊢
        exact own_scalar_m S1 st1 (.bl _) k
    · exact k.elim
end
section
variable {X : Cx} {W : XW} {pos : Pos} {a b c e : Expr} {rest : List Expr} {fa fb : Fe T} {ga gb : Fe Bool} {ka kb kc : AK} {op : Op}
variable {m : Str → Option Value}
theorem ev_not_m (ha : EEm X m W a fa) : EEm X m W (.UnaryOp .Not a pos) (eNotF fa) :=
  PE.imp (pe_not ha) fun σ H Q q => tG.seq q fun F1 η1 A1 B1 t v H1 F A S1 ro g1 d1 st1 k => by
    split at k
    · exact ⟨_, Own.bl_inv ro, own_scalar_m S1 st1 (.bl _) k⟩
    · exact k.elim
end
section
variable {X : Cx} {W : XW} {pos : Pos} {a b c e : Expr} {rest : List Expr} {fa fb : Fe T} {ga gb : Fe Bool} {ka kb kc : AK} {op : Op}
variable {m : Str → Option Value}
theorem ev_if_m (hc : ETm X m W c ga) (ha : EEm X m W a fa) (hb : EEm X m W b fb) : EEm X m W (.IfExp c a b pos) (eIfF ga fa fb) :=
  PE.imp (pe_ifExp hc ha hb) fun σ H Q q => tG.seq q fun F1 η1 A1 B1 t v H1 F A S1 ro g1 d1 st1 k => by
    have ro : v = t := ro
    subst ro
    cases v with
    | true => rw [if_pos rfl] at k ⊢; exact tG.go1 S1 st1 k
    | false => rw [if_neg Bool.false_ne_true] at k ⊢; exact tG.go1 S1 st1 k
end
section
variable {X : Cx} {W : XW} {pos : Pos} {es : List Expr} {ks : List AK}
variable {m : Str → Option Value}
theorem ev_lst_m (h : EAsm X m W es ks) : EEm X m W (.List es pos) (eLst ks) :=
  PE.imp (pe_lst h) fun σ H Q q => tG.seq q fun F1 η1 A1 B1 as vs H1 F A S1 ra g1 d1 st1 k => by
    cases e1 : valsOf as with
    | none => rw [e1] at k; exact k.elim
    | some ts =>
      rw [e1] at k
      simp only at k
      split at k
      · rename_i hz
        have ol := RA.vals ra e1
        refine ⟨by rw [ol.length]; exact hz, fun p n => ?_⟩
        obtain ⟨x1, x2, x3, x4, x5, x6⟩ := new_own (o := .lst vs) (B := Un2 A1 B1) (B1 := Un2 A1 B1) Step.refl S1.sub (S1.good.un g1) n
        have ne : ∀ q, Un2 A1 B1 q → q ≠ p := fun q y z => x4 q y z
        refine k F1 _ A1 (fun q => B1 q ∨ q = p) (.ref p) ⟨x1, x2.mono fun q y => .inl y, S1.env.mono (fun _ _ y => y) (fun q o _ y => x6 q o y) fun _ y => y⟩ ?_ ?_ ?_ ?_
        · exact .lst upd_same (OwnL.mono (fun _ _ y => y) _ _ _ _ ol (fun q o _ y => x6 q o y) fun _ y => y) (.inr rfl) (fun y => ne p (.inr y) rfl) fun q y => .inl y
        · exact fun q y => y.elim (fun z => x2 q (.inr z)) fun z => x3 q z
        · exact fun q y z => z.elim (d1 q y) fun w => ne q (.inl y) w
        · exact st1.trans ⟨x5.keep, x5.sub, x5.newF, fun q y => x5.newA q (y.elim (fun z => .inl (.inl z)) fun z => z.elim (fun w => .inl (.inr w)) .inr)⟩
      · exact k.elim
end
section
variable {X : Cx} {W : XW} {pos : Pos} {es : List Expr} {ks : List AK}
variable {m : Str → Option Value}
theorem ev_tup_m {x1} (h : EAsm X m W es ks) : EEm X m W (.Tuple es x1 pos) (eTup ks) :=
  PE.imp (pe_tup h) fun σ H Q q => tG.seq q fun F1 η1 A1 B1 as vs H1 F A S1 ra g1 d1 st1 k => by
    cases e1 : valsOf as with
    | none => rw [e1] at k; exact k.elim
    | some ts =>
      rw [e1] at k
      simp only at k
      split at k
      · rename_i hz
        have ol := RA.vals ra e1
        refine ⟨by rw [ol.length]; exact hz, fun p n => ?_⟩
        obtain ⟨gA, stF⟩ := frz_step (B := B1) S1.sub S1.good fun q y z => d1 q z y
        have rp := OwnL.frz_in (frzF_same (A := B1) S1.sub) _ _ _ ol fun q y => frzF_in y
        have st2 : Step F1 H1 (Un2 A1 B1) (frzF F1 H1 B1) H1 A1 := stF.weak (fun q y => y.elim .inr .inl) fun _ y => y
        obtain ⟨x1, x2, x3, x4⟩ := new_frz (o := .tup vs) st2 (frzF_sub S1.sub) gA n
        have sm : Same H1 (upd H1 p (.tup vs)) := fun q u e => by rw [upd_ne (ne_of_none e n)]; exact e
        exact k _ _ A1 A0 (.ref p) ⟨x1, x2, S1.env.mono (fun q o y => x4 q o (frzF_same S1.sub q o y)) (fun q o _ y => sm q o y) fun _ y => y⟩ (.frz (.tup (.of upd_same) (RepL.mono x4 _ _ rp))) Good.a0 (fun _ _ y => y) (st1.trans x3)
      · exact k.elim
end
section
variable {X : Cx} {W : XW} {ms : List Nat} {st : Stmt} {sts : List Stmt} {f g : Fs} {e : Expr} {fe : Fe T} {c : Expr} {fc : Fe Bool} {pos : Pos}
variable {m : Str → Option Value}
theorem sss_nil_m : SSsm X m W ms [] sSkip := PSs.imp pss_nil fun D σ H ⟨F, η, A, S, h⟩ => h F H A σ S Step.refl Kp.refl
end
section
variable {X : Cx} {W : XW} {ms : List Nat} {st : Stmt} {sts : List Stmt} {f g : Fs} {e : Expr} {fe : Fe T} {c : Expr} {fc : Fe Bool} {pos : Pos}
variable {m : Str → Option Value}
theorem sss_cons_m (h1 : SSm X m W ms st f) (h2 : SSsm X m W ms sts g) : SSsm X m W ms (st :: sts) (sSeq f g) := PSs.imp (pss_cons h1 h2) fun D σ H ⟨F, η, A, S, h⟩ => by
  refine ⟨F, η, A, S, ?_⟩
  have h : AfterS X.K m W ms F H A σ (goOn g (f η)) D := h
  cases q : f η with
  | ok fl η1 =>
    rw [q] at h
    cases fl with
    | nx => exact fun F' H' A' σ' s p k => tS.mk s p k h
    | bk => exact h
    | ct => exact h
    | rt t => exact h
  | exc c ks fs η1 => rw [q] at h; exact h
  | bad => rw [q] at h; exact h
end
section
variable {X : Cx} {W : XW} {ms : List Nat} {st : Stmt} {sts : List Stmt} {f g : Fs} {e : Expr} {fe : Fe T} {c : Expr} {fc : Fe Bool} {pos : Pos}
variable {m : Str → Option Value}
theorem sss_one_m (h1 : SSm X m W ms st f) : SSsm X m W ms [st] f := pss_one h1
end
section
variable {X : Cx} {W : XW} {ms : List Nat} {st : Stmt} {sts : List Stmt} {f g : Fs} {e : Expr} {fe : Fe T} {c : Expr} {fc : Fe Bool} {pos : Pos}
variable {m : Str → Option Value}
theorem ss_pass_m : SSm X m W ms (.Pass pos) sSkip := PS.imp ps_pass fun D σ H ⟨F, η, A, S, h⟩ => h F H A σ S Step.refl Kp.refl
end
section
variable {X : Cx} {W : XW} {ms : List Nat} {st : Stmt} {sts : List Stmt} {f g : Fs} {e : Expr} {fe : Fe T} {c : Expr} {fc : Fe Bool} {pos : Pos}
variable {m : Str → Option Value}
theorem ss_doc_m {x j pos pos'} : SSm X m W ms (.Expr (.Constant (.str x) j pos) pos') sSkip := PS.imp ps_doc fun D σ H ⟨F, η, A, S, h⟩ => h F H A σ S Step.refl Kp.refl
end
section
variable {X : Cx} {W : XW} {ms : List Nat} {st : Stmt} {sts : List Stmt} {f g : Fs} {e : Expr} {fe : Fe T} {c : Expr} {fc : Fe Bool} {pos : Pos}
variable {m : Str → Option Value}
theorem ss_expr_m (he : EEm X m W e fe) (hs : swapsWith e none pos.line X.env = pure false := by rfl) : SSm X m W ms (.Expr e pos) (sExpr fe) := PS.imp (ps_expr he hs) fun D σ H h =>
  tS.seq h fun F1 η1 A1 B1 t v H1 F A S1 ro g1 d1 st1 k => k F1 H1 A1 σ S1 st1.halfS Kp.refl
end
section
variable {X : Cx} {W : XW} {ms : List Nat} {st : Stmt} {sts : List Stmt} {f g : Fs} {e : Expr} {fe : Fe T} {c : Expr} {fc : Fe Bool} {pos : Pos}
variable {m : Str → Option Value}
theorem ss_if_m {a b : List Stmt} (hc : ETm X m W c fc) (ha : SSsm X m W ms a f) (hb : SSsm X m W ms b g) : SSm X m W ms (.If c a b pos) (sIf fc f g) := PS.imp (ps_if hc ha hb) fun D σ H h =>
  tS.seq h fun F1 η1 A1 B1 t v H1 F A S1 ro g1 d1 st1 k => by
    have ro : v = t := ro
    subst ro
    cases v with
    | true => rw [if_pos rfl] at k ⊢; exact tS.mk S1 st1.halfS Kp.refl k
    | false => rw [if_neg Bool.false_ne_true] at k ⊢; exact tS.mk S1 st1.halfS Kp.refl k
end
section
variable {X : Cx} {W : XW} {ms : List Nat} {st : Stmt} {sts : List Stmt} {f g : Fs} {e : Expr} {fe : Fe T} {c : Expr} {fc : Fe Bool} {pos : Pos}
variable {m : Str → Option Value}
theorem seq_set_m {i : Nat} (hm : ms.contains i = false) {D : Ends} {σ : St} {H : Hp} (h : tS X.K m W ms (sSet i fe) D σ H) : tAsg (tEm X m W fe) (gName i) D σ H :=
  tS.seq h fun F1 η1 A1 B1 t v H1 F A S1 ro g1 d1 st1 k => by
    split at k
    · rename_i hi
      exact k F1 H1 (Un2 A1 B1) (σ.set i (some v)) ⟨S1.sub, S1.good.un g1, EnvO.put (S1.env.drop i) hi ro (fun p x y => d1 p y x) (fun p x => .inr x) fun p x => .inl x⟩ st1 (set_keep hm)
    · exact k.elim
end
section
variable {X : Cx} {W : XW} {ms : List Nat} {st : Stmt} {sts : List Stmt} {f g : Fs} {e : Expr} {fe : Fe T} {c : Expr} {fc : Fe Bool} {pos : Pos}
variable {m : Str → Option Value}
theorem ss_set_m {i : Nat} {x : Str} {pos' : Pos} (hN : X.N.Nodup) (hi : X.N[i]? = some x) (hx : Loc X.env.scope x) (hm : ms.contains i = false) (he : EEm X m W e fe) (hs : swapsWith e (some (.Name x pos')) pos.line X.env = pure false := by rfl) (hf : X.fn x = true ∨ X.env.scope.names.lookup x = some .local := by first | exact .inl rfl | exact .inr rfl | assumption) :
    SSm X m W ms (.Assign [.Name x pos'] e pos) (sSet i fe) := PS.imp (ps_set hN hi hx he hs hf) fun D σ H h => seq_set_m hm h
end
section
variable {X : Cx} {W : XW} {i : Nat} {ks : List AK} {op : Om}
variable {m : Str → Option Value}
theorem meth_seq_m {kd : T → Bool} {Ty : String} {r : V → List V → Hp → VK → Prop} (hk : ∀ {F H : Hp} {v : V} {t : T} {A : AP}, Same F H → Own X.K m F H v t A → kd t = true → tyV X.K Ty v H) (ho : OpM (wmX X m).K (wmX X m).mg op r) {σ : St} {H : Hp} {Q : VK} (h : tEm X m W (eMeth kd i ks op) σ H Q) :
    tBM X.K Ty r (tVar i) (tAm X m W (argsF ks)) σ H Q := by
  obtain ⟨F, η, A, S, h⟩ := h
  unfold eMeth at h
  cases e : η[i]? with
  | none => rw [e] at h; exact h.elim
  | some o =>
    cases o with
    | none => rw [e] at h; exact h.elim
    | some t =>
      rw [e] at h
      simp only at h
      split at h
      · rename_i hkt
        obtain ⟨v, B, C, h1, h2, h3, h4, h5, h6⟩ := S.env.take e
        refine ⟨v, h1, hk S.sub h2 hkt, ?_⟩
        refine tG.go (f := argsF ks) (A1 := A) (B1 := A0) S (Step.refl.weak (fun _ x => x) fun p x => x.elim id fun y => y.elim) h fun F1 η1 A1 B1 as vs H1 S1 ra g1 d1 st1 k => ?_
        cases e1 : η1[i]? with
        | none => rw [e1] at k; exact k.elim
        | some o =>
          cases o with
          | none => rw [e1] at k; exact k.elim
          | some t0 =>
            rw [e1] at k
            simp only at k
            cases e2 : valsOf as with
            | none => rw [e2] at k; exact k.elim
            | some ts =>
              rw [e2] at k
              simp only at k
              cases e3 : op t0 ts with
              | none => rw [e3] at k; exact k.elim
              | some p =>
                obtain ⟨u, t0'⟩ := p
                rw [e3] at k
                simp only at k
                obtain ⟨v1, B2, C2, q1, q2, q3, q4, q5, q6⟩ := S1.env.take e1
                rw [h1] at q1
                cases q1
                have ol := RA.vals ra e2
                have oo : OwnL X.K m F1 H1 (v :: vs) (t0 :: ts) (Un2 B2 B1) := .cons q2 ol (fun p x y => d1 p (q5 p x) y) (fun _ x => .inl x) fun _ x => .inr x
                refine ho F1 H1 v vs t0 ts (Un2 B2 B1) u t0' S1.sub ((S1.good.mono q5).un g1) oo e3 Q fun F' H' B' C' w s gb gc o1 o2 dd st => ?_
                have gC2 : Good F1 H1 C2 := S1.good.mono q6
                obtain ⟨gA', dA', kA'⟩ := st.frame gC2 fun p x y => x.elim (fun z => q4 p z y) fun z => d1 p (q6 p y) z
                have n2 : EnvO X.K m F' H' σ (η1.set i none) C2 := q3.mono st.sub (fun p o x => kA' p o x) fun _ x => x
                have n3 : EnvO X.K m F' H' σ (η1.set i (some t0')) (Un2 C2 B') := EnvO.back n2 h1 o1 (fun p x y => dA' p (.inl x) y) (fun p x => .inr x) fun p x => .inl x
                refine k F' H' (Un2 C2 B') C' w ⟨s, gA'.un gb, n3⟩ o2 gc (fun p x y => x.elim (fun z => dA' p (.inr y) z) fun z => dd p z y) ?_
                exact st1.trans (st.wide (fun p x => x.elim (fun y => .inl (q5 p y)) .inr) fun p x => x.elim (fun y => y.elim (fun z => .inr (.inl (q6 p z))) fun z => .inl (.inl z)) fun y => .inl (.inr y))
      · exact h.elim
end
/-! ### try: body; except X as n: suite (errors of own classes without fields) -/
def mE (mg : Str → Option Value) (a : Addr) : Str → Option Value := fun c => if c = excN then some (.ref a) else mg c
theorem mE_exc {mg : Str → Option Value} {a : Addr} : mE mg a excN = some (.ref a) := if_pos rfl
/-- trees that say nothing of a module map -/
def scl : T → Bool
  | .non => true
  | .bl _ => true
  | .int _ => true
  | .str _ => true
  | _ => false
def cln : T → Bool
  | .tup ts => ts.all scl
  | t => scl t
section
variable {K : PySem.W.Frag} {m m' mg : Str → Option Value} {F F' H : Hp} {v : V} {t : T} {A : AP}
theorem scl_ok (e : scl t = true) (h : Rep K m F v t) : Rep K m' F v t := by
  cases h with
  | non => exact .non
  | bl b => exact .bl b
  | int b => exact .int b
  | str b => exact .str b
  | _ => cases e
theorem scls_ok : ∀ {vs : List V} {ts : List T}, ts.all scl = true → Paired (Rep K m F) vs ts → Paired (Rep K m' F) vs ts
  | _, _, _, .nil => .nil
  | _, _, e, .cons h r => by
    rw [List.all_cons, Bool.and_eq_true] at e
    exact .cons (scl_ok e.1 h) (scls_ok e.2 r)
theorem cln_ok (e : cln t = true) (h : Own K m F H v t A) : Rep K m' F v t := by
  cases h with
  | frz h =>
    cases h with
    | non => exact .non
    | bl b => exact .bl b
    | int b => exact .int b
    | str b => exact .str b
    | tup q r => exact .tup q (scls_ok e r)
    | _ => cases e
  | _ => cases e
/-- all that a frame owns, frozen -/
theorem EnvO.frzE (s : Same F F') : ∀ {σ : St} {η : Env} {A : AP}, EnvO K mg F H σ η A → (∀ p, A p → F' p = H p) → ∀ (j : Nat) (t : T), η[j]? = some (some t) → ∃ v, σ[j]? = some (some v) ∧ Rep K mg F' v t.frz
  | _, _, _, .nil, _, j, t, e => by simp at e
  | _, _, _, .skip h, k, 0, t, e => by simp at e
  | _, _, _, .skip h, k, j + 1, t, e => by simpa using EnvO.frzE s h k j t (by simpa using e)
  | _, _, _, .cons h1 h2 h3 h4 h5, k, 0, t, e => by
    simp at e
    subst e
    exact ⟨_, rfl, Own.frz_in s _ _ _ h1 fun p x => k p (h4 p x)⟩
  | _, _, _, .cons h1 h2 h3 h4 h5, k, j + 1, t, e => by simpa using EnvO.frzE s h2 (fun p x => k p (h5 p x)) j t (by simpa using e)
theorem EnvO.ofRep : ∀ {σ : St} {η : Env}, σ.length = η.length → (∀ (j : Nat) (t : T), η[j]? = some (some t) → ∃ v, σ[j]? = some (some v) ∧ Rep K mg F v t) → EnvO K mg F H σ η A0
  | [], [], _, _ => .nil
  | [], _ :: _, e, _ => by cases e
  | _ :: _, [], e, _ => by cases e
  | x :: σ, none :: η, e, k => .skip (EnvO.ofRep (by simpa using e) fun j t q => by simpa using k (j + 1) t (by simpa using q))
  | x :: σ, some t :: η, e, k => by
    obtain ⟨v, e1, r⟩ := k 0 t rfl
    simp at e1
    subst e1
    exact .cons (B := A0) (C := A0) (.frz r) (EnvO.ofRep (by simpa using e) fun j t q => by simpa using k (j + 1) t (by simpa using q)) (fun _ x => x.elim) (fun _ x => x) fun _ x => x
end
/-- behind the suite: slots that it may have set (true), the others, frozen -/
def mixE : List Bool → Env → Env → Env
  | true :: bs, _ :: xs, some y :: ys => (if cln y = true then some y else none) :: mixE bs xs ys
  | true :: bs, _ :: xs, none :: ys => none :: mixE bs xs ys
  | false :: bs, some x :: xs, _ :: ys => some x.frz :: mixE bs xs ys
  | false :: bs, none :: xs, _ :: ys => none :: mixE bs xs ys
  | _, _, _ => []
theorem mixE_len : ∀ {bs : List Bool} {xs ys : Env}, xs.length = bs.length → ys.length = bs.length → (mixE bs xs ys).length = bs.length
  | [], _, _, _, _ => rfl
  | true :: bs, _ :: xs, some y :: ys, h1, h2 => by simpa [mixE] using mixE_len (bs := bs) (xs := xs) (ys := ys) (by simpa using h1) (by simpa using h2)
  | true :: bs, _ :: xs, none :: ys, h1, h2 => by simpa [mixE] using mixE_len (bs := bs) (xs := xs) (ys := ys) (by simpa using h1) (by simpa using h2)
  | false :: bs, some x :: xs, _ :: ys, h1, h2 => by simpa [mixE] using mixE_len (bs := bs) (xs := xs) (ys := ys) (by simpa using h1) (by simpa using h2)
  | false :: bs, none :: xs, _ :: ys, h1, h2 => by simpa [mixE] using mixE_len (bs := bs) (xs := xs) (ys := ys) (by simpa using h1) (by simpa using h2)
  | _ :: _, [], _, h1, _ => by cases h1
  | _ :: _, _ :: _, [], _, h2 => by cases h2
theorem mixE_get : ∀ {bs : List Bool} {xs ys : Env} {j : Nat} {t : T}, xs.length = bs.length → ys.length = bs.length → (mixE bs xs ys)[j]? = some (some t) →
    (bs[j]? = some true ∧ ys[j]? = some (some t) ∧ cln t = true) ∨ (bs[j]? = some false ∧ ∃ u, xs[j]? = some (some u) ∧ t = u.frz)
  | [], _, _, j, t, _, _, e => by simp [mixE] at e
  | true :: bs, _ :: xs, some y :: ys, 0, t, h1, h2, e => by
    simp [mixE] at e
    exact .inl ⟨rfl, by simp [e.2], by rw [← e.2]; exact e.1⟩
  | true :: bs, _ :: xs, none :: ys, 0, t, h1, h2, e => by simp [mixE] at e
  | false :: bs, some x :: xs, _ :: ys, 0, t, h1, h2, e => by
    simp [mixE] at e
    exact .inr ⟨rfl, x, rfl, e.symm⟩
  | false :: bs, none :: xs, _ :: ys, 0, t, h1, h2, e => by simp [mixE] at e
  | true :: bs, _ :: xs, some y :: ys, j + 1, t, h1, h2, e => by simpa using mixE_get (bs := bs) (xs := xs) (ys := ys) (j := j) (t := t) (by simpa using h1) (by simpa using h2) (by simpa [mixE] using e)
  | true :: bs, _ :: xs, none :: ys, j + 1, t, h1, h2, e => by simpa using mixE_get (bs := bs) (xs := xs) (ys := ys) (j := j) (t := t) (by simpa using h1) (by simpa using h2) (by simpa [mixE] using e)
  | false :: bs, some x :: xs, _ :: ys, j + 1, t, h1, h2, e => by simpa using mixE_get (bs := bs) (xs := xs) (ys := ys) (j := j) (t := t) (by simpa using h1) (by simpa using h2) (by simpa [mixE] using e)
  | false :: bs, none :: xs, _ :: ys, j + 1, t, h1, h2, e => by simpa using mixE_get (bs := bs) (xs := xs) (ys := ys) (j := j) (t := t) (by simpa using h1) (by simpa using h2) (by simpa [mixE] using e)
  | _ :: _, [], _, _, _, h1, _, _ => by cases h1
  | _ :: _, _ :: _, [], _, _, _, h2, _ => by cases h2
def locE (n i : Nat) : Env := (List.replicate n none).set i (some (.gl excN))
def keepL (bs : List Bool) : List Nat := (List.range bs.length).filter fun j => !(bs.getD j true)
theorem keepL_mem {bs : List Bool} {j : Nat} (h : bs[j]? = some false) : j ∈ keepL bs := by
  have hj := (List.getElem?_eq_some_iff.mp h).1
  refine List.mem_filter.mpr ⟨List.mem_range.mpr hj, ?_⟩
  rw [List.getD_eq_getElem?_getD, h]
  rfl
/-- the error is an own class without fields; hs: what the suite leaves in the slots that it sets, by the error's class -/
def sTry (fb : Fs) (i : Nat) (bs : List Bool) (hs : List (Str × Env)) : Fs := fun η => match fb η with
  | .exc c [] _ η1 => match hs.lookup c with
    | some η2 => .ok .nx ((mixE bs η1 η2).set i none)
    | none => .bad
  | .exc _ (_ :: _) _ _ => .bad
  | r => r
section
variable {X : Cx}
inductive HsOk (X : Cx) (i : Nat) (bs : List Bool) (suite : List Stmt) (cv : Value) : List (Str × Env) → Prop
  | nil : HsOk X i bs suite cv []
  | cons {c : Str} {D : Addr} {h : Fs} {η2 : Env} {hs : List (Str × Env)} (g : X.mg c = some (.ref D)) (e : PySem.W.exmOne X.K (.ref D) cv = some true) (hq : h (locE bs.length i) = .ok .nx η2)
    (su : ∀ (a : Addr) (oe : Obj) (pn : List (Addr × Obj)), Zc (.ref D) none oe → (∃ vs, oe.data = .fields vs) → SSsm (X.suite a ((a, oe) :: pn)) (mE X.mg a) (fun _ _ _ _ => False) (keepL bs) suite h)
    (r : HsOk X i bs suite cv hs) : HsOk X i bs suite cv ((c, η2) :: hs)
theorem HsOk.get {i : Nat} {bs : List Bool} {suite : List Stmt} {cv : Value} : ∀ {hs : List (Str × Env)} {c : Str} {η2 : Env}, HsOk X i bs suite cv hs → hs.lookup c = some η2 →
    ∃ D h, X.mg c = some (.ref D) ∧ PySem.W.exmOne X.K (.ref D) cv = some true ∧ h (locE bs.length i) = .ok .nx η2 ∧
      ∀ (a : Addr) (oe : Obj) (pn : List (Addr × Obj)), Zc (.ref D) none oe → (∃ vs, oe.data = .fields vs) → SSsm (X.suite a ((a, oe) :: pn)) (mE X.mg a) (fun _ _ _ _ => False) (keepL bs) suite h
  | _, c, η2, .nil, e => by cases e
  | _, c, η2, .cons (c := c') (D := D) (h := h) (η2 := η3) (hs := hs) g e hq su r, l => by
    rw [List.lookup_cons] at l
    split at l
    · rename_i z
      have z : c = c' := by simpa using z
      subst z
      cases l
      exact ⟨D, h, g, e, hq, su⟩
    · exact r.get l
variable {W : XW} {ms : List Nat} {x n : Str} {cv : Value} {i : Nat} {body suite : List Stmt} {b₀ : Stmt} {np pos pos' : Pos} {fb : Fs} {bs : List Bool} {hs : List (Str × Env)}
theorem ss_try (hst : X.stack = X.env :: X.outer) (hf : X.env.frame = some X.env.locals) (hN : X.N.Nodup) (hi : X.N[i]? = some n) (hln : X.env.kindOf n = some .local) (hc : Names X x cv) (tk : Takes X W)
    (hbl : bs.length = X.N.length) (hbi : bs[i]? = some true) (hbm : ms.all (fun j => bs[j]? == some false) = true)
    (hb : ∀ (W : XW) (pn : List (Addr × Obj)) (xe : Value → Shared → Prop), Takes (X.tr pn xe) W → PassesOwn (model X.prog X.w) X.A X.env xe → SSs (X.tr pn xe) W ms body fb)
    (hh : HsOk X i bs (b₀ :: suite) cv hs) : SS X W ms (.Try body [.ExceptHandler (some (.Name x np)) (some n) (b₀ :: suite) pos'] [] [] pos) (sTry fb i bs hs) := by
  refine ⟨fun pins s σ H D I q => ?_⟩
  have mg_up : ∀ (a : Addr), True := fun _ => True.intro
  refine (ps_try_as (X := X) (Wout := W) (tb := fun W => tS X.K X.mg W ms fb)
    (ts := fun a cls d D' σ' H' => d = none ∧ ∃ c η2 h, hs.lookup c = some η2 ∧ X.mg c = some cls ∧ h (locE bs.length i) = .ok .nx η2 ∧
      (∀ (D : Addr), X.mg c = some (.ref D) → ∀ (oe : Obj) (pn : List (Addr × Obj)), Zc (.ref D) none oe → (∃ vs, oe.data = .fields vs) → SSsm (X.suite a ((a, oe) :: pn)) (mE X.mg a) (fun _ _ _ _ => False) (keepL bs) (b₀ :: suite) h) ∧
      tS X.K (mE X.mg a) (fun _ _ _ _ => False) (keepL bs) h D' σ' H')
    hst hf hN hi hln hc tk hb ?_).run pins s σ H D I ?_
  · intro a oe cls d pn hz hfl
    refine ⟨fun pins s σ H D I ⟨ed, c, η2, h, l, g, hq, su, q⟩ => ?_⟩
    subst ed
    obtain ⟨D', h', g', e', hq', _⟩ := hh.get l
    rw [g] at g'
    cases g'
    exact (su D' g oe pn hz hfl).run pins s σ H D I q
  · have hlen : σ.length = X.N.length := I.len
    obtain ⟨F, η, A, S, q⟩ := q
    refine ⟨F, η, A, S, ?_⟩
    have q : AfterS X.K X.mg W ms F H A σ (sTry fb i bs hs η) D := q
    unfold sTry at q
    cases e : fb η with
    | bad => rw [e] at q; exact q
    | ok fl η1 => rw [e] at q; cases fl <;> exact q
    | exc c ks fs η1 =>
      rw [e] at q
      cases ks with
      | cons k ks => exact q.elim
      | nil =>
        simp only at q
        cases l : hs.lookup c with
        | none => rw [l] at q; exact q.elim
        | some η2 =>
          rw [l] at q
          simp only at q
          obtain ⟨D', h, g, ex, hq, su⟩ := hh.get l
          intro F1 H1 A1 σ1 cls d S1 st1 kp1 xr
          obtain ⟨gc, xr⟩ := xr
          rw [g] at gc
          cases gc
          have ed : d = none := by
            cases d with
            | none => rfl
            | some dd => exact absurd rfl xr.1
          subst ed
          refine ⟨true, ex, fun _ a na => ⟨rfl, c, η2, h, l, g, hq, fun D2 g2 => ?_, ?_⟩, fun z => nomatch z⟩
          · rw [g] at g2; cases g2; exact fun oe pn hz hfl => su a oe pn hz hfl
          · -- the suite runs on its own small frame
            have l1 : σ1.length = bs.length := by rw [kp1.len, hlen, hbl]
            have le1 : η1.length = bs.length := by rw [← S1.env.length, l1]
            have hib : i < bs.length := (List.getElem?_eq_some_iff.mp hbi).1
            obtain ⟨gz, stz⟩ := frz_step (B := A1) (C := A0) S1.sub Good.a0 fun _ _ z => z
            have fr := EnvO.frzE (frzF_same (A := A1) S1.sub) S1.env fun p y => frzF_in y
            have el : EnvO X.K (mE X.mg a) (frzF F1 H1 A1) H1 (σ1.set i (some (.ref a))) (locE bs.length i) A0 := EnvO.ofRep (by simp [locE, l1]) fun j t ej => by
              unfold locE at ej
              rw [List.getElem?_set] at ej
              split at ej
              · rename_i eij
                subst eij
                split at ej
                · cases ej
                  exact ⟨_, by simp [l1, hib], .gl mE_exc⟩
                · cases ej
              · rw [List.getElem?_replicate] at ej
                split at ej <;> cases ej
            refine ⟨frzF F1 H1 A1, locE bs.length i, A0, ⟨frzF_sub S1.sub, Good.a0, el⟩, ?_⟩
            rw [hq]
            intro F3 H3 A3 σ3 S3 st3 kp3
            have l3 : σ3.length = bs.length := by rw [kp3.len, List.length_set, l1]
            have le2 : η2.length = bs.length := by rw [← S3.env.length, l3]
            have em : EnvO X.K X.mg F3 H3 (σ3.set i none) ((mixE bs η1 η2).set i none) A0 := by
              refine EnvO.ofRep (by rw [List.length_set, List.length_set, mixE_len le1 le2, l3]) fun j t ej => ?_
              rw [List.getElem?_set] at ej
              split at ej
              · split at ej <;> cases ej
              · rename_i nij
                rw [List.getElem?_set_ne nij]
                rcases mixE_get le1 le2 ej with ⟨b1, b2, b3⟩ | ⟨b1, u, b2, rfl⟩
                · obtain ⟨v, B, C, h1, h2, _⟩ := S3.env.take b2
                  exact ⟨v, h1, cln_ok b3 h2⟩
                · obtain ⟨v, h1, h2⟩ := fr j u b2
                  refine ⟨v, ?_, Rep.mono st3.sub _ _ h2⟩
                  rw [kp3.at_ j (keepL_mem b1), List.getElem?_set_ne nij]
                  exact h1
            refine q F3 H3 A0 (σ3.set i none) ⟨S3.sub, Good.a0, em⟩ ?_ ?_
            · exact st1.trans ((stz.weak (fun p y => y.elim id fun z => z.elim) fun _ y => y).trans (st3.weak (fun _ y => y) fun _ y => y.elim))
            · refine kp1.trans ⟨by rw [List.length_set, l3, l1], fun j hj => ?_⟩
              have hjb : bs[j]? = some false := by
                have := List.all_eq_true.mp hbm j hj
                simpa using this
              have nij : i ≠ j := fun z => by
                subst z
                rw [hbi] at hjb
                cases hjb
              rw [List.getElem?_set_ne nij, kp3.at_ j (keepL_mem hjb), List.getElem?_set_ne nij]
end
/-! ### isinstance of the caught error -/
def eIsE (i : Nat) (b : Bool) : Fe T := fun η => match η[i]? with
  | some (some (.gl s)) => if s = excN then .ok (.bl b) η else .bad
  | _ => .bad
/-- a class's name -/
structure ClsE (X : Cx) (e : Expr) (cv : Value) : Prop where
  h : ∃ v : V, PE X e (tC v) ∧ ∀ u, RelV v u → u = cv
theorem cls_own {X : Cx} {x : Str} {C : Addr} {pos : Pos} (hg : Gl X x) (hm : X.mg x = some (.ref C)) (hd : (x == ("__debug__" : Str)) = false := by decide) : ClsE X (.Name x pos) (.ref C) := ⟨.ref C, pe_glob hg hm (v := .ref C) rfl hd, fun _ h => h⟩
theorem cls_ty {X : Cx} {x : Str} {n : String} {pos : Pos} (hg : Gl X x) (hm : X.mg x = none) (hv : bootBuiltins x = some (.type n)) (hn : x ≠ "__name__" := by decide) (hd : (x == ("__debug__" : Str)) = false := by decide) : ClsE X (.Name x pos) (.type n) := ⟨.ty n, pe_bltn hg hm hv (v := .ty n) rfl hn hd, fun _ h => h⟩
theorem ev_isE {X : Cx} {a D : Addr} {oe : Obj} {pn : List (Addr × Obj)} {W : XW} {i : Nat} {x n : Str} {b : Bool} {cv : Value} {c : Expr} {p p2 pos : Pos} (C : ExcC X.K D) (hz : Zc (.ref D) none oe) (hf : ∃ vs, oe.data = .fields vs) (hx : x = "isinstance") (hg : Gl X x) (hm : X.mg x = none)
    (hv : PE (X.suite a ((a, oe) :: pn)) (.Name n p2) (tVar i)) (hc : ClsE (X.suite a ((a, oe) :: pn)) c cv) (hk : PySem.W.kitOne X.K (.ref D) cv = some b)
    (he : starEach (.Name n p2 :: [c]) X.env = (false, eval (.Name n p2) X.env) :: starEach [c] X.env := by rfl) (he2 : starEach [c] X.env = (false, eval c X.env) :: starEach [] X.env := by rfl) (hpl : (backTo pos (starEach [c] X.env)).any (·.1) = false := by rfl) :
    EEm (X.suite a ((a, oe) :: pn)) (mE X.mg a) W (.Call (.Name x p) [.Name n p2, c] [] pos) (eIsE i b) := by
  subst hx
  obtain ⟨v, hp, hr⟩ := hc.h
  exact PE.imp (pe_callB (X := X.suite a ((a, oe) :: pn)) (call_isE C hz hf) hg hm PyProof.Rows.boot_isinstance (pa_cons hv (pa_cons hp pa_nil he2) he) (by decide) (by decide) he hpl) fun σ H Q ⟨F, η, A, S, q⟩ => by
    unfold eIsE at q
    split at q
    · rename_i s es
      split at q
      · rename_i e2
        subst e2
        obtain ⟨v1, B, C1, h1, h2, _⟩ := S.env.take es
        obtain ⟨a1, rfl, h3⟩ := h2.gl_inv
        rw [mE_exc] at h3
        cases h3
        exact ⟨_, h1, v, cv, b, rfl, hr, hk, q F H A A0 (.bl b) S (.frz (.bl b)) Good.a0 (fun _ _ x => x) (Step.refl.weak (fun _ x => x) fun p x => x.elim id fun y => y.elim)⟩
      · exact q.elim
    · exact q.elim
section
variable {K : PySem.W.Frag} {D C : Addr} {b : Bool}
theorem kit_self : PySem.W.kitOne K (.ref D) (.ref D) = some true := by
  unfold PySem.W.kitOne
  rw [if_pos (by simp)]
theorem kit_clsR (hd : PySem.W.hasDictIn K C = true) (ht : PySem.W.typeIn K (.ref C) = some (.type "type")) (h4 : PySem.W.subIn K (.ref D) (.ref C) = some b) : PySem.W.kitCls K (.ref D) (.ref C) = some b := by
  obtain ⟨cd, hc, _⟩ := PySem.W.any_some hd
  have e2 : ((PySem.W.clsIn K C).isSome && PySem.W.typeIn K (.ref C) == some (.type "type")) = true := by rw [hc, ht] <;> rfl
  show (if ((PySem.W.clsIn K C).isSome && PySem.W.typeIn K (.ref C) == some (.type "type")) = true then PySem.W.subIn K (.ref D) (.ref C) else none) = some b
  rw [if_pos e2]
  exact h4
theorem kit_refT (hd : PySem.W.hasDictIn K C = true) (ht : PySem.W.typeIn K (.ref C) = some (.type "type")) (h4 : PySem.W.subIn K (.ref D) (.ref C) = some true) : PySem.W.kitOne K (.ref D) (.ref C) = some true := by
  unfold PySem.W.kitOne
  split
  · rfl
  · exact kit_clsR hd ht h4
theorem kit_refF (hd : PySem.W.hasDictIn K C = true) (ht : PySem.W.typeIn K (.ref C) = some (.type "type")) (h4 : PySem.W.subIn K (.ref D) (.ref C) = some false) (ne : (Value.ref D == Value.ref C) = false) : PySem.W.kitOne K (.ref D) (.ref C) = some false := by
  unfold PySem.W.kitOne
  rw [if_neg (by rw [ne]; exact Bool.false_ne_true)]
  exact kit_clsR hd ht h4
theorem kit_tyx {n : String} (hm : PySem.W.kitMeta n = true) (h : PySem.W.subIn K (.ref D) (.type n) = some b) : PySem.W.kitOne K (.ref D) (.type n) = some b := by
  have e : (Value.ref D == Value.type n) = false := rfl
  unfold PySem.W.kitOne
  rw [if_neg (by rw [e]; exact Bool.false_ne_true)]
  show (if PySem.W.kitMeta n = true then PySem.W.subIn K (.ref D) (.type n) else none) = _
  rw [if_pos hm]
  exact h
end
theorem jb_ValueError : bootBuiltins "ValueError" = some (.type "ValueError") := by decide +kernel
/-! ### walking through errors -/
theorem r_raise0 {c : Str} {η : Env} : sRaise0 c η = .exc c [] [] η := rfl
theorem r_callX {f : Fn} {ms : List Nat} {ks : List AK} {η η1 η2 η3 : Env} {as : List (Sum Nat T)} {ts us fs : List T} {c : Str} {k : List Str} (h : argsF ks η = .ok as η1) (h2 : resolve as η1 = some (ts, η2)) (h3 : f ts = .exc c k fs us) (h4 : backM ms as us η2 = η3) : eCall f ms ks η = .exc c k fs η3 := by
  unfold eCall
  rw [h]
  simp only [Res.bind, h2, h3, h4]
theorem r_exprX {e : Fe T} {η η1 : Env} {c : Str} {k : List Str} {fs : List T} (h : e η = .exc c k fs η1) : sExpr e η = .exc c k fs η1 := by
  unfold sExpr
  rw [h]; rfl
theorem r_setX {i : Nat} {e : Fe T} {η η1 : Env} {c : Str} {k : List Str} {fs : List T} (h : e η = .exc c k fs η1) : sSet i e η = .exc c k fs η1 := by
  unfold sSet
  rw [h]; rfl
theorem r_retX {e : Fe T} {η η1 : Env} {c : Str} {k : List Str} {fs : List T} (h : e η = .exc c k fs η1) : sRet e η = .exc c k fs η1 := by
  unfold sRet
  rw [h]; rfl
theorem r_seqX {f g : Fs} {η η1 : Env} {c : Str} {k : List Str} {fs : List T} (h : f η = .exc c k fs η1) : sSeq f g η = .exc c k fs η1 := by
  unfold sSeq
  rw [h]; rfl
theorem defF_ex {n : Nat} {ms : List Nat} {body : Fs} {ts : List T} {η : Env} {c : Str} {k : List Str} {fs us : List T} (h : body (ts.map some ++ List.replicate (n - ts.length) none) = .exc c k fs η) (h2 : pickE ms η = some us) : defF n ms body ts = .exc c k fs us := by
  unfold defF
  rw [h]
  simp only [h2]
theorem r_tryN {fb : Fs} {i : Nat} {bs : List Bool} {hs : List (Str × Env)} {η η1 : Env} {fl : Fl} (h : fb η = .ok fl η1) : sTry fb i bs hs η = .ok fl η1 := by
  unfold sTry
  rw [h]
theorem r_tryX {fb : Fs} {i : Nat} {bs : List Bool} {hs : List (Str × Env)} {η η1 η2 η3 : Env} {c : Str} {fs : List T} (h : fb η = .exc c [] fs η1) (h2 : hs.lookup c = some η2) (h3 : (mixE bs η1 η2).set i none = η3) : sTry fb i bs hs η = .ok .nx η3 := by
  unfold sTry
  rw [h]
  simp only [h2, h3]

/-! ### a function picked out of a list and called; list.count, list.index of truth values -/
end Jo
namespace L2
open PySem PySem.Spec PyProof.Rows
section
variable {X : Cx} {CX : CXT} {E : St → XK} {a b e : Expr} {es : List Expr} {p pos : Pos} {tf : TE} {t : TA}
theorem pe_callSub (hf : PE X (.Subscript a b p) tf) (hx : ∀ σ, PassesAt CX X σ (E σ)) (ha : PA X (e :: es) t)
    (he : starEach (e :: es) X.env = (false, eval e X.env) :: starEach es X.env := by rfl) (hpl : (backTo pos (starEach es X.env)).any (·.1) = false := by rfl) :
    PE X (.Call (.Subscript a b p) (e :: es) [] pos) (fun σ H Q => tf σ H fun x H1 => ∃ (f : Addr) (sp : Sp) (k : Nat) (fd : FuncData) (ps : List Str), x = .ref f ∧ PySem.W.keepIn X.K (.ref f) = true ∧ FnOk X.prog X.w X.K X.mg X.base CX k f fd ps sp ∧ Room k X.A ∧ Binds X.K fd ps [] ∧ t σ H1 fun vs H2 => sp vs H2 Q (E σ)) := by
  refine ⟨fun pins s σ H Q I h => ?_⟩
  have ev : eval (.Call (.Subscript a b p) (e :: es) [] pos) X.env = (do
    callWith pos (← eval (.Subscript a b p) X.env) [] (backTo pos (starEach (e :: es) X.env)) (backToKw pos (keywordEach [] X.env))) := rfl
  rw [ev]
  refine wpAny_bind (thn (hf.run pins s σ H _ I h) fun u s1 ⟨x, H1, I1, rx, f, sp, k, fd, ps, ex, hk, F, hr, hb, q⟩ => ?_)
  subst ex
  cases (show u = Value.ref f from rx)
  refine PySem.W.callWith_K (first := []) (h₀ := X.base) I.ok.mod.kin hk (thn (ha.run pos pins s1 σ H1 _ I1 q) fun us s3 ⟨vs, H2, I3, r, q2⟩ => ⟨I3.kIn, ?_⟩) he hpl
  exact run_fnS F hr hb (hx σ) I3 r q2
end
section
variable {X : Cx}
theorem dpAll_bls {K : PySem.W.Frag} {H : Hp} : ∀ bs : List Bool, DpAll K H (bs.map V.bl) (bs.map PyData.bool)
  | [] => .nil
  | b :: bs => .cons (.bl b) (dpAll_bls bs)
theorem plain_bls : ∀ bs : List Bool, PyData.plainAll (bs.map PyData.bool) = true
  | [] => by simp [PyData.plainAll]
  | b :: bs => by simp [PyData.plainAll, PyData.plain, plain_bls bs]
theorem depth_bls : ∀ bs : List Bool, PyData.depthAll (bs.map PyData.bool) = 0
  | [] => by simp [PyData.depthAll]
  | b :: bs => by simp [PyData.depthAll, PyData.depth, depth_bls bs]
theorem eqv_bl (a b : Bool) : PyData.eqv (.bool a) (.bool b) = (a == b) := by cases a <;> cases b <;> simp [PyData.eqv]
def rCntB (K : PySem.W.Frag) : V → List V → Hp → VK → Prop := fun x xs H Q => ∃ (a : Addr) (bs : List Bool) (b : Bool), x = .ref a ∧ xs = [.bl b] ∧ SqL K H a (bs.map V.bl) ∧ Q (.int (bs.count b : Nat)) H
theorem mt_cntB (hu : X.A.units + 65 < cLine) : MtR X "list.count" (rCntB X.K) := by
  intro pins s σ H x xs v us Q I rx rxs h
  obtain ⟨a, bs, b, rfl, rfl, hs, q⟩ := h
  cases rx
  obtain ⟨u, rfl, ru⟩ := rxs.one
  cases ru
  obtain ⟨its, rv, p, hlen⟩ := I.list hs
  obtain ⟨as, r1⟩ := Dp.readsAll I (bs.map PyData.bool) _ its (dpAll_bls bs) rv
  obtain ⟨as2, r2⟩ := Dp.reads I (.bool b) (.bl b) (.bool b) (.bl b) rfl
  refine SeqAt.count_list_data p.isList (show ReadsAll s.heap its.toArray.toList _ as from r1) r2 (plain_bls bs) (by simp [PyData.plain]) (by rw [depth_bls]; simp [PyData.depth]; omega) ?_
  have ec : ((bs.map PyData.bool).countP fun y => PyData.eqv y (.bool b)) = bs.count b := by
    rw [List.countP_map, List.count]
    exact List.countP_congr fun x _ => by simp [eqv_bl]
  rw [ec]
  exact ⟨.int (bs.count b : Nat), H, I.tok _, ⟨_, rfl⟩, q⟩
def rIdxB (K : PySem.W.Frag) : V → List V → Hp → VK → Prop := fun x xs H Q => ∃ (a : Addr) (bs : List Bool) (b : Bool), x = .ref a ∧ xs = [.bl b] ∧ SqL K H a (bs.map V.bl) ∧ bs.length ≤ 60 ∧ b ∈ bs ∧ Q (.int (bs.idxOf b : Nat)) H
theorem shaped_bls (bs : List Bool) : SeqAt.shaped (.list (bs.map PyData.bool)) = true := by
  have h : ∀ bs : List Bool, PyData.canLayAll0 (bs.map PyData.bool) = true := by
    intro bs
    induction bs with
    | nil => simp [PyData.canLayAll0]
    | cons b bs ih => simp [PyData.canLayAll0, PyData.canLay0, ih]
  simp [SeqAt.shaped, PyData.canLay0, PyData.depth, h, depth_bls]
theorem mt_idxB (hu : X.A.units + 65 < cLine) : MtR X "list.index" (rIdxB X.K) := by
  intro pins s σ H x xs v us Q I rx rxs h
  obtain ⟨a, bs, b, rfl, rfl, hs, hl, hb, q⟩ := h
  have hj : bs.idxOf b < bs.length := List.idxOf_lt_length_of_mem hb
  refine mt_indexD hu pins s σ H (.ref a) [.bl b] v us Q I rx rxs ⟨a, .bl b, .bool b, bs.map PyData.bool, bs.idxOf b, .bool b, rfl, rfl, .lst hs (dpAll_bls bs), .bl b, shaped_bls bs, by simp [SeqAt.shaped, PyData.canLay0, PyData.depth], ?_, by rw [eqv_bl]; simp, fun m z' hm hz => ?_, q⟩
  · rw [List.getElem?_map, List.getElem?_eq_getElem hj, List.getElem_idxOf hj]; rfl
  · rw [List.getElem?_map] at hz
    obtain ⟨y, hy, rfl⟩ := Option.map_eq_some_iff.mp hz
    rw [eqv_bl]
    obtain ⟨hm2, e⟩ := List.getElem?_eq_some_iff.mp hy
    have := List.not_of_lt_findIdx (p := (· == b)) (xs := bs) (i := m) hm
    rw [e] at this
    simpa using this
end
end L2
namespace Jo
open PySem L2
inductive FnsOk (X : Cx) (n : Nat) : List (Str × Fn) → Prop
  | nil : FnsOk X n []
  | cons {g : Str} {f : Fn} {fs : List (Str × Fn)} {k : Nat} {fA : Addr} {fd : FuncData} {ps : List Str} (hg : X.mg g = some (.ref fA)) (hk : PySem.W.keepIn X.K (.ref fA) = true) (F : FnOk X.prog X.w X.K X.mg X.base (L2.CX X.prog X.w) k fA fd ps (spOf X.K X.mg [] n f)) (hr : Room k X.A) (hb : Binds X.K fd ps []) (r : FnsOk X n fs) : FnsOk X n ((g, f) :: fs)
theorem FnsOk.get {X : Cx} {n : Nat} : ∀ {fs : List (Str × Fn)} {g : Str} {f : Fn}, FnsOk X n fs → fs.lookup g = some f → ∃ (k : Nat) (fA : Addr) (fd : FuncData) (ps : List Str), X.mg g = some (.ref fA) ∧ PySem.W.keepIn X.K (.ref fA) = true ∧ FnOk X.prog X.w X.K X.mg X.base (L2.CX X.prog X.w) k fA fd ps (spOf X.K X.mg [] n f) ∧ Room k X.A ∧ Binds X.K fd ps []
  | _, g, f, .nil, e => by cases e
  | _, g, f, .cons (g := g') (f := f') hg hk F hr hb r, l => by
    rw [List.lookup_cons] at l
    split at l
    · rename_i z
      have z : g = g' := by simpa using z
      subst z
      cases l
      exact ⟨_, _, _, _, hg, hk, F, hr, hb⟩
    · exact r.get l
/-- fs[k](e, ..) -/
def eCallV (ff : Fe T) (fs : List (Str × Fn)) (ks : List AK) : Fe T := fun η => (ff η).bind fun t η1 => match t with
  | .gl g => match fs.lookup g with
    | some f => eCall f [] ks η1
    | none => .bad
  | _ => .bad
theorem ev_callV {X : Cx} {W : XW} {n : Nat} {a b e : Expr} {es : List Expr} {p pos : Pos} {ff : Fe T} {fs : List (Str × Fn)} {ks : List AK} (hf : EE X W (.Subscript a b p) ff) (hfs : FnsOk X n fs) (tk : Takes X W) (hn : ks.length = n) (ha : EAs X W (e :: es) ks)
    (he : starEach (e :: es) X.env = (false, eval e X.env) :: starEach es X.env := by rfl) (hpl : (backTo pos (starEach es X.env)).any (·.1) = false := by rfl) : EE X W (.Call (.Subscript a b p) (e :: es) [] pos) (eCallV ff fs ks) :=
  PE.imp (pe_callSub (CX := L2.CX X.prog X.w) hf (fun σ => passAt tk σ) ha he hpl) fun σ H Q q => by
    refine tG.seq (R := RO X.K X.mg) q fun F1 η1 A1 B1 t v H1 F A S1 ro g1 d1 st1 k => ?_
    cases t with
    | gl g =>
      simp only at k
      cases l : fs.lookup g with
      | none => rw [l] at k; exact k.elim
      | some f =>
        rw [l] at k
        simp only at k
        obtain ⟨kk, fA, fd, ps, hg, hk, FF, hr, hb⟩ := hfs.get l
        obtain ⟨a', rfl, h3⟩ := Own.gl_inv ro
        rw [hg] at h3
        cases h3
        exact ⟨fA, _, kk, fd, ps, rfl, hk, FF, hr, hb, call_seq hn (tG.go1 S1 st1 k)⟩
    | _ => exact k.elim
/-- flags.count(b), flags.index(b) -/
def cntM : Om := fun t0 ts => match t0, ts with
  | .lst o xs, [.bl b] => (bls? xs).map fun bs => (.int (bs.count b : Nat), .lst o xs)
  | _, _ => none
def idxM : Om := fun t0 ts => match t0, ts with
  | .lst o xs, [.bl b] => (bls? xs).bind fun bs => if bs.length ≤ 60 ∧ b ∈ bs then some (.int (bs.idxOf b : Nat), .lst o xs) else none
  | _, _ => none
section
variable {K : PySem.W.Frag} {mg : Str → Option Value}
theorem look_m {F H : Hp} {v0 : V} {vs : List V} {o : Bool} {bs : List Bool} {b : Bool} {B : AP} (s : Same F H) (h : OwnL K mg F H (v0 :: vs) (.lst o (bs.map T.bl) :: [.bl b]) B) : ∃ a, v0 = .ref a ∧ vs = [.bl b] ∧ SqL K H a (bs.map V.bl) := by
  cases h with
  | cons h1 h2 d m1 m2 =>
    obtain ⟨w, rfl, o2⟩ := h2.one
    cases o2.bl_inv
    obtain ⟨a, ws, rfl, q, ol, _⟩ := h1.lst_inv s
    rw [ownL_bls ol] at q
    exact ⟨a, rfl, rfl, .of q⟩
theorem fin_look {F H : Hp} {v0 : V} {vs : List V} {t0 : T} {ts : List T} {B : AP} {i : Int} {Q : VK} (s : Same F H) (g : Good F H B) (h : OwnL K mg F H (v0 :: vs) (t0 :: ts) B)
    (k : ∀ F' H' B' C v, Same F' H' → Good F' H' B' → Good F' H' C → Own K mg F' H' v0 t0 B' → Own K mg F' H' v (.int i) C → Dis B' C → Step F H B F' H' (Un2 B' C) → Q v H') : Q (.int i) H := by
  cases h with
  | cons h1 h2 d m1 m2 => exact k F H _ A0 (.int i) s (g.mono m1) Good.a0 h1 (.frz (.int i)) (fun _ _ x => x) (Step.refl.weak (fun _ x => x) fun p x => x.elim (m1 p) fun y => y.elim)
theorem cntM_ok : OpM K mg cntM (rCntB K) := fun F H v0 vs t0 ts B t t0' s g o e Q k => by
  unfold cntM at e
  split at e
  · rename_i oo xs b
    cases q : bls? xs with
    | none => rw [q] at e; cases e
    | some bs =>
      rw [q] at e
      cases e
      cases bls?_some q
      obtain ⟨a, rfl, rfl, hs⟩ := look_m s o
      exact ⟨a, bs, b, rfl, rfl, hs, fin_look s g o k⟩
  · cases e
theorem idxM_ok : OpM K mg idxM (rIdxB K) := fun F H v0 vs t0 ts B t t0' s g o e Q k => by
  unfold idxM at e
  split at e
  · rename_i oo xs b
    cases q : bls? xs with
    | none => rw [q] at e; cases e
    | some bs =>
      rw [q] at e
      simp only [Option.bind_some] at e
      split at e
      · rename_i hc
        cases e
        cases bls?_some q
        obtain ⟨a, rfl, rfl, hs⟩ := look_m s o
        exact ⟨a, bs, b, rfl, rfl, hs, hc.1, hc.2, fin_look s g o k⟩
      · cases e
  · cases e
end
section
variable {X : Cx} {m : Str → Option Value} {W : XW} {i : Nat} {pos : Pos} {e : Expr} {ks : List AK}
theorem ev_lcount_m {apos cpos p : Pos} {x : Str} (hu : X.A.units + 65 < cLine) (ho : PE X (.Name x p) (tVar i)) (ha : EAsm X m W [e] ks)
    (hline : (apos.endLine == cpos.line) = true := by rfl) (hs : starEach (e :: []) X.env = (false, eval e X.env) :: starEach [] X.env := by rfl) 
    (hbase : attributeBase (.Name x p) "count" X.env (eval (.Name x p) X.env) = eval (.Name x p) X.env := by rfl)
    (hfew : ((backTo cpos (starEach [e] X.env)).all (fun x => !x.1) && (backToKw cpos (keywordEach [] X.env)).all (fun x => x.1.isSome)
      && decide ([e].length + ([] : List Keyword).length + (if ([] : List Keyword).isEmpty then 0 else 1) < 30)) = true := by rfl) :
    EEm X m W (.Call (.Attribute (.Name x p) "count" apos) [e] [] cpos) (eMeth isL i ks cntM) :=
  PE.imp (pe_bm PySem.F.plainAttrs_list PySem.F.slot_list_count PySem.F.type_list_count (mt_cntB hu) ho ha hbase hfew hline hs rfl) fun σ H Q h => meth_seq_m (fun s o e => isL_ty (X := wmX X m) s o e) cntM_ok h
theorem ev_lindex_m {apos cpos p : Pos} {x : Str} (hu : X.A.units + 65 < cLine) (ho : PE X (.Name x p) (tVar i)) (ha : EAsm X m W [e] ks)
    (hline : (apos.endLine == cpos.line) = true := by rfl) (hs : starEach (e :: []) X.env = (false, eval e X.env) :: starEach [] X.env := by rfl) 
    (hbase : attributeBase (.Name x p) "index" X.env (eval (.Name x p) X.env) = eval (.Name x p) X.env := by rfl)
    (hfew : ((backTo cpos (starEach [e] X.env)).all (fun x => !x.1) && (backToKw cpos (keywordEach [] X.env)).all (fun x => x.1.isSome)
      && decide ([e].length + ([] : List Keyword).length + (if ([] : List Keyword).isEmpty then 0 else 1) < 30)) = true := by rfl) :
    EEm X m W (.Call (.Attribute (.Name x p) "index" apos) [e] [] cpos) (eMeth isL i ks idxM) :=
  PE.imp (pe_bm PySem.F.plainAttrs_list PySem.F.slot_list_index PySem.F.type_list_index (mt_idxB hu) ho ha hbase hfew hline hs rfl) fun σ H Q h => meth_seq_m (fun s o e => isL_ty (X := wmX X m) s o e) idxM_ok h
end

/-! ### sorted(set(t)), t a tuple of ints -/
end Jo
namespace L2
open PySem PySem.Spec PyProof.Rows
def tSST (K : PySem.W.Frag) (ta : TE) : TE := fun σ H Q => ta σ H fun x H1 => ∃ (l : Addr) (ns : List Int), x = V.ref l ∧ SqT K H1 l (ns.map V.int) ∧ ns.length < 60 ∧
  ∀ (ms : List Int) (p : Addr), ms.Pairwise (· < ·) → (∀ k : Int, k ∈ ms ↔ k ∈ ns) → H1 p = none → Q (.ref p) (upd H1 p (.lst (ms.map V.int)))
theorem pe_sortedSetT {X : Cx} {a : Expr} {ta : TE} {p p2 q pos : Pos} (hc : X.calm = true) (hg : Gl X "sorted") (hm : X.mg "sorted" = none) (hg2 : Gl X "set") (hm2 : X.mg "set" = none) (ha : PE X a ta)
    (na : starEach [a] X.env = (false, eval a X.env) :: starEach [] X.env := by rfl) : PE X (.Call (.Name "sorted" p) [.Call (.Name "set" p2) [a] [] q] [] pos) (tSST X.K ta) := by
  refine ⟨fun pins s σ H Q I h => ?_⟩
  refine Call_ (ld_blt I hg hm Jo.jb_sorted ?_)
  refine PyProof.Rows.callWith_builtin1 (PyProof.Rows.args_cons ?_ rfl) rfl rfl
  refine Call_ (ld_blt I hg2 hm2 PyProof.Rows.boot_set ?_)
  refine PyProof.Rows.callWith_type1 (PyProof.Rows.args_cons (thn (ha.run pins s σ H _ I h) fun v s1 ⟨x, H1, I1, r1, q1⟩ => PyProof.Rows.args_nil ?_) na) na rfl
  obtain ⟨l, ns, rfl, hq, h1, q1⟩ := q1
  cases r1
  obtain ⟨its, r, pl, hz⟩ := I1.tuple hq
  refine call_set_tupI ns (I1.ok.hd hc) pl (by simpa using ints_of_vals r) (by unfold scanBound; omega) fun h' tk c R hcl hk => ?_
  refine PyProof.Rows.args_nil ?_
  have I2 : Inv X pins σ H1 { s1 with heap := h', toks := tk } := I1.kept fun b o e => hk b o e
  refine sorted_set R (I2.ok.hd hc) (by omega) fun s' p out c ms k g o hp hg hi hs hm hl => ?_
  have hlen : (ms.map V.int).length ≤ sizeLine := by rw [List.length_map, hl, sizeLine_eq]; omega
  have hn : H1 p = none := I2.hok.fresh hp
  have J := I2.call (H' := upd H1 p (.lst (ms.map V.int))) (h' := s'.heap) (g' := s'.gens) (d' := s'.drawn) (t' := s'.toks) (ch := []) (Un.laid k hp hn) (I2.hok.laid k hp ⟨hlen, out.toList, c, vals_of_ints hi, hg⟩) (by rw [g]; exact I2.bare) (fun _ z => nomatch z)
  have e : s' = { s1 with heap := s'.heap, gens := s'.gens, drawn := s'.drawn, toks := s'.toks } := by
    cases s'
    cases s1
    cases o
    rfl
  rw [e]
  exact ⟨.ref p, _, J, rfl, q1 ms p hs (fun k => by rw [hm k]; exact decide_eq_true_iff) hn⟩
end L2
namespace Jo
open PySem L2
/-- the ascending list of what is in a list -/
def insU (x : Int) : List Int → List Int
  | [] => [x]
  | y :: ys => if x < y then x :: y :: ys else if x = y then y :: ys else y :: insU x ys
def sortU : List Int → List Int
  | [] => []
  | x :: xs => insU x (sortU xs)
theorem insU_mem {x k : Int} : ∀ {ys : List Int}, k ∈ insU x ys ↔ k = x ∨ k ∈ ys
  | [] => by simp [insU]
  | y :: ys => by
    unfold insU
    split
    · simp
    · split
      · rename_i e
        subst e
        simp
      · rw [List.mem_cons, insU_mem, List.mem_cons]
        constructor
        · rintro (h | h | h)
          · exact .inr (.inl h)
          · exact .inl h
          · exact .inr (.inr h)
        · rintro (h | h | h)
          · exact .inr (.inl h)
          · exact .inl h
          · exact .inr (.inr h)
theorem insU_asc {x : Int} : ∀ {ys : List Int}, ys.Pairwise (· < ·) → (insU x ys).Pairwise (· < ·)
  | [], _ => List.pairwise_singleton _ _
  | y :: ys, h => by
    have p := List.pairwise_cons.mp h
    unfold insU
    split
    · rename_i hx
      refine List.pairwise_cons.mpr ⟨fun k hk => ?_, h⟩
      rcases List.mem_cons.mp hk with rfl | hk
      · exact hx
      · have := p.1 k hk
        omega
    · split
      · exact h
      · rename_i h1 h2
        refine List.pairwise_cons.mpr ⟨fun k hk => ?_, insU_asc p.2⟩
        rcases insU_mem.mp hk with rfl | hk
        · omega
        · exact p.1 k hk
theorem sortU_mem {k : Int} : ∀ {xs : List Int}, k ∈ sortU xs ↔ k ∈ xs
  | [] => Iff.rfl
  | x :: xs => by
    show k ∈ insU x (sortU xs) ↔ _
    rw [insU_mem, sortU_mem, List.mem_cons]
theorem sortU_asc : ∀ (xs : List Int), (sortU xs).Pairwise (· < ·)
  | [] => .nil
  | x :: xs => insU_asc (sortU_asc xs)
theorem asc_uniq : ∀ {l1 l2 : List Int}, l1.Pairwise (· < ·) → l2.Pairwise (· < ·) → (∀ x, x ∈ l1 ↔ x ∈ l2) → l1 = l2
  | [], [], _, _, _ => rfl
  | [], y :: ys, _, _, h => by have := (h y).mpr List.mem_cons_self; cases this
  | x :: xs, [], _, _, h => by have := (h x).mp List.mem_cons_self; cases this
  | x :: xs, y :: ys, h1, h2, h => by
    have p1 := List.pairwise_cons.mp h1
    have p2 := List.pairwise_cons.mp h2
    have e : x = y := by
      rcases List.mem_cons.mp ((h x).mp List.mem_cons_self) with z | z
      · exact z
      · rcases List.mem_cons.mp ((h y).mpr List.mem_cons_self) with w | w
        · exact w.symm
        · have := p2.1 x z
          have := p1.1 y w
          omega
    subst e
    rw [asc_uniq p1.2 p2.2 fun k => ?_]
    constructor
    · intro hk
      rcases List.mem_cons.mp ((h k).mp (List.mem_cons_of_mem _ hk)) with z | z
      · have := p1.1 k hk
        omega
      · exact z
    · intro hk
      rcases List.mem_cons.mp ((h k).mpr (List.mem_cons_of_mem _ hk)) with z | z
      · have := p2.1 k hk
        omega
      · exact z
def sstO : Op := fun ts => match ts with
  | [.tup xs] => (ints? xs).bind fun ns => if ns.length < 60 then some (.lst true ((sortU ns).map T.int), ts) else none
  | _ => none
def rSST (K : PySem.W.Frag) : List V → Hp → VK → Prop := fun vs H Q => ∃ (l : Addr) (ns : List Int), vs = [V.ref l] ∧ SqT K H l (ns.map V.int) ∧ ns.length < 60 ∧
  ∀ (ms : List Int) (p : Addr), ms.Pairwise (· < ·) → (∀ k : Int, k ∈ ms ↔ k ∈ ns) → H p = none → Q (.ref p) (upd H p (.lst (ms.map V.int)))
theorem rep_ints {K : PySem.W.Frag} {mg : Str → Option Value} {F : Hp} : ∀ ms : List Int, Paired (Rep K mg F) (ms.map V.int) (ms.map T.int)
  | [] => .nil
  | m :: ms => .cons (.int m) (rep_ints ms)
theorem sstO_ok {X : Cx} : OpS X.K X.mg sstO (rSST X.K) := fun F H vs ts B t ts' s g o e Q k => by
  unfold sstO at e
  split at e
  · rename_i xs
    cases q : ints? xs with
    | none => rw [q] at e; cases e
    | some ns =>
      rw [q] at e
      simp only [Option.bind_some] at e
      split at e
      · rename_i hz
        cases e
        cases ints?_some q
        obtain ⟨v, rfl, o1⟩ := o.one
        obtain ⟨a, ws, rfl, h1, h2⟩ := o1.tup_inv
        rw [repL_ints h2] at h1
        refine ⟨a, ns, rfl, SqT.sub s h1, hz, fun ms p ha hm n => ?_⟩
        have em : ms = sortU ns := asc_uniq ha (sortU_asc ns) fun x => by rw [hm, sortU_mem]
        subst em
        exact fin_lst s g o (rep_ints _) n k
      · cases e
  · cases e
theorem ev_sst {X : Cx} {W : XW} {a : Expr} {ka : AK} {p p2 q pos : Pos} (hc : X.calm = true) (hg : Gl X "sorted") (hm : X.mg "sorted" = none) (hg2 : Gl X "set") (hm2 : X.mg "set" = none) (ha : EK X W a ka)
    (na : starEach [a] X.env = (false, eval a X.env) :: starEach [] X.env := by rfl) : EE X W (.Call (.Name "sorted" p) [.Call (.Name "set" p2) [a] [] q] [] pos) (eOp [ka] sstO) :=
  PE.imp (pe_sortedSetT hc hg hm hg2 hm2 ha na) fun σ H Q h => tK_mono (args1 (op_run sstO_ok h)) fun x H1 ⟨l, ns, e, h1, h2, h3⟩ => by
    cases e
    exact ⟨l, ns, rfl, h1, h2, h3⟩
theorem o_sst {ns : List Int} (h : ns.length < 60) : sstO [.tup (ns.map T.int)] = some (.lst true ((sortU ns).map T.int), [.tup (ns.map T.int)]) := by
  unfold sstO
  simp only [ints?_map, Option.bind_some, h, if_true]

/-! ### isinstance with the own class; == of own objects that are equal -/
def isiOwn (c0 : Str) : Op := fun ts => match ts with
  | [.ins _ c _ _] => if c = c0 then some (.bl true, ts) else none
  | _ => none
def rIsOwn (K : PySem.W.Frag) (C : Addr) : List V → Hp → VK → Prop := fun vs H Q => ∃ x : V, vs = [x] ∧ ∀ H', Same H H' → TyX K H' x (.ref C) ∧ Q (.bl true) H'
theorem isiOwn_ok {X : Cx} {c0 : Str} {C : Addr} (hg : X.mg c0 = some (.ref C)) (hc : NoTy7 X.K C) : OpS X.K X.mg (isiOwn c0) (rIsOwn X.K C) := fun F H vs ts B t ts' s g o e Q kk => by
  unfold isiOwn at e
  split at e
  · rename_i o' c ks us
    split at e
    · rename_i hcc
      subst hcc
      cases e
      obtain ⟨v, rfl, o1⟩ := o.one
      have key : ∃ (a dx : Addr) (fs : List (Str × V)), v = .ref a ∧ H a = some (.ins C dx fs) := by
        cases o1 with
        | frz r =>
          cases r with
          | ins h q2 h0 r =>
            have : some (Value.ref C) = some (.ref _) := hg.symm.trans q2
            cases this
            exact ⟨_, _, _, rfl, s _ _ h⟩
        | ins h q2 h0 h1 h2 h3 h4 =>
          have : some (Value.ref C) = some (.ref _) := hg.symm.trans q2
          cases this
          exact ⟨_, _, _, rfl, h⟩
      obtain ⟨a, dx, fs, rfl, ha⟩ := key
      refine ⟨_, rfl, fun H' ex => ⟨.base (.ins (ex _ _ ha) hc.cl hc.ha hc.hn hc.ht hc.hm), ?_⟩⟩
      have kp : ∀ p u, B p → H p = some u → H' p = some u := fun p u _ y => ex p u y
      have gB : Good F H' B := fun p y => ⟨(g p y).1, fun z => by
        cases q2 : H p with
        | none => exact (g p y).2 q2
        | some u => rw [ex p u q2] at z; cases z⟩
      exact kk F H' B A0 _ (fun p u y => ex p u (s p u y)) gB Good.a0 (OwnL.mono (fun _ _ y => y) _ _ _ _ o kp fun _ y => y) (.frz (.bl _)) (fun _ _ y => y) ⟨fun p u _ y => ex p u y, fun _ _ y => y, fun _ _ y => .inl y, fun p y => .inl (y.elim id fun z => z.elim)⟩
    · cases e
  · cases e
theorem ev_isiOwn {X : Cx} {W : XW} {pos : Pos} {a : Expr} {k : AK} {c0 : Str} {C : Addr} {x : Str} {p p2 : Pos} (hc0 : X.mg c0 = some (.ref C)) (hno : NoTy7 X.K C) (hgc : Gl X c0) (hx : x = "isinstance") (hg : Gl X x) (hm : X.mg x = none) (ha : EK X W a k) (hdb : (c0 == ("__debug__" : Str)) = false := by decide)
    (he : starEach (a :: [.Name c0 p2]) X.env = (false, eval a X.env) :: starEach [.Name c0 p2] X.env := by rfl) (he2 : starEach [.Name c0 p2] X.env = (false, eval (.Name c0 p2) X.env) :: starEach [] X.env := by rfl) (hpl : (backTo pos (starEach [.Name c0 p2] X.env)).any (·.1) = false := by rfl) : EE X W (.Call (.Name x p) [a, .Name c0 p2] [] pos) (eOp [k] (isiOwn c0)) := by
  subst hx
  exact PE.imp (pe_callB call_isi hg hm PyProof.Rows.boot_isinstance (pa_cons ha (pa_cons (pe_glob hgc hc0 (v := .ref C) rfl hdb) pa_nil he2) he) (by decide) (by decide) he hpl) fun σ H Q h => by
    refine tK_mono (args1 (op_run (isiOwn_ok hc0 hno) h)) fun x H1 ⟨y, e, q⟩ => ?_
    cases e
    exact ⟨_, _, _, _, _, rfl, .own C, (q H1 ext_refl).1, kit_self, (q H1 ext_refl).2⟩
/-- what the printed == says of two that stand -/
def EqR (K : PySem.W.Frag) (mg : Str → Option Value) (fn : Fn) : Addr → Addr → Hp → Prop := fun a b H => ∃ F t1 t2 us, Same F H ∧ Rep K mg F (.ref a) t1 ∧ Rep K mg F (.ref b) t2 ∧ fn [t1, t2] = .ok (.bl true) us
theorem fnok_eq {P : Program} {w : World} {K : PySem.W.Frag} {mg : Str → Option Value} {base : Heap} {CX : CXT} {k : Nat} {f : Addr} {fd : FuncData} {ps : List Str} {fn : Fn} (F : FnOk P w K mg base CX k f fd ps (spOf K mg [] 2 fn)) : FnOk P w K mg base CX k f fd ps (spEq (EqR K mg fn)) :=
  F.imp fun vs H Q E ⟨a, b, e, ⟨F, t1, t2, us, s, r1, r2, ef⟩, q⟩ => by
    subst e
    refine ⟨rfl, F, [t1, t2], A0, s, Good.a0, OwnL.of_rep (.cons r1 (.cons r2 .nil)), ?_⟩
    rw [ef]
    intro F' H' A' B v s' gA gB ol ov d st
    cases ov.bl_inv
    exact q H' fun p o h => st.keep p o (fun x => x.elim) h
def eqIns (c0 : Str) (fn : Fn) : Op := fun ts => match ts with
  | [.ins o c ks us, .ins o' c' ks' us'] => if c = c0 ∧ c' = c0 then (match fn [(T.ins o c ks us).frz, (T.ins o' c' ks' us').frz] with
    | .ok (.bl true) _ => some (.bl true, ts)
    | _ => none) else none
  | _ => none
theorem own_insAt {X : Cx} {F H : Hp} {v : V} {o : Bool} {c : Str} {C : Addr} {ks : List Str} {us : List T} {A : AP} (hg : X.mg c = some (.ref C)) (s : Same F H) (h : Own X.K X.mg F H v (.ins o c ks us) A) : ∃ (a dx : Addr) (fs : List (Str × V)), v = .ref a ∧ H a = some (.ins C dx fs) := by
  cases h with
  | frz r =>
    cases r with
    | ins h q2 h0 r =>
      have : some (Value.ref C) = some (.ref _) := hg.symm.trans q2
      cases this
      exact ⟨_, _, _, rfl, s _ _ h⟩
  | ins h q2 h0 h1 h2 h3 h4 =>
    have : some (Value.ref C) = some (.ref _) := hg.symm.trans q2
    cases this
    exact ⟨_, _, _, rfl, h⟩
theorem eqIns_ok {X : Cx} {c0 : Str} {C : Addr} {fn : Fn} (hg : X.mg c0 = some (.ref C)) : OpS X.K X.mg (eqIns c0 fn) fun vs H Q => ∃ x y, vs = [x, y] ∧ rEqG (DIns C (EqR X.K X.mg fn)) x y H Q := fun F H vs ts B t ts' s g o e Q kk => by
  unfold eqIns at e
  split at e
  · rename_i o1 c ks us o2 c' ks' us'
    split at e
    · rename_i hcc
      obtain ⟨hc1, hc2⟩ := hcc
      subst hc1
      subst hc2
      split at e
      · rename_i us0 ef
        cases e
        obtain ⟨x, y, B1, C1, rfl, h1, h2, d, m1, m2⟩ := o.two
        obtain ⟨a, dx, fs, rfl, ha⟩ := own_insAt hg s h1
        obtain ⟨b, dy, gs, rfl, hb⟩ := own_insAt hg s h2
        refine ⟨_, _, rfl, ⟨a, b, dx, dy, fs, gs, rfl, rfl, ha, hb, frzF F H B, _, _, us0, frzF_sub s, Own.frz_in (frzF_same s) _ _ _ h1 fun p y => frzF_in (m1 p y), Own.frz_in (frzF_same s) _ _ _ h2 fun p y => frzF_in (m2 p y), ef⟩, fun H' ex => ?_⟩
        have kp : ∀ p u, B p → H p = some u → H' p = some u := fun p u _ y => ex p u y
        have gB : Good F H' B := fun p y => ⟨(g p y).1, fun z => by
          cases q2 : H p with
          | none => exact (g p y).2 q2
          | some u => rw [ex p u q2] at z; cases z⟩
        exact kk F H' B A0 _ (fun p u y => ex p u (s p u y)) gB Good.a0 (OwnL.mono (fun _ _ y => y) _ _ _ _ o kp fun _ y => y) (.frz (.bl _)) (fun _ _ y => y) ⟨fun p u _ y => ex p u y, fun _ _ y => y, fun _ _ y => .inl y, fun p y => .inl (y.elim id fun z => z.elim)⟩
      · cases e
    · cases e
  · cases e
theorem op_eqIns {X : Cx} {W : XW} {n : Nat} {C f : Addr} {fd : FuncData} {ps : List Str} {fn : Fn} (F : FnOk X.prog X.w X.K X.mg X.base (L2.CX X.prog X.w) n f fd ps (spOf X.K X.mg [] 2 fn)) (hr : Room n X.A) (hs : PySem.W.findIn X.K (.ref C) "__eq__" = some (some (.ref f))) (hf : PySem.W.isFn X.K (.ref f) = true) (hb : Binds X.K fd ps []) (tk : Takes X W) :
    OpR X (compareOp .Eq) (rEqG (DIns C (EqR X.K X.mg fn))) :=
  op_eqG (rcG_ins (E := fun _ _ _ => False) (fnok_eq F) hs hf hb (passes_call tk fun _ _ _ _ z => z.elim)) hr

/-! ### floor division by numbers below 2 ^ 64 -/
def opFdivW : Op := i2 fun i j => if 0 < j ∧ j < 18446744073709551616 then some (.int (i / j)) else none
theorem opFdivW_ok {X : Cx} : OpS X.K X.mg opFdivW fun vs H Q => ∃ x y, vs = [x, y] ∧ rI CDivW (fun i j => .int (i / j)) x y H Q := i2_ok fun F i j t e => by
  split at e
  · rename_i h
    cases e
    exact ⟨_, .int _, fun H Q q => ⟨i, j, rfl, rfl, wide_div (b := 64) h.1 (by have := h.1; have := h.2; omega) (by decide) (by decide), q⟩⟩
  · cases e
theorem o_fdivW (a b : Int) (h : 0 < b) (h2 : b < 18446744073709551616) : opFdivW [.int a, .int b] = some (.int (a / b), [.int a, .int b]) := by
  unfold opFdivW i2
  simp [h, h2]

/-! ### a, b = x, y of integers -/
def sPar (i j : Nat) (ks : List AK) : Fs := fun η => (argsF ks η).bind fun as η1 => match valsOf as with
  | some [.int a, .int b] => if i < η1.length ∧ j < η1.length then .ok .nx ((η1.set i (some (.int a))).set j (some (.int b))) else .bad
  | _ => .bad
theorem r_par {i j : Nat} {ks : List AK} {η η1 : Env} {as : List (Sum Nat T)} {a b : Int} (h : argsF ks η = .ok as η1) (h2 : valsOf as = some [.int a, .int b]) (h3 : i < η1.length) (h4 : j < η1.length) : sPar i j ks η = .ok .nx ((η1.set i (some (.int a))).set j (some (.int b))) := by
  unfold sPar
  rw [h]
  show (match valsOf as with | some [.int a, .int b] => _ | _ => _) = _
  rw [h2]
  exact if_pos ⟨h3, h4⟩
theorem ss_par {X : Cx} {W : XW} {ms : List Nat} {i j : Nat} {x y : Str} {a b : Expr} {ks : List AK} {px py pt pos : Pos} {kt k2 : Nat} {pt2 : Pos} (hc : X.calm = true) (hN : X.N.Nodup) (hi : X.N[i]? = some x) (hj : X.N[j]? = some y) (hij : i ≠ j)
    (hx : X.env.scope.names.lookup x = some .local) (hy : X.env.scope.names.lookup y = some .local) (mi : ms.contains i = false) (mj : ms.contains j = false) (ha : EAs X W [a, b] ks)
    (hw : swappedStores [.Tuple [.Name x px, .Name y py] kt pt] (.Tuple [a, b] k2 pt2) X.env = pure (some [x, y]))
    (hs : swapsWithSole [.Tuple [.Name x px, .Name y py] kt pt] (.Tuple [a, b] k2 pt2) pos.line X.env = pure false := by rfl) : SS X W ms (.Assign [.Tuple [.Name x px, .Name y py] kt pt] (.Tuple [a, b] k2 pt2) pos) (sPar i j ks) :=
  PS.imp (ps_par hc hN hi hj hij hx hy ha hw hs) fun D σ H h => tS.seq h fun F1 η1 A1 B1 as vs H1 F A S1 ra g1 d1 st1 k => by
    split at k
    · rename_i a b e1
      split at k
      · rename_i hl
        have ol := RA.vals ra e1
        obtain ⟨v, vs', rfl, o1, ol2⟩ : ∃ v vs', vs = v :: vs' ∧ Own X.K X.mg F1 H1 v (.int a) B1 ∧ OwnL X.K X.mg F1 H1 vs' [.int b] B1 := by
          cases ol with
          | cons h r _ m1 m2 => exact ⟨_, _, rfl, Own.mono (fun _ _ q => q) _ _ _ _ h (fun _ _ _ q => q) m1, OwnL.mono (fun _ _ q => q) _ _ _ _ r (fun _ _ _ q => q) m2⟩
        obtain ⟨w, rfl, o2⟩ := ol2.one
        cases o1.int_inv
        cases o2.int_inv
        refine ⟨_, _, rfl, ?_⟩
        have n1 : EnvO X.K X.mg F1 H1 (σ.set i (some (.int a))) (η1.set i (some (.int a))) A1 := EnvO.put (B := A0) (S1.env.drop i) hl.1 (.frz (.int a)) (fun _ x => x.elim) (fun _ x => x.elim) fun _ x => x
        have n2 : EnvO X.K X.mg F1 H1 ((σ.set i (some (.int a))).set j (some (.int b))) ((η1.set i (some (.int a))).set j (some (.int b))) A1 := EnvO.put (B := A0) (n1.drop j) (by rw [List.length_set]; exact hl.2) (.frz (.int b)) (fun _ x => x.elim) (fun _ x => x.elim) fun _ x => x
        exact k F1 H1 A1 _ ⟨S1.sub, S1.good, n2⟩ st1.halfS ((set_keep mi).trans (set_keep mj))
      · exact k.elim
    · exact k.elim

/-! ### sorted(set(xs)), xs a list of ints -/
end Jo
namespace L2
open PySem PySem.Spec PyProof.Rows
section
variable {P : Program} {w : World} {A : Around} {E : Value → Shared → Prop} {s : Shared}
set_option maxHeartbeats 3200000 in
/-- set(xs), of a list: what `call_set_tupI` says of a tuple -/
theorem setOfList {l : Addr} {items : Array Value} (ns : List Int) {Q : Value → Shared → Prop} (hh : A.handled = none) (hl : s.heap.IsList l items) (hit : IntsAre items.toList ns) (hb : ns.length + 1 < scanBound)
    (h : ∀ (h' : Heap) (tk c : Nat), SetR w h' s.heap.objs.size (fun j => decide (j ∈ ns)) c → c ≤ ns.length → (∀ b o, s.heap.get? b = some o → h'.get? b = some o) → Q (.ref s.heap.objs.size) { s with heap := h', toks := tk }) :
    wpAny (model P w) A (call (.type "set") [.ref l]) Q E s := by
  have hisz : items.size = ns.length := by
    have q := IntsAre.length hit
    rwa [Array.length_toList] at q
  obtain ⟨c, tl, hmro⟩ := F.called_set.mro
  have hmade := F.called_set.made
  have hsub := F.called_set.sub
  refine wpAny_call (codeAny_of_tree ?_)
  show wpAny _ _ (callAny (.type "set") _) _ _ _
  refine wpAny_pure ⟨Code.quiet_builtin _ (by decide +kernel), codeAny_builtin F.entry_type_call ?_⟩
  rw [Around.under_plain (weight_type_call_type "set" [.ref l] []) rfl]
  have h1 := F.called_set.notType
  have h2 := F.called_set.canCreate
  have hct := F.typeCall_set_1 (.ref l)
  repeat (any_goals (first | assumption | wp_step))
  refine codeAny_mono (code_set_led1 (.ref l) (E := E) (Q₁ := fun obj s₁ => obj = .ref s.heap.objs.size ∧ s₁ = { s with heap := s.heap.push { cls := .type "set", dict := none, data := .set #[] 0 (.fresh 0 0 (!w.params.followText "set-order")) } }) ⟨rfl, rfl⟩) fun r s₁ hr => ?_
  cases r with
  | error e => exact hr
  | ok fl =>
    cases fl with
    | ret obj =>
      obtain ⟨rfl, rfl⟩ := hr
      have hS : (s.heap.push { cls := .type "set", dict := none, data := .set #[] 0 (.fresh 0 0 (!w.params.followText "set-order")) }).get? s.heap.objs.size = some { cls := .type "set", dict := none, data := .set #[] 0 (.fresh 0 0 (!w.params.followText "set-order")) } := Heap.get?_push_size _ rfl
      have hT : Shared.TypeIs { s with heap := s.heap.push { cls := .type "set", dict := none, data := .set #[] 0 (.fresh 0 0 (!w.params.followText "set-order")) } } (.ref s.heap.objs.size) "set" := ⟨_, hS, rfl⟩
      have hli := F.called_set.init.lookup
      have hbi := F.called_set.init.bind (.ref s.heap.objs.size)
      repeat (any_goals (first | assumption | wp_step))
      refine codeAny_mono (codeAny_call_builtin (R := wants (fun r s₂ => r = .none ∧ ∃ h' tk c, s₂ = { s with heap := h', toks := tk } ∧ SetR w h' s.heap.objs.size (fun j => decide (j ∈ ns)) c ∧ c ≤ ns.length ∧
          (∀ b o, s.heap.get? b = some o → h'.get? b = some o)) E) F.called_set.init.plain F.entry_set_init (check_set_init_1 hT ?_)) fun r₂ s₂ hr₂ => ?_
      · obtain ⟨ol, hol, hcl, nl, hdl⟩ := hl
        obtain ⟨ocls, odict, odata, oslots⟩ := ol
        simp only at hcl hdl
        subst hcl; subst hdl
        have hol' : (s.heap.push { cls := .type "set", dict := none, data := .set #[] 0 (.fresh 0 0 (!w.params.followText "set-order")) }).get? l = some { cls := .type "list", dict := odict, data := .seq items nl, slots := oslots } := Heap.get?_push_of_some _ hol
        have hsls := F.sub_list_set
        have hslf := F.sub_list_frozenset
        have hne : (Value.type "list" == Value.type "dict") = false := by decide
        have hl1 : (s.heap.push { cls := .type "set", dict := none, data := .set #[] 0 (.fresh 0 0 (!w.params.followText "set-order")) }).IsList l items := ⟨_, hol', rfl, nl, rfl⟩
        unfold Builtin.«set.__init__» noKeywords Builtin.Frozenset.updateFrom
        generalize hPI : pyIter = PI
        wp_walk
        subst hPI
        refine wpAny_pyIter_list hl1 ?_
        refine wpAny_bind (wpAny_runValue ?_)
        have hlS : l < s.heap.objs.size := Heap.lt_size hol
        have hh3 : A.in1.in1.in1.handled = none := by simp [hh]
        have hneI : l ≠ (s.heap.push { cls := .type "set", dict := none, data := .set #[] 0 (.fresh 0 0 (!w.params.followText "set-order")) }).objs.size := by
          rw [Heap.size_push]; exact Nat.ne_of_lt (Nat.lt_succ_of_lt hlS)
        have hSf : s.heap.objs.size ∉ [(s.heap.push { cls := .type "set", dict := none, data := .set #[] 0 (.fresh 0 0 (!w.params.followText "set-order")) }).objs.size, l] := by
          rw [Heap.size_push]
          simp only [List.mem_cons, List.mem_singleton, List.not_mem_nil, or_false, not_or]
          exact ⟨Nat.ne_of_lt (Nat.lt_succ_self _), Nat.ne_of_gt hlS⟩
        have hval : ∀ (i : Nat) (v : Value), items[i]? = some v → ∃ k t, ns[i]? = some k ∧ v = .int k t := fun i v hv => by
          have hi : i < ns.length := by rw [← hisz]; exact (Array.getElem?_eq_some_iff.mp hv).1
          obtain ⟨t, e⟩ := PyProof.Rows.IntsAre.int_at hit i v (by rw [Array.getElem?_toList]; exact hv)
          refine ⟨ns[i], t, List.getElem?_eq_getElem hi, ?_⟩
          rw [e, List.getD_eq_getElem?_getD, List.getElem?_eq_getElem hi] <;> rfl
        refine set_update_ints ((Walks.list hh3 _ l hneI items).toS) s.heap.objs.size
          hSf ns hisz hb hval (items.size - 0) 0 _ (by omega) (Nat.zero_le _)
          ⟨⟨_, Heap.get?_push_size _ rfl, rfl, rfl⟩, (hl1.push _)⟩ ?hS0 ?hR
        case hS0 =>
          exact ⟨0, Nat.le_refl 0, setR_new_at (Heap.get?_push_of_some _ hS)⟩
        case hR =>
          intro s' c' hm hc' hS'
          obtain ⟨h', g2, d', tk', os'⟩ := s'
          have eg : g2 = s.gens := hm.gens
          have ed : d' = s.drawn := hm.drawn
          have eo : os' = s.os := hm.os
          subst eg; subst ed; subst eo
          show wpAny _ _ _ _ _ _
          refine wpAny_pure ?_
          show wpAny _ _ (ret Value.none) _ _ _
          refine wpAny_pure ⟨rfl, h', tk', c', rfl, hS', by omega, fun b o e => ?_⟩
          have hb0 : b < s.heap.objs.size := Heap.lt_size e
          have hb2 : b ≠ (s.heap.push { cls := .type "set", dict := none, data := .set #[] 0 (.fresh 0 0 (!w.params.followText "set-order")) }).objs.size := by
            rw [Heap.size_push]; exact Nat.ne_of_lt (Nat.lt_succ_of_lt hb0)
          exact hm.heap b o (by
            simp only [List.mem_cons, List.mem_singleton, List.not_mem_nil, or_false, not_or]
            exact ⟨Nat.ne_of_lt hb0, hb2⟩) (Heap.get?_push_of_some _ (Heap.get?_push_of_some _ e))
      · cases r₂ with
        | error e => exact hr₂
        | ok fl₂ =>
          cases fl₂ with
          | ret r =>
            obtain ⟨rfl, h', tk, c', rfl, hS', hc', hk'⟩ := hr₂
            repeat (any_goals (first | assumption | wp_step))
            exact h _ _ _ hS' hc' hk'
          | _ => exact hr₂.elim
    | _ => exact hr.elim
end
def tSSL (K : PySem.W.Frag) (ta : TE) : TE := fun σ H Q => ta σ H fun x H1 => ∃ (l : Addr) (ns : List Int), x = V.ref l ∧ SqL K H1 l (ns.map V.int) ∧ ns.length < 64 ∧
  ∀ (ms : List Int) (p : Addr), ms.Pairwise (· < ·) → (∀ k : Int, k ∈ ms ↔ k ∈ ns) → H1 p = none → Q (.ref p) (upd H1 p (.lst (ms.map V.int)))
theorem pe_sortedSetL {X : Cx} {a : Expr} {ta : TE} {p p2 q pos : Pos} (hc : X.calm = true) (hg : Gl X "sorted") (hm : X.mg "sorted" = none) (hg2 : Gl X "set") (hm2 : X.mg "set" = none) (ha : PE X a ta)
    (na : starEach [a] X.env = (false, eval a X.env) :: starEach [] X.env := by rfl) : PE X (.Call (.Name "sorted" p) [.Call (.Name "set" p2) [a] [] q] [] pos) (tSSL X.K ta) := by
  refine ⟨fun pins s σ H Q I h => ?_⟩
  refine Call_ (ld_blt I hg hm Jo.jb_sorted ?_)
  refine PyProof.Rows.callWith_builtin1 (PyProof.Rows.args_cons ?_ rfl) rfl rfl
  refine Call_ (ld_blt I hg2 hm2 PyProof.Rows.boot_set ?_)
  refine PyProof.Rows.callWith_type1 (PyProof.Rows.args_cons (thn (ha.run pins s σ H _ I h) fun v s1 ⟨x, H1, I1, r1, q1⟩ => PyProof.Rows.args_nil ?_) na) na rfl
  obtain ⟨l, ns, rfl, hq, h1, q1⟩ := q1
  cases r1
  obtain ⟨its, r, pl, hz⟩ := I1.list hq
  refine setOfList ns (I1.ok.hd hc) pl.isList (by simpa using ints_of_vals r) (by unfold scanBound; omega) fun h' tk c R hcl hk => ?_
  refine PyProof.Rows.args_nil ?_
  have I2 : Inv X pins σ H1 { s1 with heap := h', toks := tk } := I1.kept fun b o e => hk b o e
  refine sorted_set R (I2.ok.hd hc) (by omega) fun s' p out c ms k g o hp hg hi hs hm hl => ?_
  have hlen : (ms.map V.int).length ≤ sizeLine := by rw [List.length_map, hl, sizeLine_eq]; omega
  have hn : H1 p = none := I2.hok.fresh hp
  have J := I2.call (H' := upd H1 p (.lst (ms.map V.int))) (h' := s'.heap) (g' := s'.gens) (d' := s'.drawn) (t' := s'.toks) (ch := []) (Un.laid k hp hn) (I2.hok.laid k hp ⟨hlen, out.toList, c, vals_of_ints hi, hg⟩) (by rw [g]; exact I2.bare) (fun _ z => nomatch z)
  have e : s' = { s1 with heap := s'.heap, gens := s'.gens, drawn := s'.drawn, toks := s'.toks } := by
    cases s'
    cases s1
    cases o
    rfl
  rw [e]
  exact ⟨.ref p, _, J, rfl, q1 ms p hs (fun k => by rw [hm k]; exact decide_eq_true_iff) hn⟩
end L2
namespace Jo
open PySem L2
def sslO : Op := fun ts => match ts with
  | [.lst o xs] => (ints? xs).bind fun ns => if ns.length < 64 then some (.lst true ((sortU ns).map T.int), ts) else none
  | _ => none
def rSSL (K : PySem.W.Frag) : List V → Hp → VK → Prop := fun vs H Q => ∃ (l : Addr) (ns : List Int), vs = [V.ref l] ∧ SqL K H l (ns.map V.int) ∧ ns.length < 64 ∧
  ∀ (ms : List Int) (p : Addr), ms.Pairwise (· < ·) → (∀ k : Int, k ∈ ms ↔ k ∈ ns) → H p = none → Q (.ref p) (upd H p (.lst (ms.map V.int)))
theorem sslO_ok {X : Cx} : OpS X.K X.mg sslO (rSSL X.K) := fun F H vs ts B t ts' s g o e Q k => by
  unfold sslO at e
  split at e
  · rename_i ow xs
    cases q : ints? xs with
    | none => rw [q] at e; cases e
    | some ns =>
      rw [q] at e
      simp only [Option.bind_some] at e
      split at e
      · rename_i hz
        cases e
        obtain ⟨v, rfl, o1⟩ := o.one
        obtain ⟨a, ws, rfl, h1, h2, _⟩ := o1.lst_inv s
        cases ints?_some q
        refine ⟨a, ns, rfl, by rw [← ownL_ints h2]; exact .of h1, hz, fun ms p ha hm n => ?_⟩
        have em : ms = sortU ns := asc_uniq ha (sortU_asc ns) fun x => by rw [hm, sortU_mem]
        subst em
        exact fin_lst s g o (rep_ints _) n k
      · cases e
  · cases e
theorem ev_ssl {X : Cx} {W : XW} {a : Expr} {ka : AK} {p p2 q pos : Pos} (hc : X.calm = true) (hg : Gl X "sorted") (hm : X.mg "sorted" = none) (hg2 : Gl X "set") (hm2 : X.mg "set" = none) (ha : EK X W a ka)
    (na : starEach [a] X.env = (false, eval a X.env) :: starEach [] X.env := by rfl) : EE X W (.Call (.Name "sorted" p) [.Call (.Name "set" p2) [a] [] q] [] pos) (eOp [ka] sslO) :=
  PE.imp (pe_sortedSetL hc hg hm hg2 hm2 ha na) fun σ H Q h => tK_mono (args1 (op_run sslO_ok h)) fun x H1 ⟨l, ns, e, h1, h2, h3⟩ => by
    cases e
    exact ⟨l, ns, rfl, h1, h2, h3⟩
theorem o_ssl {o : Bool} {ns : List Int} (h : ns.length < 64) : sslO [.lst o (ns.map T.int)] = some (.lst true ((sortU ns).map T.int), [.lst o (ns.map T.int)]) := by
  unfold sslO
  simp only [ints?_map, Option.bind_some, h, if_true]

/-! ### errors with fields -/
end Jo
namespace L2
open PySem PySem.Spec PyProof.Rows
theorem refs_of_tail : ∀ l : List Value, PySem.W.excTail [.type "ValueError", .type "Exception", .type "BaseException", .type "object"] l = true → PySem.HandSPX.refsVE l = true
  | [], e => by cases e
  | a :: r, e => by
    rcases PySem.W.excTail_cases (a :: r) e with ⟨c, r', q, h⟩ | q
    · obtain ⟨rfl, rfl⟩ := List.cons.inj q
      exact refs_of_tail r h
    · rw [q]
      exact beq_iff_eq.mpr rfl
/-- an own class over ValueError with its own __init__ -/
theorem oexc_of {K : PySem.W.Frag} {C : Addr} (q : PySem.W.excInitIn K C [.type "ValueError", .type "Exception", .type "BaseException", .type "object"] "ValueError.__new__" = true) (hd : PySem.W.hasDictIn K C = true)
    (sa : PySem.W.findIn K (.ref C) "__setattr__" = some (some (.builtin "object.__setattr__"))) (ex : PySem.W.subIn K (.ref C) (.type "BaseException") = some true) (ty : PySem.W.typeIn K (.ref C) = some (.type "type")) (kc : PySem.W.keepIn K (.ref C) = true) : OexC K C := by
  refine ⟨?_, sa, ex, ty, kc⟩
  unfold PySem.W.excInitIn at q
  split at q
  · rename_i dd cd sl ho
    split at q
    · rename_i C' bm k0 k1 k2 k3 n k5 hm hs
      simp only [Bool.and_eq_true, beq_iff_eq, Bool.not_eq_true'] at q
      obtain ⟨⟨⟨rfl, rfl⟩, hdel⟩, ht⟩ := q
      have hh : cd.hasDict = true := by
        have e : PySem.W.clsIn K C' = some cd := by unfold PySem.W.clsIn; rw [ho]
        unfold PySem.W.hasDictIn at hd
        rw [e] at hd
        exact hd
      obtain ⟨nm, bs, mro, ns, qn, hd', sn, sub, ab, col, del⟩ := cd
      dsimp only at hm hdel hh
      subst hm hdel hh
      have hsl : sl = #[k0, k1, k2, k3, some (.builtin "ValueError.__new__"), k5] := by
        obtain ⟨l⟩ := sl
        simp only at hs
        rw [hs]
      subst hsl
      exact ⟨nm, qn, ns, bs, bm, sn, sub, ab, col, dd, k0, k1, k2, k3, k5, ho, refs_of_tail _ ht⟩
    · cases q
  · cases q
/-- what the __init__ promises: it stores its parameters as fields -/
def spIni (K : PySem.W.Frag) (C : Addr) (fs : List Str) : Sp := fun vs H Q _ => ∃ (a : Addr) (ws : List V), vs = .ref a :: ws ∧ ws.length = fs.length ∧ OexC K C ∧ H a = some (exo a C none) ∧
  ∀ dx, H dx = none → dx ≠ a → Q .non (upd (upd H a (exo a C (some dx))) dx (exd dx ((fs.zip ws).reverse)))
theorem upd_swap {H : Hp} {a b : Addr} {o u : HO} (h : a ≠ b) : upd (upd H a o) b u = upd (upd H b u) a o := by
  funext c
  by_cases h1 : c = a
  · subst h1; rw [upd_ne h, upd_same, upd_same]
  · by_cases h2 : c = b
    · subst h2; rw [upd_same, upd_ne h1, upd_same]
    · rw [upd_ne h2, upd_ne h1, upd_ne h1, upd_ne h2]
theorem upd_two {H : Hp} {a : Addr} {o u : HO} : upd (upd H a o) a u = upd H a u := by
  funext c
  by_cases h1 : c = a
  · subst h1; rw [upd_same, upd_same]
  · rw [upd_ne h1, upd_ne h1, upd_ne h1]
section
variable {P : Program} {w : World} {K : PySem.W.Frag} {mg : Str → Option Value} {base : Heap}
theorem ini2_ok {qual : Str} {st : Stmt} {f C : Addr} {fd : FuncData} {N ps : List Str} {f1 f2 : Str} (F : Fun K "__init__" qual st f fd) (S : FnScope N ps (defScope st)) (hN : N.length = 3) (hp : ps.length = 3) (n1 : PySem.W.findIn K (.ref C) f1 = some none) (n2 : PySem.W.findIn K (.ref C) f2 = some none)
    (hbody : ∀ (cdv : Value) (A : Around) (outer : List Env) (s : Shared) (H : Hp) (E : XK), PSs (cxOf (L2.CX P w) P w K mg base N qual (defScope st) f cdv A outer s H E) (defBody st) (tSeq (tOst K f1 (tVar 0) (tVar 1)) (tOst K f2 (tVar 0) (tVar 2)))) :
    FnOk P w K mg base (L2.CX P w) 1 f fd ps (spIni K C [f1, f2]) := by
  refine F.okX S (fun vs H Q E h => ?_) fun cdv A outer s H vs Q E hr hsp => ⟨_, hbody cdv A outer s H E, ?_⟩
  · obtain ⟨a, ws, rfl, hl, _⟩ := h
    rw [hp, List.length_cons, hl] <;> rfl
  · obtain ⟨a, ws, rfl, hl, T, ha, q⟩ := hsp
    match ws, hl with
    | [v1, v2], _ =>
      have st0 : start N [.ref a, v1, v2] = [some (.ref a), some v1, some v2] := by
        unfold start
        rw [hN]; rfl
      rw [st0]
      refine ⟨v1, rfl, .ref a, rfl, a, C, rfl, T, n1, .inl ⟨ha, fun dx nx ne => ?_⟩⟩
      refine ⟨v2, rfl, .ref a, rfl, a, C, rfl, T, n2, .inr ⟨dx, [(f1, v1)], upd_same, ?_, by simp, ?_⟩⟩
      · rw [upd_ne ne, upd_same]
      · have e := q dx nx ne
        rw [upd_swap ne, upd_two]
        exact e
theorem ini1_ok {qual : Str} {st : Stmt} {f C : Addr} {fd : FuncData} {N ps : List Str} {f1 : Str} (F : Fun K "__init__" qual st f fd) (S : FnScope N ps (defScope st)) (hN : N.length = 2) (hp : ps.length = 2) (n1 : PySem.W.findIn K (.ref C) f1 = some none)
    (hbody : ∀ (cdv : Value) (A : Around) (outer : List Env) (s : Shared) (H : Hp) (E : XK), PSs (cxOf (L2.CX P w) P w K mg base N qual (defScope st) f cdv A outer s H E) (defBody st) (tOst K f1 (tVar 0) (tVar 1))) :
    FnOk P w K mg base (L2.CX P w) 1 f fd ps (spIni K C [f1]) := by
  refine F.okX S (fun vs H Q E h => ?_) fun cdv A outer s H vs Q E hr hsp => ⟨_, hbody cdv A outer s H E, ?_⟩
  · obtain ⟨a, ws, rfl, hl, _⟩ := h
    rw [hp, List.length_cons, hl] <;> rfl
  · obtain ⟨a, ws, rfl, hl, T, ha, q⟩ := hsp
    match ws, hl with
    | [v1], _ =>
      have st0 : start N [.ref a, v1] = [some (.ref a), some v1] := by
        unfold start
        rw [hN]; rfl
      rw [st0]
      refine ⟨v1, rfl, .ref a, rfl, a, C, rfl, T, n1, .inl ⟨ha, fun dx nx ne => ?_⟩⟩
      have e := q dx nx ne
      rw [upd_swap ne]
      exact e
end
end L2
namespace Jo
open PySem L2
def sRaiseK (c : Str) (fs : List Str) (ks : List AK) : Fs := fun η => (argsF ks η).bind fun as η1 => match valsOf as with
  | some ts => if ts.all scl = true ∧ ts.length = fs.length ∧ fs ≠ [] ∧ ts.length ≤ 900 then .exc c fs.reverse ts.reverse η1 else .bad
  | none => .bad
theorem scl_own {K : PySem.W.Frag} {m : Str → Option Value} {F H : Hp} {v : V} {t : T} {A : AP} (e : scl t = true) (h : Own K m F H v t A) : Rep K m F v t := by
  cases h with
  | frz h => exact h
  | _ => cases e
theorem scls_own {K : PySem.W.Frag} {m : Str → Option Value} {F H : Hp} : ∀ {vs : List V} {ts : List T} {A : AP}, ts.all scl = true → OwnL K m F H vs ts A → Paired (Rep K m F) vs ts
  | _, _, _, _, .nil => .nil
  | _, _, _, e, .cons h r _ _ _ => by
    rw [List.all_cons, Bool.and_eq_true] at e
    exact .cons (scl_own e.1 h) (scls_own e.2 r)
section
variable {X : Cx} {W : XW} {ms : List Nat} {pos p p2 : Pos}
theorem ss_raiseK {fI C : Addr} {k : Nat} {fd : FuncData} {ps fs : List Str} {x : Str} {e : Expr} {es : List Expr} {ks : List AK} (T : OexC X.K C) (iC : PySem.W.findIn X.K (.ref C) "__init__" = some (some (.ref fI))) (tI : PySem.W.typeIn X.K (.ref fI) = some (.type "function"))
    (F1 : FnOk X.prog X.w X.K X.mg X.base (L2.CX X.prog X.w) k fI fd ps (spIni X.K C fs)) (hr : Room (k + 1) X.A) (hb : Binds X.K fd ps []) (hg : Gl X x) (hm : X.mg x = some (.ref C)) (hc : X.calm = true) (tk : Takes X W) (ha : EAs X W (e :: es) ks)
    (hdb : (x == ("__debug__" : Str)) = false := by decide) (he : starEach (e :: es) X.env = (false, eval e X.env) :: starEach es X.env := by rfl) (hpl : (backTo p2 (starEach es X.env)).any (·.1) = false := by rfl) :
    SS X W ms (.Raise (some (.Call (.Name x p) (e :: es) [] p2)) none pos) (sRaiseK x fs ks) :=
  PS.imp (ps_raise hc tk (pmk_oex T iC tI F1 hr hb .nil passL hg hm ha hdb he hpl)) fun D σ H h => tS.seq h fun G1 η1 A1 B1 as vs H1 G A S1 ra g1 d1 st1 q => by
    cases e1 : valsOf as with
    | none => rw [e1] at q; exact q.elim
    | some ts =>
      rw [e1] at q
      simp only at q
      split at q
      · rename_i hz
        obtain ⟨z1, z2, z3, z4⟩ := hz
        have ol := RA.vals ra e1
        have rp := scls_own z1 ol
        have hl : vs.length = ts.length := ol.length
        refine ⟨by omega, fun a na => ⟨a, vs, by rw [List.append_nil], by omega, T, upd_same, fun dx nx ne => ⟨rfl, dx, (fs.zip vs).reverse, ?_, upd_same, ?_, ?_⟩⟩⟩
        · rw [upd_ne (Ne.symm ne), upd_same]
        · rw [upd_ne ne] at nx; exact nx
        · have nx : H1 dx = none := by rw [upd_ne ne] at nx; exact nx
          have eh : upd (del (upd (upd (upd H1 a (exo a C none)) a (exo a C (some dx))) dx (exd dx (fs.zip vs).reverse)) a) dx (.xd (fs.zip vs).reverse) = upd H1 dx (.xd (fs.zip vs).reverse) := by
            funext b
            by_cases h1 : b = dx
            · subst h1; rw [upd_same, upd_same]
            · rw [upd_ne h1, upd_ne h1]
              by_cases h2 : b = a
              · subst h2; rw [del_same, na]
              · rw [del_ne h2, upd_ne h1, upd_ne h2, upd_ne h2]
          rw [eh]
          obtain ⟨x1, x2, x3, x4, x5, x6⟩ := new_own (o := .xd (fs.zip vs).reverse) (Step.refl (A := A1)) S1.sub S1.good nx
          have fn : G1 dx = none := (x3 dx rfl).1
          refine q G1 _ A1 σ (.ref C) (some dx) ⟨x1, x2, S1.env.mono (fun _ _ y => y) (fun b o _ y => x6 b o y) fun _ y => y⟩ (st1.halfS.trans x5.halfS) Kp.refl ⟨hm, fun z => z3 (List.reverse_eq_nil_iff.mp z), (fs.zip vs).reverse, upd_same, fn, ?_, ?_⟩
          · rw [List.map_reverse, List.map_fst_zip (by omega)]
          · rw [List.map_reverse, List.map_snd_zip (by omega)]
            exact paired_rev rp
      · exact q.elim
end

/-! ### a caught error with fields -/
def mEd (mg : Str → Option Value) (a dd : Addr) : Str → Option Value := fun c => if c = excN then some (.ref a) else if c = excD then some (.ref dd) else mg c
theorem mEd_exc {mg : Str → Option Value} {a dd : Addr} : mEd mg a dd excN = some (.ref a) := if_pos rfl
theorem mEd_dct {mg : Str → Option Value} {a dd : Addr} : mEd mg a dd excD = some (.ref dd) := by
  unfold mEd
  rw [if_neg (by decide), if_pos rfl]
def mX (mg : Str → Option Value) (a : Addr) : Option Addr → Str → Option Value
  | none => mE mg a
  | some dd => mEd mg a dd
def exT (ks : List Str) (fs : List T) : T := match ks with
  | [] => .gl excN
  | _ => .ex ks fs
def locX (n i : Nat) (ks : List Str) (fs : List T) : Env := (List.replicate n none).set i (some (exT ks fs))
/-- hs: by the error's class, its fields and the suite -/
def sTryF (fb : Fs) (i : Nat) (bs : List Bool) (hs : List (Str × List Str × Fs)) : Fs := fun η => match fb η with
  | .exc c ks fs η1 => match hs.lookup c with
    | some (k, h) => if k = ks ∧ fs.all scl = true then (match h (locX bs.length i ks fs) with
        | .ok .nx η2 => .ok .nx ((mixE bs η1 η2).set i none)
        | _ => .bad) else .bad
    | none => .bad
  | r => r
/-- without what stands at d -/
noncomputable def drp (F : Hp) (d : Option Addr) : Hp := fun p => if d = some p then none else F p
section
variable {K : PySem.W.Frag} {mg : Str → Option Value} {F : Hp} {d : Option Addr}
theorem drp_of (hd : ∀ p, d = some p → ∃ kvs, F p = some (.xd kvs)) {a : Addr} {o : HO} (h : F a = some o) (ho : ∀ kvs, o ≠ .xd kvs) : drp F d a = some o := by
  unfold drp
  rw [if_neg, h]
  intro z
  obtain ⟨kvs, e⟩ := hd a z
  rw [h] at e
  cases e
  exact ho kvs rfl
theorem SqT.drop (hd : ∀ p, d = some p → ∃ kvs, F p = some (.xd kvs)) {a : Addr} {vs : List V} (h : SqT K F a vs) : SqT K (drp F d) a vs := by
  rcases h with (h | ⟨o, h⟩) | h
  · exact .inl (.inl (drp_of hd h fun kvs z => nomatch z))
  · exact .inl (.inr ⟨o, drp_of hd h fun kvs z => nomatch z⟩)
  · exact .inr h
theorem SqL.drop (hd : ∀ p, d = some p → ∃ kvs, F p = some (.xd kvs)) {a : Addr} {vs : List V} (h : SqL K F a vs) : SqL K (drp F d) a vs := by
  rcases h with (h | ⟨o, h⟩) | h
  · exact .inl (.inl (drp_of hd h fun kvs z => nomatch z))
  · exact .inl (.inr ⟨o, drp_of hd h fun kvs z => nomatch z⟩)
  · exact .inr h
mutual
theorem Rep.drop (hn : mg excN = none) (hd : ∀ p, d = some p → ∃ kvs, F p = some (.xd kvs)) : ∀ (t : T) (v : V), Rep K mg F v t → Rep K mg (drp F d) v t
  | .non, _, h => by cases h; exact .non
  | .bl b, _, h => by cases h; exact .bl b
  | .int i, _, h => by cases h; exact .int i
  | .str x, _, h => by cases h; exact .str x
  | .ty n, _, h => by cases h; exact .ty n
  | .scr ns, _, h => by
    cases h with
    | scr h => exact .scr (SqL.drop hd h)
  | .gl c, _, h => by
    cases h with
    | gl h => exact .gl h
  | .kt ks, _, h => by
    cases h with
    | kt h => exact .kt (drp_of hd h fun kvs z => nomatch z)
  | .tup ts, _, h => by
    cases h with
    | tup h1 h2 => exact .tup (SqT.drop hd h1) (RepL.drop hn hd ts _ h2)
  | .lst o ts, _, h => by
    cases h with
    | lst h1 h2 => exact .lst (drp_of hd h1 fun kvs z => nomatch z) (RepL.drop hn hd ts _ h2)
  | .dk o ks ts, _, h => by
    cases h with
    | dk h1 h2 h3 => exact .dk (drp_of hd h1 fun kvs z => nomatch z) h2 (RepL.drop hn hd ts _ h3)
  | .dt o ks ts, _, h => by
    cases h with
    | dt h1 h2 h3 => exact .dt (drp_of hd h1 fun kvs z => nomatch z) h2 (RepL.drop hn hd ts _ h3)
  | .ins o c ks ts, _, h => by
    cases h with
    | ins h1 h0 h2 h3 => exact .ins (drp_of hd h1 fun kvs z => nomatch z) h0 h2 (RepL.drop hn hd ts _ h3)
  | .ex ks ts, _, h => by
    cases h with
    | ex g1 g2 h1 h2 h3 => rw [hn] at g1; cases g1
theorem RepL.drop (hn : mg excN = none) (hd : ∀ p, d = some p → ∃ kvs, F p = some (.xd kvs)) : ∀ (ts : List T) (vs : List V), Paired (Rep K mg F) vs ts → Paired (Rep K mg (drp F d)) vs ts
  | [], _, h => by cases h; exact .nil
  | t :: ts, _, h => by
    cases h with
    | cons h1 h2 => exact .cons (Rep.drop hn hd t _ h1) (RepL.drop hn hd ts _ h2)
end
end
theorem Own.ex_inv {K : PySem.W.Frag} {m : Str → Option Value} {F H : Hp} {v : V} {ks : List Str} {ts : List T} {A : AP} (h : Own K m F H v (.ex ks ts) A) :
    ∃ a dd fs, v = .ref a ∧ m excN = some (.ref a) ∧ m excD = some (.ref dd) ∧ F dd = some (.xd fs) ∧ fs.map (·.1) = ks ∧ Paired (Rep K m F) (fs.map (·.2)) ts := by
  cases h with
  | frz h =>
    cases h with
    | ex g1 g2 h1 h2 h3 => exact ⟨_, _, _, rfl, g1, g2, h1, h2, h3⟩
section
variable {X : Cx}
inductive HsF (X : Cx) (bs : List Bool) (suite : List Stmt) (cv : Value) : List (Str × List Str × Fs) → Prop
  | nil : HsF X bs suite cv []
  | cons0 {c : Str} {D : Addr} {h : Fs} {hs : List (Str × List Str × Fs)} (g : X.mg c = some (.ref D)) (e : PySem.W.exmOne X.K (.ref D) cv = some true)
    (su : ∀ (a : Addr) (oe : Obj) (pn : List (Addr × Obj)), Zc (.ref D) none oe → (∃ vs, oe.data = .fields vs) → SSsm (X.suite a ((a, oe) :: pn)) (mE X.mg a) (fun _ _ _ _ => False) (keepL bs) suite h)
    (r : HsF X bs suite cv hs) : HsF X bs suite cv ((c, [], h) :: hs)
  | consD {c k : Str} {ks : List Str} {D : Addr} {h : Fs} {hs : List (Str × List Str × Fs)} (g : X.mg c = some (.ref D)) (e : PySem.W.exmOne X.K (.ref D) cv = some true)
    (su : ∀ (a : Addr) (oe : Obj) (pn : List (Addr × Obj)) (dd : Addr), Zc (.ref D) (some dd) oe → (∃ vs, oe.data = .fields vs) → SSsm (X.suite a ((a, oe) :: pn)) (mEd X.mg a dd) (fun _ _ _ _ => False) (keepL bs) suite h)
    (r : HsF X bs suite cv hs) : HsF X bs suite cv ((c, k :: ks, h) :: hs)
theorem HsF.get {bs : List Bool} {suite : List Stmt} {cv : Value} : ∀ {hs : List (Str × List Str × Fs)} {c : Str} {k : List Str} {h : Fs}, HsF X bs suite cv hs → hs.lookup c = some (k, h) →
    ∃ D, X.mg c = some (.ref D) ∧ PySem.W.exmOne X.K (.ref D) cv = some true ∧
      ∀ (a : Addr) (oe : Obj) (pn : List (Addr × Obj)) (d : Option Addr), Zc (.ref D) d oe → (∃ vs, oe.data = .fields vs) → (k = [] ↔ d = none) → SSsm (X.suite a ((a, oe) :: pn)) (mX X.mg a d) (fun _ _ _ _ => False) (keepL bs) suite h
  | _, c, k, h, .nil, e => by cases e
  | _, c, k, h, .cons0 (c := c') (D := D) (h := h') (hs := hs) g e su r, l => by
    rw [List.lookup_cons] at l
    split at l
    · rename_i z
      have z : c = c' := by simpa using z
      subst z
      cases l
      refine ⟨D, g, e, fun a oe pn d hz hf kd => ?_⟩
      obtain rfl := kd.mp rfl
      exact su a oe pn hz hf
    · exact r.get l
  | _, c, k, h, .consD (c := c') (D := D) (h := h') (hs := hs) g e su r, l => by
    rw [List.lookup_cons] at l
    split at l
    · rename_i z
      have z : c = c' := by simpa using z
      subst z
      cases l
      refine ⟨D, g, e, fun a oe pn d hz hf kd => ?_⟩
      cases d with
      | none => cases kd.mpr rfl
      | some dd => exact su a oe pn dd hz hf
    · exact r.get l
variable {W : XW} {ms : List Nat} {x n : Str} {cv : Value} {i : Nat} {body suite : List Stmt} {b₀ : Stmt} {np pos pos' : Pos} {fb : Fs} {bs : List Bool} {hs : List (Str × List Str × Fs)}
theorem ss_tryF (hst : X.stack = X.env :: X.outer) (hf : X.env.frame = some X.env.locals) (hN : X.N.Nodup) (hi : X.N[i]? = some n) (hln : X.env.kindOf n = some .local) (hc : Names X x cv) (tk : Takes X W)
    (hbl : bs.length = X.N.length) (hbi : bs[i]? = some true) (hbm : ms.all (fun j => bs[j]? == some false) = true)
    (hb : ∀ (W : XW) (pn : List (Addr × Obj)) (xe : Value → Shared → Prop), Takes (X.tr pn xe) W → PassesOwn (model X.prog X.w) X.A X.env xe → SSs (X.tr pn xe) W ms body fb) (hxn : X.mg excN = none)
    (hh : HsF X bs (b₀ :: suite) cv hs) : SS X W ms (.Try body [.ExceptHandler (some (.Name x np)) (some n) (b₀ :: suite) pos'] [] [] pos) (sTryF fb i bs hs) := by
  refine ⟨fun pins s σ H D I q => ?_⟩
  refine (ps_try_as (X := X) (Wout := W) (tb := fun W => tS X.K X.mg W ms fb)
    (ts := fun a cls d D' σ' H' => ∃ c k h, hs.lookup c = some (k, h) ∧ X.mg c = some cls ∧ (k = [] ↔ d = none) ∧ tS X.K (mX X.mg a d) (fun _ _ _ _ => False) (keepL bs) h D' σ' H')
    hst hf hN hi hln hc tk hb ?_).run pins s σ H D I ?_
  · intro a oe cls d pn hz hfl
    refine ⟨fun pins s σ H D I ⟨c, k, h, l, g, kd, q⟩ => ?_⟩
    obtain ⟨D', g', e', su⟩ := hh.get l
    rw [g] at g'
    cases g'
    exact (su a oe pn d hz hfl kd).run pins s σ H D I q
  · have hlen : σ.length = X.N.length := I.len
    obtain ⟨F, η, A, S, q⟩ := q
    refine ⟨F, η, A, S, ?_⟩
    have q : AfterS X.K X.mg W ms F H A σ (sTryF fb i bs hs η) D := q
    unfold sTryF at q
    cases e : fb η with
    | bad => rw [e] at q; exact q
    | ok fl η1 => rw [e] at q; cases fl <;> exact q
    | exc c ks fs η1 =>
      rw [e] at q
      simp only at q
      cases l : hs.lookup c with
      | none => rw [l] at q; exact q.elim
      | some kh =>
        obtain ⟨k, h⟩ := kh
        rw [l] at q
        simp only at q
        split at q
        · rename_i hk
          obtain ⟨rfl, hsc⟩ := hk
          obtain ⟨D', g, ex, su⟩ := hh.get l
          cases hq : h (locX bs.length i k fs) with
          | bad => rw [hq] at q; exact q.elim
          | exc _ _ _ _ => rw [hq] at q; exact q.elim
          | ok fl2 η2 =>
            rw [hq] at q
            cases fl2 with
            | rt _ => exact q.elim
            | bk => exact q.elim
            | ct => exact q.elim
            | nx =>
              simp only at q
              intro F1 H1 A1 σ1 cls d S1 st1 kp1 xr
              obtain ⟨gc, xr⟩ := xr
              rw [g] at gc
              cases gc
              have kd : k = [] ↔ d = none := by
                cases d with
                | none => exact ⟨fun _ => rfl, fun _ => xr.1⟩
                | some dd => exact ⟨fun z => absurd z xr.1, fun z => nomatch z⟩
              have hdx : ∀ p, d = some p → F1 p = none ∧ ∃ kvs, H1 p = some (.xd kvs) := fun p z => by
                subst z
                obtain ⟨_, kvs, y1, y2, _⟩ := xr
                exact ⟨y2, kvs, y1⟩
              refine ⟨true, ex, fun _ a na => ⟨c, k, h, l, g, kd, ?_⟩, fun z => nomatch z⟩
              -- the suite runs on its own small frame
              have l1 : σ1.length = bs.length := by rw [kp1.len, hlen, hbl]
              have le1 : η1.length = bs.length := by rw [← S1.env.length, l1]
              have hib : i < bs.length := (List.getElem?_eq_some_iff.mp hbi).1
              obtain ⟨G1, hG1⟩ : ∃ G1, G1 = frzF F1 H1 (fun p => A1 p ∨ d = some p) := ⟨_, rfl⟩
              have sG : Same F1 G1 := by rw [hG1]; exact frzF_same S1.sub
              have sH : Same G1 H1 := by rw [hG1]; exact frzF_sub S1.sub
              have gin : ∀ p, A1 p ∨ d = some p → G1 p = H1 p := fun p y => by rw [hG1]; exact frzF_in y
              have gout : ∀ p, ¬ (A1 p ∨ d = some p) → G1 p = F1 p := fun p y => by rw [hG1]; exact frzF_out y
              have sA : Same (frzF F1 H1 A1) G1 := fun p o z => by
                by_cases y : A1 p
                · rw [frzF_in y] at z
                  rw [gin p (.inl y)]; exact z
                · rw [frzF_out y] at z
                  exact sG p o z
              have fr := EnvO.frzE (frzF_same (A := A1) S1.sub) S1.env fun p y => frzF_in y
              have el : EnvO X.K (mX X.mg a d) G1 H1 (σ1.set i (some (.ref a))) (locX bs.length i k fs) A0 := EnvO.ofRep (by simp [locX, l1]) fun j t ej => by
                unfold locX at ej
                rw [List.getElem?_set] at ej
                split at ej
                · rename_i eij
                  subst eij
                  split at ej
                  · have ej : exT k fs = t := by simpa using ej
                    subst ej
                    refine ⟨.ref a, by simp [l1, hib], ?_⟩
                    cases d with
                    | none =>
                      obtain rfl := kd.mpr rfl
                      exact .gl mE_exc
                    | some dd =>
                      obtain ⟨nk, kvs, y1, y2, y3, y4⟩ := xr
                      cases k with
                      | nil => exact absurd rfl nk
                      | cons k0 ks0 => exact .ex mEd_exc mEd_dct (by rw [gin dd (.inr rfl)]; exact y1) y3 (scls_ok hsc (RepL.mono sG _ _ y4))
                  · cases ej
                · rw [List.getElem?_replicate] at ej
                  split at ej <;> cases ej
              refine ⟨G1, _, A0, ⟨sH, Good.a0, el⟩, ?_⟩
              rw [hq]
              intro F3 H3 A3 σ3 S3 st3 kp3
              have l3 : σ3.length = bs.length := by rw [kp3.len, List.length_set, l1]
              have le2 : η2.length = bs.length := by rw [← S3.env.length, l3]
              have hd3 : ∀ p, d = some p → ∃ kvs, F3 p = some (.xd kvs) := fun p z => by
                obtain ⟨_, kvs, y⟩ := hdx p z
                exact ⟨kvs, st3.sub p _ (by rw [gin p (.inr z)]; exact y)⟩
              have em : EnvO X.K X.mg (drp F3 d) H3 (σ3.set i none) ((mixE bs η1 η2).set i none) A0 := by
                refine EnvO.ofRep (by rw [List.length_set, List.length_set, mixE_len le1 le2, l3]) fun j t ej => ?_
                rw [List.getElem?_set] at ej
                split at ej
                · split at ej <;> cases ej
                · rename_i nij
                  rw [List.getElem?_set_ne nij]
                  rcases mixE_get le1 le2 ej with ⟨b1, b2, b3⟩ | ⟨b1, u, b2, rfl⟩
                  · obtain ⟨v, B, C, h1, h2, _⟩ := S3.env.take b2
                    exact ⟨v, h1, Rep.drop hxn hd3 _ _ (cln_ok b3 h2)⟩
                  · obtain ⟨v, h1, h2⟩ := fr j u b2
                    refine ⟨v, ?_, Rep.drop hxn hd3 _ _ (Rep.mono st3.sub _ _ (Rep.mono sA _ _ h2))⟩
                    rw [kp3.at_ j (keepL_mem b1), List.getElem?_set_ne nij]
                    exact h1
              have dn : ∀ p o, drp F3 d p = some o → d ≠ some p ∧ F3 p = some o := fun p o z => by
                unfold drp at z
                split at z
                · cases z
                · rename_i y
                  exact ⟨y, z⟩
              refine q (drp F3 d) H3 A0 (σ3.set i none) ⟨fun p o z => S3.sub p o (dn p o z).2, Good.a0, em⟩ (st1.trans ⟨fun p o y z => ?_, fun p o z => ?_, fun p o z => ?_, fun p z => z.elim⟩) ?_
              · exact st3.keep p o (fun y => y) z
              · unfold drp
                rw [if_neg (fun y => by rw [(hdx p y).1] at z; cases z)]
                exact st3.sub p o (sG p o z)
              · obtain ⟨z1, z2⟩ := dn p o z
                rcases st3.newF p o z2 with y | y | y
                · by_cases y1 : A1 p
                  · exact .inr (.inl y1)
                  · rw [gout p (fun w => w.elim y1 z1)] at y
                    exact .inl y
                · exact y.elim
                · exact .inr (.inr y)
              · refine kp1.trans ⟨by rw [List.length_set, l3, l1], fun j hj => ?_⟩
                have hjb : bs[j]? = some false := by
                  have := List.all_eq_true.mp hbm j hj
                  simpa using this
                have nij : i ≠ j := fun z => by
                  subst z
                  rw [hbi] at hjb
                  cases hjb
                rw [List.getElem?_set_ne nij, kp3.at_ j (keepL_mem hjb), List.getElem?_set_ne nij]
        · exact q.elim
end
/-! ### the caught error's fields -/
def eXf (i : Nat) (f : Str) : Fe T := fun η => match η[i]? with
  | some (some (.ex ks ts)) => match (ks.zip ts).lookup f with
    | some t => .ok t η
    | none => .bad
  | _ => .bad
theorem ev_xf {X : Cx} {a D dd : Addr} {oe : Obj} {pn : List (Addr × Obj)} {W : XW} {i : Nat} {n f : Str} {p pos : Pos} (C : XfC X.K D) (hno : PySem.W.findIn X.K (.ref D) f = some none) (hz : Zc (.ref D) (some dd) oe) (hf : ∃ vs, oe.data = .fields vs)
    (hv : PE (X.suite a ((a, oe) :: pn)) (.Name n p) (tVar i)) (hb : attributeBase (.Name n p) f X.env (eval (.Name n p) X.env) = eval (.Name n p) X.env := by rfl) :
    EEm (X.suite a ((a, oe) :: pn)) (mEd X.mg a dd) W (.Attribute (.Name n p) f pos) (eXf i f) :=
  PE.imp (pe_xf C hno hz hf hv hb) fun σ H Q ⟨F, η, A, S, q⟩ => by
    unfold eXf at q
    split at q
    · rename_i ks ts es
      cases l : (ks.zip ts).lookup f with
      | none => rw [l] at q; exact q.elim
      | some t =>
        rw [l] at q
        obtain ⟨v1, B, C1, h1, h2, _⟩ := S.env.take es
        obtain ⟨a1, d1, fs, rfl, g1, g2, h3, h4, h5⟩ := h2.ex_inv
        rw [mEd_exc] at g1
        cases g1
        rw [mEd_dct] at g2
        cases g2
        subst h4
        obtain ⟨v, lv, rv⟩ := lookup_rep h5 l
        exact ⟨_, h1, rfl, rfl, dd, fs, v, rfl, S.sub _ _ h3, lv, q F H A A0 v S (.frz rv) Good.a0 (fun _ _ x => x) (Step.refl.weak (fun _ x => x) fun p x => x.elim id fun y => y.elim)⟩
    · exact q.elim

/-! ### isinstance of a caught error with fields -/
end Jo
namespace PySem.W
open PySem PySem.Spec PySem.Calls PyProof.Rows
section
variable {prog : Program} {w : World} {A : Around} {E : Value → Shared → Prop} {s : Shared} {K : Frag} {x D : Addr} {ox od : Obj}
theorem findObj_dataD {C : Addr} {name : Str} {a g : Value} (hc : (clsIn K C).isSome = true) (ha : findIn K (.ref C) name = some (some a)) (hg : specialIn K a "__get__" = some (some g)) (ht : takesIn K a = some true) : findObj K C (some od) name = some (.bind g a) := by
  obtain ⟨cd, hc⟩ := Option.isSome_iff_exists.mp hc
  unfold findObj
  rw [hc, Option.bind_some, ha, Option.bind_some]
  simp [hg, ht]
theorem kin_classED {Q : Option Value → Shared → Prop} (hga : findIn K (.ref D) "__getattribute__" = some (some (.builtin "BaseException.__getattribute__"))) (hgt : findIn K (.ref D) "__getattr__" = some none) (hsub : subIn K (.ref D) (.type "BaseException") = some true)
    (hdct : hasDictIn K D = true) (ha : findIn K (.ref D) "__class__" = some (some (.builtin "object.__class__")))
    (hn : specialIn K (.builtin "object.__class__") "__get__" = some (some (.builtin "getset_descriptor.__get__"))) (htk : takesIn K (.builtin "object.__class__") = some true) (hm : mroIn K D (.type "object") = some true)
    (X : K.In s.heap) (I : InstAt s.heap x ox D (some od)) (h : Q (some (.ref D)) { s with toks := s.toks + 1 }) : wpAny (model prog w) A (getAttr? (.ref x) "__class__") Q E s := by
  have hf : findObj K D (some od) "__class__" = some (.bind (.builtin "getset_descriptor.__get__") (.builtin "object.__class__")) := findObj_dataD (by obtain ⟨cd, hc, _⟩ := any_some hdct; rw [hc]; rfl) ha hn htk
  obtain ⟨hp, g, d, t, os⟩ := s
  have L0 := I.type (M := model prog w)
  have L1 := looks_findIn (M := model prog w) X hga
  have L2 := looks_findIn (M := model prog w) X hgt
  have L3 := looks_find (M := model prog w) X I hf
  have sub : Looks (model prog w) hp (isInstance (.ref x) (.type "BaseException")) true := L0.andThen (looks_subIn X hsub)
  have hx0 : (false && onTheHeap (Value.builtin "BaseException.__getattribute__")) = false := rfl
  have hx2 : (Value.builtin "BaseException.__getattribute__" == Value.builtin "object.__getattribute__") = false := by decide +kernel
  have hx1 : (onTheHeap (Value.ref D) && Value.builtin "BaseException.__getattribute__" == Value.builtin "object.__getattribute__") = false := by rw [hx2]; rfl
  unfold getAttr? getAttrBy? getAttrBy
  refine wpAny_bind (wpAny_mkText (wpAny_bind (wpAny_attempt (wpAny_holding (wpAny_bind (L0.at (wpAny_bind (L1.at ?_))))))))
  show wpAny _ _ (if (onTheHeap (Value.ref D) && Value.builtin "BaseException.__getattribute__" == Value.builtin "object.__getattribute__") = true then _ else _) _ _ _
  rw [hx1, if_neg Bool.false_ne_true]
  unfold getAttrByItsOwn hookBefore
  refine wpAny_bind ?_
  rw [if_pos (show onTheHeap (Value.ref D) = true from rfl)]
  refine L2.at ?_
  refine wpAny_bind (wpAny_attempt (wpAny_holding ?_))
  unfold callGetattribute
  rw [hx0, if_neg Bool.false_ne_true]
  unfold boundAndCalled
  rw [PySem.F.excAttr_ValueError.ga.bind (.ref x)]
  refine wpAny_bind (wpAny_pure ?_)
  show wpAny _ _ (call (.builtin "BaseException.__getattribute__") [.ref x, .str "__class__" t]) _ _ _
  refine wpAny_call (codeAny_call_builtin PySem.F.excAttr_ValueError.ga.plain PySem.F.entry_bexc_ga ?_)
  refine @check_slot (model prog w) _ _ ⟨hp, g, d, t + 1, os⟩ "BaseException.__getattribute__" "BaseException" "__getattribute__" (.ref x) [.str "__class__" t] [] _ (by decide +kernel) (by decide +kernel) sub (PySem.F.args_bexc_ga (.ref x) (.str "__class__" t)) ?_
  unfold Builtin.«object.__getattribute__»
  refine wpAny_bind (wpAny_of_eq (a := ((Value.ref x : Value), [Value.str "__class__" t])) (by first | rfl | (simp only [slotArgs]; rfl)) ?_)
  refine wpAny_bind (wpAny_pure (wpAny_bind (L0.at (wpAny_bind (L3.at ?_)))))
  show wpAny _ _ (holding [Value.builtin "object.__class__"] (call (.builtin "getset_descriptor.__get__") [.builtin "object.__class__", .ref x, .ref D]) >>= ret) _ _ _
  refine wpAny_bind (wpAny_holding (wpAny_call (class_get (s := ⟨hp, g, d, t + 1, os⟩) (ox := ox) (od := some od) X I hm ?_)))
  refine wpAny_pure ?_
  show wpAny _ _ (handedOut (.ref D)) _ _ _
  rw [handedOut_of (v := .ref D) rfl]
  first
    | exact wpAny_pure (wpAny_pure h)
    | exact wpAny_pure h
    | exact wpAny_pure (wpAny_bind (wpAny_pure (wpAny_pure h)))
theorem kitx_excD (hga : findIn K (.ref D) "__getattribute__" = some (some (.builtin "BaseException.__getattribute__"))) (hgt : findIn K (.ref D) "__getattr__" = some none) (hsub : subIn K (.ref D) (.type "BaseException") = some true) (hdct : hasDictIn K D = true) (ha : findIn K (.ref D) "__class__" = some (some (.builtin "object.__class__")))
    (hn : specialIn K (.builtin "object.__class__") "__get__" = some (some (.builtin "getset_descriptor.__get__"))) (htk : takesIn K (.builtin "object.__class__") = some true) (hm : mroIn K D (.type "object") = some true) :
    KitX K (.ref x) (.ref D) (fun h => InstAt h x ox D (some od)) where
  ty := fun _ _ _ I => I.type
  it := fun _ _ X _ => by
    obtain ⟨cdD, hcD, _⟩ := any_some hdct
    unfold clsIn at hcD
    split at hcD
    · rename_i c' d' cd' sl' ho
      intro A' Q' E' s' k q
      unfold isType loadHead
      exact wpAny_bind (wpAny_loadPart (k _ _ (X _ _ ho)) (wpAny_pure q))
    · cases hcD
  ne := (handS_kitx_exc (x := x) (ox := ox) hga hgt hsub hdct ha hn htk hm).ne
  ca := fun X I k => kin_classED hga hgt hsub hdct ha hn htk hm X I k
end
end PySem.W
namespace Jo
open PySem L2
/-- isinstance(e, c), e the caught error, its dict at dd -/
def rIsED (K : PySem.W.Frag) (D a dd : Addr) : List V → Hp → VK → Prop := fun xs H Q => ∃ (c : V) (cv : Value) (b : Bool), xs = [.ref a, c] ∧ (∀ u, RelV c u → u = cv) ∧ PySem.W.kitOne K (.ref D) cv = some b ∧ (∃ kvs, H dd = some (.xd kvs)) ∧ Q (.bl b) H
theorem call_isED {X : Cx} {a D dd : Addr} {oe : Obj} {pn : List (Addr × Obj)} (C : ExcC X.K D) (hz : Zc (.ref D) (some dd) oe) (hf : ∃ vs, oe.data = .fields vs) : CallR (X.suite a ((a, oe) :: pn)) (.builtin "isinstance") (rIsED X.K D a dd) := by
  intro pins s σ H xs us Q I r h
  obtain ⟨c, cv, b, rfl, hcv, e, ⟨kvs, hx⟩, q⟩ := h
  cases r with
  | cons rx rr =>
    cases rr with
    | cons rt rr =>
      cases rr
      cases rx
      have ec := hcv _ rt
      subst ec
      obtain ⟨hget, _⟩ := I.pin (a, oe) (List.mem_append.mpr (.inl List.mem_cons_self))
      obtain ⟨vs, hv⟩ := hf
      obtain ⟨mA, hns, hr⟩ := (I.hok dd _ hx : ObjOk X.prog X.w H s.heap dd (.xd kvs))
      obtain ⟨od, ho, hl⟩ := lookIn_ns hns
      have J : PySem.W.InstAt s.heap a oe D (some od) := ⟨hget, hz.1, by unfold PySem.W.notCls; rw [hv] <;> rfl, by rw [hz.2]; exact ho⟩
      exact PySem.W.kia_one (PySem.W.kitx_excD C.hg C.hk C.hs C.hd C.ha C.hn C.ht C.hm) I.kIn J e (fun z => nomatch z) fun tk => ⟨.bl b, H, I.kept (t' := tk) fun _ _ z => z, rfl, q⟩
def eIsX (i : Nat) (b : Bool) : Fe T := fun η => match η[i]? with
  | some (some (.ex _ _)) => .ok (.bl b) η
  | _ => .bad
theorem ev_isED {X : Cx} {a D dd : Addr} {oe : Obj} {pn : List (Addr × Obj)} {W : XW} {i : Nat} {x n : Str} {b : Bool} {cv : Value} {c : Expr} {p p2 pos : Pos} (C : ExcC X.K D) (hz : Zc (.ref D) (some dd) oe) (hf : ∃ vs, oe.data = .fields vs) (hx : x = "isinstance") (hg : Gl X x) (hm : X.mg x = none)
    (hv : PE (X.suite a ((a, oe) :: pn)) (.Name n p2) (tVar i)) (hc : ClsE (X.suite a ((a, oe) :: pn)) c cv) (hk : PySem.W.kitOne X.K (.ref D) cv = some b)
    (he : starEach (.Name n p2 :: [c]) X.env = (false, eval (.Name n p2) X.env) :: starEach [c] X.env := by rfl) (he2 : starEach [c] X.env = (false, eval c X.env) :: starEach [] X.env := by rfl) (hpl : (backTo pos (starEach [c] X.env)).any (·.1) = false := by rfl) :
    EEm (X.suite a ((a, oe) :: pn)) (mEd X.mg a dd) W (.Call (.Name x p) [.Name n p2, c] [] pos) (eIsX i b) := by
  subst hx
  obtain ⟨v, hp, hr⟩ := hc.h
  exact PE.imp (pe_callB (X := X.suite a ((a, oe) :: pn)) (call_isED C hz hf) hg hm PyProof.Rows.boot_isinstance (pa_cons hv (pa_cons hp pa_nil he2) he) (by decide) (by decide) he hpl) fun σ H Q ⟨F, η, A, S, q⟩ => by
    unfold eIsX at q
    split at q
    · rename_i ks ts es
      obtain ⟨v1, B, C1, h1, h2, _⟩ := S.env.take es
      obtain ⟨a1, d1, fs, rfl, g1, g2, h3, h4, h5⟩ := h2.ex_inv
      rw [mEd_exc] at g1
      cases g1
      rw [mEd_dct] at g2
      cases g2
      exact ⟨_, h1, v, cv, b, rfl, hr, hk, ⟨fs, S.sub _ _ h3⟩, q F H A A0 (.bl b) S (.frz (.bl b)) Good.a0 (fun _ _ x => x) (Step.refl.weak (fun _ x => x) fun p x => x.elim id fun y => y.elim)⟩
    · exact q.elim
/-! ### walking through them -/
theorem r_raiseK {c : Str} {fs r1 : List Str} {ks : List AK} {η η1 : Env} {as : List (Sum Nat T)} {ts r2 : List T} (h : argsF ks η = .ok as η1) (h2 : valsOf as = some ts) (hz : ts.all scl = true) (hl : ts.length = fs.length) (hf : fs ≠ []) (hl2 : ts.length ≤ 900) (h3 : fs.reverse = r1) (h4 : ts.reverse = r2) : sRaiseK c fs ks η = .exc c r1 r2 η1 := by
  subst h3 h4
  unfold sRaiseK
  rw [h]
  simp only [Res.bind, h2]
  rw [if_pos ⟨hz, hl, hf, hl2⟩]
theorem r_tryNF {fb : Fs} {i : Nat} {bs : List Bool} {hs : List (Str × List Str × Fs)} {η η1 : Env} {fl : Fl} (h : fb η = .ok fl η1) : sTryF fb i bs hs η = .ok fl η1 := by
  unfold sTryF
  rw [h]
theorem r_tryXF {fb h : Fs} {i : Nat} {bs : List Bool} {hs : List (Str × List Str × Fs)} {η η1 η2 η3 : Env} {c : Str} {ks : List Str} {fs : List T} (hb : fb η = .exc c ks fs η1) (hl : hs.lookup c = some (ks, h)) (hsc : fs.all scl = true) (hq : h (locX bs.length i ks fs) = .ok .nx η2) (h3 : (mixE bs η1 η2).set i none = η3) : sTryF fb i bs hs η = .ok .nx η3 := by
  subst h3
  unfold sTryF
  rw [hb]
  simp only [hl, hsc, and_self, if_true, hq]
theorem r_xf {i : Nat} {f : Str} {η : Env} {ks : List Str} {ts : List T} {t : T} (h : η[i]? = some (some (.ex ks ts))) (l : (ks.zip ts).lookup f = some t) : eXf i f η = .ok t η := by
  unfold eXf
  rw [h]
  simp only [l]
theorem r_isX {i : Nat} {b : Bool} {η : Env} {ks : List Str} {ts : List T} (h : η[i]? = some (some (.ex ks ts))) : eIsX i b η = .ok (.bl b) η := by
  unfold eIsX
  rw [h]

/-! ### an object whose __init__ may raise -/
end Jo
namespace L2
open PySem PySem.Spec PyProof.Rows
section
variable {X : Cx} {CX : CXT} {k : Nat} {f C : Addr} {fd : FuncData} {ps : List Str} {sp : Sp} {dvs : List V} {ds : List Value} {E : St → XK} {x : Str} {p pos : Pos} {e : Expr} {es : List Expr} {t : TA}
theorem run_makeS {pins : List (Addr × Obj)} {σ : St} {H : Hp} {s : Shared} {Q : VK} {us : List Value} {vs : List V} (M : Mk X.K C f) (F : FnOk X.prog X.w X.K X.mg X.base CX k f fd ps sp) (hr : Room (k + 1) X.A) (hb : Binds X.K fd ps ds) (hd : Vals dvs ds)
    (hx : PassesAt CX X σ (E σ)) (I : Inv X pins σ H s) (r : Vals vs us)
    (h : ∀ x dx, H x = none → H dx = none → dx ≠ x → sp (.ref x :: (vs ++ dvs)) (upd (upd H dx (.own x)) x (.ins C dx [])) (fun v H2 => v = .non ∧ Q (.ref x) H2) (E σ)) :
    wpAny (model X.prog X.w) X.A (call (.ref C) us) (EP X pins σ Q) X.xe s := by
  have hq := h (s.heap.objs.size + 1) s.heap.objs.size (I.hok.fresh (Nat.le_succ _)) (I.hok.fresh (Nat.le_refl _)) (Nat.ne_of_lt (Nat.lt_succ_self _))
  have I2 := Inv.made (C := C) I
  have r2 : Vals (V.ref (s.heap.objs.size + 1) :: (vs ++ dvs)) (Value.ref (s.heap.objs.size + 1) :: (us ++ ds)) := .cons rfl (r.append hd)
  have hl : (Value.ref (s.heap.objs.size + 1) :: us ++ ds).length = ps.length := by
    have e := r2.length
    rw [F.len _ _ _ _ hq] at e
    exact e.symm
  refine wpAny_call (make_map (f := f) I.kIn M.makes M.init (beq_iff_eq.mp M.fn) (codeAny_mono (F.run _ X.stack _ _ ⟨Value.ref (s.heap.objs.size + 1) :: us, []⟩ (Value.ref (s.heap.objs.size + 1) :: (us ++ ds)) _ _ (E σ) (hr.make C us [])
    (I2.env0.make C us []) (hb _ (Value.ref (s.heap.objs.size + 1) :: us) I2.kIn hl) r2 hq) fun r s' hq' => ?_))
  cases r with
  | error e => exact hx pins _ _ e s' I2 hq'
  | ok fl =>
    cases fl with
    | ret u =>
      obtain ⟨v, H', I3, rv, ev, q3⟩ := I2.after hq'
      subst ev
      exact ⟨rv, ⟨V.ref (s.heap.objs.size + 1), H', I3, rfl, q3⟩⟩
    | next => exact False.elim hq'
    | brk => exact False.elim hq'
    | cont => exact False.elim hq'
theorem pe_makeS (M : Mk X.K C f) (F : FnOk X.prog X.w X.K X.mg X.base CX k f fd ps sp) (hr : Room (k + 1) X.A) (hg : Gl X x) (hm : X.mg x = some (.ref C)) (hb : Binds X.K fd ps ds) (hd : Vals dvs ds) (hx : ∀ σ, PassesAt CX X σ (E σ))
    (ha : PA X (e :: es) t) (hdb : (x == ("__debug__" : Str)) = false := by decide) (he : starEach (e :: es) X.env = (false, eval e X.env) :: starEach es X.env := by rfl) (hpl : (backTo pos (starEach es X.env)).any (·.1) = false := by rfl) :
    PE X (.Call (.Name x p) (e :: es) [] pos) (fun σ H Q => tMake C sp dvs (E σ) t σ H Q) := by
  refine ⟨fun pins s σ H Q I h => ?_⟩
  refine wpAny_Call_Name_kw (ld_glob I hg hm ?_ hdb)
  refine PySem.W.callWith_K (h₀ := X.base) I.ok.mod.kin M.kp (thn (ha.run pos pins s σ H _ I h) fun us s1 ⟨vs, H1, I1, r, q⟩ => ⟨I1.kIn, ?_⟩) he hpl
  exact run_makeS M F hr hb hd (hx σ) I1 r q
end
end L2
namespace Jo
open PySem L2
def eMakeX (c : Str) (f : Fn) (ks : List AK) : Fe T := fun η => (argsF ks η).bind fun as η1 => match resolve as η1 with
  | some (ts, η2) => match f (.ins true c [] [] :: ts) with
    | .ok .non [t] => .ok t η2
    | .exc c kk fs _ => .exc c kk fs η2
    | _ => .bad
  | none => .bad
section
variable {X : Cx} {W : XW} {k n : Nat} {fI C : Addr} {fd : FuncData} {ps : List Str} {fn : Fn} {x : Str} {p pos : Pos} {e : Expr} {es : List Expr} {ks : List AK}
theorem make_seqX (hm : X.mg x = some (.ref C)) (hn : ks.length + 1 = n) {σ : St} {H : Hp} {Q : VK} (h : tE X W (eMakeX x fn ks) σ H Q) : tMake C (spOf X.K X.mg [0] n fn) [] (WE W σ) (tA X W (argsF ks)) σ H Q := by
  refine tG.seqE h fun F1 η1 A1 B1 as vs H1 F A S1 ra g1 d1 st1 q ⟨η0, qe⟩ => ?_
  intro y dx ny ndx nex
  cases e1 : resolve as η1 with
  | none => rw [e1] at q; exact q.elim
  | some pr =>
    obtain ⟨ts, η2⟩ := pr
    rw [e1] at q
    simp only at q
    obtain ⟨A', B', n1, o1, d2, m1, m2⟩ := resolve_ok S1.env ra d1 e1
    have gB : Good F1 H1 B' := (S1.good.un g1).mono m2
    have gA : Good F1 H1 A' := S1.good.mono m1
    -- the new object
    have sm : Same H1 (upd (upd H1 dx (.own y)) y (.ins C dx [])) := fun b o z => by rw [upd_ne (ne_of_none z ny), upd_ne (ne_of_none z ndx)]; exact z
    have fy : F1 y = none := by
      cases z : F1 y with
      | none => rfl
      | some u => rw [S1.sub _ _ z] at ny; cases ny
    have ngB : ∀ b, B' b → b ≠ y := fun b z1 z2 => (gB b z1).2 (by rw [z2]; exact ny)
    have ngA : ∀ b, A' b → b ≠ y := fun b z1 z2 => (gA b z1).2 (by rw [z2]; exact ny)
    have up : ∀ {b : Addr}, H1 b ≠ none → (upd (upd H1 dx (.own y)) y (.ins C dx [])) b ≠ none := fun {b} z w => by
      cases z2 : H1 b with
      | none => exact z z2
      | some u => rw [sm _ _ z2] at w; cases w
    refine ⟨by rw [List.append_nil, List.length_cons, ra.length, argsF_len qe, hn], F1, .ins true x [] [] :: ts, Un2 (fun b => b = y) B', fun b o z => sm b o (S1.sub b o z), fun b z => ?_, ?_, ?_⟩
    · rcases z with z | z
      · subst z; exact ⟨fy, by rw [upd_same]; exact fun w => nomatch w⟩
      · exact ⟨(gB b z).1, up (gB b z).2⟩
    · rw [List.append_nil]
      exact .cons (B := fun b => b = y) (C := B') (.ins (B := A0) upd_same hm rfl .nil rfl (fun z => z) fun _ z => z.elim) (OwnL.mono (fun _ _ z => z) _ _ _ _ o1 (fun b o _ z => sm b o z) fun _ z => z) (fun b z1 z2 => ngB b z2 z1) (fun _ z => .inl z) fun _ z => .inr z
    cases e2 : fn (.ins true x [] [] :: ts) with
    | bad => rw [e2] at q; exact q.elim
    | exc c kk fs us =>
      rw [e2] at q
      simp only at q
      intro F' H' B'' cls d s gb oo st ex
      have gA2 : Good F1 (upd (upd H1 dx (.own y)) y (.ins C dx [])) A' := fun b z => ⟨(gA b z).1, up (gA b z).2⟩
      obtain ⟨gA', dA', kA'⟩ := st.frame gA2 fun b z1 z2 => z1.elim (fun w => ngA b z2 w) fun w => d2 b z2 w
      have n2 : EnvO X.K X.mg F' H' σ η2 A' := n1.mono st.sub (fun b o z w => kA' b o z (sm b o w)) fun _ z => z
      refine q F' H' A' cls d ⟨s, gA', n2⟩ ?_ ex
      refine st1.trans ⟨fun b o nb w => st.keep b o (fun z => z.elim (fun w2 => ?_) fun w2 => nb (m2 b w2)) (sm b o w), st.sub, fun b o w => ?_, fun b z => .inl (.inl (m1 b z))⟩
      · rw [w2, ny] at w; cases w
      · rcases st.newF b o w with w | w
        · exact .inl w
        · rcases w with (w | w) | w
          · right; right; rw [w]; exact ny
          · exact .inr (.inl (m2 b w))
          · right; right
            cases z2 : H1 b with
            | none => rfl
            | some u => rw [sm _ _ z2] at w; cases w
    | ok t us =>
      rw [e2] at q
      cases t <;> try exact q.elim
      cases us with
      | nil => exact q.elim
      | cons t us =>
        cases us with
        | cons _ _ => exact q.elim
        | nil =>
          simp only at q
          intro F' H' B'' Cp v s gb gc oo ov dd st
          refine ⟨by cases ov with | frz r => cases r; rfl, ?_⟩
          obtain ⟨z, ez, oz⟩ := oo.one
          cases ez
          have gA2 : Good F1 (upd (upd H1 dx (.own y)) y (.ins C dx [])) A' := fun b z => ⟨(gA b z).1, up (gA b z).2⟩
          obtain ⟨gA', dA', kA'⟩ := st.frame gA2 fun b z1 z2 => z1.elim (fun w => ngA b z2 w) fun w => d2 b z2 w
          have n2 : EnvO X.K X.mg F' H' σ η2 A' := n1.mono st.sub (fun b o z w => kA' b o z (sm b o w)) fun _ z => z
          refine q F' H' A' B'' (.ref y) ⟨s, gA', n2⟩ oz gb (fun b z1 z2 => dA' b (.inl z2) z1) ?_
          refine st1.trans ⟨fun b o nb w => st.keep b o (fun z => z.elim (fun w2 => ?_) fun w2 => nb (m2 b w2)) (sm b o w), st.sub, fun b o w => ?_, fun b z => ?_⟩
          · rw [w2, ny] at w; cases w
          · rcases st.newF b o w with w | w
            · exact .inl w
            · rcases w with (w | w) | w
              · right; right; rw [w]; exact ny
              · exact .inr (.inl (m2 b w))
              · right; right
                cases z2 : H1 b with
                | none => rfl
                | some u => rw [sm _ _ z2] at w; cases w
          · rcases z with z | z
            · exact .inl (.inl (m1 b z))
            · rcases st.newA b (.inl z) with w | w
              · rcases w with w | w
                · right; rw [w]; exact ny
                · exact .inl (m2 b w)
              · right
                cases z2 : H1 b with
                | none => rfl
                | some u => rw [sm _ _ z2] at w; cases w
theorem ev_makeX (M : Mk X.K C fI) (F : FnOk X.prog X.w X.K X.mg X.base (L2.CX X.prog X.w) k fI fd ps (spOf X.K X.mg [0] n fn)) (hr : Room (k + 1) X.A) (hg : Gl X x) (hm : X.mg x = some (.ref C)) (hb : Binds X.K fd ps []) (tk : Takes X W) (hn : ks.length + 1 = n)
    (ha : EAs X W (e :: es) ks) (hdb : (x == ("__debug__" : Str)) = false := by decide) (he : starEach (e :: es) X.env = (false, eval e X.env) :: starEach es X.env := by rfl) (hpl : (backTo pos (starEach es X.env)).any (·.1) = false := by rfl) :
    EE X W (.Call (.Name x p) (e :: es) [] pos) (eMakeX x fn ks) :=
  PE.imp (pe_makeS M F hr hg hm hb .nil (fun σ => passAt tk σ) ha hdb he hpl) fun σ H Q q => make_seqX hm hn q
end
theorem r_makeX {c : Str} {f : Fn} {ks : List AK} {η η1 η2 : Env} {as : List (Sum Nat T)} {ts us : List T} {t : T} (h : argsF ks η = .ok as η1) (h2 : resolve as η1 = some (ts, η2)) (h3 : f (.ins true c [] [] :: ts) = .ok .non [t]) : eMakeX c f ks η = .ok t η2 := by
  unfold eMakeX
  rw [h]
  simp only [Res.bind, h2, h3]
theorem r_makeXX {c c' : Str} {f : Fn} {ks : List AK} {η η1 η2 : Env} {as : List (Sum Nat T)} {ts us fs : List T} {kk : List Str} (h : argsF ks η = .ok as η1) (h2 : resolve as η1 = some (ts, η2)) (h3 : f (.ins true c [] [] :: ts) = .exc c' kk fs us) : eMakeX c f ks η = .exc c' kk fs η2 := by
  unfold eMakeX
  rw [h]
  simp only [Res.bind, h2, h3]
theorem r_tupX {k : AK} {ks : List AK} {η η1 : Env} {c : Str} {kk : List Str} {fs : List T} (h : argsF (k :: ks) η = .exc c kk fs η1) : eTup (k :: ks) η = .exc c kk fs η1 := by
  unfold eTup
  rw [h]
  rfl
theorem argsX_v {f : Fe T} {ks : List AK} {η η1 η2 : Env} {t : T} {c : Str} {kk : List Str} {fs : List T} (h : f η = .ok t η1) (h2 : argsF ks η1 = .exc c kk fs η2) : argsF (.v f :: ks) η = .exc c kk fs η2 := by
  show aVal f (argsF ks) η = _
  unfold aVal
  rw [h]
  show (argsF ks η1).bind _ = _
  rw [h2]
  rfl
theorem argsX_0 {f : Fe T} {ks : List AK} {η η2 : Env} {c : Str} {kk : List Str} {fs : List T} (h : f η = .exc c kk fs η2) : argsF (.v f :: ks) η = .exc c kk fs η2 := by
  show aVal f (argsF ks) η = _
  unfold aVal
  rw [h]
  rfl

end Jo
set_option maxHeartbeats 40000000
namespace Jo
open PySem L2
def top (i : Nat) : Stmt := PySem.Challenge.pw_joinshelf_k01_batches_and_feeds_judged.main.body.getD i (.Pass ⟨0, 0, 0, 0⟩)
abbrev st_BadFeed_init : Stmt := inClass (top 2) 0
abbrev st_is_integer : Stmt := top 4
abbrev st_is_within : Stmt := top 5
abbrev st_is_pair : Stmt := top 6
abbrev st_is_ascending : Stmt := top 7
abbrev st_is_key : Stmt := top 12
abbrev st_is_told : Stmt := top 13
abbrev st_is_batch : Stmt := top 14
abbrev st_Feed_init : Stmt := inClass (top 15) 0
abbrev st__law_hand : Stmt := top 17
abbrev st__law_draw : Stmt := top 18
abbrev st__law_is : Stmt := top 19
abbrev st__law_flag : Stmt := top 20
abbrev st__law_deep : Stmt := top 21
abbrev st__law_batch : Stmt := top 22
abbrev st__law_batches : Stmt := top 23
abbrev st__law_kept : Stmt := top 24
abbrev st__law_is_integer : Stmt := top 25
abbrev st__law_is_batch : Stmt := top 26
abbrev st__law_due : Stmt := top 27
abbrev st__law_bent_batch : Stmt := top 28
abbrev st__law_many : Stmt := top 29
abbrev st__law_word : Stmt := top 30
abbrev st__law_bent_feed : Stmt := top 31
abbrev st_law : Stmt := top 32
structure Fx (K : PySem.W.Frag) (mg : Str → Option Value) where
  a_Feed : Addr
  g_Feed : mg "Feed" = some (.ref a_Feed)
  i_Feed_batches : InsC K mg "Feed" "batches"
  i_Feed_kept : InsC K mg "Feed" "kept"
  n7_Feed : NoTy7 K a_Feed
  x_BadFeed : Addr
  x_ShelfError : Addr
  xg_BadFeed : mg "BadFeed" = some (.ref x_BadFeed)
  xg_ShelfError : mg "ShelfError" = some (.ref x_ShelfError)
  o_BadFeed : OexC K x_BadFeed
  xf_BadFeed : XfC K x_BadFeed
  nf_BadFeed_part : PySem.W.findIn K (.ref x_BadFeed) "part" = some none
  nf_BadFeed_at : PySem.W.findIn K (.ref x_BadFeed) "at" = some none
  z_exc : mg excN = none
  xc_BadFeed : ExcC K x_BadFeed
  em_BadFeed_ShelfError : PySem.W.exmOne K (.ref x_BadFeed) (.ref x_ShelfError) = some true
  kt_BadFeed_BadFeed : PySem.W.kitOne K (.ref x_BadFeed) (.ref x_BadFeed) = some true
  kt_BadFeed_ValueError : PySem.W.kitOne K (.ref x_BadFeed) (.type "ValueError") = some true
  a_BadFeed_init : Addr
  fd_BadFeed_init : FuncData
  F_BadFeed_init : Fun K "__init__" "BadFeed.__init__" st_BadFeed_init a_BadFeed_init fd_BadFeed_init
  b_BadFeed_init : Binds K fd_BadFeed_init ["self", "part", "at"] []
  ix_BadFeed : PySem.W.findIn K (.ref x_BadFeed) "__init__" = some (some (.ref a_BadFeed_init))
  tx_BadFeed : PySem.W.typeIn K (.ref a_BadFeed_init) = some (.type "function")
  a_is_integer : Addr
  fd_is_integer : FuncData
  F_is_integer : Fun K "is_integer" "is_integer" st_is_integer a_is_integer fd_is_integer
  b_is_integer : Binds K fd_is_integer ["thing"] []
  g_is_integer : mg "is_integer" = some (.ref a_is_integer)
  k_is_integer : PySem.W.keepIn K (.ref a_is_integer) = true
  a_is_within : Addr
  fd_is_within : FuncData
  F_is_within : Fun K "is_within" "is_within" st_is_within a_is_within fd_is_within
  b_is_within : Binds K fd_is_within ["thing", "least", "most"] []
  g_is_within : mg "is_within" = some (.ref a_is_within)
  k_is_within : PySem.W.keepIn K (.ref a_is_within) = true
  a_is_pair : Addr
  fd_is_pair : FuncData
  F_is_pair : Fun K "is_pair" "is_pair" st_is_pair a_is_pair fd_is_pair
  b_is_pair : Binds K fd_is_pair ["thing"] []
  g_is_pair : mg "is_pair" = some (.ref a_is_pair)
  k_is_pair : PySem.W.keepIn K (.ref a_is_pair) = true
  a_is_ascending : Addr
  fd_is_ascending : FuncData
  F_is_ascending : Fun K "is_ascending" "is_ascending" st_is_ascending a_is_ascending fd_is_ascending
  b_is_ascending : Binds K fd_is_ascending ["thing", "least", "most"] []
  g_is_ascending : mg "is_ascending" = some (.ref a_is_ascending)
  k_is_ascending : PySem.W.keepIn K (.ref a_is_ascending) = true
  a_is_key : Addr
  fd_is_key : FuncData
  F_is_key : Fun K "is_key" "is_key" st_is_key a_is_key fd_is_key
  b_is_key : Binds K fd_is_key ["thing"] []
  g_is_key : mg "is_key" = some (.ref a_is_key)
  k_is_key : PySem.W.keepIn K (.ref a_is_key) = true
  a_is_told : Addr
  fd_is_told : FuncData
  F_is_told : Fun K "is_told" "is_told" st_is_told a_is_told fd_is_told
  b_is_told : Binds K fd_is_told ["thing"] []
  g_is_told : mg "is_told" = some (.ref a_is_told)
  k_is_told : PySem.W.keepIn K (.ref a_is_told) = true
  a_is_batch : Addr
  fd_is_batch : FuncData
  F_is_batch : Fun K "is_batch" "is_batch" st_is_batch a_is_batch fd_is_batch
  b_is_batch : Binds K fd_is_batch ["thing"] []
  g_is_batch : mg "is_batch" = some (.ref a_is_batch)
  k_is_batch : PySem.W.keepIn K (.ref a_is_batch) = true
  a_Feed_init : Addr
  fd_Feed_init : FuncData
  F_Feed_init : Fun K "__init__" "Feed.__init__" st_Feed_init a_Feed_init fd_Feed_init
  b_Feed_init : Binds K fd_Feed_init ["self", "batches", "kept"] []
  M_Feed : Mk K a_Feed a_Feed_init
  a__law_hand : Addr
  fd__law_hand : FuncData
  F__law_hand : Fun K "_law_hand" "_law_hand" st__law_hand a__law_hand fd__law_hand
  b__law_hand : Binds K fd__law_hand ["_law_script"] []
  g__law_hand : mg "_law_hand" = some (.ref a__law_hand)
  k__law_hand : PySem.W.keepIn K (.ref a__law_hand) = true
  a__law_draw : Addr
  fd__law_draw : FuncData
  F__law_draw : Fun K "_law_draw" "_law_draw" st__law_draw a__law_draw fd__law_draw
  b__law_draw : Binds K fd__law_draw ["_law_hand_here", "_law_many_here"] []
  g__law_draw : mg "_law_draw" = some (.ref a__law_draw)
  k__law_draw : PySem.W.keepIn K (.ref a__law_draw) = true
  a__law_is : Addr
  fd__law_is : FuncData
  F__law_is : Fun K "_law_is" "_law_is" st__law_is a__law_is fd__law_is
  b__law_is : Binds K fd__law_is ["_law_told", "_law_due_here"] []
  g__law_is : mg "_law_is" = some (.ref a__law_is)
  k__law_is : PySem.W.keepIn K (.ref a__law_is) = true
  a__law_flag : Addr
  fd__law_flag : FuncData
  F__law_flag : Fun K "_law_flag" "_law_flag" st__law_flag a__law_flag fd__law_flag
  b__law_flag : Binds K fd__law_flag ["_law_told", "_law_due_here"] []
  g__law_flag : mg "_law_flag" = some (.ref a__law_flag)
  k__law_flag : PySem.W.keepIn K (.ref a__law_flag) = true
  a__law_deep : Addr
  fd__law_deep : FuncData
  F__law_deep : Fun K "_law_deep" "_law_deep" st__law_deep a__law_deep fd__law_deep
  b__law_deep : Binds K fd__law_deep ["_law_hand_here"] []
  g__law_deep : mg "_law_deep" = some (.ref a__law_deep)
  k__law_deep : PySem.W.keepIn K (.ref a__law_deep) = true
  a__law_batch : Addr
  fd__law_batch : FuncData
  F__law_batch : Fun K "_law_batch" "_law_batch" st__law_batch a__law_batch fd__law_batch
  b__law_batch : Binds K fd__law_batch ["_law_hand_here", "_law_keys", "_law_most"] []
  g__law_batch : mg "_law_batch" = some (.ref a__law_batch)
  k__law_batch : PySem.W.keepIn K (.ref a__law_batch) = true
  a__law_batches : Addr
  fd__law_batches : FuncData
  F__law_batches : Fun K "_law_batches" "_law_batches" st__law_batches a__law_batches fd__law_batches
  b__law_batches : Binds K fd__law_batches ["_law_hand_here", "_law_hours", "_law_keys", "_law_most"] []
  g__law_batches : mg "_law_batches" = some (.ref a__law_batches)
  k__law_batches : PySem.W.keepIn K (.ref a__law_batches) = true
  a__law_kept : Addr
  fd__law_kept : FuncData
  F__law_kept : Fun K "_law_kept" "_law_kept" st__law_kept a__law_kept fd__law_kept
  b__law_kept : Binds K fd__law_kept ["_law_hand_here", "_law_hours"] []
  g__law_kept : mg "_law_kept" = some (.ref a__law_kept)
  k__law_kept : PySem.W.keepIn K (.ref a__law_kept) = true
  a__law_is_integer : Addr
  fd__law_is_integer : FuncData
  F__law_is_integer : Fun K "_law_is_integer" "_law_is_integer" st__law_is_integer a__law_is_integer fd__law_is_integer
  b__law_is_integer : Binds K fd__law_is_integer ["_law_thing"] []
  g__law_is_integer : mg "_law_is_integer" = some (.ref a__law_is_integer)
  k__law_is_integer : PySem.W.keepIn K (.ref a__law_is_integer) = true
  a__law_is_batch : Addr
  fd__law_is_batch : FuncData
  F__law_is_batch : Fun K "_law_is_batch" "_law_is_batch" st__law_is_batch a__law_is_batch fd__law_is_batch
  b__law_is_batch : Binds K fd__law_is_batch ["_law_thing"] []
  g__law_is_batch : mg "_law_is_batch" = some (.ref a__law_is_batch)
  k__law_is_batch : PySem.W.keepIn K (.ref a__law_is_batch) = true
  a__law_due : Addr
  fd__law_due : FuncData
  F__law_due : Fun K "_law_due" "_law_due" st__law_due a__law_due fd__law_due
  b__law_due : Binds K fd__law_due ["_law_batches_here", "_law_kept_here"] []
  g__law_due : mg "_law_due" = some (.ref a__law_due)
  k__law_due : PySem.W.keepIn K (.ref a__law_due) = true
  a__law_bent_batch : Addr
  fd__law_bent_batch : FuncData
  F__law_bent_batch : Fun K "_law_bent_batch" "_law_bent_batch" st__law_bent_batch a__law_bent_batch fd__law_bent_batch
  b__law_bent_batch : Binds K fd__law_bent_batch ["_law_hand_here", "_law_batch_here", "_law_feed"] []
  g__law_bent_batch : mg "_law_bent_batch" = some (.ref a__law_bent_batch)
  k__law_bent_batch : PySem.W.keepIn K (.ref a__law_bent_batch) = true
  a__law_many : Addr
  fd__law_many : FuncData
  F__law_many : Fun K "_law_many" "_law_many" st__law_many a__law_many fd__law_many
  b__law_many : Binds K fd__law_many ["_law_hand_here"] []
  g__law_many : mg "_law_many" = some (.ref a__law_many)
  k__law_many : PySem.W.keepIn K (.ref a__law_many) = true
  a__law_word : Addr
  fd__law_word : FuncData
  F__law_word : Fun K "_law_word" "_law_word" st__law_word a__law_word fd__law_word
  b__law_word : Binds K fd__law_word ["_law_batches_here", "_law_kept_here"] []
  g__law_word : mg "_law_word" = some (.ref a__law_word)
  k__law_word : PySem.W.keepIn K (.ref a__law_word) = true
  a__law_bent_feed : Addr
  fd__law_bent_feed : FuncData
  F__law_bent_feed : Fun K "_law_bent_feed" "_law_bent_feed" st__law_bent_feed a__law_bent_feed fd__law_bent_feed
  b__law_bent_feed : Binds K fd__law_bent_feed ["_law_hand_here", "_law_batches_here", "_law_kept_here", "_law_feed"] []
  g__law_bent_feed : mg "_law_bent_feed" = some (.ref a__law_bent_feed)
  k__law_bent_feed : PySem.W.keepIn K (.ref a__law_bent_feed) = true
  a_law : Addr
  fd_law : FuncData
  F_law : Fun K "law" "law" st_law a_law fd_law
  b_law : Binds K fd_law ["_law_script"] []
  g_law : mg "law" = some (.ref a_law)
  k_law : PySem.W.keepIn K (.ref a_law) = true
  t_MOST_HOURS : Tok
  c_MOST_HOURS : mg "MOST_HOURS" = some (.int 40 t_MOST_HOURS)
  t_MOST_KEY : Tok
  c_MOST_KEY : mg "MOST_KEY" = some (.int 999 t_MOST_KEY)
  t_MOST_PAIRS : Tok
  c_MOST_PAIRS : mg "MOST_PAIRS" = some (.int 60 t_MOST_PAIRS)
  z_ValueError : mg "ValueError" = none
  z_abs : mg "abs" = none
  z_all : mg "all" = none
  z_bool : mg "bool" = none
  z_enumerate : mg "enumerate" = none
  z_int : mg "int" = none
  z_isinstance : mg "isinstance" = none
  z_len : mg "len" = none
  z_list : mg "list" = none
  z_range : mg "range" = none
  z_set : mg "set" = none
  z_sorted : mg "sorted" = none
  z_tuple : mg "tuple" = none
  z_zip : mg "zip" = none
theorem kitNo {K : PySem.W.Frag} {C : Addr} (h : ∀ b : Ty7, PySem.W.subIn K (.ref C) (.type b.nm) = some false) (b : Ty7) : PySem.W.kitOne K (.ref C) (.type b.nm) = some false := by
  have e : (Value.ref C == Value.type b.nm) = false := by cases b <;> rfl
  have m : PySem.W.kitMeta b.nm = true := by cases b <;> decide +kernel
  unfold PySem.W.kitOne
  rw [if_neg (by rw [e]; exact Bool.false_ne_true)]
  show (if PySem.W.kitMeta b.nm = true then PySem.W.subIn K (.ref C) (.type b.nm) else none) = _
  rw [if_pos m]
  exact h b
section
variable {P : Program} {w : World} {K : PySem.W.Frag} {mg : Str → Option Value} {base : Heap}
abbrev N_BadFeed_init : List Str := ["self", "part", "at"]
theorem sc_BadFeed_init : FnScope N_BadFeed_init ["self", "part", "at"] (defScope st_BadFeed_init) := ⟨rfl, rfl, rfl, by decide +kernel, rfl, by decide +kernel, by decide +kernel⟩
theorem ok_BadFeed_init (x : Fx K mg) : FnOk P w K mg base (L2.CX P w) 1 x.a_BadFeed_init x.fd_BadFeed_init ["self", "part", "at"] (spIni K x.x_BadFeed ["part", "at"]) :=
  ini2_ok x.F_BadFeed_init sc_BadFeed_init rfl rfl x.nf_BadFeed_part x.nf_BadFeed_at fun cdv A outer s H E => pss_cons (ps_ost (pv 0) (pv 1)) (pss_one (ps_ost (pv 0) (pv 2)))

abbrev N_is_integer : List Str := ["thing"]
theorem sc_is_integer : FnScope N_is_integer ["thing"] (defScope st_is_integer) := ⟨rfl, rfl, rfl, by decide +kernel, rfl, by decide +kernel, by decide +kernel⟩
def fb_is_integer : Fs :=
    (sRet (eAndF (eOp [.s 0] (isiX "Feed" [.int])) (eNotF (eOp [.s 0] (isiX "Feed" [.bl])))))
def fn_is_integer : Fn := defF 1 [] fb_is_integer
theorem ok_is_integer (x : Fx K mg) : FnOk P w K mg base (L2.CX P w) 1 x.a_is_integer x.fd_is_integer ["thing"] (spOf K mg [] 1 fn_is_integer) :=
  def_ok (ms := []) (N := N_is_integer) (fb := fb_is_integer) x.F_is_integer sc_is_integer rfl rfl rfl (by decide) fun cdv A outer s H E hr => by
    have tk := takes_of (X := cxOf (L2.CX P w) P w K mg base N_is_integer "is_integer" (defScope st_is_integer) x.a_is_integer cdv A outer s H E) (E := E) rfl rfl rfl rfl
    have hp := passes_of (X := cxOf (L2.CX P w) P w K mg base N_is_integer "is_integer" (defScope st_is_integer) x.a_is_integer cdv A outer s H E) rfl
    exact (sss_one (ss_ret (ev_and (ev_isiX x.g_Feed x.n7_Feed rfl rfl x.z_isinstance (ek_s 0 (pv 0)) (tyn rfl x.z_int jb_int)) (ev_one (ev_not (ev_isiX x.g_Feed x.n7_Feed rfl rfl x.z_isinstance (ek_s 0 (pv 0)) (tyn rfl x.z_bool jb_bool)))))))

abbrev N_is_within : List Str := ["thing", "least", "most"]
theorem sc_is_within : FnScope N_is_within ["thing", "least", "most"] (defScope st_is_within) := ⟨rfl, rfl, rfl, by decide +kernel, rfl, by decide +kernel, by decide +kernel⟩
def fb_is_within : Fs :=
    (sRet (eAndF (eCall fn_is_integer [] [.v (eVar 0)]) (eChain (.s 1) (.s 0) (.s 2) (fun i j => decide (i ≤ j)) (fun i j => decide (i ≤ j)))))
def fn_is_within : Fn := defF 3 [] fb_is_within
theorem ok_is_within (x : Fx K mg) : FnOk P w K mg base (L2.CX P w) 2 x.a_is_within x.fd_is_within ["thing", "least", "most"] (spOf K mg [] 3 fn_is_within) :=
  def_ok (ms := []) (N := N_is_within) (fb := fb_is_within) x.F_is_within sc_is_within rfl rfl rfl (by decide) fun cdv A outer s H E hr => by
    have tk := takes_of (X := cxOf (L2.CX P w) P w K mg base N_is_within "is_within" (defScope st_is_within) x.a_is_within cdv A outer s H E) (E := E) rfl rfl rfl rfl
    have hp := passes_of (X := cxOf (L2.CX P w) P w K mg base N_is_within "is_within" (defScope st_is_within) x.a_is_within cdv A outer s H E) rfl
    exact (sss_one (ss_ret (ev_and (ev_call (ok_is_integer x) (hr.mono (by decide)) rfl x.g_is_integer x.k_is_integer x.b_is_integer tk rfl (eas_cons (ek_v (ev_var 0 (pv 0))) eas_nil)) (ev_one (ev_chain op_le op_le (ek_s 1 (pv 1)) (ek_s 0 (pv 0)) (ek_s 2 (pv 2)))))))

abbrev N_is_pair : List Str := ["thing"]
theorem sc_is_pair : FnScope N_is_pair ["thing"] (defScope st_is_pair) := ⟨rfl, rfl, rfl, by decide +kernel, rfl, by decide +kernel, by decide +kernel⟩
def fb_is_pair : Fs :=
    (sRet (eAndF (eOp [.s 0] (isiX "Feed" [.tup])) (eOp [.v (eOp [.s 0] lenO), .v (eC (.int 2))] (eqO false))))
def fn_is_pair : Fn := defF 1 [] fb_is_pair
theorem ok_is_pair (x : Fx K mg) : FnOk P w K mg base (L2.CX P w) 1 x.a_is_pair x.fd_is_pair ["thing"] (spOf K mg [] 1 fn_is_pair) :=
  def_ok (ms := []) (N := N_is_pair) (fb := fb_is_pair) x.F_is_pair sc_is_pair rfl rfl rfl (by decide) fun cdv A outer s H E hr => by
    have tk := takes_of (X := cxOf (L2.CX P w) P w K mg base N_is_pair "is_pair" (defScope st_is_pair) x.a_is_pair cdv A outer s H E) (E := E) rfl rfl rfl rfl
    have hp := passes_of (X := cxOf (L2.CX P w) P w K mg base N_is_pair "is_pair" (defScope st_is_pair) x.a_is_pair cdv A outer s H E) rfl
    exact (sss_one (ss_ret (ev_and (ev_isiX x.g_Feed x.n7_Feed rfl rfl x.z_isinstance (ek_s 0 (pv 0)) (tyn rfl x.z_tuple jb_tuple)) (ev_one (ev_cmp (op_eqD (hu64 hr)) opEq_ok (ek_v (ev_callB cr_len lenO_ok rfl x.z_len jb_len (eas_cons (ek_s 0 (pv 0)) eas_nil))) (ek_v ev_int) (nomark _))))))

abbrev N_is_ascending : List Str := ["thing", "least", "most", "last", "number"]
theorem sc_is_ascending : FnScope N_is_ascending ["thing", "least", "most"] (defScope st_is_ascending) := ⟨rfl, rfl, rfl, by decide +kernel, rfl, by decide +kernel, by decide +kernel⟩
def fb_is_ascending : Fs :=
    (sSeq (sIf (tNotF (tVal (eOp [.s 0] (isiX "Feed" [.tup])))) (sRet (eC (.bl false)))
    sSkip)
    (sSeq (sSet 3 (eOp [.s 1, .v (eC (.int 1))] opSub))
    (sSeq (sFor (iSeqF (eVar 0)) (tgN 4) (sSeq (sIf (tNotF (tVal (eCall fn_is_within [] [.v (eVar 4), .v (eOp [.s 3, .v (eC (.int 1))] opAdd), .v (eVar 2)]))) (sRet (eC (.bl false)))
    sSkip)
    (sSet 3 (eVar 4))))
    (sRet (eC (.bl true))))))
def fn_is_ascending : Fn := defF 5 [] fb_is_ascending
theorem ok_is_ascending (x : Fx K mg) : FnOk P w K mg base (L2.CX P w) 3 x.a_is_ascending x.fd_is_ascending ["thing", "least", "most"] (spOf K mg [] 3 fn_is_ascending) :=
  def_ok (ms := []) (N := N_is_ascending) (fb := fb_is_ascending) x.F_is_ascending sc_is_ascending rfl rfl rfl (by decide) fun cdv A outer s H E hr => by
    have tk := takes_of (X := cxOf (L2.CX P w) P w K mg base N_is_ascending "is_ascending" (defScope st_is_ascending) x.a_is_ascending cdv A outer s H E) (E := E) rfl rfl rfl rfl
    have hp := passes_of (X := cxOf (L2.CX P w) P w K mg base N_is_ascending "is_ascending" (defScope st_is_ascending) x.a_is_ascending cdv A outer s H E) rfl
    exact (sss_cons (ss_if (et_not (et_val (ev_isiX x.g_Feed x.n7_Feed rfl rfl x.z_isinstance (ek_s 0 (pv 0)) (tyn rfl x.z_tuple jb_tuple)))) (sss_one (ss_ret ev_bl))
    sss_nil)
    (sss_cons (ss_set (i := 3) sc_is_ascending.nd rfl (Or.inl rfl) rfl (ev_bin op_sub opSub_ok (ek_s 1 (pv 1)) (ek_v ev_int)))
    (sss_cons (ss_for hp rfl (si_seq (ev_var 0 (pv 0))) (sg_name (i := 4) sc_is_ascending.nd rfl (Or.inl rfl) rfl) (sss_cons (ss_if (et_not (et_val (ev_call (ok_is_within x) (hr.mono (by decide)) rfl x.g_is_within x.k_is_within x.b_is_within tk rfl (eas_cons (ek_v (ev_var 4 (pv 4))) (eas_cons (ek_v (ev_bin op_add4 opAdd_ok (ek_s 3 (pv 3)) (ek_v ev_int))) (eas_cons (ek_v (ev_var 2 (pv 2))) eas_nil)))))) (sss_one (ss_ret ev_bl))
    sss_nil)
    (sss_one (ss_set (i := 3) sc_is_ascending.nd rfl (Or.inl rfl) rfl (ev_var 4 (pv 4))))))
    (sss_one (ss_ret ev_bl)))))

abbrev N_is_key : List Str := ["thing"]
theorem sc_is_key : FnScope N_is_key ["thing"] (defScope st_is_key) := ⟨rfl, rfl, rfl, by decide +kernel, rfl, by decide +kernel, by decide +kernel⟩
def fb_is_key : Fs :=
    (sRet (eCall fn_is_within [] [.v (eVar 0), .v (eC (.int 0)), .v (eC (.int 999))]))
def fn_is_key : Fn := defF 1 [] fb_is_key
theorem ok_is_key (x : Fx K mg) : FnOk P w K mg base (L2.CX P w) 3 x.a_is_key x.fd_is_key ["thing"] (spOf K mg [] 1 fn_is_key) :=
  def_ok (ms := []) (N := N_is_key) (fb := fb_is_key) x.F_is_key sc_is_key rfl rfl rfl (by decide) fun cdv A outer s H E hr => by
    have tk := takes_of (X := cxOf (L2.CX P w) P w K mg base N_is_key "is_key" (defScope st_is_key) x.a_is_key cdv A outer s H E) (E := E) rfl rfl rfl rfl
    have hp := passes_of (X := cxOf (L2.CX P w) P w K mg base N_is_key "is_key" (defScope st_is_key) x.a_is_key cdv A outer s H E) rfl
    exact (sss_one (ss_ret (ev_call (ok_is_within x) (hr.mono (by decide)) rfl x.g_is_within x.k_is_within x.b_is_within tk rfl (eas_cons (ek_v (ev_var 0 (pv 0))) (eas_cons (ek_v ev_int) (eas_cons (ek_v (ev_globI rfl x.c_MOST_KEY)) eas_nil))))))

abbrev N_is_told : List Str := ["thing"]
theorem sc_is_told : FnScope N_is_told ["thing"] (defScope st_is_told) := ⟨rfl, rfl, rfl, by decide +kernel, rfl, by decide +kernel, by decide +kernel⟩
def fb_is_told : Fs :=
    (sRet (eAndF (eCall fn_is_pair [] [.v (eVar 0)]) (eAndF (eCall fn_is_key [] [.v (eOp [.s 0, .v (eC (.int 0))] ixO)]) (eOrF (eOp [.v (eOp [.s 0, .v (eC (.int 1))] ixO), .v (eC .non)] (isnO false)) (eCall fn_is_integer [] [.v (eOp [.s 0, .v (eC (.int 1))] ixO)])))))
def fn_is_told : Fn := defF 1 [] fb_is_told
theorem ok_is_told (x : Fx K mg) : FnOk P w K mg base (L2.CX P w) 4 x.a_is_told x.fd_is_told ["thing"] (spOf K mg [] 1 fn_is_told) :=
  def_ok (ms := []) (N := N_is_told) (fb := fb_is_told) x.F_is_told sc_is_told rfl rfl rfl (by decide) fun cdv A outer s H E hr => by
    have tk := takes_of (X := cxOf (L2.CX P w) P w K mg base N_is_told "is_told" (defScope st_is_told) x.a_is_told cdv A outer s H E) (E := E) rfl rfl rfl rfl
    have hp := passes_of (X := cxOf (L2.CX P w) P w K mg base N_is_told "is_told" (defScope st_is_told) x.a_is_told cdv A outer s H E) rfl
    exact (sss_one (ss_ret (ev_and (ev_call (ok_is_pair x) (hr.mono (by decide)) rfl x.g_is_pair x.k_is_pair x.b_is_pair tk rfl (eas_cons (ek_v (ev_var 0 (pv 0))) eas_nil)) (ev_and (ev_call (ok_is_key x) (hr.mono (by decide)) rfl x.g_is_key x.k_is_key x.b_is_key tk rfl (eas_cons (ek_v (ev_ix ix_seq opIx_ok (ek_s 0 (pv 0)) (ek_v ev_int) (fun _ _ => rfl))) eas_nil)) (ev_one (ev_or (ev_cmp op_isN opIsn_ok (ek_v (ev_ix ix_seq opIx_ok (ek_s 0 (pv 0)) (ek_v ev_int) (fun _ _ => rfl))) (ek_v ev_non) (nomark _)) (ev_one (ev_call (ok_is_integer x) (hr.mono (by decide)) rfl x.g_is_integer x.k_is_integer x.b_is_integer tk rfl (eas_cons (ek_v (ev_ix ix_seq opIx_ok (ek_s 0 (pv 0)) (ek_v ev_int) (fun _ _ => rfl))) eas_nil)))))))))

abbrev N_is_batch : List Str := ["thing", "pair"]
theorem sc_is_batch : FnScope N_is_batch ["thing"] (defScope st_is_batch) := ⟨rfl, rfl, rfl, by decide +kernel, rfl, by decide +kernel, by decide +kernel⟩
def fb_is_batch : Fs :=
    (sSeq (sIf (tOrF (tNotF (tVal (eOp [.s 0] (isiX "Feed" [.tup])))) (tOrF (tVal (eOp [.v (eOp [.s 0] lenO), .v (eC (.int 60))] opGt)) (tNotF (tVal (eOp [.v (eComp (iSeqF (eVar 0)) [1] (tgN 1) cYes (eCall fn_is_told [] [.v (eVar 1)]))] allO))))) (sRet (eC (.bl false)))
    sSkip)
    (sRet (eCall fn_is_ascending [] [.v (eOp [.v (eComp (iSeqF (eVar 0)) [1] (tgN 1) cYes (eOp [.s 1, .v (eC (.int 0))] ixO))] tupO), .v (eC (.int 0)), .v (eC (.int 999))])))
def fn_is_batch : Fn := defF 2 [] fb_is_batch
theorem ok_is_batch (x : Fx K mg) : FnOk P w K mg base (L2.CX P w) 5 x.a_is_batch x.fd_is_batch ["thing"] (spOf K mg [] 1 fn_is_batch) :=
  def_ok (ms := []) (N := N_is_batch) (fb := fb_is_batch) x.F_is_batch sc_is_batch rfl rfl rfl (by decide) fun cdv A outer s H E hr => by
    have tk := takes_of (X := cxOf (L2.CX P w) P w K mg base N_is_batch "is_batch" (defScope st_is_batch) x.a_is_batch cdv A outer s H E) (E := E) rfl rfl rfl rfl
    have hp := passes_of (X := cxOf (L2.CX P w) P w K mg base N_is_batch "is_batch" (defScope st_is_batch) x.a_is_batch cdv A outer s H E) rfl
    exact (sss_cons (ss_if (et_bo (ew_or (et_not (et_val (ev_isiX x.g_Feed x.n7_Feed rfl rfl x.z_isinstance (ek_s 0 (pv 0)) (tyn rfl x.z_tuple jb_tuple)))) (ew_or (et_cmp op_gt opGt_ok (ek_v (ev_callB cr_len lenO_ok rfl x.z_len jb_len (eas_cons (ek_s 0 (pv 0)) eas_nil))) (ek_v (ev_globI rfl x.c_MOST_PAIRS)) (nomark _)) (ew_or1 (et_not (et_val (ev_callB (cr_all rfl) allO_ok rfl x.z_all jb_all (eas_cons (ek_v (ev_comp (own := [("pair", 1)]) rfl rfl sc_is_batch.nd (si_seq (ev_var 0 (pv 0))) (blk_of rfl) rfl (fun _ _ _ _ _ => (sg_name (i := 1) sc_is_batch.nd rfl (by first | exact Or.inl rfl | exact Or.inr rfl) rfl)) (fun _ _ _ _ _ => sc_nil) (fun _ _ _ _ _ => (ev_call (ok_is_told x) (hr.mono (by decide)) rfl x.g_is_told x.k_is_told x.b_is_told takes0 rfl (eas_cons (ek_v (ev_var 1 (pv 1))) eas_nil))))) eas_nil)))))))) (sss_one (ss_ret ev_bl))
    sss_nil)
    (sss_one (ss_ret (ev_call (ok_is_ascending x) (hr.mono (by decide)) rfl x.g_is_ascending x.k_is_ascending x.b_is_ascending tk rfl (eas_cons (ek_v (ev_callTy call_tuple_of tupO_ok rfl x.z_tuple jb_tuple (eas_cons (ek_v (ev_comp (own := [("pair", 1)]) rfl rfl sc_is_batch.nd (si_seq (ev_var 0 (pv 0))) (blk_of rfl) rfl (fun _ _ _ _ _ => (sg_name (i := 1) sc_is_batch.nd rfl (by first | exact Or.inl rfl | exact Or.inr rfl) rfl)) (fun _ _ _ _ _ => sc_nil) (fun _ _ _ _ _ => (ev_ix ix_seq opIx_ok (ek_s 1 (pv 1)) (ek_v ev_int) (fun _ _ => rfl))))) eas_nil))) (eas_cons (ek_v ev_int) (eas_cons (ek_v (ev_globI rfl x.c_MOST_KEY)) eas_nil)))))))

abbrev N_Feed_init : List Str := ["self", "batches", "kept", "hour", "batch"]
theorem sc_Feed_init : FnScope N_Feed_init ["self", "batches", "kept"] (defScope st_Feed_init) := ⟨rfl, rfl, rfl, by decide +kernel, rfl, by decide +kernel, by decide +kernel⟩
def fb_Feed_init : Fs :=
    (sSeq (sIf (tOrF (tNotF (tVal (eOp [.s 1] (isiX "Feed" [.tup])))) (tNotF (tVal (eChain (.v (eC (.int 1))) (.v (eOp [.s 1] lenO)) (.v (eC (.int 40))) (fun i j => decide (i ≤ j)) (fun i j => decide (i ≤ j)))))) (sRaiseK "BadFeed" ["part", "at"] [.v (eC (.str "batches")), .v (eOp [.v (eC (.int 1))] negO)])
    sSkip)
    (sSeq (sFor (iEnumF (eVar 1)) (tgT [(tgN 3), (tgN 4)]) (sIf (tNotF (tVal (eCall fn_is_batch [] [.v (eVar 4)]))) (sRaiseK "BadFeed" ["part", "at"] [.v (eC (.str "batches")), .v (eVar 3)])
    sSkip))
    (sSeq (sIf (tNotF (tVal (eCall fn_is_ascending [] [.v (eVar 2), .v (eC (.int 0)), .v (eOp [.v (eOp [.s 1] lenO), .v (eC (.int 1))] opSub)]))) (sRaiseK "BadFeed" ["part", "at"] [.v (eC (.str "kept")), .v (eOp [.v (eC (.int 1))] negO)])
    sSkip)
    (sSeq (sSetF "Feed" "batches" (eVar 1) 0)
    (sSetF "Feed" "kept" (eVar 2) 0)))))
def fn_Feed_init : Fn := defF 5 [0] fb_Feed_init
theorem ok_Feed_init (x : Fx K mg) : FnOk P w K mg base (L2.CX P w) 6 x.a_Feed_init x.fd_Feed_init ["self", "batches", "kept"] (spOf K mg [0] 3 fn_Feed_init) :=
  def_ok (ms := [0]) (N := N_Feed_init) (fb := fb_Feed_init) x.F_Feed_init sc_Feed_init rfl rfl rfl (by decide) fun cdv A outer s H E hr => by
    have tk := takes_of (X := cxOf (L2.CX P w) P w K mg base N_Feed_init "Feed.__init__" (defScope st_Feed_init) x.a_Feed_init cdv A outer s H E) (E := E) rfl rfl rfl rfl
    have hp := passes_of (X := cxOf (L2.CX P w) P w K mg base N_Feed_init "Feed.__init__" (defScope st_Feed_init) x.a_Feed_init cdv A outer s H E) rfl
    exact (sss_cons (ss_if (et_bo (ew_or (et_not (et_val (ev_isiX x.g_Feed x.n7_Feed rfl rfl x.z_isinstance (ek_s 1 (pv 1)) (tyn rfl x.z_tuple jb_tuple)))) (ew_or1 (et_not (et_chain op_le op_le (ek_v ev_int) (ek_v (ev_callB cr_len lenO_ok rfl x.z_len jb_len (eas_cons (ek_s 1 (pv 1)) eas_nil))) (ek_v (ev_globI rfl x.c_MOST_HOURS))))))) (sss_one (ss_raiseK x.o_BadFeed x.ix_BadFeed x.tx_BadFeed (ok_BadFeed_init x) (hr.mono (by decide)) x.b_BadFeed_init rfl x.xg_BadFeed rfl tk (eas_cons (ek_v ev_str) (eas_cons (ek_v (ev_un un_neg negO_ok (ek_v ev_int))) eas_nil))))
    sss_nil)
    (sss_cons (ss_for hp rfl (si_enum rfl x.z_enumerate (ev_var 1 (pv 1))) (sg_tup rfl (sgs_cons (sg_name (i := 3) sc_Feed_init.nd rfl (Or.inl rfl) rfl) (sgs_cons (sg_name (i := 4) sc_Feed_init.nd rfl (Or.inl rfl) rfl) sgs_nil))) (sss_one (ss_if (et_not (et_val (ev_call (ok_is_batch x) (hr.mono (by decide)) rfl x.g_is_batch x.k_is_batch x.b_is_batch tk rfl (eas_cons (ek_v (ev_var 4 (pv 4))) eas_nil)))) (sss_one (ss_raiseK x.o_BadFeed x.ix_BadFeed x.tx_BadFeed (ok_BadFeed_init x) (hr.mono (by decide)) x.b_BadFeed_init rfl x.xg_BadFeed rfl tk (eas_cons (ek_v ev_str) (eas_cons (ek_v (ev_var 3 (pv 3))) eas_nil))))
    sss_nil)))
    (sss_cons (ss_if (et_not (et_val (ev_call (ok_is_ascending x) (hr.mono (by decide)) rfl x.g_is_ascending x.k_is_ascending x.b_is_ascending tk rfl (eas_cons (ek_v (ev_var 2 (pv 2))) (eas_cons (ek_v ev_int) (eas_cons (ek_v (ev_bin op_sub opSub_ok (ek_v (ev_callB cr_len lenO_ok rfl x.z_len jb_len (eas_cons (ek_s 1 (pv 1)) eas_nil))) (ek_v ev_int))) eas_nil)))))) (sss_one (ss_raiseK x.o_BadFeed x.ix_BadFeed x.tx_BadFeed (ok_BadFeed_init x) (hr.mono (by decide)) x.b_BadFeed_init rfl x.xg_BadFeed rfl tk (eas_cons (ek_v ev_str) (eas_cons (ek_v (ev_un un_neg negO_ok (ek_v ev_int))) eas_nil))))
    sss_nil)
    (sss_cons (ss_setF x.i_Feed_batches (ev_var 1 (pv 1)) (pv 0))
    (sss_one (ss_setF x.i_Feed_kept (ev_var 2 (pv 2)) (pv 0)))))))

abbrev N__law_hand : List Str := ["_law_script", "_law_cells", "_law_cell"]
theorem sc__law_hand : FnScope N__law_hand ["_law_script"] (defScope st__law_hand) := ⟨rfl, rfl, rfl, by decide +kernel, rfl, by decide +kernel, by decide +kernel⟩
def fb__law_hand : Fs :=
    (sSeq (sSet 1 (eComp (iSeqF (eOp [.s 0, .v (intF (eC (.int 63)))] sl01)) [2] (tgN 2) cYes (eOp [.v (eOp [.s 2] intO)] absO)))
    (sRet (eLst [.v (eVar 1), .v (eC (.int 0)), .v (eC (.int 0)), .v (eOp [.v (eC (.int 1)), .v (eOp [.s 1] lenO)] opAdd), .v (eC (.int 0))])))
def fn__law_hand : Fn := defF 3 [] fb__law_hand
theorem ok__law_hand (x : Fx K mg) : FnOk P w K mg base (L2.CX P w) 1 x.a__law_hand x.fd__law_hand ["_law_script"] (spOf K mg [] 1 fn__law_hand) :=
  def_ok (ms := []) (N := N__law_hand) (fb := fb__law_hand) x.F__law_hand sc__law_hand rfl rfl rfl (by decide) fun cdv A outer s H E hr => by
    have tk := takes_of (X := cxOf (L2.CX P w) P w K mg base N__law_hand "_law_hand" (defScope st__law_hand) x.a__law_hand cdv A outer s H E) (E := E) rfl rfl rfl rfl
    have hp := passes_of (X := cxOf (L2.CX P w) P w K mg base N__law_hand "_law_hand" (defScope st__law_hand) x.a__law_hand cdv A outer s H E) rfl
    exact (sss_cons (ss_setComp (i := 1) (own := [("_law_cell", 2)]) rfl rfl sc__law_hand.nd rfl rfl rfl rfl (si_seq (ev_sl01 (ek_s 0 (pv 0)) ev_int)) (blk_of rfl) rfl (fun _ _ _ _ _ => (sg_name (i := 2) sc__law_hand.nd rfl (by first | exact Or.inl rfl | exact Or.inr rfl) rfl)) (fun _ _ _ _ _ => sc_nil) (fun _ _ _ _ _ => (ev_callB call_abs absO_ok rfl x.z_abs jb_abs (eas_cons (ek_v (ev_callTy call_int1 intO_ok rfl x.z_int jb_int (eas_cons (ek_s 2 (pv 2)) eas_nil))) eas_nil))))
    (sss_one (ss_ret (ev_lst (eas_cons (ek_v (ev_var 1 (pv 1))) (eas_cons (ek_v ev_int) (eas_cons (ek_v ev_int) (eas_cons (ek_v (ev_bin op_add4 opAdd_ok (ek_v ev_int) (ek_v (ev_callB cr_len lenO_ok rfl x.z_len jb_len (eas_cons (ek_s 1 (pv 1)) eas_nil))))) (eas_cons (ek_v ev_int) eas_nil)))))))))

abbrev N__law_draw : List Str := ["_law_hand_here", "_law_many_here", "_law_cell", "_law_digit", "_law_number"]
theorem sc__law_draw : FnScope N__law_draw ["_law_hand_here", "_law_many_here"] (defScope st__law_draw) := ⟨rfl, rfl, rfl, by decide +kernel, rfl, by decide +kernel, by decide +kernel⟩
def fb__law_draw : Fs :=
    (sSeq (sIf (tAndF (tVal (eOp [.v (eOp [.s 0, .v (eC (.int 2))] ixO), .v (eC (.int 0))] (eqO false))) (tVal (eOp [.v (eOp [.s 0, .v (eC (.int 1))] ixO), .v (eOp [.v (eOp [.s 0, .v (eC (.int 0))] ixO)] lenO)] opLt))) (sSeq (sSet 2 (eOp [.v (eOp [.s 0, .v (eC (.int 0))] ixO), .v (eOp [.s 0, .v (eC (.int 1))] ixO)] ixO))
    (sSeq (sSetIx setIxO (eOp [.v (eOp [.s 0, .v (eC (.int 1))] ixO), .v (eC (.int 1))] opAdd) 0 (.v (eC (.int 1))))
    (sSeq (sSetIx setIxO (eOp [.v (eOp [.v (eOp [.v (eOp [.v (eOp [.v (eOp [.s 0, .v (eC (.int 3))] ixO), .v (eC (.int 69621))] opMul), .s 2] opAdd), .v (eC (.int 11))] opAdd)] intO), .v (eC (.int 2147483629))] opMod) 0 (.v (eC (.int 3))))
    (sIf (tVal (eOp [.s 2, .v (eOp [.v (eC (.int 10)), .v (eC (.int 18))] opPow)] opGe)) (sSetIx setIxO (eVar 2) 0 (.v (eC (.int 2))))
    sSkip))))
    sSkip)
    (sSeq (sIf (tVal (eOp [.v (eOp [.s 0, .v (eC (.int 2))] ixO), .v (eC (.int 0))] opGt)) (sSeq (sSet 3 (eOp [.v (eOp [.v (eOp [.s 0, .v (eC (.int 2))] ixO)] intO), .s 1] opMod))
    (sSeq (sSetIx setIxO (eOp [.v (eOp [.s 0, .v (eC (.int 2))] ixO), .s 1] opFdiv) 0 (.v (eC (.int 2))))
    (sRet (eMove 3))))
    sSkip)
    (sSeq (sSetIx setIxO (eOp [.v (eOp [.s 0, .v (eC (.int 4))] ixO), .v (eC (.int 1))] opAdd) 0 (.v (eC (.int 4))))
    (sSeq (sSet 4 (eOp [.v (eOp [.v (eOp [.v (eOp [.v (eOp [.v (eOp [.s 0, .v (eC (.int 3))] ixO), .v (eOp [.v (eC (.int 7919)), .v (eOp [.s 0, .v (eC (.int 4))] ixO)] opMul)] opAdd)] intO), .v (eC (.int 48271))] opMul)] intO), .v (eC (.int 2147483647))] opMod))
    (sSeq (sSet 4 (eOp [.v (eOp [.v (eOp [.s 4, .v (eOp [.v (eOp [.s 4, .v (eC (.int 1009))] opFdiv), .v (eC (.int 69621))] opAdd)] opMul)] intO), .v (eC (.int 2147483647))] opMod))
    (sSeq (sSet 4 (eOp [.v (eOp [.v (eOp [.s 4, .v (eOp [.v (eOp [.s 4, .v (eC (.int 2003))] opFdiv), .v (eC (.int 40692))] opAdd)] opMul)] intO), .v (eC (.int 2147483399))] opMod))
    (sRet (eOp [.v (eOp [.v (eOp [.s 4, .v (eC (.int 16))] opFdiv)] intO), .s 1] opMod))))))))
def fn__law_draw : Fn := defF 5 [0] fb__law_draw
theorem ok__law_draw (x : Fx K mg) : FnOk P w K mg base (L2.CX P w) 1 x.a__law_draw x.fd__law_draw ["_law_hand_here", "_law_many_here"] (spOf K mg [0] 2 fn__law_draw) :=
  def_ok (ms := [0]) (N := N__law_draw) (fb := fb__law_draw) x.F__law_draw sc__law_draw rfl rfl rfl (by decide) fun cdv A outer s H E hr => by
    have tk := takes_of (X := cxOf (L2.CX P w) P w K mg base N__law_draw "_law_draw" (defScope st__law_draw) x.a__law_draw cdv A outer s H E) (E := E) rfl rfl rfl rfl
    have hp := passes_of (X := cxOf (L2.CX P w) P w K mg base N__law_draw "_law_draw" (defScope st__law_draw) x.a__law_draw cdv A outer s H E) rfl
    exact (sss_cons (ss_if (et_bo (ew_and (et_cmp (op_eqD (hu64 hr)) opEq_ok (ek_v (ev_ix ix_seq opIx_ok (ek_s 0 (pv 0)) (ek_v ev_int) (fun _ _ => rfl))) (ek_v ev_int) (nomark _)) (ew_and1 (et_cmp op_lt opLt_ok (ek_v (ev_ix ix_seq opIx_ok (ek_s 0 (pv 0)) (ek_v ev_int) (fun _ _ => rfl))) (ek_v (ev_callB cr_len lenO_ok rfl x.z_len jb_len (eas_cons (ek_v (ev_ix ix_seq opIx_ok (ek_s 0 (pv 0)) (ek_v ev_int) (fun _ _ => rfl))) eas_nil))) (nomark _))))) (sss_cons (ss_set (i := 2) sc__law_draw.nd rfl (Or.inl rfl) rfl (ev_ix ix_seq opIx_ok (ek_v (ev_ix ix_seq opIx_ok (ek_s 0 (pv 0)) (ek_v ev_int) (fun _ _ => rfl))) (ek_v (ev_ix ix_seq opIx_ok (ek_s 0 (pv 0)) (ek_v ev_int) (fun _ _ => rfl))) (fun _ _ => rfl)))
    (sss_cons (ss_setIx (ev_bin op_add4 opAdd_ok (ek_v (ev_ix ix_seq opIx_ok (ek_s 0 (pv 0)) (ek_v ev_int) (fun _ _ => rfl))) (ek_v ev_int)) (pv 0) (ek_v ev_int) set_list setIxO_ok)
    (sss_cons (ss_setIx (ev_bin op_mod opMod_ok (ek_v (ev_callTy call_int1 intO_ok rfl x.z_int jb_int (eas_cons (ek_v (ev_bin op_add4 opAdd_ok (ek_v (ev_bin op_add4 opAdd_ok (ek_v (ev_bin op_mul4 opMul_ok (ek_v (ev_ix ix_seq opIx_ok (ek_s 0 (pv 0)) (ek_v ev_int) (fun _ _ => rfl))) (ek_v ev_int))) (ek_s 2 (pv 2)))) (ek_v ev_int))) eas_nil))) (ek_v ev_int)) (pv 0) (ek_v ev_int) set_list setIxO_ok)
    (sss_one (ss_if (et_cmp op_ge opGe_ok (ek_s 2 (pv 2)) (ek_v (ev_bin op_pow opPow_ok (ek_v ev_int) (ek_v ev_int))) (nomark _)) (sss_one (ss_setIx (ev_var 2 (pv 2)) (pv 0) (ek_v ev_int) set_list setIxO_ok))
    sss_nil)))))
    sss_nil)
    (sss_cons (ss_if (et_cmp op_gt opGt_ok (ek_v (ev_ix ix_seq opIx_ok (ek_s 0 (pv 0)) (ek_v ev_int) (fun _ _ => rfl))) (ek_v ev_int) (nomark _)) (sss_cons (ss_set (i := 3) sc__law_draw.nd rfl (Or.inl rfl) rfl (ev_bin op_mod opMod_ok (ek_v (ev_callTy call_int1 intO_ok rfl x.z_int jb_int (eas_cons (ek_v (ev_ix ix_seq opIx_ok (ek_s 0 (pv 0)) (ek_v ev_int) (fun _ _ => rfl))) eas_nil))) (ek_s 1 (pv 1))))
    (sss_cons (ss_setIx (ev_bin op_fdiv opFdiv_ok (ek_v (ev_ix ix_seq opIx_ok (ek_s 0 (pv 0)) (ek_v ev_int) (fun _ _ => rfl))) (ek_s 1 (pv 1))) (pv 0) (ek_v ev_int) set_list setIxO_ok)
    (sss_one (ss_ret (ev_move 3 (pv 3))))))
    sss_nil)
    (sss_cons (ss_setIx (ev_bin op_add4 opAdd_ok (ek_v (ev_ix ix_seq opIx_ok (ek_s 0 (pv 0)) (ek_v ev_int) (fun _ _ => rfl))) (ek_v ev_int)) (pv 0) (ek_v ev_int) set_list setIxO_ok)
    (sss_cons (ss_set (i := 4) sc__law_draw.nd rfl (Or.inl rfl) rfl (ev_bin op_mod opMod_ok (ek_v (ev_callTy call_int1 intO_ok rfl x.z_int jb_int (eas_cons (ek_v (ev_bin op_mul4 opMul_ok (ek_v (ev_callTy call_int1 intO_ok rfl x.z_int jb_int (eas_cons (ek_v (ev_bin op_add4 opAdd_ok (ek_v (ev_ix ix_seq opIx_ok (ek_s 0 (pv 0)) (ek_v ev_int) (fun _ _ => rfl))) (ek_v (ev_bin op_mul4 opMul_ok (ek_v ev_int) (ek_v (ev_ix ix_seq opIx_ok (ek_s 0 (pv 0)) (ek_v ev_int) (fun _ _ => rfl))))))) eas_nil))) (ek_v ev_int))) eas_nil))) (ek_v ev_int)))
    (sss_cons (ss_set (i := 4) sc__law_draw.nd rfl (Or.inl rfl) rfl (ev_bin op_mod opMod_ok (ek_v (ev_callTy call_int1 intO_ok rfl x.z_int jb_int (eas_cons (ek_v (ev_bin op_mul4 opMul_ok (ek_s 4 (pv 4)) (ek_v (ev_bin op_add4 opAdd_ok (ek_v (ev_bin op_fdiv opFdiv_ok (ek_s 4 (pv 4)) (ek_v ev_int))) (ek_v ev_int))))) eas_nil))) (ek_v ev_int)))
    (sss_cons (ss_set (i := 4) sc__law_draw.nd rfl (Or.inl rfl) rfl (ev_bin op_mod opMod_ok (ek_v (ev_callTy call_int1 intO_ok rfl x.z_int jb_int (eas_cons (ek_v (ev_bin op_mul4 opMul_ok (ek_s 4 (pv 4)) (ek_v (ev_bin op_add4 opAdd_ok (ek_v (ev_bin op_fdiv opFdiv_ok (ek_s 4 (pv 4)) (ek_v ev_int))) (ek_v ev_int))))) eas_nil))) (ek_v ev_int)))
    (sss_one (ss_ret (ev_bin op_mod opMod_ok (ek_v (ev_callTy call_int1 intO_ok rfl x.z_int jb_int (eas_cons (ek_v (ev_bin op_fdiv opFdiv_ok (ek_s 4 (pv 4)) (ek_v ev_int))) eas_nil))) (ek_s 1 (pv 1)))))))))))

abbrev N__law_is : List Str := ["_law_told", "_law_due_here", "_law_one", "_law_two"]
theorem sc__law_is : FnScope N__law_is ["_law_told", "_law_due_here"] (defScope st__law_is) := ⟨rfl, rfl, rfl, by decide +kernel, rfl, by decide +kernel, by decide +kernel⟩
def fb__law_is (rec : Fn) : Fs :=
    (sSeq (sIf (tVal (eOp [.s 1] (isiX "Feed" [.tup, .lst]))) (sSeq (sIf (tOrF (tVal (eOp [.v (eOp [.s 0] (isiX "Feed" [.tup])), .v (eOp [.s 1] (isiX "Feed" [.tup]))] (eqO true))) (tNotF (tVal (eOp [.s 0] (isiX "Feed" [.tup, .lst]))))) (sRet (eC (.bl false)))
    sSkip)
    (sRet (eAndF (eOp [.v (eOp [.s 0] lenO), .v (eOp [.s 1] lenO)] (eqO false)) (eOp [.v (eComp (iZ3F (eVar 0) (eVar 1)) [2, 3] (tgT [(tgN 2), (tgN 3)]) cYes (eOp [.s 2, .s 3] (borO rec)))] allO))))
    sSkip)
    (sRet (eAndF (eOp [.v (eOp [.s 0] (isiX "Feed" [.bl])), .v (eOp [.s 1] (isiX "Feed" [.bl]))] (eqO false)) (eOp [.s 0, .s 1] (eqO false)))))
def fn__law_is : Nat → Fn
  | 0 => fun _ => .bad
  | d + 1 => defF 4 [] (fb__law_is (fn__law_is d))
theorem ok__law_is (x : Fx K mg) : ∀ d, FnOk P w K mg base (L2.CX P w) (1 + d) x.a__law_is x.fd__law_is ["_law_told", "_law_due_here"] (spOf K mg [] 2 (fn__law_is d))
  | 0 => ok_none rfl
  | d + 1 => def_ok (k := 1 + d) (ms := []) (N := N__law_is) (fb := fb__law_is (fn__law_is d)) x.F__law_is sc__law_is rfl rfl rfl (by decide) fun cdv A outer s H E hr => by
    have tk := takes_of (X := cxOf (L2.CX P w) P w K mg base N__law_is "_law_is" (defScope st__law_is) x.a__law_is cdv A outer s H E) (E := E) rfl rfl rfl rfl
    have hp := passes_of (X := cxOf (L2.CX P w) P w K mg base N__law_is "_law_is" (defScope st__law_is) x.a__law_is cdv A outer s H E) rfl
    exact (sss_cons (ss_if (et_val (ev_isiXT x.g_Feed x.n7_Feed rfl rfl x.z_isinstance (ek_s 1 (pv 1)) (.cons (tyn rfl x.z_tuple jb_tuple) (.cons (tyn rfl x.z_list jb_list) .nil)))) (sss_cons (ss_if (et_bo (ew_or (et_cmp (op_neD (hu64 hr)) opNe_ok (ek_v (ev_isiX x.g_Feed x.n7_Feed rfl rfl x.z_isinstance (ek_s 0 (pv 0)) (tyn rfl x.z_tuple jb_tuple))) (ek_v (ev_isiX x.g_Feed x.n7_Feed rfl rfl x.z_isinstance (ek_s 1 (pv 1)) (tyn rfl x.z_tuple jb_tuple))) (nomark _)) (ew_or1 (et_not (et_val (ev_isiXT x.g_Feed x.n7_Feed rfl rfl x.z_isinstance (ek_s 0 (pv 0)) (.cons (tyn rfl x.z_tuple jb_tuple) (.cons (tyn rfl x.z_list jb_list) .nil)))))))) (sss_one (ss_ret ev_bl))
    sss_nil)
    (sss_one (ss_ret (ev_and (ev_cmp (op_eqD (hu64 hr)) opEq_ok (ek_v (ev_callB cr_len lenO_ok rfl x.z_len jb_len (eas_cons (ek_s 0 (pv 0)) eas_nil))) (ek_v (ev_callB cr_len lenO_ok rfl x.z_len jb_len (eas_cons (ek_s 1 (pv 1)) eas_nil))) (nomark _)) (ev_one (ev_callB (cr_all rfl) allO_ok rfl x.z_all jb_all (eas_cons (ek_v (ev_comp (own := [("_law_one", 2), ("_law_two", 3)]) rfl rfl sc__law_is.nd (si_zip3 rfl x.z_zip (ev_var 0 (pv 0)) (ev_var 1 (pv 1))) (blk_of rfl) rfl (fun _ _ _ _ _ => (sg_tup rfl (sgs_cons (sg_name (i := 2) sc__law_is.nd rfl (by first | exact Or.inl rfl | exact Or.inr rfl) rfl) (sgs_cons (sg_name (i := 3) sc__law_is.nd rfl (by first | exact Or.inl rfl | exact Or.inr rfl) rfl) sgs_nil)))) (fun _ _ _ _ _ => sc_nil) (fun _ _ _ _ _ => (ev_callBor (ok__law_is x d) (hr.mono (by omega)) rfl x.g__law_is x.k__law_is x.b__law_is takes0 rfl (eas_cons (ek_s 2 (pv 2)) (eas_cons (ek_s 3 (pv 3)) eas_nil)))))) eas_nil)))))))
    sss_nil)
    (sss_one (ss_ret (ev_and (ev_cmp (op_eqD (hu64 hr)) opEq_ok (ek_v (ev_isiX x.g_Feed x.n7_Feed rfl rfl x.z_isinstance (ek_s 0 (pv 0)) (tyn rfl x.z_bool jb_bool))) (ek_v (ev_isiX x.g_Feed x.n7_Feed rfl rfl x.z_isinstance (ek_s 1 (pv 1)) (tyn rfl x.z_bool jb_bool))) (nomark _)) (ev_one (ev_cmp (op_eqD (hu64 hr)) opEq_ok (ek_s 0 (pv 0)) (ek_s 1 (pv 1)) (nomark _)))))))

abbrev N__law_flag : List Str := ["_law_told", "_law_due_here"]
theorem sc__law_flag : FnScope N__law_flag ["_law_told", "_law_due_here"] (defScope st__law_flag) := ⟨rfl, rfl, rfl, by decide +kernel, rfl, by decide +kernel, by decide +kernel⟩
def fb__law_flag : Fs :=
    (sRet (eAndF (eOp [.s 0] (isiX "Feed" [.bl])) (eOp [.s 0, .s 1] (eqO false))))
def fn__law_flag : Fn := defF 2 [] fb__law_flag
theorem ok__law_flag (x : Fx K mg) : FnOk P w K mg base (L2.CX P w) 1 x.a__law_flag x.fd__law_flag ["_law_told", "_law_due_here"] (spOf K mg [] 2 fn__law_flag) :=
  def_ok (ms := []) (N := N__law_flag) (fb := fb__law_flag) x.F__law_flag sc__law_flag rfl rfl rfl (by decide) fun cdv A outer s H E hr => by
    have tk := takes_of (X := cxOf (L2.CX P w) P w K mg base N__law_flag "_law_flag" (defScope st__law_flag) x.a__law_flag cdv A outer s H E) (E := E) rfl rfl rfl rfl
    have hp := passes_of (X := cxOf (L2.CX P w) P w K mg base N__law_flag "_law_flag" (defScope st__law_flag) x.a__law_flag cdv A outer s H E) rfl
    exact (sss_one (ss_ret (ev_and (ev_isiX x.g_Feed x.n7_Feed rfl rfl x.z_isinstance (ek_s 0 (pv 0)) (tyn rfl x.z_bool jb_bool)) (ev_one (ev_cmp (op_eqD (hu64 hr)) opEq_ok (ek_s 0 (pv 0)) (ek_s 1 (pv 1)) (nomark _))))))

abbrev N__law_deep : List Str := ["_law_hand_here", "_law_found", "_law_turn"]
theorem sc__law_deep : FnScope N__law_deep ["_law_hand_here"] (defScope st__law_deep) := ⟨rfl, rfl, rfl, by decide +kernel, rfl, by decide +kernel, by decide +kernel⟩
def fb__law_deep : Fs :=
    (sSeq (sSet 1 (eOp [.v (eLst [.v (eC .non), .v (eC (.str "a")), .v (eOp [.v (eC (.int 1))] negO), .v eD0]), .v (eCall fn__law_draw [0] [.s 0, .v (eC (.int 4))])] ixO))
    (sSeq (sFor (iRng1F (.v (eOp [.v (eC (.int 2)), .v (eCall fn__law_draw [0] [.s 0, .v (eC (.int 29))])] opAdd))) (tgN 2) (sSet 1 (eOp [.v (eLst [.v (eTup [.v (eVar 1)]), .v (eLst [.v (eVar 1)]), .v (eOp [.v (eTup [.v (eVar 1), .v (eVar 1)]), .v (intF (eC (.int 1)))] sl01), .v (eD1 0 (eVar 1))]), .v (eCall fn__law_draw [0] [.s 0, .v (eC (.int 4))])] ixO)))
    (sRet (eMove 1))))
def fn__law_deep : Fn := defF 3 [0] fb__law_deep
theorem ok__law_deep (x : Fx K mg) : FnOk P w K mg base (L2.CX P w) 2 x.a__law_deep x.fd__law_deep ["_law_hand_here"] (spOf K mg [0] 1 fn__law_deep) :=
  def_ok (ms := [0]) (N := N__law_deep) (fb := fb__law_deep) x.F__law_deep sc__law_deep rfl rfl rfl (by decide) fun cdv A outer s H E hr => by
    have tk := takes_of (X := cxOf (L2.CX P w) P w K mg base N__law_deep "_law_deep" (defScope st__law_deep) x.a__law_deep cdv A outer s H E) (E := E) rfl rfl rfl rfl
    have hp := passes_of (X := cxOf (L2.CX P w) P w K mg base N__law_deep "_law_deep" (defScope st__law_deep) x.a__law_deep cdv A outer s H E) rfl
    exact (sss_cons (ss_set (i := 1) sc__law_deep.nd rfl (Or.inl rfl) rfl (ev_ix ix_seq opIx_ok (ek_v (ev_lst (eas_cons (ek_v ev_non) (eas_cons (ek_v ev_str) (eas_cons (ek_v (ev_un un_neg negO_ok (ek_v ev_int))) (eas_cons (ek_v ev_d0) eas_nil)))))) (ek_v (ev_call (ok__law_draw x) (hr.mono (by decide)) rfl x.g__law_draw x.k__law_draw x.b__law_draw tk rfl (eas_cons (ek_s 0 (pv 0)) (eas_cons (ek_v ev_int) eas_nil)))) (fun _ _ => rfl)))
    (sss_cons (ss_for hp rfl (si_rng1 rfl x.z_range (eas_cons (ek_v (ev_bin op_add4 opAdd_ok (ek_v ev_int) (ek_v (ev_call (ok__law_draw x) (hr.mono (by decide)) rfl x.g__law_draw x.k__law_draw x.b__law_draw tk rfl (eas_cons (ek_s 0 (pv 0)) (eas_cons (ek_v ev_int) eas_nil)))))) eas_nil)) (sg_name (i := 2) sc__law_deep.nd rfl (Or.inl rfl) rfl) (sss_one (ss_set (i := 1) sc__law_deep.nd rfl (Or.inl rfl) rfl (ev_ix ix_seq opIx_ok (ek_v (ev_lst (eas_cons (ek_v (ev_tup (eas_cons (ek_v (ev_var 1 (pv 1))) eas_nil))) (eas_cons (ek_v (ev_lst (eas_cons (ek_v (ev_var 1 (pv 1))) eas_nil))) (eas_cons (ek_v (ev_sl01 (ek_v (ev_tup (eas_cons (ek_v (ev_var 1 (pv 1))) (eas_cons (ek_v (ev_var 1 (pv 1))) eas_nil)))) ev_int)) (eas_cons (ek_v (ev_d1 pe_int (ev_var 1 (pv 1)))) eas_nil)))))) (ek_v (ev_call (ok__law_draw x) (hr.mono (by decide)) rfl x.g__law_draw x.k__law_draw x.b__law_draw tk rfl (eas_cons (ek_s 0 (pv 0)) (eas_cons (ek_v ev_int) eas_nil)))) (fun _ _ => rfl)))))
    (sss_one (ss_ret (ev_move 1 (pv 1))))))

abbrev N__law_batch : List Str := ["_law_hand_here", "_law_keys", "_law_most", "_law_some", "_law_turn", "_law_key"]
theorem sc__law_batch : FnScope N__law_batch ["_law_hand_here", "_law_keys", "_law_most"] (defScope st__law_batch) := ⟨rfl, rfl, rfl, by decide +kernel, rfl, by decide +kernel, by decide +kernel⟩
def fb__law_batch : Fs :=
    (sSeq (sSet 3 (eOp [.v (eComp (iRng1F (.v (eCall fn__law_draw [0] [.s 0, .v (eOp [.s 2, .v (eC (.int 1))] opAdd)]))) [4] (tgN 4) cYes (eCall fn__law_draw [0] [.s 0, .v (eVar 1)]))] sslO))
    (sRet (eOp [.v (eComp (iSeqF (eVar 3)) [5] (tgN 5) cYes (eTup [.v (eVar 5), .v (eIfF (tVal (eOp [.v (eCall fn__law_draw [0] [.s 0, .v (eC (.int 4))]), .v (eC (.int 0))] (eqO false))) (eC .non) (eOp [.v (eCall fn__law_draw [0] [.s 0, .v (eC (.int 9))]), .v (eC (.int 3))] opSub))]))] tupO)))
def fn__law_batch : Fn := defF 6 [0] fb__law_batch
theorem ok__law_batch (x : Fx K mg) : FnOk P w K mg base (L2.CX P w) 2 x.a__law_batch x.fd__law_batch ["_law_hand_here", "_law_keys", "_law_most"] (spOf K mg [0] 3 fn__law_batch) :=
  def_ok (ms := [0]) (N := N__law_batch) (fb := fb__law_batch) x.F__law_batch sc__law_batch rfl rfl rfl (by decide) fun cdv A outer s H E hr => by
    have tk := takes_of (X := cxOf (L2.CX P w) P w K mg base N__law_batch "_law_batch" (defScope st__law_batch) x.a__law_batch cdv A outer s H E) (E := E) rfl rfl rfl rfl
    have hp := passes_of (X := cxOf (L2.CX P w) P w K mg base N__law_batch "_law_batch" (defScope st__law_batch) x.a__law_batch cdv A outer s H E) rfl
    exact (sss_cons (ss_set (i := 3) sc__law_batch.nd rfl (Or.inl rfl) rfl (ev_ssl rfl rfl x.z_sorted rfl x.z_set (ek_v (ev_comp (own := [("_law_turn", 4)]) rfl rfl sc__law_batch.nd (si_rng1 rfl x.z_range (eas_cons (ek_v (ev_call (ok__law_draw x) (hr.mono (by decide)) rfl x.g__law_draw x.k__law_draw x.b__law_draw tk rfl (eas_cons (ek_s 0 (pv 0)) (eas_cons (ek_v (ev_bin op_add4 opAdd_ok (ek_s 2 (pv 2)) (ek_v ev_int))) eas_nil)))) eas_nil)) (blk_of rfl) rfl (fun _ _ _ _ _ => (sg_name (i := 4) sc__law_batch.nd rfl (by first | exact Or.inl rfl | exact Or.inr rfl) rfl)) (fun _ _ _ _ _ => sc_nil) (fun _ _ _ _ _ => (ev_call (ok__law_draw x) (hr.mono (by decide)) rfl x.g__law_draw x.k__law_draw x.b__law_draw takes0 rfl (eas_cons (ek_s 0 (pv 0)) (eas_cons (ek_v (ev_var 1 (pv 1))) eas_nil))))))))
    (sss_one (ss_ret (ev_callTy call_tuple_of tupO_ok rfl x.z_tuple jb_tuple (eas_cons (ek_v (ev_comp (own := [("_law_key", 5)]) rfl rfl sc__law_batch.nd (si_seq (ev_var 3 (pv 3))) (blk_of rfl) rfl (fun _ _ _ _ _ => (sg_name (i := 5) sc__law_batch.nd rfl (by first | exact Or.inl rfl | exact Or.inr rfl) rfl)) (fun _ _ _ _ _ => sc_nil) (fun _ _ _ _ _ => (ev_tup (eas_cons (ek_v (ev_var 5 (pv 5))) (eas_cons (ek_v (ev_if (et_cmp (op_eqD (hu64 hr)) opEq_ok (ek_v (ev_call (ok__law_draw x) (hr.mono (by decide)) rfl x.g__law_draw x.k__law_draw x.b__law_draw takes0 rfl (eas_cons (ek_s 0 (pv 0)) (eas_cons (ek_v ev_int) eas_nil)))) (ek_v ev_int) (nomark _)) ev_non (ev_bin op_sub opSub_ok (ek_v (ev_call (ok__law_draw x) (hr.mono (by decide)) rfl x.g__law_draw x.k__law_draw x.b__law_draw takes0 rfl (eas_cons (ek_s 0 (pv 0)) (eas_cons (ek_v ev_int) eas_nil)))) (ek_v ev_int)))) eas_nil)))))) eas_nil)))))

abbrev N__law_batches : List Str := ["_law_hand_here", "_law_hours", "_law_keys", "_law_most", "_law_hour"]
theorem sc__law_batches : FnScope N__law_batches ["_law_hand_here", "_law_hours", "_law_keys", "_law_most"] (defScope st__law_batches) := ⟨rfl, rfl, rfl, by decide +kernel, rfl, by decide +kernel, by decide +kernel⟩
def fb__law_batches : Fs :=
    (sRet (eOp [.v (eComp (iRng1F (.s 1)) [4] (tgN 4) cYes (eCall fn__law_batch [0] [.s 0, .v (eVar 2), .v (eVar 3)]))] tupO))
def fn__law_batches : Fn := defF 5 [0] fb__law_batches
theorem ok__law_batches (x : Fx K mg) : FnOk P w K mg base (L2.CX P w) 3 x.a__law_batches x.fd__law_batches ["_law_hand_here", "_law_hours", "_law_keys", "_law_most"] (spOf K mg [0] 4 fn__law_batches) :=
  def_ok (ms := [0]) (N := N__law_batches) (fb := fb__law_batches) x.F__law_batches sc__law_batches rfl rfl rfl (by decide) fun cdv A outer s H E hr => by
    have tk := takes_of (X := cxOf (L2.CX P w) P w K mg base N__law_batches "_law_batches" (defScope st__law_batches) x.a__law_batches cdv A outer s H E) (E := E) rfl rfl rfl rfl
    have hp := passes_of (X := cxOf (L2.CX P w) P w K mg base N__law_batches "_law_batches" (defScope st__law_batches) x.a__law_batches cdv A outer s H E) rfl
    exact (sss_one (ss_ret (ev_callTy call_tuple_of tupO_ok rfl x.z_tuple jb_tuple (eas_cons (ek_v (ev_comp (own := [("_law_hour", 4)]) rfl rfl sc__law_batches.nd (si_rng1 rfl x.z_range (eas_cons (ek_s 1 (pv 1)) eas_nil)) (blk_of rfl) rfl (fun _ _ _ _ _ => (sg_name (i := 4) sc__law_batches.nd rfl (by first | exact Or.inl rfl | exact Or.inr rfl) rfl)) (fun _ _ _ _ _ => sc_nil) (fun _ _ _ _ _ => (ev_call (ok__law_batch x) (hr.mono (by decide)) rfl x.g__law_batch x.k__law_batch x.b__law_batch takes0 rfl (eas_cons (ek_s 0 (pv 0)) (eas_cons (ek_v (ev_var 2 (pv 2))) (eas_cons (ek_v (ev_var 3 (pv 3))) eas_nil))))))) eas_nil))))

abbrev N__law_kept : List Str := ["_law_hand_here", "_law_hours", "_law_hour"]
theorem sc__law_kept : FnScope N__law_kept ["_law_hand_here", "_law_hours"] (defScope st__law_kept) := ⟨rfl, rfl, rfl, by decide +kernel, rfl, by decide +kernel, by decide +kernel⟩
def fb__law_kept : Fs :=
    (sRet (eOp [.v (eComp (iRng1F (.s 1)) [2] (tgN 2) (tVal (eOp [.v (eCall fn__law_draw [0] [.s 0, .v (eC (.int 4))]), .v (eC (.int 0))] (eqO false))) (eVar 2))] tupO))
def fn__law_kept : Fn := defF 3 [0] fb__law_kept
theorem ok__law_kept (x : Fx K mg) : FnOk P w K mg base (L2.CX P w) 2 x.a__law_kept x.fd__law_kept ["_law_hand_here", "_law_hours"] (spOf K mg [0] 2 fn__law_kept) :=
  def_ok (ms := [0]) (N := N__law_kept) (fb := fb__law_kept) x.F__law_kept sc__law_kept rfl rfl rfl (by decide) fun cdv A outer s H E hr => by
    have tk := takes_of (X := cxOf (L2.CX P w) P w K mg base N__law_kept "_law_kept" (defScope st__law_kept) x.a__law_kept cdv A outer s H E) (E := E) rfl rfl rfl rfl
    have hp := passes_of (X := cxOf (L2.CX P w) P w K mg base N__law_kept "_law_kept" (defScope st__law_kept) x.a__law_kept cdv A outer s H E) rfl
    exact (sss_one (ss_ret (ev_callTy call_tuple_of tupO_ok rfl x.z_tuple jb_tuple (eas_cons (ek_v (ev_comp (own := [("_law_hour", 2)]) rfl rfl sc__law_kept.nd (si_rng1 rfl x.z_range (eas_cons (ek_s 1 (pv 1)) eas_nil)) (blk_of rfl) rfl (fun _ _ _ _ _ => (sg_name (i := 2) sc__law_kept.nd rfl (by first | exact Or.inl rfl | exact Or.inr rfl) rfl)) (fun _ _ _ _ _ => (sc_one (et_cmp (op_eqD (hu64 hr)) opEq_ok (ek_v (ev_call (ok__law_draw x) (hr.mono (by decide)) rfl x.g__law_draw x.k__law_draw x.b__law_draw takes0 rfl (eas_cons (ek_s 0 (pv 0)) (eas_cons (ek_v ev_int) eas_nil)))) (ek_v ev_int) (nomark _)))) (fun _ _ _ _ _ => (ev_var 2 (pv 2))))) eas_nil))))

abbrev N__law_is_integer : List Str := ["_law_thing"]
theorem sc__law_is_integer : FnScope N__law_is_integer ["_law_thing"] (defScope st__law_is_integer) := ⟨rfl, rfl, rfl, by decide +kernel, rfl, by decide +kernel, by decide +kernel⟩
def fb__law_is_integer : Fs :=
    (sRet (eAndF (eOp [.s 0] (isiX "Feed" [.int])) (eNotF (eOp [.s 0] (isiX "Feed" [.bl])))))
def fn__law_is_integer : Fn := defF 1 [] fb__law_is_integer
theorem ok__law_is_integer (x : Fx K mg) : FnOk P w K mg base (L2.CX P w) 1 x.a__law_is_integer x.fd__law_is_integer ["_law_thing"] (spOf K mg [] 1 fn__law_is_integer) :=
  def_ok (ms := []) (N := N__law_is_integer) (fb := fb__law_is_integer) x.F__law_is_integer sc__law_is_integer rfl rfl rfl (by decide) fun cdv A outer s H E hr => by
    have tk := takes_of (X := cxOf (L2.CX P w) P w K mg base N__law_is_integer "_law_is_integer" (defScope st__law_is_integer) x.a__law_is_integer cdv A outer s H E) (E := E) rfl rfl rfl rfl
    have hp := passes_of (X := cxOf (L2.CX P w) P w K mg base N__law_is_integer "_law_is_integer" (defScope st__law_is_integer) x.a__law_is_integer cdv A outer s H E) rfl
    exact (sss_one (ss_ret (ev_and (ev_isiX x.g_Feed x.n7_Feed rfl rfl x.z_isinstance (ek_s 0 (pv 0)) (tyn rfl x.z_int jb_int)) (ev_one (ev_not (ev_isiX x.g_Feed x.n7_Feed rfl rfl x.z_isinstance (ek_s 0 (pv 0)) (tyn rfl x.z_bool jb_bool)))))))

abbrev N__law_is_batch : List Str := ["_law_thing", "_law_pair", "_law_at"]
theorem sc__law_is_batch : FnScope N__law_is_batch ["_law_thing"] (defScope st__law_is_batch) := ⟨rfl, rfl, rfl, by decide +kernel, rfl, by decide +kernel, by decide +kernel⟩
def fb__law_is_batch : Fs :=
    (sSeq (sIf (tOrF (tNotF (tVal (eOp [.s 0] (isiX "Feed" [.tup])))) (tVal (eOp [.v (eOp [.s 0] lenO), .v (eC (.int 60))] opGt))) (sRet (eC (.bl false)))
    sSkip)
    (sSeq (sFor (iSeqF (eVar 0)) (tgN 1) (sSeq (sIf (tOrF (tNotF (tVal (eOp [.s 1] (isiX "Feed" [.tup])))) (tOrF (tVal (eOp [.v (eOp [.s 1] lenO), .v (eC (.int 2))] (eqO true))) (tOrF (tNotF (tVal (eCall fn__law_is_integer [] [.v (eOp [.s 1, .v (eC (.int 0))] ixO)]))) (tNotF (tVal (eChain (.v (eC (.int 0))) (.v (eOp [.s 1, .v (eC (.int 0))] ixO)) (.v (eC (.int 999))) (fun i j => decide (i ≤ j)) (fun i j => decide (i ≤ j)))))))) (sRet (eC (.bl false)))
    sSkip)
    (sIf (tAndF (tVal (eOp [.v (eOp [.s 1, .v (eC (.int 1))] ixO), .v (eC .non)] (isnO true))) (tNotF (tVal (eCall fn__law_is_integer [] [.v (eOp [.s 1, .v (eC (.int 1))] ixO)])))) (sRet (eC (.bl false)))
    sSkip)))
    (sRet (eOp [.v (eComp (iRng2F (.v (eC (.int 1))) (.v (eOp [.s 0] lenO))) [2] (tgN 2) cYes (eOp [.v (eOp [.v (eOp [.s 0, .v (eOp [.s 2, .v (eC (.int 1))] opSub)] ixO), .v (eC (.int 0))] ixO), .v (eOp [.v (eOp [.s 0, .s 2] ixO), .v (eC (.int 0))] ixO)] opLt))] allO))))
def fn__law_is_batch : Fn := defF 3 [] fb__law_is_batch
theorem ok__law_is_batch (x : Fx K mg) : FnOk P w K mg base (L2.CX P w) 2 x.a__law_is_batch x.fd__law_is_batch ["_law_thing"] (spOf K mg [] 1 fn__law_is_batch) :=
  def_ok (ms := []) (N := N__law_is_batch) (fb := fb__law_is_batch) x.F__law_is_batch sc__law_is_batch rfl rfl rfl (by decide) fun cdv A outer s H E hr => by
    have tk := takes_of (X := cxOf (L2.CX P w) P w K mg base N__law_is_batch "_law_is_batch" (defScope st__law_is_batch) x.a__law_is_batch cdv A outer s H E) (E := E) rfl rfl rfl rfl
    have hp := passes_of (X := cxOf (L2.CX P w) P w K mg base N__law_is_batch "_law_is_batch" (defScope st__law_is_batch) x.a__law_is_batch cdv A outer s H E) rfl
    exact (sss_cons (ss_if (et_bo (ew_or (et_not (et_val (ev_isiX x.g_Feed x.n7_Feed rfl rfl x.z_isinstance (ek_s 0 (pv 0)) (tyn rfl x.z_tuple jb_tuple)))) (ew_or1 (et_cmp op_gt opGt_ok (ek_v (ev_callB cr_len lenO_ok rfl x.z_len jb_len (eas_cons (ek_s 0 (pv 0)) eas_nil))) (ek_v ev_int) (nomark _))))) (sss_one (ss_ret ev_bl))
    sss_nil)
    (sss_cons (ss_for hp rfl (si_seq (ev_var 0 (pv 0))) (sg_name (i := 1) sc__law_is_batch.nd rfl (Or.inl rfl) rfl) (sss_cons (ss_if (et_bo (ew_or (et_not (et_val (ev_isiX x.g_Feed x.n7_Feed rfl rfl x.z_isinstance (ek_s 1 (pv 1)) (tyn rfl x.z_tuple jb_tuple)))) (ew_or (et_cmp (op_neD (hu64 hr)) opNe_ok (ek_v (ev_callB cr_len lenO_ok rfl x.z_len jb_len (eas_cons (ek_s 1 (pv 1)) eas_nil))) (ek_v ev_int) (nomark _)) (ew_or (et_not (et_val (ev_call (ok__law_is_integer x) (hr.mono (by decide)) rfl x.g__law_is_integer x.k__law_is_integer x.b__law_is_integer tk rfl (eas_cons (ek_v (ev_ix ix_seq opIx_ok (ek_s 1 (pv 1)) (ek_v ev_int) (fun _ _ => rfl))) eas_nil)))) (ew_or1 (et_not (et_chain op_le op_le (ek_v ev_int) (ek_v (ev_ix ix_seq opIx_ok (ek_s 1 (pv 1)) (ek_v ev_int) (fun _ _ => rfl))) (ek_v ev_int)))))))) (sss_one (ss_ret ev_bl))
    sss_nil)
    (sss_one (ss_if (et_bo (ew_and (et_cmp op_notN opNotn_ok (ek_v (ev_ix ix_seq opIx_ok (ek_s 1 (pv 1)) (ek_v ev_int) (fun _ _ => rfl))) (ek_v ev_non) (nomark _)) (ew_and1 (et_not (et_val (ev_call (ok__law_is_integer x) (hr.mono (by decide)) rfl x.g__law_is_integer x.k__law_is_integer x.b__law_is_integer tk rfl (eas_cons (ek_v (ev_ix ix_seq opIx_ok (ek_s 1 (pv 1)) (ek_v ev_int) (fun _ _ => rfl))) eas_nil))))))) (sss_one (ss_ret ev_bl))
    sss_nil))))
    (sss_one (ss_ret (ev_callB (cr_all rfl) allO_ok rfl x.z_all jb_all (eas_cons (ek_v (ev_comp (own := [("_law_at", 2)]) rfl rfl sc__law_is_batch.nd (si_rng2 rfl x.z_range (eas_cons (ek_v ev_int) (eas_cons (ek_v (ev_callB cr_len lenO_ok rfl x.z_len jb_len (eas_cons (ek_s 0 (pv 0)) eas_nil))) eas_nil))) (blk_of rfl) rfl (fun _ _ _ _ _ => (sg_name (i := 2) sc__law_is_batch.nd rfl (by first | exact Or.inl rfl | exact Or.inr rfl) rfl)) (fun _ _ _ _ _ => sc_nil) (fun _ _ _ _ _ => (ev_cmp op_lt opLt_ok (ek_v (ev_ix ix_seq opIx_ok (ek_v (ev_ix ix_seq opIx_ok (ek_s 0 (pv 0)) (ek_v (ev_bin op_sub opSub_ok (ek_s 2 (pv 2)) (ek_v ev_int))) (fun _ _ => rfl))) (ek_v ev_int) (fun _ _ => rfl))) (ek_v (ev_ix ix_seq opIx_ok (ek_v (ev_ix ix_seq opIx_ok (ek_s 0 (pv 0)) (ek_s 2 (pv 2)) (fun _ _ => rfl))) (ek_v ev_int) (fun _ _ => rfl))) (nomark _))))) eas_nil))))))

abbrev N__law_due : List Str := ["_law_batches_here", "_law_kept_here", "_law_hour", "_law_at"]
theorem sc__law_due : FnScope N__law_due ["_law_batches_here", "_law_kept_here"] (defScope st__law_due) := ⟨rfl, rfl, rfl, by decide +kernel, rfl, by decide +kernel, by decide +kernel⟩
def fb__law_due : Fs :=
    (sSeq (sIf (tOrF (tNotF (tVal (eOp [.s 0] (isiX "Feed" [.tup])))) (tNotF (tVal (eChain (.v (eC (.int 1))) (.v (eOp [.s 0] lenO)) (.v (eC (.int 40))) (fun i j => decide (i ≤ j)) (fun i j => decide (i ≤ j)))))) (sRet (eTup [.v (eC (.str "batches")), .v (eOp [.v (eC (.int 1))] negO)]))
    sSkip)
    (sSeq (sFor (iRng1F (.v (eOp [.s 0] lenO))) (tgN 2) (sIf (tNotF (tVal (eCall fn__law_is_batch [] [.v (eOp [.s 0, .s 2] ixO)]))) (sRet (eTup [.v (eC (.str "batches")), .v (eVar 2)]))
    sSkip))
    (sSeq (sIf (tOrF (tNotF (tVal (eOp [.s 1] (isiX "Feed" [.tup])))) (tNotF (tVal (eOp [.v (eComp (iSeqF (eVar 1)) [2] (tgN 2) cYes (eAndF (eCall fn__law_is_integer [] [.v (eVar 2)]) (eChain (.v (eC (.int 0))) (.s 2) (.v (eOp [.s 0] lenO)) (fun i j => decide (i ≤ j)) (fun i j => decide (i < j)))))] allO)))) (sRet (eTup [.v (eC (.str "kept")), .v (eOp [.v (eC (.int 1))] negO)]))
    sSkip)
    (sRet (eIfF (tVal (eOp [.v (eComp (iRng2F (.v (eC (.int 1))) (.v (eOp [.s 1] lenO))) [3] (tgN 3) cYes (eOp [.v (eOp [.s 1, .v (eOp [.s 3, .v (eC (.int 1))] opSub)] ixO), .v (eOp [.s 1, .s 3] ixO)] opLt))] allO)) (eC .non) (eTup [.v (eC (.str "kept")), .v (eOp [.v (eC (.int 1))] negO)]))))))
def fn__law_due : Fn := defF 4 [] fb__law_due
theorem ok__law_due (x : Fx K mg) : FnOk P w K mg base (L2.CX P w) 3 x.a__law_due x.fd__law_due ["_law_batches_here", "_law_kept_here"] (spOf K mg [] 2 fn__law_due) :=
  def_ok (ms := []) (N := N__law_due) (fb := fb__law_due) x.F__law_due sc__law_due rfl rfl rfl (by decide) fun cdv A outer s H E hr => by
    have tk := takes_of (X := cxOf (L2.CX P w) P w K mg base N__law_due "_law_due" (defScope st__law_due) x.a__law_due cdv A outer s H E) (E := E) rfl rfl rfl rfl
    have hp := passes_of (X := cxOf (L2.CX P w) P w K mg base N__law_due "_law_due" (defScope st__law_due) x.a__law_due cdv A outer s H E) rfl
    exact (sss_cons (ss_if (et_bo (ew_or (et_not (et_val (ev_isiX x.g_Feed x.n7_Feed rfl rfl x.z_isinstance (ek_s 0 (pv 0)) (tyn rfl x.z_tuple jb_tuple)))) (ew_or1 (et_not (et_chain op_le op_le (ek_v ev_int) (ek_v (ev_callB cr_len lenO_ok rfl x.z_len jb_len (eas_cons (ek_s 0 (pv 0)) eas_nil))) (ek_v ev_int)))))) (sss_one (ss_ret (ev_tup (eas_cons (ek_v ev_str) (eas_cons (ek_v (ev_un un_neg negO_ok (ek_v ev_int))) eas_nil)))))
    sss_nil)
    (sss_cons (ss_for hp rfl (si_rng1 rfl x.z_range (eas_cons (ek_v (ev_callB cr_len lenO_ok rfl x.z_len jb_len (eas_cons (ek_s 0 (pv 0)) eas_nil))) eas_nil)) (sg_name (i := 2) sc__law_due.nd rfl (Or.inl rfl) rfl) (sss_one (ss_if (et_not (et_val (ev_call (ok__law_is_batch x) (hr.mono (by decide)) rfl x.g__law_is_batch x.k__law_is_batch x.b__law_is_batch tk rfl (eas_cons (ek_v (ev_ix ix_seq opIx_ok (ek_s 0 (pv 0)) (ek_s 2 (pv 2)) (fun _ _ => rfl))) eas_nil)))) (sss_one (ss_ret (ev_tup (eas_cons (ek_v ev_str) (eas_cons (ek_v (ev_var 2 (pv 2))) eas_nil)))))
    sss_nil)))
    (sss_cons (ss_if (et_bo (ew_or (et_not (et_val (ev_isiX x.g_Feed x.n7_Feed rfl rfl x.z_isinstance (ek_s 1 (pv 1)) (tyn rfl x.z_tuple jb_tuple)))) (ew_or1 (et_not (et_val (ev_callB (cr_all rfl) allO_ok rfl x.z_all jb_all (eas_cons (ek_v (ev_comp (own := [("_law_hour", 2)]) rfl rfl sc__law_due.nd (si_seq (ev_var 1 (pv 1))) (blk_of rfl) rfl (fun _ _ _ _ _ => (sg_name (i := 2) sc__law_due.nd rfl (by first | exact Or.inl rfl | exact Or.inr rfl) rfl)) (fun _ _ _ _ _ => sc_nil) (fun _ _ _ _ _ => (ev_and (ev_call (ok__law_is_integer x) (hr.mono (by decide)) rfl x.g__law_is_integer x.k__law_is_integer x.b__law_is_integer takes0 rfl (eas_cons (ek_v (ev_var 2 (pv 2))) eas_nil)) (ev_one (ev_chain op_le op_lt (ek_v ev_int) (ek_s 2 (pv 2)) (ek_v (ev_callB cr_len lenO_ok rfl x.z_len jb_len (eas_cons (ek_s 0 (pv 0)) eas_nil))))))))) eas_nil))))))) (sss_one (ss_ret (ev_tup (eas_cons (ek_v ev_str) (eas_cons (ek_v (ev_un un_neg negO_ok (ek_v ev_int))) eas_nil)))))
    sss_nil)
    (sss_one (ss_ret (ev_if (et_val (ev_callB (cr_all rfl) allO_ok rfl x.z_all jb_all (eas_cons (ek_v (ev_comp (own := [("_law_at", 3)]) rfl rfl sc__law_due.nd (si_rng2 rfl x.z_range (eas_cons (ek_v ev_int) (eas_cons (ek_v (ev_callB cr_len lenO_ok rfl x.z_len jb_len (eas_cons (ek_s 1 (pv 1)) eas_nil))) eas_nil))) (blk_of rfl) rfl (fun _ _ _ _ _ => (sg_name (i := 3) sc__law_due.nd rfl (by first | exact Or.inl rfl | exact Or.inr rfl) rfl)) (fun _ _ _ _ _ => sc_nil) (fun _ _ _ _ _ => (ev_cmp op_lt opLt_ok (ek_v (ev_ix ix_seq opIx_ok (ek_s 1 (pv 1)) (ek_v (ev_bin op_sub opSub_ok (ek_s 3 (pv 3)) (ek_v ev_int))) (fun _ _ => rfl))) (ek_v (ev_ix ix_seq opIx_ok (ek_s 1 (pv 1)) (ek_s 3 (pv 3)) (fun _ _ => rfl))) (nomark _))))) eas_nil))) ev_non (ev_tup (eas_cons (ek_v ev_str) (eas_cons (ek_v (ev_un un_neg negO_ok (ek_v ev_int))) eas_nil)))))))))

abbrev N__law_bent_batch : List Str := ["_law_hand_here", "_law_batch_here", "_law_feed", "_law_at", "_law_odd", "_law_pairs", "_law_pair", "_law_things"]
theorem sc__law_bent_batch : FnScope N__law_bent_batch ["_law_hand_here", "_law_batch_here", "_law_feed"] (defScope st__law_bent_batch) := ⟨rfl, rfl, rfl, by decide +kernel, rfl, by decide +kernel, by decide +kernel⟩
def fb__law_bent_batch : Fs :=
    (sSeq (sSet 3 (eCall fn__law_draw [0] [.s 0, .v (eOp [.v (eOp [.s 1] lenO), .v (eC (.int 1))] opAdd)]))
    (sSeq (sSet 4 (eOp [.v (eLst [.v (eC .non), .v (eOp [.v (eC (.int 1))] negO), .v (eC (.int 1000)), .v (eC (.bl true)), .v (eC (.str "1")), .v (eTup [.v (eC (.int 1))]), .v (eC (.int 0)), .v (eC (.int 999)), .v (eOp [.v (eC (.int 10)), .v (eC (.int 50))] opPow), .v (eCall fn__law_deep [0] [.s 0]), .v (eVar 2), .v (eC (.bl false)), .v (eC (.int 1)), .v eD0]), .v (eCall fn__law_draw [0] [.s 0, .v (eC (.int 14))])] ixO))
    (sSeq (sSet 5 (eLst [.v (eTup [.v (eVar 4), .v (eC (.int 1))]), .v (eTup [.v (eC (.int 3)), .v (eVar 4)]), .v (eTup [.v (eC (.int 1)), .v (eC (.int 2)), .v (eC (.int 3))]), .v (eTup [.v (eC (.int 1))]), .v (eLst [.v (eC (.int 1)), .v (eC (.int 2))]), .v (eVar 4), .v (eTup [.v (eC (.int 1)), .v (eC (.bl true))]), .v (eTup [.v (eC (.int 0)), .v (eC (.int 0))]), .v (eTup [.v (eC (.int 999)), .v (eC .non)]), .v (eTup [.v (eC (.int 5)), .v (eOp [.v (eC (.int 10)), .v (eC (.int 59))] opPow)])]))
    (sSeq (sSet 6 (eOp [.s 5, .v (eCall fn__law_draw [0] [.s 0, .v (eC (.int 10))])] ixO))
    (sSeq (sSet 7 (eLst [.v (eOp [.v (eOp [.v (eOp [.s 1, .v (intF (eVar 3))] sl01), .v (eTup [.v (eVar 6)])] opAdd), .v (eOp [.s 1, .v (intF (eVar 3))] sl10)] opAdd), .v (eOp [.v (eOp [.v (eOp [.s 1, .v (intF (eVar 3))] sl01), .v (eTup [.v (eVar 6)])] opAdd), .v (eOp [.s 1, .v (intF (eOp [.s 3, .v (eC (.int 1))] opAdd))] sl10)] opAdd), .v (eOp [.s 1] revTO), .v (eOp [.s 1, .v (eOp [.s 1, .v (intF (eOp [.v (eC (.int 1))] negO))] sl10)] opAdd)]))
    (sSeq (sSet 7 (eOp [.s 7, .v (eLst [.v (eOp [.s 1] listO), .v (eVar 4), .v (eTup [.v (eVar 1)]), .v (eOp [.v (eOp [.s 1, .v (intF (eVar 3))] sl01), .v (eOp [.s 1, .v (intF (eOp [.s 3, .v (eC (.int 1))] opAdd))] sl10)] opAdd)])] opAdd))
    (sRet (eOp [.s 7, .v (eCall fn__law_draw [0] [.s 0, .v (eC (.int 8))])] ixO))))))))
def fn__law_bent_batch : Fn := defF 8 [0] fb__law_bent_batch
theorem ok__law_bent_batch (x : Fx K mg) : FnOk P w K mg base (L2.CX P w) 3 x.a__law_bent_batch x.fd__law_bent_batch ["_law_hand_here", "_law_batch_here", "_law_feed"] (spOf K mg [0] 3 fn__law_bent_batch) :=
  def_ok (ms := [0]) (N := N__law_bent_batch) (fb := fb__law_bent_batch) x.F__law_bent_batch sc__law_bent_batch rfl rfl rfl (by decide) fun cdv A outer s H E hr => by
    have tk := takes_of (X := cxOf (L2.CX P w) P w K mg base N__law_bent_batch "_law_bent_batch" (defScope st__law_bent_batch) x.a__law_bent_batch cdv A outer s H E) (E := E) rfl rfl rfl rfl
    have hp := passes_of (X := cxOf (L2.CX P w) P w K mg base N__law_bent_batch "_law_bent_batch" (defScope st__law_bent_batch) x.a__law_bent_batch cdv A outer s H E) rfl
    exact (sss_cons (ss_set (i := 3) sc__law_bent_batch.nd rfl (Or.inl rfl) rfl (ev_call (ok__law_draw x) (hr.mono (by decide)) rfl x.g__law_draw x.k__law_draw x.b__law_draw tk rfl (eas_cons (ek_s 0 (pv 0)) (eas_cons (ek_v (ev_bin op_add4 opAdd_ok (ek_v (ev_callB cr_len lenO_ok rfl x.z_len jb_len (eas_cons (ek_s 1 (pv 1)) eas_nil))) (ek_v ev_int))) eas_nil))))
    (sss_cons (ss_set (i := 4) sc__law_bent_batch.nd rfl (Or.inl rfl) rfl (ev_ix ix_seq opIx_ok (ek_v (ev_lst (eas_cons (ek_v ev_non) (eas_cons (ek_v (ev_un un_neg negO_ok (ek_v ev_int))) (eas_cons (ek_v ev_int) (eas_cons (ek_v ev_bl) (eas_cons (ek_v ev_str) (eas_cons (ek_v (ev_tup (eas_cons (ek_v ev_int) eas_nil))) (eas_cons (ek_v ev_int) (eas_cons (ek_v ev_int) (eas_cons (ek_v (ev_bin op_pow opPow_ok (ek_v ev_int) (ek_v ev_int))) (eas_cons (ek_v (ev_call (ok__law_deep x) (hr.mono (by decide)) rfl x.g__law_deep x.k__law_deep x.b__law_deep tk rfl (eas_cons (ek_s 0 (pv 0)) eas_nil))) (eas_cons (ek_v (ev_var 2 (pv 2))) (eas_cons (ek_v ev_bl) (eas_cons (ek_v ev_int) (eas_cons (ek_v ev_d0) eas_nil)))))))))))))))) (ek_v (ev_call (ok__law_draw x) (hr.mono (by decide)) rfl x.g__law_draw x.k__law_draw x.b__law_draw tk rfl (eas_cons (ek_s 0 (pv 0)) (eas_cons (ek_v ev_int) eas_nil)))) (fun _ _ => rfl)))
    (sss_cons (ss_set (i := 5) sc__law_bent_batch.nd rfl (Or.inl rfl) rfl (ev_lst (eas_cons (ek_v (ev_tup (eas_cons (ek_v (ev_var 4 (pv 4))) (eas_cons (ek_v ev_int) eas_nil)))) (eas_cons (ek_v (ev_tup (eas_cons (ek_v ev_int) (eas_cons (ek_v (ev_var 4 (pv 4))) eas_nil)))) (eas_cons (ek_v (ev_tup (eas_cons (ek_v ev_int) (eas_cons (ek_v ev_int) (eas_cons (ek_v ev_int) eas_nil))))) (eas_cons (ek_v (ev_tup (eas_cons (ek_v ev_int) eas_nil))) (eas_cons (ek_v (ev_lst (eas_cons (ek_v ev_int) (eas_cons (ek_v ev_int) eas_nil)))) (eas_cons (ek_v (ev_var 4 (pv 4))) (eas_cons (ek_v (ev_tup (eas_cons (ek_v ev_int) (eas_cons (ek_v ev_bl) eas_nil)))) (eas_cons (ek_v (ev_tup (eas_cons (ek_v ev_int) (eas_cons (ek_v ev_int) eas_nil)))) (eas_cons (ek_v (ev_tup (eas_cons (ek_v ev_int) (eas_cons (ek_v ev_non) eas_nil)))) (eas_cons (ek_v (ev_tup (eas_cons (ek_v ev_int) (eas_cons (ek_v (ev_bin op_pow opPow_ok (ek_v ev_int) (ek_v ev_int))) eas_nil)))) eas_nil))))))))))))
    (sss_cons (ss_set (i := 6) sc__law_bent_batch.nd rfl (Or.inl rfl) rfl (ev_ix ix_seq opIx_ok (ek_s 5 (pv 5)) (ek_v (ev_call (ok__law_draw x) (hr.mono (by decide)) rfl x.g__law_draw x.k__law_draw x.b__law_draw tk rfl (eas_cons (ek_s 0 (pv 0)) (eas_cons (ek_v ev_int) eas_nil)))) (fun _ _ => rfl)))
    (sss_cons (ss_set (i := 7) sc__law_bent_batch.nd rfl (Or.inl rfl) rfl (ev_lst (eas_cons (ek_v (ev_bin op_add4 opAdd_ok (ek_v (ev_bin op_add4 opAdd_ok (ek_v (ev_sl01 (ek_s 1 (pv 1)) (ev_var 3 (pv 3)))) (ek_v (ev_tup (eas_cons (ek_v (ev_var 6 (pv 6))) eas_nil))))) (ek_v (ev_sl10 (ek_s 1 (pv 1)) (ev_var 3 (pv 3)))))) (eas_cons (ek_v (ev_bin op_add4 opAdd_ok (ek_v (ev_bin op_add4 opAdd_ok (ek_v (ev_sl01 (ek_s 1 (pv 1)) (ev_var 3 (pv 3)))) (ek_v (ev_tup (eas_cons (ek_v (ev_var 6 (pv 6))) eas_nil))))) (ek_v (ev_sl10 (ek_s 1 (pv 1)) (ev_bin op_add4 opAdd_ok (ek_s 3 (pv 3)) (ek_v ev_int)))))) (eas_cons (ek_v (ev_revT (ek_s 1 (pv 1)))) (eas_cons (ek_v (ev_bin op_add4 opAdd_ok (ek_s 1 (pv 1)) (ek_v (ev_sl10 (ek_s 1 (pv 1)) (ev_un un_neg negO_ok (ek_v ev_int)))))) eas_nil))))))
    (sss_cons (ss_set (i := 7) sc__law_bent_batch.nd rfl (Or.inl rfl) rfl (ev_bin op_add4 opAdd_ok (ek_s 7 (pv 7)) (ek_v (ev_lst (eas_cons (ek_v (ev_callTy call_list_of listO_ok rfl x.z_list jb_list (eas_cons (ek_s 1 (pv 1)) eas_nil))) (eas_cons (ek_v (ev_var 4 (pv 4))) (eas_cons (ek_v (ev_tup (eas_cons (ek_v (ev_var 1 (pv 1))) eas_nil))) (eas_cons (ek_v (ev_bin op_add4 opAdd_ok (ek_v (ev_sl01 (ek_s 1 (pv 1)) (ev_var 3 (pv 3)))) (ek_v (ev_sl10 (ek_s 1 (pv 1)) (ev_bin op_add4 opAdd_ok (ek_s 3 (pv 3)) (ek_v ev_int)))))) eas_nil))))))))
    (sss_one (ss_ret (ev_ix ix_seq opIx_ok (ek_s 7 (pv 7)) (ek_v (ev_call (ok__law_draw x) (hr.mono (by decide)) rfl x.g__law_draw x.k__law_draw x.b__law_draw tk rfl (eas_cons (ek_s 0 (pv 0)) (eas_cons (ek_v ev_int) eas_nil)))) (fun _ _ => rfl))))))))))

abbrev N__law_many : List Str := ["_law_hand_here", "_law_key"]
theorem sc__law_many : FnScope N__law_many ["_law_hand_here"] (defScope st__law_many) := ⟨rfl, rfl, rfl, by decide +kernel, rfl, by decide +kernel, by decide +kernel⟩
def fb__law_many : Fs :=
    (sRet (eOp [.v (eComp (iRng1F (.v (eOp [.v (eC (.int 60)), .v (eCall fn__law_draw [0] [.s 0, .v (eC (.int 2))])] opAdd))) [1] (tgN 1) cYes (eTup [.v (eOp [.v (eC (.int 3)), .s 1] opMul), .v (eIfF (tVal (eOp [.v (eCall fn__law_draw [0] [.s 0, .v (eC (.int 5))]), .v (eC (.int 0))] (eqO false))) (eC .non) (eOp [.v (eC (.int 10)), .v (eC (.int 59))] opPow))]))] tupO))
def fn__law_many : Fn := defF 2 [0] fb__law_many
theorem ok__law_many (x : Fx K mg) : FnOk P w K mg base (L2.CX P w) 2 x.a__law_many x.fd__law_many ["_law_hand_here"] (spOf K mg [0] 1 fn__law_many) :=
  def_ok (ms := [0]) (N := N__law_many) (fb := fb__law_many) x.F__law_many sc__law_many rfl rfl rfl (by decide) fun cdv A outer s H E hr => by
    have tk := takes_of (X := cxOf (L2.CX P w) P w K mg base N__law_many "_law_many" (defScope st__law_many) x.a__law_many cdv A outer s H E) (E := E) rfl rfl rfl rfl
    have hp := passes_of (X := cxOf (L2.CX P w) P w K mg base N__law_many "_law_many" (defScope st__law_many) x.a__law_many cdv A outer s H E) rfl
    exact (sss_one (ss_ret (ev_callTy call_tuple_of tupO_ok rfl x.z_tuple jb_tuple (eas_cons (ek_v (ev_comp (own := [("_law_key", 1)]) rfl rfl sc__law_many.nd (si_rng1 rfl x.z_range (eas_cons (ek_v (ev_bin op_add4 opAdd_ok (ek_v ev_int) (ek_v (ev_call (ok__law_draw x) (hr.mono (by decide)) rfl x.g__law_draw x.k__law_draw x.b__law_draw tk rfl (eas_cons (ek_s 0 (pv 0)) (eas_cons (ek_v ev_int) eas_nil)))))) eas_nil)) (blk_of rfl) rfl (fun _ _ _ _ _ => (sg_name (i := 1) sc__law_many.nd rfl (by first | exact Or.inl rfl | exact Or.inr rfl) rfl)) (fun _ _ _ _ _ => sc_nil) (fun _ _ _ _ _ => (ev_tup (eas_cons (ek_v (ev_bin op_mul4 opMul_ok (ek_v ev_int) (ek_s 1 (pv 1)))) (eas_cons (ek_v (ev_if (et_cmp (op_eqD (hu64 hr)) opEq_ok (ek_v (ev_call (ok__law_draw x) (hr.mono (by decide)) rfl x.g__law_draw x.k__law_draw x.b__law_draw takes0 rfl (eas_cons (ek_s 0 (pv 0)) (eas_cons (ek_v ev_int) eas_nil)))) (ek_v ev_int) (nomark _)) ev_non (ev_bin op_pow opPow_ok (ek_v ev_int) (ek_v ev_int)))) eas_nil)))))) eas_nil))))

abbrev N__law_word : List Str := ["_law_batches_here", "_law_kept_here", "_law_word_here", "_law_made", "e"]
theorem sc__law_word : FnScope N__law_word ["_law_batches_here", "_law_kept_here"] (defScope st__law_word) := ⟨rfl, rfl, rfl, by decide +kernel, rfl, by decide +kernel, by decide +kernel⟩
def fb__law_word : Fs :=
    (sSeq (sSet 2 (eTup [.v (eC (.str "let")), .v (eC .non)]))
    (sSeq (sTryF (sSeq (sSet 3 (eMakeX "Feed" fn_Feed_init [.v (eVar 0), .v (eVar 1)]))
    (sIf (tOrF (tNotF (tVal (eOp [.v (eOp [.s 3] (fldO "Feed" "batches")), .s 0] (borO (fn__law_is 8))))) (tNotF (tVal (eOp [.v (eOp [.s 3] (fldO "Feed" "kept")), .s 1] (borO (fn__law_is 8)))))) (sSet 2 (eTup [.v (eC (.str "other")), .v (eC .non)]))
    sSkip)) 4 [false, false, true, false, true] [("BadFeed", ["at", "part"], (sSeq (sSet 2 (eTup [.v (eC (.str "other")), .v (eC .non)]))
    (sIf (tAndF (tVal (eIsX 4 true)) (tVal (eIsX 4 true))) (sSet 2 (eTup [.v (eXf 4 "part"), .v (eXf 4 "at")]))
    sSkip)))])
    (sRet (eMove 2))))
def fn__law_word : Fn := defF 5 [] fb__law_word
theorem ok__law_word (x : Fx K mg) : FnOk P w K mg base (L2.CX P w) 10 x.a__law_word x.fd__law_word ["_law_batches_here", "_law_kept_here"] (spOf K mg [] 2 fn__law_word) :=
  def_ok (ms := []) (N := N__law_word) (fb := fb__law_word) x.F__law_word sc__law_word rfl rfl rfl (by decide) fun cdv A outer s H E hr => by
    have tk := takes_of (X := cxOf (L2.CX P w) P w K mg base N__law_word "_law_word" (defScope st__law_word) x.a__law_word cdv A outer s H E) (E := E) rfl rfl rfl rfl
    have hp := passes_of (X := cxOf (L2.CX P w) P w K mg base N__law_word "_law_word" (defScope st__law_word) x.a__law_word cdv A outer s H E) rfl
    exact (sss_cons (ss_set (i := 2) sc__law_word.nd rfl (Or.inl rfl) rfl (ev_tup (eas_cons (ek_v ev_str) (eas_cons (ek_v ev_non) eas_nil))))
    (sss_cons (ss_tryF (i := 4) rfl rfl sc__law_word.nd rfl rfl ⟨rfl, by decide, .inl x.xg_ShelfError⟩ tk rfl rfl (by decide) (fun W pn xe tk hp => (sss_cons (ss_set (i := 3) sc__law_word.nd rfl (Or.inl rfl) rfl (ev_makeX x.M_Feed (ok_Feed_init x) (hr.mono (by decide)) rfl x.g_Feed x.b_Feed_init tk rfl (eas_cons (ek_v (ev_var 0 (pv 0))) (eas_cons (ek_v (ev_var 1 (pv 1))) eas_nil))))
    (sss_one (ss_if (et_bo (ew_or (et_not (et_val (ev_callBor (ok__law_is x 8) (hr.mono (by decide)) rfl x.g__law_is x.k__law_is x.b__law_is tk rfl (eas_cons (ek_v (ev_fld x.i_Feed_batches (ek_s 3 (pv 3)))) (eas_cons (ek_s 0 (pv 0)) eas_nil))))) (ew_or1 (et_not (et_val (ev_callBor (ok__law_is x 8) (hr.mono (by decide)) rfl x.g__law_is x.k__law_is x.b__law_is tk rfl (eas_cons (ek_v (ev_fld x.i_Feed_kept (ek_s 3 (pv 3)))) (eas_cons (ek_s 1 (pv 1)) eas_nil)))))))) (sss_one (ss_set (i := 2) sc__law_word.nd rfl (Or.inl rfl) rfl (ev_tup (eas_cons (ek_v ev_str) (eas_cons (ek_v ev_non) eas_nil)))))
    sss_nil)))) x.z_exc
    (.consD x.xg_BadFeed x.em_BadFeed_ShelfError (fun a oe pn dd hz hfl => (sss_cons_m (ss_set_m (i := 2) sc__law_word.nd rfl (Or.inl rfl) rfl (ev_tup_m (eas_cons_m (ek_v_m ev_str_m) (eas_cons_m (ek_v_m ev_non_m) eas_nil_m))))
    (sss_one_m (ss_if_m (et_bo_m (ew_and_m (et_val_m (ev_isED x.xc_BadFeed hz hfl rfl rfl x.z_isinstance (pv 4) (cls_own rfl x.xg_BadFeed) x.kt_BadFeed_BadFeed)) (ew_and1_m (et_val_m (ev_isED x.xc_BadFeed hz hfl rfl rfl x.z_isinstance (pv 4) (cls_ty rfl x.z_ValueError jb_ValueError) x.kt_BadFeed_ValueError))))) (sss_one_m (ss_set_m (i := 2) sc__law_word.nd rfl (Or.inl rfl) rfl (ev_tup_m (eas_cons_m (ek_v_m (ev_xf x.xf_BadFeed x.nf_BadFeed_part hz hfl (pv 4))) (eas_cons_m (ek_v_m (ev_xf x.xf_BadFeed x.nf_BadFeed_at hz hfl (pv 4))) eas_nil_m)))))
    sss_nil_m)))) .nil))
    (sss_one (ss_ret (ev_move 2 (pv 2))))))

abbrev N__law_bent_feed : List Str := ["_law_hand_here", "_law_batches_here", "_law_kept_here", "_law_feed", "_law_kind", "_law_at", "_law_whole", "_law_odd", "_law_some"]
theorem sc__law_bent_feed : FnScope N__law_bent_feed ["_law_hand_here", "_law_batches_here", "_law_kept_here", "_law_feed"] (defScope st__law_bent_feed) := ⟨rfl, rfl, rfl, by decide +kernel, rfl, by decide +kernel, by decide +kernel⟩
def fb__law_bent_feed : Fs :=
    (sSeq (sSet 4 (eCall fn__law_draw [0] [.s 0, .v (eC (.int 6))]))
    (sSeq (sSet 5 (eCall fn__law_draw [0] [.s 0, .v (eOp [.s 1] lenO)]))
    (sSeq (sIf (tVal (eOp [.s 4, .v (eC (.int 2))] opLt)) (sRet (eTup [.v (eOp [.v (eOp [.v (eOp [.s 1, .v (intF (eVar 5))] sl01), .v (eTup [.v (eCall fn__law_bent_batch [0] [.s 0, .v (eOp [.s 1, .s 5] ixO), .v (eVar 3)])])] opAdd), .v (eOp [.s 1, .v (intF (eOp [.s 5, .v (eC (.int 1))] opAdd))] sl10)] opAdd), .v (eVar 2)]))
    sSkip)
    (sSeq (sIf (tVal (eOp [.s 4, .v (eC (.int 2))] (eqO false))) (sSeq (sSet 6 (eLst [.v (eTup []), .v (eOp [.s 1] listO), .v (eC .non), .v (eOp [.s 1, .v (eC (.int 0))] ixO), .v (eOp [.v (eOp [.s 1, .v (eC (.int 41))] opRepT2), .v (intF (eC (.int 40)))] sl01), .v (eOp [.v (eOp [.s 1, .v (eC (.int 41))] opRepT2), .v (intF (eC (.int 41)))] sl01), .v (eVar 3), .v (eC (.int 0))]))
    (sSeq (sExpr (eMeth isL 6 [.v (eCall fn__law_deep [0] [.s 0])] appM))
    (sRet (eTup [.v (eOp [.s 6, .v (eCall fn__law_draw [0] [.s 0, .v (eC (.int 9))])] ixO), .v (eVar 2)]))))
    sSkip)
    (sSeq (sSet 7 (eOp [.v (eLst [.v (eOp [.s 1] lenO), .v (eOp [.v (eC (.int 1))] negO), .v (eC (.bl true)), .v (eC .non), .v (eC (.str "0")), .v (eTup [.v (eC (.int 0))]), .v (eC (.int 0)), .v (eOp [.v (eOp [.s 1] lenO), .v (eC (.int 1))] opSub), .v (eCall fn__law_deep [0] [.s 0])]), .v (eCall fn__law_draw [0] [.s 0, .v (eC (.int 9))])] ixO))
    (sSeq (sSet 8 (eLst [.v (eOp [.s 2, .v (eTup [.v (eVar 7)])] opAdd), .v (eOp [.v (eTup [.v (eVar 7)]), .s 2] opAdd), .v (eOp [.s 2] revTO), .v (eOp [.s 2] listO), .v (eC .non), .v (eOp [.s 2, .v (eOp [.s 2, .v (intF (eOp [.v (eC (.int 1))] negO))] sl10)] opAdd), .v (eC (.int 0)), .v (eVar 3), .v (eTup [.v (eVar 7), .v (eVar 7)])]))
    (sRet (eTup [.v (eVar 1), .v (eOp [.s 8, .v (eCall fn__law_draw [0] [.s 0, .v (eC (.int 9))])] ixO)]))))))))
def fn__law_bent_feed : Fn := defF 9 [0] fb__law_bent_feed
theorem ok__law_bent_feed (x : Fx K mg) : FnOk P w K mg base (L2.CX P w) 4 x.a__law_bent_feed x.fd__law_bent_feed ["_law_hand_here", "_law_batches_here", "_law_kept_here", "_law_feed"] (spOf K mg [0] 4 fn__law_bent_feed) :=
  def_ok (ms := [0]) (N := N__law_bent_feed) (fb := fb__law_bent_feed) x.F__law_bent_feed sc__law_bent_feed rfl rfl rfl (by decide) fun cdv A outer s H E hr => by
    have tk := takes_of (X := cxOf (L2.CX P w) P w K mg base N__law_bent_feed "_law_bent_feed" (defScope st__law_bent_feed) x.a__law_bent_feed cdv A outer s H E) (E := E) rfl rfl rfl rfl
    have hp := passes_of (X := cxOf (L2.CX P w) P w K mg base N__law_bent_feed "_law_bent_feed" (defScope st__law_bent_feed) x.a__law_bent_feed cdv A outer s H E) rfl
    exact (sss_cons (ss_set (i := 4) sc__law_bent_feed.nd rfl (Or.inl rfl) rfl (ev_call (ok__law_draw x) (hr.mono (by decide)) rfl x.g__law_draw x.k__law_draw x.b__law_draw tk rfl (eas_cons (ek_s 0 (pv 0)) (eas_cons (ek_v ev_int) eas_nil))))
    (sss_cons (ss_set (i := 5) sc__law_bent_feed.nd rfl (Or.inl rfl) rfl (ev_call (ok__law_draw x) (hr.mono (by decide)) rfl x.g__law_draw x.k__law_draw x.b__law_draw tk rfl (eas_cons (ek_s 0 (pv 0)) (eas_cons (ek_v (ev_callB cr_len lenO_ok rfl x.z_len jb_len (eas_cons (ek_s 1 (pv 1)) eas_nil))) eas_nil))))
    (sss_cons (ss_if (et_cmp op_lt opLt_ok (ek_s 4 (pv 4)) (ek_v ev_int) (nomark _)) (sss_one (ss_ret (ev_tup (eas_cons (ek_v (ev_bin op_add4 opAdd_ok (ek_v (ev_bin op_add4 opAdd_ok (ek_v (ev_sl01 (ek_s 1 (pv 1)) (ev_var 5 (pv 5)))) (ek_v (ev_tup (eas_cons (ek_v (ev_call (ok__law_bent_batch x) (hr.mono (by decide)) rfl x.g__law_bent_batch x.k__law_bent_batch x.b__law_bent_batch tk rfl (eas_cons (ek_s 0 (pv 0)) (eas_cons (ek_v (ev_ix ix_seq opIx_ok (ek_s 1 (pv 1)) (ek_s 5 (pv 5)) (fun _ _ => rfl))) (eas_cons (ek_v (ev_var 3 (pv 3))) eas_nil))))) eas_nil))))) (ek_v (ev_sl10 (ek_s 1 (pv 1)) (ev_bin op_add4 opAdd_ok (ek_s 5 (pv 5)) (ek_v ev_int)))))) (eas_cons (ek_v (ev_var 2 (pv 2))) eas_nil)))))
    sss_nil)
    (sss_cons (ss_if (et_cmp (op_eqD (hu64 hr)) opEq_ok (ek_s 4 (pv 4)) (ek_v ev_int) (nomark _)) (sss_cons (ss_set (i := 6) sc__law_bent_feed.nd rfl (Or.inl rfl) rfl (ev_lst (eas_cons (ek_v (ev_tup eas_nil)) (eas_cons (ek_v (ev_callTy call_list_of listO_ok rfl x.z_list jb_list (eas_cons (ek_s 1 (pv 1)) eas_nil))) (eas_cons (ek_v ev_non) (eas_cons (ek_v (ev_ix ix_seq opIx_ok (ek_s 1 (pv 1)) (ek_v ev_int) (fun _ _ => rfl))) (eas_cons (ek_v (ev_sl01 (ek_v (ev_bin op_repT2 opRepT2_ok (ek_s 1 (pv 1)) (ek_v ev_int))) ev_int)) (eas_cons (ek_v (ev_sl01 (ek_v (ev_bin op_repT2 opRepT2_ok (ek_s 1 (pv 1)) (ek_v ev_int))) ev_int)) (eas_cons (ek_v (ev_var 3 (pv 3))) (eas_cons (ek_v ev_int) eas_nil))))))))))
    (sss_cons (ss_expr (ev_append (pv 6) (eas_cons (ek_v (ev_call (ok__law_deep x) (hr.mono (by decide)) rfl x.g__law_deep x.k__law_deep x.b__law_deep tk rfl (eas_cons (ek_s 0 (pv 0)) eas_nil))) eas_nil)))
    (sss_one (ss_ret (ev_tup (eas_cons (ek_v (ev_ix ix_seq opIx_ok (ek_s 6 (pv 6)) (ek_v (ev_call (ok__law_draw x) (hr.mono (by decide)) rfl x.g__law_draw x.k__law_draw x.b__law_draw tk rfl (eas_cons (ek_s 0 (pv 0)) (eas_cons (ek_v ev_int) eas_nil)))) (fun _ _ => rfl))) (eas_cons (ek_v (ev_var 2 (pv 2))) eas_nil)))))))
    sss_nil)
    (sss_cons (ss_set (i := 7) sc__law_bent_feed.nd rfl (Or.inl rfl) rfl (ev_ix ix_seq opIx_ok (ek_v (ev_lst (eas_cons (ek_v (ev_callB cr_len lenO_ok rfl x.z_len jb_len (eas_cons (ek_s 1 (pv 1)) eas_nil))) (eas_cons (ek_v (ev_un un_neg negO_ok (ek_v ev_int))) (eas_cons (ek_v ev_bl) (eas_cons (ek_v ev_non) (eas_cons (ek_v ev_str) (eas_cons (ek_v (ev_tup (eas_cons (ek_v ev_int) eas_nil))) (eas_cons (ek_v ev_int) (eas_cons (ek_v (ev_bin op_sub opSub_ok (ek_v (ev_callB cr_len lenO_ok rfl x.z_len jb_len (eas_cons (ek_s 1 (pv 1)) eas_nil))) (ek_v ev_int))) (eas_cons (ek_v (ev_call (ok__law_deep x) (hr.mono (by decide)) rfl x.g__law_deep x.k__law_deep x.b__law_deep tk rfl (eas_cons (ek_s 0 (pv 0)) eas_nil))) eas_nil))))))))))) (ek_v (ev_call (ok__law_draw x) (hr.mono (by decide)) rfl x.g__law_draw x.k__law_draw x.b__law_draw tk rfl (eas_cons (ek_s 0 (pv 0)) (eas_cons (ek_v ev_int) eas_nil)))) (fun _ _ => rfl)))
    (sss_cons (ss_set (i := 8) sc__law_bent_feed.nd rfl (Or.inl rfl) rfl (ev_lst (eas_cons (ek_v (ev_bin op_add4 opAdd_ok (ek_s 2 (pv 2)) (ek_v (ev_tup (eas_cons (ek_v (ev_var 7 (pv 7))) eas_nil))))) (eas_cons (ek_v (ev_bin op_add4 opAdd_ok (ek_v (ev_tup (eas_cons (ek_v (ev_var 7 (pv 7))) eas_nil))) (ek_s 2 (pv 2)))) (eas_cons (ek_v (ev_revT (ek_s 2 (pv 2)))) (eas_cons (ek_v (ev_callTy call_list_of listO_ok rfl x.z_list jb_list (eas_cons (ek_s 2 (pv 2)) eas_nil))) (eas_cons (ek_v ev_non) (eas_cons (ek_v (ev_bin op_add4 opAdd_ok (ek_s 2 (pv 2)) (ek_v (ev_sl10 (ek_s 2 (pv 2)) (ev_un un_neg negO_ok (ek_v ev_int)))))) (eas_cons (ek_v ev_int) (eas_cons (ek_v (ev_var 3 (pv 3))) (eas_cons (ek_v (ev_tup (eas_cons (ek_v (ev_var 7 (pv 7))) (eas_cons (ek_v (ev_var 7 (pv 7))) eas_nil)))) eas_nil)))))))))))
    (sss_one (ss_ret (ev_tup (eas_cons (ek_v (ev_var 1 (pv 1))) (eas_cons (ek_v (ev_ix ix_seq opIx_ok (ek_s 8 (pv 8)) (ek_v (ev_call (ok__law_draw x) (hr.mono (by decide)) rfl x.g__law_draw x.k__law_draw x.b__law_draw tk rfl (eas_cons (ek_s 0 (pv 0)) (eas_cons (ek_v ev_int) eas_nil)))) (fun _ _ => rfl))) eas_nil)))))))))))

abbrev N_law : List Str := ["_law_script", "_law_hand_here", "_law_hours", "_law_batches_here", "_law_kept_here", "_law_word_here", "_law_feed", "_law_turn", "_law_thing", "_law_some", "_law_others", "_law_due_here", "_law_batch_here"]
theorem sc_law : FnScope N_law ["_law_script"] (defScope st_law) := ⟨rfl, rfl, rfl, by decide +kernel, rfl, by decide +kernel, by decide +kernel⟩
def fb_law : Fs :=
    (sSeq (sSet 1 (eCall fn__law_hand [] [.v (eVar 0)]))
    (sSeq (sSet 2 (eOp [.v (eLst [.v (eOp [.v (eC (.int 1)), .v (eCall fn__law_draw [0] [.s 1, .v (eC (.int 8))])] opAdd), .v (eC (.int 40))]), .v (eOp [.v (eOp [.v (eCall fn__law_draw [0] [.s 1, .v (eC (.int 16))]), .v (eC (.int 0))] (eqO false))] intO)] ixO))
    (sSeq (sSet 3 (eCall fn__law_batches [0] [.s 1, .v (eVar 2), .v (eC (.int 9)), .v (eC (.int 5))]))
    (sSeq (sIf (tVal (eOp [.v (eCall fn__law_draw [0] [.s 1, .v (eC (.int 12))]), .v (eC (.int 0))] (eqO false))) (sSet 3 (eOp [.v (eOp [.s 3, .v (intF (eOp [.v (eC (.int 1))] negO))] sl01), .v (eTup [.v (eCall fn__law_many [0] [.s 1])])] opAdd))
    sSkip)
    (sSeq (sSet 4 (eCall fn__law_kept [0] [.s 1, .v (eVar 2)]))
    (sSeq (sSet 5 (eCall fn__law_due [] [.v (eVar 3), .v (eVar 4)]))
    (sSeq (sIf (tVal (eOp [.v (eCall fn__law_word [] [.v (eVar 3), .v (eVar 4)]), .v (eOp [.v (eLst [.v (eTup [.v (eC (.str "let")), .v (eC .non)]), .v (eVar 5)]), .v (eOp [.v (eOp [.s 5, .v (eC .non)] (isnO true))] intO)] ixO)] (eqO true))) (sRet (eC (.bl false)))
    sSkip)
    (sSeq (sSet 6 (eMakeX "Feed" fn_Feed_init [.v (eTup [.v (eTup [])]), .v (eTup [])]))
    (sSeq (sFor (iRng1F (.v (eC (.int 6)))) (tgN 7) (sSeq (sSet 8 (eCall fn__law_bent_batch [0] [.s 1, .v (eOp [.s 3, .v (eCall fn__law_draw [0] [.s 1, .v (eVar 2)])] ixO), .v (eVar 6)]))
    (sSeq (sIf (tNotF (tVal (eCall fn__law_flag [] [.v (eCall fn_is_batch [] [.v (eVar 8)]), .v (eCall fn__law_is_batch [] [.v (eVar 8)])]))) (sRet (eC (.bl false)))
    sSkip)
    (sSeq (sUnp (eCall fn__law_bent_feed [0] [.s 1, .v (eVar 3), .v (eVar 4), .v (eVar 6)]) (tgT [(tgN 9), (tgN 10)]))
    (sSeq (sSet 11 (eCall fn__law_due [] [.v (eVar 9), .v (eVar 10)]))
    (sIf (tVal (eOp [.v (eCall fn__law_word [] [.v (eVar 9), .v (eVar 10)]), .v (eOp [.v (eLst [.v (eTup [.v (eC (.str "let")), .v (eC .non)]), .v (eVar 11)]), .v (eOp [.v (eOp [.s 11, .v (eC .non)] (isnO true))] intO)] ixO)] (eqO true))) (sRet (eC (.bl false)))
    sSkip))))))
    (sRet (eOp [.v (eComp (iSeqF (eVar 3)) [12] (tgN 12) cYes (eCall fn__law_flag [] [.v (eCall fn_is_batch [] [.v (eVar 12)]), .v (eCall fn__law_is_batch [] [.v (eVar 12)])]))] allO)))))))))))
def fn_law : Fn := defF 13 [] fb_law
theorem ok_law (x : Fx K mg) : FnOk P w K mg base (L2.CX P w) 11 x.a_law x.fd_law ["_law_script"] (spOf K mg [] 1 fn_law) :=
  def_ok (ms := []) (N := N_law) (fb := fb_law) x.F_law sc_law rfl rfl rfl (by decide) fun cdv A outer s H E hr => by
    have tk := takes_of (X := cxOf (L2.CX P w) P w K mg base N_law "law" (defScope st_law) x.a_law cdv A outer s H E) (E := E) rfl rfl rfl rfl
    have hp := passes_of (X := cxOf (L2.CX P w) P w K mg base N_law "law" (defScope st_law) x.a_law cdv A outer s H E) rfl
    exact (sss_cons (ss_set (i := 1) sc_law.nd rfl (Or.inl rfl) rfl (ev_call (ok__law_hand x) (hr.mono (by decide)) rfl x.g__law_hand x.k__law_hand x.b__law_hand tk rfl (eas_cons (ek_v (ev_var 0 (pv 0))) eas_nil)))
    (sss_cons (ss_set (i := 2) sc_law.nd rfl (Or.inl rfl) rfl (ev_ix ix_seq opIx_ok (ek_v (ev_lst (eas_cons (ek_v (ev_bin op_add4 opAdd_ok (ek_v ev_int) (ek_v (ev_call (ok__law_draw x) (hr.mono (by decide)) rfl x.g__law_draw x.k__law_draw x.b__law_draw tk rfl (eas_cons (ek_s 1 (pv 1)) (eas_cons (ek_v ev_int) eas_nil)))))) (eas_cons (ek_v ev_int) eas_nil)))) (ek_v (ev_callTy call_int1 intO_ok rfl x.z_int jb_int (eas_cons (ek_v (ev_cmp (op_eqD (hu64 hr)) opEq_ok (ek_v (ev_call (ok__law_draw x) (hr.mono (by decide)) rfl x.g__law_draw x.k__law_draw x.b__law_draw tk rfl (eas_cons (ek_s 1 (pv 1)) (eas_cons (ek_v ev_int) eas_nil)))) (ek_v ev_int) (nomark _))) eas_nil))) (fun _ _ => rfl)))
    (sss_cons (ss_set (i := 3) sc_law.nd rfl (Or.inl rfl) rfl (ev_call (ok__law_batches x) (hr.mono (by decide)) rfl x.g__law_batches x.k__law_batches x.b__law_batches tk rfl (eas_cons (ek_s 1 (pv 1)) (eas_cons (ek_v (ev_var 2 (pv 2))) (eas_cons (ek_v ev_int) (eas_cons (ek_v ev_int) eas_nil))))))
    (sss_cons (ss_if (et_cmp (op_eqD (hu64 hr)) opEq_ok (ek_v (ev_call (ok__law_draw x) (hr.mono (by decide)) rfl x.g__law_draw x.k__law_draw x.b__law_draw tk rfl (eas_cons (ek_s 1 (pv 1)) (eas_cons (ek_v ev_int) eas_nil)))) (ek_v ev_int) (nomark _)) (sss_one (ss_set (i := 3) sc_law.nd rfl (Or.inl rfl) rfl (ev_bin op_add4 opAdd_ok (ek_v (ev_sl01 (ek_s 3 (pv 3)) (ev_un un_neg negO_ok (ek_v ev_int)))) (ek_v (ev_tup (eas_cons (ek_v (ev_call (ok__law_many x) (hr.mono (by decide)) rfl x.g__law_many x.k__law_many x.b__law_many tk rfl (eas_cons (ek_s 1 (pv 1)) eas_nil))) eas_nil))))))
    sss_nil)
    (sss_cons (ss_set (i := 4) sc_law.nd rfl (Or.inl rfl) rfl (ev_call (ok__law_kept x) (hr.mono (by decide)) rfl x.g__law_kept x.k__law_kept x.b__law_kept tk rfl (eas_cons (ek_s 1 (pv 1)) (eas_cons (ek_v (ev_var 2 (pv 2))) eas_nil))))
    (sss_cons (ss_set (i := 5) sc_law.nd rfl (Or.inl rfl) rfl (ev_call (ok__law_due x) (hr.mono (by decide)) rfl x.g__law_due x.k__law_due x.b__law_due tk rfl (eas_cons (ek_v (ev_var 3 (pv 3))) (eas_cons (ek_v (ev_var 4 (pv 4))) eas_nil))))
    (sss_cons (ss_if (et_cmp (op_neD (hu64 hr)) opNe_ok (ek_v (ev_call (ok__law_word x) (hr.mono (by decide)) rfl x.g__law_word x.k__law_word x.b__law_word tk rfl (eas_cons (ek_v (ev_var 3 (pv 3))) (eas_cons (ek_v (ev_var 4 (pv 4))) eas_nil)))) (ek_v (ev_ix ix_seq opIx_ok (ek_v (ev_lst (eas_cons (ek_v (ev_tup (eas_cons (ek_v ev_str) (eas_cons (ek_v ev_non) eas_nil)))) (eas_cons (ek_v (ev_var 5 (pv 5))) eas_nil)))) (ek_v (ev_callTy call_int1 intO_ok rfl x.z_int jb_int (eas_cons (ek_v (ev_cmp op_notN opNotn_ok (ek_s 5 (pv 5)) (ek_v ev_non) (nomark _))) eas_nil))) (fun _ _ => rfl))) (nomark _)) (sss_one (ss_ret ev_bl))
    sss_nil)
    (sss_cons (ss_set (i := 6) sc_law.nd rfl (Or.inl rfl) rfl (ev_makeX x.M_Feed (ok_Feed_init x) (hr.mono (by decide)) rfl x.g_Feed x.b_Feed_init tk rfl (eas_cons (ek_v (ev_tup (eas_cons (ek_v (ev_tup eas_nil)) eas_nil))) (eas_cons (ek_v (ev_tup eas_nil)) eas_nil))))
    (sss_cons (ss_for hp rfl (si_rng1 rfl x.z_range (eas_cons (ek_v ev_int) eas_nil)) (sg_name (i := 7) sc_law.nd rfl (Or.inl rfl) rfl) (sss_cons (ss_set (i := 8) sc_law.nd rfl (Or.inl rfl) rfl (ev_call (ok__law_bent_batch x) (hr.mono (by decide)) rfl x.g__law_bent_batch x.k__law_bent_batch x.b__law_bent_batch tk rfl (eas_cons (ek_s 1 (pv 1)) (eas_cons (ek_v (ev_ix ix_seq opIx_ok (ek_s 3 (pv 3)) (ek_v (ev_call (ok__law_draw x) (hr.mono (by decide)) rfl x.g__law_draw x.k__law_draw x.b__law_draw tk rfl (eas_cons (ek_s 1 (pv 1)) (eas_cons (ek_v (ev_var 2 (pv 2))) eas_nil)))) (fun _ _ => rfl))) (eas_cons (ek_v (ev_var 6 (pv 6))) eas_nil)))))
    (sss_cons (ss_if (et_not (et_val (ev_call (ok__law_flag x) (hr.mono (by decide)) rfl x.g__law_flag x.k__law_flag x.b__law_flag tk rfl (eas_cons (ek_v (ev_call (ok_is_batch x) (hr.mono (by decide)) rfl x.g_is_batch x.k_is_batch x.b_is_batch tk rfl (eas_cons (ek_v (ev_var 8 (pv 8))) eas_nil))) (eas_cons (ek_v (ev_call (ok__law_is_batch x) (hr.mono (by decide)) rfl x.g__law_is_batch x.k__law_is_batch x.b__law_is_batch tk rfl (eas_cons (ek_v (ev_var 8 (pv 8))) eas_nil))) eas_nil))))) (sss_one (ss_ret ev_bl))
    sss_nil)
    (sss_cons (ss_unpack (ev_call (ok__law_bent_feed x) (hr.mono (by decide)) rfl x.g__law_bent_feed x.k__law_bent_feed x.b__law_bent_feed tk rfl (eas_cons (ek_s 1 (pv 1)) (eas_cons (ek_v (ev_var 3 (pv 3))) (eas_cons (ek_v (ev_var 4 (pv 4))) (eas_cons (ek_v (ev_var 6 (pv 6))) eas_nil))))) (sg_tup rfl (sgs_cons (sg_name (i := 9) sc_law.nd rfl (Or.inl rfl) rfl) (sgs_cons (sg_name (i := 10) sc_law.nd rfl (Or.inl rfl) rfl) sgs_nil))))
    (sss_cons (ss_set (i := 11) sc_law.nd rfl (Or.inl rfl) rfl (ev_call (ok__law_due x) (hr.mono (by decide)) rfl x.g__law_due x.k__law_due x.b__law_due tk rfl (eas_cons (ek_v (ev_var 9 (pv 9))) (eas_cons (ek_v (ev_var 10 (pv 10))) eas_nil))))
    (sss_one (ss_if (et_cmp (op_neD (hu64 hr)) opNe_ok (ek_v (ev_call (ok__law_word x) (hr.mono (by decide)) rfl x.g__law_word x.k__law_word x.b__law_word tk rfl (eas_cons (ek_v (ev_var 9 (pv 9))) (eas_cons (ek_v (ev_var 10 (pv 10))) eas_nil)))) (ek_v (ev_ix ix_seq opIx_ok (ek_v (ev_lst (eas_cons (ek_v (ev_tup (eas_cons (ek_v ev_str) (eas_cons (ek_v ev_non) eas_nil)))) (eas_cons (ek_v (ev_var 11 (pv 11))) eas_nil)))) (ek_v (ev_callTy call_int1 intO_ok rfl x.z_int jb_int (eas_cons (ek_v (ev_cmp op_notN opNotn_ok (ek_s 11 (pv 11)) (ek_v ev_non) (nomark _))) eas_nil))) (fun _ _ => rfl))) (nomark _)) (sss_one (ss_ret ev_bl))
    sss_nil)))))))
    (sss_one (ss_ret (ev_callB (cr_all rfl) allO_ok rfl x.z_all jb_all (eas_cons (ek_v (ev_comp (own := [("_law_batch_here", 12)]) rfl rfl sc_law.nd (si_seq (ev_var 3 (pv 3))) (blk_of rfl) rfl (fun _ _ _ _ _ => (sg_name (i := 12) sc_law.nd rfl (by first | exact Or.inl rfl | exact Or.inr rfl) rfl)) (fun _ _ _ _ _ => sc_nil) (fun _ _ _ _ _ => (ev_call (ok__law_flag x) (hr.mono (by decide)) rfl x.g__law_flag x.k__law_flag x.b__law_flag takes0 rfl (eas_cons (ek_v (ev_call (ok_is_batch x) (hr.mono (by decide)) rfl x.g_is_batch x.k_is_batch x.b_is_batch takes0 rfl (eas_cons (ek_v (ev_var 12 (pv 12))) eas_nil))) (eas_cons (ek_v (ev_call (ok__law_is_batch x) (hr.mono (by decide)) rfl x.g__law_is_batch x.k__law_is_batch x.b__law_is_batch takes0 rfl (eas_cons (ek_v (ev_var 12 (pv 12))) eas_nil))) eas_nil)))))) eas_nil)))))))))))))

end
theorem all_mk {l : PySem.W.OpenLaw} {w : World} {K : PySem.W.Frag} {h : Heap} {mg : Str → Option Value} {fa f0 f1 f2 f3 f4 f5 f6 f7 f8 f9 f10 f11 f12 f13 f14 f15 f16 f17 f18 f19 f20 f21 f22 f23 f24 : Addr} (X : K.In h) (G : h.Ns mainGlobals mg) (hfa : mg "law" = some (.ref fa))
    {od0 an0 od1 an1 od2 an2 od3 an3 od4 an4 od5 an5 od6 an6 od7 an7 od8 an8 od9 an9 od10 an10 od11 an11 od12 an12 od13 an13 od14 an14 od15 an15 od16 an16 od17 an17 od18 an18 od19 an19 od20 an20 od21 an21 od22 an22 od23 an23 od24 an24 : Option Addr} {sl0 sl1 sl2 sl3 sl4 sl5 sl6 sl7 sl8 sl9 sl10 sl11 sl12 sl13 sl14 sl15 sl16 sl17 sl18 sl19 sl20 sl21 sl22 sl23 sl24 : Array (Option Value)} {oc0 kV0 dc0 pm0 cd0 ct0 oc1 kV1 dc1 pm1 cd1 ct1 oc2 kV2 dc2 pm2 cd2 ct2 oc3 kV3 dc3 pm3 cd3 ct3 oc4 kV4 dc4 pm4 cd4 ct4 oc5 kV5 dc5 pm5 cd5 ct5 oc6 kV6 dc6 pm6 cd6 ct6 oc7 kV7 dc7 pm7 cd7 ct7 oc8 kV8 dc8 pm8 cd8 ct8 oc9 kV9 dc9 pm9 cd9 ct9 oc10 kV10 dc10 pm10 cd10 ct10 oc11 kV11 dc11 pm11 cd11 ct11 oc12 kV12 dc12 pm12 cd12 ct12 oc13 kV13 dc13 pm13 cd13 ct13 oc14 kV14 dc14 pm14 cd14 ct14 oc15 kV15 dc15 pm15 cd15 ct15 oc16 kV16 dc16 pm16 cd16 ct16 oc17 kV17 dc17 pm17 cd17 ct17 oc18 kV18 dc18 pm18 cd18 ct18 oc19 kV19 dc19 pm19 cd19 ct19 oc20 kV20 dc20 pm20 cd20 ct20 oc21 kV21 dc21 pm21 cd21 ct21 oc22 kV22 dc22 pm22 cd22 ct22 oc23 kV23 dc23 pm23 cd23 ct23 oc24 kV24 dc24 pm24 cd24 ct24 : Value}
    {C_Feed : Addr} (aC_Feed : PySem.W.nsIn K mainGlobals "Feed" = some (some (.ref C_Feed))) (pg_Feed : PySem.W.plainGet K C_Feed Str.empty = true) (hd_Feed : PySem.W.hasDictIn K C_Feed = true) (po_Feed : PySem.W.plainOver K C_Feed = true) (sa_Feed : PySem.W.findIn K (.ref C_Feed) "__setattr__" = some (some (.builtin "object.__setattr__"))) (mk_Feed : PySem.W.makesIn K C_Feed = true) (kc_Feed : PySem.W.keepIn K (.ref C_Feed) = true)
    (na_Feed : PySem.W.findIn K (.ref C_Feed) "__class__" = some (some (.builtin "object.__class__"))) (nn_Feed : PySem.W.specialIn K (.builtin "object.__class__") "__get__" = some (some (.builtin "getset_descriptor.__get__"))) (nt_Feed : PySem.W.takesIn K (.builtin "object.__class__") = some true) (nm_Feed : PySem.W.mroIn K C_Feed (.type "object") = some true)
   (nknon_Feed : PySem.W.subIn K (.ref C_Feed) (.type "NoneType") = some false) (nkbl_Feed : PySem.W.subIn K (.ref C_Feed) (.type "bool") = some false) (nkint_Feed : PySem.W.subIn K (.ref C_Feed) (.type "int") = some false) (nkstr_Feed : PySem.W.subIn K (.ref C_Feed) (.type "str") = some false) (nktup_Feed : PySem.W.subIn K (.ref C_Feed) (.type "tuple") = some false) (nklst_Feed : PySem.W.subIn K (.ref C_Feed) (.type "list") = some false) (nkdct_Feed : PySem.W.subIn K (.ref C_Feed) (.type "dict") = some false)
    {C_BadFeed : Addr} (aX_BadFeed : PySem.W.nsIn K mainGlobals "BadFeed" = some (some (.ref C_BadFeed))) (sX_BadFeed : PySem.W.subIn K (.ref C_BadFeed) (.type "BaseException") = some true) (tX_BadFeed : PySem.W.typeIn K (.ref C_BadFeed) = some (.type "type"))
    {C_ShelfError : Addr} (aX_ShelfError : PySem.W.nsIn K mainGlobals "ShelfError" = some (some (.ref C_ShelfError))) (sX_ShelfError : PySem.W.subIn K (.ref C_ShelfError) (.type "BaseException") = some true) (tX_ShelfError : PySem.W.typeIn K (.ref C_ShelfError) = some (.type "type"))
    (dX_BadFeed : PySem.W.hasDictIn K C_BadFeed = true)
    (dX_ShelfError : PySem.W.hasDictIn K C_ShelfError = true)
    (qI_BadFeed : PySem.W.excInitIn K C_BadFeed [.type "ValueError", .type "Exception", .type "BaseException", .type "object"] "ValueError.__new__" = true) (sI_BadFeed : PySem.W.findIn K (.ref C_BadFeed) "__setattr__" = some (some (.builtin "object.__setattr__"))) (kI_BadFeed : PySem.W.keepIn K (.ref C_BadFeed) = true)
    (nF_BadFeed_part : PySem.W.findIn K (.ref C_BadFeed) "part" = some none)
    (nF_BadFeed_at : PySem.W.findIn K (.ref C_BadFeed) "at" = some none)
    (zx : PySem.W.nsIn K mainGlobals "<exc>" = some none)
    (ya_BadFeed : PySem.W.findIn K (.ref C_BadFeed) "__getattribute__" = some (some (.builtin "BaseException.__getattribute__"))) (yb_BadFeed : PySem.W.findIn K (.ref C_BadFeed) "__getattr__" = some none) (yc_BadFeed : PySem.W.findIn K (.ref C_BadFeed) "__class__" = some (some (.builtin "object.__class__"))) (yd_BadFeed : PySem.W.specialIn K (.builtin "object.__class__") "__get__" = some (some (.builtin "getset_descriptor.__get__"))) (ye_BadFeed : PySem.W.takesIn K (.builtin "object.__class__") = some true) (yf_BadFeed : PySem.W.mroIn K C_BadFeed (.type "object") = some true)
    (u_BadFeed_ShelfError : PySem.W.subIn K (.ref C_BadFeed) (.ref C_ShelfError) = some true)
    (u_BadFeed_ValueError : PySem.W.subIn K (.ref C_BadFeed) (.type "ValueError") = some true)
    (n_Feed_batches : PySem.W.findIn K (.ref C_Feed) "batches" = some none)
    (n_Feed_kept : PySem.W.findIn K (.ref C_Feed) "kept" = some none)
    (a0 : PySem.W.findIn K (.ref C_BadFeed) "__init__" = some (some (.ref f0))) (i0 : PySem.W.typeIn K (.ref f0) = some (.type "function")) (l0 : K.lookup f0 = some ⟨oc0, od0, .func (PySem.W.fnOf "__init__" "BadFeed.__init__" (defArgs st_BadFeed_init) (defBody st_BadFeed_init) (defScope st_BadFeed_init) .none kV0 dc0 pm0 an0 cd0 ct0), sl0⟩) (c0 : PySem.W.codeIn K cd0 "BadFeed.__init__" = true) (k0 : PySem.W.keepIn K (.ref f0) = true)
    (a1 : PySem.W.nsIn K mainGlobals "is_integer" = some (some (.ref f1))) (l1 : K.lookup f1 = some ⟨oc1, od1, .func (PySem.W.fnOf "is_integer" "is_integer" (defArgs st_is_integer) (defBody st_is_integer) (defScope st_is_integer) .none kV1 dc1 pm1 an1 cd1 ct1), sl1⟩) (c1 : PySem.W.codeIn K cd1 "is_integer" = true) (k1 : PySem.W.keepIn K (.ref f1) = true)
    (a2 : PySem.W.nsIn K mainGlobals "is_within" = some (some (.ref f2))) (l2 : K.lookup f2 = some ⟨oc2, od2, .func (PySem.W.fnOf "is_within" "is_within" (defArgs st_is_within) (defBody st_is_within) (defScope st_is_within) .none kV2 dc2 pm2 an2 cd2 ct2), sl2⟩) (c2 : PySem.W.codeIn K cd2 "is_within" = true) (k2 : PySem.W.keepIn K (.ref f2) = true)
    (a3 : PySem.W.nsIn K mainGlobals "is_pair" = some (some (.ref f3))) (l3 : K.lookup f3 = some ⟨oc3, od3, .func (PySem.W.fnOf "is_pair" "is_pair" (defArgs st_is_pair) (defBody st_is_pair) (defScope st_is_pair) .none kV3 dc3 pm3 an3 cd3 ct3), sl3⟩) (c3 : PySem.W.codeIn K cd3 "is_pair" = true) (k3 : PySem.W.keepIn K (.ref f3) = true)
    (a4 : PySem.W.nsIn K mainGlobals "is_ascending" = some (some (.ref f4))) (l4 : K.lookup f4 = some ⟨oc4, od4, .func (PySem.W.fnOf "is_ascending" "is_ascending" (defArgs st_is_ascending) (defBody st_is_ascending) (defScope st_is_ascending) .none kV4 dc4 pm4 an4 cd4 ct4), sl4⟩) (c4 : PySem.W.codeIn K cd4 "is_ascending" = true) (k4 : PySem.W.keepIn K (.ref f4) = true)
    (a5 : PySem.W.nsIn K mainGlobals "is_key" = some (some (.ref f5))) (l5 : K.lookup f5 = some ⟨oc5, od5, .func (PySem.W.fnOf "is_key" "is_key" (defArgs st_is_key) (defBody st_is_key) (defScope st_is_key) .none kV5 dc5 pm5 an5 cd5 ct5), sl5⟩) (c5 : PySem.W.codeIn K cd5 "is_key" = true) (k5 : PySem.W.keepIn K (.ref f5) = true)
    (a6 : PySem.W.nsIn K mainGlobals "is_told" = some (some (.ref f6))) (l6 : K.lookup f6 = some ⟨oc6, od6, .func (PySem.W.fnOf "is_told" "is_told" (defArgs st_is_told) (defBody st_is_told) (defScope st_is_told) .none kV6 dc6 pm6 an6 cd6 ct6), sl6⟩) (c6 : PySem.W.codeIn K cd6 "is_told" = true) (k6 : PySem.W.keepIn K (.ref f6) = true)
    (a7 : PySem.W.nsIn K mainGlobals "is_batch" = some (some (.ref f7))) (l7 : K.lookup f7 = some ⟨oc7, od7, .func (PySem.W.fnOf "is_batch" "is_batch" (defArgs st_is_batch) (defBody st_is_batch) (defScope st_is_batch) .none kV7 dc7 pm7 an7 cd7 ct7), sl7⟩) (c7 : PySem.W.codeIn K cd7 "is_batch" = true) (k7 : PySem.W.keepIn K (.ref f7) = true)
    (a8 : PySem.W.findIn K (.ref C_Feed) "__init__" = some (some (.ref f8))) (i8 : PySem.W.isFn K (.ref f8) = true) (l8 : K.lookup f8 = some ⟨oc8, od8, .func (PySem.W.fnOf "__init__" "Feed.__init__" (defArgs st_Feed_init) (defBody st_Feed_init) (defScope st_Feed_init) .none kV8 dc8 pm8 an8 cd8 ct8), sl8⟩) (c8 : PySem.W.codeIn K cd8 "Feed.__init__" = true) (k8 : PySem.W.keepIn K (.ref f8) = true)
    (a9 : PySem.W.nsIn K mainGlobals "_law_hand" = some (some (.ref f9))) (l9 : K.lookup f9 = some ⟨oc9, od9, .func (PySem.W.fnOf "_law_hand" "_law_hand" (defArgs st__law_hand) (defBody st__law_hand) (defScope st__law_hand) .none kV9 dc9 pm9 an9 cd9 ct9), sl9⟩) (c9 : PySem.W.codeIn K cd9 "_law_hand" = true) (k9 : PySem.W.keepIn K (.ref f9) = true)
    (a10 : PySem.W.nsIn K mainGlobals "_law_draw" = some (some (.ref f10))) (l10 : K.lookup f10 = some ⟨oc10, od10, .func (PySem.W.fnOf "_law_draw" "_law_draw" (defArgs st__law_draw) (defBody st__law_draw) (defScope st__law_draw) .none kV10 dc10 pm10 an10 cd10 ct10), sl10⟩) (c10 : PySem.W.codeIn K cd10 "_law_draw" = true) (k10 : PySem.W.keepIn K (.ref f10) = true)
    (a11 : PySem.W.nsIn K mainGlobals "_law_is" = some (some (.ref f11))) (l11 : K.lookup f11 = some ⟨oc11, od11, .func (PySem.W.fnOf "_law_is" "_law_is" (defArgs st__law_is) (defBody st__law_is) (defScope st__law_is) .none kV11 dc11 pm11 an11 cd11 ct11), sl11⟩) (c11 : PySem.W.codeIn K cd11 "_law_is" = true) (k11 : PySem.W.keepIn K (.ref f11) = true)
    (a12 : PySem.W.nsIn K mainGlobals "_law_flag" = some (some (.ref f12))) (l12 : K.lookup f12 = some ⟨oc12, od12, .func (PySem.W.fnOf "_law_flag" "_law_flag" (defArgs st__law_flag) (defBody st__law_flag) (defScope st__law_flag) .none kV12 dc12 pm12 an12 cd12 ct12), sl12⟩) (c12 : PySem.W.codeIn K cd12 "_law_flag" = true) (k12 : PySem.W.keepIn K (.ref f12) = true)
    (a13 : PySem.W.nsIn K mainGlobals "_law_deep" = some (some (.ref f13))) (l13 : K.lookup f13 = some ⟨oc13, od13, .func (PySem.W.fnOf "_law_deep" "_law_deep" (defArgs st__law_deep) (defBody st__law_deep) (defScope st__law_deep) .none kV13 dc13 pm13 an13 cd13 ct13), sl13⟩) (c13 : PySem.W.codeIn K cd13 "_law_deep" = true) (k13 : PySem.W.keepIn K (.ref f13) = true)
    (a14 : PySem.W.nsIn K mainGlobals "_law_batch" = some (some (.ref f14))) (l14 : K.lookup f14 = some ⟨oc14, od14, .func (PySem.W.fnOf "_law_batch" "_law_batch" (defArgs st__law_batch) (defBody st__law_batch) (defScope st__law_batch) .none kV14 dc14 pm14 an14 cd14 ct14), sl14⟩) (c14 : PySem.W.codeIn K cd14 "_law_batch" = true) (k14 : PySem.W.keepIn K (.ref f14) = true)
    (a15 : PySem.W.nsIn K mainGlobals "_law_batches" = some (some (.ref f15))) (l15 : K.lookup f15 = some ⟨oc15, od15, .func (PySem.W.fnOf "_law_batches" "_law_batches" (defArgs st__law_batches) (defBody st__law_batches) (defScope st__law_batches) .none kV15 dc15 pm15 an15 cd15 ct15), sl15⟩) (c15 : PySem.W.codeIn K cd15 "_law_batches" = true) (k15 : PySem.W.keepIn K (.ref f15) = true)
    (a16 : PySem.W.nsIn K mainGlobals "_law_kept" = some (some (.ref f16))) (l16 : K.lookup f16 = some ⟨oc16, od16, .func (PySem.W.fnOf "_law_kept" "_law_kept" (defArgs st__law_kept) (defBody st__law_kept) (defScope st__law_kept) .none kV16 dc16 pm16 an16 cd16 ct16), sl16⟩) (c16 : PySem.W.codeIn K cd16 "_law_kept" = true) (k16 : PySem.W.keepIn K (.ref f16) = true)
    (a17 : PySem.W.nsIn K mainGlobals "_law_is_integer" = some (some (.ref f17))) (l17 : K.lookup f17 = some ⟨oc17, od17, .func (PySem.W.fnOf "_law_is_integer" "_law_is_integer" (defArgs st__law_is_integer) (defBody st__law_is_integer) (defScope st__law_is_integer) .none kV17 dc17 pm17 an17 cd17 ct17), sl17⟩) (c17 : PySem.W.codeIn K cd17 "_law_is_integer" = true) (k17 : PySem.W.keepIn K (.ref f17) = true)
    (a18 : PySem.W.nsIn K mainGlobals "_law_is_batch" = some (some (.ref f18))) (l18 : K.lookup f18 = some ⟨oc18, od18, .func (PySem.W.fnOf "_law_is_batch" "_law_is_batch" (defArgs st__law_is_batch) (defBody st__law_is_batch) (defScope st__law_is_batch) .none kV18 dc18 pm18 an18 cd18 ct18), sl18⟩) (c18 : PySem.W.codeIn K cd18 "_law_is_batch" = true) (k18 : PySem.W.keepIn K (.ref f18) = true)
    (a19 : PySem.W.nsIn K mainGlobals "_law_due" = some (some (.ref f19))) (l19 : K.lookup f19 = some ⟨oc19, od19, .func (PySem.W.fnOf "_law_due" "_law_due" (defArgs st__law_due) (defBody st__law_due) (defScope st__law_due) .none kV19 dc19 pm19 an19 cd19 ct19), sl19⟩) (c19 : PySem.W.codeIn K cd19 "_law_due" = true) (k19 : PySem.W.keepIn K (.ref f19) = true)
    (a20 : PySem.W.nsIn K mainGlobals "_law_bent_batch" = some (some (.ref f20))) (l20 : K.lookup f20 = some ⟨oc20, od20, .func (PySem.W.fnOf "_law_bent_batch" "_law_bent_batch" (defArgs st__law_bent_batch) (defBody st__law_bent_batch) (defScope st__law_bent_batch) .none kV20 dc20 pm20 an20 cd20 ct20), sl20⟩) (c20 : PySem.W.codeIn K cd20 "_law_bent_batch" = true) (k20 : PySem.W.keepIn K (.ref f20) = true)
    (a21 : PySem.W.nsIn K mainGlobals "_law_many" = some (some (.ref f21))) (l21 : K.lookup f21 = some ⟨oc21, od21, .func (PySem.W.fnOf "_law_many" "_law_many" (defArgs st__law_many) (defBody st__law_many) (defScope st__law_many) .none kV21 dc21 pm21 an21 cd21 ct21), sl21⟩) (c21 : PySem.W.codeIn K cd21 "_law_many" = true) (k21 : PySem.W.keepIn K (.ref f21) = true)
    (a22 : PySem.W.nsIn K mainGlobals "_law_word" = some (some (.ref f22))) (l22 : K.lookup f22 = some ⟨oc22, od22, .func (PySem.W.fnOf "_law_word" "_law_word" (defArgs st__law_word) (defBody st__law_word) (defScope st__law_word) .none kV22 dc22 pm22 an22 cd22 ct22), sl22⟩) (c22 : PySem.W.codeIn K cd22 "_law_word" = true) (k22 : PySem.W.keepIn K (.ref f22) = true)
    (a23 : PySem.W.nsIn K mainGlobals "_law_bent_feed" = some (some (.ref f23))) (l23 : K.lookup f23 = some ⟨oc23, od23, .func (PySem.W.fnOf "_law_bent_feed" "_law_bent_feed" (defArgs st__law_bent_feed) (defBody st__law_bent_feed) (defScope st__law_bent_feed) .none kV23 dc23 pm23 an23 cd23 ct23), sl23⟩) (c23 : PySem.W.codeIn K cd23 "_law_bent_feed" = true) (k23 : PySem.W.keepIn K (.ref f23) = true)
    (a24 : PySem.W.nsIn K mainGlobals "law" = some (some (.ref f24))) (l24 : K.lookup f24 = some ⟨oc24, od24, .func (PySem.W.fnOf "law" "law" (defArgs st_law) (defBody st_law) (defScope st_law) .none kV24 dc24 pm24 an24 cd24 ct24), sl24⟩) (c24 : PySem.W.codeIn K cd24 "law" = true) (k24 : PySem.W.keepIn K (.ref f24) = true)
    {tk0 : Tok} (v0 : PySem.W.nsIn K mainGlobals "MOST_HOURS" = some (some (.int 40 tk0)))
    {tk1 : Tok} (v1 : PySem.W.nsIn K mainGlobals "MOST_KEY" = some (some (.int 999 tk1)))
    {tk2 : Tok} (v2 : PySem.W.nsIn K mainGlobals "MOST_PAIRS" = some (some (.int 60 tk2)))
    (z0 : PySem.W.nsIn K mainGlobals "ValueError" = some none)
    (z1 : PySem.W.nsIn K mainGlobals "abs" = some none)
    (z2 : PySem.W.nsIn K mainGlobals "all" = some none)
    (z3 : PySem.W.nsIn K mainGlobals "bool" = some none)
    (z4 : PySem.W.nsIn K mainGlobals "enumerate" = some none)
    (z5 : PySem.W.nsIn K mainGlobals "int" = some none)
    (z6 : PySem.W.nsIn K mainGlobals "isinstance" = some none)
    (z7 : PySem.W.nsIn K mainGlobals "len" = some none)
    (z8 : PySem.W.nsIn K mainGlobals "list" = some none)
    (z9 : PySem.W.nsIn K mainGlobals "range" = some none)
    (z10 : PySem.W.nsIn K mainGlobals "set" = some none)
    (z11 : PySem.W.nsIn K mainGlobals "sorted" = some none)
    (z12 : PySem.W.nsIn K mainGlobals "tuple" = some none)
    (z13 : PySem.W.nsIn K mainGlobals "zip" = some none)
    : ∃ fd : FuncData, (∀ (s : Shared) (v : Value), BindsTo s fd ⟨[v], []⟩ [("_law_script", v)]) ∧ ∀ base : Heap, K.In base → base.Ns mainGlobals mg → FnOk l.prog w K mg base (L2.CX l.prog w) 11 fa fd ["_law_script"] (spOf K mg [] 1 fn_law) := by
  have e := hfa.symm.trans (PySem.W.mg_of X G a24)
  cases e
  let x : Fx K mg := {
    a_Feed := C_Feed
    g_Feed := PySem.W.mg_of X G aC_Feed
    n7_Feed := ⟨⟨pg_Feed, hd_Feed, po_Feed, sa_Feed⟩, na_Feed, nn_Feed, nt_Feed, nm_Feed, kitNo fun b => match b with | .non => nknon_Feed | .bl => nkbl_Feed | .int => nkint_Feed | .str => nkstr_Feed | .tup => nktup_Feed | .lst => nklst_Feed | .dct => nkdct_Feed⟩
    x_BadFeed := C_BadFeed
    x_ShelfError := C_ShelfError
    o_BadFeed := oexc_of qI_BadFeed dX_BadFeed sI_BadFeed sX_BadFeed tX_BadFeed kI_BadFeed
    xf_BadFeed := ⟨ya_BadFeed, yb_BadFeed, sX_BadFeed, dX_BadFeed⟩
    nf_BadFeed_part := nF_BadFeed_part
    nf_BadFeed_at := nF_BadFeed_at
    z_exc := PySem.W.mg_none_of X G zx
    xg_BadFeed := PySem.W.mg_of X G aX_BadFeed
    xg_ShelfError := PySem.W.mg_of X G aX_ShelfError
    xc_BadFeed := ⟨ya_BadFeed, yb_BadFeed, sX_BadFeed, dX_BadFeed, yc_BadFeed, yd_BadFeed, ye_BadFeed, yf_BadFeed⟩
    em_BadFeed_ShelfError := PySem.W.exm_ref sX_ShelfError dX_ShelfError tX_ShelfError u_BadFeed_ShelfError
    kt_BadFeed_BadFeed := kit_self
    kt_BadFeed_ValueError := kit_tyx (by decide +kernel) u_BadFeed_ValueError
    i_Feed_batches := fun C h => by
      have e := h.symm.trans (PySem.W.mg_of X G aC_Feed)
      cases e
      exact ⟨⟨pg_Feed, hd_Feed, po_Feed, sa_Feed⟩, n_Feed_batches⟩
    i_Feed_kept := fun C h => by
      have e := h.symm.trans (PySem.W.mg_of X G aC_Feed)
      cases e
      exact ⟨⟨pg_Feed, hd_Feed, po_Feed, sa_Feed⟩, n_Feed_kept⟩
    a_BadFeed_init := f0
    fd_BadFeed_init := _
    F_BadFeed_init := fun_mk (st := st_BadFeed_init) l0 c0 k0
    b_BadFeed_init := (fun_mk (st := st_BadFeed_init) l0 c0 k0).binds (ps := ["self", "part", "at"]) fun _ _ _ _ _ _ us hl => match us, hl with | [_, _, _], _ => rfl
    ix_BadFeed := a0
    tx_BadFeed := i0
    a_is_integer := f1
    fd_is_integer := _
    F_is_integer := fun_mk (st := st_is_integer) l1 c1 k1
    b_is_integer := (fun_mk (st := st_is_integer) l1 c1 k1).binds (ps := ["thing"]) fun _ _ _ _ _ _ us hl => match us, hl with | [_], _ => rfl
    g_is_integer := PySem.W.mg_of X G a1
    k_is_integer := k1
    a_is_within := f2
    fd_is_within := _
    F_is_within := fun_mk (st := st_is_within) l2 c2 k2
    b_is_within := (fun_mk (st := st_is_within) l2 c2 k2).binds (ps := ["thing", "least", "most"]) fun _ _ _ _ _ _ us hl => match us, hl with | [_, _, _], _ => rfl
    g_is_within := PySem.W.mg_of X G a2
    k_is_within := k2
    a_is_pair := f3
    fd_is_pair := _
    F_is_pair := fun_mk (st := st_is_pair) l3 c3 k3
    b_is_pair := (fun_mk (st := st_is_pair) l3 c3 k3).binds (ps := ["thing"]) fun _ _ _ _ _ _ us hl => match us, hl with | [_], _ => rfl
    g_is_pair := PySem.W.mg_of X G a3
    k_is_pair := k3
    a_is_ascending := f4
    fd_is_ascending := _
    F_is_ascending := fun_mk (st := st_is_ascending) l4 c4 k4
    b_is_ascending := (fun_mk (st := st_is_ascending) l4 c4 k4).binds (ps := ["thing", "least", "most"]) fun _ _ _ _ _ _ us hl => match us, hl with | [_, _, _], _ => rfl
    g_is_ascending := PySem.W.mg_of X G a4
    k_is_ascending := k4
    a_is_key := f5
    fd_is_key := _
    F_is_key := fun_mk (st := st_is_key) l5 c5 k5
    b_is_key := (fun_mk (st := st_is_key) l5 c5 k5).binds (ps := ["thing"]) fun _ _ _ _ _ _ us hl => match us, hl with | [_], _ => rfl
    g_is_key := PySem.W.mg_of X G a5
    k_is_key := k5
    a_is_told := f6
    fd_is_told := _
    F_is_told := fun_mk (st := st_is_told) l6 c6 k6
    b_is_told := (fun_mk (st := st_is_told) l6 c6 k6).binds (ps := ["thing"]) fun _ _ _ _ _ _ us hl => match us, hl with | [_], _ => rfl
    g_is_told := PySem.W.mg_of X G a6
    k_is_told := k6
    a_is_batch := f7
    fd_is_batch := _
    F_is_batch := fun_mk (st := st_is_batch) l7 c7 k7
    b_is_batch := (fun_mk (st := st_is_batch) l7 c7 k7).binds (ps := ["thing"]) fun _ _ _ _ _ _ us hl => match us, hl with | [_], _ => rfl
    g_is_batch := PySem.W.mg_of X G a7
    k_is_batch := k7
    a_Feed_init := f8
    fd_Feed_init := _
    F_Feed_init := fun_mk (st := st_Feed_init) l8 c8 k8
    b_Feed_init := (fun_mk (st := st_Feed_init) l8 c8 k8).binds (ps := ["self", "batches", "kept"]) fun _ _ _ _ _ _ us hl => match us, hl with | [_, _, _], _ => rfl
    M_Feed := ⟨mk_Feed, a8, i8, kc_Feed⟩
    a__law_hand := f9
    fd__law_hand := _
    F__law_hand := fun_mk (st := st__law_hand) l9 c9 k9
    b__law_hand := (fun_mk (st := st__law_hand) l9 c9 k9).binds (ps := ["_law_script"]) fun _ _ _ _ _ _ us hl => match us, hl with | [_], _ => rfl
    g__law_hand := PySem.W.mg_of X G a9
    k__law_hand := k9
    a__law_draw := f10
    fd__law_draw := _
    F__law_draw := fun_mk (st := st__law_draw) l10 c10 k10
    b__law_draw := (fun_mk (st := st__law_draw) l10 c10 k10).binds (ps := ["_law_hand_here", "_law_many_here"]) fun _ _ _ _ _ _ us hl => match us, hl with | [_, _], _ => rfl
    g__law_draw := PySem.W.mg_of X G a10
    k__law_draw := k10
    a__law_is := f11
    fd__law_is := _
    F__law_is := fun_mk (st := st__law_is) l11 c11 k11
    b__law_is := (fun_mk (st := st__law_is) l11 c11 k11).binds (ps := ["_law_told", "_law_due_here"]) fun _ _ _ _ _ _ us hl => match us, hl with | [_, _], _ => rfl
    g__law_is := PySem.W.mg_of X G a11
    k__law_is := k11
    a__law_flag := f12
    fd__law_flag := _
    F__law_flag := fun_mk (st := st__law_flag) l12 c12 k12
    b__law_flag := (fun_mk (st := st__law_flag) l12 c12 k12).binds (ps := ["_law_told", "_law_due_here"]) fun _ _ _ _ _ _ us hl => match us, hl with | [_, _], _ => rfl
    g__law_flag := PySem.W.mg_of X G a12
    k__law_flag := k12
    a__law_deep := f13
    fd__law_deep := _
    F__law_deep := fun_mk (st := st__law_deep) l13 c13 k13
    b__law_deep := (fun_mk (st := st__law_deep) l13 c13 k13).binds (ps := ["_law_hand_here"]) fun _ _ _ _ _ _ us hl => match us, hl with | [_], _ => rfl
    g__law_deep := PySem.W.mg_of X G a13
    k__law_deep := k13
    a__law_batch := f14
    fd__law_batch := _
    F__law_batch := fun_mk (st := st__law_batch) l14 c14 k14
    b__law_batch := (fun_mk (st := st__law_batch) l14 c14 k14).binds (ps := ["_law_hand_here", "_law_keys", "_law_most"]) fun _ _ _ _ _ _ us hl => match us, hl with | [_, _, _], _ => rfl
    g__law_batch := PySem.W.mg_of X G a14
    k__law_batch := k14
    a__law_batches := f15
    fd__law_batches := _
    F__law_batches := fun_mk (st := st__law_batches) l15 c15 k15
    b__law_batches := (fun_mk (st := st__law_batches) l15 c15 k15).binds (ps := ["_law_hand_here", "_law_hours", "_law_keys", "_law_most"]) fun _ _ _ _ _ _ us hl => match us, hl with | [_, _, _, _], _ => rfl
    g__law_batches := PySem.W.mg_of X G a15
    k__law_batches := k15
    a__law_kept := f16
    fd__law_kept := _
    F__law_kept := fun_mk (st := st__law_kept) l16 c16 k16
    b__law_kept := (fun_mk (st := st__law_kept) l16 c16 k16).binds (ps := ["_law_hand_here", "_law_hours"]) fun _ _ _ _ _ _ us hl => match us, hl with | [_, _], _ => rfl
    g__law_kept := PySem.W.mg_of X G a16
    k__law_kept := k16
    a__law_is_integer := f17
    fd__law_is_integer := _
    F__law_is_integer := fun_mk (st := st__law_is_integer) l17 c17 k17
    b__law_is_integer := (fun_mk (st := st__law_is_integer) l17 c17 k17).binds (ps := ["_law_thing"]) fun _ _ _ _ _ _ us hl => match us, hl with | [_], _ => rfl
    g__law_is_integer := PySem.W.mg_of X G a17
    k__law_is_integer := k17
    a__law_is_batch := f18
    fd__law_is_batch := _
    F__law_is_batch := fun_mk (st := st__law_is_batch) l18 c18 k18
    b__law_is_batch := (fun_mk (st := st__law_is_batch) l18 c18 k18).binds (ps := ["_law_thing"]) fun _ _ _ _ _ _ us hl => match us, hl with | [_], _ => rfl
    g__law_is_batch := PySem.W.mg_of X G a18
    k__law_is_batch := k18
    a__law_due := f19
    fd__law_due := _
    F__law_due := fun_mk (st := st__law_due) l19 c19 k19
    b__law_due := (fun_mk (st := st__law_due) l19 c19 k19).binds (ps := ["_law_batches_here", "_law_kept_here"]) fun _ _ _ _ _ _ us hl => match us, hl with | [_, _], _ => rfl
    g__law_due := PySem.W.mg_of X G a19
    k__law_due := k19
    a__law_bent_batch := f20
    fd__law_bent_batch := _
    F__law_bent_batch := fun_mk (st := st__law_bent_batch) l20 c20 k20
    b__law_bent_batch := (fun_mk (st := st__law_bent_batch) l20 c20 k20).binds (ps := ["_law_hand_here", "_law_batch_here", "_law_feed"]) fun _ _ _ _ _ _ us hl => match us, hl with | [_, _, _], _ => rfl
    g__law_bent_batch := PySem.W.mg_of X G a20
    k__law_bent_batch := k20
    a__law_many := f21
    fd__law_many := _
    F__law_many := fun_mk (st := st__law_many) l21 c21 k21
    b__law_many := (fun_mk (st := st__law_many) l21 c21 k21).binds (ps := ["_law_hand_here"]) fun _ _ _ _ _ _ us hl => match us, hl with | [_], _ => rfl
    g__law_many := PySem.W.mg_of X G a21
    k__law_many := k21
    a__law_word := f22
    fd__law_word := _
    F__law_word := fun_mk (st := st__law_word) l22 c22 k22
    b__law_word := (fun_mk (st := st__law_word) l22 c22 k22).binds (ps := ["_law_batches_here", "_law_kept_here"]) fun _ _ _ _ _ _ us hl => match us, hl with | [_, _], _ => rfl
    g__law_word := PySem.W.mg_of X G a22
    k__law_word := k22
    a__law_bent_feed := f23
    fd__law_bent_feed := _
    F__law_bent_feed := fun_mk (st := st__law_bent_feed) l23 c23 k23
    b__law_bent_feed := (fun_mk (st := st__law_bent_feed) l23 c23 k23).binds (ps := ["_law_hand_here", "_law_batches_here", "_law_kept_here", "_law_feed"]) fun _ _ _ _ _ _ us hl => match us, hl with | [_, _, _, _], _ => rfl
    g__law_bent_feed := PySem.W.mg_of X G a23
    k__law_bent_feed := k23
    a_law := fa
    fd_law := _
    F_law := fun_mk (st := st_law) l24 c24 k24
    b_law := (fun_mk (st := st_law) l24 c24 k24).binds (ps := ["_law_script"]) fun _ _ _ _ _ _ us hl => match us, hl with | [_], _ => rfl
    g_law := PySem.W.mg_of X G a24
    k_law := k24
    t_MOST_HOURS := tk0
    c_MOST_HOURS := PySem.W.mg_of X G v0
    t_MOST_KEY := tk1
    c_MOST_KEY := PySem.W.mg_of X G v1
    t_MOST_PAIRS := tk2
    c_MOST_PAIRS := PySem.W.mg_of X G v2
    z_ValueError := PySem.W.mg_none_of X G z0
    z_abs := PySem.W.mg_none_of X G z1
    z_all := PySem.W.mg_none_of X G z2
    z_bool := PySem.W.mg_none_of X G z3
    z_enumerate := PySem.W.mg_none_of X G z4
    z_int := PySem.W.mg_none_of X G z5
    z_isinstance := PySem.W.mg_none_of X G z6
    z_len := PySem.W.mg_none_of X G z7
    z_list := PySem.W.mg_none_of X G z8
    z_range := PySem.W.mg_none_of X G z9
    z_set := PySem.W.mg_none_of X G z10
    z_sorted := PySem.W.mg_none_of X G z11
    z_tuple := PySem.W.mg_none_of X G z12
    z_zip := PySem.W.mg_none_of X G z13
  }
  exact ⟨x.fd_law, fun s v => .of_eq rfl, fun base _ _ => ok_law x⟩
set_option maxHeartbeats 100000000
local macro_rules | `(tactic| walk_at "jo_a") => `(tactic| first | with_reducible assumption | omega | (simp only [List.length_map, List.length_cons, List.length_nil, List.length_append, List.length_take, List.length_drop, List.length_range, List.length_zipIdx, List.length_replicate]; omega))
local macro_rules | `(tactic| walk_at "jo_n") => `(tactic| first
  | (simp only [resolve, putBack, backM, valsOf, wipeE, pickE, frz_int, frz_bl, frz_non, frz_str, frz_tup, frz_lf, frz_lt, frz_inst, frz_insf, frz_scr, frz_kt, frz_gl, frzL_nil, frzL_cons, frzIf, if_true, Bool.false_eq_true, if_false, frzL_cls, List.getElem?_cons_zero, List.getElem?_cons_succ, List.set_cons_zero, List.set_cons_succ, Option.map_some, Option.map_none, Option.bind_some, Function.comp_apply, id_eq]; first | done | with_reducible rfl | rfl)
  | with_reducible rfl
  | rfl)
local macro_rules | `(tactic| walk_at "jo_o") => `(tactic| first
  | with_reducible assumption
  | apply_assumption (transparency := .reducible) (exfalso := false) (symm := false) only [o_add, o_sub, o_lt, o_le, o_gt, o_ge, o_eq, o_ne, o_int, o_lenl, o_lent, o_neg, o_intb, o_abs, o_sum, o_min2, o_max2i, eq_ll, eq_llF, o_allR, o_tupF, o_listU, pow10_6, pow10_4, pow10_9, o_sort3t, o_sort3l]
  | ((with_reducible apply o_setIx); (· omega); (· rfl); (· walk_at "jo_a"))
  | ((with_reducible apply o_min); walk_at "jo_a")
  | ((with_reducible apply o_max); walk_at "jo_a")
  | ((with_reducible apply o_max2); walk_at "jo_a")
  | ((with_reducible apply o_max2t); walk_at "jo_a")
  | ((with_reducible apply o_tupT); walk_at "jo_n")
  | ((with_reducible apply o_listT); walk_at "jo_n")
  | ((with_reducible apply o_catT); walk_at "jo_a")
  | ((with_reducible apply o_catL); (· walk_at "jo_n"); (· walk_at "jo_n"); (· walk_at "jo_a"))
  | ((with_reducible apply o_app); walk_at "jo_a")
  | ((with_reducible apply o_s01m); (· walk_at "jo_a"); (· first | exact Int.toNat_natCast _ | rfl))
  | ((with_reducible apply o_s10m); (· walk_at "jo_a"); (· first | exact Int.toNat_natCast _ | rfl))
  | ((with_reducible apply o_s01tm); (· walk_at "jo_a"); (· first | exact Int.toNat_natCast _ | rfl))
  | ((with_reducible apply o_s10tm); (· walk_at "jo_a"); (· first | exact Int.toNat_natCast _ | rfl))
  | ((with_reducible apply o_s01t); walk_at "jo_a")
  | ((with_reducible apply o_s10t); walk_at "jo_a")
  | ((with_reducible apply o_s01l); (· walk_at "jo_n"); (· walk_at "jo_a"))
  | ((with_reducible apply o_s10l); (· walk_at "jo_n"); (· walk_at "jo_a"))
  | ((with_reducible apply o_isiT); rfl)
  | with_reducible exact isiX_ins _ _ _ _ _
  | ((with_reducible apply o_isiXT); rfl)
  | ((with_reducible apply o_isiXF); rfl)
  | with_reducible exact o_revT _
  | with_reducible exact pow10_30
  | ((with_reducible apply o_isiF); rfl)
  | ((with_reducible apply o_ixT); (· omega); (· rfl))
  | ((with_reducible apply o_ixLf); (· omega); (· rfl); (· rfl))
  | ((with_reducible apply o_mul); (first | exact mulR _ _ (by omega) | exact mulL _ _ (by omega)))
  | with_reducible exact eq_selfT (pl_ints _) (by decide)
  | with_reducible exact eq_selfF (pl_ints _) (by decide)
  | with_reducible exact eq_selfT (pl_lints _ _) (by decide)
  | with_reducible exact eq_selfF (pl_lints _ _) (by decide)
  | ((with_reducible apply o_bor); (· walk_at "jo_n"); (· assumption); (· rfl))
  | ((with_reducible apply o_mod); walk_at "jo_a"))
local macro_rules | `(tactic| walk_at "jo_go") => `(tactic| first
  | with_reducible assumption
  | ((with_reducible apply goP_fld); (· first | rfl | decide); (· rfl))
  | ((with_reducible apply goP_ix2); (· walk_at "jo_all"); (· walk_at "jo_all"); (· with_reducible assumption); (· with_reducible assumption); (· with_reducible assumption); (· with_reducible assumption); (· with_reducible assumption); (· with_reducible assumption))
  | ((with_reducible apply goP_ix); (· walk_at "jo_all"); (· walk_at "jo_a"); (· first | exact Int.toNat_natCast _ | rfl); (· first | with_reducible assumption | rfl)))
local macro_rules | `(tactic| walk_at "jo_u") => `(tactic| fail)
local macro_rules | `(tactic| walk_at "jo_all") => `(tactic| (repeat walk_at "jo1"))
local macro_rules | `(tactic| walk_at "jo_br") => `(tactic| first
  | ((with_reducible apply br_dt); (· with_reducible assumption))
  | ((with_reducible apply br_df); (· with_reducible assumption))
  | ((with_reducible apply br_ndt); (· with_reducible assumption))
  | ((with_reducible apply br_ndf); (· with_reducible assumption))
  | ((with_reducible apply br_dt); (· walk_at "jo_a"))
  | ((with_reducible apply br_df); (· walk_at "jo_a"))
  | ((with_reducible apply br_ndt); (· walk_at "jo_a"))
  | ((with_reducible apply br_ndf); (· walk_at "jo_a"))
  | ((with_reducible apply br_vt); (· with_reducible assumption))
  | ((with_reducible apply br_vf); (· with_reducible assumption)))
local macro_rules | `(tactic| walk_at "jo_ch") => `(tactic| first
  | ((with_reducible apply r_chain_ee); (· walk_at "jo_all"); (· walk_at "jo1"); (· walk_at "jo_a"); (· walk_at "jo_all"); (· walk_at "jo1"); (· walk_at "jo_a"))
  | ((with_reducible apply r_chain_el); (· walk_at "jo_all"); (· walk_at "jo1"); (· walk_at "jo_a"); (· walk_at "jo_all"); (· walk_at "jo1"); (· walk_at "jo_a"))
  | ((with_reducible apply r_chain_le); (· walk_at "jo_all"); (· walk_at "jo1"); (· walk_at "jo_a"); (· walk_at "jo_all"); (· walk_at "jo1"); (· walk_at "jo_a"))
  | ((with_reducible apply r_chain_ll); (· walk_at "jo_all"); (· walk_at "jo1"); (· walk_at "jo_a"); (· walk_at "jo_all"); (· walk_at "jo1"); (· walk_at "jo_a"))
  | ((with_reducible apply r_chain_fe); (· walk_at "jo_all"); (· walk_at "jo1"); (· walk_at "jo_a"))
  | ((with_reducible apply r_chain_ef); (· walk_at "jo_all"); (· walk_at "jo1"); (· walk_at "jo_a"); (· walk_at "jo_all"); (· walk_at "jo1"); (· walk_at "jo_a")))
local macro_rules | `(tactic| walk_at "jo1") => `(tactic| first
  | with_reducible assumption
  | apply_assumption (transparency := .reducible) (exfalso := false) (symm := false) only [r_par, r_d1, r_mcall, r_mcallV, r_acall, r_getP, r_dget, r_din, r_dput, r_ktup, r_methP, r_setN, r_ali, ev_c, ev_s, ev_sub, ev_add, r_seq, go_nx, go_rt, go_ct, go_bk, r_set, r_aug, r_if, sExpr_of, sRet_of, r_unp, r_setIx, sFor_of, r_c, ok_refl, r_skip, r_brk, r_cont, r_retn, r_yes, r_var, r_move, eOp_r, eCall_r, r_make, r_meth, r_eif, r_and, r_or, r_not, r_tand, r_tor, tNot_of, tVal_of, r_lst, r_tup, r_comp, r_intF, r_enuI, r_seqI, r_zip3, r_rng1, r_rng2, args_v, args_s, args_0, tg_t, tg_l0, tg_l, tg_n, br_t, br_f, br_nt, br_nf, o_add, o_sub, o_lt, o_le, o_gt, o_ge, o_eq, o_ne, o_int, o_lenl, o_lent, o_neg, o_intb, o_abs, o_sum, o_min2, o_max2i, eq_ll, eq_llF, o_allR, o_tupF, o_listU, pow10_6, pow10_4, pow10_9, o_sort3t, o_sort3l]
  | ((apply_assumption (transparency := .reducible) (exfalso := false) (symm := false) only [d_res, d_put, d_back, d_vals, d_wipe, d_pick, d_frzL, d_frz, d_set, g_ix, d_frzIf]); walk_at "jo_n")
  | ((apply_assumption (transparency := .reducible) (exfalso := false) (symm := false) only [d_ite]); walk_at "jo_br")
  | ((apply_assumption (transparency := .reducible) (exfalso := false) (symm := false) only [d_chain]); walk_at "jo_ch")
  | ((apply_assumption (transparency := .reducible) (exfalso := false) (symm := false) only [d_goP]); walk_at "jo_go")
  | ((apply_assumption (transparency := .reducible) (exfalso := false) (symm := false) only [setN_of]); (· walk_at "jo_a"); (· first | exact Int.toNat_natCast _ | rfl); (· first | with_reducible assumption | rfl); (· walk_at "jo_a"); (· first | exact Int.toNat_natCast _ | rfl); (· walk_at "jo_a"))
  | ((with_reducible change PIx.no _ _ = true); rfl)
  | ((with_reducible change (_ : Nat) ≠ _); decide)
  | ((with_reducible change List.length _ ≤ 1000); (first | exact Nat.le_of_ble_eq_true rfl | (simp only [List.length_cons, List.length_nil]; omega)))
  | ((with_reducible change _ < List.length _); (first | exact Nat.le_of_ble_eq_true rfl | (simp only [List.length_cons, List.length_nil]; omega)))
  | ((with_reducible change seqT _ = _); (first | with_reducible exact seqT_t _ | with_reducible exact seqT_f _ | (simp only [seqT_o, frz_int, frz_bl, frz_non, frz_str, frz_tup, frz_lf, frz_lt, frzL_nil, frzL_cons, frzL_cls]; with_reducible rfl)))
  | ((with_reducible change isL _ = true); rfl)
  | ((with_reducible change isInsM _ _ _ = true); (first | rfl | decide))
  | ((with_reducible change T.froz _ = true); rfl)
  | ((with_reducible change keysT _ = some _); rfl)
  | ((with_reducible change (_ != Option.isSome _) = _); rfl)
  | ((with_reducible change -(2 ^ 62) ≤ _ ∧ _ < 2 ^ 62); (first | assumption | (refine bd62 ?_ ?_ <;> omega)))
  | walk_at "jo_o"
  | ((with_reducible apply o_eqv); (· walk_at "jo_o"); (· rfl))
  | walk_at "jo_u")
/-! ### loops over told things, by what holds after so many turns -/
theorem forF_ls {α : Type} {tg : Tg} {body : Fs} {xs : List α} (q : α → T) (I : Nat → Env → Prop) (st : ∀ (i : Nat) (x : α) (η : Env), xs[i]? = some x → I i η → ∃ η1 η2, tg (q x) η = some η1 ∧ body η1 = .ok .nx η2 ∧ I (i + 1) η2) {η : Env} (h : I 0 η) : ∃ η', forF tg body (xs.map q) η = .ok .nx η' ∧ I xs.length η' := by
  obtain ⟨η', e, k⟩ := forF_inv (tg := tg) (body := body) (ts := xs.map q) I (fun i t η et hI => by
    rw [List.getElem?_map] at et
    cases ex : xs[i]? with
    | none => rw [ex] at et; cases et
    | some x =>
      rw [ex] at et
      cases et
      obtain ⟨η1, η2, h1, h2, h3⟩ := st i x η ex hI
      exact ⟨η1, η2, h1, .inl h2, h3⟩) h
  rw [List.length_map] at k
  exact ⟨η', e, k⟩
theorem forF_en {α : Type} {tg : Tg} {body : Fs} {xs : List α} (q : α → T) (I : Nat → Env → Prop) (st : ∀ (i : Nat) (x : α) (η : Env), xs[i]? = some x → I i η → ∃ η1 η2, tg (.tup [.int (i : Int), q x]) η = some η1 ∧ body η1 = .ok .nx η2 ∧ I (i + 1) η2) {η : Env} (h : I 0 η) : ∃ η', forF tg body (enumT (xs.map q)) η = .ok .nx η' ∧ I xs.length η' := by
  rw [enum_map]
  obtain ⟨η', e, k⟩ := forF_ls (tg := tg) (body := body) (xs := xs.zipIdx) (fun x : α × Nat => T.tup [.int x.2, q x.1]) I (fun i x η ex hI => by
    rw [List.getElem?_zipIdx] at ex
    cases e2 : xs[i]? with
    | none => rw [e2] at ex; cases ex
    | some y =>
      rw [e2] at ex
      cases ex
      have := st i y η e2 hI
      rw [Nat.zero_add]
      exact this) h
  rw [List.length_zipIdx] at k
  exact ⟨η', e, k⟩
theorem forF_rg {tg : Tg} {body : Fs} {lo : Int} {n : Nat} (I : Nat → Env → Prop) (st : ∀ i η, i < n → I i η → ∃ η1 η2, tg (.int (lo + (i : Int))) η = some η1 ∧ body η1 = .ok .nx η2 ∧ I (i + 1) η2) {η : Env} (h : I 0 η) : ∃ η', forF tg body (rangeT lo n) η = .ok .nx η' ∧ I n η' := forF_rng I (fun i η hi hI => by
  obtain ⟨η1, η2, h1, h2, h3⟩ := st i η hi hI
  exact ⟨η1, η2, h1, .inl h2, h3⟩) h
theorem take_snoc {α : Type} {xs : List α} {i : Nat} {x : α} (e : xs[i]? = some x) : xs.take (i + 1) = xs.take i ++ [x] := by
  rw [List.take_succ, e]; rfl
theorem lt_of_get {α : Type} {xs : List α} {i : Nat} {x : α} (e : xs[i]? = some x) : i < xs.length := (List.getElem?_eq_some_iff.mp e).1
/-- comprehensions over counted things -/
theorem compF_rg {own : List Nat} {tg : Tg} {elt : Fe T} {E : Env} {lo : Int} {n : Nat} (g : Nat → T) (hz : n ≤ 100000) (st : ∀ i, i < n → ∃ η1 η3, tg (.int (lo + (i : Int))) E = some η1 ∧ elt η1 = .ok (g i) η3 ∧ wipeE η3 own = E) :
    compF own tg cYes elt (rangeT lo n) [] E = .ok ((List.range n).map g) E := by
  unfold rangeT
  exact compF_y (fun i : Nat => T.int (lo + (i : Int))) g (by rw [List.length_range]; exact hz) fun i hi => st i (List.mem_range.mp hi)
theorem compF_rgm {β : Type} {own : List Nat} {tg : Tg} {elt : Fe T} {E : Env} {lo : Int} {n : Nat} (f : Nat → β) (q' : β → T) (hz : n ≤ 100000) (st : ∀ i, i < n → ∃ η1 η3, tg (.int (lo + (i : Int))) E = some η1 ∧ elt η1 = .ok (q' (f i)) η3 ∧ wipeE η3 own = E) :
    compF own tg cYes elt (rangeT lo n) [] E = .ok (((List.range n).map f).map q') E := by
  rw [List.map_map]
  exact compF_rg (q' ∘ f) hz st
theorem compF_enm {α β : Type} {own : List Nat} {tg : Tg} {elt : Fe T} {E : Env} {xs : List α} (q : α → T) (f : α × Nat → β) (q' : β → T) (hz : xs.length ≤ 100000) (st : ∀ (i : Nat) (x : α), xs[i]? = some x → ∃ η1 η3, tg (.tup [.int (i : Int), q x]) E = some η1 ∧ elt η1 = .ok (q' (f (x, i))) η3 ∧ wipeE η3 own = E) :
    compF own tg cYes elt (enumT (xs.map q)) [] E = .ok ((xs.zipIdx.map f).map q') E := by
  rw [enum_map]
  refine compF_ym (fun x : α × Nat => T.tup [.int x.2, q x.1]) f q' (by rw [List.length_zipIdx]; exact hz) fun x hx => ?_
  obtain ⟨h1, h2, h3⟩ := List.mem_zipIdx hx
  have e : xs[x.2]? = some x.1 := by
    have := List.mem_zipIdx_iff_getElem?.mp hx
    simpa using this
  exact st x.2 x.1 e
/-- draws in a row: what each gives has a property -/
theorem ex_i {tg : Tg} {elt : Fe T} {η η1 η3 : Env} {t u : T} {P : Env → Prop} {Q : T → Env → Prop} (h1 : tg t η = some η1) (h2 : elt η1 = .ok u η3) (h3 : Q u η3) : ∃ η1 b η2, tg t η = some η1 ∧ cYes η1 = .ok b η2 ∧ (b = false → P η2) ∧ (b = true → ∃ u η3, elt η2 = .ok u η3 ∧ Q u η3) := ⟨_, true, _, h1, rfl, (fun z => by cases z), fun _ => ⟨_, _, h2, h3⟩⟩
/-- a comprehension that draws: things come one by one, a state goes along -/
theorem compF_dr {β S : Type} {own : List Nat} {tg : Tg} {elt : Fe T} (E : S → Env) (q' : β → T) (P : β → Nat → Prop) (G : S → Prop) {lo : Int} {n : Nat} (hz : n ≤ 100000)
    (st : ∀ i s, i < n → G s → ∃ s' b, G s' ∧ P b i ∧ ∃ η1 η3, tg (.int (lo + (i : Int))) (E s) = some η1 ∧ elt η1 = .ok (q' b) η3 ∧ wipeE η3 own = E s') {s : S} (h : G s) :
    ∃ (s' : S) (bs : List β), G s' ∧ bs.length = n ∧ (∀ (i : Nat) (b : β), bs[i]? = some b → P b i) ∧ compF own tg cYes elt (rangeT lo n) [] (E s) = .ok (bs.map q') (E s') := by
  obtain ⟨acc, η', e, s', bs, h1, h2, h3, h4, h5⟩ := compF_inv (own := own) (tg := tg) (c := cYes) (elt := elt) (ts := rangeT lo n)
    (fun i acc η => ∃ (s : S) (bs : List β), G s ∧ η = E s ∧ acc = List.map q' bs ∧ bs.length = i ∧ ∀ (j : Nat) (b : β), bs[j]? = some b → P b j)
    (fun i t acc η et ⟨s, bs, g1, g2, g3, g4, g5⟩ => by
      have hi := lt_of_get et
      rw [rangeT_length] at hi
      have := rangeT_get et
      subst this g2
      obtain ⟨s', b, k1, k2, η1, η3, k3, k4, k5⟩ := st i s hi g1
      refine ex_i k3 k4 ⟨s', bs ++ [b], k1, k5, by rw [g3, List.map_append]; rfl, by rw [List.length_append, List.length_singleton, g4], fun j x ex => ?_⟩
      by_cases hj : j < bs.length
      · rw [List.getElem?_append_left hj] at ex
        exact g5 j x ex
      · have hj2 := lt_of_get ex
        rw [List.length_append, List.length_singleton] at hj2
        have : j = bs.length := by omega
        subst this
        rw [List.getElem?_append_right (Nat.le_refl _), Nat.sub_self] at ex
        cases ex
        rw [g4]
        exact k2) (acc := []) (η := E s) (by rw [rangeT_length]; exact sz5 (by simp; omega)) ⟨s, [], h, rfl, rfl, rfl, fun j b e => by cases e⟩
  subst h2 h3
  rw [rangeT_length] at h4
  exact ⟨s', bs, h1, h4, h5, e⟩

/-- a loop that ends with an answer at the first thing that is not as wanted -/
theorem forF_ret {α : Type} {tg : Tg} {body : Fs} (q : α → T) (p : α → Nat → Bool) (r : T) (I : Nat → Env → Prop) : ∀ {xs : List α} (k : Nat) {η : Env}, (∀ (i : Nat) (x : α) (η : Env), xs[i]? = some x → I (k + i) η → ∃ η1 η2, tg (q x) η = some η1 ∧ ((p x (k + i) = true ∧ body η1 = .ok .nx η2 ∧ I (k + i + 1) η2) ∨ (p x (k + i) = false ∧ body η1 = .ok (.rt r) η2))) → I k η →
    ((xs.zipIdx k).all (fun x => p x.1 x.2) = true ∧ ∃ η', forF tg body (xs.map q) η = .ok .nx η' ∧ I (k + xs.length) η') ∨ ((xs.zipIdx k).all (fun x => p x.1 x.2) = false ∧ ∃ η', forF tg body (xs.map q) η = .ok (.rt r) η')
  | [], k, η, _, h => .inl ⟨rfl, η, rfl, h⟩
  | x :: xs, k, η, st, h => by
    obtain ⟨η1, η2, e1, e2⟩ := st 0 x η rfl h
    rw [List.zipIdx_cons, List.all_cons]
    rcases e2 with ⟨p1, e2, h2⟩ | ⟨p1, e2⟩
    · have IH := forF_ret (tg := tg) (body := body) q p r I (xs := xs) (k + 1) (η := η2) (fun i y ζ ey hy => by
        have := st (i + 1) y ζ (by simpa using ey) (by rw [show k + (i + 1) = k + 1 + i by omega]; exact hy)
        rw [show k + (i + 1) = k + 1 + i by omega] at this
        exact this) h2
      have f1 : forF tg body ((x :: xs).map q) η = forF tg body (xs.map q) η2 := by
        rw [List.map_cons]
        conv => lhs; unfold forF
        rw [e1]
        simp only [e2]
      have p1 : p x k = true := p1
      simp only [p1, Bool.true_and, f1, List.length_cons]
      rw [show k + (xs.length + 1) = k + 1 + xs.length by omega]
      exact IH
    · have f1 : forF tg body ((x :: xs).map q) η = .ok (.rt r) η2 := by
        rw [List.map_cons]
        unfold forF
        rw [e1]
        simp only [e2]
      have p1 : p x k = false := p1
      exact .inr ⟨by simp only [p1, Bool.false_and], η2, f1⟩
theorem ex_rT {tg : Tg} {body : Fs} {η η1 η2 : Env} {t r : T} {J : Env → Prop} (h1 : tg t η = some η1) (h2 : body η1 = .ok .nx η2) (h3 : J η2) : ∃ η1 η2, tg t η = some η1 ∧ ((true = true ∧ body η1 = .ok .nx η2 ∧ J η2) ∨ (true = false ∧ body η1 = .ok (.rt r) η2)) := ⟨_, _, h1, .inl ⟨rfl, h2, h3⟩⟩
theorem ex_rF {tg : Tg} {body : Fs} {η η1 η2 : Env} {t r : T} {J : Env → Prop} (h1 : tg t η = some η1) (h2 : body η1 = .ok (.rt r) η2) : ∃ η1 η2, tg t η = some η1 ∧ ((false = true ∧ body η1 = .ok .nx η2 ∧ J η2) ∨ (false = false ∧ body η1 = .ok (.rt r) η2)) := ⟨_, _, h1, .inr ⟨rfl, h2⟩⟩
theorem ex_cT {own : List Nat} {tg : Tg} {c : Fe Bool} {elt : Fe T} {E E' η1 η2 η3 : Env} {t u : T} (h1 : tg t E = some η1) (h2 : c η1 = .ok true η2) (h4 : elt η2 = .ok u η3) (h5 : wipeE η3 own = E') : ∃ η1 η2, tg t E = some η1 ∧ c η1 = .ok true η2 ∧ (true = false → wipeE η2 own = E') ∧ (true = true → ∃ η3, elt η2 = .ok u η3 ∧ wipeE η3 own = E') := ⟨_, _, h1, h2, (fun z => by cases z), fun _ => ⟨_, h4, h5⟩⟩
theorem ex_cF {own : List Nat} {tg : Tg} {c : Fe Bool} {elt : Fe T} {E E' η1 η2 : Env} {t u : T} (h1 : tg t E = some η1) (h2 : c η1 = .ok false η2) (h3 : wipeE η2 own = E') : ∃ η1 η2, tg t E = some η1 ∧ c η1 = .ok false η2 ∧ (false = false → wipeE η2 own = E') ∧ (false = true → ∃ η3, elt η2 = .ok u η3 ∧ wipeE η3 own = E') := ⟨_, _, h1, h2, fun _ => h3, fun z => by cases z⟩
theorem all_rw {α : Type} (o : Bool) (xs : List α) (p : α → Bool) : allO [.lst o ((xs.map p).map T.bl)] = some (.bl (xs.all p), [.lst o ((xs.map p).map T.bl)]) := by
  rw [o_all, List.all_map]; rfl

/-! ### plans and the begins that stand, without any program -/
abbrev tupI (l : List Int) : T := .tup (l.map .int)
instance : FrzC tupI := ⟨fun _ => rfl⟩
def nxB (bs : List Int) (b : Int) : List Int := bs.filter (fun a => decide (a < b)) ++ [b]
def curB (pl : List Int) : List Int := pl.foldl nxB []
def bgsB (pl : List Int) : List (List Int) := (List.range pl.length).map fun i => curB (pl.take (i + 1))
theorem cur_snoc (pl : List Int) (b : Int) : curB (pl ++ [b]) = nxB (curB pl) b := by unfold curB; rw [List.foldl_append]; rfl
theorem cur_take {pl : List Int} {i : Nat} {b : Int} (e : pl[i]? = some b) : curB (pl.take (i + 1)) = nxB (curB (pl.take i)) b := by rw [take_snoc e, cur_snoc]
theorem bgs_len (pl : List Int) : (bgsB pl).length = pl.length := by unfold bgsB; rw [List.length_map, List.length_range]
theorem bgs_get {pl : List Int} {i : Nat} (h : i < pl.length) : (bgsB pl)[i]? = some (curB (pl.take (i + 1))) := by
  unfold bgsB
  rw [List.getElem?_map, List.getElem?_range h]; rfl
theorem bgs_take (pl : List Int) (k : Nat) : bgsB (pl.take k) = (bgsB pl).take k := by
  apply List.ext_getElem?
  intro i
  by_cases h : i < k ∧ i < pl.length
  · rw [List.getElem?_take_of_lt h.1, bgs_get h.2, bgs_get (by rw [List.length_take]; omega), List.take_take, Nat.min_eq_left (by omega)]
  · rw [List.getElem?_eq_none (by rw [bgs_len, List.length_take]; omega), List.getElem?_eq_none (by rw [List.length_take, bgs_len]; omega)]
theorem bgs_snoc {pl : List Int} {i : Nat} (h : i < pl.length) : bgsB (pl.take (i + 1)) = bgsB (pl.take i) ++ [curB (pl.take (i + 1))] := by
  rw [bgs_take, bgs_take, take_snoc (bgs_get h)]
theorem nx_len (bs : List Int) (b : Int) : (nxB bs b).length ≤ bs.length + 1 := by
  unfold nxB
  rw [List.length_append, List.length_singleton]
  have := List.length_filter_le (fun a => decide (a < b)) bs
  omega
theorem cur_len : ∀ (pl : List Int) (k : Nat), k ≤ pl.length → (curB (pl.take k)).length ≤ k
  | pl, 0, _ => by simp [curB]
  | pl, k + 1, h => by
    have e : pl[k]? = some pl[k] := List.getElem?_eq_getElem h
    rw [cur_take e]
    have := nx_len (curB (pl.take k)) pl[k]
    have := cur_len pl k (by omega)
    omega
/-- a plan: each hour's begin is the hour, or stands -/
def PlOk (pl : List Int) : Prop := ∀ (i : Nat) (b : Int), pl[i]? = some b → b = (i : Int) ∨ b ∈ curB (pl.take i)
theorem plok_take {pl : List Int} (h : PlOk pl) (k : Nat) : PlOk (pl.take k) := fun i b e => by
  have hi := lt_of_get e
  rw [List.length_take] at hi
  rw [List.getElem?_take_of_lt (by omega)] at e
  rw [List.take_take, Nat.min_eq_left (by omega)]
  exact h i b e
theorem cur_bd {pl : List Int} (h : PlOk pl) : ∀ k, k ≤ pl.length → ∀ x ∈ curB (pl.take k), 0 ≤ x ∧ x < (k : Int)
  | 0, _, x, hx => by simp [curB] at hx
  | k + 1, hk, x, hx => by
    have e : pl[k]? = some pl[k] := List.getElem?_eq_getElem hk
    rw [cur_take e] at hx
    have ih := cur_bd h k (by omega)
    rcases List.mem_append.mp hx with y | y
    · have := ih x (List.mem_filter.mp y).1
      omega
    · have ex : x = pl[k] := by simpa using y
      rcases h k _ e with z | z
      · omega
      · have := ih _ z
        omega
theorem pl_bd {pl : List Int} (h : PlOk pl) {i : Nat} {b : Int} (e : pl[i]? = some b) : 0 ≤ b ∧ b ≤ (i : Int) := by
  rcases h i b e with z | z
  · omega
  · have := cur_bd h i (by have := lt_of_get e; omega) b z
    omega
theorem plok_nil : PlOk [] := fun i b e => by simp at e
theorem plok_snoc {pl : List Int} (h : PlOk pl) {b : Int} (hb : b = (pl.length : Int) ∨ b ∈ curB pl) : PlOk (pl ++ [b]) := fun i c e => by
  by_cases hi : i < pl.length
  · rw [List.getElem?_append_left hi] at e
    rw [List.take_append_of_le_length (by omega)]
    exact h i c e
  · have hj := lt_of_get e
    rw [List.length_append, List.length_singleton] at hj
    have : i = pl.length := by omega
    subst this
    rw [List.getElem?_append_right (Nat.le_refl _), Nat.sub_self] at e
    cases e
    rw [List.take_left' rfl]
    exact hb
theorem in_ints (neg : Bool) (b : Int) (bs : List Int) : inO neg [.int b, .tup (bs.map .int)] = some (.bl (neg != decide (b ∈ bs)), [.int b, .tup (bs.map .int)]) := by
  have h1 : ∀ bs : List Int, flL (bs.map T.int) = some (bs.map V.int) := by
    intro bs
    induction bs with
    | nil => rfl
    | cons x xs ih =>
      show (some (V.int x)).bind _ = _
      show (flL (xs.map T.int)).map _ = _
      rw [ih]; rfl
  have h2 : ∀ bs : List Int, inV (.int b) (bs.map V.int) = decide (b ∈ bs) := by
    intro bs
    induction bs with
    | nil => rfl
    | cons x xs ih =>
      show (eqV (.int x) (.int b) || inV (.int b) (xs.map V.int)) = _
      rw [ih]
      have e : eqV (.int x) (.int b) = decide (b = x) := by
        show (x == b) = _
        by_cases q : b = x
        · subst q; simp
        · rw [decide_eq_false q]
          exact beq_eq_false_iff_ne.mpr fun z => q z.symm
      rw [e]
      by_cases q : b = x <;> by_cases q2 : b ∈ xs <;> simp [q, q2]
  unfold inO
  simp only [T.fl, Option.bind_some, h1, Option.map_some, h2]
theorem in_yes {b : Int} {bs : List Int} (h : b ∈ bs) : inO true [.int b, .tup (bs.map .int)] = some (.bl false, [.int b, .tup (bs.map .int)]) := by
  rw [in_ints, decide_eq_true h]; rfl

section
variable {cells : List Int} {a b s n m : Int}
theorem hx0 : ixO [HandT cells a b s n, .int 0] = some (.lst false (cells.map .int), [HandT cells a b s n, .int 0]) := rfl
theorem hx1 : ixO [HandT cells a b s n, .int 1] = some (.int a, [HandT cells a b s n, .int 1]) := rfl
theorem hx2 : ixO [HandT cells a b s n, .int 2] = some (.int b, [HandT cells a b s n, .int 2]) := rfl
theorem hx3 : ixO [HandT cells a b s n, .int 3] = some (.int s, [HandT cells a b s n, .int 3]) := rfl
theorem hx4 : ixO [HandT cells a b s n, .int 4] = some (.int n, [HandT cells a b s n, .int 4]) := rfl
theorem hs1 (y : Int) : setIxO (.int y) (HandT cells a b s n) (.int 1) = some (HandT cells y b s n) := rfl
theorem hs2 (y : Int) : setIxO (.int y) (HandT cells a b s n) (.int 2) = some (HandT cells a y s n) := rfl
theorem hs3 (y : Int) : setIxO (.int y) (HandT cells a b s n) (.int 3) = some (HandT cells a b y n) := rfl
theorem hs4 (y : Int) : setIxO (.int y) (HandT cells a b s n) (.int 4) = some (HandT cells a b s y) := rfl
def drawB : Fs := (sSeq (sIf (tVal (eOp [.v (eOp [.s 0, .v (eC (.int 2))] ixO), .v (eC (.int 0))] opGt)) (sSeq (sSet 3 (eOp [.v (eOp [.v (eOp [.s 0, .v (eC (.int 2))] ixO)] intO), .s 1] opMod))
    (sSeq (sSetIx setIxO (eOp [.v (eOp [.s 0, .v (eC (.int 2))] ixO), .s 1] opFdiv) 0 (.v (eC (.int 2))))
    (sRet (eMove 3))))
    sSkip)
    (sSeq (sSetIx setIxO (eOp [.v (eOp [.s 0, .v (eC (.int 4))] ixO), .v (eC (.int 1))] opAdd) 0 (.v (eC (.int 4))))
    (sSeq (sSet 4 (eOp [.v (eOp [.v (eOp [.v (eOp [.v (eOp [.v (eOp [.s 0, .v (eC (.int 3))] ixO), .v (eOp [.v (eC (.int 7919)), .v (eOp [.s 0, .v (eC (.int 4))] ixO)] opMul)] opAdd)] intO), .v (eC (.int 48271))] opMul)] intO), .v (eC (.int 2147483647))] opMod))
    (sSeq (sSet 4 (eOp [.v (eOp [.v (eOp [.s 4, .v (eOp [.v (eOp [.s 4, .v (eC (.int 1009))] opFdiv), .v (eC (.int 69621))] opAdd)] opMul)] intO), .v (eC (.int 2147483647))] opMod))
    (sSeq (sSet 4 (eOp [.v (eOp [.v (eOp [.s 4, .v (eOp [.v (eOp [.s 4, .v (eC (.int 2003))] opFdiv), .v (eC (.int 40692))] opAdd)] opMul)] intO), .v (eC (.int 2147483399))] opMod))
    (sRet (eOp [.v (eOp [.v (eOp [.s 4, .v (eC (.int 16))] opFdiv)] intO), .s 1] opMod)))))))
theorem drawB_ok {x : Option T} (hm : 0 < m) (hm2 : m < 1073741824) (hb : 0 ≤ b) :
    ∃ r b' n' y z, drawB [some (HandT cells a b s n), some (.int m), x, none, none] = .ok (.rt (.int r)) [some (HandT cells a b' s n'), some (.int m), x, y, z] ∧ 0 ≤ r ∧ r < m ∧ 0 ≤ b' := by
  unfold drawB
  by_cases h0 : 0 < b
  · refine ⟨b % m, b / m, n, none, none, ?_, Int.emod_nonneg _ (by omega), Int.emod_lt_of_pos _ hm, Int.ediv_nonneg hb (by omega)⟩
    simp only [eVar, eMove, eC, eOp, argsF, consA, aVal, aSlot, aNil, Res.bind, resolve, putBack, sSet, sSeq, goOn, sIf, sRet, sExpr, tVal, isB, tAndF, tOrF, tNotF, eAndF, eOrF, eNotF, eIfF, sSkip, sSetIx, T.frz, frzL, List.getElem?_cons_zero, List.getElem?_cons_succ, List.set_cons_zero, List.set_cons_succ, List.length_cons, List.length_nil, Option.map_some, Option.map_none, Option.bind_some, Option.bind_none, o_sub, o_add, o_lt, o_le, o_gt, o_ge, o_eq, o_ne, o_mul, o_mod, o_fdiv, o_int, o_intb, o_abs, o_neg, o_lenl, o_lent, o_ix, ixN_nat, Nat.reduceAdd, Nat.reduceLT, decide_true, decide_false, if_true, if_false, ite_true, ite_false, reduceIte, decide_eq_true_eq, Bool.false_eq_true, Nat.zero_lt_succ, Nat.succ_lt_succ_iff, hx2, hs2, h0, hm, hm2]
  · obtain ⟨y1, e1⟩ : ∃ y : Int, (s + 7919 * (n + 1)) * 48271 % 2147483647 = y := ⟨_, rfl⟩
    have b1 : 0 ≤ y1 ∧ y1 < 2147483647 := by subst e1; omega
    obtain ⟨y2, e2⟩ : ∃ y : Int, y1 * (y1 / 1009 + 69621) % 2147483647 = y := ⟨_, rfl⟩
    have b2 : 0 ≤ y2 ∧ y2 < 2147483647 := by subst e2; exact ⟨Int.emod_nonneg _ (by omega), Int.emod_lt_of_pos _ (by omega)⟩
    obtain ⟨y3, e3⟩ : ∃ y : Int, y2 * (y2 / 2003 + 40692) % 2147483399 = y := ⟨_, rfl⟩
    refine ⟨y3 / 16 % m, b, n + 1, none, some (.int y3), ?_, Int.emod_nonneg _ (by omega), Int.emod_lt_of_pos _ hm, hb⟩
    have m0 : opMul [.int 7919, .int (n + 1)] = some (.int (7919 * (n + 1)), [.int 7919, .int (n + 1)]) := o_mul _ _ (mulL _ _ (by omega))
    have m1 : opMul [.int (s + 7919 * (n + 1)), .int 48271] = some (.int ((s + 7919 * (n + 1)) * 48271), [.int (s + 7919 * (n + 1)), .int 48271]) := o_mul _ _ (mulR _ _ (by omega))
    have m2 : opMul [.int y1, .int (y1 / 1009 + 69621)] = some (.int (y1 * (y1 / 1009 + 69621)), [.int y1, .int (y1 / 1009 + 69621)]) := o_mul _ _ (mulL _ _ (by omega))
    have m3 : opMul [.int y2, .int (y2 / 2003 + 40692)] = some (.int (y2 * (y2 / 2003 + 40692)), [.int y2, .int (y2 / 2003 + 40692)]) := o_mul _ _ (mulL _ _ (by omega))
    have p1 : (0 : Int) < 2147483647 := by omega
    have p2 : (0 : Int) < 2147483399 := by omega
    have p3 : (0 : Int) < 1009 := by omega
    have p4 : (1009 : Int) < 1073741824 := by omega
    have p5 : (0 : Int) < 2003 := by omega
    have p6 : (2003 : Int) < 1073741824 := by omega
    have p7 : (0 : Int) < 16 := by omega
    have p8 : (16 : Int) < 1073741824 := by omega
    simp only [eVar, eMove, eC, eOp, argsF, consA, aVal, aSlot, aNil, Res.bind, resolve, putBack, sSet, sSeq, goOn, sIf, sRet, sExpr, tVal, isB, tAndF, tOrF, tNotF, eAndF, eOrF, eNotF, eIfF, sSkip, sSetIx, T.frz, frzL, List.getElem?_cons_zero, List.getElem?_cons_succ, List.set_cons_zero, List.set_cons_succ, List.length_cons, List.length_nil, Option.map_some, Option.map_none, Option.bind_some, Option.bind_none, o_sub, o_add, o_lt, o_le, o_gt, o_ge, o_eq, o_ne, o_mul, o_mod, o_fdiv, o_int, o_intb, o_abs, o_neg, o_lenl, o_lent, o_ix, ixN_nat, Nat.reduceAdd, Nat.reduceLT, decide_true, decide_false, if_true, if_false, ite_true, ite_false, reduceIte, decide_eq_true_eq, Bool.false_eq_true, Nat.zero_lt_succ, Nat.succ_lt_succ_iff, hx2, hs2, hx4, hs4, hx3, h0, hm, hm2, m0, m1, m2, m3, e1, e2, e3, p1, p2, p3, p4, p5, p6, p7, p8]
theorem pow18 : opPow [.int 10, .int 18] = some (.int 1000000000000000000, [.int 10, .int 18]) := by
  unfold opPow i2
  simp
def drawA : Fs := sIf (tAndF (tVal (eOp [.v (eOp [.s 0, .v (eC (.int 2))] ixO), .v (eC (.int 0))] (eqO false))) (tVal (eOp [.v (eOp [.s 0, .v (eC (.int 1))] ixO), .v (eOp [.v (eOp [.s 0, .v (eC (.int 0))] ixO)] lenO)] opLt))) (sSeq (sSet 2 (eOp [.v (eOp [.s 0, .v (eC (.int 0))] ixO), .v (eOp [.s 0, .v (eC (.int 1))] ixO)] ixO))
    (sSeq (sSetIx setIxO (eOp [.v (eOp [.s 0, .v (eC (.int 1))] ixO), .v (eC (.int 1))] opAdd) 0 (.v (eC (.int 1))))
    (sSeq (sSetIx setIxO (eOp [.v (eOp [.v (eOp [.v (eOp [.v (eOp [.v (eOp [.s 0, .v (eC (.int 3))] ixO), .v (eC (.int 69621))] opMul), .s 2] opAdd), .v (eC (.int 11))] opAdd)] intO), .v (eC (.int 2147483629))] opMod) 0 (.v (eC (.int 3))))
    (sIf (tVal (eOp [.s 2, .v (eOp [.v (eC (.int 10)), .v (eC (.int 18))] opPow)] opGe)) (sSetIx setIxO (eVar 2) 0 (.v (eC (.int 2))))
    sSkip))))
    sSkip
theorem ix_ints {ns : List Int} {i : Int} (h : 0 ≤ i) (h2 : i < ns.length) : ixO [.lst false (ns.map .int), .int i] = some (.int (ns.getD i.toNat 0), [.lst false (ns.map .int), .int i]) := by
  have e : ixN ns.length i = some i.toNat := ixN_nat _ _ h h2
  have l : i.toNat < ns.length := by omega
  unfold ixO
  simp only [List.length_map, e, Option.bind_some, List.getElem?_map, List.getElem?_eq_getElem l, Option.map_some, T.frz]
  have g : (ns.map T.int).set i.toNat (.int ns[i.toNat]) = ns.map T.int := set_self (by simp [l])
  rw [g]
  simp [l]
theorem drawA_ok (ha : 0 ≤ a) (hb : 0 ≤ b) :
    ∃ a' b' s' x, drawA [some (HandT cells a b s n), some (.int m), none, none, none] = .ok .nx [some (HandT cells a' b' s' n), some (.int m), x, none, none] ∧ 0 ≤ a' ∧ 0 ≤ b' := by
  unfold drawA
  by_cases h0 : b = 0
  · by_cases h1 : a < cells.length
    · obtain ⟨c, ec⟩ : ∃ c : Int, cells.getD a.toNat 0 = c := ⟨_, rfl⟩
      have ex := ix_ints (ns := cells) ha h1
      rw [ec] at ex
      have m1 : opMul [.int s, .int 69621] = some (.int (s * 69621), [.int s, .int 69621]) := o_mul _ _ (mulR _ _ (by omega))
      have p1 : (0 : Int) < 2147483629 := by omega
      by_cases h2 : 1000000000000000000 ≤ c
      · refine ⟨a + 1, c, (s * 69621 + c + 11) % 2147483629, some (.int c), ?_, by omega, by omega⟩
        simp only [eVar, eMove, eC, eOp, argsF, consA, aVal, aSlot, aNil, Res.bind, resolve, putBack, sSet, sSeq, goOn, sIf, sRet, sExpr, tVal, isB, tAndF, tOrF, tNotF, eAndF, eOrF, eNotF, eIfF, sSkip, sSetIx, T.frz, frzL, List.getElem?_cons_zero, List.getElem?_cons_succ, List.set_cons_zero, List.set_cons_succ, List.length_cons, List.length_nil, Option.map_some, Option.map_none, Option.bind_some, Option.bind_none, o_sub, o_add, o_lt, o_le, o_gt, o_ge, o_eq, o_ne, o_mul, o_mod, o_fdiv, o_int, o_intb, o_abs, o_neg, o_lenl, o_lent, o_ix, ixN_nat, Nat.reduceAdd, Nat.reduceLT, decide_true, decide_false, if_true, if_false, ite_true, ite_false, reduceIte, decide_eq_true_eq, Bool.false_eq_true, Nat.zero_lt_succ, Nat.succ_lt_succ_iff, List.length_map, hx0, hx1, hx2, hx3, hs1, hs2, hs3, h0, h1, ex, m1, p1, pow18, h2]
      · refine ⟨a + 1, b, (s * 69621 + c + 11) % 2147483629, some (.int c), ?_, by omega, by omega⟩
        simp only [eVar, eMove, eC, eOp, argsF, consA, aVal, aSlot, aNil, Res.bind, resolve, putBack, sSet, sSeq, goOn, sIf, sRet, sExpr, tVal, isB, tAndF, tOrF, tNotF, eAndF, eOrF, eNotF, eIfF, sSkip, sSetIx, T.frz, frzL, List.getElem?_cons_zero, List.getElem?_cons_succ, List.set_cons_zero, List.set_cons_succ, List.length_cons, List.length_nil, Option.map_some, Option.map_none, Option.bind_some, Option.bind_none, o_sub, o_add, o_lt, o_le, o_gt, o_ge, o_eq, o_ne, o_mul, o_mod, o_fdiv, o_int, o_intb, o_abs, o_neg, o_lenl, o_lent, o_ix, ixN_nat, Nat.reduceAdd, Nat.reduceLT, decide_true, decide_false, if_true, if_false, ite_true, ite_false, reduceIte, decide_eq_true_eq, Bool.false_eq_true, Nat.zero_lt_succ, Nat.succ_lt_succ_iff, List.length_map, hx0, hx1, hx2, hx3, hs1, hs2, hs3, h0, h1, ex, m1, p1, pow18, h2]
    · refine ⟨a, b, s, none, ?_, ha, hb⟩
      simp only [eVar, eMove, eC, eOp, argsF, consA, aVal, aSlot, aNil, Res.bind, resolve, putBack, sSet, sSeq, goOn, sIf, sRet, sExpr, tVal, isB, tAndF, tOrF, tNotF, eAndF, eOrF, eNotF, eIfF, sSkip, sSetIx, T.frz, frzL, List.getElem?_cons_zero, List.getElem?_cons_succ, List.set_cons_zero, List.set_cons_succ, List.length_cons, List.length_nil, Option.map_some, Option.map_none, Option.bind_some, Option.bind_none, o_sub, o_add, o_lt, o_le, o_gt, o_ge, o_eq, o_ne, o_mul, o_mod, o_fdiv, o_int, o_intb, o_abs, o_neg, o_lenl, o_lent, o_ix, ixN_nat, Nat.reduceAdd, Nat.reduceLT, decide_true, decide_false, if_true, if_false, ite_true, ite_false, reduceIte, decide_eq_true_eq, Bool.false_eq_true, Nat.zero_lt_succ, Nat.succ_lt_succ_iff, List.length_map, hx0, hx1, hx2, h0, h1]
  · refine ⟨a, b, s, none, ?_, ha, hb⟩
    simp only [eVar, eMove, eC, eOp, argsF, consA, aVal, aSlot, aNil, Res.bind, resolve, putBack, sSet, sSeq, goOn, sIf, sRet, sExpr, tVal, isB, tAndF, tOrF, tNotF, eAndF, eOrF, eNotF, eIfF, sSkip, sSetIx, T.frz, frzL, List.getElem?_cons_zero, List.getElem?_cons_succ, List.set_cons_zero, List.set_cons_succ, List.length_cons, List.length_nil, Option.map_some, Option.map_none, Option.bind_some, Option.bind_none, o_sub, o_add, o_lt, o_le, o_gt, o_ge, o_eq, o_ne, o_mul, o_mod, o_fdiv, o_int, o_intb, o_abs, o_neg, o_lenl, o_lent, o_ix, ixN_nat, Nat.reduceAdd, Nat.reduceLT, decide_true, decide_false, if_true, if_false, ite_true, ite_false, reduceIte, decide_eq_true_eq, Bool.false_eq_true, Nat.zero_lt_succ, Nat.succ_lt_succ_iff, List.length_map, hx0, hx1, hx2, h0]
theorem fb_draw_eq : fb__law_draw = sSeq drawA drawB := rfl
theorem draw_ok (hm : 0 < m) (hm2 : m < 1073741824) (ha : 0 ≤ a) (hb : 0 ≤ b) :
    ∃ r a' b' s' n', fn__law_draw [HandT cells a b s n, .int m] = .ok (.int r) [HandT cells a' b' s' n'] ∧ 0 ≤ r ∧ r < m ∧ 0 ≤ a' ∧ 0 ≤ b' := by
  obtain ⟨a1, b1, s1, x, e1, h1, h2⟩ := drawA_ok (cells := cells) (s := s) (n := n) (m := m) ha hb
  obtain ⟨r, b2, n2, y, z, e2, h3, h4, h5⟩ := drawB_ok (cells := cells) (a := a1) (s := s1) (n := n) (x := x) hm hm2 h2
  refine ⟨r, a1, b2, s1, n2, ?_, h3, h4, h1, h5⟩
  refine defF_rt (η := [some (HandT cells a1 b2 s1 n2), some (.int m), x, y, z]) ?_ rfl
  rw [fb_draw_eq]
  exact (sSeq_nx e1).trans e2
end

theorem hand_ok {ns : List Int} (hl : ns.length ≤ 63) : ∃ cells s, fn__law_hand [.scr ns] = .ok (HandT cells 0 0 s 0) [] := by
  obtain ⟨c0, e0⟩ : ∃ c : List Int, cutL ns none (some 63) = c := ⟨_, rfl⟩
  have hz : ns.length ≤ sizeLine := Nat.le_trans hl (by decide)
  have h0 : c0.length ≤ sizeLine := by
    subst e0
    unfold cutL
    rw [List.length_take, List.length_drop]
    omega
  have sl : sl01 [.scr ns, .int 63] = some (.lst true (c0.map T.int), [.scr ns, .int 63]) := by
    show cutO (.scr ns) none (some 63) [.scr ns, .int 63] = _
    unfold cutO
    simp only [e0, hz, if_true]
  have cm : compF [2] (tgN 2) cYes (eOp [.v (eOp [.s 2] intO)] absO) (c0.map T.int) [] [some (.scr ns), none, none] = .ok ((c0.map fun c => if c < 0 then -c else c).map T.int) [some (.scr ns), none, none] := by
    have := compF_map (own := [2]) (tg := tgN 2) (elt := eOp [.v (eOp [.s 2] intO)] absO) (E := [some (.scr ns), none, none]) rfl (fun t => match t with | .int c => .int (if c < 0 then -c else c) | t => t) (ts := c0.map T.int) (fun t ht => by
      obtain ⟨c, _, rfl⟩ := List.mem_map.mp ht
      exact ⟨_, _, rfl, rfl, rfl⟩) (by simpa using h0)
    rw [this, List.map_map, List.map_map]
    rfl
  refine ⟨c0.map fun c => if c < 0 then -c else c, 1 + (c0.length : Int), defF_rt (η := [some (.scr ns), some (.lst false ((c0.map fun c => if c < 0 then -c else c).map T.int)), none]) ?_ rfl⟩
  show fb__law_hand [some (.scr ns), none, none] = _
  unfold fb__law_hand
  have z5 : 5 ≤ sizeLine := by decide
  simp only [eVar, eMove, eC, eOp, argsF, consA, aVal, aSlot, aNil, Res.bind, resolve, putBack, sSet, sSeq, goOn, sIf, sRet, sExpr, tVal, isB, tAndF, tOrF, tNotF, eAndF, eOrF, eNotF, eIfF, sSkip, sSetIx, T.frz, frzL, List.getElem?_cons_zero, List.getElem?_cons_succ, List.set_cons_zero, List.set_cons_succ, List.length_cons, List.length_nil, Option.map_some, Option.map_none, Option.bind_some, Option.bind_none, o_sub, o_add, o_lt, o_le, o_gt, o_ge, o_eq, o_ne, o_mul, o_mod, o_fdiv, o_int, o_intb, o_abs, o_neg, o_lenl, o_lent, o_ix, ixN_nat, Nat.reduceAdd, Nat.reduceLT, decide_true, decide_false, if_true, if_false, ite_true, ite_false, reduceIte, decide_eq_true_eq, Bool.false_eq_true, Nat.zero_lt_succ, Nat.succ_lt_succ_iff, eComp, iSeqF, itemsOf, intF, sl, wipeE, cm, frzL_ints, eLst, valsOf, z5, List.length_map]
  rfl

def HandP (t : T) : Prop := ∃ cells a b s n, t = HandT cells a b s n ∧ 0 ≤ a ∧ 0 ≤ b
theorem draw_h {t : T} {m : Int} (h : HandP t) (hm : 0 < m) (hm2 : m < 1073741824) : ∃ r t', fn__law_draw [t, .int m] = .ok (.int r) [t'] ∧ 0 ≤ r ∧ r < m ∧ HandP t' := by
  obtain ⟨cells, a, b, s, n, rfl, ha, hb⟩ := h
  obtain ⟨r, a', b', s', n', e, h1, h2, h3, h4⟩ := draw_ok (cells := cells) (s := s) (n := n) hm hm2 ha hb
  exact ⟨r, _, e, h1, h2, cells, a', b', s', n', rfl, h3, h4⟩
theorem hand_h {ns : List Int} (hl : ns.length ≤ 63) : ∃ t, fn__law_hand [.scr ns] = .ok t [] ∧ HandP t := by
  obtain ⟨cells, sd, eh⟩ := hand_ok hl
  exact ⟨_, eh, cells, 0, 0, sd, 0, rfl, by omega, by omega⟩

/-- a comprehension: what it goes over, and what comes of it, are told by equations -/
theorem compF_ce {α β : Type} {own : List Nat} {tg : Tg} {c : Fe Bool} {elt : Fe T} {E : Env} {ts : List T} (q : α → T) (p : α → Bool) (f : α → β) (q' : β → T) (xs : List α) (ys : List β) (hts : ts = xs.map q) (hys : (xs.filter p).map f = ys) (hz : xs.length ≤ 100000)
    (st : ∀ (i : Nat) (x : α), xs[i]? = some x → ∃ η1 η2, tg (q x) E = some η1 ∧ c η1 = .ok (p x) η2 ∧ (p x = false → wipeE η2 own = E) ∧ (p x = true → ∃ η3, elt η2 = .ok (q' (f x)) η3 ∧ wipeE η3 own = E)) :
    compF own tg c elt ts [] E = .ok (ys.map q') E := by
  subst hts hys
  refine compF_cm q p f q' hz fun x hx => ?_
  obtain ⟨i, hi⟩ := List.mem_iff_getElem?.mp hx
  exact st i x hi
theorem compF_ye {α β : Type} {own : List Nat} {tg : Tg} {elt : Fe T} {E : Env} {ts : List T} (q : α → T) (f : α → β) (q' : β → T) (xs : List α) (ys : List β) (hts : ts = xs.map q) (hys : xs.map f = ys) (hz : xs.length ≤ 100000)
    (st : ∀ (i : Nat) (x : α), xs[i]? = some x → ∃ η1 η3, tg (q x) E = some η1 ∧ elt η1 = .ok (q' (f x)) η3 ∧ wipeE η3 own = E) :
    compF own tg cYes elt ts [] E = .ok (ys.map q') E := by
  subst hts hys
  refine compF_ym q f q' hz fun x hx => ?_
  obtain ⟨i, hi⟩ := List.mem_iff_getElem?.mp hx
  exact st i x hi
theorem o_rgT1 {j : Int} {n : Nat} (h : RgOk 0 j) (hn : j.toNat = n) : rgT1O [.int j] = some (.tup (rangeT 0 n), [.int j]) := by
  subst hn
  show (if RgOk 0 j then some (T.tup (rangeT 0 (j - 0).toNat), _) else none) = _
  rw [if_pos h, Int.sub_zero]
  rfl
theorem o_sumt (ns : List Int) : sumO [.tup (ns.map T.int)] = some (.int ns.sum, [.tup (ns.map T.int)]) := by unfold sumO; simp only [ints?_map, Option.map_some]
theorem ix_two (a b : Int) {r : Int} (h0 : 0 ≤ r) (h1 : r < 2) : ∃ v, ixO [.lst true [.int a, .int b], .int r] = some (.int v, [.lst true [.int a, .int b], .int r]) ∧ (v = a ∨ v = b) := by
  by_cases h : r = 0
  · subst h; exact ⟨a, rfl, .inl rfl⟩
  · have : r = 1 := by omega
    subst this; exact ⟨b, rfl, .inr rfl⟩

/-- a comprehension whose condition draws -/
theorem compF_dc {α S : Type} {own : List Nat} {tg : Tg} {c : Fe Bool} {elt : Fe T} (E : S → Env) (q q' : α → T) (G : S → Prop) {xs : List α} (hz : xs.length ≤ 100000)
    (st : ∀ x ∈ xs, ∀ s, G s → ∃ (s' : S) (b : Bool), G s' ∧ ∃ η1 η2, tg (q x) (E s) = some η1 ∧ c η1 = .ok b η2 ∧ (b = false → wipeE η2 own = E s') ∧ (b = true → ∃ η3, elt η2 = .ok (q' x) η3 ∧ wipeE η3 own = E s')) {s : S} (h : G s) :
    ∃ (s' : S) (ys : List α), G s' ∧ List.Sublist ys xs ∧ compF own tg c elt (xs.map q) [] (E s) = .ok (ys.map q') (E s') := by
  obtain ⟨acc, η', e, s', ys, h1, h2, h3, h4⟩ := compF_inv (own := own) (tg := tg) (c := c) (elt := elt) (ts := xs.map q)
    (fun i acc η => ∃ (s : S) (ys : List α), G s ∧ η = E s ∧ acc = ys.map q' ∧ List.Sublist ys (xs.take i))
    (fun i t acc η et ⟨s, ys, g1, g2, g3, g4⟩ => by
      subst g2 g3
      rw [List.getElem?_map] at et
      cases ex : xs[i]? with
      | none => rw [ex] at et; cases et
      | some x =>
        rw [ex] at et
        cases et
        obtain ⟨s', b, k1, η1, η2, k2, k3, k4, k5⟩ := st x (List.mem_of_getElem? ex) s g1
        refine ⟨η1, b, η2, k2, k3, fun hb => ⟨s', ys, k1, k4 hb, rfl, ?_⟩, fun hb => ?_⟩
        · rw [take_snoc ex]
          exact g4.trans (List.sublist_append_left _ _)
        · obtain ⟨η3, m1, m2⟩ := k5 hb
          refine ⟨q' x, η3, m1, s', ys ++ [x], k1, m2, by rw [List.map_append]; rfl, ?_⟩
          rw [take_snoc ex]
          exact g4.append (List.Sublist.refl _)) (acc := []) (η := E s) (by rw [List.length_map]; exact sz5 (by simpa using hz)) ⟨s, [], h, rfl, rfl, List.nil_sublist _⟩
  subst h2 h3
  rw [List.length_map, List.take_length] at h4
  exact ⟨s', ys, h1, h4, e⟩

theorem isint_ok (i : Int) : fn_is_integer [.int i] = .ok (.bl true) [] := rfl
theorem within_ok (i a b : Int) (h1 : a ≤ i) (h2 : i ≤ b) : fn_is_within [.int i, .int a, .int b] = .ok (.bl true) [] := by
  refine defF_rt (η := [some (.int i), some (.int a), some (.int b)]) ?_ rfl
  show fb_is_within [some (.int i), some (.int a), some (.int b)] = _
  have c := isint_ok i
  unfold fb_is_within
  repeat walk_at "jo1"

theorem isn_int (neg : Bool) (i : Int) : isnO neg [.int i, .non] = some (.bl neg, [.int i, .non]) := by cases neg <;> rfl
theorem isn_non (neg : Bool) : isnO neg [.non, .non] = some (.bl (!neg), [.non, .non]) := by cases neg <;> rfl

/-! ### the laws' own comparison: two trees of the same data, of the same kinds -/
inductive Is : Nat → T → T → Prop
  | int {d : Nat} (i : Int) : Is (d + 1) (.int i) (.int i)
  | bl {d : Nat} (b : Bool) : Is (d + 1) (.bl b) (.bl b)
  | non {d : Nat} : Is (d + 1) .non .non
  | tup {d : Nat} {ts us : List T} : ts.length = us.length → ts.length ≤ 100000 → (∀ p ∈ ts.zip us, Is d p.1 p.2) → Is (d + 1) (.tup ts) (.tup us)
  | lst {d : Nat} {ts us : List T} : ts.length = us.length → ts.length ≤ 100000 → (∀ p ∈ ts.zip us, Is d p.1 p.2) → Is (d + 1) (.lst false ts) (.lst false us)
theorem Is.frz {d : Nat} {t u : T} (h : Is d t u) : t.frz = t ∧ u.frz = u := by
  cases h <;> exact ⟨rfl, rfl⟩
theorem eqB (n a : Bool) : eqO n [.bl a, .bl a] = some (.bl (!n), [.bl a, .bl a]) := by
  cases n <;> cases a <;> rfl
theorem bls_all : ∀ n : Nat, bls? (List.replicate n (T.bl true)) = some (List.replicate n true)
  | 0 => rfl
  | n + 1 => by
    show (bls? (List.replicate n (T.bl true))).map (true :: ·) = _
    rw [bls_all n]
    rfl
theorem all_true (o : Bool) (n : Nat) : allO [.lst o (List.replicate n (.bl true))] = some (.bl true, [.lst o (List.replicate n (.bl true))]) := by
  unfold allO
  have h : (List.replicate n true).all id = true := by simp
  simp only [bls_all, Option.map_some, h]
theorem is_seq {d : Nat} {t u : T} {ts us : List T} {a : Bool} (rec : Fn) (hl : ts.length = us.length) (hz : ts.length ≤ 100000) (hr : ∀ p ∈ ts.zip us, p.1.frz = p.1 ∧ p.2.frz = p.2 ∧ rec [p.1, p.2] = .ok (.bl true) [])
    (hft : t.frz = t) (hfu : u.frz = u) (i1 : isiX "Feed" [.tup, .lst] [u] = some (.bl true, [u])) (i2 : isiX "Feed" [.tup, .lst] [t] = some (.bl true, [t])) (i3 : isiX "Feed" [.tup] [t] = some (.bl a, [t])) (i4 : isiX "Feed" [.tup] [u] = some (.bl a, [u]))
    (l1 : lenO [t] = some (.int ts.length, [t])) (l2 : lenO [u] = some (.int us.length, [u])) (zo : zipO3 [t, u] = some (zipT ts us)) : fb__law_is rec [some t, some u, none, none] = .ok (.rt (.bl true)) [some t, some u, none, none] := by
  have c0 : eOp [.s 1] (isiX "Feed" [.tup, .lst]) [some t, some u, none, none] = .ok (.bl true) [some t, some u, none, none] := eOp_r (args_s (i := 1) (t := u) rfl args_0) rfl i1 rfl
  have c1 : eOp [.s 0] (isiX "Feed" [.tup, .lst]) [some t, some u, none, none] = .ok (.bl true) [some t, some u, none, none] := eOp_r (args_s (i := 0) (t := t) rfl args_0) rfl i2 rfl
  have c2 : eOp [.s 0] (isiX "Feed" [.tup]) [some t, some u, none, none] = .ok (.bl a) [some t, some u, none, none] := eOp_r (args_s (i := 0) (t := t) rfl args_0) rfl i3 rfl
  have c3 : eOp [.s 1] (isiX "Feed" [.tup]) [some t, some u, none, none] = .ok (.bl a) [some t, some u, none, none] := eOp_r (args_s (i := 1) (t := u) rfl args_0) rfl i4 rfl
  have c4 : eOp [.v (eOp [.s 0] (isiX "Feed" [.tup])), .v (eOp [.s 1] (isiX "Feed" [.tup]))] (eqO true) [some t, some u, none, none] = .ok (.bl false) [some t, some u, none, none] := eOp_r (args_v c2 (args_v c3 args_0)) rfl (eqB true a) rfl
  have c5 : tOrF (tVal (eOp [.v (eOp [.s 0] (isiX "Feed" [.tup])), .v (eOp [.s 1] (isiX "Feed" [.tup]))] (eqO true))) (tNotF (tVal (eOp [.s 0] (isiX "Feed" [.tup, .lst])))) [some t, some u, none, none] = .ok false [some t, some u, none, none] := by
    unfold tOrF
    rw [tVal_of c4]
    exact tNot_of (tVal_of c1)
  have d1 : eOp [.s 0] lenO [some t, some u, none, none] = .ok (.int ts.length) [some t, some u, none, none] := eOp_r (args_s (i := 0) (t := t) rfl args_0) rfl l1 rfl
  have d2 : eOp [.s 1] lenO [some t, some u, none, none] = .ok (.int ts.length) [some t, some u, none, none] := eOp_r (args_s (i := 1) (t := u) rfl args_0) rfl (by rw [hl]; exact l2) rfl
  have oe := o_eq (ts.length : Int) (ts.length : Int)
  rw [decide_eq_true rfl] at oe
  have d3 : eOp [.v (eOp [.s 0] lenO), .v (eOp [.s 1] lenO)] (eqO false) [some t, some u, none, none] = .ok (.bl true) [some t, some u, none, none] := eOp_r (args_v d1 (args_v d2 args_0)) rfl oe rfl
  have v0 : eVar 0 [some t, some u, none, none] = .ok t [some t, some u, none, none] := by
    show Res.ok t.frz [some t.frz, some u, none, none] = _
    rw [hft]
  have v1 : eVar 1 [some t, some u, none, none] = .ok u [some t, some u, none, none] := by
    show Res.ok u.frz [some t, some u.frz, none, none] = _
    rw [hfu]
  have iz : iZ3F (eVar 0) (eVar 1) [some t, some u, none, none] = .ok (zipT ts us) [some t, some u, none, none] := by
    unfold iZ3F
    rw [args_v v0 (args_v v1 args_0)]
    show (match zipO3 [t, u] with | some zs => _ | none => _) = _
    rw [zo]
  have cm : compF [2, 3] (tgT [(tgN 2), (tgN 3)]) cYes (eOp [.s 2, .s 3] (borO rec)) (zipT ts us) [] [some t, some u, none, none] = .ok ((zipT ts us).map fun _ => T.bl true) [some t, some u, none, none] :=
    compF_map (E := [some t, some u, none, none]) rfl (fun _ => T.bl true) (fun z hz => by
      unfold zipT at hz
      obtain ⟨p, hp, rfl⟩ := List.mem_map.mp hz
      obtain ⟨h1, h2, h3⟩ := hr p hp
      have b : borO rec [p.1, p.2] = some (.bl true, [p.1, p.2]) := by
        unfold borO
        have : frzL [p.1, p.2] = [p.1, p.2] := by
          show [p.1.frz, p.2.frz] = _
          rw [h1, h2]
        rw [this, h3]
        rfl
      exact ⟨[some t, some u, some p.1, some p.2], [some t, some u, some p.1, some p.2], rfl, eOp_r (args_s (i := 2) (t := p.1) rfl (args_s (i := 3) (t := p.2) rfl args_0)) rfl b rfl, rfl⟩) (by rw [zipT_length]; exact Nat.le_trans (Nat.le_trans (Nat.min_le_left _ _) hz) (by decide))
  have em : (zipT ts us).map (fun _ => T.bl true) = List.replicate ts.length (.bl true) := by
    rw [List.map_const', zipT_length, hl, Nat.min_self]
  rw [em] at cm
  have at1 := all_true true ts.length
  generalize List.replicate ts.length (T.bl true) = R at *
  have g1 : eComp (iZ3F (eVar 0) (eVar 1)) [2, 3] (tgT [(tgN 2), (tgN 3)]) cYes (eOp [.s 2, .s 3] (borO rec)) [some t, some u, none, none] = .ok (.lst true R) [some t, some u, none, none] := eComp_of iz cm
  have g2 : eOp [.v (eComp (iZ3F (eVar 0) (eVar 1)) [2, 3] (tgT [(tgN 2), (tgN 3)]) cYes (eOp [.s 2, .s 3] (borO rec)))] allO [some t, some u, none, none] = .ok (.bl true) [some t, some u, none, none] := eOp_r (args_v g1 args_0) rfl at1 rfl
  have g3 : eAndF (eOp [.v (eOp [.s 0] lenO), .v (eOp [.s 1] lenO)] (eqO false)) (eOp [.v (eComp (iZ3F (eVar 0) (eVar 1)) [2, 3] (tgT [(tgN 2), (tgN 3)]) cYes (eOp [.s 2, .s 3] (borO rec)))] allO) [some t, some u, none, none] = .ok (.bl true) [some t, some u, none, none] := by
    unfold eAndF
    rw [d3]
    exact g2
  exact sSeq_rt ((sIf_t (tVal_of c0)).trans ((sSeq_nx ((sIf_f c5).trans rfl)).trans (sRet_of g3)))
theorem is_flat {t : T} {a : Bool} (rec : Fn) (i1 : isiX "Feed" [.tup, .lst] [t] = some (.bl false, [t])) (i2 : isiX "Feed" [.bl] [t] = some (.bl a, [t])) (q : eqO false [t, t] = some (.bl true, [t, t])) : fb__law_is rec [some t, some t, none, none] = .ok (.rt (.bl true)) [some t, some t, none, none] := by
  have c0 : eOp [.s 1] (isiX "Feed" [.tup, .lst]) [some t, some t, none, none] = .ok (.bl false) [some t, some t, none, none] := eOp_r (args_s (i := 1) (t := t) rfl args_0) rfl i1 rfl
  have c1 : eOp [.s 0] (isiX "Feed" [.bl]) [some t, some t, none, none] = .ok (.bl a) [some t, some t, none, none] := eOp_r (args_s (i := 0) (t := t) rfl args_0) rfl i2 rfl
  have c2 : eOp [.s 1] (isiX "Feed" [.bl]) [some t, some t, none, none] = .ok (.bl a) [some t, some t, none, none] := eOp_r (args_s (i := 1) (t := t) rfl args_0) rfl i2 rfl
  have c3 : eOp [.v (eOp [.s 0] (isiX "Feed" [.bl])), .v (eOp [.s 1] (isiX "Feed" [.bl]))] (eqO false) [some t, some t, none, none] = .ok (.bl true) [some t, some t, none, none] := eOp_r (args_v c1 (args_v c2 args_0)) rfl (eqB false a) rfl
  have c4 : eOp [.s 0, .s 1] (eqO false) [some t, some t, none, none] = .ok (.bl true) [some t, some t, none, none] := eOp_r (args_s (i := 0) (t := t) rfl (args_s (i := 1) (t := t) rfl args_0)) rfl q rfl
  have g : eAndF (eOp [.v (eOp [.s 0] (isiX "Feed" [.bl])), .v (eOp [.s 1] (isiX "Feed" [.bl]))] (eqO false)) (eOp [.s 0, .s 1] (eqO false)) [some t, some t, none, none] = .ok (.bl true) [some t, some t, none, none] := by
    unfold eAndF
    rw [c3]
    exact c4
  exact (sSeq_nx ((sIf_f (tVal_of c0)).trans rfl)).trans (sRet_of g)
theorem is_of : ∀ {d : Nat} {t u : T}, Is d t u → fn__law_is d [t, u] = .ok (.bl true) []
  | d + 1, _, _, .int i => defF_rt (is_flat _ rfl (a := false) rfl (by have := o_eq i i; rw [decide_eq_true rfl] at this; exact this)) rfl
  | d + 1, _, _, .bl b => defF_rt (is_flat _ rfl (a := true) rfl (eqB false b)) rfl
  | d + 1, _, _, .non => defF_rt (is_flat _ rfl (a := false) rfl rfl) rfl
  | d + 1, .tup ts, .tup us, .tup hl hz h => defF_rt (is_seq (d := d) (fn__law_is d) (a := true) hl hz (fun p hp => ⟨(h p hp).frz.1, (h p hp).frz.2, is_of (h p hp)⟩) rfl rfl rfl rfl rfl rfl rfl rfl rfl) rfl
  | d + 1, .lst _ ts, .lst _ us, .lst hl hz h => defF_rt (is_seq (d := d) (fn__law_is d) (a := false) hl hz (fun p hp => ⟨(h p hp).frz.1, (h p hp).frz.2, is_of (h p hp)⟩) rfl rfl rfl rfl rfl rfl rfl rfl rfl) rfl

theorem is_mapm {α : Type} {d : Nat} (f : α → T) (xs : List α) (h : ∀ x ∈ xs, Is d (f x) (f x)) (hl : xs.length ≤ 100000) : Is (d + 1) (.tup (xs.map f)) (.tup (xs.map f)) ∧ Is (d + 1) (.lst false (xs.map f)) (.lst false (xs.map f)) := by
  have key : ∀ p ∈ (xs.map f).zip (xs.map f), Is d p.1 p.2 := fun p hp => by
    obtain ⟨i, e⟩ := List.mem_iff_getElem?.mp hp
    obtain ⟨h1, h2⟩ := List.getElem?_zip_eq_some.mp e
    obtain ⟨a, b⟩ := p
    have e1 : some a = some b := h1.symm.trans h2
    cases e1
    obtain ⟨z, hz, rfl⟩ := List.mem_map.mp (List.mem_of_getElem? h1)
    exact h z hz
  exact ⟨.tup rfl (by rw [List.length_map]; exact hl) key, .lst rfl (by rw [List.length_map]; exact hl) key⟩
theorem is_pr (d : Nat) (p : Int × Int) : Is (d + 2) (.tup [.int p.1, .int p.2]) (.tup [.int p.1, .int p.2]) := (is_mapm (d := d + 1) T.int [p.1, p.2] (fun x _ => .int x) (by simp)).1
theorem is_tI (d : Nat) (xs : List Int) (hl : xs.length ≤ 100000) : Is (d + 2) (tupI xs) (tupI xs) := (is_mapm (d := d + 1) T.int xs (fun x _ => .int x) hl).1
theorem is_int (x : Int) : borO (fn__law_is 8) [.int x, .int x] = some (.bl true, [.int x, .int x]) := o_bor rfl (is_of (d := 8) (.int x)) rfl

/-! ### things of any kind, no objects of own classes among them -/
inductive Ob : T → Prop
  | non : Ob .non
  | bl (b : Bool) : Ob (.bl b)
  | int (i : Int) : Ob (.int i)
  | str (s : Str) : Ob (.str s)
  | tup {ts : List T} (hl : ts.length ≤ 100) (h : ∀ t ∈ ts, Ob t) : Ob (.tup ts)
  | lst (ts : List T) : Ob (.lst false ts)
  | dk (ks : List Key) (ts : List T) : Ob (.dk false ks ts)
  | ins (ks : List Str) (us : List T) : Ob (.ins false "Feed" ks us)
theorem Ob.frz {t : T} (h : Ob t) : t.frz = t := by
  cases h <;> rfl
theorem ob_ints (xs : List Int) (h : xs.length ≤ 100) : Ob (tupI xs) := .tup (by rw [List.length_map]; exact h) fun t ht => by
  obtain ⟨i, _, rfl⟩ := List.mem_map.mp ht
  exact .int i
def tl : T → Nat
  | .tup ts => ts.length
  | _ => 0
def PO (k : Nat) (t : T) : Prop := Ob t ∧ tl t ≤ k
theorem PO.frz {k : Nat} {t : T} (h : PO k t) : t.frz = t := h.1.frz
theorem PO.mono {k l : Nat} {t : T} (h : PO k t) (hk : k ≤ l) : PO l t := ⟨h.1, Nat.le_trans h.2 hk⟩
theorem po_tup {ts : List T} {k : Nat} (h : ∀ t ∈ ts, Ob t) (hk : ts.length ≤ k) (h1 : k ≤ 100) : PO k (.tup ts) := ⟨.tup (Nat.le_trans hk h1) h, hk⟩
def isI : T → Bool
  | .int _ => true
  | _ => false
theorem isint_any {t : T} (h : Ob t) : fn_is_integer [t] = .ok (.bl (isI t)) [] := by
  cases h <;> rfl
def inB (lo hi : Int) : T → Bool
  | .int i => decide (lo ≤ i) && decide (i ≤ hi)
  | _ => false
theorem within_int (lo hi i : Int) : fn_is_within [.int i, .int lo, .int hi] = .ok (.bl (decide (lo ≤ i) && decide (i ≤ hi))) [] := by
  have c : fn_is_integer [.int i] = .ok (.bl true) [] := rfl
  by_cases h : lo ≤ i
  · by_cases h2 : i ≤ hi
    · rw [decide_eq_true h, decide_eq_true h2]
      show _ = FRes.ok (.bl true) []
      apply defF_go (η0 := [some _, some _, some _]) rfl; unfold fb_is_within; (repeat walk_at "jo1")
    · rw [decide_eq_true h, decide_eq_false h2]
      show _ = FRes.ok (.bl false) []
      apply defF_go (η0 := [some _, some _, some _]) rfl; unfold fb_is_within; (repeat walk_at "jo1")
  · rw [decide_eq_false h]
    show _ = FRes.ok (.bl false) []
    apply defF_go (η0 := [some _, some _, some _]) rfl; unfold fb_is_within; (repeat walk_at "jo1")
theorem within_non {t : T} {lo hi : Int} (c : fn_is_integer [t] = .ok (.bl false) []) (fr : t.frz = t) : fn_is_within [t, .int lo, .int hi] = .ok (.bl false) [] := by
  apply defF_go (η0 := [some _, some _, some _]) rfl; unfold fb_is_within; (repeat walk_at "jo1")
theorem within_any {t : T} (h : Ob t) (lo hi : Int) : fn_is_within [t, .int lo, .int hi] = .ok (.bl (inB lo hi t)) [] := by
  have c := isint_any h
  have fr := h.frz
  cases h with
  | int i => exact within_int lo hi i
  | _ => exact within_non c fr
/-! ### loops that carry a state and may end with one answer -/
section
variable {S : Type}
def goS (sp : S → Nat → T → Option S) : S → Nat → List T → Bool
  | _, _, [] => true
  | s, k, t :: ts => match sp s k t with
    | some s' => goS sp s' (k + 1) ts
    | none => false
theorem goS_some {sp : S → Nat → T → Option S} {s s' : S} {k : Nat} {t : T} {ts : List T} (h : sp s k t = some s') : goS sp s k (t :: ts) = goS sp s' (k + 1) ts := by
  show (match sp s k t with | some s' => goS sp s' (k + 1) ts | none => false) = _
  rw [h]
theorem goS_none {sp : S → Nat → T → Option S} {s : S} {k : Nat} {t : T} {ts : List T} (h : sp s k t = none) : goS sp s k (t :: ts) = false := by
  show (match sp s k t with | some s' => goS sp s' (k + 1) ts | none => false) = _
  rw [h]
def itemsQ (q : Nat → T → T) : Nat → List T → List T
  | _, [] => []
  | k, t :: ts => q k t :: itemsQ q (k + 1) ts
theorem itemsQ_len (q : Nat → T → T) : ∀ (ts : List T) (k : Nat), (itemsQ q k ts).length = ts.length
  | [], _ => rfl
  | t :: ts, k => congrArg (· + 1) (itemsQ_len q ts (k + 1))
theorem itemsQ_get (q : Nat → T → T) : ∀ (ts : List T) (k i : Nat), (itemsQ q k ts)[i]? = ts[i]?.map fun t => q (k + i) t
  | [], _, _ => rfl
  | t :: ts, k, 0 => rfl
  | t :: ts, k, i + 1 => by
    show (itemsQ q (k + 1) ts)[i]? = _
    rw [itemsQ_get q ts (k + 1) i, List.getElem?_cons_succ, show k + 1 + i = k + (i + 1) by omega]
theorem itemsQ_enum (ts : List T) : enumT ts = itemsQ (fun i t => .tup [.int (i : Int), t]) 0 ts := by
  apply List.ext_getElem?
  intro i
  rw [itemsQ_get]
  unfold enumT
  rw [List.getElem?_map, List.getElem?_zipIdx]
  cases ts[i]? <;> simp
theorem itemsQ_range (ts : List T) : rangeT 0 ts.length = itemsQ (fun i _ => .int ((0 : Int) + (i : Int))) 0 ts := by
  apply List.ext_getElem?
  intro i
  rw [itemsQ_get]
  unfold rangeT
  rw [List.getElem?_map]
  by_cases h : i < ts.length
  · rw [List.getElem?_range h, List.getElem?_eq_getElem h]; simp
  · rw [List.getElem?_eq_none (by rw [List.length_range]; omega), List.getElem?_eq_none (by omega)]; rfl
theorem forF_st {tg : Tg} {body : Fs} {r : T} (q : Nat → T → T) (sp : S → Nat → T → Option S) (E : S → Nat → Env → Prop) {xs : List T}
    (st : ∀ (s : S) (i : Nat) (t : T) (η : Env), xs[i]? = some t → E s i η → ∃ η1 η2, tg (q i t) η = some η1 ∧ ((∃ s', sp s i t = some s' ∧ body η1 = .ok .nx η2 ∧ E s' (i + 1) η2) ∨ (sp s i t = none ∧ body η1 = .ok (.rt r) η2))) :
    ∀ (ys : List T) (k : Nat) (s : S) (η : Env), (∀ i t, ys[i]? = some t → xs[k + i]? = some t) → E s k η →
      (goS sp s k ys = true ∧ ∃ η' s', forF tg body (itemsQ q k ys) η = .ok .nx η' ∧ E s' (k + ys.length) η') ∨ (goS sp s k ys = false ∧ ∃ η', forF tg body (itemsQ q k ys) η = .ok (.rt r) η')
  | [], k, s, η, _, h => .inl ⟨rfl, η, s, rfl, h⟩
  | t :: ts, k, s, η, hx, h => by
    obtain ⟨η1, η2, e1, e2⟩ := st s k t η (by simpa using hx 0 t rfl) h
    rcases e2 with ⟨s', e2, e3, h2⟩ | ⟨e2, e3⟩
    · have IH := forF_st q sp E st ts (k + 1) s' η2 (fun i u hu => by rw [show k + 1 + i = k + (i + 1) by omega]; exact hx (i + 1) u (by simpa using hu)) h2
      have f1 : forF tg body (itemsQ q k (t :: ts)) η = forF tg body (itemsQ q (k + 1) ts) η2 := by
        show forF tg body (q k t :: itemsQ q (k + 1) ts) η = _
        conv => lhs; unfold forF
        rw [e1]
        simp only [e3]
      have g1 : goS sp s k (t :: ts) = goS sp s' (k + 1) ts := by
        show (match sp s k t with | some s' => goS sp s' (k + 1) ts | none => false) = _
        rw [e2]
      rw [f1, g1, List.length_cons, show k + (ts.length + 1) = k + 1 + ts.length by omega]
      exact IH
    · refine .inr ⟨?_, η2, ?_⟩
      · show (match sp s k t with | some s' => goS sp s' (k + 1) ts | none => false) = _
        rw [e2]
      · show forF tg body (q k t :: itemsQ q (k + 1) ts) η = _
        unfold forF
        rw [e1]
        simp only [e3]
end
/-- picking out of a list of things with a property -/
theorem pickP {P : T → Prop} {xs : List T} (h : ∀ t ∈ xs, P t.frz) {r : Int} (h0 : 0 ≤ r) (h1 : r < (xs.length : Int)) : ∃ u ys, ixO [.lst true xs, .int r] = some (u, [.lst true ys, .int r]) ∧ P u := by
  have e : xs[r.toNat]? = some (xs[r.toNat]'(by omega)) := List.getElem?_eq_getElem _
  exact ⟨_, _, o_ixL h0 e rfl rfl, h _ (List.mem_of_getElem? e)⟩
theorem st_nx {S : Type} {tg : Tg} {body : Fs} {η η1 η2 : Env} {t r : T} {o : Option S} {s : S} {J : S → Env → Prop} (h0 : o = some s) (h1 : tg t η = some η1) (h2 : body η1 = .ok .nx η2) (h3 : J s η2) : ∃ η1 η2, tg t η = some η1 ∧ ((∃ s', o = some s' ∧ body η1 = .ok .nx η2 ∧ J s' η2) ∨ (o = none ∧ body η1 = .ok (.rt r) η2)) := ⟨_, _, h1, .inl ⟨_, h0, h2, h3⟩⟩
theorem st_rt {S : Type} {tg : Tg} {body : Fs} {η η1 η2 : Env} {t r : T} {o : Option S} {J : S → Env → Prop} (h0 : o = none) (h1 : tg t η = some η1) (h2 : body η1 = .ok (.rt r) η2) : ∃ η1 η2, tg t η = some η1 ∧ ((∃ s', o = some s' ∧ body η1 = .ok .nx η2 ∧ J s' η2) ∨ (o = none ∧ body η1 = .ok (.rt r) η2)) := ⟨_, _, h1, .inr ⟨h0, h2⟩⟩
theorem eq_strT (s : Str) (hs : PyData.strOk s = true := by decide +kernel) : eqO true [.str s, .str s] = some (.bl false, [.str s, .str s]) := by
  unfold eqO
  have e : PyData.eqv (.str s) (.str s) = true := by simp [PyData.eqv]
  have h : SeqAt.shaped (.str s) = true := by simp [SeqAt.shaped, PyData.canLay0, PyData.depth, hs]
  simp only [T.dat, Option.bind_some, h, and_self, if_true, e]
  rfl

/-! ### lists of things -/
theorem fOb {t : T} (h : Ob t) : Ob t.frz := by rw [h.frz]; exact h
theorem ob_cat {X Y : List T} (hX : ∀ t ∈ X, Ob t) (hY : ∀ t ∈ Y, Ob t) (l : X.length + Y.length ≤ 100) : ∃ R, opAdd [.tup X, .tup Y] = some (.tup R, [.tup X, .tup Y]) ∧ R = X ++ Y ∧ Ob (.tup R) := ⟨X ++ Y, o_catT (by omega), rfl, .tup (by rw [List.length_append]; omega) fun t ht => (List.mem_append.mp ht).elim (hX t) (hY t)⟩
theorem ob_one {t : T} (h : Ob t) : ∀ x ∈ [t], Ob x := fun x hx => by rw [List.mem_singleton.mp hx]; exact h
theorem ob_mem {ts : List T} (h : Ob (.tup ts)) : ∀ t ∈ ts, Ob t := by cases h with | tup _ h => exact h
theorem catl {X Y : List T} (hX : ∀ t ∈ X, Ob t.frz) (hY : ∀ t ∈ Y, Ob t.frz) (hl : X.length + Y.length ≤ 100) : ∃ Z x y, opAdd [.lst true X, .lst true Y] = some (.lst true Z, [x, y]) ∧ Z.length = X.length + Y.length ∧ ∀ t ∈ Z, Ob t.frz := ⟨_, _, _, o_catL rfl rfl (by omega), by rw [List.length_append, frzIf_len, frzIf_len], fun t ht => by
  have fz : ∀ (X : List T), (∀ t ∈ X, Ob t.frz) → ∀ t ∈ frzIf true X, Ob t.frz := fun X hX t ht => by
    unfold frzIf at ht
    rw [if_pos rfl, frzL_map] at ht
    obtain ⟨x, hx, rfl⟩ := List.mem_map.mp ht
    rw [(hX x hx).frz]
    exact hX x hx
  exact (List.mem_append.mp ht).elim (fz X hX t) (fz Y hY t)⟩
theorem cutL_mem {α : Type} {xs : List α} {lo hi : Option Int} {x : α} (h : x ∈ cutL xs lo hi) : x ∈ xs := by
  unfold cutL at h
  exact List.mem_of_mem_drop (List.mem_of_mem_take h)
theorem cutL_len {α : Type} (xs : List α) (lo hi : Option Int) : (cutL xs lo hi).length ≤ xs.length := by
  unfold cutL
  rw [List.length_take, List.length_drop]
  omega

/-! ### a drawn thing, nested two to thirty deep -/
def Dp (t : T) : Prop := PO 1 t ∧ isI t = false
theorem deep_ok {hd : T} (hh : HandP hd) : ∃ t hd', fn__law_deep [hd] = .ok t [hd'] ∧ HandP hd' ∧ Dp t := by
  obtain ⟨r, hd1, e1, r0, r1, hp1⟩ := draw_h hh (m := 4) (by omega) (by omega)
  obtain ⟨f, ys, ix, hf⟩ := pickP (P := fun t => PO 1 t) (xs := [.non, .str "a", .int (-1), .dk true [] []]) (fun t ht => by
    simp only [List.mem_cons, List.mem_nil_iff, or_false] at ht
    rcases ht with rfl | rfl | rfl | rfl
    · exact ⟨.non, Nat.zero_le _⟩
    · exact ⟨.str _, Nat.zero_le _⟩
    · exact ⟨.int _, Nat.zero_le _⟩
    · exact ⟨.dk _ _, Nat.zero_le _⟩) r0 (by simpa using r1)
  obtain ⟨q, hd2, e2, q0, q1, hp2⟩ := draw_h hp1 (m := 29) (by omega) (by omega)
  obtain ⟨n, hn⟩ : ∃ n : Nat, 2 + q = (n : Int) := ⟨(2 + q).toNat, by omega⟩
  have n2 : 1 ≤ n := by omega
  have a2 := o_add 2 q
  rw [hn] at a2
  obtain ⟨η', lp, hd', t, j2, eη, hp', ht, ht2⟩ := forF_rg (tg := (tgN 2)) (body := (sSet 1 (eOp [.v (eLst [.v (eTup [.v (eVar 1)]), .v (eLst [.v (eVar 1)]), .v (eOp [.v (eTup [.v (eVar 1), .v (eVar 1)]), .v (intF (eC (.int 1)))] sl01), .v (eD1 0 (eVar 1))]), .v (eCall fn__law_draw [0] [.s 0, .v (eC (.int 4))])] ixO))) (lo := 0) (n := n) (fun i η => ∃ (hd : T) (t : T) (j2 : Option T), η = [some hd, some t, j2] ∧ HandP hd ∧ PO 1 t ∧ (1 ≤ i → isI t = false))
    (fun i η hi ⟨hd, t, j2, eη, hp, ht, _⟩ => by
      subst eη
      obtain ⟨r, hd1, e1, r0, r1, hp1⟩ := draw_h hp (m := 4) (by omega) (by omega)
      have fr := ht.frz
      obtain ⟨u, ys, ix, hu⟩ := pickP (P := fun t => PO 1 t ∧ isI t = false) (xs := [.tup [t.frz], .lst true [t], .tup [t.frz], .dk true [.inl 0] [t]]) (fun x hx => by
        simp only [List.mem_cons, List.mem_nil_iff, or_false] at hx
        have one : PO 1 (.tup [t.frz]) := po_tup (fun y hy => by rw [List.mem_singleton.mp hy, fr]; exact ht.1) (by simp) (by omega)
        rcases hx with rfl | rfl | rfl | rfl
        · exact ⟨one, rfl⟩
        · exact ⟨⟨.lst _, Nat.zero_le _⟩, rfl⟩
        · exact ⟨one, rfl⟩
        · exact ⟨⟨.dk _ _, Nat.zero_le _⟩, rfl⟩) r0 (by simpa using r1)
      have sl : sl01 [.tup [t.frz, t.frz], .int 1] = some (.tup [t.frz], [.tup [t.frz, t.frz], .int 1]) := o_s01t [t.frz, t.frz] (by omega)
      generalize (0 : Int) + (i : Int) = ii at *
      apply ex_f
      repeat walk_at "jo1"
      exact ⟨hd1, u, _, rfl, hp1, hu.1, fun _ => hu.2⟩) (η := [some hd2, some f, none]) ⟨hd2, f, none, rfl, hp2, hf, fun h => absurd h (by omega)⟩
  subst eη
  refine ⟨t, hd', ?_, hp', ht, ht2 n2⟩
  have hb := bd62 (i := (n : Int)) (by omega) (by omega)
  have hnn : (n : Int).toNat = n := Int.toNat_natCast n
  have fr := ht.frz
  have e0 : eD0 [some hd, none, none] = .ok (.dk true [] []) [some hd, none, none] := rfl
  generalize (n : Int) = ni at *
  apply defF_go (η0 := [some _, none, none]) rfl; unfold fb__law_deep; (repeat walk_at "jo1")

/-! ### feeds: batches, hours that are kept -/
def optV : Option Int → T
  | none => .non
  | some i => .int i
abbrev Bat := List (Int × Option Int)
abbrev pairO (p : Int × Option Int) : T := .tup [.int p.1, optV p.2]
abbrev batT (b : Bat) : T := .tup (b.map pairO)
instance : FrzC pairO := ⟨fun _ => rfl⟩
instance : FrzC batT := ⟨fun _ => rfl⟩
structure BatOk (b : Bat) : Prop where
  len : b.length ≤ 60
  asc : (b.map Prod.fst).Pairwise (· < ·)
  bd : ∀ p ∈ b, 0 ≤ p.1 ∧ p.1 ≤ 999
abbrev batsT (bs : List Bat) : T := .tup (bs.map batT)
abbrev feedB (o : Bool) (bs : List Bat) (ks : List Int) : T := .ins o "Feed" ["batches", "kept"] [batsT bs, tupI ks]

/-! ### drawn batches, drawn kept hours -/
theorem insU_len (x : Int) : ∀ ys : List Int, (insU x ys).length ≤ ys.length + 1
  | [] => Nat.le_refl _
  | y :: ys => by
    unfold insU
    split
    · simp
    · split
      · simp
      · have := insU_len x ys
        simp only [List.length_cons]
        omega
theorem sortU_len : ∀ xs : List Int, (sortU xs).length ≤ xs.length
  | [] => Nat.le_refl _
  | x :: xs => by
    have h1 := insU_len x (sortU xs)
    have h2 := sortU_len xs
    show (insU x (sortU xs)).length ≤ _
    rw [List.length_cons]
    omega
/-- a comprehension that draws, over a list: each thing with what was drawn for it -/
theorem compF_drp {α γ S : Type} {own : List Nat} {tg : Tg} {elt : Fe T} (E : S → Env) (q : α → T) (q' : α × γ → T) (G : S → Prop) {xs : List α} (hz : xs.length ≤ 100000)
    (st : ∀ x ∈ xs, ∀ s, G s → ∃ (s' : S) (c : γ), G s' ∧ ∃ η1 η3, tg (q x) (E s) = some η1 ∧ elt η1 = .ok (q' (x, c)) η3 ∧ wipeE η3 own = E s') {s : S} (h : G s) :
    ∃ (s' : S) (bs : List (α × γ)), G s' ∧ bs.map Prod.fst = xs ∧ compF own tg cYes elt (xs.map q) [] (E s) = .ok (bs.map q') (E s') := by
  obtain ⟨acc, η', e, s', bs, h1, h2, h3, h4⟩ := compF_inv (own := own) (tg := tg) (c := cYes) (elt := elt) (ts := xs.map q)
    (fun i acc η => ∃ (s : S) (bs : List (α × γ)), G s ∧ η = E s ∧ acc = bs.map q' ∧ bs.map Prod.fst = xs.take i)
    (fun i t acc η et ⟨s, bs, g1, g2, g3, g4⟩ => by
      subst g2 g3
      rw [List.getElem?_map] at et
      cases ex : xs[i]? with
      | none => rw [ex] at et; cases et
      | some x =>
        rw [ex] at et
        cases et
        obtain ⟨s', c, k1, η1, η3, k2, k3, k4⟩ := st x (List.mem_of_getElem? ex) s g1
        refine ex_i k2 k3 ⟨s', bs ++ [(x, c)], k1, k4, by rw [List.map_append]; rfl, ?_⟩
        rw [take_snoc ex, List.map_append, g4]; rfl) (acc := []) (η := E s) (by rw [List.length_map]; exact sz5 (by simpa using hz)) ⟨s, [], h, rfl, rfl, rfl⟩
  subst h2 h3
  rw [List.length_map, List.take_length] at h4
  exact ⟨s', bs, h1, h4, e⟩
theorem lbatch_ok {hd : T} (hh : HandP hd) {k m : Int} (k1 : 1 ≤ k) (k2 : k ≤ 1000) (m0 : 0 ≤ m) (m2 : m ≤ 60) : ∃ (b : Bat) (hd' : T), fn__law_batch [hd, .int k, .int m] = .ok (batT b) [hd'] ∧ HandP hd' ∧ BatOk b ∧ (b.length : Int) ≤ m ∧ ∀ p ∈ b, p.1 < k := by
  obtain ⟨r, hd1, e1, r0, r1, hp1⟩ := draw_h hh (m := m + 1) (by omega) (by omega)
  obtain ⟨n, hn⟩ : ∃ n : Nat, r = (n : Int) := ⟨r.toNat, by omega⟩
  subst hn
  obtain ⟨hd2, ns, hp2, nl, nb, c1⟩ := compF_dr (own := [4]) (tg := tgN 4) (elt := eCall fn__law_draw [0] [.s 0, .v (eVar 1)]) (lo := 0) (n := n)
    (fun hd : T => [some hd, some (.int k), some (.int m), none, none, none]) T.int (fun b _ => 0 ≤ b ∧ b < k) HandP (by omega) (fun i s hi hs => by
      obtain ⟨q, hd', e, q0, q1, hp⟩ := draw_h hs (m := k) (by omega) (by omega)
      refine ⟨hd', q, hp, ⟨q0, q1⟩, ?_⟩
      generalize (0 : Int) + (i : Int) = ii at *
      apply ex_y
      repeat walk_at "jo1") hp1
  have os := o_ssl (o := true) (ns := ns) (by omega)
  have sl := sortU_len ns
  obtain ⟨hd3, bs, hp3, bm, c2⟩ := compF_drp (own := [5]) (tg := tgN 5) (elt := eTup [.v (eVar 5), .v (eIfF (tVal (eOp [.v (eCall fn__law_draw [0] [.s 0, .v (eC (.int 4))]), .v (eC (.int 0))] (eqO false))) (eC .non) (eOp [.v (eCall fn__law_draw [0] [.s 0, .v (eC (.int 9))]), .v (eC (.int 3))] opSub))])
    (fun hd : T => [some hd, some (.int k), some (.int m), some (.lst false ((sortU ns).map T.int)), none, none]) T.int (pairO : Int × Option Int → T) HandP (xs := sortU ns) (by omega) (fun x hx s hs => by
      obtain ⟨q, hd', e, q0, q1, hp⟩ := draw_h hs (m := 4) (by omega) (by omega)
      obtain ⟨v, hd'', e', v0, v1, hp'⟩ := draw_h hp (m := 9) (by omega) (by omega)
      by_cases hq : q = 0
      · subst hq
        refine ⟨hd', none, hp, ?_⟩
        have q4 : eqO false [.int 0, .int 0] = some (.bl true, [.int 0, .int 0]) := by rw [o_eq]; rfl
        rw [show pairO (x, none) = T.tup [.int x, .non] from rfl]
        apply ex_y
        repeat walk_at "jo1"
      · refine ⟨hd'', some (v - 3), hp', ?_⟩
        have q4 : eqO false [.int q, .int 0] = some (.bl false, [.int q, .int 0]) := by rw [o_eq, decide_eq_false hq]
        rw [show pairO (x, some (v - 3)) = T.tup [.int x, .int (v - 3)] from rfl]
        apply ex_y
        repeat walk_at "jo1") hp2
  have bl : bs.length = (sortU ns).length := by rw [← bm, List.length_map]
  refine ⟨bs, hd3, ?_, hp3, ⟨by omega, by rw [bm]; exact sortU_asc ns, fun p hp => ?_⟩, by omega, fun p hp => ?_⟩
  · have tb : tupO [.lst true (bs.map pairO)] = some (batT bs, [.lst true (bs.map pairO)]) := o_tupT (frzL_cls pairO _)
    have hb := bd62 (i := (n : Int)) (by omega) (by omega)
    have hnn : (n : Int).toNat = n := Int.toNat_natCast n
    generalize (n : Int) = ni at *
    apply defF_go (η0 := [some _, some _, some _, none, none, none]) rfl; unfold fb__law_batch; (repeat walk_at "jo1")
  · have : p.1 ∈ sortU ns := by rw [← bm]; exact List.mem_map_of_mem hp
    rw [sortU_mem] at this
    obtain ⟨i, hi⟩ := List.mem_iff_getElem?.mp this
    have := nb i p.1 hi
    omega
  · have : p.1 ∈ sortU ns := by rw [← bm]; exact List.mem_map_of_mem hp
    rw [sortU_mem] at this
    obtain ⟨i, hi⟩ := List.mem_iff_getElem?.mp this
    have := nb i p.1 hi
    omega
theorem lbatches_ok {hd : T} (hh : HandP hd) {n : Nat} (hn : n ≤ 40) {k m : Int} (k1 : 1 ≤ k) (k2 : k ≤ 1000) (m0 : 0 ≤ m) (m2 : m ≤ 60) : ∃ (bs : List Bat) (hd' : T), fn__law_batches [hd, .int (n : Int), .int k, .int m] = .ok (batsT bs) [hd'] ∧ HandP hd' ∧ bs.length = n ∧ ∀ b ∈ bs, BatOk b ∧ (b.length : Int) ≤ m ∧ ∀ p ∈ b, p.1 < k := by
  obtain ⟨hd2, bs, hp2, nl, nb, c1⟩ := compF_dr (own := [4]) (tg := tgN 4) (elt := eCall fn__law_batch [0] [.s 0, .v (eVar 2), .v (eVar 3)]) (lo := 0) (n := n)
    (fun hd : T => [some hd, some (.int (n : Int)), some (.int k), some (.int m), none]) batT (fun b _ => BatOk b ∧ (b.length : Int) ≤ m ∧ ∀ p ∈ b, p.1 < k) HandP (by omega) (fun i s hi hs => by
      obtain ⟨b, hd', e, hp, q1, q2, q3⟩ := lbatch_ok hs k1 k2 m0 m2
      refine ⟨hd', b, hp, ⟨q1, q2, q3⟩, ?_⟩
      have fr : (batT b).frz = batT b := rfl
      generalize batT b = bb at *
      generalize (0 : Int) + (i : Int) = ii at *
      generalize (n : Int) = ni at *
      apply ex_y
      repeat walk_at "jo1") hh
  refine ⟨bs, hd2, ?_, hp2, nl, fun b hb => by
    obtain ⟨i, hi⟩ := List.mem_iff_getElem?.mp hb
    exact nb i b hi⟩
  have tb : tupO [.lst true (bs.map batT)] = some (batsT bs, [.lst true (bs.map batT)]) := o_tupT (frzL_cls batT _)
  have hb := bd62 (i := (n : Int)) (by omega) (by omega)
  have hnn : (n : Int).toNat = n := Int.toNat_natCast n
  generalize (n : Int) = ni at *
  apply defF_go (η0 := [some _, some _, some _, some _, none]) rfl; unfold fb__law_batches; (repeat walk_at "jo1")
theorem lkept_ok {hd : T} (hh : HandP hd) {n : Nat} (hn : n ≤ 40) : ∃ (ks : List Int) (hd' : T), fn__law_kept [hd, .int (n : Int)] = .ok (tupI ks) [hd'] ∧ HandP hd' ∧ ks.Pairwise (· < ·) ∧ ∀ k ∈ ks, 0 ≤ k ∧ k < (n : Int) := by
  obtain ⟨hd2, ys, hp2, sb, c1⟩ := compF_dc (own := [2]) (tg := tgN 2) (c := tVal (eOp [.v (eCall fn__law_draw [0] [.s 0, .v (eC (.int 4))]), .v (eC (.int 0))] (eqO false))) (elt := eVar 2)
    (fun hd : T => [some hd, some (.int (n : Int)), none]) (fun i : Nat => T.int ((0 : Int) + (i : Int))) (fun i : Nat => T.int ((0 : Int) + (i : Int))) HandP (xs := List.range n) (by rw [List.length_range]; omega) (fun x hx s hs => by
      obtain ⟨q, hd', e, q0, q1, hp⟩ := draw_h hs (m := 4) (by omega) (by omega)
      have qe := o_eq q 0
      refine ⟨hd', decide (q = 0), hp, ?_⟩
      generalize decide (q = 0) = b at *
      generalize (0 : Int) + (x : Int) = ii at *
      generalize (n : Int) = ni at *
      refine ⟨_, [some hd', some (.int ni), some (.int ii)], rfl, ?_, fun _ => rfl, fun _ => ⟨[some hd', some (.int ni), some (.int ii)], ?_, rfl⟩⟩
      · repeat walk_at "jo1"
      · repeat walk_at "jo1") hh
  have em : ys.map (fun i : Nat => T.int ((0 : Int) + (i : Int))) = (ys.map fun i : Nat => (0 : Int) + (i : Int)).map T.int := by rw [List.map_map]; rfl
  rw [em] at c1
  refine ⟨ys.map fun i : Nat => (0 : Int) + (i : Int), hd2, ?_, hp2, ?_, fun k hk => ?_⟩
  · have tb : tupO [.lst true ((ys.map fun i : Nat => (0 : Int) + (i : Int)).map T.int)] = some (tupI (ys.map fun i : Nat => (0 : Int) + (i : Int)), [.lst true ((ys.map fun i : Nat => (0 : Int) + (i : Int)).map T.int)]) := o_tupT (frzL_ints _)
    have hb := bd62 (i := (n : Int)) (by omega) (by omega)
    have hnn : (n : Int).toNat = n := Int.toNat_natCast n
    have c1 : compF [2] (tgN 2) (tVal (eOp [.v (eCall fn__law_draw [0] [.s 0, .v (eC (.int 4))]), .v (eC (.int 0))] (eqO false))) (eVar 2) (rangeT 0 n) [] [some hd, some (.int (n : Int)), none] = .ok ((ys.map fun i : Nat => (0 : Int) + (i : Int)).map T.int) [some hd2, some (.int (n : Int)), none] := c1
    generalize ys.map (fun i : Nat => (0 : Int) + (i : Int)) = zs at *
    generalize (n : Int) = ni at *
    apply defF_go (η0 := [some _, some _, none]) rfl; unfold fb__law_kept; (repeat walk_at "jo1")
  · rw [List.pairwise_map]
    exact (List.pairwise_lt_range.sublist sb).imp fun h => by omega
  · obtain ⟨i, hi, rfl⟩ := List.mem_map.mp hk
    have := List.mem_range.mp (sb.subset hi)
    omega

theorem inB_non {t : T} (h : isI t = false) (lo hi : Int) : inB lo hi t = false := by
  cases t with
  | int i => cases h
  | _ => rfl
/-! ### what is a wide plan, of any thing: the program's look -/
def ascS (hi : Int) : Int → Nat → T → Option Int := fun last _ t => if inB (last + 1) hi t = true then (match t with | .int i => some i | _ => none) else none
def ascB (hi : Int) : T → Bool
  | .tup us => goS (ascS hi) (0 - 1) 0 us
  | _ => false
theorem ascS_int {hi last i : Int} {k : Nat} : ascS hi last k (.int i) = if (decide (last + 1 ≤ i) && decide (i ≤ hi)) = true then some i else none := rfl
theorem ascS_non {hi last : Int} {k : Nat} {t : T} (h : isI t = false) : ascS hi last k t = none := by
  unfold ascS
  rw [inB_non h, if_neg Bool.false_ne_true]
theorem isasc_any {t : T} (h : Ob t) (hi : Int) : fn_is_ascending [t, .int 0, .int hi] = .ok (.bl (ascB hi t)) [] := by
  cases h with
  | tup hl h =>
    rename_i ts
    show _ = FRes.ok (.bl (goS (ascS hi) (0 - 1) 0 ts)) []
    have L := forF_st (tg := (tgN 4)) (body := (sSeq (sIf (tNotF (tVal (eCall fn_is_within [] [.v (eVar 4), .v (eOp [.s 3, .v (eC (.int 1))] opAdd), .v (eVar 2)]))) (sRet (eC (.bl false)))
    sSkip)
    (sSet 3 (eVar 4)))) (r := .bl false) (fun i t => t) (ascS hi)
      (fun last i η => ∃ j4, η = [some (.tup ts), some (.int 0), some (.int hi), some (.int last), j4]) (xs := ts)
      (fun last i t η ex ⟨j4, eη⟩ => by
        subst eη
        have ot := h t (List.mem_of_getElem? ex)
        have c := within_any ot (last + 1) hi
        have fr := ot.frz
        cases it : isI t with
        | false =>
          rw [inB_non it] at c
          have e0 := ascS_non (hi := hi) (last := last) (k := i) it
          apply st_rt e0
          repeat walk_at "jo1"
        | true =>
          cases t with
          | int b =>
            have c : fn_is_within [.int b, .int (last + 1), .int hi] = .ok (.bl (decide (last + 1 ≤ b) && decide (b ≤ hi))) [] := c
            rw [ascS_int]
            generalize (decide (last + 1 ≤ b) && decide (b ≤ hi)) = w at *
            cases w with
            | false =>
              apply st_rt (if_neg Bool.false_ne_true)
              repeat walk_at "jo1"
            | true =>
              apply st_nx (if_pos rfl)
              repeat walk_at "jo1"
              exact ⟨_, rfl⟩
          | _ => cases it)
      ts 0 (0 - 1) [some (.tup ts), some (.int 0), some (.int hi), some (.int (0 - 1)), none] (fun i t e => by rw [Nat.zero_add]; exact e) ⟨none, rfl⟩
    have ei : ∀ (ts : List T) (k : Nat), itemsQ (fun i t => t) k ts = ts := by
      intro ts
      induction ts with
      | nil => exact fun _ => rfl
      | cons t ts ih => exact fun k => by show t :: itemsQ _ (k + 1) ts = _; rw [ih]
    rw [ei] at L
    clear ei
    rcases L with ⟨g, η', s', f1, j4, eη⟩ | ⟨g, η', f1⟩
    · subst eη
      rw [g]
      apply defF_go (η0 := [some _, some _, some _, none, none]) rfl; unfold fb_is_ascending; (repeat walk_at "jo1")
    · rw [g]
      refine defF_rt (η := η') ?_ rfl
      show fb_is_ascending [some (.tup ts), some (.int 0), some (.int hi), none, none] = _
      unfold fb_is_ascending
      repeat walk_at "jo1"
  | non =>
    show _ = FRes.ok (.bl false) []
    apply defF_go (η0 := [some _, some _, some _, none, none]) rfl; unfold fb_is_ascending; (repeat walk_at "jo1")
  | bl b =>
    show _ = FRes.ok (.bl false) []
    apply defF_go (η0 := [some _, some _, some _, none, none]) rfl; unfold fb_is_ascending; (repeat walk_at "jo1")
  | int i =>
    show _ = FRes.ok (.bl false) []
    apply defF_go (η0 := [some _, some _, some _, none, none]) rfl; unfold fb_is_ascending; (repeat walk_at "jo1")
  | str s =>
    show _ = FRes.ok (.bl false) []
    apply defF_go (η0 := [some _, some _, some _, none, none]) rfl; unfold fb_is_ascending; (repeat walk_at "jo1")
  | lst ts =>
    show _ = FRes.ok (.bl false) []
    apply defF_go (η0 := [some _, some _, some _, none, none]) rfl; unfold fb_is_ascending; (repeat walk_at "jo1")
  | dk ks ts =>
    show _ = FRes.ok (.bl false) []
    apply defF_go (η0 := [some _, some _, some _, none, none]) rfl; unfold fb_is_ascending; (repeat walk_at "jo1")
  | ins ks us =>
    show _ = FRes.ok (.bl false) []
    apply defF_go (η0 := [some _, some _, some _, none, none]) rfl; unfold fb_is_ascending; (repeat walk_at "jo1")
theorem goS_asc {hi : Int} : ∀ (ts : List T) (last : Int) (k : Nat), goS (ascS hi) last k ts = true → ∃ ns : List Int, ts = ns.map T.int ∧ ns.Pairwise (· < ·) ∧ ∀ x ∈ ns, last < x ∧ x ≤ hi
  | [], _, _, _ => ⟨[], rfl, .nil, fun _ h => nomatch h⟩
  | t :: ts, last, k, h => by
    cases it : isI t with
    | false => rw [goS_none (ascS_non it)] at h; cases h
    | true =>
      cases t with
      | int b =>
        by_cases c : (decide (last + 1 ≤ b) && decide (b ≤ hi)) = true
        · rw [goS_some (s' := b) (by rw [ascS_int, if_pos c])] at h
          rw [Bool.and_eq_true] at c
          have c1 := of_decide_eq_true c.1
          have c2 := of_decide_eq_true c.2
          obtain ⟨ns, rfl, p, hb⟩ := goS_asc ts b (k + 1) h
          refine ⟨b :: ns, rfl, .cons (fun x hx => (hb x hx).1) p, fun x hx => ?_⟩
          rcases List.mem_cons.mp hx with rfl | hx
          · exact ⟨by omega, c2⟩
          · have := hb x hx
            exact ⟨by omega, this.2⟩
        · rw [goS_none (by rw [ascS_int, if_neg c])] at h; cases h
      | _ => cases it
theorem asc_ints {hi : Int} {t : T} (h : ascB hi t = true) : ∃ ns : List Int, t = tupI ns ∧ ns.Pairwise (· < ·) ∧ ∀ x ∈ ns, 0 ≤ x ∧ x ≤ hi := by
  cases t with
  | tup us =>
    obtain ⟨ns, rfl, p, hb⟩ := goS_asc us (0 - 1) 0 h
    exact ⟨ns, rfl, p, fun x hx => by have := hb x hx; omega⟩
  | _ => cases h

/-! ### rows that ascend, by looking at neighbours -/
def adjB (ns : List Int) : Bool := (ns.zip (ns.drop 1)).all fun p => decide (p.1 < p.2)
theorem adj_pw : ∀ {ns : List Int}, ns.Pairwise (· < ·) → adjB ns = true
  | [], _ => rfl
  | [x], _ => rfl
  | x :: y :: ns, h => by
    have p := List.pairwise_cons.mp h
    have ih := adj_pw p.2
    have := p.1 y List.mem_cons_self
    show (decide (x < y) && ((y :: ns).zip ((y :: ns).drop 1)).all fun p => decide (p.1 < p.2)) = true
    rw [decide_eq_true this, Bool.true_and]
    exact ih
theorem goS_of {hi : Int} : ∀ (ns : List Int) (last : Int) (k : Nat), adjB ns = true → (∀ x, ns.head? = some x → last < x) → (∀ x ∈ ns, x ≤ hi) → goS (ascS hi) last k (ns.map T.int) = true
  | [], _, _, _, _, _ => rfl
  | x :: ns, last, k, ha, hl, hb => by
    have h1 := hl x rfl
    have h2 := hb x List.mem_cons_self
    show goS (ascS hi) last k (T.int x :: ns.map T.int) = true
    rw [goS_some (s' := x) (by rw [ascS_int, decide_eq_true (by omega), decide_eq_true h2]; rfl)]
    cases ns with
    | nil => rfl
    | cons y ns =>
      have ha : (decide (x < y) && ((y :: ns).zip ((y :: ns).drop 1)).all fun p => decide (p.1 < p.2)) = true := ha
      rw [Bool.and_eq_true] at ha
      refine goS_of (y :: ns) x (k + 1) ha.2 (fun z hz => ?_) fun z hz => hb z (List.mem_cons_of_mem _ hz)
      have : y = z := by simpa using hz
      have := of_decide_eq_true ha.1
      omega
theorem asc_of {hi : Int} {ns : List Int} (ha : adjB ns = true) (hb : ∀ x ∈ ns, 0 ≤ x ∧ x ≤ hi) : ascB hi (tupI ns) = true :=
  goS_of ns (0 - 1) 0 ha (fun x hx => by have := hb x (List.mem_of_mem_head? hx); omega) fun x hx => (hb x hx).2
theorem all_ints {lo hi : Int} : ∀ {us : List T}, us.all (inB lo hi) = true → ∃ ns : List Int, us = ns.map T.int ∧ ∀ x ∈ ns, lo ≤ x ∧ x ≤ hi
  | [], _ => ⟨[], rfl, fun _ h => nomatch h⟩
  | u :: us, h => by
    rw [List.all_cons, Bool.and_eq_true] at h
    obtain ⟨ns, rfl, hb⟩ := all_ints h.2
    cases it : isI u with
    | false => rw [inB_non it] at h; cases h.1
    | true =>
      cases u with
      | int b =>
        have c : (decide (lo ≤ b) && decide (b ≤ hi)) = true := h.1
        rw [Bool.and_eq_true] at c
        refine ⟨b :: ns, rfl, fun x hx => ?_⟩
        rcases List.mem_cons.mp hx with rfl | hx
        · exact ⟨of_decide_eq_true c.1, of_decide_eq_true c.2⟩
        · exact hb x hx
      | _ => cases it
theorem ints_all {lo hi : Int} {ns : List Int} (hb : ∀ x ∈ ns, lo ≤ x ∧ x ≤ hi) : (ns.map T.int).all (inB lo hi) = true := by
  rw [List.all_eq_true]
  intro t ht
  obtain ⟨x, hx, rfl⟩ := List.mem_map.mp ht
  have := hb x hx
  show (decide (lo ≤ x) && decide (x ≤ hi)) = true
  rw [decide_eq_true this.1, decide_eq_true this.2]; rfl
theorem adj_iff : ∀ {ns : List Int}, adjB ns = true ↔ ∀ j, j + 1 < ns.length → ns.getD j 0 < ns.getD (j + 1) 0
  | [] => by simp [adjB]
  | [x] => by simp [adjB]
  | x :: y :: ns => by
    have ih := adj_iff (ns := y :: ns)
    have e : adjB (x :: y :: ns) = (decide (x < y) && adjB (y :: ns)) := rfl
    rw [e, Bool.and_eq_true, ih]
    constructor
    · rintro ⟨h1, h2⟩ j hj
      cases j with
      | zero => exact of_decide_eq_true h1
      | succ j => exact h2 j (by simp at hj ⊢; omega)
    · intro h
      exact ⟨decide_eq_true (h 0 (by simp)), fun j hj => h (j + 1) (by simp at hj ⊢; omega)⟩
theorem adj_range (ns : List Int) : ((List.range (ns.length - 1)).all fun j => decide (ns.getD j 0 < ns.getD (j + 1) 0)) = adjB ns := by
  rw [Bool.eq_iff_iff, adj_iff, List.all_eq_true]
  constructor
  · intro h j hj
    exact of_decide_eq_true (h j (List.mem_range.mpr (by omega)))
  · intro h j hj
    exact decide_eq_true (h j (by have := List.mem_range.mp hj; omega))

/-! ### batches judged: the program's look, the law's look -/
theorem compF_ob {own : List Nat} {tg : Tg} {elt : Fe T} {E : Env} {ts : List T} (f : T → Bool) (hz : ts.length ≤ 100000) (st : ∀ t ∈ ts, ∃ η1 η3, tg t E = some η1 ∧ elt η1 = .ok (.bl (f t)) η3 ∧ wipeE η3 own = E) : compF own tg cYes elt ts [] E = .ok ((ts.map f).map T.bl) E :=
  compF_ye (id : T → T) f T.bl ts _ (by rw [List.map_id]) rfl hz fun i t ex => st t (List.mem_of_getElem? ex)
def fwG (p : Nat → T → Bool) : Nat → List T → Option Nat
  | _, [] => none
  | k, t :: ts => if p k t = true then fwG p (k + 1) ts else some k
theorem forF_fw {tg : Tg} {body : Fs} (q : Nat → T → T) (p : Nat → T → Bool) (r : Nat → T) (I : Env → Prop) {xs : List T}
    (st : ∀ (k : Nat) (t : T) (η : Env), xs[k]? = some t → I η → ∃ η1 η2, tg (q k t) η = some η1 ∧ ((p k t = true ∧ body η1 = .ok .nx η2 ∧ I η2) ∨ (p k t = false ∧ body η1 = .ok (.rt (r k)) η2))) :
    ∀ (ys : List T) (k : Nat) (η : Env), (∀ i t, ys[i]? = some t → xs[k + i]? = some t) → I η →
      (fwG p k ys = none ∧ ∃ η', forF tg body (itemsQ q k ys) η = .ok .nx η' ∧ I η') ∨ (∃ (j : Nat) (η' : Env), fwG p k ys = some j ∧ forF tg body (itemsQ q k ys) η = .ok (.rt (r j)) η')
  | [], k, η, _, h => .inl ⟨rfl, η, rfl, h⟩
  | t :: ts, k, η, hx, h => by
    obtain ⟨η1, η2, e1, e2⟩ := st k t η (by simpa using hx 0 t rfl) h
    have g1 : fwG p k (t :: ts) = if p k t = true then fwG p (k + 1) ts else some k := rfl
    rcases e2 with ⟨p1, e2, h2⟩ | ⟨p1, e2⟩
    · have IH := forF_fw (tg := tg) (body := body) q p r I st ts (k + 1) η2 (fun i u hu => by rw [show k + 1 + i = k + (i + 1) by omega]; exact hx (i + 1) u (by simpa using hu)) h2
      have f1 : forF tg body (itemsQ q k (t :: ts)) η = forF tg body (itemsQ q (k + 1) ts) η2 := by
        show forF tg body (q k t :: itemsQ q (k + 1) ts) η = _
        conv => lhs; unfold forF
        rw [e1]
        simp only [e2]
      rw [f1, g1, if_pos p1]
      exact IH
    · refine .inr ⟨k, η2, ?_, ?_⟩
      · rw [g1, p1, if_neg Bool.false_ne_true]
      · show forF tg body (q k t :: itemsQ q (k + 1) ts) η = _
        unfold forF
        rw [e1]
        simp only [e2]
theorem ex_xT {tg : Tg} {body : Fs} {η η1 η2 : Env} {t r : T} {b : Bool} {J : Env → Prop} (h0 : b = true) (h1 : tg t η = some η1) (h2 : body η1 = .ok .nx η2) (h3 : J η2) : ∃ η1 η2, tg t η = some η1 ∧ ((b = true ∧ body η1 = .ok .nx η2 ∧ J η2) ∨ (b = false ∧ body η1 = .ok (.rt r) η2)) := ⟨_, _, h1, .inl ⟨h0, h2, h3⟩⟩
theorem ex_xF {tg : Tg} {body : Fs} {η η1 η2 : Env} {t r : T} {b : Bool} {J : Env → Prop} (h0 : b = false) (h1 : tg t η = some η1) (h2 : body η1 = .ok (.rt r) η2) : ∃ η1 η2, tg t η = some η1 ∧ ((b = true ∧ body η1 = .ok .nx η2 ∧ J η2) ∨ (b = false ∧ body η1 = .ok (.rt r) η2)) := ⟨_, _, h1, .inr ⟨h0, h2⟩⟩
def isP : T → Bool
  | .tup [_, _] => true
  | _ => false
theorem inB_int {t : T} {lo hi : Int} (h : inB lo hi t = true) : ∃ i, t = .int i ∧ lo ≤ i ∧ i ≤ hi := by
  cases t with
  | int i =>
    unfold inB at h
    rw [Bool.and_eq_true, decide_eq_true_iff, decide_eq_true_iff] at h
    exact ⟨i, rfl, h⟩
  | _ => cases h
theorem isP_ex {t : T} (h : isP t = true) : ∃ u v, t = .tup [u, v] := by
  cases t with
  | tup ts =>
    match ts with
    | [] => cases h
    | [_] => cases h
    | [u, v] => exact ⟨u, v, rfl⟩
    | _ :: _ :: _ :: _ => cases h
  | _ => cases h
theorem isP_len {ts : List T} : isP (.tup ts) = decide ((ts.length : Int) = 2) := by
  match ts with
  | [] => rfl
  | [_] => rfl
  | [_, _] => rfl
  | _ :: _ :: _ :: ts =>
    symm
    show decide _ = false
    refine decide_eq_false ?_
    simp only [List.length_cons]
    omega
theorem ispair_any {t : T} (h : Ob t) : fn_is_pair [t] = .ok (.bl (isP t)) [] := by
  have fr := h.frz
  cases h with
  | tup hl h =>
    rename_i ts
    have ll := o_lent ts
    have q := o_eq (ts.length : Int) 2
    rw [isP_len]
    generalize decide ((ts.length : Int) = 2) = w at *
    generalize (ts.length : Int) = len at *
    apply defF_go (η0 := [some _]) rfl; unfold fb_is_pair; (repeat walk_at "jo1")
  | non =>
    show _ = FRes.ok (.bl false) []
    apply defF_go (η0 := [some _]) rfl; unfold fb_is_pair; (repeat walk_at "jo1")
  | bl b =>
    show _ = FRes.ok (.bl false) []
    apply defF_go (η0 := [some _]) rfl; unfold fb_is_pair; (repeat walk_at "jo1")
  | int i =>
    show _ = FRes.ok (.bl false) []
    apply defF_go (η0 := [some _]) rfl; unfold fb_is_pair; (repeat walk_at "jo1")
  | str s =>
    show _ = FRes.ok (.bl false) []
    apply defF_go (η0 := [some _]) rfl; unfold fb_is_pair; (repeat walk_at "jo1")
  | lst ts =>
    show _ = FRes.ok (.bl false) []
    apply defF_go (η0 := [some _]) rfl; unfold fb_is_pair; (repeat walk_at "jo1")
  | dk ks ts =>
    show _ = FRes.ok (.bl false) []
    apply defF_go (η0 := [some _]) rfl; unfold fb_is_pair; (repeat walk_at "jo1")
  | ins ks us =>
    show _ = FRes.ok (.bl false) []
    apply defF_go (η0 := [some _]) rfl; unfold fb_is_pair; (repeat walk_at "jo1")
def isNn : T → Bool
  | .non => true
  | _ => false
def vB (t : T) : Bool := isNn t || isI t
def pairB : T → Bool
  | .tup [k, v] => inB 0 999 k && vB v
  | _ => false
def keyI : T → Int
  | .tup (.int k :: _) => k
  | _ => 0
def batB : T → Bool
  | .tup ts => decide (ts.length ≤ 60) && (ts.all pairB && adjB (ts.map keyI))
  | _ => false
theorem pairB_nop {t : T} (h : isP t = false) : pairB t = false := by
  cases t with
  | tup ts =>
    match ts with
    | [] => rfl
    | [_] => rfl
    | [_, _] => cases h
    | _ :: _ :: _ :: _ => rfl
  | _ => rfl
theorem isn_any {t : T} (h : Ob t) (n : Bool) : isnO n [t, .non] = some (.bl (n != isNn t), [t, .non]) := by
  cases h <;> cases n <;> rfl
theorem iskey_any {t : T} (h : Ob t) : fn_is_key [t] = .ok (.bl (inB 0 999 t)) [] := by
  have c := within_any h 0 999
  have fr := h.frz
  generalize inB 0 999 t = w at *
  apply defF_go (η0 := [some _]) rfl; unfold fb_is_key; (repeat walk_at "jo1")
theorem told_any {t : T} (h : Ob t) : fn_is_told [t] = .ok (.bl (pairB t)) [] := by
  have fr := h.frz
  have pr := ispair_any h
  cases hp : isP t with
  | false =>
    rw [hp] at pr
    rw [pairB_nop hp]
    apply defF_go (η0 := [some _]) rfl; unfold fb_is_told; (repeat walk_at "jo1")
  | true =>
    rw [hp] at pr
    obtain ⟨u, v, rfl⟩ := isP_ex hp
    have ou : Ob u := by cases h with | tup _ h => exact h u (by simp)
    have ov : Ob v := by cases h with | tup _ h => exact h v (by simp)
    have i0 : ixO [.tup [u, v], .int 0] = some (u, [.tup [u, v], .int 0]) := rfl
    have i1 : ixO [.tup [u, v], .int 1] = some (v, [.tup [u, v], .int 1]) := rfl
    have k1 := iskey_any ou
    have n1 := isn_any ov false
    have n2 := isint_any ov
    have fu := ou.frz
    have fv := ov.frz
    rw [Bool.false_bne] at n1
    show _ = FRes.ok (.bl (inB 0 999 u && (isNn v || isI v))) []
    cases q1 : inB 0 999 u with
    | false =>
      rw [q1] at k1
      rw [Bool.false_and]
      apply defF_go (η0 := [some _]) rfl; unfold fb_is_told; (repeat walk_at "jo1")
    | true =>
      rw [q1] at k1
      rw [Bool.true_and]
      cases q2 : isNn v with
      | true =>
        rw [q2] at n1
        rw [Bool.true_or]
        apply defF_go (η0 := [some _]) rfl; unfold fb_is_told; (repeat walk_at "jo1")
      | false =>
        rw [q2] at n1
        rw [Bool.false_or]
        generalize isI v = w at *
        apply defF_go (η0 := [some _]) rfl; unfold fb_is_told; (repeat walk_at "jo1")
theorem pairs_of : ∀ {ts : List T}, ts.all pairB = true → ∃ ps : List (Int × T), ts = ps.map (fun p => T.tup [.int p.1, p.2]) ∧ ∀ p ∈ ps, (0 ≤ p.1 ∧ p.1 ≤ 999) ∧ vB p.2 = true
  | [], _ => ⟨[], rfl, fun _ h => nomatch h⟩
  | t :: ts, h => by
    rw [List.all_cons, Bool.and_eq_true] at h
    obtain ⟨ps, rfl, hp⟩ := pairs_of h.2
    cases hi : isP t with
    | false => rw [pairB_nop hi] at h; cases h.1
    | true =>
      obtain ⟨u, v, rfl⟩ := isP_ex hi
      have h1 : (inB 0 999 u && vB v) = true := h.1
      rw [Bool.and_eq_true] at h1
      obtain ⟨k, rfl, k0, k1⟩ := inB_int h1.1
      refine ⟨(k, v) :: ps, rfl, fun p hq => ?_⟩
      rcases List.mem_cons.mp hq with rfl | hq
      · exact ⟨⟨k0, k1⟩, h1.2⟩
      · exact hp p hq
theorem map_int_inj : ∀ {a b : List Int}, a.map T.int = b.map T.int → a = b
  | [], [], _ => rfl
  | [], _ :: _, e => by cases e
  | _ :: _, [], e => by cases e
  | x :: a, y :: b, e => by
    have e : T.int x :: a.map T.int = T.int y :: b.map T.int := e
    injection e with e1 e2
    injection e1 with e1
    rw [e1, map_int_inj e2]
theorem asc_adj {hi : Int} {ns : List Int} (hb : ∀ x ∈ ns, 0 ≤ x ∧ x ≤ hi) : ascB hi (tupI ns) = adjB ns := by
  cases ha : adjB ns with
  | true => exact asc_of ha hb
  | false =>
    cases hq : ascB hi (tupI ns) with
    | false => rfl
    | true =>
      obtain ⟨ms, e, p, _⟩ := asc_ints hq
      have e : ns.map T.int = ms.map T.int := by injection e
      have e2 : ns = ms := map_int_inj e
      subst e2
      rw [adj_pw p] at ha
      cases ha
abbrev prT (p : Int × T) : T := .tup [.int p.1, p.2]
instance : FrzC prT := ⟨fun _ => rfl⟩
theorem keys_prs (ps : List (Int × T)) : (ps.map prT).map keyI = ps.map Prod.fst := by
  rw [List.map_map]; rfl
theorem isbatch_any {t : T} (h : Ob t) : fn_is_batch [t] = .ok (.bl (batB t)) [] := by
  cases h with
  | tup hl h =>
    rename_i ts
    have ll := o_lent ts
    have oa := all_rw true ts pairB
    have c1 : compF [1] (tgN 1) cYes (eCall fn_is_told [] [.v (eVar 1)]) ts [] [some (.tup ts), none] = .ok ((ts.map pairB).map T.bl) [some (.tup ts), none] := compF_ob pairB (by omega) fun t ht => by
      have c := told_any (h t ht)
      have fr := (h t ht).frz
      apply ex_y
      repeat walk_at "jo1"
    show _ = FRes.ok (.bl (decide (ts.length ≤ 60) && (ts.all pairB && adjB (ts.map keyI)))) []
    by_cases q : ts.length ≤ 60
    · have og : opGt [.int (ts.length : Int), .int 60] = some (.bl false, [.int (ts.length : Int), .int 60]) := by rw [o_gt, decide_eq_false (by omega)]
      rw [decide_eq_true q, Bool.true_and]
      cases qa : ts.all pairB with
      | false =>
        rw [qa] at oa
        rw [Bool.false_and]
        generalize (ts.map pairB).map T.bl = bls at *
        generalize (ts.length : Int) = len at *
        apply defF_go (η0 := [some _, none]) rfl; unfold fb_is_batch; (repeat walk_at "jo1")
      | true =>
        rw [qa] at oa
        rw [Bool.true_and]
        obtain ⟨ps, rfl, hps⟩ := pairs_of qa
        rw [keys_prs]
        rw [List.length_map] at q hl
        have ia := isasc_any (ob_ints (ps.map Prod.fst) (by rw [List.length_map]; omega)) 999
        rw [asc_adj fun x hx => by obtain ⟨p, hp, rfl⟩ := List.mem_map.mp hx; exact (hps p hp).1] at ia
        have c2 : compF [1] (tgN 1) cYes (eOp [.s 1, .v (eC (.int 0))] ixO) (ps.map prT) [] [some (.tup (ps.map prT)), none] = .ok ((ps.map Prod.fst).map T.int) [some (.tup (ps.map prT)), none] :=
          compF_ye prT Prod.fst T.int ps _ rfl rfl (by omega) fun i p ex => by
            have i0 : ixO [prT p, .int 0] = some (.int p.1, [prT p, .int 0]) := rfl
            generalize prT p = pp at *
            apply ex_y
            repeat walk_at "jo1"
        have ot : tupO [.lst true ((ps.map Prod.fst).map T.int)] = some (tupI (ps.map Prod.fst), [.lst true ((ps.map Prod.fst).map T.int)]) := o_tupT (frzL_ints _)
        generalize adjB (ps.map Prod.fst) = w at *
        generalize (((ps.map prT).map pairB).map T.bl) = bls at *
        generalize (ps.map Prod.fst).map T.int = ks at *
        generalize ((ps.map prT).length : Int) = len at *
        generalize ps.map prT = tps at *
        apply defF_go (η0 := [some _, none]) rfl; unfold fb_is_batch; (repeat walk_at "jo1")
    · have og : opGt [.int (ts.length : Int), .int 60] = some (.bl true, [.int (ts.length : Int), .int 60]) := by rw [o_gt, decide_eq_true (by omega)]
      rw [decide_eq_false q, Bool.false_and]
      generalize (ts.length : Int) = len at *
      apply defF_go (η0 := [some _, none]) rfl; unfold fb_is_batch; (repeat walk_at "jo1")
  | non =>
    show _ = FRes.ok (.bl false) []
    apply defF_go (η0 := [some _, none]) rfl; unfold fb_is_batch; (repeat walk_at "jo1")
  | bl b =>
    show _ = FRes.ok (.bl false) []
    apply defF_go (η0 := [some _, none]) rfl; unfold fb_is_batch; (repeat walk_at "jo1")
  | int i =>
    show _ = FRes.ok (.bl false) []
    apply defF_go (η0 := [some _, none]) rfl; unfold fb_is_batch; (repeat walk_at "jo1")
  | str s =>
    show _ = FRes.ok (.bl false) []
    apply defF_go (η0 := [some _, none]) rfl; unfold fb_is_batch; (repeat walk_at "jo1")
  | lst ts =>
    show _ = FRes.ok (.bl false) []
    apply defF_go (η0 := [some _, none]) rfl; unfold fb_is_batch; (repeat walk_at "jo1")
  | dk ks ts =>
    show _ = FRes.ok (.bl false) []
    apply defF_go (η0 := [some _, none]) rfl; unfold fb_is_batch; (repeat walk_at "jo1")
  | ins ks us =>
    show _ = FRes.ok (.bl false) []
    apply defF_go (η0 := [some _, none]) rfl; unfold fb_is_batch; (repeat walk_at "jo1")

/-! ### the law's look at a batch -/
theorem linteger_any {t : T} (h : Ob t) : fn__law_is_integer [t] = .ok (.bl (isI t)) [] := by
  cases h <;> rfl
theorem fw_none {p : Nat → T → Bool} : ∀ {ts : List T} {k : Nat}, fwG p k ts = none → ∀ (i : Nat) (t : T), ts[i]? = some t → p (k + i) t = true
  | [], _, _, i, t, e => by simp at e
  | u :: us, k, h, i, t, e => by
    have g1 : fwG p k (u :: us) = if p k u = true then fwG p (k + 1) us else some k := rfl
    rw [g1] at h
    by_cases hp : p k u = true
    · rw [if_pos hp] at h
      cases i with
      | zero => cases e; exact hp
      | succ i =>
        have := fw_none h i t (by simpa using e)
        rwa [show k + 1 + i = k + (i + 1) by omega] at this
    · rw [if_neg hp] at h; cases h
theorem fw_all (p : Nat → T → Bool) : ∀ (ts : List T) (k : Nat), (∀ (i : Nat) (t : T), ts[i]? = some t → p (k + i) t = true) → fwG p k ts = none
  | [], _, _ => rfl
  | t :: ts, k, h => by
    have g1 : fwG p k (t :: ts) = if p k t = true then fwG p (k + 1) ts else some k := rfl
    rw [g1, if_pos (by simpa using h 0 t rfl)]
    exact fw_all p ts (k + 1) fun i u e => by
      have := h (i + 1) u (by simpa using e)
      rwa [show k + 1 + i = k + (i + 1) by omega]
def lbB : Fs := (sSeq (sIf (tOrF (tNotF (tVal (eOp [.s 1] (isiX "Feed" [.tup])))) (tOrF (tVal (eOp [.v (eOp [.s 1] lenO), .v (eC (.int 2))] (eqO true))) (tOrF (tNotF (tVal (eCall fn__law_is_integer [] [.v (eOp [.s 1, .v (eC (.int 0))] ixO)]))) (tNotF (tVal (eChain (.v (eC (.int 0))) (.v (eOp [.s 1, .v (eC (.int 0))] ixO)) (.v (eC (.int 999))) (fun i j => decide (i ≤ j)) (fun i j => decide (i ≤ j)))))))) (sRet (eC (.bl false)))
    sSkip)
    (sIf (tAndF (tVal (eOp [.v (eOp [.s 1, .v (eC (.int 1))] ixO), .v (eC .non)] (isnO true))) (tNotF (tVal (eCall fn__law_is_integer [] [.v (eOp [.s 1, .v (eC (.int 1))] ixO)])))) (sRet (eC (.bl false)))
    sSkip))
theorem lb_no {T0 t : T} (h : Ob t) (hp : isP t = false) : lbB [some T0, some t, none] = .ok (.rt (.bl false)) [some T0, some t, none] := by
  cases h with
  | tup hl2 h2 =>
    rename_i us
    have l2 := o_lent us
    have n2 := o_ne (us.length : Int) 2
    rw [isP_len] at hp
    rw [hp] at n2
    generalize (us.length : Int) = len at *
    unfold lbB
    repeat walk_at "jo1"
  | non =>
    unfold lbB
    repeat walk_at "jo1"
  | bl b =>
    unfold lbB
    repeat walk_at "jo1"
  | int i =>
    unfold lbB
    repeat walk_at "jo1"
  | str s =>
    unfold lbB
    repeat walk_at "jo1"
  | lst ts =>
    unfold lbB
    repeat walk_at "jo1"
  | dk ks ts =>
    unfold lbB
    repeat walk_at "jo1"
  | ins ks us =>
    unfold lbB
    repeat walk_at "jo1"
theorem lb_two {T0 u v : T} (hu : Ob u) (hv : Ob v) : (inB 0 999 u && vB v) = true ∧ lbB [some T0, some (.tup [u, v]), none] = .ok .nx [some T0, some (.tup [u, v]), none] ∨
    (inB 0 999 u && vB v) = false ∧ lbB [some T0, some (.tup [u, v]), none] = .ok (.rt (.bl false)) [some T0, some (.tup [u, v]), none] := by
  have ll : lenO [.tup [u, v]] = some (.int 2, [.tup [u, v]]) := rfl
  have n2 : eqO true [.int 2, .int 2] = some (.bl false, [.int 2, .int 2]) := by rw [o_ne]; rfl
  have i0 : ixO [.tup [u, v], .int 0] = some (u, [.tup [u, v], .int 0]) := rfl
  have i1 : ixO [.tup [u, v], .int 1] = some (v, [.tup [u, v], .int 1]) := rfl
  have li := linteger_any hu
  have lv := linteger_any hv
  have nv := isn_any hv true
  have fu := hu.frz
  have fv := hv.frz
  cases qi : isI u with
  | false =>
    rw [qi] at li
    refine .inr ⟨by rw [inB_non qi, Bool.false_and], ?_⟩
    unfold lbB
    repeat walk_at "jo1"
  | true =>
    rw [qi] at li
    cases u with
    | int k =>
      by_cases k0 : 0 ≤ k
      · by_cases k1 : k ≤ 999
        · have hk : inB 0 999 (.int k) = true := by show (decide _ && decide _) = true; simp; omega
          rw [hk, Bool.true_and]
          show (isNn v || isI v) = true ∧ _ ∨ (isNn v || isI v) = false ∧ _
          cases qn : isNn v with
          | true =>
            rw [qn, show (true != true) = false from rfl] at nv
            refine .inl ⟨rfl, ?_⟩
            unfold lbB
            repeat walk_at "jo1"
          | false =>
            rw [qn, show (true != false) = true from rfl] at nv
            rw [Bool.false_or]
            cases qv : isI v with
            | true =>
              rw [qv] at lv
              refine .inl ⟨rfl, ?_⟩
              unfold lbB
              repeat walk_at "jo1"
            | false =>
              rw [qv] at lv
              refine .inr ⟨rfl, ?_⟩
              unfold lbB
              repeat walk_at "jo1"
        · refine .inr ⟨?_, ?_⟩
          · have hk : inB 0 999 (.int k) = false := by show (decide _ && decide _) = false; simp; omega
            rw [hk, Bool.false_and]
          · unfold lbB
            repeat walk_at "jo1"
      · refine .inr ⟨?_, ?_⟩
        · have hk : inB 0 999 (.int k) = false := by show (decide _ && decide _) = false; simp; omega
          rw [hk, Bool.false_and]
        · unfold lbB
          repeat walk_at "jo1"
    | _ => cases qi
theorem lbatch_any {t : T} (h : Ob t) : fn__law_is_batch [t] = .ok (.bl (batB t)) [] := by
  cases h with
  | tup hl h =>
    rename_i ts
    have ll := o_lent ts
    show _ = FRes.ok (.bl (decide (ts.length ≤ 60) && (ts.all pairB && adjB (ts.map keyI)))) []
    by_cases q : ts.length ≤ 60
    · have og : opGt [.int (ts.length : Int), .int 60] = some (.bl false, [.int (ts.length : Int), .int 60]) := by rw [o_gt, decide_eq_false (by omega)]
      rw [decide_eq_true q, Bool.true_and]
      have L := forF_fw (tg := (tgN 1)) (body := lbB) (fun _ t => t) (fun _ t => pairB t) (fun _ => .bl false) (fun η => ∃ j1, η = [some (.tup ts), j1, none]) (xs := ts)
        (fun k t η ex ⟨j1, eη⟩ => by
          subst eη
          have ot := h t (List.mem_of_getElem? ex)
          have fr := ot.frz
          cases hp : isP t with
          | false => exact ⟨_, _, rfl, .inr ⟨pairB_nop hp, lb_no ot hp⟩⟩
          | true =>
            obtain ⟨u, v, rfl⟩ := isP_ex hp
            have ou : Ob u := by cases ot with | tup _ h => exact h u (by simp)
            have ov : Ob v := by cases ot with | tup _ h => exact h v (by simp)
            rcases lb_two (T0 := .tup ts) ou ov with ⟨b1, b2⟩ | ⟨b1, b2⟩
            · exact ⟨_, _, rfl, .inl ⟨b1, b2, _, rfl⟩⟩
            · exact ⟨_, _, rfl, .inr ⟨b1, b2⟩⟩) ts 0 [some (.tup ts), none, none] (fun i t e => by rw [Nat.zero_add]; exact e) ⟨none, rfl⟩
      have ei : itemsQ (fun _ t => t) 0 ts = ts := by
        apply List.ext_getElem?
        intro i
        rw [itemsQ_get]
        simp
      rw [ei] at L
      clear ei
      unfold lbB at L
      rcases L with ⟨g, η', f1, j1, eη⟩ | ⟨j, η', g, f1⟩
      · subst eη
        have qa : ts.all pairB = true := by
          rw [List.all_eq_true]
          intro t ht
          obtain ⟨i, hi⟩ := List.mem_iff_getElem?.mp ht
          exact fw_none g i t hi
        rw [qa, Bool.true_and]
        obtain ⟨ps, rfl, hps⟩ := pairs_of qa
        rw [keys_prs]
        rw [List.length_map] at q hl
        have hn : (((ps.map prT).length : Int) - 1).toNat = ps.length - 1 := by rw [List.length_map]; omega
        have bd := bd62 (i := ((ps.map prT).length : Int)) (by omega) (by rw [List.length_map]; omega)
        have cm : compF [2] (tgN 2) cYes (eOp [.v (eOp [.v (eOp [.s 0, .v (eOp [.s 2, .v (eC (.int 1))] opSub)] ixO), .v (eC (.int 0))] ixO), .v (eOp [.v (eOp [.s 0, .s 2] ixO), .v (eC (.int 0))] ixO)] opLt) (rangeT 1 (ps.length - 1)) [] [some (.tup (ps.map prT)), j1, none] = .ok (((List.range (ps.length - 1)).map fun j => decide ((ps.map Prod.fst).getD j 0 < (ps.map Prod.fst).getD (j + 1) 0)).map T.bl) [some (.tup (ps.map prT)), j1, none] :=
          compF_rgm (own := [2]) (tg := tgN 2) (lo := 1) (n := ps.length - 1) (fun j => decide ((ps.map Prod.fst).getD j 0 < (ps.map Prod.fst).getD (j + 1) 0)) T.bl (by omega) fun i hi => by
            have e1 : ps[i]? = some ps[i] := List.getElem?_eq_getElem (by omega)
            have e2 : ps[i + 1]? = some ps[i + 1] := List.getElem?_eq_getElem (by omega)
            have os := o_sub (1 + (i : Int)) 1
            rw [show (1 : Int) + (i : Int) - 1 = (i : Int) by omega] at os
            have x1 : ixO [.tup (ps.map prT), .int (i : Int)] = some (prT ps[i], [.tup (ps.map prT), .int (i : Int)]) := o_ixT (by omega) (by rw [Int.toNat_natCast, List.getElem?_map, e1]; rfl)
            have x2 : ixO [.tup (ps.map prT), .int (1 + (i : Int))] = some (prT ps[i + 1], [.tup (ps.map prT), .int (1 + (i : Int))]) := o_ixT (by omega) (by rw [show ((1 : Int) + (i : Int)).toNat = i + 1 by omega, List.getElem?_map, e2]; rfl)
            have y1 : ixO [prT ps[i], .int 0] = some (.int ps[i].1, [prT ps[i], .int 0]) := rfl
            have y2 : ixO [prT ps[i + 1], .int 0] = some (.int ps[i + 1].1, [prT ps[i + 1], .int 0]) := rfl
            have g1 : (ps.map Prod.fst).getD i 0 = ps[i].1 := by rw [List.getD_eq_getElem?_getD, List.getElem?_map, e1]; rfl
            have g2 : (ps.map Prod.fst).getD (i + 1) 0 = ps[i + 1].1 := by rw [List.getD_eq_getElem?_getD, List.getElem?_map, e2]; rfl
            have ol := o_lt ps[i].1 ps[i + 1].1
            rw [g1, g2]
            generalize decide (ps[i].1 < ps[i + 1].1) = w at *
            generalize prT ps[i] = pa at *
            generalize prT ps[i + 1] = pb at *
            generalize ps[i].1 = ka at *
            generalize ps[i + 1].1 = kb at *
            generalize (1 : Int) + (i : Int) = ii at *
            generalize (i : Int) = i0 at *
            generalize T.tup (ps.map prT) = tps at *
            apply ex_y
            repeat walk_at "jo1"
        have oa2 := all_rw true (List.range (ps.length - 1)) (fun j => decide ((ps.map Prod.fst).getD j 0 < (ps.map Prod.fst).getD (j + 1) 0))
        have ar := adj_range (ps.map Prod.fst)
        rw [List.length_map] at ar
        rw [ar] at oa2
        generalize adjB (ps.map Prod.fst) = w at *
        generalize ((List.range (ps.length - 1)).map fun j => decide ((ps.map Prod.fst).getD j 0 < (ps.map Prod.fst).getD (j + 1) 0)).map T.bl = bls at *
        generalize ((ps.map prT).length : Int) = len at *
        generalize ps.length - 1 = k1 at *
        generalize ps.map prT = tps at *
        apply defF_go (η0 := [some _, none, none]) rfl; unfold fb__law_is_batch; (repeat walk_at "jo1")
      · have qa : ts.all pairB = false := by
          cases hq : ts.all pairB with
          | false => rfl
          | true =>
            rw [fw_all (fun i t => pairB t) ts 0 (fun i t e => List.all_eq_true.mp hq t (List.mem_of_getElem? e))] at g
            cases g
        rw [qa, Bool.false_and]
        generalize (ts.length : Int) = len at *
        refine defF_rt (η := η') ?_ rfl
        show fb__law_is_batch [some (.tup ts), none, none] = _
        unfold fb__law_is_batch
        repeat walk_at "jo1"
    · have og : opGt [.int (ts.length : Int), .int 60] = some (.bl true, [.int (ts.length : Int), .int 60]) := by rw [o_gt, decide_eq_true (by omega)]
      rw [decide_eq_false q, Bool.false_and]
      generalize (ts.length : Int) = len at *
      apply defF_go (η0 := [some _, none, none]) rfl; unfold fb__law_is_batch; (repeat walk_at "jo1")
  | non =>
    show _ = FRes.ok (.bl false) []
    apply defF_go (η0 := [some _, none, none]) rfl; unfold fb__law_is_batch; (repeat walk_at "jo1")
  | bl b =>
    show _ = FRes.ok (.bl false) []
    apply defF_go (η0 := [some _, none, none]) rfl; unfold fb__law_is_batch; (repeat walk_at "jo1")
  | int i =>
    show _ = FRes.ok (.bl false) []
    apply defF_go (η0 := [some _, none, none]) rfl; unfold fb__law_is_batch; (repeat walk_at "jo1")
  | str s =>
    show _ = FRes.ok (.bl false) []
    apply defF_go (η0 := [some _, none, none]) rfl; unfold fb__law_is_batch; (repeat walk_at "jo1")
  | lst ts =>
    show _ = FRes.ok (.bl false) []
    apply defF_go (η0 := [some _, none, none]) rfl; unfold fb__law_is_batch; (repeat walk_at "jo1")
  | dk ks ts =>
    show _ = FRes.ok (.bl false) []
    apply defF_go (η0 := [some _, none, none]) rfl; unfold fb__law_is_batch; (repeat walk_at "jo1")
  | ins ks us =>
    show _ = FRes.ok (.bl false) []
    apply defF_go (η0 := [some _, none, none]) rfl; unfold fb__law_is_batch; (repeat walk_at "jo1")

/-! ### a feed judged: the law's look -/
def fdE (B K : T) : Option (Str × Int) := match B with
  | .tup bs => if 1 ≤ bs.length ∧ bs.length ≤ 40 then (match fwG (fun _ t => batB t) 0 bs with | some k => some (("batches" : Str), (k : Int)) | none => if ascB ((bs.length : Int) - 1) K = true then none else some (("kept" : Str), (-1 : Int))) else some (("batches" : Str), (-1 : Int))
  | _ => some (("batches" : Str), (-1 : Int))
def dueT : Option (Str × Int) → T
  | none => .non
  | some (s, k) => .tup [.str s, .int k]
def isTu : T → Bool
  | .tup _ => true
  | _ => false
theorem isTu_ex {t : T} (h : isTu t = true) : ∃ ts, t = .tup ts := by
  cases t with
  | tup ts => exact ⟨ts, rfl⟩
  | _ => cases h
theorem isTu_no {t : T} (o : Ob t) (h : isTu t = false) : isiX "Feed" [.tup] [t] = some (.bl false, [t]) := by
  cases o with
  | tup _ _ => cases h
  | ins _ _ => exact isiX_ins _ _ _ _ _
  | non => exact o_isiXF rfl
  | bl _ => exact o_isiXF rfl
  | int _ => exact o_isiXF rfl
  | str _ => exact o_isiXF rfl
  | lst _ => exact o_isiXF rfl
  | dk _ _ => exact o_isiXF rfl
theorem fdE_no {B K : T} (h : isTu B = false) : fdE B K = some (("batches" : Str), (-1 : Int)) := by
  cases B with
  | tup ts => cases h
  | _ => rfl
theorem ascB_no {hi : Int} {t : T} (h : isTu t = false) : ascB hi t = false := by
  cases t with
  | tup ts => cases h
  | _ => rfl
def keptE : Fe T := (eAndF (eCall fn__law_is_integer [] [.v (eVar 2)]) (eChain (.v (eC (.int 0))) (.s 2) (.v (eOp [.s 0] lenO)) (fun i j => decide (i ≤ j)) (fun i j => decide (i < j))))
theorem kept_step {t B K : T} (h : Ob t) {n : Int} (ll : lenO [B] = some (.int n, [B])) : keptE [some B, some K, some t, none] = .ok (.bl (inB 0 (n - 1) t)) [some B, some K, some t, none] := by
  have li := linteger_any h
  have fr := h.frz
  cases qi : isI t with
  | false =>
    rw [qi] at li
    rw [inB_non qi]
    unfold keptE
    repeat walk_at "jo1"
  | true =>
    rw [qi] at li
    cases t with
    | int i =>
      show _ = Res.ok (T.bl (decide (0 ≤ i) && decide (i ≤ n - 1))) _
      by_cases h0 : 0 ≤ i
      · rw [decide_eq_true h0, Bool.true_and]
        have lo : eOp [.s 0] lenO [some B, some K, some (.int i), none] = .ok (.int n) [some B, some K, some (.int i), none] := eOp_r (args_s (i := 0) (t := B) rfl args_0) rfl ll rfl
        have ch : eChain (.v (eC (.int 0))) (.s 2) (.v (eOp [.s 0] lenO)) (fun i j => decide (i ≤ j)) (fun i j => decide (i < j)) [some B, some K, some (.int i), none] = .ok (.bl (decide (i ≤ n - 1))) [some B, some K, some (.int i), none] := r_chain (i := 0) (j := i) (k := n) rfl rfl (decide_eq_true h0) (args_v lo args_0) rfl (by
          by_cases h1 : i < n
          · rw [decide_eq_true h1, decide_eq_true (show i ≤ n - 1 by omega)]
          · rw [decide_eq_false h1, decide_eq_false (show ¬ i ≤ n - 1 by omega)])
        generalize decide (i ≤ n - 1) = w at *
        unfold keptE
        repeat walk_at "jo1"
      · rw [decide_eq_false h0, Bool.false_and]
        unfold keptE
        repeat walk_at "jo1"
    | _ => cases qi
theorem kept_all {n : Int} {B : T} (ll : lenO [B] = some (.int n, [B])) {ks : List T} (hl : ks.length ≤ 100) (h : ∀ t ∈ ks, Ob t) : compF [2] (tgN 2) cYes keptE ks [] [some B, some (.tup ks), none, none] = .ok ((ks.map (inB 0 (n - 1))).map T.bl) [some B, some (.tup ks), none, none] :=
  compF_ob (inB 0 (n - 1)) (by omega) fun t ht => ⟨[some B, some (.tup ks), some t, none], [some B, some (.tup ks), some t, none], rfl, kept_step (h t ht) ll, rfl⟩
theorem kept_adj {B : T} {ns : List Int} (hl : ns.length ≤ 100) : compF [3] (tgN 3) cYes (eOp [.v (eOp [.s 1, .v (eOp [.s 3, .v (eC (.int 1))] opSub)] ixO), .v (eOp [.s 1, .s 3] ixO)] opLt) (rangeT 1 (ns.length - 1)) [] [some B, some (tupI ns), none, none] = .ok (((List.range (ns.length - 1)).map fun j => decide (ns.getD j 0 < ns.getD (j + 1) 0)).map T.bl) [some B, some (tupI ns), none, none] :=
  compF_rgm (own := [3]) (tg := tgN 3) (lo := 1) (n := ns.length - 1) (fun j => decide (ns.getD j 0 < ns.getD (j + 1) 0)) T.bl (by omega) fun i hi => by
    have e1 : ns[i]? = some ns[i] := List.getElem?_eq_getElem (by omega)
    have e2 : ns[i + 1]? = some ns[i + 1] := List.getElem?_eq_getElem (by omega)
    have os := o_sub (1 + (i : Int)) 1
    rw [show (1 : Int) + (i : Int) - 1 = (i : Int) by omega] at os
    have x1 : ixO [tupI ns, .int (i : Int)] = some (.int ns[i], [tupI ns, .int (i : Int)]) := o_ixT (by omega) (by rw [Int.toNat_natCast, List.getElem?_map, e1]; rfl)
    have x2 : ixO [tupI ns, .int (1 + (i : Int))] = some (.int ns[i + 1], [tupI ns, .int (1 + (i : Int))]) := o_ixT (by omega) (by rw [show ((1 : Int) + (i : Int)).toNat = i + 1 by omega, List.getElem?_map, e2]; rfl)
    have g1 : ns.getD i 0 = ns[i] := by rw [List.getD_eq_getElem?_getD, e1]; rfl
    have g2 : ns.getD (i + 1) 0 = ns[i + 1] := by rw [List.getD_eq_getElem?_getD, e2]; rfl
    have ol := o_lt ns[i] ns[i + 1]
    rw [g1, g2]
    generalize decide (ns[i] < ns[i + 1]) = w at *
    generalize ns[i] = ka at *
    generalize ns[i + 1] = kb at *
    generalize (1 : Int) + (i : Int) = ii at *
    generalize (i : Int) = i0 at *
    generalize tupI ns = tps at *
    apply ex_y
    repeat walk_at "jo1"
theorem lf_w {B K : T} (hB : Ob B) (hi : isTu B = false) (fK : K.frz = K) : fn__law_due [B, K] = .ok (.tup [.str "batches", .int (-1)]) [] := by
  have fB := hB.frz
  have ni := isTu_no hB hi
  apply defF_go (η0 := [some _, some _, none, none]) rfl; unfold fb__law_due; (repeat walk_at "jo1")
theorem lf_wl {bs : List T} {K : T} (hl : bs.length < 1 ∨ 40 < bs.length) (fK : K.frz = K) : fn__law_due [.tup bs, K] = .ok (.tup [.str "batches", .int (-1)]) [] := by
  have ll := o_lent bs
  by_cases h1 : (1 : Int) ≤ (bs.length : Int)
  · have h2 : ¬ (bs.length : Int) ≤ 40 := by omega
    generalize (bs.length : Int) = len at *
    clear hl
    apply defF_go (η0 := [some _, some _, none, none]) rfl; unfold fb__law_due; (repeat walk_at "jo1")
  · generalize (bs.length : Int) = len at *
    clear hl
    apply defF_go (η0 := [some _, some _, none, none]) rfl; unfold fb__law_due; (repeat walk_at "jo1")
theorem lf_loop {bs : List T} (hB : ∀ t ∈ bs, Ob t) (K : T) : (fwG (fun _ t => batB t) 0 bs = none ∧ ∃ η', forF (tgN 2) (sIf (tNotF (tVal (eCall fn__law_is_batch [] [.v (eOp [.s 0, .s 2] ixO)]))) (sRet (eTup [.v (eC (.str "batches")), .v (eVar 2)]))
    sSkip) (rangeT 0 bs.length) [some (.tup bs), some K, none, none] = .ok .nx η' ∧ ∃ j2, η' = [some (.tup bs), some K, j2, none]) ∨
    (∃ (j : Nat) (η' : Env), fwG (fun _ t => batB t) 0 bs = some j ∧ forF (tgN 2) (sIf (tNotF (tVal (eCall fn__law_is_batch [] [.v (eOp [.s 0, .s 2] ixO)]))) (sRet (eTup [.v (eC (.str "batches")), .v (eVar 2)]))
    sSkip) (rangeT 0 bs.length) [some (.tup bs), some K, none, none] = .ok (.rt (.tup [.str "batches", .int (j : Int)])) η') := by
  rw [itemsQ_range]
  have L := forF_fw (tg := (tgN 2)) (body := (sIf (tNotF (tVal (eCall fn__law_is_batch [] [.v (eOp [.s 0, .s 2] ixO)]))) (sRet (eTup [.v (eC (.str "batches")), .v (eVar 2)]))
    sSkip)) (fun i _ => .int ((0 : Int) + (i : Int))) (fun _ t => batB t) (fun k => .tup [.str "batches", .int (k : Int)]) (fun η => ∃ j2, η = [some (.tup bs), some K, j2, none]) (xs := bs)
    (fun k t η ex ⟨j2, eη⟩ => by
      subst eη
      have ho := hB t (List.mem_of_getElem? ex)
      have c := lbatch_any ho
      have fr := ho.frz
      have ix : ixO [.tup bs, .int (k : Int)] = some (t, [.tup bs, .int (k : Int)]) := o_ixT (by omega) (by rw [Int.toNat_natCast]; exact ex)
      rw [show (0 : Int) + (k : Int) = (k : Int) by omega]
      generalize (k : Int) = i at *
      generalize batB t = b at *
      cases b with
      | true =>
        apply ex_xT rfl
        repeat walk_at "jo1"
        exact ⟨_, rfl⟩
      | false =>
        apply ex_xF rfl
        repeat walk_at "jo1") bs 0 [some (.tup bs), some K, none, none] (fun i t e => by rw [Nat.zero_add]; exact e) ⟨none, rfl⟩
  exact L
section
variable {bs : List T} {K : T} (hB : ∀ t ∈ bs, Ob t) (h1 : (1 : Int) ≤ (bs.length : Int)) (h2 : (bs.length : Int) ≤ 40)
include hB h1 h2
theorem lf_wr {k : Nat} (hg : fwG (fun _ t => batB t) 0 bs = some k) (fK : K.frz = K) : fn__law_due [.tup bs, K] = .ok (.tup [.str "batches", .int (k : Int)]) [] := by
  have ll := o_lent bs
  rcases lf_loop hB K with ⟨g, _⟩ | ⟨j, η', g, f⟩
  · rw [hg] at g; cases g
  · rw [hg] at g
    cases g
    have bd := bd62 (i := (bs.length : Int)) (by omega) (by omega)
    have hnn : (bs.length : Int).toNat = bs.length := Int.toNat_natCast _
    generalize hnb : bs.length = nb at *
    generalize (nb : Int) = len at *
    generalize (k : Int) = ki at *
    refine defF_rt (η := η') ?_ rfl
    show fb__law_due [some (.tup bs), some K, none, none] = _
    unfold fb__law_due
    repeat walk_at "jo1"
theorem lf_k (hg : fwG (fun _ t => batB t) 0 bs = none) (hK : Ob K) : fn__law_due [.tup bs, K] = .ok (dueT (if ascB ((bs.length : Int) - 1) K = true then none else some (("kept" : Str), (-1 : Int)))) [] := by
  have ll := o_lent bs
  have bd := bd62 (i := (bs.length : Int)) (by omega) (by omega)
  have hnn : (bs.length : Int).toNat = bs.length := Int.toNat_natCast _
  rcases lf_loop hB K with ⟨g, η', f, j2, eη⟩ | ⟨j, η', g, f⟩
  · subst eη
    have fK := hK.frz
    cases hi : isTu K with
    | false =>
      have ni := isTu_no hK hi
      rw [ascB_no hi, if_neg Bool.false_ne_true]
      show _ = FRes.ok (.tup [.str "kept", .int (-1)]) []
      generalize hnb : bs.length = nb at *
      generalize (nb : Int) = len at *
      apply defF_go (η0 := [some _, some _, none, none]) rfl; unfold fb__law_due; (repeat walk_at "jo1")
    | true =>
      obtain ⟨ks, rfl⟩ := isTu_ex hi
      have oK := ob_mem hK
      have lK : ks.length ≤ 100 := by cases hK with | tup hl _ => exact hl
      have ka := kept_all ll lK oK
      unfold keptE at ka
      have oa := all_rw true ks (inB 0 ((bs.length : Int) - 1))
      have lk := o_lent ks
      cases qa : ks.all (inB 0 ((bs.length : Int) - 1)) with
      | false =>
        rw [qa] at oa
        have ea : ascB ((bs.length : Int) - 1) (.tup ks) = false := by
          cases hq : ascB ((bs.length : Int) - 1) (.tup ks) with
          | false => rfl
          | true =>
            obtain ⟨ms, e, _, hb⟩ := asc_ints hq
            cases e
            rw [ints_all hb] at qa
            cases qa
        rw [ea, if_neg Bool.false_ne_true]
        show _ = FRes.ok (.tup [.str "kept", .int (-1)]) []
        generalize (ks.map (inB 0 ((bs.length : Int) - 1))).map T.bl = bls at *
        clear qa ea
        generalize hnb : bs.length = nb at *
        generalize (nb : Int) = len at *
        apply defF_go (η0 := [some _, some _, none, none]) rfl; unfold fb__law_due; (repeat walk_at "jo1")
      | true =>
        rw [qa] at oa
        obtain ⟨ns, rfl, hb⟩ := all_ints qa
        rw [List.length_map] at lK lk
        rw [asc_adj hb]
        have kb := kept_adj (B := .tup bs) lK
        have oa2 := all_rw true (List.range (ns.length - 1)) (fun j => decide (ns.getD j 0 < ns.getD (j + 1) 0))
        rw [adj_range ns] at oa2
        have hn : ((ns.length : Int) - 1).toNat = ns.length - 1 := by omega
        have bd2 := bd62 (i := (ns.length : Int)) (by omega) (by omega)
        generalize ((List.range (ns.length - 1)).map fun j => decide (ns.getD j 0 < ns.getD (j + 1) 0)).map T.bl = bls2 at *
        generalize ((ns.map T.int).map (inB 0 ((bs.length : Int) - 1))).map T.bl = bls at *
        clear qa hb
        generalize ns.length - 1 = k1 at *
        generalize (ns.length : Int) = len2 at *
        generalize hnb : bs.length = nb at *
        generalize (nb : Int) = len at *
        cases w : adjB ns with
        | true =>
          rw [w] at oa2
          rw [if_pos rfl]
          show _ = FRes.ok .non []
          apply defF_go (η0 := [some _, some _, none, none]) rfl; unfold fb__law_due; (repeat walk_at "jo1")
        | false =>
          rw [w] at oa2
          rw [if_neg Bool.false_ne_true]
          show _ = FRes.ok (.tup [.str "kept", .int (-1)]) []
          apply defF_go (η0 := [some _, some _, none, none]) rfl; unfold fb__law_due; (repeat walk_at "jo1")
  · rw [hg] at g; cases g
end

/-! ### a feed that is made, or not; the law's word -/
abbrev nwT : T := .ins true "Feed" [] []
theorem defF_gx {n : Nat} {ms : List Nat} {body : Fs} {ts us fs : List T} {c : Str} {k : List Str} {η0 η : Env} (h0 : ts.map some ++ List.replicate (n - ts.length) none = η0) (h : body η0 = .exc c k fs η) (p : pickE ms η = some us) : defF n ms body ts = .exc c k fs us := defF_ex (h0 ▸ h) p
theorem go_xc {g : Fs} {c : Str} {k : List Str} {fs : List T} {η : Env} : goOn g (.exc c k fs η) = .exc c k fs η := rfl
/-- a loop that raises at the first thing that is not as wanted -/
theorem forF_fx {tg : Tg} {body : Fs} (q : Nat → T → T) (p : Nat → T → Bool) (c : Str) (kk : List Str) (r : Nat → List T) (I : Env → Prop) {xs : List T}
    (st : ∀ (k : Nat) (t : T) (η : Env), xs[k]? = some t → I η → ∃ η1 η2, tg (q k t) η = some η1 ∧ ((p k t = true ∧ body η1 = .ok .nx η2 ∧ I η2) ∨ (p k t = false ∧ body η1 = .exc c kk (r k) η2 ∧ I η2))) :
    ∀ (ys : List T) (k : Nat) (η : Env), (∀ i t, ys[i]? = some t → xs[k + i]? = some t) → I η →
      (fwG p k ys = none ∧ ∃ η', forF tg body (itemsQ q k ys) η = .ok .nx η' ∧ I η') ∨ (∃ (j : Nat) (η' : Env), fwG p k ys = some j ∧ forF tg body (itemsQ q k ys) η = .exc c kk (r j) η' ∧ I η')
  | [], k, η, _, h => .inl ⟨rfl, η, rfl, h⟩
  | t :: ts, k, η, hx, h => by
    obtain ⟨η1, η2, e1, e2⟩ := st k t η (by simpa using hx 0 t rfl) h
    have g1 : fwG p k (t :: ts) = if p k t = true then fwG p (k + 1) ts else some k := rfl
    rcases e2 with ⟨p1, e2, h2⟩ | ⟨p1, e2, h2⟩
    · have IH := forF_fx (tg := tg) (body := body) q p c kk r I st ts (k + 1) η2 (fun i u hu => by rw [show k + 1 + i = k + (i + 1) by omega]; exact hx (i + 1) u (by simpa using hu)) h2
      have f1 : forF tg body (itemsQ q k (t :: ts)) η = forF tg body (itemsQ q (k + 1) ts) η2 := by
        show forF tg body (q k t :: itemsQ q (k + 1) ts) η = _
        conv => lhs; unfold forF
        rw [e1]
        simp only [e2]
      rw [f1, g1, if_pos p1]
      exact IH
    · refine .inr ⟨k, η2, ?_, ?_, h2⟩
      · rw [g1, p1, if_neg Bool.false_ne_true]
      · show forF tg body (q k t :: itemsQ q (k + 1) ts) η = _
        unfold forF
        rw [e1]
        simp only [e2]
theorem r_forX {it : Fe (List T)} {tg : Tg} {body : Fs} {η η1 η2 : Env} {ts : List T} {c : Str} {kk : List Str} {fs : List T} (h : it η = .ok ts η1) (h2 : forF tg body ts η1 = .exc c kk fs η2) : sFor it tg body η = .exc c kk fs η2 := by
  unfold sFor
  rw [h]
  exact h2
theorem fi_w {B K : T} (hB : Ob B) (hi : isTu B = false) (fK : K.frz = K) : fn_Feed_init [nwT, B, K] = .exc "BadFeed" ["at", "part"] [.int (-1), .str "batches"] [nwT] := by
  have fB := hB.frz
  have ni := isTu_no hB hi
  refine defF_gx (η0 := [some nwT, some B, some K, none, none]) (η := [some nwT, some B, some K, none, none]) rfl ?_ rfl
  unfold fb_Feed_init
  repeat walk_at "jo1"
  · apply r_raiseK (ts := [.str "batches", .int (-1)])
    · repeat walk_at "jo1"
    all_goals first | rfl | simp
  exact go_xc
theorem fi_wl {bs : List T} {K : T} (hl : bs.length < 1 ∨ 40 < bs.length) (fK : K.frz = K) : fn_Feed_init [nwT, .tup bs, K] = .exc "BadFeed" ["at", "part"] [.int (-1), .str "batches"] [nwT] := by
  have ll := o_lent bs
  have key : ∀ len : Int, lenO [.tup bs] = some (.int len, [.tup bs]) → (len < 1 ∨ 40 < len) → fn_Feed_init [nwT, .tup bs, K] = .exc "BadFeed" ["at", "part"] [.int (-1), .str "batches"] [nwT] := fun len ll hl => by
    refine defF_gx (η0 := [some nwT, some (.tup bs), some K, none, none]) (η := [some nwT, some (.tup bs), some K, none, none]) rfl ?_ rfl
    by_cases h1 : (1 : Int) ≤ len
    · have h2 : ¬ len ≤ 40 := by omega
      clear hl
      unfold fb_Feed_init
      repeat walk_at "jo1"
      · apply r_raiseK (ts := [.str "batches", .int (-1)])
        · repeat walk_at "jo1"
        all_goals first | rfl | simp
      exact go_xc
    · clear hl
      unfold fb_Feed_init
      repeat walk_at "jo1"
      · apply r_raiseK (ts := [.str "batches", .int (-1)])
        · repeat walk_at "jo1"
        all_goals first | rfl | simp
      exact go_xc
  exact key _ ll (by omega)
theorem fi_loop {bs : List T} (hB : ∀ t ∈ bs, Ob t) (K : T) : (fwG (fun _ t => batB t) 0 bs = none ∧ ∃ η', forF (tgT [(tgN 3), (tgN 4)]) (sIf (tNotF (tVal (eCall fn_is_batch [] [.v (eVar 4)]))) (sRaiseK "BadFeed" ["part", "at"] [.v (eC (.str "batches")), .v (eVar 3)])
    sSkip) (enumT bs) [some nwT, some (.tup bs), some K, none, none] = .ok .nx η' ∧ ∃ j3 j4, η' = [some nwT, some (.tup bs), some K, j3, j4]) ∨
    (∃ (j : Nat) (η' : Env), fwG (fun _ t => batB t) 0 bs = some j ∧ forF (tgT [(tgN 3), (tgN 4)]) (sIf (tNotF (tVal (eCall fn_is_batch [] [.v (eVar 4)]))) (sRaiseK "BadFeed" ["part", "at"] [.v (eC (.str "batches")), .v (eVar 3)])
    sSkip) (enumT bs) [some nwT, some (.tup bs), some K, none, none] = .exc "BadFeed" ["at", "part"] [.int (j : Int), .str "batches"] η' ∧ ∃ j3 j4, η' = [some nwT, some (.tup bs), some K, j3, j4]) := by
  rw [itemsQ_enum]
  exact forF_fx (tg := (tgT [(tgN 3), (tgN 4)])) (body := (sIf (tNotF (tVal (eCall fn_is_batch [] [.v (eVar 4)]))) (sRaiseK "BadFeed" ["part", "at"] [.v (eC (.str "batches")), .v (eVar 3)])
    sSkip)) (fun i t => .tup [.int (i : Int), t]) (fun _ t => batB t) "BadFeed" ["at", "part"] (fun k => [.int (k : Int), .str "batches"]) (fun η => ∃ j3 j4, η = [some nwT, some (.tup bs), some K, j3, j4]) (xs := bs)
    (fun k t η ex ⟨j3, j4, eη⟩ => by
      subst eη
      have ho := hB t (List.mem_of_getElem? ex)
      have c := isbatch_any ho
      have fr := ho.frz
      generalize (k : Int) = i at *
      generalize batB t = b at *
      cases b with
      | true =>
        refine ⟨[some nwT, some (.tup bs), some K, some (.int i), some t], [some nwT, some (.tup bs), some K, some (.int i), some t], rfl, .inl ⟨rfl, ?_, _, _, rfl⟩⟩
        repeat walk_at "jo1"
      | false =>
        refine ⟨[some nwT, some (.tup bs), some K, some (.int i), some t], [some nwT, some (.tup bs), some K, some (.int i), some t], rfl, .inr ⟨rfl, ?_, _, _, rfl⟩⟩
        repeat walk_at "jo1"
        · apply r_raiseK (ts := [.str "batches", .int i])
          · repeat walk_at "jo1"
          all_goals first | rfl | simp) bs 0 [some nwT, some (.tup bs), some K, none, none] (fun i t e => by rw [Nat.zero_add]; exact e) ⟨none, none, rfl⟩
section
variable {bs : List T} {K : T} (hB : ∀ t ∈ bs, Ob t) (h1 : (1 : Int) ≤ (bs.length : Int)) (h2 : (bs.length : Int) ≤ 40)
include hB h1 h2
theorem fi_wr {k : Nat} (hg : fwG (fun _ t => batB t) 0 bs = some k) (fK : K.frz = K) : fn_Feed_init [nwT, .tup bs, K] = .exc "BadFeed" ["at", "part"] [.int (k : Int), .str "batches"] [nwT] := by
  have ll := o_lent bs
  rcases fi_loop hB K with ⟨g, _⟩ | ⟨j, η', g, f, j3, j4, eη⟩
  · rw [hg] at g; cases g
  · rw [hg] at g
    cases g
    subst eη
    generalize (bs.length : Int) = len at *
    generalize (k : Int) = ki at *
    refine defF_gx (η0 := [some nwT, some (.tup bs), some K, none, none]) (η := [some nwT, some (.tup bs), some K, j3, j4]) rfl ?_ rfl
    unfold fb_Feed_init
    apply r_seq
    · repeat walk_at "jo1"
    apply go_nx
    apply r_seqX
    apply r_forX
    · repeat walk_at "jo1"
    · exact f
theorem fi_k (hg : fwG (fun _ t => batB t) 0 bs = none) (hK : Ob K) (hq : ascB ((bs.length : Int) - 1) K = false) : fn_Feed_init [nwT, .tup bs, K] = .exc "BadFeed" ["at", "part"] [.int (-1), .str "kept"] [nwT] := by
  have ll := o_lent bs
  have fK := hK.frz
  have ia := isasc_any hK ((bs.length : Int) - 1)
  rw [hq] at ia
  rcases fi_loop hB K with ⟨g, η', f, j3, j4, eη⟩ | ⟨j, η', g, _⟩
  · subst eη
    clear hq
    generalize (bs.length : Int) = len at *
    refine defF_gx (η0 := [some nwT, some (.tup bs), some K, none, none]) (η := [some nwT, some (.tup bs), some K, j3, j4]) rfl ?_ rfl
    unfold fb_Feed_init
    repeat walk_at "jo1"
    · apply r_raiseK (ts := [.str "kept", .int (-1)])
      · repeat walk_at "jo1"
      all_goals first | rfl | simp
    exact go_xc
  · rw [hg] at g; cases g
theorem fi_ok (hg : fwG (fun _ t => batB t) 0 bs = none) (hK : Ob K) (hq : ascB ((bs.length : Int) - 1) K = true) : fn_Feed_init [nwT, .tup bs, K] = .ok .non [.ins true "Feed" ["batches", "kept"] [.tup bs, K]] := by
  have ll := o_lent bs
  have fK := hK.frz
  have ia := isasc_any hK ((bs.length : Int) - 1)
  rw [hq] at ia
  rcases fi_loop hB K with ⟨g, η', f, j3, j4, eη⟩ | ⟨j, η', g, _⟩
  · subst eη
    clear hq
    have s1 : sSetF "Feed" "batches" (eVar 1) 0 [some nwT, some (.tup bs), some K, j3, j4] = .ok .nx [some (.ins true "Feed" ["batches"] [.tup bs]), some (.tup bs), some K, j3, j4] := rfl
    have s2 : sSetF "Feed" "kept" (eVar 2) 0 [some (.ins true "Feed" ["batches"] [.tup bs]), some (.tup bs), some K, j3, j4] = .ok .nx [some (.ins true "Feed" ["batches", "kept"] [.tup bs, K]), some (.tup bs), some K, j3, j4] := by
      have e : sSetF "Feed" "kept" (eVar 2) 0 [some (.ins true "Feed" ["batches"] [.tup bs]), some (.tup bs), some K, j3, j4] = .ok .nx [some (.ins true "Feed" ["batches", "kept"] [.tup bs, K.frz]), some (.tup bs), some K.frz, j3, j4] := rfl
      rw [e, fK]
    generalize (bs.length : Int) = len at *
    apply defF_gn (η0 := [some _, some _, some _, none, none]) rfl; unfold fb_Feed_init; (repeat walk_at "jo1")
  · rw [hg] at g; cases g
end
theorem fi_any {B K : T} (hB : Ob B) (hK : Ob K) : (∃ s k, fdE B K = some (s, k) ∧ PyData.strOk s = true ∧ fn_Feed_init [nwT, B, K] = .exc "BadFeed" ["at", "part"] [.int k, .str s] [nwT] ∧ fn__law_due [B, K] = .ok (.tup [.str s, .int k]) []) ∨
    (∃ bs, B = .tup bs ∧ (1 ≤ bs.length ∧ bs.length ≤ 40) ∧ fwG (fun _ t => batB t) 0 bs = none ∧ ascB ((bs.length : Int) - 1) K = true ∧ fdE B K = none ∧ fn_Feed_init [nwT, B, K] = .ok .non [.ins true "Feed" ["batches", "kept"] [B, K]] ∧ fn__law_due [B, K] = .ok .non []) := by
  have hw : PyData.strOk ("batches" : Str) = true := by decide +kernel
  have hk : PyData.strOk ("kept" : Str) = true := by decide +kernel
  have fK := hK.frz
  cases hi : isTu B with
  | false => exact .inl ⟨_, _, fdE_no hi, hw, fi_w hB hi fK, lf_w hB hi fK⟩
  | true =>
    obtain ⟨bs, rfl⟩ := isTu_ex hi
    have oB := ob_mem hB
    have e0 : fdE (.tup bs) K = if 1 ≤ bs.length ∧ bs.length ≤ 40 then (match fwG (fun _ t => batB t) 0 bs with | some k => some (("batches" : Str), (k : Int)) | none => if ascB ((bs.length : Int) - 1) K = true then none else some (("kept" : Str), (-1 : Int))) else some (("batches" : Str), (-1 : Int)) := rfl
    by_cases hl : 1 ≤ bs.length ∧ bs.length ≤ 40
    · rw [if_pos hl] at e0
      have h1 : (1 : Int) ≤ (bs.length : Int) := by omega
      have h2 : (bs.length : Int) ≤ 40 := by omega
      cases hg : fwG (fun _ t => batB t) 0 bs with
      | some k =>
        rw [hg] at e0
        exact .inl ⟨_, _, e0, hw, fi_wr oB h1 h2 hg fK, lf_wr oB h1 h2 hg fK⟩
      | none =>
        rw [hg] at e0
        have lk := lf_k oB h1 h2 hg hK
        have e0 : fdE (.tup bs) K = if ascB ((bs.length : Int) - 1) K = true then none else some (("kept" : Str), (-1 : Int)) := e0
        cases hq : ascB ((bs.length : Int) - 1) K with
        | false =>
          rw [hq, if_neg Bool.false_ne_true] at e0 lk
          exact .inl ⟨_, _, e0, hk, fi_k oB h1 h2 hg hK hq, lk⟩
        | true =>
          rw [hq, if_pos rfl] at e0 lk
          exact .inr ⟨bs, rfl, hl, hg, hq, e0, fi_ok oB h1 h2 hg hK hq, lk⟩
    · rw [if_neg hl] at e0
      exact .inl ⟨_, _, e0, hw, fi_wl (by omega) fK, lf_wl (by omega) fK⟩

/-! ### the law's word -/
theorem is_self {d : Nat} {ts : List T} (hl : ts.length ≤ 100000) (h : ∀ t ∈ ts, Is d t t) : Is (d + 1) (.tup ts) (.tup ts) := .tup rfl hl fun p hp => by
  obtain ⟨i, e⟩ := List.mem_iff_getElem?.mp hp
  obtain ⟨h1, h2⟩ := List.getElem?_zip_eq_some.mp e
  have e1 : some p.1 = some p.2 := h1.symm.trans h2
  have e2 : p.1 = p.2 := by injection e1
  rw [← e2]
  exact h _ (List.mem_of_getElem? h1)
theorem is_val {d : Nat} {v : T} (h : vB v = true) : Is (d + 1) v v := by
  cases v with
  | non => exact .non
  | int i => exact .int i
  | _ => cases h
theorem is_batch {t : T} (h : batB t = true) : Is 7 t t := by
  cases t with
  | tup ts =>
    have h : (decide (ts.length ≤ 60) && (ts.all pairB && adjB (ts.map keyI))) = true := h
    rw [Bool.and_eq_true, Bool.and_eq_true] at h
    obtain ⟨h1, h2, _⟩ := h
    have h1 := of_decide_eq_true h1
    obtain ⟨ps, rfl, hp⟩ := pairs_of h2
    exact is_self (by omega) fun t ht => by
      obtain ⟨p, hq, rfl⟩ := List.mem_map.mp ht
      exact is_self (d := 5) (by simp) fun u hu => by
        simp only [List.mem_cons, List.mem_nil_iff, or_false] at hu
        rcases hu with rfl | rfl
        · exact .int _
        · exact is_val (hp p hq).2
  | _ => cases h
theorem is_bats {bs : List T} (hl : bs.length ≤ 40) (hg : fwG (fun _ t => batB t) 0 bs = none) : borO (fn__law_is 8) [.tup bs, .tup bs] = some (.bl true, [.tup bs, .tup bs]) :=
  o_bor rfl (is_of (is_self (d := 7) (by omega) fun t ht => by
    obtain ⟨i, hi⟩ := List.mem_iff_getElem?.mp ht
    exact is_batch (fw_none hg i t hi))) rfl
def tryB : Fs := (sTryF (sSeq (sSet 3 (eMakeX "Feed" fn_Feed_init [.v (eVar 0), .v (eVar 1)]))
    (sIf (tOrF (tNotF (tVal (eOp [.v (eOp [.s 3] (fldO "Feed" "batches")), .s 0] (borO (fn__law_is 8))))) (tNotF (tVal (eOp [.v (eOp [.s 3] (fldO "Feed" "kept")), .s 1] (borO (fn__law_is 8)))))) (sSet 2 (eTup [.v (eC (.str "other")), .v (eC .non)]))
    sSkip)) 4 [false, false, true, false, true] [("BadFeed", ["at", "part"], (sSeq (sSet 2 (eTup [.v (eC (.str "other")), .v (eC .non)]))
    (sIf (tAndF (tVal (eIsX 4 true)) (tVal (eIsX 4 true))) (sSet 2 (eTup [.v (eXf 4 "part"), .v (eXf 4 "at")]))
    sSkip)))])
theorem word_bad {B K : T} (fB : B.frz = B) (fK : K.frz = K) {s : Str} {k : Int} (e : fn_Feed_init [nwT, B, K] = .exc "BadFeed" ["at", "part"] [.int k, .str s] [nwT]) : fn__law_word [B, K] = .ok (.tup [.str s, .int k]) [] := by
  have tr : tryB [some B, some K, some (.tup [.str "let", .non]), none, none] = .ok .nx [some B, some K, some (.tup [.str s, .int k]), none, none] := by
    unfold tryB
    apply r_tryXF (η1 := [some B, some K, some (.tup [.str "let", .non]), none, none]) (η2 := [none, none, some (.tup [.str s, .int k]), none, some (.ex ["at", "part"] [.int k, .str s])]) (ks := ["at", "part"]) (fs := [.int k, .str s]) (c := "BadFeed")
    · apply r_seqX
      apply r_setX
      apply r_makeXX
      · repeat walk_at "jo1"
      · repeat walk_at "jo1"
      · exact e
    · exact rfl
    · exact rfl
    · exact rfl
    · show [some B.frz, some K.frz, some (T.tup [.str s, .int k]), none, none] = _
      rw [fB, fK]
  unfold tryB at tr
  apply defF_go (η0 := [some _, some _, none, none, none]) rfl; unfold fb__law_word; (repeat walk_at "jo1")
theorem word_ok {bs : List T} {ns : List Int} (hl : bs.length ≤ 40) (hn : ns.length ≤ 100) (hg : fwG (fun _ t => batB t) 0 bs = none) (e : fn_Feed_init [nwT, .tup bs, tupI ns] = .ok .non [.ins true "Feed" ["batches", "kept"] [.tup bs, tupI ns]]) : fn__law_word [.tup bs, tupI ns] = .ok (.tup [.str "let", .non]) [] := by
  have b1 := is_bats hl hg
  have b2 : borO (fn__law_is 8) [tupI ns, tupI ns] = some (.bl true, [tupI ns, tupI ns]) := o_bor rfl (is_of (is_tI 6 ns (by omega))) rfl
  have w1 : fldO "Feed" "batches" [.ins true "Feed" ["batches", "kept"] [.tup bs, tupI ns]] = some (.tup bs, [.ins true "Feed" ["batches", "kept"] [.tup bs, tupI ns]]) := rfl
  have w2 : fldO "Feed" "kept" [.ins true "Feed" ["batches", "kept"] [.tup bs, tupI ns]] = some (tupI ns, [.ins true "Feed" ["batches", "kept"] [.tup bs, tupI ns]]) := rfl
  have mk : eMakeX "Feed" fn_Feed_init [.v (eVar 0), .v (eVar 1)] [some (.tup bs), some (tupI ns), some (.tup [.str "let", .non]), none, none] = .ok (.ins true "Feed" ["batches", "kept"] [.tup bs, tupI ns]) [some (.tup bs), some (tupI ns), some (.tup [.str "let", .non]), none, none] := by
    apply r_makeX (ts := [.tup bs, tupI ns]) (us := []) (η1 := [some (.tup bs), some (tupI ns), some (.tup [.str "let", .non]), none, none])
    · repeat walk_at "jo1"
    · exact rfl
    · exact e
  have tr : ∃ z, tryB [some (.tup bs), some (tupI ns), some (.tup [.str "let", .non]), none, none] = .ok .nx [some (.tup bs), some (tupI ns), some (.tup [.str "let", .non]), z, none] := by
    refine ⟨some (.ins true "Feed" ["batches", "kept"] [.tup bs, tupI ns]), ?_⟩
    unfold tryB
    apply r_tryNF
    clear e
    generalize T.ins true "Feed" ["batches", "kept"] [.tup bs, tupI ns] = fd at *
    repeat walk_at "jo1"
  obtain ⟨z, tr⟩ := tr
  unfold tryB at tr
  clear w1 w2 mk e
  apply defF_go (η0 := [some _, some _, none, none, none]) rfl; unfold fb__law_word; (repeat walk_at "jo1")

/-! ### a batch, a feed with one change -/
abbrev fdF : T := .ins false "Feed" ["batches", "kept"] [.tup [.tup []], .tup []]
theorem pow10_50 : opPow [.int 10, .int 50] = some (.int (10 ^ 50), [.int 10, .int 50]) := o_pow _ _ _ ⟨by omega, by omega, by decide⟩ rfl
theorem pow10_59 : opPow [.int 10, .int 59] = some (.int (10 ^ 59), [.int 10, .int 59]) := o_pow _ _ _ ⟨by omega, by omega, by decide⟩ rfl
theorem ob_two {a b : T} (ha : Ob a) (hb : Ob b) : Ob (.tup [a, b]) := .tup (by simp) fun x hx => by
  simp only [List.mem_cons, List.mem_nil_iff, or_false] at hx
  rcases hx with rfl | rfl
  · exact ha
  · exact hb
theorem last_len {α : Type} (xs : List α) : (cutL xs (some (-1)) none).length ≤ 1 := by
  unfold cutL
  rw [List.length_take, List.length_drop]
  unfold HT.sIx
  simp only
  split <;> omega
theorem init_len {α : Type} (xs : List α) (h : 1 ≤ xs.length) : (cutL xs none (some (-1))).length = xs.length - 1 := by
  unfold cutL
  rw [List.length_take, List.length_drop]
  unfold HT.sIx
  simp only
  split <;> omega
theorem bentb_ok {hd : T} (hh : HandP hd) {ts : List T} (ht : ∀ t ∈ ts, Ob t) (hl : ts.length ≤ 61) : ∃ t hd', fn__law_bent_batch [hd, .tup ts, fdF] = .ok t [hd'] ∧ HandP hd' ∧ Ob t := by
  have ol := o_lent ts
  have a0 := o_add (ts.length : Int) 1
  have ofd : Ob fdF := .ins _ _
  have ot : Ob (.tup ts) := .tup (by omega) ht
  obtain ⟨at', hd1, e1, a0', a1', hp1⟩ := draw_h hh (m := (ts.length : Int) + 1) (by omega) (by omega)
  obtain ⟨dp, hd2, e2, hp2, odp⟩ := deep_ok hp1
  have fdp := odp.1.frz
  obtain ⟨r14, hd3, e3, r0, r1, hp3⟩ := draw_h hp2 (m := 14) (by omega) (by omega)
  have p50 := pow10_50
  have p59 := pow10_59
  obtain ⟨o, ys, ixo, oo⟩ := pickP (P := Ob) (xs := [.non, .int (-1), .int 1000, .bl true, .str "1", .tup [.int 1], .int 0, .int 999, .int (10 ^ 50), dp, fdF, .bl false, .int 1, .dk true [] []]) (fun t ht => by
    simp only [List.mem_cons, List.mem_nil_iff, or_false] at ht
    rcases ht with rfl | rfl | rfl | rfl | rfl | rfl | rfl | rfl | rfl | rfl | rfl | rfl | rfl | rfl
    · exact .non
    · exact .int _
    · exact .int _
    · exact .bl _
    · exact .str _
    · exact .tup (by simp) (ob_one (.int _))
    · exact .int _
    · exact .int _
    · exact .int _
    · exact fOb odp.1.1
    · exact fOb ofd
    · exact .bl _
    · exact .int _
    · exact .dk _ _) r0 (by simpa using r1)
  have fo := oo.frz
  obtain ⟨r10, hd4, e4, s0, s1, hp4⟩ := draw_h hp3 (m := 10) (by omega) (by omega)
  obtain ⟨pr, zs, ixp, opr⟩ := pickP (P := Ob) (xs := [.tup [o.frz, .int 1], .tup [.int 3, o.frz], .tup [.int 1, .int 2, .int 3], .tup [.int 1], .lst true [.int 1, .int 2], o, .tup [.int 1, .bl true], .tup [.int 0, .int 0], .tup [.int 999, .non], .tup [.int 5, .int (10 ^ 59)]]) (fun t ht => by
    simp only [List.mem_cons, List.mem_nil_iff, or_false] at ht
    rcases ht with rfl | rfl | rfl | rfl | rfl | rfl | rfl | rfl | rfl | rfl
    · exact ob_two (fOb oo) (.int _)
    · exact ob_two (.int _) (fOb oo)
    · exact .tup (by simp) fun x hx => by
        simp only [List.mem_cons, List.mem_nil_iff, or_false] at hx
        rcases hx with rfl | rfl | rfl <;> exact .int _
    · exact .tup (by simp) (ob_one (.int _))
    · exact .lst _
    · exact fOb oo
    · exact ob_two (.int _) (.bl _)
    · exact ob_two (.int _) (.int _)
    · exact ob_two (.int _) .non
    · exact ob_two (.int _) (.int _)) s0 (by simpa using s1)
  have fp := opr.frz
  obtain ⟨A, hA, oA, lA⟩ : ∃ A : List T, sl01 [.tup ts, .int at'] = some (.tup A, [.tup ts, .int at']) ∧ (∀ t ∈ A, Ob t) ∧ A.length ≤ at'.toNat := ⟨_, o_s01t ts a0', fun t h => ht t (List.mem_of_mem_take h), by rw [List.length_take]; omega⟩
  obtain ⟨B, hB, oB, lB⟩ : ∃ B : List T, sl10 [.tup ts, .int (at' + 1)] = some (.tup B, [.tup ts, .int (at' + 1)]) ∧ (∀ t ∈ B, Ob t) ∧ B.length ≤ 61 - at'.toNat := ⟨_, o_s10t ts (by omega), fun t h => ht t (List.mem_of_mem_drop h), by rw [List.length_drop]; omega⟩
  obtain ⟨D, hD, oD, lD⟩ : ∃ D : List T, sl10 [.tup ts, .int at'] = some (.tup D, [.tup ts, .int at']) ∧ (∀ t ∈ D, Ob t) ∧ D.length ≤ 61 - at'.toNat := ⟨_, o_s10t ts a0', fun t h => ht t (List.mem_of_mem_drop h), by rw [List.length_drop]; omega⟩
  obtain ⟨E, hE, oE, lE⟩ : ∃ E : List T, sl10 [.tup ts, .int (-1)] = some (.tup E, [.tup ts, .int (-1)]) ∧ (∀ t ∈ E, Ob t) ∧ E.length ≤ 1 := ⟨_, rfl, fun t h => ht t (cutL_mem h), last_len ts⟩
  obtain ⟨M, m1, rM, oM⟩ := ob_cat (X := A) (Y := [pr.frz]) oA (ob_one (fOb opr)) (by simp; omega)
  obtain ⟨N, n1, _, oN⟩ := ob_cat (X := M) (Y := D) (ob_mem oM) oD (by rw [rM]; simp; omega)
  obtain ⟨N2, n2, _, oN2⟩ := ob_cat (X := M) (Y := B) (ob_mem oM) oB (by rw [rM]; simp; omega)
  obtain ⟨R3, h3, o3⟩ : ∃ R, revTO [.tup ts] = some (R, [.tup ts]) ∧ Ob R := ⟨_, o_revT _, .tup (by rw [List.length_reverse]; omega) fun t h => ht t (List.mem_reverse.mp h)⟩
  obtain ⟨N4, n4, _, oN4⟩ := ob_cat (X := ts) (Y := E) ht oE (by omega)
  obtain ⟨R1, h1, o1⟩ : ∃ R, listO [.tup ts] = some (R, [.tup ts]) ∧ Ob R.frz := ⟨_, o_listU _, .lst _⟩
  obtain ⟨N5, n5, _, oN5⟩ := ob_cat (X := A) (Y := B) oA oB (by omega)
  obtain ⟨L8, x8, y8, f8, l8, ob8⟩ := catl (X := [.tup N, .tup N2, R3, .tup N4]) (Y := [R1, o, .tup [.tup ts], .tup N5]) (fun t h => by
    simp only [List.mem_cons, List.mem_nil_iff, or_false] at h
    rcases h with rfl | rfl | rfl | rfl
    · exact fOb oN
    · exact fOb oN2
    · exact fOb o3
    · exact fOb oN4) (fun t h => by
    simp only [List.mem_cons, List.mem_nil_iff, or_false] at h
    rcases h with rfl | rfl | rfl | rfl
    · exact o1
    · exact fOb oo
    · exact .tup (by simp) (ob_one ot)
    · exact fOb oN5) (by simp)
  obtain ⟨r8, hd5, e5, t0, t1, hp5⟩ := draw_h hp4 (m := 8) (by omega) (by omega)
  obtain ⟨res, ws, ixz, ores⟩ := pickP (P := Ob) (xs := L8) ob8 t0 (by rw [l8]; simpa using t1)
  refine ⟨res, hd5, ?_, hp5, ores⟩
  have e0 : eD0 [some hd2, some (.tup ts), some fdF, some (.int at'), none, none, none, none] = .ok (.dk true [] []) [some hd2, some (.tup ts), some fdF, some (.int at'), none, none, none, none] := rfl
  clear ob8 oM oA oB oD oE oN oN2 oN4 oN5 o1 o3 oo odp ot ofd opr rM lA lB lD lE l8 ht hl
  generalize hq : (10 : Int) ^ 50 = q50 at *
  clear hq
  generalize hq : (10 : Int) ^ 59 = q59 at *
  clear hq
  generalize hT : fdF = fd at *
  have ffd : fd.frz = fd := by rw [← hT]; rfl
  clear hT
  generalize (ts.length : Int) = len at *
  apply defF_go (η0 := [some _, some _, some _, none, none, none, none, none]) rfl; unfold fb__law_bent_batch; (repeat walk_at "jo1")
theorem bentf_ok {hd : T} (hh : HandP hd) {bs : List T} {ks : List Int} (hB : ∀ t ∈ bs, ∃ ts, t = .tup ts ∧ (∀ u ∈ ts, Ob u) ∧ ts.length ≤ 61) (n1 : 1 ≤ bs.length) (n2 : bs.length ≤ 40) (hk : ks.length ≤ 40) : ∃ x y hd', fn__law_bent_feed [hd, .tup bs, tupI ks, fdF] = .ok (.tup [x, y]) [hd'] ∧ HandP hd' ∧ Ob x ∧ Ob y := by
  have ol := o_lent bs
  have ofd : Ob fdF := .ins _ _
  have oB : ∀ t ∈ bs, Ob t := fun t h => by
    obtain ⟨ts, rfl, h1, h2⟩ := hB t h
    exact .tup (by omega) h1
  have oBs : Ob (.tup bs) := .tup (by omega) oB
  have oK : Ob (tupI ks) := ob_ints ks (by omega)
  have fK : (tupI ks).frz = tupI ks := rfl
  have fB : (T.tup bs).frz = T.tup bs := rfl
  obtain ⟨kd, hd1, e1, k0, k1, hp1⟩ := draw_h hh (m := 6) (by omega) (by omega)
  obtain ⟨at', hd2, e2, a0, a1, hp2⟩ := draw_h hp1 (m := (bs.length : Int)) (by omega) (by omega)
  have ol2 := o_lt kd 2
  have oe2 := o_eq kd 2
  by_cases h2 : kd < 2
  · rw [decide_eq_true h2] at ol2
    obtain ⟨b, eb⟩ : ∃ b, bs[at'.toNat]? = some b := ⟨_, List.getElem?_eq_getElem (by omega)⟩
    obtain ⟨ts, rfl, h3, h4⟩ := hB b (List.mem_of_getElem? eb)
    have ix : ixO [.tup bs, .int at'] = some (.tup ts, [.tup bs, .int at']) := o_ixT a0 eb
    obtain ⟨u, hd3, e3, hp3, ou⟩ := bentb_ok hp2 h3 h4
    have fu := ou.frz
    obtain ⟨A, hA, oA, lA⟩ : ∃ A : List T, sl01 [.tup bs, .int at'] = some (.tup A, [.tup bs, .int at']) ∧ (∀ t ∈ A, Ob t) ∧ A.length ≤ 40 := ⟨_, rfl, fun t h => oB t (cutL_mem h), by have := cutL_len bs none (some at'); omega⟩
    obtain ⟨B, hB', oB', lB⟩ : ∃ B : List T, sl10 [.tup bs, .int (at' + 1)] = some (.tup B, [.tup bs, .int (at' + 1)]) ∧ (∀ t ∈ B, Ob t) ∧ B.length ≤ 40 := ⟨_, rfl, fun t h => oB t (cutL_mem h), by have := cutL_len bs (some (at' + 1)) none; omega⟩
    obtain ⟨M, m1, rM, oM⟩ := ob_cat (X := A) (Y := [u.frz]) oA (ob_one (fOb ou)) (by simp; omega)
    obtain ⟨N, m2, _, oN⟩ := ob_cat (X := M) (Y := B) (ob_mem oM) oB' (by rw [rM]; simp; omega)
    refine ⟨.tup N, (tupI ks).frz, hd3, ?_, hp3, oN, fOb oK⟩
    clear oM oA oB' oN ou oB oBs oK hB h3 h4 rM lA lB eb
    generalize hT : fdF = fd at *
    have ffd : fd.frz = fd := by rw [← hT]; rfl
    clear hT
    generalize tupI ks = tk at *
    generalize (bs.length : Int) = len at *
    apply defF_go (η0 := [some _, some _, some _, some _, none, none, none, none, none]) rfl; unfold fb__law_bent_feed; (repeat walk_at "jo1")
  · rw [decide_eq_false h2] at ol2
    by_cases h5 : kd = 2
    · rw [decide_eq_true h5] at oe2
      obtain ⟨R1, g1, o1⟩ : ∃ R, listO [.tup bs] = some (R, [.tup bs]) ∧ Ob R.frz := ⟨_, o_listU _, .lst _⟩
      obtain ⟨b0, eb0⟩ : ∃ b, bs[0]? = some b := ⟨_, List.getElem?_eq_getElem (by omega)⟩
      have ob0 := oB b0 (List.mem_of_getElem? eb0)
      have fb0 := ob0.frz
      have ix0 : ixO [.tup bs, .int 0] = some (b0, [.tup bs, .int 0]) := o_ixT (by omega) eb0
      obtain ⟨Z, hz, zm⟩ : ∃ Z : List T, opRepT2 [.tup bs, .int 41] = some (.tup Z, [.tup bs, .int 41]) ∧ ∀ t ∈ Z, Ob t := by
        refine ⟨(List.replicate (41 : Int).toNat bs).flatten, ?_, fun t h => ?_⟩
        · exact o_rept (by omega) (by omega) (by omega) (by omega) rfl
        · obtain ⟨l, hl, ht⟩ := List.mem_flatten.mp h
          rw [(List.mem_replicate.mp hl).2] at ht
          exact oB t ht
      have z40 : sl01 [.tup Z, .int 40] = some (.tup (Z.take 40), [.tup Z, .int 40]) := o_s01t Z (by omega)
      have z41 : sl01 [.tup Z, .int 41] = some (.tup (Z.take 41), [.tup Z, .int 41]) := o_s01t Z (by omega)
      have oz40 : Ob (.tup (Z.take 40)) := .tup (by rw [List.length_take]; omega) fun t h => zm t (List.mem_of_mem_take h)
      have oz41 : Ob (.tup (Z.take 41)) := .tup (by rw [List.length_take]; omega) fun t h => zm t (List.mem_of_mem_take h)
      obtain ⟨dp, hd3, e3, hp3, odp⟩ := deep_ok hp2
      have fdp := odp.1.frz
      obtain ⟨r9, hd4, e4, t0, t1, hp4⟩ := draw_h hp3 (m := 9) (by omega) (by omega)
      obtain ⟨res, zs, ixz, ores⟩ := pickP (P := Ob) (xs := [.tup [], R1, .non, b0, .tup (Z.take 40), .tup (Z.take 41), fdF, .int 0] ++ [dp]) (fun t h => by
        simp only [List.cons_append, List.nil_append, List.mem_cons, List.mem_nil_iff, or_false] at h
        rcases h with rfl | rfl | rfl | rfl | rfl | rfl | rfl | rfl | rfl
        · exact .tup (by simp) (fun _ h => by cases h)
        · exact o1
        · exact .non
        · exact fOb ob0
        · exact fOb oz40
        · exact fOb oz41
        · exact fOb ofd
        · exact .int _
        · exact fOb odp.1.1) t0 (by simpa using t1)
      have fr := ores.frz
      refine ⟨res.frz, (tupI ks).frz, hd4, ?_, hp4, fOb ores, fOb oK⟩
      clear o1 ob0 oz40 oz41 zm ofd odp oB oBs oK hB ores
      generalize hT : fdF = fd at *
      have ffd : fd.frz = fd := by rw [← hT]; rfl
      clear hT
      generalize Z.take 40 = z4 at *
      generalize Z.take 41 = z5 at *
      generalize tupI ks = tk at *
      generalize (bs.length : Int) = len at *
      apply defF_go (η0 := [some _, some _, some _, some _, none, none, none, none, none]) rfl; unfold fb__law_bent_feed; (repeat walk_at "jo1")
    · rw [decide_eq_false h5] at oe2
      obtain ⟨dp, hd3, e3, hp3, odp⟩ := deep_ok hp2
      have fdp := odp.1.frz
      obtain ⟨r9, hd4, e4, t0, t1, hp4⟩ := draw_h hp3 (m := 9) (by omega) (by omega)
      obtain ⟨o, ys, ixo, oo⟩ := pickP (P := Ob) (xs := [.int (bs.length : Int), .int (-1), .bl true, .non, .str "0", .tup [.int 0], .int 0, .int ((bs.length : Int) - 1), dp]) (fun t h => by
        simp only [List.mem_cons, List.mem_nil_iff, or_false] at h
        rcases h with rfl | rfl | rfl | rfl | rfl | rfl | rfl | rfl | rfl
        · exact .int _
        · exact .int _
        · exact .bl _
        · exact .non
        · exact .str _
        · exact .tup (by simp) (ob_one (.int _))
        · exact .int _
        · exact .int _
        · exact fOb odp.1.1) t0 (by simpa using t1)
      have fo := oo.frz
      have hki : ∀ t ∈ ks.map T.int, Ob t := fun t h => by
        obtain ⟨x, _, rfl⟩ := List.mem_map.mp h
        exact .int x
      obtain ⟨S1, g1, _, p1⟩ := ob_cat (X := ks.map T.int) (Y := [o.frz]) hki (ob_one (fOb oo)) (by rw [List.length_map]; simp; omega)
      obtain ⟨S2, g2, _, p2⟩ := ob_cat (X := [o.frz]) (Y := ks.map T.int) (ob_one (fOb oo)) hki (by rw [List.length_map]; simp; omega)
      have g1 : opAdd [tupI ks, .tup [o.frz]] = some (.tup S1, [tupI ks, .tup [o.frz]]) := g1
      have g2 : opAdd [.tup [o.frz], tupI ks] = some (.tup S2, [.tup [o.frz], tupI ks]) := g2
      obtain ⟨R3, g3, p3⟩ : ∃ R, revTO [tupI ks] = some (R, [tupI ks]) ∧ Ob R := ⟨_, o_revT _, .tup (by rw [List.length_reverse, List.length_map]; omega) fun t h => hki t (List.mem_reverse.mp h)⟩
      obtain ⟨R4, g4, p4⟩ : ∃ R, listO [tupI ks] = some (R, [tupI ks]) ∧ Ob R.frz := ⟨_, o_listU _, .lst _⟩
      obtain ⟨E, g5, oE, lE⟩ : ∃ E : List T, sl10 [tupI ks, .int (-1)] = some (.tup E, [tupI ks, .int (-1)]) ∧ (∀ t ∈ E, Ob t) ∧ E.length ≤ 40 := ⟨_, rfl, fun t h => hki t (cutL_mem h), by have := cutL_len (ks.map T.int) (some (-1)) none; rw [List.length_map] at this; omega⟩
      obtain ⟨S6, g6, _, p6⟩ := ob_cat (X := ks.map T.int) (Y := E) hki oE (by rw [List.length_map]; omega)
      have g6 : opAdd [tupI ks, .tup E] = some (.tup S6, [tupI ks, .tup E]) := g6
      obtain ⟨q9, hd5, e5, u0, u1, hp5⟩ := draw_h hp4 (m := 9) (by omega) (by omega)
      obtain ⟨res, zs, ixz, ores⟩ := pickP (P := Ob) (xs := [.tup S1, .tup S2, R3, R4, .non, .tup S6, .int 0, fdF, .tup [o.frz, o.frz]]) (fun t h => by
        simp only [List.mem_cons, List.mem_nil_iff, or_false] at h
        rcases h with rfl | rfl | rfl | rfl | rfl | rfl | rfl | rfl | rfl
        · exact fOb p1
        · exact fOb p2
        · exact fOb p3
        · exact p4
        · exact .non
        · exact fOb p6
        · exact .int _
        · exact fOb ofd
        · exact ob_two (fOb oo) (fOb oo)) u0 (by simpa using u1)
      have fr := ores.frz
      refine ⟨.tup bs, res.frz, hd5, ?_, hp5, oBs, fOb ores⟩
      clear p1 p2 p3 p4 p6 ofd odp oB oBs oK hB ores oo hki oE lE
      generalize hT : fdF = fd at *
      have ffd : fd.frz = fd := by rw [← hT]; rfl
      clear hT
      generalize tupI ks = tk at *
      generalize (bs.length : Int) = len at *
      apply defF_go (η0 := [some _, some _, some _, some _, none, none, none, none, none]) rfl; unfold fb__law_bent_feed; (repeat walk_at "jo1")

/-! ### the law -/
theorem lflag_ok (b : Bool) : fn__law_flag [.bl b, .bl b] = .ok (.bl true) [] := by
  cases b
  · have q : eqO false [.bl false, .bl false] = some (.bl true, [.bl false, .bl false]) := rfl
    apply defF_go (η0 := [some _, some _]) rfl; unfold fb__law_flag; (repeat walk_at "jo1")
  · have q : eqO false [.bl true, .bl true] = some (.bl true, [.bl true, .bl true]) := rfl
    apply defF_go (η0 := [some _, some _]) rfl; unfold fb__law_flag; (repeat walk_at "jo1")
theorem eqT_w (s : Str) (x : T) (hs : PyData.strOk s = true) (hx : x = .non ∨ ∃ k, x = .int k) : eqO true [.tup [.str s, x], .tup [.str s, x]] = some (.bl false, [.tup [.str s, x], .tup [.str s, x]]) :=
  eq_selfT (n := 1) (.tup fun t ht => by
    simp only [List.mem_cons, List.mem_nil_iff, or_false] at ht
    rcases ht with rfl | rfl
    · exact .str s (by first | exact hs | simpa [PyData.canLay0] using hs)
    · rcases hx with rfl | ⟨k, rfl⟩
      · exact .non
      · exact .int k) (by decide)
/-- what the law asks of batches and kept hours holds -/
theorem both_ok {B K : T} (hB : Ob B) (hK : Ob K) : ∃ w d : T, fn__law_word [B, K] = .ok w [] ∧ fn__law_due [B, K] = .ok d [] ∧ d.frz = d ∧ w.frz = w ∧
    (∀ E : Bool → Env, True) ∧ ∃ b : Bool, isnO true [d, .non] = some (.bl b, [d, .non]) ∧ ixO [.lst true [.tup [.str "let", .non], d], .int (if b then 1 else 0)] = some (w, [.lst true [.tup [.str "let", .non], d], .int (if b then 1 else 0)]) ∧ eqO true [w, w] = some (.bl false, [w, w]) := by
  rcases fi_any hB hK with ⟨s, k, _, hs, i, d⟩ | ⟨bs, rfl, hl, hg, hq, _, i, d⟩
  · exact ⟨_, _, word_bad hB.frz hK.frz i, d, rfl, rfl, fun _ => trivial, true, rfl, rfl, eqT_w s (.int k) hs (.inr ⟨k, rfl⟩)⟩
  · obtain ⟨ns, rfl, p, hb⟩ := asc_ints hq
    have hn : ns.length ≤ 100 := by
      cases hK with | tup hl _ => rwa [List.length_map] at hl
    exact ⟨_, _, word_ok hl.2 hn hg i, d, rfl, rfl, fun _ => trivial, false, rfl, rfl, eqT_w "let" .non (by decide +kernel) (.inl rfl)⟩
theorem ob_pairO (p : Int × Option Int) : Ob (pairO p) := ob_two (.int _) (by cases p.2 with | none => exact .non | some v => exact .int v)
def BtOk (t : T) : Prop := ∃ ts, t = .tup ts ∧ (∀ u ∈ ts, Ob u) ∧ ts.length ≤ 61
theorem bt_bat {b : Bat} (hl : b.length ≤ 61) : BtOk (batT b) := ⟨b.map pairO, rfl, fun u hu => by
  obtain ⟨p, _, rfl⟩ := List.mem_map.mp hu
  exact ob_pairO p, by rwa [List.length_map]⟩
theorem bt_ob {t : T} (h : BtOk t) : Ob t := by
  obtain ⟨ts, rfl, h1, h2⟩ := h
  exact .tup (by omega) h1
theorem lmany_ok {hd : T} (hh : HandP hd) : ∃ (t : T) (hd' : T), fn__law_many [hd] = .ok t [hd'] ∧ HandP hd' ∧ BtOk t := by
  obtain ⟨r, hd1, e1, r0, r1, hp1⟩ := draw_h hh (m := 2) (by omega) (by omega)
  obtain ⟨n, hn⟩ : ∃ n : Nat, 60 + r = (n : Int) := ⟨(60 + r).toNat, by omega⟩
  have a1 := o_add 60 r
  rw [hn] at a1
  have p59 := pow10_59
  generalize (10 : Int) ^ 59 = q59 at *
  obtain ⟨hd2, bs, hp2, nl, _, c1⟩ := compF_dr (own := [1]) (tg := tgN 1) (elt := eTup [.v (eOp [.v (eC (.int 3)), .s 1] opMul), .v (eIfF (tVal (eOp [.v (eCall fn__law_draw [0] [.s 0, .v (eC (.int 5))]), .v (eC (.int 0))] (eqO false))) (eC .non) (eOp [.v (eC (.int 10)), .v (eC (.int 59))] opPow))]) (lo := 0) (n := n)
    (fun hd : T => [some hd, none]) pairO (fun _ _ => True) HandP (by omega) (fun i s hi hs => by
      obtain ⟨q, hd', e, q0, q1, hp⟩ := draw_h hs (m := 5) (by omega) (by omega)
      have om : opMul [.int 3, .int (0 + (i : Int))] = some (.int (3 * (0 + (i : Int))), [.int 3, .int (0 + (i : Int))]) := o_mul _ _ (mulL _ _ (by omega))
      generalize 3 * (0 + (i : Int)) = k3 at *
      generalize (0 : Int) + (i : Int) = ii at *
      by_cases hq : q = 0
      · subst hq
        refine ⟨hd', (k3, none), hp, trivial, ?_⟩
        have q4 : eqO false [.int 0, .int 0] = some (.bl true, [.int 0, .int 0]) := by rw [o_eq]; rfl
        rw [show pairO (k3, none) = T.tup [.int k3, .non] from rfl]
        apply ex_y
        repeat walk_at "jo1"
      · refine ⟨hd', (k3, some q59), hp, trivial, ?_⟩
        have q4 : eqO false [.int q, .int 0] = some (.bl false, [.int q, .int 0]) := by rw [o_eq, decide_eq_false hq]
        rw [show pairO (k3, some q59) = T.tup [.int k3, .int q59] from rfl]
        apply ex_y
        repeat walk_at "jo1") hp1
  refine ⟨batT bs, hd2, ?_, hp2, bt_bat (by omega)⟩
  have tb : tupO [.lst true (bs.map pairO)] = some (batT bs, [.lst true (bs.map pairO)]) := o_tupT (frzL_cls pairO _)
  have hb := bd62 (i := (n : Int)) (by omega) (by omega)
  have hnn : (n : Int).toNat = n := Int.toNat_natCast n
  generalize (n : Int) = ni at *
  apply defF_go (η0 := [some _, none]) rfl; unfold fb__law_many; (repeat walk_at "jo1")
def turnB : Fs := (sSeq (sSet 8 (eCall fn__law_bent_batch [0] [.s 1, .v (eOp [.s 3, .v (eCall fn__law_draw [0] [.s 1, .v (eVar 2)])] ixO), .v (eVar 6)]))
    (sSeq (sIf (tNotF (tVal (eCall fn__law_flag [] [.v (eCall fn_is_batch [] [.v (eVar 8)]), .v (eCall fn__law_is_batch [] [.v (eVar 8)])]))) (sRet (eC (.bl false)))
    sSkip)
    (sSeq (sUnp (eCall fn__law_bent_feed [0] [.s 1, .v (eVar 3), .v (eVar 4), .v (eVar 6)]) (tgT [(tgN 9), (tgN 10)]))
    (sSeq (sSet 11 (eCall fn__law_due [] [.v (eVar 9), .v (eVar 10)]))
    (sIf (tVal (eOp [.v (eCall fn__law_word [] [.v (eVar 9), .v (eVar 10)]), .v (eOp [.v (eLst [.v (eTup [.v (eC (.str "let")), .v (eC .non)]), .v (eVar 11)]), .v (eOp [.v (eOp [.s 11, .v (eC .non)] (isnO true))] intO)] ixO)] (eqO true))) (sRet (eC (.bl false)))
    sSkip)))))
theorem turn_ok {bs : List T} {ks : List Int} (hB : ∀ t ∈ bs, BtOk t) (n1 : 1 ≤ bs.length) (n2 : bs.length ≤ 40) (hk : ks.length ≤ 40) {hd : T} (hh : HandP hd) (a z5 z12 j7 j8 j9 j10 j11 : Option T) (o : Bool) :
    ∃ hd' y8 y9 y10 y11, turnB [a, some hd, some (.int (bs.length : Int)), some (.tup bs), some (tupI ks), z5, some (.ins o "Feed" ["batches", "kept"] [.tup [.tup []], .tup []]), j7, j8, j9, j10, j11, z12] = .ok .nx [a, some hd', some (.int (bs.length : Int)), some (.tup bs), some (tupI ks), z5, some fdF, j7, y8, y9, y10, y11, z12] ∧ HandP hd' := by
  obtain ⟨r, hd1, e1, r0, r1, hp1⟩ := draw_h hh (m := (bs.length : Int)) (by omega) (by omega)
  obtain ⟨b, eb⟩ : ∃ b, bs[r.toNat]? = some b := ⟨_, List.getElem?_eq_getElem (by omega)⟩
  obtain ⟨ts, rfl, h3, h4⟩ := hB b (List.mem_of_getElem? eb)
  have ix : ixO [.tup bs, .int r] = some (.tup ts, [.tup bs, .int r]) := o_ixT r0 eb
  obtain ⟨t, hd2, e2, hp2, ot⟩ := bentb_ok hp1 h3 h4
  have c1 := isbatch_any ot
  have c2 := lbatch_any ot
  have fg := lflag_ok (batB t)
  have ft := ot.frz
  obtain ⟨x, y, hd3, e3, hp3, ox, oy⟩ := bentf_ok hp2 hB n1 n2 hk
  obtain ⟨w, d, w1, w2, fd, fw, _, bb, i1, i2, q⟩ := both_ok ox oy
  have fx := ox.frz
  have fy := oy.frz
  have ib := o_intb bb
  refine ⟨hd3, some t, some x, some y, some d, ?_, hp3⟩
  generalize (if bb = true then (1 : Int) else 0) = kk at *
  generalize batB t = bt at *
  clear hB h3 h4 eb ot ox oy
  have fT : (tupI ks).frz = tupI ks := rfl
  have fB2 : (T.tup bs).frz = T.tup bs := rfl
  have ff : (T.ins false "Feed" ["batches", "kept"] [.tup [.tup []], .tup []]).frz = .ins false "Feed" ["batches", "kept"] [.tup [.tup []], .tup []] := rfl
  generalize tupI ks = tk at *
  generalize (bs.length : Int) = len at *
  generalize T.tup bs = tb at *
  cases o
  all_goals
    unfold turnB
    repeat walk_at "jo1"
theorem row_len {ns : List Int} {k : Nat} (p : ns.Pairwise (· < ·)) (hb : ∀ x ∈ ns, 0 ≤ x ∧ x ≤ (k : Int)) : ns.length ≤ k + 1 := by
  have key : ∀ (l : List Int) (a : Int) (k : Nat), l.Pairwise (· < ·) → (∀ x ∈ l, a ≤ x ∧ x < a + (k : Int)) → l.length ≤ k := by
    intro l
    induction l with
    | nil => intro a k _ _; simp
    | cons y ys ih =>
      intro a k hp hb
      have hy := hb y List.mem_cons_self
      have p := List.pairwise_cons.mp hp
      obtain ⟨k', rfl⟩ : ∃ k', k = k' + 1 := ⟨k - 1, by omega⟩
      have := ih (a + 1) k' p.2 (fun x hx => by
        have h1 := p.1 x hx
        have h2 := hb x (List.mem_cons_of_mem _ hx)
        omega)
      simp only [List.length_cons]
      omega
  exact key _ 0 (k + 1) p fun x hx => by
    have := hb x hx
    omega
def lawT : Fs := (sSeq (sSet 4 (eCall fn__law_kept [0] [.s 1, .v (eVar 2)]))
    (sSeq (sSet 5 (eCall fn__law_due [] [.v (eVar 3), .v (eVar 4)]))
    (sSeq (sIf (tVal (eOp [.v (eCall fn__law_word [] [.v (eVar 3), .v (eVar 4)]), .v (eOp [.v (eLst [.v (eTup [.v (eC (.str "let")), .v (eC .non)]), .v (eVar 5)]), .v (eOp [.v (eOp [.s 5, .v (eC .non)] (isnO true))] intO)] ixO)] (eqO true))) (sRet (eC (.bl false)))
    sSkip)
    (sSeq (sSet 6 (eMakeX "Feed" fn_Feed_init [.v (eTup [.v (eTup [])]), .v (eTup [])]))
    (sSeq (sFor (iRng1F (.v (eC (.int 6)))) (tgN 7) (sSeq (sSet 8 (eCall fn__law_bent_batch [0] [.s 1, .v (eOp [.s 3, .v (eCall fn__law_draw [0] [.s 1, .v (eVar 2)])] ixO), .v (eVar 6)]))
    (sSeq (sIf (tNotF (tVal (eCall fn__law_flag [] [.v (eCall fn_is_batch [] [.v (eVar 8)]), .v (eCall fn__law_is_batch [] [.v (eVar 8)])]))) (sRet (eC (.bl false)))
    sSkip)
    (sSeq (sUnp (eCall fn__law_bent_feed [0] [.s 1, .v (eVar 3), .v (eVar 4), .v (eVar 6)]) (tgT [(tgN 9), (tgN 10)]))
    (sSeq (sSet 11 (eCall fn__law_due [] [.v (eVar 9), .v (eVar 10)]))
    (sIf (tVal (eOp [.v (eCall fn__law_word [] [.v (eVar 9), .v (eVar 10)]), .v (eOp [.v (eLst [.v (eTup [.v (eC (.str "let")), .v (eC .non)]), .v (eVar 11)]), .v (eOp [.v (eOp [.s 11, .v (eC .non)] (isnO true))] intO)] ixO)] (eqO true))) (sRet (eC (.bl false)))
    sSkip))))))
    (sRet (eOp [.v (eComp (iSeqF (eVar 3)) [12] (tgN 12) cYes (eCall fn__law_flag [] [.v (eCall fn_is_batch [] [.v (eVar 12)]), .v (eCall fn__law_is_batch [] [.v (eVar 12)])]))] allO)))))))
theorem feed0 : fn_Feed_init [nwT, .tup [.tup []], .tup []] = .ok .non [.ins true "Feed" ["batches", "kept"] [.tup [.tup []], .tup []]] :=
  fi_ok (bs := [.tup []]) (K := .tup []) (fun t h => by rw [List.mem_singleton.mp h]; exact .tup (by simp) (fun _ h => by cases h)) (by simp) (by simp) rfl (.tup (by simp) (fun _ h => by cases h)) rfl
theorem tail_ok {hd a : T} (hh : HandP hd) {bs : List T} (hB : ∀ t ∈ bs, BtOk t) (n1 : 1 ≤ bs.length) (n2 : bs.length ≤ 40) : ∃ η, lawT [some a, some hd, some (.int (bs.length : Int)), some (.tup bs), none, none, none, none, none, none, none, none, none] = .ok (.rt (.bl true)) η := by
  obtain ⟨ks, hd1, e1, hp1, kp, kb⟩ := lkept_ok hh (n := bs.length) n2
  have hk : ks.length ≤ 40 := by
    have := row_len (k := bs.length - 1) kp fun x hx => by have := kb x hx; omega
    omega
  have oBs : Ob (.tup bs) := .tup (by omega) fun t ht => bt_ob (hB t ht)
  obtain ⟨w, d, w1, w2, fd, fw, _, bb, i1, i2, q⟩ := both_ok oBs (ob_ints ks (by omega))
  have ib := o_intb bb
  have mk : eMakeX "Feed" fn_Feed_init [.v (eTup [.v (eTup [])]), .v (eTup [])] [some a, some hd1, some (.int (bs.length : Int)), some (.tup bs), some (tupI ks), some d, none, none, none, none, none, none, none] = .ok (.ins true "Feed" ["batches", "kept"] [.tup [.tup []], .tup []]) [some a, some hd1, some (.int (bs.length : Int)), some (.tup bs), some (tupI ks), some d, none, none, none, none, none, none, none] := by
    apply r_makeX (ts := [.tup [.tup []], .tup []]) (us := []) (η1 := [some a, some hd1, some (.int (bs.length : Int)), some (.tup bs), some (tupI ks), some d, none, none, none, none, none, none, none])
    · exact rfl
    · exact rfl
    · exact feed0
  obtain ⟨η1, f1, hd2, o, y7, y8, y9, y10, y11, eη1, hp2⟩ := forF_rg (tg := (tgN 7)) (body := turnB) (lo := 0) (n := 6) (fun _ η => ∃ (hd : T) (o : Bool) (y7 y8 y9 y10 y11 : Option T), η = [some a, some hd, some (.int (bs.length : Int)), some (.tup bs), some (tupI ks), some d, some (.ins o "Feed" ["batches", "kept"] [.tup [.tup []], .tup []]), y7, y8, y9, y10, y11, none] ∧ HandP hd)
    (fun i η hi ⟨hd, o, y7, y8, y9, y10, y11, eη, hp⟩ => by
      subst eη
      obtain ⟨hd', z8, z9, z10, z11, st, hp'⟩ := turn_ok hB n1 n2 hk hp (some a) (some d) none (some (.int (0 + (i : Int)))) y8 y9 y10 y11 o
      exact ⟨_, _, rfl, st, hd', false, _, _, _, _, _, rfl, hp'⟩) (η := [some a, some hd1, some (.int (bs.length : Int)), some (.tup bs), some (tupI ks), some d, some (.ins true "Feed" ["batches", "kept"] [.tup [.tup []], .tup []]), none, none, none, none, none, none]) ⟨hd1, true, none, none, none, none, none, rfl, hp1⟩
  subst eη1
  have r6 : (6 : Int).toNat = 6 := rfl
  have cm : ∀ E : Env, compF [12] (tgN 12) cYes (eCall fn__law_flag [] [.v (eCall fn_is_batch [] [.v (eVar 12)]), .v (eCall fn__law_is_batch [] [.v (eVar 12)])]) bs [] [some a, some hd2, some (.int (bs.length : Int)), some (.tup bs), some (tupI ks), some d, some (.ins o "Feed" ["batches", "kept"] [.tup [.tup []], .tup []]), y7, y8, y9, y10, y11, none] = .ok ((bs.map fun _ => true).map T.bl) [some a, some hd2, some (.int (bs.length : Int)), some (.tup bs), some (tupI ks), some d, some (.ins o "Feed" ["batches", "kept"] [.tup [.tup []], .tup []]), y7, y8, y9, y10, y11, none] := fun _ =>
    compF_ob (fun _ => true) (by omega) fun t ht => by
      have ot := bt_ob (hB t ht)
      have c1 := isbatch_any ot
      have c2 := lbatch_any ot
      have fg := lflag_ok (batB t)
      have ft := ot.frz
      generalize batB t = bt at *
      generalize T.ins o "Feed" ["batches", "kept"] [.tup [.tup []], .tup []] = fdd at *
      generalize tupI ks = tk at *
      generalize (bs.length : Int) = len at *
      generalize T.tup bs = tb at *
      clear f1 mk
      apply ex_y
      repeat walk_at "jo1"
  have cm := cm []
  have oa := all_rw true bs (fun _ => true)
  rw [show (bs.all fun _ => true) = true by simp] at oa
  unfold turnB at f1
  have fT : (tupI ks).frz = tupI ks := rfl
  unfold lawT
  generalize (if bb = true then (1 : Int) else 0) = kk at *
  generalize (bs.map fun _ => true).map T.bl = bls at *
  generalize tupI ks = tk at *
  generalize (bs.length : Int) = len at *
  apply Exists.intro
  repeat walk_at "jo1"
theorem law_true (ns : List Int) (hl : ns.length ≤ 63) : ∃ us, fn_law [.scr ns] = .ok (.bl true) us := by
  obtain ⟨hd0, eh, hh⟩ := hand_h hl
  obtain ⟨r, hd1, e1, r0, r1, hp1⟩ := draw_h hh (m := 8) (by omega) (by omega)
  obtain ⟨u, hd2, e2, u0, u1, hp2⟩ := draw_h hp1 (m := 16) (by omega) (by omega)
  have a1 := o_add 1 r
  have qe := o_eq u 0
  have ib := o_intb (decide (u = 0))
  obtain ⟨n, ix, n1, n2⟩ : ∃ n : Nat, ixO [.lst true [.int (1 + r), .int 40], .int (if decide (u = 0) = true then 1 else 0)] = some (.int (n : Int), [.lst true [.int (1 + r), .int 40], .int (if decide (u = 0) = true then 1 else 0)]) ∧ 1 ≤ n ∧ n ≤ 40 := by
    by_cases h : decide (u = 0) = true
    · rw [if_pos h]; exact ⟨40, rfl, by omega, by omega⟩
    · rw [if_neg h]
      refine ⟨(1 + r).toNat, ?_, by omega, by omega⟩
      rw [show (((1 + r).toNat : Nat) : Int) = 1 + r by omega]; rfl
  generalize (if decide (u = 0) = true then (1 : Int) else 0) = kk at *
  generalize decide (u = 0) = bu at *
  obtain ⟨bs, hd3, e3, hp3, bl, bo⟩ := lbatches_ok hp2 (n := n) n2 (k := 9) (m := 5) (by omega) (by omega) (by omega) (by omega)
  have hB : ∀ t ∈ bs.map batT, BtOk t := fun t ht => by
    obtain ⟨b, hb, rfl⟩ := List.mem_map.mp ht
    exact bt_bat (by have := (bo b hb).1.len; omega)
  obtain ⟨q, hd4, e4, q0, q1, hp4⟩ := draw_h hp3 (m := 12) (by omega) (by omega)
  have qe4 := o_eq q 0
  refine ⟨[], ?_⟩
  by_cases hq : q = 0
  · rw [decide_eq_true hq] at qe4
    obtain ⟨t, hd5, e5, hp5, bt⟩ := lmany_ok hp4
    have ft := (bt_ob bt).frz
    have lm : (bs.map batT).length = n := by rw [List.length_map, bl]
    have il := init_len (bs.map batT) (by omega)
    have s1 : sl01 [batsT bs, .int (-1)] = some (.tup (cutL (bs.map batT) none (some (-1))), [batsT bs, .int (-1)]) := rfl
    have c1 : opAdd [.tup (cutL (bs.map batT) none (some (-1))), .tup [t.frz]] = some (.tup (cutL (bs.map batT) none (some (-1)) ++ [t.frz]), [.tup (cutL (bs.map batT) none (some (-1))), .tup [t.frz]]) := o_catT (by simp; omega)
    obtain ⟨η, tl⟩ := tail_ok (a := .scr ns) hp5 (bs := cutL (bs.map batT) none (some (-1)) ++ [t.frz]) (fun x hx => by
      rcases List.mem_append.mp hx with h | h
      · exact hB x (cutL_mem h)
      · rw [List.mem_singleton.mp h, ft]; exact bt) (by simp) (by simp; omega)
    rw [show (cutL (bs.map batT) none (some (-1)) ++ [t.frz]).length = n by simp; omega] at tl
    unfold lawT at tl
    clear bo hB il lm bt
    generalize cutL (bs.map batT) none (some (-1)) ++ [t.frz] = nb at *
    generalize cutL (bs.map batT) none (some (-1)) = cb at *
    generalize batsT bs = tb at *
    generalize (n : Int) = ni at *
    apply defF_go (η0 := [some _, none, none, none, none, none, none, none, none, none, none, none, none]) rfl; unfold fb_law; (repeat walk_at "jo1")
  · rw [decide_eq_false hq] at qe4
    obtain ⟨η, tl⟩ := tail_ok (a := .scr ns) hp4 (bs := bs.map batT) hB (by rw [List.length_map]; omega) (by rw [List.length_map]; omega)
    rw [List.length_map, bl] at tl
    have tl : lawT [some (.scr ns), some hd4, some (.int (n : Int)), some (batsT bs), none, none, none, none, none, none, none, none, none] = .ok (.rt (.bl true)) η := tl
    unfold lawT at tl
    clear bo hB
    generalize batsT bs = tb at *
    generalize (n : Int) = ni at *
    apply defF_go (η0 := [some _, none, none, none, none, none, none, none, none, none, none, none, none]) rfl; unfold fb_law; (repeat walk_at "jo1")

end Jo
open PySem PySem.W PyProof.Rows
set_option maxRecDepth 100000 in
set_option maxHeartbeats 0 in
theorem PySem.Challenge.cw_joinshelf_k01_batches_and_feeds_judged_holds : PySem.Challenge.rw_joinshelf_k01_batches_and_feeds_judged.Holds := by
  w_on; o_law; k_head; (case hw => w_witness2)
  k_fill
  refine Jo.walk (k := 11) (x := "_law_script") (l := PySem.Challenge.rw_joinshelf_k01_batches_and_feeds_judged) rfl rfl ⟨rfl, by decide, by decide⟩ (fun w h Y => PySem.W.kIn_of Y) ?F Jo.law_true
  case F =>
    intro w mg fa h KX G hmg
    refine' Jo.all_mk KX G hmg ?aC_Feed ?pg_Feed ?hd_Feed ?po_Feed ?sa_Feed ?mk_Feed ?kc_Feed ?na_Feed ?nn_Feed ?nt_Feed ?nm_Feed ?nknon_Feed ?nkbl_Feed ?nkint_Feed ?nkstr_Feed ?nktup_Feed ?nklst_Feed ?nkdct_Feed ?aX_BadFeed ?sX_BadFeed ?tX_BadFeed ?aX_ShelfError ?sX_ShelfError ?tX_ShelfError ?dX_BadFeed ?dX_ShelfError ?qI_BadFeed ?sI_BadFeed ?kI_BadFeed ?nF_BadFeed_part ?nF_BadFeed_at ?zx ?ya_BadFeed ?yb_BadFeed ?yc_BadFeed ?yd_BadFeed ?ye_BadFeed ?yf_BadFeed ?u_BadFeed_ShelfError ?u_BadFeed_ValueError ?n_Feed_batches ?n_Feed_kept ?a0 ?i0 ?l0 ?c0 ?k0 ?a1 ?l1 ?c1 ?k1 ?a2 ?l2 ?c2 ?k2 ?a3 ?l3 ?c3 ?k3 ?a4 ?l4 ?c4 ?k4 ?a5 ?l5 ?c5 ?k5 ?a6 ?l6 ?c6 ?k6 ?a7 ?l7 ?c7 ?k7 ?a8 ?i8 ?l8 ?c8 ?k8 ?a9 ?l9 ?c9 ?k9 ?a10 ?l10 ?c10 ?k10 ?a11 ?l11 ?c11 ?k11 ?a12 ?l12 ?c12 ?k12 ?a13 ?l13 ?c13 ?k13 ?a14 ?l14 ?c14 ?k14 ?a15 ?l15 ?c15 ?k15 ?a16 ?l16 ?c16 ?k16 ?a17 ?l17 ?c17 ?k17 ?a18 ?l18 ?c18 ?k18 ?a19 ?l19 ?c19 ?k19 ?a20 ?l20 ?c20 ?k20 ?a21 ?l21 ?c21 ?k21 ?a22 ?l22 ?c22 ?k22 ?a23 ?l23 ?c23 ?k23 ?a24 ?l24 ?c24 ?k24 ?v0 ?v1 ?v2 ?z0 ?z1 ?z2 ?z3 ?z4 ?z5 ?z6 ?z7 ?z8 ?z9 ?z10 ?z11 ?z12 ?z13
    (case aC_Feed => k_is)
    (case pg_Feed => k_is)
    (case hd_Feed => k_is)
    (case po_Feed => k_is)
    (case sa_Feed => k_is)
    (case mk_Feed => k_is)
    (case kc_Feed => k_is)
    (case na_Feed => k_is)
    (case nn_Feed => k_is)
    (case nt_Feed => k_is)
    (case nm_Feed => k_is)
    (case nknon_Feed => k_is)
    (case nkbl_Feed => k_is)
    (case nkint_Feed => k_is)
    (case nkstr_Feed => k_is)
    (case nktup_Feed => k_is)
    (case nklst_Feed => k_is)
    (case nkdct_Feed => k_is)
    (case aX_BadFeed => k_is)
    (case sX_BadFeed => k_is)
    (case tX_BadFeed => k_is)
    (case aX_ShelfError => k_is)
    (case sX_ShelfError => k_is)
    (case tX_ShelfError => k_is)
    (case dX_BadFeed => k_is)
    (case dX_ShelfError => k_is)
    (case qI_BadFeed => kx_is)
    (case sI_BadFeed => k_is)
    (case kI_BadFeed => k_is)
    (case nF_BadFeed_part => k_is)
    (case nF_BadFeed_at => k_is)
    (case zx => k_is)
    (case ya_BadFeed => k_is)
    (case yb_BadFeed => k_is)
    (case yc_BadFeed => k_is)
    (case yd_BadFeed => k_is)
    (case ye_BadFeed => k_is)
    (case yf_BadFeed => k_is)
    (case u_BadFeed_ShelfError => k_is)
    (case u_BadFeed_ValueError => k_is)
    (case n_Feed_batches => k_is)
    (case n_Feed_kept => k_is)
    (case a0 => k_is)
    (case i0 => k_is)
    (case l0 => k_is)
    (case c0 => k_is)
    (case k0 => k_is)
    (case a1 => k_is)
    (case l1 => k_is)
    (case c1 => k_is)
    (case k1 => k_is)
    (case a2 => k_is)
    (case l2 => k_is)
    (case c2 => k_is)
    (case k2 => k_is)
    (case a3 => k_is)
    (case l3 => k_is)
    (case c3 => k_is)
    (case k3 => k_is)
    (case a4 => k_is)
    (case l4 => k_is)
    (case c4 => k_is)
    (case k4 => k_is)
    (case a5 => k_is)
    (case l5 => k_is)
    (case c5 => k_is)
    (case k5 => k_is)
    (case a6 => k_is)
    (case l6 => k_is)
    (case c6 => k_is)
    (case k6 => k_is)
    (case a7 => k_is)
    (case l7 => k_is)
    (case c7 => k_is)
    (case k7 => k_is)
    (case a8 => k_is)
    (case i8 => k_is)
    (case l8 => k_is)
    (case c8 => k_is)
    (case k8 => k_is)
    (case a9 => k_is)
    (case l9 => k_is)
    (case c9 => k_is)
    (case k9 => k_is)
    (case a10 => k_is)
    (case l10 => k_is)
    (case c10 => k_is)
    (case k10 => k_is)
    (case a11 => k_is)
    (case l11 => k_is)
    (case c11 => k_is)
    (case k11 => k_is)
    (case a12 => k_is)
    (case l12 => k_is)
    (case c12 => k_is)
    (case k12 => k_is)
    (case a13 => k_is)
    (case l13 => k_is)
    (case c13 => k_is)
    (case k13 => k_is)
    (case a14 => k_is)
    (case l14 => k_is)
    (case c14 => k_is)
    (case k14 => k_is)
    (case a15 => k_is)
    (case l15 => k_is)
    (case c15 => k_is)
    (case k15 => k_is)
    (case a16 => k_is)
    (case l16 => k_is)
    (case c16 => k_is)
    (case k16 => k_is)
    (case a17 => k_is)
    (case l17 => k_is)
    (case c17 => k_is)
    (case k17 => k_is)
    (case a18 => k_is)
    (case l18 => k_is)
    (case c18 => k_is)
    (case k18 => k_is)
    (case a19 => k_is)
    (case l19 => k_is)
    (case c19 => k_is)
    (case k19 => k_is)
    (case a20 => k_is)
    (case l20 => k_is)
    (case c20 => k_is)
    (case k20 => k_is)
    (case a21 => k_is)
    (case l21 => k_is)
    (case c21 => k_is)
    (case k21 => k_is)
    (case a22 => k_is)
    (case l22 => k_is)
    (case c22 => k_is)
    (case k22 => k_is)
    (case a23 => k_is)
    (case l23 => k_is)
    (case c23 => k_is)
    (case k23 => k_is)
    (case a24 => k_is)
    (case l24 => k_is)
    (case c24 => k_is)
    (case k24 => k_is)
    (case v0 => k_is)
    (case v1 => k_is)
    (case v2 => k_is)
    (case z0 => k_is)
    (case z1 => k_is)
    (case z2 => k_is)
    (case z3 => k_is)
    (case z4 => k_is)
    (case z5 => k_is)
    (case z6 => k_is)
    (case z7 => k_is)
    (case z8 => k_is)
    (case z9 => k_is)
    (case z10 => k_is)
    (case z11 => k_is)
    (case z12 => k_is)
    (case z13 => k_is)
#print axioms PySem.Challenge.cw_joinshelf_k01_batches_and_feeds_judged_holds
