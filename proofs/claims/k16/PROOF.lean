import PyProof.Rows.All
import HandS.Iter
import HandS.Walk
import KE.GoesEnum
import KE.GoesEnumKw
import KE.GoesZip
import Wide.All
import OpenK.AllK
import Wide.FinOn
import HandS.ForMost
import HandS.IsInst
import HandS.Style
import HandS.StrMore
import HandS.NoneIn
import HandS.Defaults
import HandS.Head0
import HandS.Head1
import HandS.Head2
import HandS.HeadEnd
import HandS.HeadHook1
import HandS.HeadHook2
import HandS.Exc
import HandS.ExcOwn
import HandS.CallSlots
import HandS.TryOnly
import HandS.WordsExc
import HandS.SetKeys
import PyProof.Rows.StrFirst
import PySem.Challenge.RW_rowblade_k16_whole_least_and_longest
set_option Elab.async false
set_option linter.all false
set_option maxRecDepth 100000
/-! enumerate(a text), enumerate(.., start=k), zip(a list, a text): what is walked. -/
namespace L2
open PySem PySem.Spec PyProof.Rows
/-- the signs of a text, each in a new pair with its number from k on -/
def Ites (k : Int) (x : Str) : It := ⟨fun i _ => i < x.cps.size, fun i H v H' => ∃ T c, v = .ref T ∧ H T = none ∧ H' = upd H T (.tup [.int (k + (i : Nat)), .str ⟨#[c]⟩]) ∧ x.cps[i]? = some c, fun i _ => x.cps.size ≤ i⟩
theorem turn_enumS {P : Program} {w : World} {K : PySem.W.Frag} {elts : List Expr} {kk : Nat} {tpos : Pos} (k0 : Int) (x : Str) (t : Tok) (e it : Addr) :
    Turn P w K (.Tuple elts kk tpos) (Ites k0 x) [e, it] e (fun i h => (∃ old, IsEnum h e it (k0 + ((i : Nat) : Int)) old) ∧ h.IsStrIter it (strIterType x) x t i ∧ e ≠ it ∧ i ≤ x.cps.size) where
  mem := by simp
  obj := fun i h st b hb => by
    obtain ⟨⟨old, he⟩, ⟨o, ho, hc, hd⟩, _⟩ := st
    have e' : b = e ∨ b = it := by simpa using hb
    rcases e' with z | z
    · rw [z]; exact ⟨_, he, fun v q => nomatch q⟩
    · rw [z]; exact ⟨o, ho, fun v q => by rw [hd] at q; cases q⟩
  keep := fun i h h' st k => by
    obtain ⟨⟨old, he⟩, ⟨o, ho, r⟩, hne, hl⟩ := st
    exact ⟨⟨old, k e (by simp) _ he⟩, ⟨o, k it (by simp) o ho, r⟩, hne, hl⟩
  item := by
    intro X hP hw hK hc i pins s σ H E I hf st hg
    subst hP hw hK
    obtain ⟨⟨old, he⟩, hit, hne, _⟩ := st
    have hg : i < x.cps.size := hg
    have hel : e < s.heap.objs.size := Heap.lt_size he
    have hil : it < s.heap.objs.size := by obtain ⟨_, q, _⟩ := hit; exact Heap.lt_size q
    refine wpAny_pyNext_enum_itemC (Draws.text (A := X.A.in1) (I.ok.hd hc) it x t) he hit hg hne (by simpa using hne) fun v h' tk hP ho hit' hT hsz hk => ?_
    obtain ⟨c, u, hcx, rfl⟩ := hP
    refine ⟨_, rfl, wpAny_letOwnedTupleGo_enum (s := { s with heap := h', toks := tk + 1 }) ho fun h'' he' sb => ?_⟩
    have hT2 : h''.get? s.heap.objs.size = some { cls := .type "tuple", data := .seq #[.int (k0 + (i : Int)) tk, .str ⟨#[c]⟩ u] } := (sb.2 _ (Nat.ne_of_gt hel)).trans hT
    have new : ObjOk X.prog X.w (upd H s.heap.objs.size (.tup [.int (k0 + (i : Nat)), .str ⟨#[c]⟩])) h'' s.heap.objs.size (.tup [.int (k0 + (i : Nat)), .str ⟨#[c]⟩]) :=
      ⟨by show 2 ≤ sizeLine; decide, [.int (k0 + (i : Int)) tk, .str ⟨#[c]⟩ u], .cons ⟨_, rfl⟩ (.cons ⟨_, rfl⟩ .nil), ⟨_, hT2, rfl, _, rfl⟩⟩
    have I1 : Inv X pins σ (upd H s.heap.objs.size (.tup [.int (k0 + (i : Nat)), .str ⟨#[c]⟩])) { s with heap := h'', toks := tk + 1 } :=
      I.turnedNew (ch := [e, it]) (fun b ob hb q => (sb.2 b (fun z => hb (by simp [z]))).trans (hk b ob (fun z => hb (by simp [z])) (fun z => hb (by simp [z])) q)) hf (Nat.le_refl _) new
    refine ⟨.ref s.heap.objs.size, _, I1, rfl, ⟨_, c, rfl, I.hok.fresh (Nat.le_refl _), rfl, hcx⟩, ⟨⟨.str ⟨#[c]⟩ u, ?_⟩, ?_, hne, hg⟩, fun b hb => ?_⟩
    · have e1 : k0 + ((i + 1 : Nat) : Int) = k0 + (i : Int) + 1 := by omega
      rw [e1]; exact he'
    · obtain ⟨o, q1, q2⟩ := hit'
      exact ⟨o, (sb.2 it (Ne.symm hne)).trans q1, q2⟩
    · have hb' : b < s.heap.objs.size := by
        have e' : b = e ∨ b = it := by simpa using hb
        rcases e' with z | z
        · rw [z]; exact hel
        · rw [z]; exact hil
      rw [upd_ne (Nat.ne_of_lt hb')]
      exact (hf b hb).1
  done := by
    intro X hP hw hK hc i pins s σ H E I hf st hg
    subst hP hw hK
    obtain ⟨⟨old, he⟩, hit, hne, hle⟩ := st
    have hg : x.cps.size ≤ i := hg
    have : i = x.cps.size := Nat.le_antisymm hle hg
    subst this
    obtain ⟨f0, f1, f2, f3, f4, f5⟩ := hf it (by simp)
    exact wpAny_pyNext_enum_endD (Draws.text (A := X.A.in1) (I.ok.hd hc) it x t) he hit fun h' eb => ⟨rfl, I.turned (t' := s.toks) (fun b o hb q => eb b o hb q) f0 f1 f3 f4 f5⟩
  self := fun A i s Q E st h => let ⟨⟨_, he⟩, _⟩ := st; wpAny_pyIter_enum he h
def iEnumS (ta : TA) : TI := fun σ H R => ta σ H fun vs H1 => ∃ x, vs = [.str x] ∧ R (Ites 0 x) H1
theorem pi_enumS {X : Cx} {e : Expr} {ta : TA} {p pos tpos : Pos} {elts : List Expr} {kk : Nat} (hg : Gl X "enumerate") (hm : X.mg "enumerate" = none) (ha : PA X [e] ta) (hs : starEach [e] X.env = [(false, eval e X.env)] := by rfl) :
    PI X (.Tuple elts kk tpos) (.Call (.Name "enumerate" p) [e] [] pos) (iEnumS ta) := by
  refine ⟨fun pins s σ H R I h => ?_⟩
  refine Call_ (ld_blt I hg hm boot_enumerate (PyProof.Rows.callWith_type1 (thn (ha.run pos pins s σ H _ I h) fun us s1 ⟨vs, H1, I1, r1, q1⟩ => ?_) hs rfl))
  obtain ⟨x, ex, q⟩ := q1
  subst ex
  cases r1 with
  | cons r rr =>
    cases rr
    obtain ⟨t, rfl⟩ := r
    refine call_enumerate_str fun h' he hit hsz hk => wpAny_pyIter_enum he ?_
    have I2 : Inv X pins σ H1 { s1 with heap := h' } := I1.kept (t' := s1.toks) hk
    refine ⟨s1.heap.objs.size + 1, [s1.heap.objs.size + 1, s1.heap.objs.size], _, _, H1, rfl, I2, turn_enumS 0 x t (s1.heap.objs.size + 1) s1.heap.objs.size, ⟨⟨.none, he⟩, hit, Nat.succ_ne_self _, Nat.zero_le _⟩, fun b hb => ?_, q⟩
    have e' : b = s1.heap.objs.size + 1 ∨ b = s1.heap.objs.size := by simpa using hb
    have hle : s1.heap.objs.size ≤ b := by
      rcases e' with z | z
      · rw [z]; exact Nat.le_add_right _ _
      · rw [z]; exact Nat.le_refl _
    exact I1.fpOk hle (I1.hok.fresh hle)
/-- the items of the list at a and the signs of x, in new pairs -/
def Itzs (K : PySem.W.Frag) (a : Addr) (x : Str) : It :=
  ⟨fun i H => ∃ (xs : List V) (u : V), SqL K H a xs ∧ xs[i]? = some u ∧ i < x.cps.size,
    fun i H v H' => ∃ T u c, v = .ref T ∧ H T = none ∧ H' = upd H T (.tup [u, .str ⟨#[c]⟩]) ∧ (∀ xs, SqL K H a xs → xs[i]? = some u) ∧ x.cps[i]? = some c,
    fun i H => ∃ xs : List V, SqL K H a xs ∧ i ≤ xs.length ∧ (i = xs.length ∨ i = x.cps.size)⟩
theorem turn_zipS {P : Program} {w : World} {K : PySem.W.Frag} {elts : List Expr} {kk : Nat} {tpos : Pos} {a z TI TO i1 i2 : Addr} {x : Str} {t : Tok} (S : ZipSep2 z TI TO i1 i2 [i1, a] [i2]) (hne : a ≠ i1) :
    Turn P w K (.Tuple elts kk tpos) (Itzs K a x) [z, TI, TO, i1, i2] z (fun i h => IsZip h z TI TO .none ∧ IsTupOf2 h TI (.ref i1) (.ref i2) ∧ (∃ x y, IsTupOf2 h TO x y) ∧ h.IsListIter i1 a i ∧ h.IsStrIter i2 (strIterType x) x t i ∧ i ≤ x.cps.size) where
  mem := by simp
  obj := fun i h st c hc => by
    obtain ⟨hz, hTI, ⟨x, y, hTO⟩, ⟨o1, e1, _, d1⟩, ⟨o2, e2, _, d2⟩, _⟩ := st
    have e' : c = z ∨ c = TI ∨ c = TO ∨ c = i1 ∨ c = i2 := by simpa using hc
    rcases e' with q | q | q | q | q
    · rw [q]; exact ⟨_, hz, fun v q => nomatch q⟩
    · rw [q]; exact ⟨_, hTI, fun v q => nomatch q⟩
    · rw [q]; exact ⟨_, hTO, fun v q => nomatch q⟩
    · rw [q]; exact ⟨o1, e1, fun v q => by rw [d1] at q; cases q⟩
    · rw [q]; exact ⟨o2, e2, fun v q => by rw [d2] at q; cases q⟩
  keep := fun i h h' st k => by
    obtain ⟨hz, hTI, ⟨x, y, hTO⟩, h1, ⟨o, ho, r⟩, hl⟩ := st
    exact ⟨k z (by simp) _ hz, k TI (by simp) _ hTI, ⟨x, y, k TO (by simp) _ hTO⟩, h1.at fun o q => k i1 (by simp) o q, ⟨o, k i2 (by simp) o ho, r⟩, hl⟩
  item := by
    intro X hP hw hK hc i pins s σ H E I hf st hg
    subst hP hw hK
    obtain ⟨hz, hTI, ⟨x0, y0, hTO⟩, h1, h2, _⟩ := st
    obtain ⟨xs, u0, hqx, hx, hlt⟩ := hg
    obtain ⟨its, rv, p, _⟩ := I.list hqx
    have hln := rv.length
    have hi : i < xs.length := (List.getElem?_eq_some_iff.mp hx).1
    have hzl : z < s.heap.objs.size := Heap.lt_size hz
    refine wpAny_pyNext_zipD2_item S (Draws.list (A := X.A.in1) (I.ok.hd hc) i1 a hne its.toArray) (Draws.text (A := X.A.in1) (I.ok.hd hc) i2 x t) hz hTI hTO ⟨h1, p.isList⟩ h2 (by simp; omega) hlt fun v1 v2 h' tk hv1 hv2 z' TO' h1' h2' hT hsz hk => ?_
    obtain ⟨c, u, hcx, rfl⟩ := hv2
    obtain ⟨v1', hv1', rv1⟩ := rv.get hx
    have : v1 = v1' := by
      have hv1 : its[i]? = some v1 := by simpa using hv1
      rw [hv1'] at hv1; cases hv1; rfl
    subst this
    refine ⟨_, rfl, wpAny_letOwnedTupleGo_zip (s := { s with heap := h', toks := tk }) z' fun h'' z'' sb => ?_⟩
    have hT2 : h''.get? s.heap.objs.size = some { cls := .type "tuple", data := .seq #[v1, .str ⟨#[c]⟩ u] } := (sb.2 _ (Nat.ne_of_gt hzl)).trans hT
    have new : ObjOk X.prog X.w (upd H s.heap.objs.size (.tup [u0, .str ⟨#[c]⟩])) h'' s.heap.objs.size (.tup [u0, .str ⟨#[c]⟩]) :=
      ⟨by show 2 ≤ sizeLine; decide, [v1, .str ⟨#[c]⟩ u], .cons rv1 (.cons ⟨_, rfl⟩ .nil), ⟨_, hT2, rfl, _, rfl⟩⟩
    have I1 : Inv X pins σ (upd H s.heap.objs.size (.tup [u0, .str ⟨#[c]⟩])) { s with heap := h'', toks := tk } :=
      I.turnedNew (ch := [z, TI, TO, i1, i2]) (fun c o hb q => (sb.2 c (fun q' => hb (by simp [q']))).trans (hk c o (fun q' => hb (by simp [q'])) (fun q' => hb (by simp [q'])) (fun q' => hb (by simp [q'])) (fun q' => hb (by simp [q'])) q)) hf (Nat.le_refl _) new
    refine ⟨.ref s.heap.objs.size, _, I1, rfl, ⟨_, u0, c, rfl, I.hok.fresh (Nat.le_refl _), rfl, fun l hl => by rw [I.list_inj hl hqx]; exact hx, hcx⟩, ⟨z'', ?_, ⟨v1, .str ⟨#[c]⟩ u, ?_⟩, ?_, ?_, hlt⟩, fun c hcm => ?_⟩
    · exact (sb.2 _ S.TIz).trans (hk _ _ S.TIz S.TITO S.TIi1 S.TIi2 hTI)
    · exact (sb.2 _ S.TOz).trans TO'
    · exact h1'.1.at fun o q => (sb.2 _ fun e => S.zf1 (e ▸ List.mem_cons_self ..)).trans q
    · obtain ⟨o, q1, q2⟩ := h2'
      exact ⟨o, (sb.2 _ fun e => S.zf2 (e ▸ List.mem_cons_self ..)).trans q1, q2⟩
    · have hlt : c < s.heap.objs.size := by
        have e' : c = z ∨ c = TI ∨ c = TO ∨ c = i1 ∨ c = i2 := by simpa using hcm
        rcases e' with q | q | q | q | q
        · rw [q]; exact hzl
        · rw [q]; exact Heap.lt_size hTI
        · rw [q]; exact Heap.lt_size hTO
        · rw [q]; obtain ⟨_, e1, _⟩ := h1; exact Heap.lt_size e1
        · rw [q]; obtain ⟨_, e2, _⟩ := h2; exact Heap.lt_size e2
      rw [upd_ne (Nat.ne_of_lt hlt)]
      exact (hf c hcm).1
  done := by
    intro X hP hw hK hc i pins s σ H E I hf st hg
    subst hP hw hK
    obtain ⟨hz, hTI, ⟨x0, y0, hTO⟩, h1, h2, hle⟩ := st
    obtain ⟨xs, hqx, hlx, hend⟩ := hg
    obtain ⟨its, rv, p, _⟩ := I.list hqx
    have hln := rv.length
    refine wpAny_pyNext_zipD2_end S (Draws.list (A := X.A.in1) (I.ok.hd hc) i1 a hne its.toArray) (Draws.text (A := X.A.in1) (I.ok.hd hc) i2 x t) hz hTI hTO ⟨h1, p.isList⟩ h2 (by simp; omega) hle (by rcases hend with q | q <;> simp <;> omega) fun h' tk hk => ⟨rfl, I.turnedL (t' := tk) (ch := [z, TI, TO, i1, i2]) (fun c o hb q =>
      hk c o (fun q' => hb (by simp [q'])) (fun q' => hb (by simp [q'])) (fun q' => hb (by simp [q'])) (fun q' => hb (by simp [q'])) q) hf⟩
  self := fun A i s Q E st h => wpAny_pyIter_zip st.1 h
def iZipS (K : PySem.W.Frag) (ta : TA) : TI := fun σ H R => ta σ H fun vs H1 => ∃ a xs x, vs = [.ref a, .str x] ∧ SqL K H1 a xs ∧ R (Itzs K a x) H1
theorem pi_zipS {X : Cx} {e e2 : Expr} {ta : TA} {p pos tpos : Pos} {elts : List Expr} {kk : Nat} (hg : Gl X "zip") (hm : X.mg "zip" = none) (ha : PA X [e, e2] ta)
    (hs : starEach [e, e2] X.env = (false, eval e X.env) :: starEach [e2] X.env := by rfl) (hpl : (backTo pos (starEach [e2] X.env)).any (·.1) = false := by rfl) :
    PI X (.Tuple elts kk tpos) (.Call (.Name "zip" p) [e, e2] [] pos) (iZipS X.K ta) := by
  refine ⟨fun pins s σ H R I h => ?_⟩
  refine Call_ (ld_blt I hg hm PyProof.Rows.boot_zip (PyProof.Rows.callWith_type1 (thn (ha.run pos pins s σ H _ I h) fun us s1 ⟨vs, H1, I1, r1, q1⟩ => ?_) hs hpl))
  obtain ⟨a, xs, x, ex, hqx, q⟩ := q1
  subst ex
  cases r1 with
  | cons r rr =>
    cases rr with
    | cons r' rr =>
      cases rr
      cases r
      obtain ⟨t, rfl⟩ := r'
      obtain ⟨its, rv, p1, _⟩ := I1.list hqx
      have la : a < s1.heap.objs.size := p1.lt
      refine zip_begins2 (begins_list a its.toArray) (begins_text x t) p1.isList trivial fun h' hz hTI hTO h1 h2 hsz hk => wpAny_pyIter_zip hz ?_
      have I2 : Inv X pins σ H1 { s1 with heap := h' } := I1.kept (t' := s1.toks) hk
      have S := zip_sep2 (N := s1.heap.objs.size) (fp1 := [a]) (fp2 := []) (fun b hb => by rw [List.mem_singleton.mp hb]; exact la) (fun b hb => by cases hb)
      refine ⟨s1.heap.objs.size + 4, [s1.heap.objs.size + 4, s1.heap.objs.size + 2, s1.heap.objs.size + 3, s1.heap.objs.size, s1.heap.objs.size + 1], _, _, H1, rfl, I2, turn_zipS (t := t) S (Nat.ne_of_lt la), ⟨hz, hTI, ⟨_, _, hTO⟩, ⟨_, h1, rfl, rfl⟩, ⟨_, h2, rfl, rfl⟩, Nat.zero_le _⟩, fun c hcm => ?_, q⟩
      have e' : c = s1.heap.objs.size + 4 ∨ c = s1.heap.objs.size + 2 ∨ c = s1.heap.objs.size + 3 ∨ c = s1.heap.objs.size ∨ c = s1.heap.objs.size + 1 := by simpa using hcm
      have hle : s1.heap.objs.size ≤ c := by
        rcases e' with z | z | z | z | z
        · rw [z]; exact Nat.le_add_right _ _
        · rw [z]; exact Nat.le_add_right _ _
        · rw [z]; exact Nat.le_add_right _ _
        · rw [z]; exact Nat.le_refl _
        · rw [z]; exact Nat.le_add_right _ _
      exact I1.fpOk hle (I1.hok.fresh hle)
theorem walk_enumS {k : Int} {x : Str} : Walk (Ites k x) x.cps.size (fun _ => True) (fun i H v H' => ∃ T c, v = .ref T ∧ H T = none ∧ H' = upd H T (.tup [.int (k + (i : Nat)), .str ⟨#[c]⟩]) ∧ x.cps[i]? = some c) :=
  ⟨fun _ _ hi _ => hi, fun _ _ => Nat.le_refl _, fun _ _ _ _ _ _ y => y⟩
theorem walk_zipS {K : PySem.W.Frag} {a : Addr} {xs : List V} {x : Str} : Walk (Itzs K a x) (min xs.length x.cps.size) (fun H => SqL K H a xs) (fun i H v H' => ∃ T u c, v = .ref T ∧ H T = none ∧ H' = upd H T (.tup [u, .str ⟨#[c]⟩]) ∧ xs[i]? = some u ∧ x.cps[i]? = some c) := by
  refine ⟨fun i _ hi q => ?_, fun _ q => ⟨xs, q, by omega, by omega⟩, fun i H v H' _ q y => ?_⟩
  · have h1 : i < xs.length := by omega
    exact ⟨xs, xs[i], q, by simp [h1], by omega⟩
  · obtain ⟨T, u, c, h1, h2, h3, h4, h5⟩ := y
    exact ⟨T, u, c, h1, h2, h3, h4 xs q, h5⟩
end L2
/-! Eng A: data, heaps with hidden parts, owned trees. -/
namespace Eng
open PySem L2
inductive D where
  | non | bl (b : Bool) | int (i : Int) | str (s : List Nat)
  | lst (xs : List D) | tup (xs : List D) | scr (ns : List Int)
  | ins (c : Str) (ns : List Str) (xs : List D) | dic (ks : List Key) (xs : List D)
  deriving Inhabited
/-- what a value is, over a heap -/
structure Cfg where
  K : PySem.W.Frag
  mg : Str → Option Value
abbrev sv (s : List Nat) : V := .str ⟨s.toArray⟩
mutual
inductive Dat (C : Cfg) (H : Hp) : V → D → Prop
  | non : Dat C H .non .non
  | bl (b : Bool) : Dat C H (.bl b) (.bl b)
  | int (i : Int) : Dat C H (.int i) (.int i)
  | str (s : List Nat) : Dat C H (sv s) (.str s)
  | scr {a : Addr} {ns : List Int} : SqL C.K H a (ns.map V.int) → Dat C H (.ref a) (.scr ns)
  | lst {a : Addr} {vs : List V} {ds : List D} : H a = some (.lst vs) → Dats C H vs ds → Dat C H (.ref a) (.lst ds)
  | tup {a : Addr} {vs : List V} {ds : List D} : H a = some (.tup vs) → Dats C H vs ds → Dat C H (.ref a) (.tup ds)
  | ins {a A dx : Addr} {c : Str} {ns : List Str} {vs : List V} {ds : List D} : H a = some (.ins A dx (ns.zip vs)) → C.mg c = some (.ref A) → Dats C H vs ds → ns.length = ds.length → Dat C H (.ref a) (.ins c ns ds)
  | dic {a : Addr} {ks : List Key} {vs : List V} {ds : List D} : H a = some (.dK (ks.zip vs)) → Dats C H vs ds → ks.length = ds.length → Dat C H (.ref a) (.dic ks ds)
inductive Dats (C : Cfg) (H : Hp) : List V → List D → Prop
  | nil : Dats C H [] []
  | cons {v : V} {vs : List V} {d : D} {ds : List D} : Dat C H v d → Dats C H vs ds → Dats C H (v :: vs) (d :: ds)
end
section
variable {C : Cfg} {H H' : Hp}
mutual
theorem Dat.mono (e : Same H H') : ∀ {v : V} {d : D}, Dat C H v d → Dat C H' v d
  | _, _, .non => .non
  | _, _, .bl b => .bl b
  | _, _, .int i => .int i
  | _, _, .str s => .str s
  | _, _, .scr h => .scr (e.seq h)
  | _, _, .lst h hs => .lst (e _ _ h) (Dats.mono e hs)
  | _, _, .tup h hs => .tup (e _ _ h) (Dats.mono e hs)
  | _, _, .ins h hm hs hl => .ins (e _ _ h) hm (Dats.mono e hs) hl
  | _, _, .dic h hs hl => .dic (e _ _ h) (Dats.mono e hs) hl
theorem Dats.mono (e : Same H H') : ∀ {vs : List V} {ds : List D}, Dats C H vs ds → Dats C H' vs ds
  | _, _, .nil => .nil
  | _, _, .cons h hs => .cons (Dat.mono e h) (Dats.mono e hs)
end
theorem Dats.length {vs : List V} {ds : List D} (h : Dats C H vs ds) : vs.length = ds.length := by
  induction vs generalizing ds with
  | nil => cases h; rfl
  | cons v vs ih => cases h with | cons h hs => simp [ih hs]
theorem Dats.get {vs : List V} {ds : List D} (h : Dats C H vs ds) {i : Nat} {v : V} (e : vs[i]? = some v) : ∃ d, ds[i]? = some d ∧ Dat C H v d := by
  induction vs generalizing ds i with
  | nil => simp at e
  | cons w vs ih =>
    cases h with
    | cons h hs =>
      cases i with
      | zero => simp at e; subst e; exact ⟨_, rfl, h⟩
      | succ i => simp at e; obtain ⟨d, h1, h2⟩ := ih hs e; exact ⟨d, by simpa using h1, h2⟩
theorem Dats.getD {vs : List V} {ds : List D} (h : Dats C H vs ds) {i : Nat} {d : D} (e : ds[i]? = some d) : ∃ v, vs[i]? = some v ∧ Dat C H v d := by
  have hl := h.length
  have : i < vs.length := by rw [hl]; exact (List.getElem?_eq_some_iff.mp e).1
  obtain ⟨d', h1, h2⟩ := h.get (List.getElem?_eq_getElem this)
  rw [e] at h1; cases h1
  exact ⟨_, List.getElem?_eq_getElem this, h2⟩
theorem Dats.append {vs us : List V} {ds es : List D} (h : Dats C H vs ds) (k : Dats C H us es) : Dats C H (vs ++ us) (ds ++ es) := by
  induction vs generalizing ds with
  | nil => cases h; exact k
  | cons v vs ih => cases h with | cons h hs => exact .cons h (ih hs)
theorem Dats.take {vs : List V} {ds : List D} (n : Nat) (h : Dats C H vs ds) : Dats C H (vs.take n) (ds.take n) := by
  induction vs generalizing ds n with
  | nil => cases h; simp; exact .nil
  | cons v vs ih =>
    cases h with
    | cons h hs =>
      cases n with
      | zero => exact .nil
      | succ n => exact .cons h (ih n hs)
theorem Dats.drop {vs : List V} {ds : List D} (n : Nat) (h : Dats C H vs ds) : Dats C H (vs.drop n) (ds.drop n) := by
  induction vs generalizing ds n with
  | nil => cases h; simp; exact .nil
  | cons v vs ih =>
    cases h with
    | cons h hs =>
      cases n with
      | zero => exact .cons h hs
      | succ n => exact ih n hs
theorem Dats.of_get {vs : List V} {ds : List D} (hl : vs.length = ds.length) (h : ∀ (i : Nat) (v : V) (d : D), vs[i]? = some v → ds[i]? = some d → Dat C H v d) : Dats C H vs ds := by
  induction vs generalizing ds with
  | nil => cases ds with | nil => exact .nil | cons _ _ => simp at hl
  | cons v vs ih =>
    cases ds with
    | nil => simp at hl
    | cons d ds =>
      exact .cons (h 0 v d rfl rfl) (ih (by simpa using hl) fun i v' d' h1 h2 => h (i + 1) v' d' (by simpa using h1) (by simpa using h2))
theorem Dats.ints {ns : List Int} : Dats C H (ns.map V.int) (ns.map D.int) := by
  induction ns with
  | nil => exact .nil
  | cons n ns ih => exact .cons (.int n) ih
theorem Dats.strs {xs : List (List Nat)} : Dats C H (xs.map sv) (xs.map D.str) := by
  induction xs with
  | nil => exact .nil
  | cons n ns ih => exact .cons (.str n) ih
end
/-! ### a heap with a hidden part -/
noncomputable def hid (H : Hp) (Z : Addr → Prop) : Hp := fun a => open Classical in if Z a then none else H a
section
variable {H H' : Hp} {Z Z' : Addr → Prop} {a : Addr} {o : HO}
theorem hid_some : hid H Z a = some o ↔ ¬ Z a ∧ H a = some o := by
  unfold hid
  by_cases h : Z a
  · simp [h]
  · simp [h]
theorem hid_out (h : ¬ Z a) : hid H Z a = H a := by unfold hid; simp [h]
theorem hid_in (h : Z a) : hid H Z a = none := by unfold hid; simp [h]
theorem hid_sub : Same (hid H Z) H := fun b o h => (hid_some.mp h).2
theorem hid_mono (e : Same H H') (k : ∀ a o, H a = some o → Z' a → Z a) : Same (hid H Z) (hid H' Z') := fun b o h => by
  obtain ⟨h1, h2⟩ := hid_some.mp h
  exact hid_some.mpr ⟨fun z => h1 (k b o h2 z), e b o h2⟩
theorem hid_upd (h : Z a) : hid (upd H a o) Z = hid H Z := by
  funext b
  unfold hid
  by_cases hb : Z b
  · simp [hb]
  · have : b ≠ a := fun e => hb (e ▸ h)
    simp [hb, upd_ne this]
theorem Same.upd {p : Addr} (h : H p = none) : Same H (upd H p o) := fun b u e => by
  rw [upd_ne (ne_of_none e h)]; exact e
end
/-! ### owned trees -/
inductive T where
  | sh (d : D)
  | lst (ts : List T) | tup (ts : List T)
  | ins (c : Str) (ns : List Str) (ts : List T) | dic (ks : List Key) (ts : List T)
  deriving Inhabited
mutual
@[simp] def T.d : T → D
  | .sh d => d
  | .lst ts => .lst (T.ds ts)
  | .tup ts => .tup (T.ds ts)
  | .ins c ns ts => .ins c ns (T.ds ts)
  | .dic ks ts => .dic ks (T.ds ts)
@[simp] def T.ds : List T → List D
  | [] => []
  | t :: ts => t.d :: T.ds ts
end
theorem T.ds_eq : ∀ ts : List T, T.ds ts = ts.map T.d
  | [] => rfl
  | t :: ts => by rw [T.ds, T.ds_eq ts]; rfl
theorem T.ds_sh (ds : List D) : T.ds (ds.map T.sh) = ds := by
  rw [T.ds_eq, List.map_map]
  have : T.d ∘ T.sh = id := rfl
  rw [this, List.map_id]
theorem T.ds_append (a b : List T) : T.ds (a ++ b) = T.ds a ++ T.ds b := by rw [T.ds_eq, T.ds_eq, T.ds_eq, List.map_append]
mutual
inductive Own (C : Cfg) (F H : Hp) : V → T → List Addr → Prop
  | sh {v : V} {d : D} : Dat C F v d → Own C F H v (.sh d) []
  | lst {a : Addr} {vs : List V} {ts : List T} {As : List Addr} : H a = some (.lst vs) → Owns C F H vs ts As → Own C F H (.ref a) (.lst ts) (a :: As)
  | tup {a : Addr} {vs : List V} {ts : List T} {As : List Addr} : F a = some (.tup vs) → Owns C F H vs ts As → Own C F H (.ref a) (.tup ts) As
  | ins {a A dx : Addr} {c : Str} {ns : List Str} {vs : List V} {ts : List T} {As : List Addr} : H a = some (.ins A dx (ns.zip vs)) → C.mg c = some (.ref A) → Owns C F H vs ts As → ns.length = ts.length → Own C F H (.ref a) (.ins c ns ts) (a :: As)
  | dic {a : Addr} {ks : List Key} {vs : List V} {ts : List T} {As : List Addr} : H a = some (.dK (ks.zip vs)) → Owns C F H vs ts As → ks.length = ts.length → Own C F H (.ref a) (.dic ks ts) (a :: As)
inductive Owns (C : Cfg) (F H : Hp) : List V → List T → List Addr → Prop
  | nil : Owns C F H [] [] []
  | cons {v : V} {vs : List V} {t : T} {ts : List T} {As Bs : List Addr} : Own C F H v t As → Owns C F H vs ts Bs → Owns C F H (v :: vs) (t :: ts) (As ++ Bs)
end
section
variable {C : Cfg} {F F' H H' : Hp}
mutual
theorem Own.mono (e : Same F F') : ∀ {v : V} {t : T} {As : List Addr}, (∀ a, a ∈ As → H' a = H a) → Own C F H v t As → Own C F' H' v t As
  | _, _, _, _, .sh h => .sh (h.mono e)
  | _, _, _, k, .lst h hs => .lst ((k _ (List.mem_cons_self ..)).trans h) (Owns.mono e (fun a m => k a (List.mem_cons_of_mem _ m)) hs)
  | _, _, _, k, .tup h hs => .tup (e _ _ h) (Owns.mono e k hs)
  | _, _, _, k, .ins h hm hs hl => .ins ((k _ (List.mem_cons_self ..)).trans h) hm (Owns.mono e (fun a m => k a (List.mem_cons_of_mem _ m)) hs) hl
  | _, _, _, k, .dic h hs hl => .dic ((k _ (List.mem_cons_self ..)).trans h) (Owns.mono e (fun a m => k a (List.mem_cons_of_mem _ m)) hs) hl
theorem Owns.mono (e : Same F F') : ∀ {vs : List V} {ts : List T} {As : List Addr}, (∀ a, a ∈ As → H' a = H a) → Owns C F H vs ts As → Owns C F' H' vs ts As
  | _, _, _, _, .nil => .nil
  | _, _, _, k, .cons h hs => .cons (Own.mono e (fun a m => k a (List.mem_append_left _ m)) h) (Owns.mono e (fun a m => k a (List.mem_append_right _ m)) hs)
end
mutual
theorem Own.dat (e : Same F H') : ∀ {v : V} {t : T} {As : List Addr}, (∀ a o, a ∈ As → H a = some o → H' a = some o) → Own C F H v t As → Dat C H' v t.d
  | _, _, _, _, .sh h => h.mono e
  | _, _, _, k, .lst h hs => .lst (k _ _ (List.mem_cons_self ..) h) (Owns.dat e (fun a o m => k a o (List.mem_cons_of_mem _ m)) hs)
  | _, _, _, k, .tup h hs => .tup (e _ _ h) (Owns.dat e k hs)
  | _, _, _, k, .ins h hm hs hl => .ins (k _ _ (List.mem_cons_self ..) h) hm (Owns.dat e (fun a o m => k a o (List.mem_cons_of_mem _ m)) hs) (by rw [hl, T.ds_eq, List.length_map])
  | _, _, _, k, .dic h hs hl => .dic (k _ _ (List.mem_cons_self ..) h) (Owns.dat e (fun a o m => k a o (List.mem_cons_of_mem _ m)) hs) (by rw [hl, T.ds_eq, List.length_map])
theorem Owns.dat (e : Same F H') : ∀ {vs : List V} {ts : List T} {As : List Addr}, (∀ a o, a ∈ As → H a = some o → H' a = some o) → Owns C F H vs ts As → Dats C H' vs (T.ds ts)
  | _, _, _, _, .nil => .nil
  | _, _, _, k, .cons h hs => .cons (Own.dat e (fun a o m => k a o (List.mem_append_left _ m)) h) (Owns.dat e (fun a o m => k a o (List.mem_append_right _ m)) hs)
end
mutual
theorem Own.live : ∀ {v : V} {t : T} {As : List Addr}, Own C F H v t As → ∀ a, a ∈ As → ∃ o, H a = some o
  | _, _, _, .sh _, _, m => by cases m
  | _, _, _, .lst h hs, a, m => by
    rcases List.mem_cons.mp m with rfl | m
    · exact ⟨_, h⟩
    · exact Owns.live hs a m
  | _, _, _, .tup h hs, a, m => Owns.live hs a m
  | _, _, _, .ins h _ hs _, a, m => by
    rcases List.mem_cons.mp m with rfl | m
    · exact ⟨_, h⟩
    · exact Owns.live hs a m
  | _, _, _, .dic h hs _, a, m => by
    rcases List.mem_cons.mp m with rfl | m
    · exact ⟨_, h⟩
    · exact Owns.live hs a m
theorem Owns.live : ∀ {vs : List V} {ts : List T} {As : List Addr}, Owns C F H vs ts As → ∀ a, a ∈ As → ∃ o, H a = some o
  | _, _, _, .nil, _, m => by cases m
  | _, _, _, .cons h hs, a, m => by
    rcases List.mem_append.mp m with m | m
    · exact Own.live h a m
    · exact Owns.live hs a m
end
theorem Owns.length {vs : List V} {ts : List T} {As : List Addr} (h : Owns C F H vs ts As) : vs.length = ts.length := by
  induction vs generalizing ts As with
  | nil => cases h; rfl
  | cons v vs ih => cases h with | cons h hs => simp [ih hs]
theorem Owns.shs {vs : List V} {ds : List D} (h : Dats C F vs ds) : Owns C F H vs (ds.map T.sh) [] := by
  induction vs generalizing ds with
  | nil => cases h; exact .nil
  | cons v vs ih => cases h with | cons h hs => exact .cons (As := []) (.sh h) (ih hs)
theorem Owns.append {vs us : List V} {ts ss : List T} {As Bs : List Addr} (h : Owns C F H vs ts As) (k : Owns C F H us ss Bs) : Owns C F H (vs ++ us) (ts ++ ss) (As ++ Bs) := by
  induction vs generalizing ts As with
  | nil => cases h; exact k
  | cons v vs ih =>
    cases h with
    | cons h hs =>
      rw [List.append_assoc]
      exact .cons h (ih hs)
end
end Eng
/-! Eng B: slots, what an evaluation leaves, promises of pure operations. -/
namespace Eng
open PySem L2
/-- no tuple: what may be hidden -/
def nTup (H : Hp) (a : Addr) : Prop := ∃ o, H a = some o ∧ ∀ xs, o ≠ .tup xs
theorem nTup.mono {H H' : Hp} {a : Addr} (e : Same H H') (h : nTup H a) : nTup H' a := let ⟨o, h1, h2⟩ := h; ⟨o, e _ _ h1, h2⟩
mutual
def noL : D → Bool
  | .non | .bl _ | .int _ | .str _ => true
  | .tup xs => noLs xs
  | .lst _ | .scr _ | .ins .. | .dic .. => false
def noLs : List D → Bool
  | [] => true
  | x :: xs => noL x && noLs xs
end
section
variable {C : Cfg} {H : Hp} {Z : Addr → Prop}
mutual
theorem Dat.hide (z : ∀ a, Z a → nTup H a) : ∀ {v : V} {d : D}, noL d = true → Dat C H v d → Dat C (hid H Z) v d
  | _, _, _, .non => .non
  | _, _, _, .bl b => .bl b
  | _, _, _, .int i => .int i
  | _, _, _, .str s => .str s
  | _, _, n, .scr h => by cases n
  | _, _, n, .lst h hs => by cases n
  | _, _, n, .tup h hs => .tup (hid_some.mpr ⟨fun q => by obtain ⟨o, h1, h2⟩ := z _ q; rw [h] at h1; cases h1; exact h2 _ rfl, h⟩) (Dats.hide z n hs)
  | _, _, n, .ins h hm hs hl => by cases n
  | _, _, n, .dic h hs hl => by cases n
theorem Dats.hide (z : ∀ a, Z a → nTup H a) : ∀ {vs : List V} {ds : List D}, noLs ds = true → Dats C H vs ds → Dats C (hid H Z) vs ds
  | _, _, _, .nil => .nil
  | _, _, n, .cons h hs => by
    have n' := Bool.and_eq_true_iff.mp n
    exact .cons (Dat.hide z n'.1 h) (Dats.hide z n'.2 hs)
end
end
/-! ### what an evaluation leaves -/
def Zp (Z : Addr → Prop) (As : List Addr) : Addr → Prop := fun a => Z a ∨ a ∈ As
structure Post (C : Cfg) (Z : Addr → Prop) (H : Hp) (t : T) (al : Bool) (As : List Addr) (v : V) (H' : Hp) : Prop where
  same : Same H H'
  nd : As.Nodup
  new : ∀ a, a ∈ As → H a = none ∧ nTup H' a
  dat : Dat C H' v t.d
  own : al = true → Own C (hid H' (Zp Z As)) H' v t As
structure Posts (C : Cfg) (Z : Addr → Prop) (H : Hp) (ts : List T) (al : Bool) (As : List Addr) (vs : List V) (H' : Hp) : Prop where
  same : Same H H'
  nd : As.Nodup
  new : ∀ a, a ∈ As → H a = none ∧ nTup H' a
  dat : Dats C H' vs (T.ds ts)
  own : al = true → Owns C (hid H' (Zp Z As)) H' vs ts As
section
variable {C : Cfg} {H H0 H1 H2 H' : Hp} {Z Z' : Addr → Prop} {t : T} {ts : List T} {al al' : Bool} {v : V} {vs : List V} {d : D} {ds : List D} {As Bs : List Addr}
theorem Zp_nil : Zp Z [] = Z := by funext a; simp [Zp]
theorem Zp_app : Zp (Zp Z As) Bs = Zp Z (As ++ Bs) := by funext a; simp [Zp, or_assoc]
theorem Post.back (e : Same H0 H) (h : Post C Z H t al As v H') : Post C Z H0 t al As v H' :=
  ⟨e.trans h.same, h.nd, fun a m => ⟨e.free (h.new a m).1, (h.new a m).2⟩, h.dat, h.own⟩
theorem Posts.back (e : Same H0 H) (h : Posts C Z H ts al As vs H') : Posts C Z H0 ts al As vs H' :=
  ⟨e.trans h.same, h.nd, fun a m => ⟨e.free (h.new a m).1, (h.new a m).2⟩, h.dat, h.own⟩
theorem Post.weak (h : Post C Z H t al As v H') (k : al' = true → al = true) : Post C Z H t al' As v H' := ⟨h.same, h.nd, h.new, h.dat, fun a => h.own (k a)⟩
theorem Post.sh (h : Dat C H v d) (k : al = true → Dat C (hid H Z) v d) : Post C Z H (.sh d) al [] v H :=
  ⟨Same.refl H, List.nodup_nil, (fun _ m => by cases m), h, fun a => by rw [Zp_nil]; exact .sh (k a)⟩
theorem Post.sh' (e : Same H H') (h : Dat C H' v d) (k : al = true → Dat C (hid H' Z) v d) : Post C Z H (.sh d) al [] v H' := (Post.sh h k).back e
/-- a result without lists -/
theorem Post.no (z : ∀ a, Z a → nTup H a) (h : Dat C H v d) (n : noL d = true) : Post C Z H (.sh d) al [] v H := Post.sh h fun _ => h.hide z n
/-- owned parts, let go -/
theorem own_dat {As : List Addr} (hn : ∀ a, a ∈ As → ¬ Z a) (o : Own C (hid H' (Zp Z As)) H' v t As) : Dat C (hid H' Z) v t.d :=
  o.dat (hid_mono (Same.refl _) fun b o _ q => .inl q) fun b o m e => hid_some.mpr ⟨hn b m, e⟩
theorem owns_dat {As : List Addr} (hn : ∀ a, a ∈ As → ¬ Z a) (o : Owns C (hid H' (Zp Z As)) H' vs ts As) : Dats C (hid H' Z) vs (T.ds ts) :=
  o.dat (hid_mono (Same.refl _) fun b o _ q => .inl q) fun b o m e => hid_some.mpr ⟨hn b m, e⟩
theorem Post.nZ (z : ∀ a, Z a → nTup H a) (h : Post C Z H t al As v H') : ∀ a, a ∈ As → ¬ Z a := fun a m q => by
  obtain ⟨o, h1, _⟩ := z a q
  rw [(h.new a m).1] at h1; cases h1
theorem Posts.nZ (z : ∀ a, Z a → nTup H a) (h : Posts C Z H ts al As vs H') : ∀ a, a ∈ As → ¬ Z a := fun a m q => by
  obtain ⟨o, h1, _⟩ := z a q
  rw [(h.new a m).1] at h1; cases h1
theorem Post.dh (z : ∀ a, Z a → nTup H a) (h : Post C Z H t al As v H') (a : al = true) : Dat C (hid H' Z) v t.d := own_dat (h.nZ z) (h.own a)
theorem Post.frz (z : ∀ a, Z a → nTup H a) (h : Post C Z H t al As v H') : Post C Z H (.sh t.d) al [] v H' := Post.sh' h.same h.dat fun a => h.dh z a
theorem Posts.dh (z : ∀ a, Z a → nTup H a) (h : Posts C Z H ts al As vs H') (a : al = true) : Dats C (hid H' Z) vs (T.ds ts) := owns_dat (h.nZ z) (h.own a)
theorem Posts.nil : Posts C Z H [] al [] [] H := ⟨Same.refl H, List.nodup_nil, (fun _ m => by cases m), .nil, fun _ => .nil⟩
theorem Zp_tup (z : ∀ a, Z a → nTup H a) (e : Same H H') (k : ∀ a, a ∈ As → nTup H' a) : ∀ a, Zp Z As a → nTup H' a := fun a q => q.elim (fun q => (z a q).mono e) (k a)
theorem own_step (hB : ∀ a, a ∈ Bs → H1 a = none) (e : Same H1 H2) (o : Own C (hid H1 (Zp Z As)) H1 v t As) : Own C (hid H2 (Zp Z (As ++ Bs))) H2 v t As := by
  refine o.mono (hid_mono e fun a o h q => ?_) fun a m => ?_
  · rcases q with q | q
    · exact .inl q
    · rcases List.mem_append.mp q with q | q
      · exact .inr q
      · rw [hB a q] at h; cases h
  · obtain ⟨o, h⟩ := o.live a m
    rw [h, e _ _ h]
theorem Posts.cons (h : Post C Z H t al As v H1) (k : Posts C (Zp Z As) H1 ts al' Bs vs H2) : Posts C Z H (t :: ts) (al && al') (As ++ Bs) (v :: vs) H2 := by
  refine ⟨h.same.trans k.same, List.nodup_append.mpr ⟨h.nd, k.nd, fun x hx y hy e => ?_⟩, fun a m => ?_, .cons (h.dat.mono k.same) k.dat, fun a => ?_⟩
  · subst e
    obtain ⟨o, q, _⟩ := (h.new x hx).2
    rw [(k.new x hy).1] at q; cases q
  · rcases List.mem_append.mp m with m | m
    · exact ⟨(h.new a m).1, (h.new a m).2.mono k.same⟩
    · exact ⟨h.same.free (k.new a m).1, (k.new a m).2⟩
  · have a := Bool.and_eq_true_iff.mp a
    have k2 := k.own a.2
    rw [Zp_app] at k2
    exact .cons (own_step (fun a m => (k.new a m).1) k.same (h.own a.1)) k2
theorem fresh_nd {p : Addr} (hp : H p = none) : ∀ a, a ∈ [p] → H a = none := fun a m => by
  have : a = p := by simpa using m
  rw [this]; exact hp
/-- a new list, a new tuple of what was reckoned -/
theorem Posts.newL (h : Posts C Z H ts al As vs H1) {p : Addr} (hp : H1 p = none) : Post C Z H (.lst ts) al (p :: As) (.ref p) (upd H1 p (.lst vs)) := by
  have e : Same H1 (upd H1 p (.lst vs)) := Same.upd hp
  have nA : p ∉ As := fun m => by obtain ⟨o, q, _⟩ := (h.new p m).2; rw [hp] at q; cases q
  refine ⟨h.same.trans e, List.nodup_cons.mpr ⟨nA, h.nd⟩, fun a m => ?_, .lst upd_same (h.dat.mono e), fun a => .lst upd_same ?_⟩
  · rcases List.mem_cons.mp m with rfl | m
    · exact ⟨h.same.free hp, _, upd_same, fun _ q => nomatch q⟩
    · exact ⟨(h.new a m).1, (h.new a m).2.mono e⟩
  · refine (h.own a).mono (hid_mono e fun b o q z => ?_) fun b m => upd_ne fun q => nA (q ▸ m)
    rcases z with z | z
    · exact .inl z
    · rcases List.mem_cons.mp z with rfl | z
      · rw [hp] at q; cases q
      · exact .inr z
theorem Posts.newT (z : ∀ a, Z a → nTup H a) (h : Posts C Z H ts al As vs H1) {p : Addr} (hp : H1 p = none) : Post C Z H (.tup ts) al As (.ref p) (upd H1 p (.tup vs)) := by
  have e : Same H1 (upd H1 p (.tup vs)) := Same.upd hp
  have nA : p ∉ As := fun m => by obtain ⟨o, q, _⟩ := (h.new p m).2; rw [hp] at q; cases q
  refine ⟨h.same.trans e, h.nd, fun a m => ⟨(h.new a m).1, (h.new a m).2.mono e⟩, .tup upd_same (h.dat.mono e), fun a => .tup (hid_some.mpr ⟨fun q => ?_, upd_same⟩) ?_⟩
  · rcases q with q | q
    · obtain ⟨o, q1, _⟩ := (z p q).mono h.same; rw [hp] at q1; cases q1
    · exact nA q
  · exact (h.own a).mono (hid_mono e fun b o _ z => z) fun b m => upd_ne fun q => nA (q ▸ m)
/-- a new list of shared data -/
theorem Post.newS (h : Dats C H vs ds) (k : al = true → Dats C (hid H Z) vs ds) {p : Addr} (hp : H p = none) : Post C Z H (.lst (ds.map .sh)) al [p] (.ref p) (upd H p (.lst vs)) := by
  have e : Same H (upd H p (.lst vs)) := Same.upd hp
  refine ⟨e, by simp, fun a m => ?_, .lst upd_same (by rw [T.ds_sh]; exact h.mono e), fun a => .lst upd_same (Owns.shs ((k a).mono (hid_mono e fun b o q z => ?_)))⟩
  · have : a = p := by simpa using m
    subst this
    exact ⟨hp, _, upd_same, fun _ q => nomatch q⟩
  · rcases z with z | z
    · exact z
    · have : b = p := by simpa using z
      subst this
      rw [hp] at q; cases q
/-- a new tuple of shared data -/
theorem Post.newU (z : ∀ a, Z a → nTup H a) (h : Dats C H vs ds) (k : al = true → Dats C (hid H Z) vs ds) {p : Addr} (hp : H p = none) : Post C Z H (.sh (.tup ds)) al [] (.ref p) (upd H p (.tup vs)) := by
  have e : Same H (upd H p (.tup vs)) := Same.upd hp
  refine Post.sh' e (.tup upd_same (h.mono e)) fun a => .tup (hid_some.mpr ⟨fun q => ?_, upd_same⟩) ((k a).mono (hid_mono e fun b o _ z => z))
  obtain ⟨o, q1, _⟩ := z p q; rw [hp] at q1; cases q1
end
/-! ### the promise of a pure operation -/
def rP (C : Cfg) (f : List D → Option T) : List V → Hp → VK → Prop := fun vs H Q => ∃ (ds : List D) (t : T) (Z : Addr → Prop) (al : Bool), Dats C H vs ds ∧ (al = true → Dats C (hid H Z) vs ds) ∧ (∀ a, Z a → nTup H a) ∧ f ds = some t ∧
  ∀ As v H', Post C Z H t al As v H' → Q v H'
def pureSp (C : Cfg) (F : List D → Option T) : Sp := fun vs H Q _ => rP C F vs H Q
theorem rP.imp {C : Cfg} {f g : List D → Option T} {vs : List V} {H : Hp} {Q : VK} (k : ∀ ds t, f ds = some t → g ds = some t) (h : rP C f vs H Q) : rP C g vs H Q := by
  obtain ⟨ds, t, Z, al, h1, h2, h3, h4, h5⟩ := h
  exact ⟨ds, t, Z, al, h1, h2, h3, k ds t h4, h5⟩
/-! ### slots -/
abbrev Rho := List (Option T)
def ZZ (B : Addr → Prop) (AA : Nat → List Addr) : Addr → Prop := fun a => B a ∨ ∃ i, a ∈ AA i
structure Rep (C : Cfg) (H0 : Hp) (B : Addr → Prop) (AA : Nat → List Addr) (H : Hp) (σ : L2.St) (ρ : Rho) : Prop where
  same : Same H0 H
  bs : ∀ a, B a → nTup H a
  new : ∀ i a, a ∈ AA i → H0 a = none ∧ nTup H a ∧ ¬ B a
  nd : ∀ i, (AA i).Nodup
  dj : ∀ i j a, a ∈ AA i → a ∈ AA j → i = j
  slot : ∀ i t, ρ[i]? = some (some t) → ∃ v, σ[i]? = some (some v) ∧ Own C (hid H (ZZ B AA)) H v t (AA i)
  len : ρ.length = σ.length
section
variable {C : Cfg} {H0 H H' : Hp} {B : Addr → Prop} {AA : Nat → List Addr} {σ : L2.St} {ρ : Rho} {As : List Addr}
theorem Rep.z (R : Rep C H0 B AA H σ ρ) : ∀ a, ZZ B AA a → nTup H a := fun a q => q.elim (R.bs a) fun ⟨i, m⟩ => (R.new i a m).2.1
/-- the heap grows; some new nodes are hidden -/
theorem Rep.grow (R : Rep C H0 B AA H σ ρ) (e : Same H H') (k : ∀ a, a ∈ As → H a = none ∧ nTup H' a) : Rep C H0 (Zp B As) AA H' σ ρ := by
  refine ⟨R.same.trans e, fun a q => q.elim (fun q => (R.bs a q).mono e) fun m => (k a m).2, fun i a m => ⟨(R.new i a m).1, (R.new i a m).2.1.mono e, fun q => ?_⟩, R.nd, R.dj, fun i t h => ?_, R.len⟩
  · rcases q with q | q
    · exact (R.new i a m).2.2 q
    · obtain ⟨o, h, _⟩ := (R.new i a m).2.1
      rw [(k a q).1] at h; cases h
  · obtain ⟨v, h1, h2⟩ := R.slot i t h
    refine ⟨v, h1, h2.mono (hid_mono e fun a o h q => ?_) fun a m => ?_⟩
    · rcases q with (q | q) | q
      · exact .inl q
      · rw [(k a q).1] at h; cases h
      · exact .inr q
    · obtain ⟨o, h⟩ := h2.live a m
      rw [h, e _ _ h]
theorem ZZ_Zp : ZZ (Zp B As) AA = Zp (ZZ B AA) As := by
  funext a
  simp only [ZZ, Zp, eq_iff_iff]
  constructor
  · rintro ((h | h) | h)
    · exact .inl (.inl h)
    · exact .inr h
    · exact .inl (.inr h)
  · rintro ((h | h) | h)
    · exact .inl (.inl h)
    · exact .inr h
    · exact .inl (.inr h)
theorem Rep.mono (R : Rep C H0 B AA H σ ρ) (e : Same H H') : Rep C H0 B AA H' σ ρ := by
  have := R.grow (As := []) e fun _ m => by cases m
  rwa [Zp_nil] at this
end
end Eng
/-! Eng C: the pure operations and their rules. -/
namespace Eng
open PySem L2
abbrev SZ : Nat := 16777216
theorem sz_eq : sizeLine = SZ := by decide
abbrev st (s : List Nat) : Str := ⟨s.toArray⟩
theorem st_len (s : List Nat) : (st s).length = s.length := TL.len_tl _
theorem st_app (a b : List Nat) : st a ++ st b = st (a ++ b) := TL.ext_tl (by rw [TL.tl_append])
theorem st_tl (x : Str) : st (TL.tl x) = x := TL.mk_tl x
theorem st_inj {a b : List Nat} (h : st a = st b) : a = b := by
  exact congrArg TL.tl h
abbrev txt (x : Str) : D := .str x.cps.toList
theorem Dat.txt {C : Cfg} {H : Hp} (x : Str) : Dat C H (.str x) (txt x) := by
  have := Dat.str (C := C) (H := H) x.cps.toList
  have e : sv x.cps.toList = V.str x := congrArg V.str (st_tl x)
  rwa [e] at this
section
variable {C : Cfg} {H : Hp} {v x y z : V} {vs : List V} {ds : List D} {d : D}
theorem Dats.one (h : Dats C H [x] ds) : ∃ d, ds = [d] ∧ Dat C H x d := by
  cases h with | cons h hs => cases hs; exact ⟨_, rfl, h⟩
theorem Dats.two (h : Dats C H [x, y] ds) : ∃ d e, ds = [d, e] ∧ Dat C H x d ∧ Dat C H y e := by
  cases h with | cons h hs => obtain ⟨e, rfl, k⟩ := hs.one; exact ⟨_, _, rfl, h, k⟩
theorem Dats.three (h : Dats C H [x, y, z] ds) : ∃ d e f, ds = [d, e, f] ∧ Dat C H x d ∧ Dat C H y e ∧ Dat C H z f := by
  cases h with | cons h hs => obtain ⟨e, f, rfl, k⟩ := hs.two; exact ⟨_, _, _, rfl, h, k⟩
theorem Dat.vint {i : Int} (h : Dat C H v (.int i)) : v = .int i := by cases h; rfl
theorem Dat.vbl {b : Bool} (h : Dat C H v (.bl b)) : v = .bl b := by cases h; rfl
theorem Dat.vstr {s : List Nat} (h : Dat C H v (.str s)) : v = sv s := by cases h; rfl
theorem Dat.vnon (h : Dat C H v .non) : v = .non := by cases h; rfl
end
/-! ### one tool: a rule by cases of the data -/
@[simp] def sc (d : D) : Option T := some (.sh d)
def iff (c : Prop) [Decidable c] (t : Option T) : Option T := if c then t else none
theorem iff_some {c : Prop} [Decidable c] {t : Option T} {u : T} (h : iff c t = some u) : c ∧ t = some u := by
  unfold iff at h
  split at h
  · exact ⟨by assumption, h⟩
  · cases h
theorem iff_pos {c : Prop} [Decidable c] {t : Option T} (h : c) : iff c t = t := by unfold iff; rw [if_pos h]
def strEq : List D → Option (List (List Nat))
  | [] => some []
  | .str s :: r => (strEq r).map (s :: ·)
  | _ => none
def intsOf : List D → Option (List Int)
  | [] => some []
  | .int s :: r => (intsOf r).map (s :: ·)
  | _ => none
def blsOf : List D → Option (List Bool)
  | [] => some []
  | .bl s :: r => (blsOf r).map (s :: ·)
  | _ => none
theorem strEq_map : ∀ xs : List (List Nat), strEq (xs.map .str) = some xs
  | [] => rfl
  | x :: xs => by show (strEq (xs.map .str)).map _ = _; rw [strEq_map xs]; rfl
theorem intsOf_map : ∀ xs : List Int, intsOf (xs.map .int) = some xs
  | [] => rfl
  | x :: xs => by show (intsOf (xs.map .int)).map _ = _; rw [intsOf_map xs]; rfl
theorem blsOf_map : ∀ xs : List Bool, blsOf (xs.map .bl) = some xs
  | [] => rfl
  | x :: xs => by show (blsOf (xs.map .bl)).map _ = _; rw [blsOf_map xs]; rfl
theorem strEq_vals {C : Cfg} {H : Hp} : ∀ {ds : List D} {vs : List V} {ss : List (List Nat)}, Dats C H vs ds → strEq ds = some ss → vs = (ss.map st).map V.str
  | [], _, _, .nil, e => by cases e; rfl
  | .str s :: r, _, ss, .cons h hs, e => by
    rw [h.vstr]
    unfold strEq at e
    cases q : strEq r with
    | none => rw [q] at e; cases e
    | some u => rw [q] at e; cases e; rw [strEq_vals hs q]; rfl
theorem intsOf_vals {C : Cfg} {H : Hp} : ∀ {ds : List D} {vs : List V} {ss : List Int}, Dats C H vs ds → intsOf ds = some ss → vs = ss.map V.int
  | [], _, _, .nil, e => by cases e; rfl
  | .int s :: r, _, ss, .cons h hs, e => by
    rw [h.vint]
    unfold intsOf at e
    cases q : intsOf r with
    | none => rw [q] at e; cases e
    | some u => rw [q] at e; cases e; rw [intsOf_vals hs q]; rfl
theorem blsOf_vals {C : Cfg} {H : Hp} : ∀ {ds : List D} {vs : List V} {ss : List Bool}, Dats C H vs ds → blsOf ds = some ss → vs = ss.map V.bl
  | [], _, _, .nil, e => by cases e; rfl
  | .bl s :: r, _, ss, .cons h hs, e => by
    rw [h.vbl]
    unfold blsOf at e
    cases q : blsOf r with
    | none => rw [q] at e; cases e
    | some u => rw [q] at e; cases e; rw [blsOf_vals hs q]; rfl
/-! ### data for == -/
mutual
def toPy : D → Option PyData
  | .non => some .none
  | .bl b => some (.bool b)
  | .int i => some (.int i)
  | .str s => some (.str (st s))
  | .lst xs => (toPys xs).map .list
  | .tup xs => (toPys xs).map .tuple
  | .scr ns => some (.list (ns.map .int))
  | .ins .. | .dic .. => none
def toPys : List D → Option (List PyData)
  | [] => some []
  | x :: xs => (toPy x).bind fun p => (toPys xs).map (p :: ·)
end
section
variable {C : Cfg} {H : Hp}
theorem dp_ints {K : PySem.W.Frag} : ∀ ns : List Int, DpAll K H (ns.map V.int) (ns.map PyData.int)
  | [] => .nil
  | n :: ns => .cons (.int n) (dp_ints ns)
mutual
theorem Dat.dp : ∀ {v : V} {d : D} {p : PyData}, Dat C H v d → toPy d = some p → Dp C.K H v p
  | _, _, _, .non, e => by cases e; exact .non
  | _, _, _, .bl b, e => by cases e; exact .bl b
  | _, _, _, .int i, e => by cases e; exact .int i
  | _, _, _, .str s, e => by cases e; exact .str _
  | _, _, _, .scr h, e => by cases e; exact .lst h (dp_ints _)
  | _, .lst ds, _, .lst h hs, e => by
    unfold toPy at e
    cases q : toPys ds with
    | none => rw [q] at e; cases e
    | some ps => rw [q] at e; cases e; exact .lst (SqL.of h) (Dats.dp hs q)
  | _, .tup ds, _, .tup h hs, e => by
    unfold toPy at e
    cases q : toPys ds with
    | none => rw [q] at e; cases e
    | some ps => rw [q] at e; cases e; exact .tup (SqT.of h) (Dats.dp hs q)
  | _, _, _, .ins h hm hs hl, e => by cases e
  | _, _, _, .dic h hs hl, e => by cases e
theorem Dats.dp : ∀ {vs : List V} {ds : List D} {ps : List PyData}, Dats C H vs ds → toPys ds = some ps → DpAll C.K H vs ps
  | _, _, _, .nil, e => by cases e; exact .nil
  | _, d :: ds, _, .cons h hs, e => by
    unfold toPys at e
    cases q : toPy d with
    | none => rw [q] at e; cases e
    | some p =>
      rw [q] at e
      cases q2 : toPys ds with
      | none => rw [q2] at e; cases e
      | some ps => rw [q2] at e; cases e; exact .cons (Dat.dp h q) (Dats.dp hs q2)
end
end
/-- == of data; none where the model says nothing -/
def eqD (a b : D) : Option Bool := (toPy a).bind fun p => (toPy b).bind fun q => if SeqAt.shaped p = true ∧ SeqAt.shaped q = true then some (PyData.eqv p q) else none
/-! ### operators -/
def i2 (f : Int → Int → Option T) : List D → Option T := fun xs => match xs with | [.int i, .int j] => f i j | _ => none
def s2 (f : List Nat → List Nat → Option T) : List D → Option T := fun xs => match xs with | [.str i, .str j] => f i j | _ => none
def l2 (f : List D → List D → Option T) : List D → Option T := fun xs => match xs with | [.lst i, .lst j] => f i j | _ => none
def si (f : List Nat → Int → Option T) : List D → Option T := fun xs => match xs with | [.str i, .int j] => f i j | _ => none
def li (f : List D → Int → Option T) : List D → Option T := fun xs => match xs with | [.lst i, .int j] => f i j | _ => none
def i1 (f : Int → Option T) : List D → Option T := fun xs => match xs with | [.int i] => f i | _ => none
def b1 (f : Bool → Option T) : List D → Option T := fun xs => match xs with | [.bl i] => f i | _ => none
def s1 (f : List Nat → Option T) : List D → Option T := fun xs => match xs with | [.str i] => f i | _ => none
def orE (f g : List D → Option T) : List D → Option T := fun xs => match f xs with | some t => some t | none => g xs
section
variable {f : Int → Int → Option T} {xs : List D} {t : T}
theorem i2_inv (h : i2 f xs = some t) : ∃ i j, xs = [.int i, .int j] ∧ f i j = some t := by
  unfold i2 at h; split at h
  · exact ⟨_, _, rfl, h⟩
  · cases h
theorem s2_inv {f : List Nat → List Nat → Option T} (h : s2 f xs = some t) : ∃ i j, xs = [.str i, .str j] ∧ f i j = some t := by
  unfold s2 at h; split at h
  · exact ⟨_, _, rfl, h⟩
  · cases h
theorem l2_inv {f : List D → List D → Option T} (h : l2 f xs = some t) : ∃ i j, xs = [.lst i, .lst j] ∧ f i j = some t := by
  unfold l2 at h; split at h
  · exact ⟨_, _, rfl, h⟩
  · cases h
theorem si_inv {f : List Nat → Int → Option T} (h : si f xs = some t) : ∃ i j, xs = [.str i, .int j] ∧ f i j = some t := by
  unfold si at h; split at h
  · exact ⟨_, _, rfl, h⟩
  · cases h
theorem li_inv {f : List D → Int → Option T} (h : li f xs = some t) : ∃ i j, xs = [.lst i, .int j] ∧ f i j = some t := by
  unfold li at h; split at h
  · exact ⟨_, _, rfl, h⟩
  · cases h
theorem i1_inv {f : Int → Option T} (h : i1 f xs = some t) : ∃ i, xs = [.int i] ∧ f i = some t := by
  unfold i1 at h; split at h
  · exact ⟨_, rfl, h⟩
  · cases h
theorem b1_inv {f : Bool → Option T} (h : b1 f xs = some t) : ∃ i, xs = [.bl i] ∧ f i = some t := by
  unfold b1 at h; split at h
  · exact ⟨_, rfl, h⟩
  · cases h
theorem s1_inv {f : List Nat → Option T} (h : s1 f xs = some t) : ∃ i, xs = [.str i] ∧ f i = some t := by
  unfold s1 at h; split at h
  · exact ⟨_, rfl, h⟩
  · cases h
theorem orE_inv {f g : List D → Option T} (h : orE f g xs = some t) : f xs = some t ∨ g xs = some t := by
  unfold orE at h; split at h
  · rename_i q; cases h; exact .inl q
  · exact .inr h
end
def mulStr (a : List Nat) (k : Int) : List Nat := (List.replicate k.toNat a).flatten
def addD : List D → Option T :=
  orE (i2 fun i j => sc (.int (i + j))) (orE (s2 fun a b => iff (a.length + b.length ≤ SZ) (sc (.str (a ++ b)))) (l2 fun a b => iff (a.length + b.length ≤ SZ) (some (.lst ((a ++ b).map .sh)))))
def mulD : List D → Option T :=
  orE (i2 fun i j => iff ((-(2 ^ 64) < i ∧ i < 2 ^ 64) ∨ (-(2 ^ 64) < j ∧ j < 2 ^ 64)) (sc (.int (i * j))))
    (orE (si fun a k => iff (-(2 ^ 63) < k ∧ k < 2 ^ 63 ∧ a.length * k.toNat ≤ SZ) (sc (.str (mulStr a k)))) (li fun a k => iff (-(2 ^ 63) ≤ k ∧ k < 2 ^ 63 ∧ a.length * k.toNat ≤ SZ) (some (.lst ((List.replicate k.toNat a).flatten.map .sh)))))
def binD (op : Operator) : List D → Option T :=
  match op with
  | .Add => addD
  | .Mult => mulD
  | .Sub => i2 fun i j => sc (.int (i - j))
  | .Mod => i2 fun i j => iff (0 < j) (sc (.int (i % j)))
  | .FloorDiv => i2 fun i j => iff (0 < j ∧ j < 1073741824) (sc (.int (i / j)))
  | .Pow => i2 fun i j => iff (0 ≤ j ∧ j ≤ 1000000 ∧ i.natAbs < 2 ^ 64) (sc (.int (i ^ j.toNat)))
  | .LShift => i2 fun i j => iff (0 ≤ j ∧ j ≤ 1000000 ∧ i.natAbs < 2 ^ 64) (sc (.int (i * 2 ^ j.toNat)))
  | .RShift => i2 fun i j => iff (0 ≤ j) (sc (.int (i / 2 ^ j.toNat)))
  | .BitAnd => i2 fun i j => sc (.int (Builtin.bitAnd i j))
  | .BitOr => i2 fun i j => sc (.int (Builtin.bitOr i j))
  | _ => fun _ => none
theorem OpR.imp {X : Cx} {f : Value → Value → Sem Value} {r r' : R2} (h : OpR X f r) (k : ∀ x y H Q, r' x y H Q → r x y H Q) : OpR X f r' :=
  fun pins s σ H x y v u Q I rx ry q => h pins s σ H x y v u Q I rx ry (k _ _ _ _ q)
section
variable {X : Cx} {C : Cfg} {H : Hp}
theorem rP.orE {f g : List D → Option T} {vs : List V} {Q : VK} (h : rP C (orE f g) vs H Q) : rP C f vs H Q ∨ rP C g vs H Q := by
  obtain ⟨ds, t, Z, al, h1, h2, h3, h4, h5⟩ := h
  rcases orE_inv h4 with q | q
  · exact .inl ⟨ds, t, Z, al, h1, h2, h3, q, h5⟩
  · exact .inr ⟨ds, t, Z, al, h1, h2, h3, q, h5⟩
theorem OpR.orE {f : Value → Value → Sem Value} {g g' : List D → Option T} (h : OpR X f (fun x y H Q => rP C g [x, y] H Q)) (h' : OpR X f (fun x y H Q => rP C g' [x, y] H Q)) : OpR X f (fun x y H Q => rP C (orE g g') [x, y] H Q) :=
  OpR.imp (h.or h') fun _ _ _ _ q => q.orE
/-- a result without new objects -/
theorem rP.sc {f : List D → Option T} {vs : List V} {Q : VK} (h : rP C f vs H Q) : ∃ ds t, Dats C H vs ds ∧ f ds = some t ∧ ∀ v g, t = .sh g → noL g = true → Dat C H v g → Q v H := by
  obtain ⟨ds, t, Z, al, h1, h2, h3, h4, h5⟩ := h
  exact ⟨ds, t, h1, h4, fun v g e n hd => by subst e; exact h5 _ _ _ (Post.no h3 hd n)⟩
/-- a new list of what was there -/
theorem rP.newL {f : List D → Option T} {vs : List V} {Q : VK} (h : rP C f vs H Q) : ∃ ds t, Dats C H vs ds ∧ f ds = some t ∧
    ∀ us gs, t = .lst (gs.map .sh) → (∀ H', Same H' H → Dats C H' vs ds → Dats C H' us gs) → ∀ p, H p = none → Q (.ref p) (upd H p (.lst us)) := by
  obtain ⟨ds, t, Z, al, h1, h2, h3, h4, h5⟩ := h
  exact ⟨ds, t, h1, h4, fun us gs e k p hp => by subst e; exact h5 _ _ _ (Post.newS (k _ (Same.refl _) h1) (fun a => k _ hid_sub (h2 a)) hp)⟩
theorem op_i2 {f : Value → Value → Sem Value} {c : Int → Int → Prop} {g : Int → Int → Int} {ff : Int → Int → Option T} (h : OpR X f (rI c fun i j => .int (g i j))) (hf : ∀ i j t, ff i j = some t → c i j ∧ t = .sh (.int (g i j))) :
    OpR X f (fun x y H Q => rP C (i2 ff) [x, y] H Q) := OpR.imp h fun x y H Q q => by
  obtain ⟨ds, t, h1, h2, h3⟩ := q.sc
  obtain ⟨i, j, rfl, e⟩ := i2_inv h2
  obtain ⟨d, e', e2, k1, k2⟩ := h1.two
  cases e2
  obtain ⟨c1, rfl⟩ := hf i j t e
  exact ⟨i, j, k1.vint, k2.vint, c1, h3 _ _ rfl rfl (.int _)⟩
theorem op_i20 {f : Value → Value → Sem Value} {g : Int → Int → Int} {ff : Int → Int → Option T} (h : OpR X f (rI0 fun i j => .int (g i j))) (hf : ∀ i j t, ff i j = some t → t = .sh (.int (g i j))) :
    OpR X f (fun x y H Q => rP C (i2 ff) [x, y] H Q) := OpR.imp h fun x y H Q q => by
  obtain ⟨ds, t, h1, h2, h3⟩ := q.sc
  obtain ⟨i, j, rfl, e⟩ := i2_inv h2
  obtain ⟨d, e', e2, k1, k2⟩ := h1.two
  cases e2
  have := hf i j t e
  subst this
  exact ⟨i, j, k1.vint, k2.vint, h3 _ _ rfl rfl (.int _)⟩
theorem op_i2b {f : Value → Value → Sem Value} {g : Int → Int → Bool} {ff : Int → Int → Option T} (h : OpR X f (rI0 fun i j => .bl (g i j))) (hf : ∀ i j t, ff i j = some t → t = .sh (.bl (g i j))) :
    OpR X f (fun x y H Q => rP C (i2 ff) [x, y] H Q) := OpR.imp h fun x y H Q q => by
  obtain ⟨ds, t, h1, h2, h3⟩ := q.sc
  obtain ⟨i, j, rfl, e⟩ := i2_inv h2
  obtain ⟨d, e', e2, k1, k2⟩ := h1.two
  cases e2
  have := hf i j t e
  subst this
  exact ⟨i, j, k1.vint, k2.vint, h3 _ _ rfl rfl (.bl _)⟩
theorem op_none {f : Value → Value → Sem Value} : OpR X f (fun x y H Q => rP C (fun _ => none) [x, y] H Q) := fun pins s σ H x y v u Q I rx ry q => by
  obtain ⟨ds, t, h1, h2, h3⟩ := q.sc
  cases h2
theorem sc_inj {d : D} {t : T} (h : sc d = some t) : t = .sh d := (Option.some.inj h).symm
theorem mul_str_ok : OpR X (binaryOp .Mult) (fun x y H Q => ∃ (a : List Nat) (k : Int), x = sv a ∧ y = .int k ∧ -(2 ^ 63) < k ∧ k < 2 ^ 63 ∧ a.length * k.toNat ≤ SZ ∧ Q (sv (mulStr a k)) H) := by
  intro pins s σ H x y v u Q I rx ry h
  obtain ⟨a, k, rfl, rfl, k1, k2, k3, q⟩ := h
  obtain ⟨t, rfl⟩ := rx
  obtain ⟨t', rfl⟩ := ry
  have hlen : (st a).length = a.length := st_len a
  refine P.mul_str ?_ (fun h1 h2 => ?_) (fun h1 h2 => ?_) ?_
  · rw [decide_eq_false (by omega), decide_eq_false (by omega)]; rfl
  · rw [hlen]
    have hk : 0 < k := by omega
    have h5 : ¬ (a.length == 0) = true := fun z => by rw [hlen, z] at h2; simp at h2
    have h6 : 0 < a.length := by
      rcases Nat.eq_zero_or_pos a.length with z | z
      · rw [z] at h5; simp at h5
      · exact z
    intro h7
    have h8 : ((2 : Int) ^ 63 - 1) / k * k ≤ 2 ^ 63 - 1 := Int.ediv_mul_le _ (by omega)
    have h9 : (a.length : Int) * k ≤ SZ := by
      have : ((a.length * k.toNat : Nat) : Int) ≤ SZ := by exact_mod_cast k3
      rw [Int.natCast_mul, Int.toNat_of_nonneg (by omega)] at this
      exact this
    have h10 : ((2 : Int) ^ 63 - 1) < ((2 ^ 63 - 1) / k + 1) * k := Int.lt_ediv_add_one_mul_self _ hk
    have h11 : ((2 ^ 63 - 1) / k + 1) * k ≤ (a.length : Int) * k := Int.mul_le_mul_of_nonneg_right (by omega) (by omega)
    have : (SZ : Int) = 16777216 := rfl
    omega
  · rw [hlen]
    show decide (a.length * k.toNat > sizeLine) = false
    rw [sz_eq]
    exact decide_eq_false (by omega)
  · have fl : ∀ (m : Nat) (acc : Array Nat), (List.replicate m (st a).cps).foldl (· ++ ·) acc = (acc.toList ++ (List.replicate m a).flatten).toArray := by
      intro m
      induction m with
      | zero => intro acc; simp
      | succ m ih =>
        intro acc
        rw [List.replicate_succ, List.foldl_cons, ih, List.replicate_succ, List.flatten_cons]
        simp
    by_cases h1 : k < 1
    · rw [if_pos h1]
      have e : mulStr a k = [] := by unfold mulStr; rw [show k.toNat = 0 by omega]; rfl
      rw [e] at q
      exact ⟨by decide, sv [], H, I.tok _, ⟨_, rfl⟩, q⟩
    · rw [if_neg h1]
      by_cases h2 : (k == 1 || (st a).length == 0) = true
      · rw [if_pos h2]
        have e : mulStr a k = a := by
          unfold mulStr
          rcases Bool.or_eq_true_iff.mp h2 with z | z
          · rw [show k = 1 by simpa using z]; simp
          · rw [hlen] at z
            have : a = [] := by
              cases a with
              | nil => rfl
              | cons _ _ => simp at z
            subst this; simp
        rw [e] at q
        exact ⟨sv a, H, I, ⟨_, rfl⟩, q⟩
      · rw [if_neg h2, fl]
        have e : (⟨(#[].toList ++ (List.replicate k.toNat a).flatten).toArray⟩ : Str) = st (mulStr a k) := by simp [mulStr]
        rw [e]
        refine ⟨?_, sv (mulStr a k), H, I.tok _, ⟨_, rfl⟩, q⟩
        rw [st_len, sz_eq]
        have : (mulStr a k).length = a.length * k.toNat := by
          unfold mulStr
          rw [List.length_flatten]
          simp [Nat.mul_comm]
        omega
theorem iff_inv {c : Prop} [Decidable c] {d : D} {t : T} (h : iff c (sc d) = some t) : c ∧ t = .sh d := ⟨(iff_some h).1, sc_inj (iff_some h).2⟩
theorem op_addStr : OpR X (binaryOp .Add) (fun x y H Q => rP C (s2 fun a b => iff (a.length + b.length ≤ SZ) (sc (.str (a ++ b)))) [x, y] H Q) := OpR.imp op_add_str fun x y H Q q => by
  obtain ⟨ds, t, h1, h2, h3⟩ := q.sc
  obtain ⟨i, j, rfl, e⟩ := s2_inv h2
  obtain ⟨d, e', e2, k1, k2⟩ := h1.two
  cases e2
  obtain ⟨c1, rfl⟩ := iff_inv e
  refine ⟨st i, st j, k1.vstr, k2.vstr, by rw [st_len, st_len, sz_eq]; exact c1, ?_⟩
  rw [st_app]
  exact h3 _ _ rfl rfl (.str _)
theorem Dat.vlst {H : Hp} {v : V} {ds : List D} (h : Dat C H v (.lst ds)) : ∃ a vs, v = .ref a ∧ H a = some (.lst vs) ∧ Dats C H vs ds := by
  cases h with | lst h hs => exact ⟨_, _, rfl, h, hs⟩
theorem Dat.at {H H' : Hp} {a : Addr} {vs : List V} {ds : List D} (h : Dat C H' (.ref a) (.lst ds)) (s : Same H' H) (e : H a = some (.lst vs)) : Dats C H' vs ds := by
  cases h with
  | lst h hs =>
    have := s _ _ h
    rw [e] at this; cases this
    exact hs
theorem op_addLst : OpR X (binaryOp .Add) (fun x y H Q => rP C (l2 fun a b => iff (a.length + b.length ≤ SZ) (some (.lst ((a ++ b).map .sh)))) [x, y] H Q) := OpR.imp op_cat fun x y H Q q => by
  obtain ⟨ds, t, h1, h2, h3⟩ := q.newL
  obtain ⟨i, j, rfl, e⟩ := l2_inv h2
  obtain ⟨d, e', e2, k1, k2⟩ := h1.two
  cases e2
  obtain ⟨c1, e⟩ := iff_some e
  have e := Option.some.inj e
  obtain ⟨a, vs, rfl, ha, hv⟩ := k1.vlst
  obtain ⟨b, us, rfl, hb, hu⟩ := k2.vlst
  refine ⟨a, b, vs, us, rfl, rfl, ha, hb, by rw [hv.length, hu.length, sz_eq]; exact c1, h3 (vs ++ us) (i ++ j) e.symm fun H' s q => ?_⟩
  obtain ⟨d, e', e2, k1, k2⟩ := q.two
  cases e2
  exact (k1.at s ha).append (k2.at s hb)
theorem op_repLst : OpR X (binaryOp .Mult) (fun x y H Q => rP C (li fun a k => iff (-(2 ^ 63) ≤ k ∧ k < 2 ^ 63 ∧ a.length * k.toNat ≤ SZ) (some (.lst ((List.replicate k.toNat a).flatten.map .sh)))) [x, y] H Q) := OpR.imp op_rep fun x y H Q q => by
  obtain ⟨ds, t, h1, h2, h3⟩ := q.newL
  obtain ⟨i, j, rfl, e⟩ := li_inv h2
  obtain ⟨d, e', e2, k1, k2⟩ := h1.two
  cases e2
  obtain ⟨c1, e⟩ := iff_some e
  have e := Option.some.inj e
  obtain ⟨a, vs, rfl, ha, hv⟩ := k1.vlst
  refine ⟨a, j, vs, rfl, k2.vint, ha, c1.1, c1.2.1, by rw [hv.length, sz_eq]; exact c1.2.2, h3 _ (List.replicate j.toNat i).flatten e.symm fun H' s q => ?_⟩
  obtain ⟨d, e', e2, k1, k2⟩ := q.two
  cases e2
  have := k1.at s ha
  generalize j.toNat = n
  induction n with
  | zero => exact .nil
  | succ n ih => rw [List.replicate_succ, List.replicate_succ, List.flatten_cons, List.flatten_cons]; exact this.append ih
theorem bin_ok : ∀ op : Operator, OpR X (binaryOp op) (fun x y H Q => rP C (binD op) [x, y] H Q)
  | .Add => OpR.orE (op_i20 op_add fun _ _ _ e => sc_inj e) (OpR.orE op_addStr op_addLst)
  | .Mult => OpR.orE (op_i2 op_mul fun _ _ _ e => ⟨(iff_some e).1, sc_inj (iff_some e).2⟩) (OpR.orE (OpR.imp mul_str_ok fun x y H Q q => by
      obtain ⟨ds, t, h1, h2, h3⟩ := q.sc
      obtain ⟨i, j, rfl, e⟩ := si_inv h2
      obtain ⟨d, e', e2, k1, k2⟩ := h1.two
      cases e2
      obtain ⟨c1, rfl⟩ := iff_inv e
      exact ⟨i, j, k1.vstr, k2.vint, c1.1, c1.2.1, c1.2.2, h3 _ _ rfl rfl (.str _)⟩) op_repLst)
  | .Sub => op_i20 op_sub fun _ _ _ e => sc_inj e
  | .Mod => op_i2 op_mod fun _ _ _ e => iff_inv e
  | .FloorDiv => op_i2 op_fdiv fun _ _ _ e => ⟨(iff_some e).1, sc_inj (iff_some e).2⟩
  | .Pow => op_i2 op_pow fun _ _ _ e => ⟨(iff_some e).1, sc_inj (iff_some e).2⟩
  | .LShift => op_i2 op_shl fun _ _ _ e => ⟨(iff_some e).1, sc_inj (iff_some e).2⟩
  | .RShift => op_i2 op_shr fun _ _ _ e => iff_inv e
  | .BitAnd => op_i20 op_and fun _ _ _ e => sc_inj e
  | .BitOr => op_i20 op_or fun _ _ _ e => sc_inj e
  | .MatMult | .Div | .BitXor => op_none
/-! ### augmented: ints, texts, bits -/
def augD (op : Operator) : List D → Option T :=
  match op with
  | .Add => orE (i2 fun i j => sc (.int (i + j))) (s2 fun a b => iff (a.length + b.length ≤ SZ) (sc (.str (a ++ b))))
  | .Sub => i2 fun i j => sc (.int (i - j))
  | .BitOr => i2 fun i j => sc (.int (Builtin.bitOr i j))
  | _ => fun _ => none
theorem aug_ok : ∀ op : Operator, OpR X (inplaceOp op) (fun x y H Q => rP C (augD op) [x, y] H Q)
  | .Add => OpR.orE (op_i20 iop_add fun _ _ _ e => sc_inj e) (OpR.imp iop_add_str fun x y H Q q => by
      obtain ⟨ds, t, h1, h2, h3⟩ := q.sc
      obtain ⟨i, j, rfl, e⟩ := s2_inv h2
      obtain ⟨d, e', e2, k1, k2⟩ := h1.two
      cases e2
      obtain ⟨c1, rfl⟩ := iff_inv e
      refine ⟨st i, st j, k1.vstr, k2.vstr, by rw [st_len, st_len, sz_eq]; exact c1, ?_⟩
      rw [st_app]
      exact h3 _ _ rfl rfl (.str _))
  | .Sub => op_i20 iop_sub fun _ _ _ e => sc_inj e
  | .BitOr => op_i20 iop_or fun _ _ _ e => sc_inj e
  | .Mult | .Mod | .FloorDiv | .Pow | .LShift | .RShift | .BitAnd | .MatMult | .Div | .BitXor => op_none
/-! ### comparisons -/
@[simp] def isN : D → Bool
  | .non => true
  | _ => false
@[simp] def flatD : D → Bool
  | .non | .bl _ | .int _ | .str _ => true
  | _ => false
def eqF : D → D → Bool
  | .non, .non => true
  | .bl a, .bl b => a == b
  | .bl a, .int b => (if a then 1 else 0) == b
  | .int a, .bl b => a == (if b then 1 else 0)
  | .int a, .int b => a == b
  | .str a, .str b => a == b
  | _, _ => false
def inF (x : D) (xs : List D) : Bool := xs.any fun y => eqF y x
/-- one text in another: where it first stands -/
def subOf (a b : List Nat) : Bool := !(Builtin.Str.occurrences (st b) (st a) 0 b.length 1).isEmpty
def inD (neg : Bool) : List D → Option T := fun xs => match xs with
  | [.str a, .str b] => sc (.bl (if neg then !subOf a b else subOf a b))
  | [x, .lst ys] => iff (flatD x = true ∧ ys.all flatD = true) (sc (.bl (if neg then !inF x ys else inF x ys)))
  | [x, .tup ys] => iff (flatD x = true ∧ ys.all flatD = true) (sc (.bl (if neg then !inF x ys else inF x ys)))
  | _ => none
def isD (neg : Bool) : List D → Option T := fun xs => match xs with
  | [.bl a, .bl b] => sc (.bl (if neg then !decide (a = b) else decide (a = b)))
  | [x, .non] => sc (.bl (if neg then !isN x else isN x))
  | _ => none
def eqT (neg : Bool) : List D → Option T := fun xs => match xs with
  | [a, b] => (eqD a b).map fun r => .sh (.bl (if neg then !r else r))
  | _ => none
def cmpD (op : CmpOp) : List D → Option T :=
  match op with
  | .Eq => orE (s2 fun a b => sc (.bl (decide (a = b)))) (eqT false)
  | .NotEq => orE (s2 fun a b => sc (.bl (!decide (a = b)))) (eqT true)
  | .Lt => i2 fun i j => sc (.bl (decide (i < j)))
  | .LtE => i2 fun i j => sc (.bl (decide (i ≤ j)))
  | .Gt => i2 fun i j => sc (.bl (decide (j < i)))
  | .GtE => i2 fun i j => sc (.bl (decide (j ≤ i)))
  | .In => inD false
  | .NotIn => inD true
  | .Is => isD false
  | .IsNot => isD true
theorem beq_st (s t : List Nat) : ((st s : Str) == st t) = (s == t) := by
  by_cases hst : s = t
  · subst hst; simp
  · have : ¬ st s = st t := fun q => hst (st_inj q)
    rw [beq_eq_false_iff_ne.mpr this, beq_eq_false_iff_ne.mpr hst]
theorem eqF_V {C : Cfg} {H : Hp} {x y : V} {d e : D} (h : Dat C H x d) (k : Dat C H y e) (f : flatD d = true) (g : flatD e = true) : flatV x = true ∧ flatV y = true ∧ eqV x y = eqF d e := by
  cases h <;> first | exact absurd f Bool.false_ne_true | (cases k <;> first | exact absurd g Bool.false_ne_true | exact ⟨rfl, rfl, rfl⟩ | exact ⟨rfl, rfl, beq_st _ _⟩)
theorem inF_V {C : Cfg} {H : Hp} {x : V} {d : D} (h : Dat C H x d) (f : flatD d = true) : ∀ {vs : List V} {ds : List D}, Dats C H vs ds → ds.all flatD = true → vs.all flatV = true ∧ inV x vs = inF d ds
  | [], [], .nil, _ => ⟨rfl, rfl⟩
  | v :: vs, e :: ds, .cons k ks, g => by
    rw [List.all_cons, Bool.and_eq_true] at g
    obtain ⟨h1, h2, h3⟩ := eqF_V k h g.1 f
    obtain ⟨i1, i2⟩ := inF_V h f ks g.2
    refine ⟨by rw [List.all_cons, h1, i1]; rfl, ?_⟩
    show (eqV v x || inV x vs) = (eqF e d || inF d ds)
    rw [h3, i2]
theorem Dat.flat {C : Cfg} {H : Hp} {x : V} {d : D} (h : Dat C H x d) (f : flatD d = true) : flatV x = true := by cases h <;> first | exact absurd f Bool.false_ne_true | rfl
theorem inS_ok {neg : Bool} {op : CmpOp} (h : OpR X (compareOp op) (fun x y H Q => ∃ i j, x = .str i ∧ y = .str j ∧ Q (.bl (if neg then !(!(Builtin.Str.occurrences j i 0 j.length 1).isEmpty) else !(Builtin.Str.occurrences j i 0 j.length 1).isEmpty)) H))
    (h' : OpR X (compareOp op) (rIn X.K neg)) (hK : X.K = C.K) : OpR X (compareOp op) (fun x y H Q => rP C (inD neg) [x, y] H Q) := OpR.imp (h.or h') fun x y H Q q => by
  obtain ⟨ds, t, h1, h2, h3⟩ := q.sc
  obtain ⟨d, e, rfl, k1, k2⟩ := h1.two
  unfold inD at h2
  split at h2
  · rename_i a b q
    cases q
    have := sc_inj h2
    subst this
    refine .inl ⟨st a, st b, k1.vstr, k2.vstr, ?_⟩
    have := h3 _ _ rfl rfl (Dat.bl (C := C) (H := H) (if neg then !subOf a b else subOf a b))
    unfold subOf at this
    rw [st_len]
    exact this
  · rename_i ys q
    cases q
    obtain ⟨c1, rfl⟩ := iff_inv h2
    obtain ⟨a, vs, rfl, ha, hv⟩ := k2.vlst
    obtain ⟨i1, i2⟩ := inF_V k1 c1.1 hv c1.2
    refine .inr ⟨a, vs, rfl, .inl (SqL.of ha), k1.flat c1.1, i1, ?_⟩
    rw [i2]
    exact h3 _ _ rfl rfl (.bl _)
  · rename_i ys q
    cases q
    obtain ⟨c1, rfl⟩ := iff_inv h2
    cases k2 with
    | tup ha hv =>
      obtain ⟨i1, i2⟩ := inF_V k1 c1.1 hv c1.2
      refine .inr ⟨_, _, rfl, .inr (SqT.of ha), k1.flat c1.1, i1, ?_⟩
      rw [i2]
      exact h3 _ _ rfl rfl (.bl _)
  · cases h2
theorem isN_V {C : Cfg} {H : Hp} {x : V} {d : D} (h : Dat C H x d) : decide (x = .non) = isN d := by cases h <;> first | rfl | exact decide_eq_false (fun q => nomatch q)
theorem is_ok {neg : Bool} {op : CmpOp} (h : OpR X (compareOp op) (fun x y H Q => ∃ a b : Bool, x = .bl a ∧ y = .bl b ∧ Q (.bl (if neg then !decide (a = b) else decide (a = b))) H))
    (h' : OpR X (compareOp op) (fun x y H Q => y = .non ∧ Q (.bl (if neg then !decide (x = .non) else decide (x = .non))) H)) : OpR X (compareOp op) (fun x y H Q => rP C (isD neg) [x, y] H Q) := OpR.imp (h.or h') fun x y H Q q => by
  obtain ⟨ds, t, h1, h2, h3⟩ := q.sc
  obtain ⟨d, e, rfl, k1, k2⟩ := h1.two
  unfold isD at h2
  split at h2
  · rename_i a b q
    cases q
    have := sc_inj h2
    subst this
    exact .inl ⟨a, b, k1.vbl, k2.vbl, h3 _ _ rfl rfl (.bl _)⟩
  · rename_i q
    cases q
    have := sc_inj h2
    subst this
    refine .inr ⟨k2.vnon, ?_⟩
    rw [isN_V k1]
    exact h3 _ _ rfl rfl (.bl _)
  · cases h2
theorem dec_st (a b : List Nat) : decide (sv a = sv b) = decide (a = b) := by
  by_cases h : a = b
  · subst h; simp
  · have : ¬ sv a = sv b := fun q => h (st_inj (V.str.inj q))
    rw [decide_eq_false h, decide_eq_false this]
theorem eq_ok {neg : Bool} {op : CmpOp} (h : OpR X (compareOp op) (fun x y H Q => scal x y = true ∧ Q (.bl (if neg then !decide (x = y) else decide (x = y))) H))
    (h' : OpR X (compareOp op) (fun x y H Q => ∃ d e, Dp X.K H x d ∧ Dp X.K H y e ∧ SeqAt.shaped d = true ∧ SeqAt.shaped e = true ∧ Q (.bl (if neg then !PyData.eqv d e else PyData.eqv d e)) H)) (hK : X.K = C.K) :
    OpR X (compareOp op) (fun x y H Q => rP C (orE (s2 fun a b => sc (.bl (if neg then !decide (a = b) else decide (a = b)))) (eqT neg)) [x, y] H Q) :=
  OpR.orE (OpR.imp h fun x y H Q q => by
    obtain ⟨ds, t, h1, h2, h3⟩ := q.sc
    obtain ⟨i, j, rfl, e⟩ := s2_inv h2
    obtain ⟨d, e', e2, k1, k2⟩ := h1.two
    cases e2
    have := sc_inj e
    subst this
    have e1 := k1.vstr
    have e2 := k2.vstr
    subst e1; subst e2
    refine ⟨rfl, ?_⟩
    rw [dec_st]
    exact h3 _ _ rfl rfl (.bl _)) (OpR.imp h' fun x y H Q q => by
    obtain ⟨ds, t, h1, h2, h3⟩ := q.sc
    obtain ⟨d, e, rfl, k1, k2⟩ := h1.two
    unfold eqT eqD at h2
    simp only [] at h2
    cases q1 : toPy d with
    | none => rw [q1] at h2; cases h2
    | some p1 =>
      cases q2 : toPy e with
      | none => rw [q1, q2] at h2; cases h2
      | some p2 =>
        rw [q1, q2] at h2
        simp only [Option.bind_some] at h2
        by_cases hs : SeqAt.shaped p1 = true ∧ SeqAt.shaped p2 = true
        · rw [if_pos hs] at h2
          have := (Option.some.inj h2).symm
          subst this
          refine ⟨p1, p2, ?_, ?_, hs.1, hs.2, h3 _ _ rfl rfl (.bl _)⟩
          · rw [hK]; exact k1.dp q1
          · rw [hK]; exact k2.dp q2
        · rw [if_neg hs] at h2; cases h2)
theorem cmp_ok (hu : X.A.units + 64 < cLine) (hK : X.K = C.K) : ∀ op : CmpOp, OpR X (compareOp op) (fun x y H Q => rP C (cmpD op) [x, y] H Q)
  | .Eq => eq_ok (neg := false) op_eq (op_eqD hu) hK
  | .NotEq => eq_ok (neg := true) op_ne (op_neD hu) hK
  | .Lt => op_i2b op_lt fun _ _ _ e => sc_inj e
  | .LtE => op_i2b op_le fun _ _ _ e => sc_inj e
  | .Gt => op_i2b op_gt fun _ _ _ e => sc_inj e
  | .GtE => op_i2b op_ge fun _ _ _ e => sc_inj e
  | .In => inS_ok (neg := false) op_in_str op_in_seq hK
  | .NotIn => inS_ok (neg := true) op_notIn_str op_notIn_seq hK
  | .Is => is_ok (neg := false) op_isBl op_isN
  | .IsNot => is_ok (neg := true) op_notBl op_notN
/-! ### truth -/
def truD : D → Option Bool
  | .non => some false
  | .bl b => some b
  | .int i => some (i != 0)
  | .str s => if s.length ≤ SZ then some ((s.length : Int) != 0) else none
  | .lst xs => some (!xs.isEmpty)
  | .tup xs => some (!xs.isEmpty)
  | _ => none
theorem empty_V {C : Cfg} {H : Hp} {vs : List V} {ds : List D} (h : Dats C H vs ds) : vs.isEmpty = ds.isEmpty := by cases h <;> rfl
theorem tru_V {K : PySem.W.Frag} {H : Hp} {x : V} {d : D} {k : Bool} (h : Dat C H x d) (e : truD d = some k) : TruV K x H k := by
  cases h with
  | non => cases e; rfl
  | bl b => cases e; rfl
  | int i => cases e; rfl
  | str s =>
    have e : (if s.length ≤ SZ then some ((s.length : Int) != 0) else none) = some k := e
    split at e
    · cases e
      exact ⟨by rw [st_len, sz_eq]; assumption, by rw [st_len]⟩
    · cases e
  | lst h hs => cases e; exact .inl ⟨_, SqL.of h, by rw [empty_V hs]⟩
  | tup h hs => cases e; exact .inr (.inl ⟨_, SqT.of h, by rw [empty_V hs]⟩)
  | scr h => cases e
  | ins h hm hs hl => cases e
  | dic h hs hl => cases e
end
end Eng
/-! Eng D: built-in functions, methods of texts. -/
namespace Eng
open PySem L2
theorem CallR.imp {X : Cx} {f : Value} {r r' : List V → Hp → VK → Prop} (h : CallR X f r) (k : ∀ xs H Q, r' xs H Q → r xs H Q) : CallR X f r' :=
  fun pins s σ H xs us Q I rs q => h pins s σ H xs us Q I rs (k _ _ _ q)
theorem CallR.orE {X : Cx} {C : Cfg} {f : Value} {g g' : List D → Option T} (h : CallR X f (fun xs H Q => rP C g xs H Q)) (h' : CallR X f (fun xs H Q => rP C g' xs H Q)) : CallR X f (fun xs H Q => rP C (orE g g') xs H Q) :=
  CallR.imp (CallR.or h h') fun _ _ _ q => q.orE
theorem MtR.imp {X : Cx} {id : String} {r r' : V → List V → Hp → VK → Prop} (h : MtR X id r) (k : ∀ x xs H Q, r' x xs H Q → r x xs H Q) : MtR X id r' :=
  fun pins s σ H x xs v us Q I rx rs q => h pins s σ H x xs v us Q I rx rs (k _ _ _ _ q)
theorem MtR.orE {X : Cx} {C : Cfg} {id : String} {g g' : List D → Option T} (h : MtR X id (fun x xs H Q => rP C g (x :: xs) H Q)) (h' : MtR X id (fun x xs H Q => rP C g' (x :: xs) H Q)) : MtR X id (fun x xs H Q => rP C (orE g g') (x :: xs) H Q) :=
  MtR.imp (MtR.or h h') fun _ _ _ _ q => q.orE
inductive Bi where
  | len | int | str | list | tuple | sum | any | all | max | min | abs
  deriving DecidableEq
def Bi.name : Bi → Str
  | .len => "len" | .int => "int" | .str => "str" | .list => "list" | .tuple => "tuple" | .sum => "sum" | .any => "any" | .all => "all" | .max => "max" | .min => "min" | .abs => "abs"
def Bi.val : Bi → Value
  | .len => .builtin "len" | .int => .type "int" | .str => .type "str" | .list => .type "list" | .tuple => .type "tuple" | .sum => .builtin "sum" | .any => .builtin "any" | .all => .builtin "all"
  | .max => .builtin "max" | .min => .builtin "min" | .abs => .builtin "abs"
def lenD : List D → Option T := fun xs => match xs with
  | [.str s] => iff (s.length ≤ SZ) (sc (.int s.length))
  | [.lst s] => sc (.int s.length)
  | [.tup s] => sc (.int s.length)
  | [.scr s] => sc (.int s.length)
  | _ => none
def biD (b : Bi) : List D → Option T :=
  match b with
  | .len => lenD
  | .int => orE (i1 fun i => sc (.int i)) (orE (b1 fun b => sc (.int (if b then 1 else 0))) (s1 fun s => match intText? (st s) with | some n => iff (s.length ≤ 640) (sc (.int n)) | none => none))
  | .str => i1 fun i => iff (i.natAbs.log2 < 1920) (sc (txt (Str.ofString (toString i))))
  | .list => fun xs => match xs with
    | [.lst s] => some (.lst (s.map .sh))
    | [.tup s] => some (.lst (s.map .sh))
    | [.scr s] => some (.lst ((s.map .int).map .sh))
    | _ => none
  | .tuple => fun xs => match xs with
    | [.lst s] => some (.sh (.tup s))
    | [.tup s] => some (.sh (.tup s))
    | _ => none
  | .sum => fun xs => match xs with
    | [.lst s] => (intsOf s).map fun ns => .sh (.int ns.sum)
    | _ => none
  | .any => fun xs => match xs with
    | [.lst s] => (blsOf s).map fun ns => .sh (.bl (ns.any id))
    | _ => none
  | .all => fun xs => match xs with
    | [.lst s] => (blsOf s).map fun ns => .sh (.bl (ns.all id))
    | _ => none
  | .max => i2 fun i j => sc (.int (if j > i then j else i))
  | .min => i2 fun i j => sc (.int (if j < i then j else i))
  | .abs => i1 fun i => sc (.int (if i < 0 then -i else i))
section
variable {X : Cx} {C : Cfg} {H : Hp}
theorem Dat.vscr {H : Hp} {v : V} {ns : List Int} (h : Dat C H v (.scr ns)) : ∃ a, v = .ref a ∧ SqL C.K H a (ns.map V.int) := by
  cases h with | scr h => exact ⟨_, rfl, h⟩
theorem Dat.vtup {H : Hp} {v : V} {ds : List D} (h : Dat C H v (.tup ds)) : ∃ a vs, v = .ref a ∧ H a = some (.tup vs) ∧ Dats C H vs ds := by
  cases h with | tup h hs => exact ⟨_, _, rfl, h, hs⟩
theorem Dat.atT {H H' : Hp} {a : Addr} {vs : List V} {ds : List D} (h : Dat C H' (.ref a) (.tup ds)) (s : Same H' H) (e : H a = some (.tup vs)) : Dats C H' vs ds := by
  cases h with
  | tup h hs =>
    have := s _ _ h
    rw [e] at this; cases this
    exact hs
theorem len_ok (hK : X.K = C.K) : CallR X (.builtin "len") (fun xs H Q => rP C lenD xs H Q) := CallR.imp call_len fun xs H Q q => by
  obtain ⟨ds, t, h1, h2, h3⟩ := q.sc
  unfold lenD at h2
  split at h2
  · rename_i s
    obtain ⟨c1, rfl⟩ := iff_inv h2
    cases h1 with
    | cons k ks =>
      cases ks
      refine ⟨_, s.length, rfl, ?_, h3 _ _ rfl rfl (.int _)⟩
      rw [k.vstr]
      exact ⟨by rw [st_len, sz_eq]; exact c1, (st_len s).symm⟩
  · rename_i s
    have := sc_inj h2; subst this
    cases h1 with
    | cons k ks =>
      cases ks
      obtain ⟨a, vs, rfl, ha, hv⟩ := k.vlst
      exact ⟨_, s.length, rfl, .inl ⟨vs, SqL.of ha, hv.length.symm⟩, h3 _ _ rfl rfl (.int _)⟩
  · rename_i s
    have := sc_inj h2; subst this
    cases h1 with
    | cons k ks =>
      cases ks
      obtain ⟨a, vs, rfl, ha, hv⟩ := k.vtup
      exact ⟨_, s.length, rfl, .inr ⟨vs, SqT.of ha, hv.length.symm⟩, h3 _ _ rfl rfl (.int _)⟩
  · rename_i s
    have := sc_inj h2; subst this
    cases h1 with
    | cons k ks =>
      cases ks
      obtain ⟨a, rfl, ha⟩ := k.vscr
      exact ⟨_, s.length, rfl, .inl ⟨_, by rw [hK]; exact ha, by rw [List.length_map]⟩, h3 _ _ rfl rfl (.int _)⟩
  · cases h2
theorem list_ok (hK : X.K = C.K) : CallR X (.type "list") (fun xs H Q => rP C (biD .list) xs H Q) := CallR.imp call_list_of fun xs H Q q => by
  obtain ⟨ds, t, h1, h2, h3⟩ := q.newL
  simp only [biD] at h2
  split at h2
  · rename_i s
    have := (Option.some.inj h2).symm
    subst this
    cases h1 with
    | cons k ks =>
      cases ks
      obtain ⟨a, vs, rfl, ha, hv⟩ := k.vlst
      exact ⟨a, vs, rfl, .inl (SqL.of ha), h3 vs s rfl fun H' e q => by cases q with | cons q _ => exact q.at e ha⟩
  · rename_i s
    have := (Option.some.inj h2).symm
    subst this
    cases h1 with
    | cons k ks =>
      cases ks
      obtain ⟨a, vs, rfl, ha, hv⟩ := k.vtup
      exact ⟨a, vs, rfl, .inr (SqT.of ha), h3 vs s rfl fun H' e q => by cases q with | cons q _ => exact q.atT e ha⟩
  · rename_i s
    have := (Option.some.inj h2).symm
    subst this
    cases h1 with
    | cons k ks =>
      cases ks
      obtain ⟨a, rfl, ha⟩ := k.vscr
      exact ⟨a, _, rfl, .inl (by rw [hK]; exact ha), h3 _ _ rfl fun H' e q => Dats.ints⟩
  · cases h2
theorem tuple_ok : CallR X (.type "tuple") (fun xs H Q => rP C (biD .tuple) xs H Q) := CallR.imp call_tuple_of fun xs H Q q => by
  obtain ⟨ds, t, Z, al, h1, h2, h3, h4, h5⟩ := q
  simp only [biD] at h4
  split at h4
  · rename_i s
    have := (Option.some.inj h4).symm
    subst this
    cases h1 with
    | cons k ks =>
      cases ks
      obtain ⟨a, vs, rfl, ha, hv⟩ := k.vlst
      exact ⟨a, vs, rfl, .inl ⟨SqL.of ha, fun p hp => h5 _ _ _ (Post.newU h3 hv (fun e => by cases h2 e with | cons q _ => exact q.at hid_sub ha) hp)⟩⟩
  · rename_i s
    have := (Option.some.inj h4).symm
    subst this
    cases h1 with
    | cons k ks =>
      cases ks
      obtain ⟨a, vs, rfl, ha, hv⟩ := id k.vtup
      exact ⟨a, vs, rfl, .inr ⟨SqT.of ha, h5 _ _ _ (Post.sh k fun e => by cases h2 e with | cons q _ => exact q)⟩⟩
  · cases h4
theorem int_ok : CallR X (.type "int") (fun xs H Q => rP C (biD .int) xs H Q) := CallR.orE (CallR.imp call_int1 fun xs H Q q => by
    obtain ⟨ds, t, h1, h2, h3⟩ := q.sc
    obtain ⟨i, rfl, e⟩ := i1_inv h2
    have := sc_inj e; subst this
    cases h1 with | cons k ks => cases ks; exact .inl ⟨i, by rw [k.vint], h3 _ _ rfl rfl (.int _)⟩)
  (CallR.orE (CallR.imp call_int1 fun xs H Q q => by
    obtain ⟨ds, t, h1, h2, h3⟩ := q.sc
    obtain ⟨i, rfl, e⟩ := b1_inv h2
    have := sc_inj e; subst this
    cases h1 with | cons k ks => cases ks; exact .inr ⟨i, by rw [k.vbl], h3 _ _ rfl rfl (.int _)⟩)
  (CallR.imp call_int_str fun xs H Q q => by
    obtain ⟨ds, t, h1, h2, h3⟩ := q.sc
    obtain ⟨i, rfl, e⟩ := s1_inv h2
    split at e
    · rename_i n hn
      obtain ⟨c1, rfl⟩ := iff_inv e
      cases h1 with | cons k ks => cases ks; exact ⟨st i, n, by rw [k.vstr], hn, by rw [st_len]; exact c1, h3 _ _ rfl rfl (.int _)⟩
    · cases e))
theorem str_ok : CallR X (.type "str") (fun xs H Q => rP C (biD .str) xs H Q) := CallR.imp call_str_int fun xs H Q q => by
  obtain ⟨ds, t, h1, h2, h3⟩ := q.sc
  obtain ⟨i, rfl, e⟩ := i1_inv h2
  obtain ⟨c1, rfl⟩ := iff_inv e
  cases h1 with | cons k ks => cases ks; exact ⟨i, by rw [k.vint], c1, h3 _ _ rfl rfl (.txt _)⟩
theorem map_inv {α β : Type} {o : Option α} {f : α → β} {b : β} (h : o.map f = some b) : ∃ a, o = some a ∧ f a = b := by
  cases o with
  | none => cases h
  | some a => exact ⟨a, rfl, Option.some.inj h⟩
theorem sum_ok (hc : X.calm = true) : CallR X (.builtin "sum") (fun xs H Q => rP C (biD .sum) xs H Q) := CallR.imp (cr_sum hc) fun xs H Q q => by
  obtain ⟨ds, t, h1, h2, h3⟩ := q.sc
  simp only [biD] at h2
  split at h2
  · rename_i s
    obtain ⟨ns, e, rfl⟩ := map_inv h2
    cases h1 with
    | cons k ks =>
      cases ks
      obtain ⟨a, vs, rfl, ha, hv⟩ := k.vlst
      have := intsOf_vals hv e
      subst this
      exact ⟨a, ns, rfl, SqL.of ha, h3 _ _ rfl rfl (.int _)⟩
  · cases h2
theorem any_ok (hc : X.calm = true) : CallR X (.builtin "any") (fun xs H Q => rP C (biD .any) xs H Q) := CallR.imp (cr_any hc) fun xs H Q q => by
  obtain ⟨ds, t, h1, h2, h3⟩ := q.sc
  simp only [biD] at h2
  split at h2
  · rename_i s
    obtain ⟨ns, e, rfl⟩ := map_inv h2
    cases h1 with
    | cons k ks =>
      cases ks
      obtain ⟨a, vs, rfl, ha, hv⟩ := k.vlst
      have := blsOf_vals hv e
      subst this
      exact ⟨a, ns, rfl, SqL.of ha, h3 _ _ rfl rfl (.bl _)⟩
  · cases h2
theorem all_ok (hc : X.calm = true) : CallR X (.builtin "all") (fun xs H Q => rP C (biD .all) xs H Q) := CallR.imp (cr_all hc) fun xs H Q q => by
  obtain ⟨ds, t, h1, h2, h3⟩ := q.sc
  simp only [biD] at h2
  split at h2
  · rename_i s
    obtain ⟨ns, e, rfl⟩ := map_inv h2
    cases h1 with
    | cons k ks =>
      cases ks
      obtain ⟨a, vs, rfl, ha, hv⟩ := k.vlst
      have := blsOf_vals hv e
      subst this
      exact ⟨a, ns, rfl, SqL.of ha, h3 _ _ rfl rfl (.bl _)⟩
  · cases h2
theorem max_ok (hc : X.calm = true) : CallR X (.builtin "max") (fun xs H Q => rP C (biD .max) xs H Q) := CallR.imp (call_max2 hc) fun xs H Q q => by
  obtain ⟨ds, t, h1, h2, h3⟩ := q.sc
  obtain ⟨i, j, rfl, e⟩ := i2_inv h2
  have := sc_inj e; subst this
  cases h1 with | cons k ks => cases ks with | cons k2 ks => cases ks; exact ⟨i, j, by rw [k.vint, k2.vint], h3 _ _ rfl rfl (.int _)⟩
theorem min_ok (hc : X.calm = true) : CallR X (.builtin "min") (fun xs H Q => rP C (biD .min) xs H Q) := CallR.imp (call_min2 hc) fun xs H Q q => by
  obtain ⟨ds, t, h1, h2, h3⟩ := q.sc
  obtain ⟨i, j, rfl, e⟩ := i2_inv h2
  have := sc_inj e; subst this
  cases h1 with | cons k ks => cases ks with | cons k2 ks => cases ks; exact ⟨i, j, by rw [k.vint, k2.vint], h3 _ _ rfl rfl (.int _)⟩
theorem abs_ok : CallR X (.builtin "abs") (fun xs H Q => rP C (biD .abs) xs H Q) := CallR.imp call_abs fun xs H Q q => by
  obtain ⟨ds, t, h1, h2, h3⟩ := q.sc
  obtain ⟨i, rfl, e⟩ := i1_inv h2
  have := sc_inj e; subst this
  cases h1 with | cons k ks => cases ks; exact ⟨i, by rw [k.vint], h3 _ _ rfl rfl (.int _)⟩
theorem bi_ok (hc : X.calm = true) (hK : X.K = C.K) : ∀ b : Bi, CallR X b.val (fun xs H Q => rP C (biD b) xs H Q)
  | .len => len_ok hK
  | .int => int_ok
  | .str => str_ok
  | .list => list_ok hK
  | .tuple => tuple_ok
  | .sum => sum_ok hc
  | .any => any_ok hc
  | .all => all_ok hc
  | .max => max_ok hc
  | .min => min_ok hc
  | .abs => abs_ok
end
/-! ### methods of texts -/
inductive Mt where
  | split | join | startswith | endswith | find | find3 | strip | rstrip | partition | count
  deriving DecidableEq
def Mt.name : Mt → Str
  | .split => "split" | .join => "join" | .startswith => "startswith" | .endswith => "endswith" | .find => "find" | .find3 => "find" | .strip => "strip" | .rstrip => "rstrip" | .partition => "partition" | .count => "count"
def Mt.id : Mt → String
  | .split => "str.split" | .join => "str.join" | .startswith => "str.startswith" | .endswith => "str.endswith" | .find => "str.find" | .find3 => "str.find" | .strip => "str.strip" | .rstrip => "str.rstrip" | .partition => "str.partition" | .count => "str.count"
def splitD (a b : List Nat) : List (List Nat) := TL.spl b 0 [] a
def partD (a b : List Nat) : List Nat × List Nat × List Nat := match TL.par b [] a with | some (x, y) => (x, b, y) | none => (a, [], [])
def mtD (m : Mt) : List D → Option T :=
  match m with
  | .split => s2 fun a b => iff (b ≠ [] ∧ b.all (· < 256) = true ∧ a.length + 2 ≤ SZ) (some (.lst (((splitD a b).map D.str).map .sh)))
  | .join => fun xs => match xs with
    | [.str a, .lst ys] => match strEq ys with
      | some ss => iff ((ss.map List.length).sum + ss.length * a.length ≤ SZ) (sc (.str (TL.joinL a ss)))
      | none => none
    | _ => none
  | .startswith => s2 fun a b => sc (.bl (Txt.startswith (st a) (st b)))
  | .endswith => s2 fun a b => sc (.bl (Txt.endswith (st a) (st b)))
  | .find => s2 fun a b => sc (.int (Txt.find (st a) (st b)))
  | .find3 => fun xs => match xs with
    | [.str a, .str b, .int i] => sc (.int (Txt.find3 (st a) (st b) i))
    | _ => none
  | .strip => s2 fun a b => iff (a.length ≤ SZ) (sc (txt (Txt.stripChars (st a) (st b))))
  | .rstrip => s2 fun a b => iff (a.length ≤ SZ) (sc (txt (Txt.rstripChars (st a) (st b))))
  | .partition => s2 fun a b => iff (b ≠ [] ∧ a.length ≤ SZ) (sc (.tup [.str (partD a b).1, .str (partD a b).2.1, .str (partD a b).2.2]))
  | .count => s2 fun a b => sc (.int (Txt.count (st a) (st b)))
section
variable {X : Cx} {C : Cfg} {H : Hp}
theorem mt_s2 {id : String} {g : Str → Str → D} {ff : List Nat → List Nat → Option T} {gv : Str → Str → V} {cd : Str → Str → Prop} (h : MtR X id (fun x xs H Q => ∃ a b, x = .str a ∧ xs = [.str b] ∧ cd a b ∧ Q (gv a b) H))
    (hf : ∀ a b t, ff a b = some t → cd (st a) (st b) ∧ t = .sh (g (st a) (st b))) (hd : ∀ a b (H : Hp), Dat C H (gv a b) (g a b)) (hn : ∀ a b, noL (g a b) = true) : MtR X id (fun x xs H Q => rP C (s2 ff) (x :: xs) H Q) := MtR.imp h fun x xs H Q q => by
  obtain ⟨ds, t, h1, h2, h3⟩ := q.sc
  obtain ⟨i, j, rfl, e⟩ := s2_inv h2
  obtain ⟨c1, rfl⟩ := hf i j t e
  cases h1 with
  | cons k ks =>
    cases ks with
    | cons k2 ks =>
      cases ks
      exact ⟨st i, st j, k.vstr, by rw [k2.vstr], c1, h3 _ _ rfl (hn _ _) (hd _ _ _)⟩
theorem mt_s2' {id : String} {g : Str → Str → D} {ff : List Nat → List Nat → Option T} {gv : Str → Str → V} (h : MtR X id (fun x xs H Q => ∃ a b, x = .str a ∧ xs = [.str b] ∧ Q (gv a b) H))
    (hf : ∀ a b t, ff a b = some t → t = .sh (g (st a) (st b))) (hd : ∀ a b (H : Hp), Dat C H (gv a b) (g a b)) (hn : ∀ a b, noL (g a b) = true) : MtR X id (fun x xs H Q => rP C (s2 ff) (x :: xs) H Q) :=
  mt_s2 (cd := fun _ _ => True) (MtR.imp h fun x xs H Q ⟨a, b, h1, h2, _, h3⟩ => ⟨a, b, h1, h2, h3⟩) (fun a b t e => ⟨trivial, hf a b t e⟩) hd hn
theorem split_ok : MtR X "str.split" (fun x xs H Q => rP C (mtD .split) (x :: xs) H Q) := MtR.imp mt_split fun x xs H Q q => by
  obtain ⟨ds, t, h1, h2, h3⟩ := q.newL
  obtain ⟨a, b, rfl, e⟩ := s2_inv h2
  obtain ⟨c1, e⟩ := iff_some e
  have := (Option.some.inj e).symm
  subst this
  cases h1 with
  | cons k ks =>
    cases ks with
    | cons k2 ks =>
      cases ks
      have hs : Txt.split (st a) (st b) = (splitD a b).map st := TL.map_tl_inj (by
        rw [TL.split_spl (st a) (st b) c1.1 (TL.kind_ok (by simpa using c1.2.1)), List.map_map]
        show TL.spl b 0 [] a = _
        have : TL.tl ∘ st = id := rfl
        rw [this, List.map_id]; rfl)
      refine ⟨st a, st b, k.vstr, by rw [k2.vstr], ?_, by rw [st_len, sz_eq]; exact c1.2.2, fun p hp => ?_⟩
      · rw [st_len]
        cases b with
        | nil => exact absurd rfl c1.1
        | cons _ _ => rfl
      · rw [hs, List.map_map]
        exact h3 ((splitD a b).map (V.str ∘ st)) _ rfl (fun H' e q => Dats.strs) p hp
theorem sum_len (ss : List (List Nat)) : ((ss.map st).map (·.length)).sum = (ss.map List.length).sum := by
  rw [List.map_map]
  exact congrArg List.sum (List.map_congr_left fun s _ => st_len s)
theorem join_ok : MtR X "str.join" (fun x xs H Q => rP C (mtD .join) (x :: xs) H Q) := MtR.imp mt_join fun x xs H Q q => by
  obtain ⟨ds, t, h1, h2, h3⟩ := q.sc
  simp only [mtD] at h2
  split at h2
  · rename_i a ys
    split at h2
    · rename_i ss hs
      obtain ⟨c1, rfl⟩ := iff_inv h2
      cases h1 with
      | cons k ks =>
        cases ks with
        | cons k2 ks =>
          cases ks
          obtain ⟨p, vs, rfl, ha, hv⟩ := k2.vlst
          have := strEq_vals hv hs
          subst this
          refine ⟨st a, p, ss.map st, k.vstr, rfl, .inl (SqL.of ha), ?_, ?_⟩
          · rw [sum_len, List.length_map, st_len]; exact c1
          · have : Txt.join (st a) (ss.map st) = st (TL.joinL a ss) := TL.ext_tl (by
              rw [TL.join_eq, TL.tl_join, List.map_map]
              have : TL.tl ∘ st = id := rfl
              rw [this, List.map_id])
            rw [this]
            exact h3 _ _ rfl rfl (.str _)
    · cases h2
  · cases h2
theorem partition_ok : MtR X "str.partition" (fun x xs H Q => rP C (mtD .partition) (x :: xs) H Q) := MtR.imp mt_partition fun x xs H Q q => by
  obtain ⟨ds, t, Z, al, h1, h2, h3, h4, h5⟩ := q
  obtain ⟨a, b, rfl, e⟩ := s2_inv h4
  obtain ⟨c1, rfl⟩ := iff_inv e
  cases h1 with
  | cons k ks =>
    cases ks with
    | cons k2 ks =>
      cases ks
      refine ⟨st a, st b, k.vstr, by rw [k2.vstr], ?_, by rw [st_len, sz_eq]; exact c1.2, fun p hp => ?_⟩
      · rw [st_len]
        cases b with
        | nil => exact absurd rfl c1.1
        | cons _ _ => rfl
      · have hpar := TL.partition_par (st a) (st b) c1.1
        have e3 : Txt.partition (st a) (st b) = (st (partD a b).1, st (partD a b).2.1, st (partD a b).2.2) := by
          rw [hpar]
          show (match TL.par b [] a with | some (x, y) => (st x, st b, st y) | none => (st a, Str.empty, Str.empty)) = _
          unfold partD
          split
          · rfl
          · rfl
        rw [e3]
        have hv : ∀ H' : Hp, Dats C H' [sv (partD a b).1, sv (partD a b).2.1, sv (partD a b).2.2] [.str (partD a b).1, .str (partD a b).2.1, .str (partD a b).2.2] := fun H' => .cons (.str _) (.cons (.str _) (.cons (.str _) .nil))
        exact h5 _ _ _ (Post.newU h3 (hv H) (fun _ => hv _) hp)
theorem find3_ok : MtR X "str.find" (fun x xs H Q => rP C (mtD .find3) (x :: xs) H Q) := MtR.imp mt_find3 fun x xs H Q q => by
  obtain ⟨ds, t, h1, h2, h3⟩ := q.sc
  simp only [mtD] at h2
  split at h2
  · rename_i a b i
    have := sc_inj h2; subst this
    cases h1 with
    | cons k ks => cases ks with | cons k2 ks => cases ks with | cons k3 ks => cases ks; exact ⟨st a, st b, i, k.vstr, by rw [k2.vstr, k3.vint], h3 _ _ rfl rfl (.int _)⟩
  · cases h2
theorem mt_ok : ∀ m : Mt, MtR X m.id (fun x xs H Q => rP C (mtD m) (x :: xs) H Q)
  | .split => split_ok
  | .join => join_ok
  | .startswith => mt_s2' (g := fun a b => .bl (Txt.startswith a b)) mt_startswith (fun a b t e => sc_inj e) (fun _ _ _ => .bl _) fun _ _ => rfl
  | .endswith => mt_s2' (g := fun a b => .bl (Txt.endswith a b)) mt_endswith (fun a b t e => sc_inj e) (fun _ _ _ => .bl _) fun _ _ => rfl
  | .find => mt_s2' (g := fun a b => .int (Txt.find a b)) mt_find (fun a b t e => sc_inj e) (fun _ _ _ => .int _) fun _ _ => rfl
  | .find3 => find3_ok
  | .strip => mt_s2 (cd := fun a _ => a.length ≤ sizeLine) (g := fun a b => txt (Txt.stripChars a b)) mt_stripChars (fun a b t e => ⟨by rw [st_len, sz_eq]; exact (iff_inv e).1, (iff_inv e).2⟩) (fun _ _ _ => .txt _) fun _ _ => rfl
  | .rstrip => mt_s2 (cd := fun a _ => a.length ≤ sizeLine) (g := fun a b => txt (Txt.rstripChars a b)) mt_rstripChars (fun a b t e => ⟨by rw [st_len, sz_eq]; exact (iff_inv e).1, (iff_inv e).2⟩) (fun _ _ _ => .txt _) fun _ _ => rfl
  | .partition => partition_ok
  | .count => mt_s2' (g := fun a b => .int (Txt.count a b)) mt_count (fun a b t e => sc_inj e) (fun _ _ _ => .int _) fun _ _ => rfl
theorem mt_slot : ∀ m : Mt, Slot "str" m.name m.id ∧ typeOf (.builtin m.id) = pure (.type "method_descriptor")
  | .split => ⟨F.slot_str_split, F.type_str_split⟩
  | .join => ⟨F.slot_str_join, F.type_str_join⟩
  | .startswith => ⟨F.slot_str_startswith, F.type_str_startswith⟩
  | .endswith => ⟨F.slot_str_endswith, F.type_str_endswith⟩
  | .find => ⟨F.slot_str_find, F.type_str_find⟩
  | .find3 => ⟨F.slot_str_find, F.type_str_find⟩
  | .strip => ⟨F.slot_str_strip, F.type_str_strip⟩
  | .rstrip => ⟨F.slot_str_rstrip, F.type_str_rstrip⟩
  | .partition => ⟨F.slot_str_partition, F.type_str_partition⟩
  | .count => ⟨F.slot_str_count, F.type_str_count⟩
theorem mtD_str {m : Mt} {ds : List D} {t : T} (h : mtD m ds = some t) : ∃ s r, ds = .str s :: r := by
  cases m <;> simp only [mtD] at h
  all_goals first
    | (obtain ⟨a, b, rfl, _⟩ := s2_inv h; exact ⟨_, _, rfl⟩)
    | (split at h
       · exact ⟨_, _, rfl⟩
       · cases h)
end
end Eng
/-! Eng E: the language of expressions: what it reckons, and which text it is. -/
namespace Eng
open PySem L2
inductive Tg where
  | nm (i : Nat) | tp (is : List Nat)
mutual
inductive E where
  | var (i : Nat) | cst (d : D) | glb (x : Str) (d : D)
  | bin (op : Operator) (a b : E) | neg (a : E)
  | cmp (op : CmpOp) (a b : E) | chn (op1 op2 : CmpOp) (a b c : E)
  | and (a b : E) | or (a b : E) | one (a : E) | not (a : E)
  | ife (c a b : E)
  | tup (es : Es) | lst (es : Es)
  | idx (a b : E) | slc (a : E) (lo hi : Eo) | fld (a : E) (f : Str) (cs : List Str)
  | cal (f : Str) (F : List D → Option T) (dds : List D) (es : Es)
  | bi (b : Bi) (es : Es) | mth (m : Mt) (a : E) (es : Es)
  | lc (own : List (Str × Nat)) (tg : Tg) (it : I) (c : Eo) (e : E)
  | isi (a : E) (x : Str) (t : String)
inductive Es where
  | nil | cons (e : E) (es : Es)
inductive Eo where
  | non | som (e : E)
inductive I where
  | seq (e : E) | rng1 (e : E) | rng2 (a b : E) | rngd (a b c : E) | enm (e : E) | zip (a b : E)
end
/-! ### data slots -/
abbrev Dl := List (Option D)
def dl (ρ : Rho) : Dl := ρ.map (Option.map T.d)
mutual
@[simp] def T.own : T → Bool
  | .sh _ => false
  | .tup ts => T.owns ts
  | _ => true
@[simp] def T.owns : List T → Bool
  | [] => false
  | t :: ts => t.own || T.owns ts
end
def ow (ρ : Rho) (i : Nat) : Bool := match ρ[i]? with
  | some (some t) => t.own
  | _ => false
@[simp] def wipeD {α : Type} (δ : List (Option α)) : List Nat → List (Option α)
  | [] => δ
  | v :: vs => (wipeD δ vs).set v none
@[simp] def setAll : List Nat → List D → Dl → Option Dl
  | [], [], δ => some δ
  | i :: is, d :: ds, δ => setAll is ds (δ.set i (some d))
  | _, _, _ => none
@[simp] def asgD : Tg → D → Dl → Option Dl
  | .nm i, d, δ => some (δ.set i (some d))
  | .tp is, .tup ds, δ => setAll is ds δ
  | .tp is, .lst ds, δ => setAll is ds δ
  | .tp _, _, _ => none
/-! ### what an expression is worth -/
def idxD : List D → Option T := fun xs => match xs with
  | [.lst ys, .int i] => (atI ys i).map .sh
  | [.tup ys, .int i] => (atI ys i).map .sh
  | [.scr ns, .int i] => (atI ns i).map fun n => .sh (.int n)
  | [.str s, .int i] => iff (s.length ≤ SZ) ((atI s i).map fun c => .sh (.str [c]))
  | _ => none
def cutL {α : Type} (xs : List α) (lo hi : Option Int) : List α := (xs.drop (HT.sIx xs.length 0 lo)).take (HT.sIx xs.length xs.length hi - HT.sIx xs.length 0 lo)
def slcD (lo hi : Option Int) : List D → Option T := fun xs => match xs with
  | [.lst ys] => some (.lst ((cutL ys lo hi).map .sh))
  | [.scr ns] => some (.lst (((cutL ns lo hi).map D.int).map .sh))
  | [.str s] => iff (s.length ≤ SZ) (sc (.str (cutL s lo hi)))
  | _ => none
def fldD (f : Str) (cs : List Str) : D → Option T
  | .ins c ns xs => if cs.contains c then ((ns.zip xs).lookup f).map .sh else none
  | _ => none
def blD : D → Option Bool
  | .bl b => some b
  | _ => none
def tyD : D → Option String
  | .non => some "NoneType" | .bl _ => some "bool" | .int _ => some "int" | .str _ => some "str" | .lst _ => some "list" | .tup _ => some "tuple" | .dic .. => some "dict"
  | _ => none
def itemsD : D → Option (List D)
  | .lst ys => some ys
  | .tup ys => some ys
  | .scr ns => some (ns.map .int)
  | .str s => some (s.map fun c => .str [c])
  | _ => none
def rngD (lo n : Int) : Option (List D) := if -(2 ^ 62) ≤ lo ∧ lo < 2 ^ 62 ∧ -(2 ^ 62) ≤ n ∧ n < 2 ^ 62 then some ((List.range (n - lo).toNat).map fun (i : Nat) => .int (lo + i)) else none
/-- range(lo, n, -1) -/
def rgdD (lo n : Int) : Option (List D) := if -(2 ^ 62) ≤ lo ∧ lo < 2 ^ 62 ∧ -(2 ^ 62) ≤ n ∧ n < 2 ^ 62 then some ((List.range (lo - n).toNat).map fun (i : Nat) => .int (lo - i)) else none
def rgdK : D → D → D → Option (List D)
  | .int l, .int n, .int k => if k = -1 then rgdD l n else none
  | _, _, _ => none
def enmD : D → Option (List D)
  | .lst ys => some (ys.mapIdx fun i y => .tup [.int i, y])
  | .str s => some (s.mapIdx fun i c => .tup [.int i, .str [c]])
  | _ => none
def zipD : D → D → Option (List D)
  | .lst xs, .lst ys => some (List.zipWith (fun x y => .tup [x, y]) xs ys)
  | .lst xs, .str s => some (List.zipWith (fun x c => .tup [x, .str [c]]) xs s)
  | _, _ => none
/-- a comprehension's turns: f tells whether an item is kept, and what of it -/
@[simp] def lcGo (f : D → Option (Option T)) : List D → Option (List T)
  | [] => some []
  | d :: ds => (f d).bind fun o => (lcGo f ds).map fun ts => match o with
    | some t => t :: ts
    | none => ts
mutual
def ev : E → Dl → Option T
  | .var i, δ => match δ[i]? with
    | some (some d) => some (.sh d)
    | _ => none
  | .cst d, _ => some (.sh d)
  | .glb _ d, _ => some (.sh d)
  | .bin op a b, δ => (ev a δ).bind fun x => (ev b δ).bind fun y => binD op [x.d, y.d]
  | .neg a, δ => (ev a δ).bind fun x => i1 (fun i => sc (.int (-i))) [x.d]
  | .cmp op a b, δ => (ev a δ).bind fun x => (ev b δ).bind fun y => cmpD op [x.d, y.d]
  | .chn op1 op2 a b c, δ => (ev a δ).bind fun x => (ev b δ).bind fun y => (cmpD op1 [x.d, y.d]).bind fun r => (blD r.d).bind fun k =>
    if k then (ev c δ).bind fun z => cmpD op2 [y.d, z.d] else sc (.bl false)
  | .and a b, δ => (ev a δ).bind fun x => (blD x.d).bind fun k => if k then (ev b δ).bind fun y => (blD y.d).bind fun k' => sc (.bl k') else sc (.bl false)
  | .or a b, δ => (ev a δ).bind fun x => (blD x.d).bind fun k => if k then sc (.bl true) else (ev b δ).bind fun y => (blD y.d).bind fun k' => sc (.bl k')
  | .one a, δ => ev a δ
  | .not a, δ => (ev a δ).bind fun x => (blD x.d).bind fun k => sc (.bl (!k))
  | .ife c a b, δ => (tst c δ).bind fun k => if k then ev a δ else ev b δ
  | .tup es, δ => (evs es δ).bind fun ts => if ts.length ≤ SZ then some (.tup ts) else none
  | .lst es, δ => (evs es δ).bind fun ts => if ts.length ≤ SZ then some (.lst ts) else none
  | .idx a b, δ => (ev a δ).bind fun x => (ev b δ).bind fun y => idxD [x.d, y.d]
  | .slc a lo hi, δ => (ev a δ).bind fun x => (evo lo δ).bind fun l => (evo hi δ).bind fun h => slcD l h [x.d]
  | .fld a f cs, δ => (ev a δ).bind fun x => fldD f cs x.d
  | .cal _ F dds es, δ => (evs es δ).bind fun ts => F (T.ds ts ++ dds)
  | .bi b es, δ => (evs es δ).bind fun ts => biD b (T.ds ts)
  | .mth m a es, δ => (ev a δ).bind fun x => (evs es δ).bind fun ts => mtD m (x.d :: T.ds ts)
  | .lc own tg it c e, δ => (evi it δ).bind fun ds => if ds.length ≤ SZ then
      (lcGo (fun d => (asgD tg d (wipeD δ (own.map (·.2)))).bind fun δ' => (tsto c δ').bind fun k => if k then (ev e δ').map some else some none) ds).map .lst else none
  | .isi a _ t, δ => (ev a δ).bind fun x => (tyD x.d).bind fun s => (kitB s t).bind fun k => sc (.bl k)
def evs : Es → Dl → Option (List T)
  | .nil, _ => some []
  | .cons e es, δ => (ev e δ).bind fun t => (evs es δ).map fun ts => t :: ts
def evo : Eo → Dl → Option (Option Int)
  | .non, _ => some none
  | .som e, δ => (ev e δ).bind fun t => match t.d with
    | .int i => some (some i)
    | _ => none
def evi : I → Dl → Option (List D)
  | .seq e, δ => (ev e δ).bind fun t => itemsD t.d
  | .rng1 e, δ => (ev e δ).bind fun t => match t.d with
    | .int n => rngD 0 n
    | _ => none
  | .rng2 a b, δ => (ev a δ).bind fun t => (ev b δ).bind fun u => match t.d, u.d with
    | .int l, .int n => rngD l n
    | _, _ => none
  | .rngd a b c, δ => (ev a δ).bind fun t => (ev b δ).bind fun u => (ev c δ).bind fun v => rgdK t.d u.d v.d
  | .enm e, δ => (ev e δ).bind fun t => enmD t.d
  | .zip a b, δ => (ev a δ).bind fun t => (ev b δ).bind fun u => zipD t.d u.d
/-- as a test -/
def tst : E → Dl → Option Bool
  | .and a b, δ => (tst a δ).bind fun k => if k then tst b δ else some false
  | .or a b, δ => (tst a δ).bind fun k => if k then some true else tst b δ
  | .one a, δ => tst a δ
  | .not a, δ => (tst a δ).map fun k => !k
  | .cmp op a b, δ => (ev a δ).bind fun x => (ev b δ).bind fun y => (cmpD op [x.d, y.d]).bind fun r => blD r.d
  | .chn op1 op2 a b c, δ => (ev a δ).bind fun x => (ev b δ).bind fun y => (cmpD op1 [x.d, y.d]).bind fun r => (blD r.d).bind fun k =>
    if k then (ev c δ).bind fun z => (cmpD op2 [y.d, z.d]).bind fun r => blD r.d else some false
  | .var i, δ => match δ[i]? with
    | some (some d) => truD d
    | _ => none
  | .cst d, _ => truD d
  | .idx a b, δ => (ev a δ).bind fun x => (ev b δ).bind fun y => (idxD [x.d, y.d]).bind fun r => truD r.d
  | .fld a f cs, δ => (ev a δ).bind fun x => (fldD f cs x.d).bind fun r => truD r.d
  | .cal _ F dds es, δ => (evs es δ).bind fun ts => (F (T.ds ts ++ dds)).bind fun r => truD r.d
  | .bi b es, δ => (evs es δ).bind fun ts => (biD b (T.ds ts)).bind fun r => truD r.d
  | .mth m a es, δ => (ev a δ).bind fun x => (evs es δ).bind fun ts => (mtD m (x.d :: T.ds ts)).bind fun r => truD r.d
  | .isi a _ t, δ => (ev a δ).bind fun x => (tyD x.d).bind fun s => kitB s t
  | _, _ => none
@[simp] def tsto : Eo → Dl → Option Bool
  | .non, _ => some true
  | .som e, δ => tst e δ
end
/-! ### the names whose things the worth may hold -/
@[simp] def Bi.sca : Bi → Bool
  | .list | .tuple => false
  | _ => true
@[simp] def Mt.sca : Mt → Bool
  | .split | .partition => false
  | _ => true
@[simp] def opSca : Operator → Bool
  | .Add | .Mult => false
  | _ => true
mutual
@[simp] def avs : E → List Nat
  | .var i => [i]
  | .bin op a b => if opSca op then [] else avs a ++ avs b
  | .one a => avs a
  | .ife _ a b => avs a ++ avs b
  | .tup es => avss es
  | .lst es => avss es
  | .idx a _ => avs a
  | .slc a _ _ => avs a
  | .fld a _ _ => avs a
  | .cal _ _ _ es => avss es
  | .bi b es => if b.sca then [] else avss es
  | .mth m a es => if m.sca then [] else avs a ++ avss es
  | .lc _ _ it _ e => avi it ++ avs e
  | _ => []
@[simp] def avss : Es → List Nat
  | .nil => []
  | .cons e es => avs e ++ avss es
@[simp] def avi : I → List Nat
  | .seq e => avs e
  | .enm e => avs e
  | .zip a b => avs a ++ avs b
  | _ => []
end
def sal (vs : List Nat) (o : Nat → Bool) : Bool := vs.all fun i => !o i
/-! ### which text it is -/
def visB (sc : Scope) (x : Str) : Bool := match sc.names.lookup x with
  | some .local => true
  | some .cell => true
  | some .free => true
  | _ => false
def locB (sc : Scope) (x : Str) : Bool := match sc.names.lookup x with
  | some .local => true
  | some .cell => true
  | _ => false
def glB (sc : Scope) (x : Str) : Bool := match sc.names.lookup x with
  | some .globalImplicit => true
  | _ => false
def nmB (x : Str) : Bool := !(x == ("__debug__" : Str)) && !(x == ("__classdict__" : Str)) && !decide (x = ("__name__" : Str))
def mC : D → Const → Bool
  | .non, .none => true
  | .bl b, .bool c => b == c
  | .int i, .int j => i == j
  | .str s, .str x => decide (x = st s)
  | _, _ => false
/-- what a method is asked of: not super() -/
def baseB : Expr → Bool
  | .Call (.Name _ _) [] [] _ => false
  | _ => true
def mNms (N : List Str) (sc : Scope) : List Nat → List Expr → Bool
  | [], [] => true
  | i :: is, .Name x _ :: es => decide (N[i]? = some x) && locB sc x && mNms N sc is es
  | _, _ => false
def mTg (N : List Str) (sc : Scope) : Tg → Expr → Bool
  | .nm i, .Name x _ => decide (N[i]? = some x) && locB sc x
  | .tp is, .Tuple es _ _ => mNms N sc is es
  | _, _ => false
@[simp] def Tg.ix : Tg → List Nat
  | .nm i => [i]
  | .tp is => is
def isiB (t : String) : Bool := t == "int" || t == "str" || t == "list" || t == "tuple" || t == "bool" || t == "dict"
def isTup : Expr → Bool
  | .Tuple _ _ _ => true
  | _ => false
mutual
def mE (N : List Str) (sc : Scope) : E → Expr → Bool
  | .var i, e' => match e' with
    | .Name x _ => decide (N[i]? = some x) && visB sc x && nmB x
    | _ => false
  | .cst d, e' => match e' with
    | .Constant c _ _ => mC d c
    | _ => false
  | .glb x _, e' => match e' with
    | .Name y _ => decide (x = y) && glB sc x && nmB x
    | _ => false
  | .bin op a b, e' => match e' with
    | .BinOp a' op' b' _ => decide (op = op') && mE N sc a a' && mE N sc b b'
    | _ => false
  | .neg a, e' => match e' with
    | .UnaryOp .USub a' _ => mE N sc a a'
    | _ => false
  | .cmp op a b, e' => match e' with
    | .Compare a' [op'] [b'] _ => decide (op = op') && mE N sc a a' && mE N sc b b'
    | _ => false
  | .chn op1 op2 a b c, e' => match e' with
    | .Compare a' [o1, o2] [b', c'] _ => decide (op1 = o1) && decide (op2 = o2) && mE N sc a a' && mE N sc b b' && mE N sc c c'
    | _ => false
  | .and a b, e' => match e' with
    | .BoolOp .And (a' :: b' :: r) p => mE N sc a a' && mE N sc b (.BoolOp .And (b' :: r) p)
    | _ => false
  | .or a b, e' => match e' with
    | .BoolOp .Or (a' :: b' :: r) p => mE N sc a a' && mE N sc b (.BoolOp .Or (b' :: r) p)
    | _ => false
  | .one a, e' => match e' with
    | .BoolOp _ [a'] _ => mE N sc a a'
    | _ => false
  | .not a, e' => match e' with
    | .UnaryOp .Not a' _ => mE N sc a a'
    | _ => false
  | .ife c a b, e' => match e' with
    | .IfExp c' a' b' _ => mE N sc c c' && mE N sc a a' && mE N sc b b'
    | _ => false
  | .tup es, e' => match e' with
    | .Tuple es' _ _ => mEs N sc es es'
    | _ => false
  | .lst es, e' => match e' with
    | .List es' _ => mEs N sc es es'
    | _ => false
  | .idx a b, e' => match e' with
    | .Subscript a' b' _ => mE N sc a a' && mE N sc b b'
    | _ => false
  | .slc a lo hi, e' => match e' with
    | .Subscript a' (.Slice lo' hi' none _) _ => mE N sc a a' && mEo N sc lo lo' && mEo N sc hi hi'
    | _ => false
  | .fld a f _, e' => match e' with
    | .Attribute a' f' _ => decide (f = f') && baseB a' && mE N sc a a'
    | _ => false
  | .cal f _ _ es, e' => match e' with
    | .Call (.Name f' _) es' [] _ => decide (f = f') && glB sc f && nmB f && mEs N sc es es'
    | _ => false
  | .bi b es, e' => match e' with
    | .Call (.Name f' _) (a' :: es') [] _ => decide (b.name = f') && glB sc b.name && nmB b.name && mEs N sc es (a' :: es')
    | _ => false
  | .mth m a es, e' => match e' with
    | .Call (.Attribute o n ap) (a' :: es') [] cp => decide (m.name = n) && baseB o && (ap.endLine == cp.line) && decide (es'.length < 20) && mE N sc a o && mEs N sc es (a' :: es')
    | _ => false
  | .lc own tg it c e, e' => match e' with
    | .ListComp elt [⟨tgt, iter, ifs, isa⟩] scope _ => decide (isa = 0) && blkC N sc scope own && mTg N scope tg tgt && (tg.ix.all fun i => (own.map (·.2)).contains i) && mI N sc it tgt iter && mIfs N scope c ifs && mE N scope e elt
    | _ => false
  | .isi a x t, e' => match e' with
    | .Call (.Name f _) [a', .Name y _] [] _ => decide (f = ("isinstance" : Str)) && glB sc f && decide (x = y) && glB sc y && nmB y && isiB t && decide (x = Str.ofString t) && mE N sc a a'
    | _ => false
def mEs (N : List Str) (sc : Scope) : Es → List Expr → Bool
  | .nil, es' => match es' with
    | [] => true
    | _ => false
  | .cons e es, es' => match es' with
    | e' :: r => mE N sc e e' && mEs N sc es r
    | _ => false
def mEo (N : List Str) (sc : Scope) : Eo → Option Expr → Bool
  | .non, o => match o with
    | none => true
    | _ => false
  | .som e, o => match o with
    | some e' => mE N sc e e'
    | _ => false
def mIfs (N : List Str) (sc : Scope) : Eo → List Expr → Bool
  | .non, o => match o with
    | [] => true
    | _ => false
  | .som e, o => match o with
    | [e'] => mE N sc e e'
    | _ => false
def mI (N : List Str) (sc : Scope) : I → Expr → Expr → Bool
  | .seq e, _, e' => mE N sc e e'
  | .rng1 e, _, e' => match e' with
    | .Call (.Name f _) [a] [] _ => decide (f = ("range" : Str)) && glB sc f && mE N sc e a
    | _ => false
  | .rng2 e1 e2, _, e' => match e' with
    | .Call (.Name f _) [a, b] [] _ => decide (f = ("range" : Str)) && glB sc f && mE N sc e1 a && mE N sc e2 b
    | _ => false
  | .rngd e1 e2 e3, _, e' => match e' with
    | .Call (.Name f _) [a, b, c] [] _ => decide (f = ("range" : Str)) && glB sc f && mE N sc e1 a && mE N sc e2 b && mE N sc e3 c
    | _ => false
  | .enm e, tg, e' => match e' with
    | .Call (.Name f _) [a] [] _ => decide (f = ("enumerate" : Str)) && glB sc f && isTup tg && mE N sc e a
    | _ => false
  | .zip e1 e2, tg, e' => match e' with
    | .Call (.Name f _) [a, b] [] _ => decide (f = ("zip" : Str)) && glB sc f && isTup tg && mE N sc e1 a && mE N sc e2 b
    | _ => false
end
end Eng
/-! Eng F: the rules' frame: what a place in the text is, what the slots do. -/
namespace Eng
open PySem L2
structure GC where
  P : Program
  w : World
  C : Cfg
  base : Heap
  N : List Str
  k : Nat
/-- a def that is called: its promise is F -/
def CallOk (G : GC) (f : Str) (F : List D → Option T) (dds : List D) : Prop :=
  ∃ (fa : Addr) (fd : FuncData) (ps : List Str) (dvs : List V) (ds : List Value), G.C.mg f = some (.ref fa) ∧ PySem.W.keepIn G.C.K (.ref fa) = true ∧
    FnOk G.P G.w G.C.K G.C.mg G.base CX0 G.k fa fd ps (pureSp G.C F) ∧ Binds G.C.K fd ps ds ∧ Vals dvs ds ∧ ∀ H, Dats G.C H dvs dds
def FldOk (G : GC) (f : Str) (c : Str) : Prop := ∀ A, G.C.mg c = some (.ref A) → Cls G.C.K A ∧ NoAttr G.C.K A f
def GlbOk (G : GC) (x : Str) (d : D) : Prop := ∃ (u : Value) (v : V), G.C.mg x = some u ∧ RelV v u ∧ ∀ H, Dat G.C H v d
def NoG (G : GC) (x : Str) : Prop := G.C.mg x = none
mutual
def Nd (G : GC) : E → Prop
  | .glb x d => GlbOk G x d
  | .bin _ a b => Nd G a ∧ Nd G b
  | .neg a => Nd G a
  | .cmp _ a b => Nd G a ∧ Nd G b
  | .chn _ _ a b c => Nd G a ∧ Nd G b ∧ Nd G c
  | .and a b => Nd G a ∧ Nd G b
  | .or a b => Nd G a ∧ Nd G b
  | .one a => Nd G a
  | .not a => Nd G a
  | .ife c a b => Nd G c ∧ Nd G a ∧ Nd G b
  | .tup es => Nds G es
  | .lst es => Nds G es
  | .idx a b => Nd G a ∧ Nd G b
  | .slc a lo hi => Nd G a ∧ Ndo G lo ∧ Ndo G hi
  | .fld a f cs => Nd G a ∧ ∀ c, c ∈ cs → FldOk G f c
  | .cal f F dds es => CallOk G f F dds ∧ Nds G es
  | .bi b es => NoG G b.name ∧ Nds G es
  | .mth _ a es => Nd G a ∧ Nds G es
  | .lc _ _ it c e => Ndi G it ∧ Ndo G c ∧ Nd G e
  | .isi a x _ => NoG G "isinstance" ∧ NoG G x ∧ Nd G a
  | _ => True
def Nds (G : GC) : Es → Prop
  | .nil => True
  | .cons e es => Nd G e ∧ Nds G es
def Ndo (G : GC) : Eo → Prop
  | .non => True
  | .som e => Nd G e
def Ndi (G : GC) : I → Prop
  | .seq e => Nd G e
  | .rng1 e => NoG G "range" ∧ Nd G e
  | .rng2 a b => NoG G "range" ∧ Nd G a ∧ Nd G b
  | .rngd a b c => NoG G "range" ∧ Nd G a ∧ Nd G b ∧ Nd G c
  | .enm e => NoG G "enumerate" ∧ Nd G e
  | .zip a b => NoG G "zip" ∧ Nd G a ∧ Nd G b
end
/-- a place in the text: a def's body, a comprehension's block -/
structure Good (G : GC) (sc : Scope) (X : Cx) : Prop where
  prog : X.prog = G.P
  w : X.w = G.w
  K : X.K = G.C.K
  mg : X.mg = G.C.mg
  base : X.base = G.base
  N : X.N = G.N
  nd : G.N.Nodup
  calm : X.calm = true
  room : Room G.k X.A
  kind : X.env.scope.kind = .function
  vis : ∀ x, visB sc x = true → Vis X.env.scope x
  gl : ∀ x, glB sc x = true → Gl X x
  loc : ∀ x, locB sc x = true → Loc X.env.scope x ∧ (X.fn x = true ∨ X.env.scope.names.lookup x = some .local)
  fr : ∀ x, sc.names.lookup x = some .cell ∨ sc.names.lookup x = some .free → X.env.scope.names.lookup x = some .cell ∨ X.env.scope.names.lookup x = some .free
theorem lookup_relabel_keep {env : Env} : ∀ {names : List (Str × NameKind)} {x : Str} {k : NameKind}, k ≠ .free → names.lookup x = some k →
    (names.map fun (n, k) => if (k == NameKind.free && env.scope.kind == .function && env.kindOf n == some .cell) then (n, NameKind.cell) else (n, k)).lookup x = some k
  | [], _, _, _, h => by simp at h
  | (n, k₀) :: r, x, k, hk, h => by
    have ih := @lookup_relabel_keep env r x k hk
    show List.lookup x ((if (k₀ == NameKind.free && env.scope.kind == .function && env.kindOf n == some .cell) = true then (n, NameKind.cell) else (n, k₀)) :: (r.map _)) = some k
    cases hx : x == n with
    | true =>
      simp only [List.lookup_cons, hx] at h
      cases h
      have : ¬ (k₀ == NameKind.free && env.scope.kind == .function && env.kindOf n == some .cell) = true := by
        intro z
        have z := (Bool.and_eq_true_iff.mp (Bool.and_eq_true_iff.mp z).1).1
        exact hk (by cases k₀ <;> first | rfl | cases z)
      rw [if_neg this]
      simp [List.lookup_cons, hx]
    | false =>
      simp only [List.lookup_cons, hx] at h
      split
      · simp only [List.lookup_cons, hx]; exact ih h
      · simp only [List.lookup_cons, hx]; exact ih h
theorem lookup_relabel_free {env : Env} : ∀ {names : List (Str × NameKind)} {x : Str}, names.lookup x = some .free →
    (names.map fun (n, k) => if (k == NameKind.free && env.scope.kind == .function && env.kindOf n == some .cell) then (n, NameKind.cell) else (n, k)).lookup x = some .free ∨
    (names.map fun (n, k) => if (k == NameKind.free && env.scope.kind == .function && env.kindOf n == some .cell) then (n, NameKind.cell) else (n, k)).lookup x = some .cell
  | [], _, h => by simp at h
  | (n, k₀) :: r, x, h => by
    have ih := @lookup_relabel_free env r x
    show List.lookup x ((if (k₀ == NameKind.free && env.scope.kind == .function && env.kindOf n == some .cell) = true then (n, NameKind.cell) else (n, k₀)) :: (r.map _)) = some .free ∨
      List.lookup x ((if (k₀ == NameKind.free && env.scope.kind == .function && env.kindOf n == some .cell) = true then (n, NameKind.cell) else (n, k₀)) :: (r.map _)) = some .cell
    cases hx : x == n with
    | true =>
      simp only [List.lookup_cons, hx] at h
      cases h
      split
      · right; simp [List.lookup_cons, hx]
      · left; simp [List.lookup_cons, hx]
    | false =>
      simp only [List.lookup_cons, hx] at h
      split
      · simp only [List.lookup_cons, hx]; exact ih h
      · simp only [List.lookup_cons, hx]; exact ih h
theorem Good.blk {G : GC} {sc scope : Scope} {X : Cx} (g : Good G sc X) (hk : scope.kind = .function) (s : Shared) (H : Hp) (c : Addr) (cl : List (Str × Addr)) (fp : List Addr) :
    Good G scope (X.blk s H scope (compEnvC scope cl c X.env) fp) where
  prog := g.prog
  w := g.w
  K := g.K
  mg := g.mg
  base := g.base
  N := g.N
  nd := g.nd
  calm := g.calm
  room := g.room
  kind := hk
  vis := fun x h => by
    unfold visB at h
    split at h
    · rename_i q; exact .inl (lookup_relabel_keep (by decide) q)
    · rename_i q; exact .inr (.inl (lookup_relabel_keep (by decide) q))
    · rename_i q
      rcases lookup_relabel_free (env := X.env) q with z | z
      · exact .inr (.inr z)
      · exact .inr (.inl z)
    · cases h
  gl := fun x h => by
    unfold glB at h
    split at h
    · rename_i q; exact lookup_relabel_keep (env := X.env) (by decide) q
    · cases h
  loc := fun x h => by
    unfold locB at h
    split at h
    · rename_i q; exact ⟨.inl (lookup_relabel_keep (by decide) q), .inr (lookup_relabel_keep (by decide) q)⟩
    · rename_i q; exact ⟨.inr (lookup_relabel_keep (by decide) q), .inl (by show (scope.names.lookup x == some .cell) = true; rw [q]; rfl)⟩
    · cases h
  fr := fun x h => by
    rcases h with q | q
    · exact .inl (lookup_relabel_keep (env := X.env) (by decide) q)
    · exact (lookup_relabel_free (env := X.env) q).symm
theorem Good.blkOk {G : GC} {sc scope : Scope} {X : Cx} {own : List (Str × Nat)} (g : Good G sc X) (ok : BlkOk G.N sc scope own) : BlkOk X.N X.env.scope scope own :=
  ⟨ok.kind, ok.uniq, by rw [g.N]; exact ok.ix, fun y m q => g.fr _ (ok.free y m q), by rw [g.N]; exact ok.own⟩
/-! ### the slots -/
section
variable {C : Cfg} {H0 H H' : Hp} {B : Addr → Prop} {AA : Nat → List Addr} {σ : L2.St} {ρ : Rho} {As : List Addr} {v : V} {t : T} {d : D} {i : Nat}
def frzR (ρ : Rho) : Rho := ρ.map (Option.map fun t => .sh t.d)
theorem dl_frz : dl (frzR ρ) = dl ρ := by
  unfold dl frzR
  rw [List.map_map]
  refine List.map_congr_left fun o _ => ?_
  cases o <;> rfl
theorem ow_frz : ow (frzR ρ) = fun _ => false := by
  funext i
  unfold ow frzR
  rw [List.getElem?_map]
  cases ρ[i]? with
  | none => rfl
  | some o => cases o <;> rfl
theorem sal_no (vs : List Nat) : sal vs (fun _ => false) = true := by unfold sal; simp
theorem dl_get : (dl ρ)[i]? = some (some d) ↔ ∃ t, ρ[i]? = some (some t) ∧ t.d = d := by
  unfold dl
  rw [List.getElem?_map]
  cases h : ρ[i]? with
  | none => simp
  | some o => cases o <;> simp
abbrev no : Nat → List Addr := fun _ => []
theorem ZZ_no : ZZ B no = B := by
  funext a
  simp [ZZ]
theorem Rep.frz (R : Rep C H0 B AA H σ ρ) : Rep C H0 B no H σ (frzR ρ) := by
  refine ⟨R.same, R.bs, (fun i a m => by cases m), (fun _ => List.nodup_nil), (fun i j a m => by cases m), fun i t h => ?_, by unfold frzR; rw [List.length_map]; exact R.len⟩
  unfold frzR at h
  rw [List.getElem?_map] at h
  cases q : ρ[i]? with
  | none => rw [q] at h; cases h
  | some o =>
    cases o with
    | none => rw [q] at h; cases h
    | some u =>
      rw [q] at h
      have h := Option.some.inj (Option.some.inj h)
      subst h
      obtain ⟨v, h1, h2⟩ := R.slot i u q
      refine ⟨v, h1, .sh ?_⟩
      rw [ZZ_no]
      exact h2.dat (hid_mono (Same.refl _) fun a o _ z => .inl z) fun a o m e => hid_some.mpr ⟨fun z => (R.new i a m).2.2 z, e⟩
/-- as data, from the whole heap -/
theorem Rep.dat (R : Rep C H0 B AA H σ ρ) (h : (dl ρ)[i]? = some (some d)) : ∃ v, σ[i]? = some (some v) ∧ Dat C H v d := by
  obtain ⟨t, h1, rfl⟩ := dl_get.mp h
  obtain ⟨v, h2, h3⟩ := R.slot i t h1
  exact ⟨v, h2, h3.dat hid_sub fun _ _ _ e => e⟩
mutual
theorem own_shd {F H : Hp} : ∀ {v : V} {t : T} {As : List Addr}, Own C F H v t As → t.own = false → Dat C F v t.d ∧ As = []
  | _, _, _, .sh h, _ => ⟨h, rfl⟩
  | _, _, _, .lst h hs, o => by cases o
  | _, _, _, .tup h hs, o => let ⟨k1, k2⟩ := owns_shd hs o; ⟨.tup h k1, k2⟩
  | _, _, _, .ins h hm hs hl, o => by cases o
  | _, _, _, .dic h hs hl, o => by cases o
theorem owns_shd {F H : Hp} : ∀ {vs : List V} {ts : List T} {As : List Addr}, Owns C F H vs ts As → T.owns ts = false → Dats C F vs (T.ds ts) ∧ As = []
  | _, _, _, .nil, _ => ⟨.nil, rfl⟩
  | _, _, _, .cons h hs, o => by
    have o := Bool.or_eq_false_iff.mp o
    obtain ⟨k1, k2⟩ := own_shd h o.1
    obtain ⟨k3, k4⟩ := owns_shd hs o.2
    exact ⟨.cons k1 k3, by rw [k2, k4]; rfl⟩
end
/-- as data, apart from what is owned -/
theorem Rep.datS (R : Rep C H0 B AA H σ ρ) (h : (dl ρ)[i]? = some (some d)) (o : ow ρ i = false) : ∃ v, σ[i]? = some (some v) ∧ Dat C (hid H (ZZ B AA)) v d := by
  obtain ⟨t, h1, rfl⟩ := dl_get.mp h
  obtain ⟨v, h2, h3⟩ := R.slot i t h1
  refine ⟨v, h2, ?_⟩
  unfold ow at o
  rw [h1] at o
  exact (own_shd h3 o).1
def upA (AA : Nat → List Addr) (i : Nat) (As : List Addr) : Nat → List Addr := fun j => if j = i then As else AA j
theorem upA_same : upA AA i As i = As := by simp [upA]
theorem upA_ne {j : Nat} (h : j ≠ i) : upA AA i As j = AA j := by simp [upA, h]
theorem ZZ_upA : ∀ a, ZZ B (upA AA i As) a → Zp (ZZ B AA) As a := fun a q => by
  rcases q with q | ⟨j, m⟩
  · exact .inl (.inl q)
  · by_cases h : j = i
    · subst h; rw [upA_same] at m; exact .inr m
    · rw [upA_ne h] at m; exact .inl (.inr ⟨j, m⟩)
/-- a slot is stored: an owned tree of new nodes, which the other slots do not see -/
theorem Rep.store (R : Rep C H0 (Zp B As) AA H σ ρ) (nd : As.Nodup) (new : ∀ a, a ∈ As → H0 a = none ∧ ¬ B a) (o : Own C (hid H (Zp (ZZ B AA) As)) H v t As) :
    Rep C H0 B (upA AA i As) H (σ.set i (some v)) (ρ.set i (some t)) := by
  have sub : Same (hid H (Zp (ZZ B AA) As)) (hid H (ZZ B (upA AA i As))) := hid_mono (Same.refl _) fun a _ _ q => ZZ_upA a q
  refine ⟨R.same, fun a q => R.bs a (.inl q), fun j a m => ?_, fun j => ?_, fun j l a m n => ?_, fun j u h => ?_, by rw [List.length_set, List.length_set]; exact R.len⟩
  · by_cases h : j = i
    · subst h; rw [upA_same] at m; exact ⟨(new a m).1, R.bs a (.inr m), (new a m).2⟩
    · rw [upA_ne h] at m; have := R.new j a m; exact ⟨this.1, this.2.1, fun q => this.2.2 (.inl q)⟩
  · by_cases h : j = i
    · subst h; rw [upA_same]; exact nd
    · rw [upA_ne h]; exact R.nd j
  · by_cases hj : j = i
    · by_cases hl : l = i
      · rw [hj, hl]
      · subst hj; rw [upA_same] at m; rw [upA_ne hl] at n; exact absurd (.inr m) (R.new l a n).2.2
    · rw [upA_ne hj] at m
      by_cases hl : l = i
      · subst hl; rw [upA_same] at n; exact absurd (.inr n) (R.new j a m).2.2
      · rw [upA_ne hl] at n; exact R.dj j l a m n
  · by_cases hj : i = j
    · subst hj
      have hi : i < ρ.length := by
        have := (List.getElem?_eq_some_iff.mp h).1
        rwa [List.length_set] at this
      rw [List.getElem?_set_self hi] at h
      cases h
      refine ⟨v, List.getElem?_set_self (by rw [← R.len]; exact hi), ?_⟩
      rw [upA_same]
      exact o.mono sub fun _ _ => rfl
    · rw [List.getElem?_set_ne hj] at h
      obtain ⟨u', h1, h2⟩ := R.slot j u h
      refine ⟨u', by rw [List.getElem?_set_ne hj]; exact h1, ?_⟩
      rw [upA_ne (fun q => hj q.symm)]
      rw [ZZ_Zp] at h2
      exact h2.mono sub fun _ _ => rfl
/-- shared data is stored -/
theorem Rep.storeS (R : Rep C H0 B AA H σ ρ) (h : Dat C (hid H (ZZ B AA)) v d) : Rep C H0 B (upA AA i []) H (σ.set i (some v)) (ρ.set i (some (.sh d))) :=
  Rep.store (As := []) (by rw [Zp_nil]; exact R) List.nodup_nil (fun _ m => by cases m) (by rw [Zp_nil]; exact .sh h)
/-- a slot is forgotten -/
theorem Rep.forget (R : Rep C H0 B AA H σ ρ) : Rep C H0 B AA H (σ.set i none) (ρ.set i none) := by
  refine ⟨R.same, R.bs, R.new, R.nd, R.dj, fun j u h => ?_, by rw [List.length_set, List.length_set]; exact R.len⟩
  by_cases hj : i = j
  · subst hj
    have hi : i < ρ.length := by
      have := (List.getElem?_eq_some_iff.mp h).1
      rwa [List.length_set] at this
    rw [List.getElem?_set_self hi] at h
    cases h
  · rw [List.getElem?_set_ne hj] at h
    obtain ⟨u', h1, h2⟩ := R.slot j u h
    exact ⟨u', by rw [List.getElem?_set_ne hj]; exact h1, h2⟩
theorem Rep.wipe (R : Rep C H0 B AA H σ ρ) : ∀ vs : List Nat, Rep C H0 B AA H (L2.wipe σ vs) (wipeD ρ vs)
  | [] => R
  | v :: vs => (Rep.wipe R vs).forget
theorem dl_set : dl (ρ.set i (some t)) = (dl ρ).set i (some t.d) := by unfold dl; rw [List.map_set]; rfl
theorem dl_forget : dl (ρ.set i none) = (dl ρ).set i none := by unfold dl; rw [List.map_set]; rfl
theorem dl_wipe : ∀ vs : List Nat, dl (wipeD ρ vs) = wipeD (dl ρ) vs
  | [] => rfl
  | v :: vs => by show dl ((wipeD ρ vs).set v none) = _; rw [dl_forget, dl_wipe vs]; rfl
theorem ow_set_sh {j : Nat} (h : ow (ρ.set i (some (.sh d))) j = true) : ow ρ j = true := by
  unfold ow at h ⊢
  by_cases hj : i = j
  · subst hj
    by_cases hi : i < ρ.length
    · rw [List.getElem?_set_self hi] at h; cases h
    · rw [List.getElem?_eq_none (by rw [List.length_set]; omega)] at h; cases h
  · rw [List.getElem?_set_ne hj] at h; exact h
theorem ow_forget {j : Nat} (h : ow (ρ.set i none) j = true) : ow ρ j = true := by
  unfold ow at h ⊢
  by_cases hj : i = j
  · subst hj
    by_cases hi : i < ρ.length
    · rw [List.getElem?_set_self hi] at h; cases h
    · rw [List.getElem?_eq_none (by rw [List.length_set]; omega)] at h; cases h
  · rw [List.getElem?_set_ne hj] at h; exact h
theorem ow_wipe {j : Nat} : ∀ {vs : List Nat}, ow (wipeD ρ vs) j = true → ow ρ j = true
  | [], h => h
  | v :: vs, h => ow_wipe (ow_forget h)
theorem sal_mono {vs : List Nat} {o o' : Nat → Bool} (k : ∀ i, o' i = true → o i = true) (h : sal vs o = true) : sal vs o' = true := by
  unfold sal at h ⊢
  rw [List.all_eq_true] at h ⊢
  intro i m
  have := h i m
  cases q : o' i with
  | false => rfl
  | true => rw [k i q] at this; exact this
theorem sal_app {vs us : List Nat} {o : Nat → Bool} : sal (vs ++ us) o = true ↔ sal vs o = true ∧ sal us o = true := by
  unfold sal
  rw [List.all_append, Bool.and_eq_true]
end
end Eng
/-! Eng G: readings of expressions; each rule by its parts. -/
namespace Eng
open PySem L2
def tE (C : Cfg) (e : E) : TE := fun σ H Q => ∃ (H0 : Hp) (B : Addr → Prop) (AA : Nat → List Addr) (ρ : Rho) (t : T), Rep C H0 B AA H σ ρ ∧ ev e (dl ρ) = some t ∧ sal (avs e) (ow ρ) = true ∧
  ∀ As v H', Post C (ZZ B AA) H t true As v H' → Q v H'
def tA (C : Cfg) (es : Es) : TA := fun σ H Q => ∃ (H0 : Hp) (B : Addr → Prop) (AA : Nat → List Addr) (ρ : Rho) (ts : List T), Rep C H0 B AA H σ ρ ∧ evs es (dl ρ) = some ts ∧ sal (avss es) (ow ρ) = true ∧
  ∀ As vs H', Posts C (ZZ B AA) H ts true As vs H' → Q vs H'
def tO (C : Cfg) (o : Eo) : TO := fun σ H Q => ∃ (H0 : Hp) (B : Addr → Prop) (AA : Nat → List Addr) (ρ : Rho) (l : Option Int), Rep C H0 B AA H σ ρ ∧ evo o (dl ρ) = some l ∧ ∀ H', Same H H' → Q l H'
def tT (C : Cfg) (e : E) : TT := fun σ H Q => ∃ (H0 : Hp) (B : Addr → Prop) (AA : Nat → List Addr) (ρ : Rho) (b : Bool), Rep C H0 B AA H σ ρ ∧ tst e (dl ρ) = some b ∧ ∀ H', Same H H' → Q b H'
def tTo (C : Cfg) (o : Eo) : TT := fun σ H Q => ∃ (H0 : Hp) (B : Addr → Prop) (AA : Nat → List Addr) (ρ : Rho) (b : Bool), Rep C H0 B AA H σ ρ ∧ tsto o (dl ρ) = some b ∧ ∀ H', Same H H' → Q b H'
/-- what is walked: the items, while F stands -/
def WalkD (C : Cfg) (F : Hp) (J : It) (ds : List D) : Prop := ∃ (W : Hp → Prop) (Y : Nat → Hp → V → Hp → Prop), Walk J ds.length W Y ∧ (∀ H, Same F H → W H) ∧
  ∀ (i : Nat) (d : D) (H2 : Hp) (x : V) (H3 : Hp), ds[i]? = some d → Same F H2 → Y i H2 x H3 → Same H2 H3 ∧ ∀ Z : Addr → Prop, (∀ a, Z a → nTup H2 a) → Same F (hid H2 Z) → Dat C (hid H3 Z) x d
def tI (C : Cfg) (it : I) : TI := fun σ H R => ∃ (H0 : Hp) (B : Addr → Prop) (AA : Nat → List Addr) (ρ : Rho) (ds : List D), Rep C H0 B AA H σ ρ ∧ evi it (dl ρ) = some ds ∧ sal (avi it) (ow ρ) = true ∧
  ∀ J H1, Same H H1 → WalkD C (hid H1 (ZZ B AA)) J ds → R J H1
theorem _root_.L2.PE.imp {X : Cx} {e : Expr} {t t' : TE} (h : PE X e t) (k : ∀ σ H Q, t' σ H Q → t σ H Q) : PE X e t' := ⟨fun pins s σ H Q I q => h.run pins s σ H Q I (k _ _ _ q)⟩
theorem _root_.L2.PT.imp {X : Cx} {e : Expr} {t t' : TT} (h : PT X e t) (k : ∀ σ H Q, t' σ H Q → t σ H Q) : PT X e t' := ⟨fun pins s σ H Q I q => h.run pins s σ H Q I (k _ _ _ q)⟩
theorem _root_.L2.PW.imp {X : Cx} {e : Expr} {t t' : TT} (h : PW X e t) (k : ∀ σ H Q, t' σ H Q → t σ H Q) : PW X e t' := ⟨fun wh pins s σ H Q I q => h.run wh pins s σ H Q I (k _ _ _ q)⟩
theorem _root_.L2.PA.imp {X : Cx} {e : List Expr} {t t' : TA} (h : PA X e t) (k : ∀ σ H Q, t' σ H Q → t σ H Q) : PA X e t' := ⟨fun pos pins s σ H Q I q => h.run pos pins s σ H Q I (k _ _ _ q)⟩
theorem _root_.L2.PO.imp {X : Cx} {e : Option Expr} {t t' : TO} (h : PO X e t) (k : ∀ σ H Q, t' σ H Q → t σ H Q) : PO X e t' := ⟨fun pins s σ H Q I q => h.run pins s σ H Q I (k _ _ _ q)⟩
theorem _root_.L2.PI.imp {X : Cx} {tg e : Expr} {t t' : TI} (h : PI X tg e t) (k : ∀ σ H Q, t' σ H Q → t σ H Q) : PI X tg e t' := ⟨fun pins s σ H R I q => h.run pins s σ H R I (k _ _ _ q)⟩
theorem _root_.L2.PI.or {X : Cx} {tg e : Expr} {t t' : TI} (h : PI X tg e t) (h' : PI X tg e t') : PI X tg e (fun σ H R => t σ H R ∨ t' σ H R) := ⟨fun pins s σ H R I q => q.elim (h.run pins s σ H R I) (h'.run pins s σ H R I)⟩
theorem bnd {α β : Type} {o : Option α} {f : α → Option β} {b : β} (h : o.bind f = some b) : ∃ a, o = some a ∧ f a = some b := by
  cases o with
  | none => cases h
  | some a => exact ⟨a, rfl, h⟩
section
variable {C : Cfg} {H0 H H1 H' : Hp} {B : Addr → Prop} {AA : Nat → List Addr} {σ : L2.St} {ρ : Rho} {As : List Addr} {x y t : T} {v w : V} {d : D} {a b e : E} {es : Es} {ts : List T} {f : List D → Option T} {Z : Addr → Prop}
/-- a part, read -/
theorem tE_of {Q : VK} (R : Rep C H0 B AA H σ ρ) (h : ev e (dl ρ) = some t) (s : sal (avs e) (ow ρ) = true) (q : ∀ As v H', Post C (ZZ B AA) H t true As v H' → Q v H') : tE C e σ H Q := ⟨H0, B, AA, ρ, t, R, h, s, q⟩
theorem tE_frz {Q : VK} (R : Rep C H0 B AA H σ ρ) (h : ev e (dl ρ) = some t) (q : ∀ As v H', Post C (ZZ B no) H t true As v H' → Q v H') : tE C e σ H Q :=
  ⟨H0, B, no, frzR ρ, t, R.frz, by rw [dl_frz]; exact h, by rw [ow_frz]; exact sal_no _, q⟩
/-- a result without lists, from a reading with all let go -/
theorem fin_no {Z' : Addr → Prop} (R : Rep C H0 B AA H σ ρ) (e : Same H H1) (p : Post C Z' H1 t true As v H') (hd : t = .sh d) (n : noL d = true) : Post C (ZZ B AA) H t true [] v H' := by
  subst hd
  exact Post.sh' (e.trans p.same) p.dat fun _ => p.dat.hide (fun a q => (R.z a q).mono (e.trans p.same)) n
theorem rP_of {vs : List V} {Q : VK} (z : ∀ a, Z a → nTup H a) (ps : Posts C Z H ts true As vs H1) (h : f (T.ds ts) = some t) (q : ∀ Bs v H', Post C Z H1 t true Bs v H' → Q v H') : rP C f vs H1 Q :=
  ⟨T.ds ts, t, Z, true, ps.dat, fun a => ps.dh z a, fun a q => (z a q).mono ps.same, h, q⟩
def two (ta tb : TE) (G : V → V → Hp → Prop) : L2.St → Hp → Prop := fun σ H => ta σ H fun x H1 => tb σ H1 fun y H2 => G x y H2
/-- two parts, then the promise of the operation -/
theorem two_of {G : V → V → Hp → Prop} (R : Rep C H0 B AA H σ ρ) (h1 : ev a (dl ρ) = some x) (h2 : ev b (dl ρ) = some y) (s1 : sal (avs a) (ow ρ) = true) (s2 : sal (avs b) (ow ρ) = true)
    (q : ∀ As v w H2, Posts C (ZZ B AA) H [x, y] true As [v, w] H2 → G v w H2) : two (tE C a) (tE C b) G σ H :=
  tE_of R h1 s1 fun As v H1 p => tE_of (R.grow p.same p.new) h2 s2 fun Bs w H2 p2 => q _ v w H2 (Posts.cons p (Posts.cons (by rw [ZZ_Zp] at p2; exact p2) Posts.nil))
theorem two_frz {G : V → V → Hp → Prop} (R : Rep C H0 B AA H σ ρ) (h1 : ev a (dl ρ) = some x) (h2 : ev b (dl ρ) = some y)
    (q : ∀ As v w H2, Posts C (ZZ B no) H [x, y] true As [v, w] H2 → G v w H2) : two (tE C a) (tE C b) G σ H :=
  two_of (C := C) R.frz (by rw [dl_frz]; exact h1) (by rw [dl_frz]; exact h2) (by rw [ow_frz]; exact sal_no _) (by rw [ow_frz]; exact sal_no _) q
theorem op_of {Q : VK} (R : Rep C H0 B AA H σ ρ) (h1 : ev a (dl ρ) = some x) (h2 : ev b (dl ρ) = some y) (hf : f [x.d, y.d] = some t)
    (rel : (sal (avs a) (ow ρ) = true ∧ sal (avs b) (ow ρ) = true) ∨ ∃ d, t = .sh d ∧ noL d = true) (q : ∀ As v H', Post C (ZZ B AA) H t true As v H' → Q v H') :
    tOp (fun x y H Q => rP C f [x, y] H Q) (tE C a) (tE C b) σ H Q := by
  rcases rel with ⟨s1, s2⟩ | ⟨d, hd, n⟩
  · exact two_of R h1 h2 s1 s2 fun As v w H2 ps => rP_of R.z ps hf fun Bs u H' p => q Bs u H' (p.back ps.same)
  · exact two_frz R h1 h2 fun As v w H2 ps => rP_of R.frz.z ps hf fun Bs u H' p => q [] u H' (fin_no R ps.same p hd n)
theorem tA_of {Q : List V → Hp → Prop} (R : Rep C H0 B AA H σ ρ) (h : evs es (dl ρ) = some ts) (s : sal (avss es) (ow ρ) = true) (q : ∀ As vs H', Posts C (ZZ B AA) H ts true As vs H' → Q vs H') : tA C es σ H Q := ⟨H0, B, AA, ρ, ts, R, h, s, q⟩
theorem tA_frz {Q : List V → Hp → Prop} (R : Rep C H0 B AA H σ ρ) (h : evs es (dl ρ) = some ts) (q : ∀ As vs H', Posts C (ZZ B no) H ts true As vs H' → Q vs H') : tA C es σ H Q :=
  ⟨H0, B, no, frzR ρ, ts, R.frz, by rw [dl_frz]; exact h, by rw [ow_frz]; exact sal_no _, q⟩
/-- an argument list, then the promise of what is called -/
theorem args_of {Q : VK} (R : Rep C H0 B AA H σ ρ) (h : evs es (dl ρ) = some ts) (hf : f (T.ds ts) = some t) (rel : sal (avss es) (ow ρ) = true ∨ ∃ d, t = .sh d ∧ noL d = true)
    (q : ∀ As v H', Post C (ZZ B AA) H t true As v H' → Q v H') : tCB (fun vs H Q => rP C f vs H Q) (tA C es) σ H Q := by
  rcases rel with s | ⟨d, hd, n⟩
  · exact tA_of R h s fun As vs H2 ps => rP_of R.z ps hf fun Bs u H' p => q Bs u H' (p.back ps.same)
  · exact tA_frz R h fun As vs H2 ps => rP_of R.frz.z ps hf fun Bs u H' p => q [] u H' (fin_no R ps.same p hd n)
end
/-! ### which results have no lists -/
theorem i2_no {f : Int → Int → Option T} {xs : List D} {t : T} (hf : ∀ i j t, f i j = some t → ∃ d, t = .sh d ∧ noL d = true) (h : i2 f xs = some t) : ∃ d, t = .sh d ∧ noL d = true := by
  obtain ⟨i, j, _, e⟩ := i2_inv h
  exact hf i j t e
theorem s2_no {f : List Nat → List Nat → Option T} {xs : List D} {t : T} (hf : ∀ i j t, f i j = some t → ∃ d, t = .sh d ∧ noL d = true) (h : s2 f xs = some t) : ∃ d, t = .sh d ∧ noL d = true := by
  obtain ⟨i, j, _, e⟩ := s2_inv h
  exact hf i j t e
theorem binD_no {op : Operator} (h : opSca op = true) {xs : List D} {t : T} (e : binD op xs = some t) : ∃ d, t = .sh d ∧ noL d = true := by
  cases op <;> first
    | (exact absurd h (by decide))
    | (cases e; done)
    | (exact i2_no (fun i j t e => ⟨_, sc_inj e, rfl⟩) e)
    | (exact i2_no (fun i j t e => ⟨_, (iff_inv e).2, rfl⟩) e)
theorem cmpD_no {op : CmpOp} {xs : List D} {t : T} (e : cmpD op xs = some t) : ∃ b, t = .sh (.bl b) := by
  have e2 : ∀ neg, orE (s2 fun a b => sc (.bl (if neg then !decide (a = b) else decide (a = b)))) (eqT neg) xs = some t → ∃ b, t = .sh (.bl b) := fun neg e => by
    rcases orE_inv e with e | e
    · obtain ⟨i, j, _, e⟩ := s2_inv e
      exact ⟨_, sc_inj e⟩
    · unfold eqT at e
      split at e
      · obtain ⟨b, _, e⟩ := map_inv e
        exact ⟨_, e.symm⟩
      · cases e
  have e3 : ∀ neg, inD neg xs = some t → ∃ b, t = .sh (.bl b) := fun neg e => by
    unfold inD at e
    split at e
    · exact ⟨_, sc_inj e⟩
    · exact ⟨_, (iff_inv e).2⟩
    · exact ⟨_, (iff_inv e).2⟩
    · cases e
  have e4 : ∀ neg, isD neg xs = some t → ∃ b, t = .sh (.bl b) := fun neg e => by
    unfold isD at e
    split at e
    · exact ⟨_, sc_inj e⟩
    · exact ⟨_, sc_inj e⟩
    · cases e
  cases op with
  | Eq => exact e2 false e
  | NotEq => exact e2 true e
  | Lt => obtain ⟨i, j, _, e⟩ := i2_inv e; exact ⟨_, sc_inj e⟩
  | LtE => obtain ⟨i, j, _, e⟩ := i2_inv e; exact ⟨_, sc_inj e⟩
  | Gt => obtain ⟨i, j, _, e⟩ := i2_inv e; exact ⟨_, sc_inj e⟩
  | GtE => obtain ⟨i, j, _, e⟩ := i2_inv e; exact ⟨_, sc_inj e⟩
  | Is => exact e4 false e
  | IsNot => exact e4 true e
  | In => exact e3 false e
  | NotIn => exact e3 true e
theorem biD_no {b : Bi} (h : b.sca = true) {xs : List D} {t : T} (e : biD b xs = some t) : ∃ d, t = .sh d ∧ noL d = true := by
  cases b with
  | list => cases h
  | tuple => cases h
  | len =>
    have e : lenD xs = some t := e
    unfold lenD at e
    split at e
    · exact ⟨_, (iff_inv e).2, rfl⟩
    · exact ⟨_, sc_inj e, rfl⟩
    · exact ⟨_, sc_inj e, rfl⟩
    · exact ⟨_, sc_inj e, rfl⟩
    · cases e
  | int =>
    rcases orE_inv e with e | e
    · obtain ⟨i, _, e⟩ := i1_inv e; exact ⟨_, sc_inj e, rfl⟩
    · rcases orE_inv e with e | e
      · obtain ⟨i, _, e⟩ := b1_inv e; exact ⟨_, sc_inj e, rfl⟩
      · obtain ⟨i, _, e⟩ := s1_inv e
        split at e
        · exact ⟨_, (iff_inv e).2, rfl⟩
        · cases e
  | str => obtain ⟨i, _, e⟩ := i1_inv e; exact ⟨_, (iff_inv e).2, rfl⟩
  | sum =>
    simp only [biD] at e
    split at e
    · obtain ⟨_, _, rfl⟩ := map_inv e
      exact ⟨_, rfl, rfl⟩
    · cases e
  | any =>
    simp only [biD] at e
    split at e
    · obtain ⟨_, _, rfl⟩ := map_inv e
      exact ⟨_, rfl, rfl⟩
    · cases e
  | all =>
    simp only [biD] at e
    split at e
    · obtain ⟨_, _, rfl⟩ := map_inv e
      exact ⟨_, rfl, rfl⟩
    · cases e
  | max => obtain ⟨i, j, _, e⟩ := i2_inv e; exact ⟨_, sc_inj e, rfl⟩
  | min => obtain ⟨i, j, _, e⟩ := i2_inv e; exact ⟨_, sc_inj e, rfl⟩
  | abs => obtain ⟨i, _, e⟩ := i1_inv e; exact ⟨_, sc_inj e, rfl⟩
theorem mtD_no {m : Mt} (h : m.sca = true) {xs : List D} {t : T} (e : mtD m xs = some t) : ∃ d, t = .sh d ∧ noL d = true := by
  cases m with
  | split => cases h
  | partition => cases h
  | join =>
    simp only [mtD] at e
    split at e
    · split at e
      · exact ⟨_, (iff_inv e).2, rfl⟩
      · cases e
    · cases e
  | startswith => exact s2_no (fun i j t e => ⟨_, sc_inj e, rfl⟩) e
  | endswith => exact s2_no (fun i j t e => ⟨_, sc_inj e, rfl⟩) e
  | find => exact s2_no (fun i j t e => ⟨_, sc_inj e, rfl⟩) e
  | find3 =>
    simp only [mtD] at e
    split at e
    · exact ⟨_, sc_inj e, rfl⟩
    · cases e
  | strip => exact s2_no (fun i j t e => ⟨_, (iff_inv e).2, rfl⟩) e
  | rstrip => exact s2_no (fun i j t e => ⟨_, (iff_inv e).2, rfl⟩) e
  | count => exact s2_no (fun i j t e => ⟨_, sc_inj e, rfl⟩) e
end Eng
/-! Eng H: which text an expression is: the plain facts of the text's form. -/
namespace Eng
open PySem L2
/-- no star, slice, set, comprehension of another kind -/
def nice : Expr → Bool
  | .Starred .. | .Slice .. | .Set .. | .SetComp .. | .DictComp .. => false
  | _ => true
theorem mE_nice {N : List Str} {sc : Scope} {e : E} {e' : Expr} (h : mE N sc e e' = true) : nice e' = true := by
  cases e' <;> first
    | rfl
    | (cases e <;> (unfold mE at h; first | (exact absurd h Bool.false_ne_true) | (split at h <;> first | (exact absurd h Bool.false_ne_true) | (rename_i q; cases q; done) | cases h)))
theorem mEs_nice {N : List Str} {sc : Scope} : ∀ {es : Es} {es' : List Expr}, mEs N sc es es' = true → es'.all nice = true
  | .nil, [], _ => rfl
  | .nil, _ :: _, h => by unfold mEs at h; cases h
  | .cons e es, [], h => by unfold mEs at h; cases h
  | .cons e es, a :: r, h => by
    unfold mEs at h
    have h := Bool.and_eq_true_iff.mp h
    rw [List.all_cons, mE_nice h.1, mEs_nice h.2]; rfl
section
variable {env : Env} {e : Expr} {es : List Expr} {pos : Pos}
theorem star_cons (h : nice e = true) : starEach (e :: es) env = (false, eval e env) :: starEach es env := by
  cases e <;> first | rfl | (exact absurd h Bool.false_ne_true)
theorem star_all : ∀ {es : List Expr}, es.all nice = true → ∀ x ∈ starEach es env, x.1 = false
  | [], _, x, m => by unfold starEach at m; cases m
  | e :: es, h, x, m => by
    rw [List.all_cons, Bool.and_eq_true] at h
    rw [star_cons h.1] at m
    rcases List.mem_cons.mp m with rfl | m
    · rfl
    · exact star_all h.2 x m
theorem star_any (h : es.all nice = true) : (backTo pos (starEach es env)).any (·.1) = false := by
  unfold backTo
  rw [List.any_map, List.any_eq_false]
  intro x m
  show ¬ x.1 = true
  rw [star_all h x m]; exact Bool.false_ne_true
theorem star_few (h : es.all nice = true) : (backTo pos (starEach es env)).all (fun x => !x.1) = true := by
  unfold backTo
  rw [List.all_map, List.all_eq_true]
  intro x m
  show (!x.1) = true
  rw [star_all h x m]; rfl
theorem base_ok {f : Str} {w : Sem Value} (h : baseB e = true) : attributeBase e f env w = w := by
  unfold attributeBase
  split
  · exact absurd h Bool.false_ne_true
  · rfl
theorem ix_plain (h : nice e = true) : PlainIx e := by
  intro o i
  cases e <;> first | rfl | (exact absurd h Bool.false_ne_true)
theorem set_plain (h : nice e = true) (x : Value) : foldedSetIterable e env x = pure x := by
  cases e <;> first | rfl | (exact absurd h Bool.false_ne_true)
theorem mark_plain {op : CmpOp} (h : nice e = true) : behindInMarks op e = false := by
  cases e <;> first | rfl | (exact absurd h Bool.false_ne_true)
theorem last_plain {o1 o2 : CmpOp} {b : Expr} (h : nice e = true) : lastMarks [o1, o2] [b, e] = false := by
  show lastMarks [o2] [e] = false
  exact mark_plain h
/-- what is tested by its worth -/
def plainT : Expr → Bool
  | .Name .. | .Call .. | .Subscript .. | .Attribute .. | .Constant .. => true
  | _ => false
theorem tru_plain (h : plainT e = true) (whole : Sem Value) : isTrue e env whole = (do let v ← whole; standAt e.pos; holding [v] (truthy v)) := by
  cases e <;> first | (exact absurd h Bool.false_ne_true) | rfl
end
theorem and3 {a b c : Bool} (h : (a && b && c) = true) : a = true ∧ b = true ∧ c = true := by
  have h := Bool.and_eq_true_iff.mp h
  have h1 := Bool.and_eq_true_iff.mp h.1
  exact ⟨h1.1, h1.2, h.2⟩
theorem nmB_inv {x : Str} (h : nmB x = true) : (x == ("__debug__" : Str)) = false ∧ (x == ("__classdict__" : Str)) = false ∧ x ≠ "__name__" := by
  unfold nmB at h
  obtain ⟨h1, h2, h3⟩ := and3 h
  refine ⟨by simpa using h1, by simpa using h2, by simpa using h3⟩
end Eng
/-! Eng I: expressions are what they reckon: one lemma a form. -/
namespace Eng
open PySem L2
def SoE (G : GC) (sc : Scope) (X : Cx) (e : E) (e' : Expr) : Prop := PE X e' (tE G.C e) ∧ PT X e' (tT G.C e) ∧ ∀ op vs p, e' = .BoolOp op vs p → PW X e' (tT G.C e)
section
variable {G : GC} {sc : Scope} {X : Cx} {e a b c : E} {e' a' b' c' : Expr} {pos p : Pos}
theorem pt_no (h : ∀ δ, tst e δ = none) : PT X e' (tT G.C e) := ⟨fun pins s σ H Q I q => by
  obtain ⟨H0, B, AA, ρ, k, R, q, _⟩ := q
  rw [h] at q; cases q⟩
theorem pw_no (h : ∀ δ, tst e δ = none) : PW X e' (tT G.C e) := ⟨fun wh pins s σ H Q I q => by
  obtain ⟨H0, B, AA, ρ, k, R, q, _⟩ := q
  rw [h] at q; cases q⟩
/-- a value's truth -/
theorem pt_val (g : Good G sc X) (hp : PE X e' (tE G.C e)) (hn : plainT e' = true) (ht : ∀ δ k, tst e δ = some k → ∃ t, ev e δ = some t ∧ truD t.d = some k) : PT X e' (tT G.C e) :=
  (pt_truth hp (tru_plain hn)).imp fun σ H Q q => by
    obtain ⟨H0, B, AA, ρ, k, R, q, kk⟩ := q
    obtain ⟨t, h1, h2⟩ := ht _ _ q
    exact tE_frz R h1 fun As v H' p => ⟨k, tru_V p.dat h2, kk _ p.same⟩
theorem so_val (g : Good G sc X) (hp : PE X e' (tE G.C e)) (hn : plainT e' = true) (ht : ∀ δ k, tst e δ = some k → ∃ t, ev e δ = some t ∧ truD t.d = some k) : SoE G sc X e e' :=
  ⟨hp, pt_val g hp hn ht, fun op vs p q => by subst q; cases hn⟩
theorem so_no (hp : PE X e' (tE G.C e)) (ht : ∀ δ, tst e δ = none) : SoE G sc X e e' := ⟨hp, pt_no ht, fun _ _ _ _ => pw_no ht⟩
theorem so_var {i : Nat} {x : Str} (g : Good G sc X) (hN : G.N[i]? = some x) (hv : visB sc x = true) (hn : nmB x = true) : SoE G sc X (.var i) (.Name x pos) := by
  obtain ⟨n1, n2, n3⟩ := nmB_inv hn
  refine so_val g ((pe_var (i := i) (by rw [g.N]; exact hN) (g.vis x hv) n1 n2).imp fun σ H Q q => ?_) rfl fun δ k h => ?_
  · obtain ⟨H0, B, AA, ρ, t, R, h, s, q⟩ := q
    simp only [ev] at h
    split at h
    · rename_i d hd
      cases h
      obtain ⟨v, h1, h2⟩ := R.datS hd (by
        have s : ((!ow ρ i) && true) = true := s
        rw [Bool.and_true] at s
        simpa using s)
      exact ⟨v, h1, q [] v H (Post.sh (h2.mono hid_sub) fun _ => h2)⟩
    · cases h
  · unfold tst at h
    split at h
    · rename_i d hd
      exact ⟨.sh d, by unfold ev; rw [hd], h⟩
    · cases h
theorem so_cst {d : D} {cc : Const} {j : Nat} (g : Good G sc X) (hc : mC d cc = true) : SoE G sc X (.cst d) (.Constant cc j pos) := by
  have key : ∀ v : V, PE X (.Constant cc j pos) (tC v) → (∀ H, Dat G.C H v d) → PE X (.Constant cc j pos) (tE G.C (.cst d)) := fun v hp hd => hp.imp fun σ H Q q => by
    obtain ⟨H0, B, AA, ρ, t, R, h, s, q⟩ := q
    cases h
    exact q [] v H (Post.sh (hd H) fun _ => hd _)
  have hp : PE X (.Constant cc j pos) (tE G.C (.cst d)) := by
    cases d <;> cases cc <;> first
      | (exact absurd hc Bool.false_ne_true)
      | (exact key _ pe_non fun _ => .non)
      | skip
    · have := eq_of_beq hc; subst this; exact key _ pe_bl fun _ => .bl _
    · have := eq_of_beq hc; subst this; exact key _ pe_int fun _ => .int _
    · have : _ = _ := of_decide_eq_true hc
      subst this; exact key _ pe_str fun _ => .str _
  exact so_val g hp rfl fun δ k h => ⟨.sh d, rfl, by unfold tst at h; exact h⟩
theorem so_glb {x : Str} {d : D} (g : Good G sc X) (hl : glB sc x = true) (hn : nmB x = true) (n : GlbOk G x d) : SoE G sc X (.glb x d) (.Name x pos) := by
  obtain ⟨u, v, hm, r, hd⟩ := n
  refine so_no ((pe_glob (g.gl x hl) (by rw [g.mg]; exact hm) r (nmB_inv hn).1).imp fun σ H Q q => ?_) fun δ => by unfold tst; rfl
  obtain ⟨H0, B, AA, ρ, t, R, h, s, q⟩ := q
  cases h
  exact q [] v H (Post.sh (hd H) fun _ => hd _)
theorem so_bin {op : Operator} (ha : SoE G sc X a a') (hb : SoE G sc X b b') : SoE G sc X (.bin op a b) (.BinOp a' op b' pos) := by
  refine so_no ((pe_op (bin_ok (C := G.C) op) ha.1 hb.1).imp fun σ H Q q => ?_) fun δ => by unfold tst; rfl
  obtain ⟨H0, B, AA, ρ, t, R, h, s, q⟩ := q
  unfold ev at h
  obtain ⟨x, h1, h⟩ := bnd h
  obtain ⟨y, h2, h⟩ := bnd h
  refine op_of R h1 h2 h ?_ q
  unfold avs at s
  by_cases ho : opSca op = true
  · exact .inr (binD_no ho h)
  · rw [if_neg ho] at s
    exact .inl (sal_app.mp s)
theorem so_neg (ha : SoE G sc X a a') : SoE G sc X (.neg a) (.UnaryOp .USub a' pos) := by
  refine ⟨(pe_un un_neg ha.1).imp fun σ H Q q => ?_, pt_no fun δ => by unfold tst; rfl, fun _ _ _ q => nomatch q⟩
  obtain ⟨H0, B, AA, ρ, t, R, h, s, q⟩ := q
  unfold ev at h
  obtain ⟨x, h1, h⟩ := bnd h
  obtain ⟨i, e1, h⟩ := i1_inv h
  have := sc_inj h; subst this
  refine tE_frz R h1 fun As v H' p => ⟨i, ?_, q [] _ H' (Post.sh' p.same (.int _) fun _ => .int _)⟩
  have := p.dat
  have e1 : x.d = .int i := (List.cons.inj e1).1
  rw [e1] at this
  exact this.vint
theorem so_cmp {op : CmpOp} (g : Good G sc X) (ha : SoE G sc X a a') (hb : SoE G sc X b b') (nb : nice b' = true) : SoE G sc X (.cmp op a b) (.Compare a' [op] [b'] pos) := by
  have hc := cmp_ok (X := X) (C := G.C) g.room.units g.K op
  refine ⟨(pe_cmpR hc ha.1 hb.1 (mark_plain nb)).imp fun σ H Q q => ?_, (pt_cmpR hc ha.1 hb.1 (mark_plain nb)).imp fun σ H Q q => ?_, fun _ _ _ q => nomatch q⟩
  · obtain ⟨H0, B, AA, ρ, t, R, h, s, q⟩ := q
    unfold ev at h
    obtain ⟨x, h1, h⟩ := bnd h
    obtain ⟨y, h2, h⟩ := bnd h
    obtain ⟨k, rfl⟩ := cmpD_no h
    exact op_of R h1 h2 h (.inr ⟨_, rfl, rfl⟩) q
  · obtain ⟨H0, B, AA, ρ, k, R, h, q⟩ := q
    unfold tst at h
    obtain ⟨x, h1, h⟩ := bnd h
    obtain ⟨y, h2, h⟩ := bnd h
    obtain ⟨t, h3, h⟩ := bnd h
    obtain ⟨k', rfl⟩ := cmpD_no h3
    have h : some k' = some k := h
    cases h
    exact op_of R h1 h2 h3 (.inr ⟨_, rfl, rfl⟩) fun As v H' p => ⟨k, p.dat.vbl, q _ p.same⟩
theorem so_chn {o1 o2 : CmpOp} (g : Good G sc X) (ha : SoE G sc X a a') (hb : SoE G sc X b b') (hc : SoE G sc X c c') (nc : nice c' = true) : SoE G sc X (.chn o1 o2 a b c) (.Compare a' [o1, o2] [b', c'] pos) := by
  have h1 := cmp_ok (X := X) (C := G.C) g.room.units g.K o1
  have h2 := cmp_ok (X := X) (C := G.C) g.room.units g.K o2
  have key : ∀ (σ : L2.St) (H : Hp) (Q : VK) (H0 : Hp) (B : Addr → Prop) (AA : Nat → List Addr) (ρ : Rho) (x y r : T) (k : Bool), Rep G.C H0 B AA H σ ρ → ev a (dl ρ) = some x → ev b (dl ρ) = some y → cmpD o1 [x.d, y.d] = some r → blD r.d = some k →
      (k = false → ∀ H', Same H H' → Q (.bl false) H') → (k = true → ∃ z r2, ev c (dl ρ) = some z ∧ cmpD o2 [y.d, z.d] = some r2 ∧ ∀ k' H', r2 = .sh (.bl k') → Same H H' → Q (.bl k') H') →
      tChain (fun x y H Q => rP G.C (cmpD o1) [x, y] H Q) (fun x y H Q => rP G.C (cmpD o2) [x, y] H Q) (tE G.C a) (tE G.C b) (tE G.C c) σ H Q := by
    intro σ H Q H0 B AA ρ x y r k R e1 e2 e3 e4 q0 q1
    refine two_frz (G := fun v w H2 => rP G.C (cmpD o1) [v, w] H2 fun z H3 => ∃ k, z = .bl k ∧ (if k = true then tE G.C c σ H3 fun w' H4 => rP G.C (cmpD o2) [w, w'] H4 Q else Q (.bl false) H3)) R e1 e2 fun As v w H2 ps => ?_
    refine rP_of R.frz.z ps e3 fun Bs u H3 p3 => ?_
    obtain ⟨kk, rfl⟩ := cmpD_no e3
    cases e4
    refine ⟨k, p3.dat.vbl, ?_⟩
    cases k with
    | false => exact q0 rfl H3 (ps.same.trans p3.same)
    | true =>
      obtain ⟨z, r2, e5, e6, q1⟩ := q1 rfl
      have R2 := R.frz.mono (ps.same.trans p3.same)
      refine tE_frz R2 (by rw [dl_frz]; exact e5) fun Cs w' H4 p4 => ?_
      have hw : Dat G.C H4 w y.d := by
        have := ps.dat
        cases this with | cons _ h => cases h with | cons h _ => exact h.mono (p3.same.trans p4.same)
      have ps2 : Posts G.C (fun _ => False) H4 [.sh y.d, .sh z.d] true [] [w, w'] H4 := by
        have n0 : hid H4 (fun _ => False) = H4 := by funext a; exact hid_out fun z => z
        refine Posts.cons (As := []) (al := true) (al' := true) (Post.sh hw fun _ => by rw [n0]; exact hw) (Posts.cons (As := []) (al := true) (al' := true) (Bs := []) (Post.sh p4.dat fun _ => ?_) Posts.nil)
        rw [Zp_nil, n0]; exact p4.dat
      refine rP_of (fun _ z => z.elim) ps2 e6 fun Ds u' H5 p5 => ?_
      obtain ⟨k', rfl⟩ := cmpD_no e6
      have := p5.dat.vbl
      rw [this]
      exact q1 k' H5 rfl (ps.same.trans (p3.same.trans (p4.same.trans p5.same)))
  refine ⟨(pe_chain h1 h2 ha.1 hb.1 hc.1 (last_plain nc)).imp fun σ H Q q => ?_, (pt_chain h1 h2 ha.1 hb.1 hc.1 (last_plain nc)).imp fun σ H Q q => ?_, fun _ _ _ q => nomatch q⟩
  · obtain ⟨H0, B, AA, ρ, t, R, h, s, q⟩ := q
    unfold ev at h
    obtain ⟨x, e1, h⟩ := bnd h
    obtain ⟨y, e2, h⟩ := bnd h
    obtain ⟨r, e3, h⟩ := bnd h
    obtain ⟨k, e4, h⟩ := bnd h
    refine key σ H Q H0 B AA ρ x y r k R e1 e2 e3 e4 (fun hk H' s => ?_) fun hk => ?_
    · subst hk
      have := sc_inj (show Eng.sc (.bl false) = some t from h); subst this
      exact q [] _ H' (Post.sh' s (.bl _) fun _ => .bl _)
    · subst hk
      obtain ⟨z, e5, h⟩ := bnd (show ((ev c (dl ρ)).bind fun z => cmpD o2 [y.d, z.d]) = some t from h)
      refine ⟨z, t, e5, h, fun k' H' ht s => ?_⟩
      subst ht
      exact q [] _ H' (Post.sh' s (.bl _) fun _ => .bl _)
  · obtain ⟨H0, B, AA, ρ, kk, R, h, q⟩ := q
    unfold tst at h
    obtain ⟨x, e1, h⟩ := bnd h
    obtain ⟨y, e2, h⟩ := bnd h
    obtain ⟨r, e3, h⟩ := bnd h
    obtain ⟨k, e4, h⟩ := bnd h
    refine key σ H _ H0 B AA ρ x y r k R e1 e2 e3 e4 (fun hk H' s => ?_) fun hk => ?_
    · subst hk
      have h : some false = some kk := h
      cases h
      exact ⟨false, rfl, q _ s⟩
    · subst hk
      obtain ⟨z, e5, h⟩ := bnd (show ((ev c (dl ρ)).bind fun z => (cmpD o2 [y.d, z.d]).bind fun r => blD r.d) = some kk from h)
      obtain ⟨r2, e6, h⟩ := bnd h
      refine ⟨z, r2, e5, e6, fun k' H' ht s => ?_⟩
      subst ht
      have h : some k' = some kk := h
      cases h
      exact ⟨_, rfl, q _ s⟩
theorem bl_of {x : T} {k : Bool} {H : Hp} {v : V} (h : blD x.d = some k) (d : Dat G.C H v x.d) : v = .bl k := by
  cases q : x.d with
  | bl b => rw [q] at h d; cases h; exact d.vbl
  | non => rw [q] at h; cases h
  | int _ => rw [q] at h; cases h
  | str _ => rw [q] at h; cases h
  | lst _ => rw [q] at h; cases h
  | tup _ => rw [q] at h; cases h
  | scr _ => rw [q] at h; cases h
  | ins _ _ _ => rw [q] at h; cases h
  | dic _ _ => rw [q] at h; cases h
theorem so_and {r : List Expr} (ha : SoE G sc X a a') (hb : SoE G sc X b (.BoolOp .And (b' :: r) pos)) : SoE G sc X (.and a b) (.BoolOp .And (a' :: b' :: r) pos) := by
  have hw : PW X (.BoolOp .And (a' :: b' :: r) pos) (tT G.C (.and a b)) := (pw_and ha.2.1 (hb.2.2 _ _ _ rfl)).imp fun σ H Q q => by
    obtain ⟨H0, B, AA, ρ, k, R, h, q⟩ := q
    unfold tst at h
    obtain ⟨k1, e1, h⟩ := bnd h
    refine ⟨H0, B, AA, ρ, k1, R, e1, fun H1 s1 => ?_⟩
    cases k1 with
    | true => exact ⟨H0, B, AA, ρ, k, R.mono s1, h, fun H2 s2 => q _ (s1.trans s2)⟩
    | false => cases h; exact q _ s1
  refine ⟨(pe_and ha.1 hb.1).imp fun σ H Q q => ?_, hw.pt, fun _ _ _ _ => hw⟩
  obtain ⟨H0, B, AA, ρ, t, R, h, s, q⟩ := q
  unfold ev at h
  obtain ⟨x, e1, h⟩ := bnd h
  obtain ⟨k, e2, h⟩ := bnd h
  refine tE_frz R e1 fun As v H1 p => ⟨k, bl_of e2 p.dat, ?_⟩
  cases k with
  | false =>
    have := sc_inj (show Eng.sc (.bl false) = some t from h); subst this
    exact q [] _ H1 (Post.sh' p.same (.bl _) fun _ => .bl _)
  | true =>
    obtain ⟨y, e3, h⟩ := bnd (show ((ev b (dl ρ)).bind fun y => (blD y.d).bind fun k' => Eng.sc (.bl k')) = some t from h)
    obtain ⟨k', e4, h⟩ := bnd h
    have := sc_inj h; subst this
    refine tE_frz (R.mono p.same) e3 fun Bs w H2 p2 => ?_
    have := bl_of e4 p2.dat
    subst this
    exact q [] _ H2 (Post.sh' (p.same.trans p2.same) (.bl _) fun _ => .bl _)
theorem so_or {r : List Expr} (ha : SoE G sc X a a') (hb : SoE G sc X b (.BoolOp .Or (b' :: r) pos)) : SoE G sc X (.or a b) (.BoolOp .Or (a' :: b' :: r) pos) := by
  have hw : PW X (.BoolOp .Or (a' :: b' :: r) pos) (tT G.C (.or a b)) := (pw_or ha.2.1 (hb.2.2 _ _ _ rfl)).imp fun σ H Q q => by
    obtain ⟨H0, B, AA, ρ, k, R, h, q⟩ := q
    unfold tst at h
    obtain ⟨k1, e1, h⟩ := bnd h
    refine ⟨H0, B, AA, ρ, k1, R, e1, fun H1 s1 => ?_⟩
    cases k1 with
    | false => exact ⟨H0, B, AA, ρ, k, R.mono s1, h, fun H2 s2 => q _ (s1.trans s2)⟩
    | true => cases h; exact q _ s1
  refine ⟨(pe_or ha.1 hb.1).imp fun σ H Q q => ?_, hw.pt, fun _ _ _ _ => hw⟩
  obtain ⟨H0, B, AA, ρ, t, R, h, s, q⟩ := q
  unfold ev at h
  obtain ⟨x, e1, h⟩ := bnd h
  obtain ⟨k, e2, h⟩ := bnd h
  refine tE_frz R e1 fun As v H1 p => ⟨k, bl_of e2 p.dat, ?_⟩
  cases k with
  | true =>
    have := sc_inj (show Eng.sc (.bl true) = some t from h); subst this
    exact q [] _ H1 (Post.sh' p.same (.bl _) fun _ => .bl _)
  | false =>
    obtain ⟨y, e3, h⟩ := bnd (show ((ev b (dl ρ)).bind fun y => (blD y.d).bind fun k' => Eng.sc (.bl k')) = some t from h)
    obtain ⟨k', e4, h⟩ := bnd h
    have := sc_inj h; subst this
    refine tE_frz (R.mono p.same) e3 fun Bs w H2 p2 => ?_
    have := bl_of e4 p2.dat
    subst this
    exact q [] _ H2 (Post.sh' (p.same.trans p2.same) (.bl _) fun _ => .bl _)
theorem so_one {op : BoolOp} (ha : SoE G sc X a a') : SoE G sc X (.one a) (.BoolOp op [a'] pos) := by
  have hw : PW X (.BoolOp op [a'] pos) (tT G.C (.one a)) := by
    cases op with
    | And => exact (pw_and1 ha.2.1).imp fun σ H Q q => q
    | Or => exact (pw_or1 ha.2.1).imp fun σ H Q q => q
  exact ⟨(pe_one ha.1).imp fun σ H Q q => q, hw.pt, fun _ _ _ _ => hw⟩
theorem so_not (ha : SoE G sc X a a') : SoE G sc X (.not a) (.UnaryOp .Not a' pos) := by
  refine ⟨(pe_not ha.1).imp fun σ H Q q => ?_, (pt_not ha.2.1).imp fun σ H Q q => ?_, fun _ _ _ q => nomatch q⟩
  · obtain ⟨H0, B, AA, ρ, t, R, h, s, q⟩ := q
    unfold ev at h
    obtain ⟨x, e1, h⟩ := bnd h
    obtain ⟨k, e2, h⟩ := bnd h
    have := sc_inj h; subst this
    exact tE_frz R e1 fun As v H1 p => ⟨k, bl_of e2 p.dat, q [] _ H1 (Post.sh' p.same (.bl _) fun _ => .bl _)⟩
  · obtain ⟨H0, B, AA, ρ, k, R, h, q⟩ := q
    unfold tst at h
    obtain ⟨k', h', rfl⟩ := map_inv h
    exact ⟨H0, B, AA, ρ, k', R, h', q⟩
theorem so_ife (hc : SoE G sc X c c') (ha : SoE G sc X a a') (hb : SoE G sc X b b') : SoE G sc X (.ife c a b) (.IfExp c' a' b' pos) := by
  refine so_no ((pe_ifExp hc.2.1 ha.1 hb.1).imp fun σ H Q q => ?_) fun δ => by unfold tst; rfl
  obtain ⟨H0, B, AA, ρ, t, R, h, s, q⟩ := q
  unfold ev at h
  obtain ⟨k, e1, h⟩ := bnd h
  unfold avs at s
  have s := sal_app.mp s
  refine ⟨H0, B, AA, ρ, k, R, e1, fun H1 s1 => ?_⟩
  cases k with
  | true => exact tE_of (R.mono s1) h s.1 fun As v H2 p => q As v H2 (p.back s1)
  | false => exact tE_of (R.mono s1) h s.2 fun As v H2 p => q As v H2 (p.back s1)
end
end Eng
/-! Eng J: displays, subscripts, calls. -/
namespace Eng
open PySem L2
theorem Post.later {C : Cfg} {Z : Addr → Prop} {H H1 H3 : Hp} {t : T} {al : Bool} {As : List Addr} {v : V} (p : Post C Z H t al As v H1) (e : Same H1 H3) : Post C Z H t al As v H3 :=
  ⟨p.same.trans e, p.nd, fun a m => ⟨(p.new a m).1, (p.new a m).2.mono e⟩, p.dat.mono e, fun q => (p.own q).mono (hid_mono e fun _ _ _ z => z) fun a m => by obtain ⟨o, h⟩ := (p.own q).live a m; rw [h, e _ _ h]⟩
section
variable {G : GC} {sc : Scope} {X : Cx} {e a b c : E} {e' a' b' c' : Expr} {pos p : Pos} {es : Es} {es' : List Expr}
theorem sa_nil : PA X [] (tA G.C .nil) := pa_nil.imp fun σ H Q q => by
  obtain ⟨H0, B, AA, ρ, ts, R, h, s, q⟩ := q
  unfold evs at h
  cases h
  exact q [] [] H Posts.nil
theorem sa_cons (ha : PE X e' (tE G.C e)) (hs : PA X es' (tA G.C es)) (n : nice e' = true) : PA X (e' :: es') (tA G.C (.cons e es)) := (pa_cons ha hs (star_cons n)).imp fun σ H Q q => by
  obtain ⟨H0, B, AA, ρ, ts, R, h, s, q⟩ := q
  unfold evs at h
  obtain ⟨t, h1, h⟩ := bnd h
  obtain ⟨us, h2, rfl⟩ := map_inv h
  unfold avss at s
  have s := sal_app.mp s
  refine tE_of R h1 s.1 fun As v H1 p => ?_
  refine tA_of (R.grow p.same p.new) h2 s.2 fun Bs vs H2 ps => ?_
  rw [ZZ_Zp] at ps
  exact q _ _ H2 (Posts.cons p ps)
theorem so_tup {k : Nat} (hs : PA X es' (tA G.C es)) : SoE G sc X (.tup es) (.Tuple es' k pos) := by
  refine so_no ((pe_tup hs).imp fun σ H Q q => ?_) fun δ => by unfold tst; rfl
  obtain ⟨H0, B, AA, ρ, t, R, h, s, q⟩ := q
  unfold ev at h
  obtain ⟨ts, h1, h⟩ := bnd h
  split at h
  · rename_i hl
    cases h
    refine tA_of R h1 s fun As vs H1 ps => ⟨?_, fun p hp => q As _ _ (ps.newT R.z hp)⟩
    rw [ps.dat.length, T.ds_eq, List.length_map, sz_eq]; exact hl
  · cases h
theorem so_lst (hs : PA X es' (tA G.C es)) : SoE G sc X (.lst es) (.List es' pos) := by
  refine so_no ((pe_lst hs).imp fun σ H Q q => ?_) fun δ => by unfold tst; rfl
  obtain ⟨H0, B, AA, ρ, t, R, h, s, q⟩ := q
  unfold ev at h
  obtain ⟨ts, h1, h⟩ := bnd h
  split at h
  · rename_i hl
    cases h
    refine tA_of R h1 s fun As vs H1 ps => ⟨?_, fun p hp => q _ _ _ (ps.newL hp)⟩
    rw [ps.dat.length, T.ds_eq, List.length_map, sz_eq]; exact hl
  · cases h
/-! ### subscripts -/
theorem _root_.L2.IxR.imp {r r' : R2} (h : IxR X r) (k : ∀ x y H Q, r' x y H Q → r x y H Q) : IxR X r' :=
  fun value slice pins s σ H x y v u Q I rx ry q hs => h value slice pins s σ H x y v u Q I rx ry (k _ _ _ _ q) hs
theorem atI_map {α β : Type} {f : α → β} {xs : List α} {i : Int} {y : β} (h : atI (xs.map f) i = some y) : ∃ x, atI xs i = some x ∧ f x = y := by
  unfold atI at h ⊢
  rw [List.length_map] at h
  obtain ⟨j, h1, h2⟩ := bnd h
  rw [h1]
  rw [List.getElem?_map] at h2
  exact map_inv h2
theorem atI_D {C : Cfg} {H : Hp} {vs : List V} {ds : List D} {i : Int} {d : D} (h : Dats C H vs ds) (e : atI ds i = some d) : ∃ v, atI vs i = some v ∧ Dat C H v d := by
  unfold atI at e ⊢
  obtain ⟨j, h1, h2⟩ := bnd e
  rw [h.length, h1]
  exact h.getD h2
theorem ix_ok (hK : X.K = G.C.K) : IxR X (fun x y H Q => rP G.C idxD [x, y] H Q) := (ix_seq (X := X)).imp fun x y H Q q => by
  obtain ⟨ds, t, Z, al, h1, h2, h3, h4, h5⟩ := q
  obtain ⟨d, e, rfl, k1, k2⟩ := h1.two
  have k3 : al = true → Dat G.C (hid H Z) x d := fun q => by cases h2 q with | cons h _ => exact h
  unfold idxD at h4
  split at h4
  · rename_i ys i q
    cases q
    obtain ⟨d, e, rfl⟩ := map_inv h4
    obtain ⟨a, vs, rfl, ha, hv⟩ := k1.vlst
    obtain ⟨v, e1, hd⟩ := atI_D hv e
    refine .inl ⟨a, vs, i, v, rfl, k2.vint, SqL.of ha, e1, h5 [] v H (Post.sh hd fun q => ?_)⟩
    obtain ⟨v', e2, hd'⟩ := atI_D ((k3 q).at hid_sub ha) e
    rw [e1] at e2; cases e2; exact hd'
  · rename_i ys i q
    cases q
    obtain ⟨d, e, rfl⟩ := map_inv h4
    obtain ⟨a, vs, rfl, ha, hv⟩ := k1.vtup
    obtain ⟨v, e1, hd⟩ := atI_D hv e
    refine .inr (.inl ⟨a, vs, i, v, rfl, k2.vint, SqT.of ha, e1, h5 [] v H (Post.sh hd fun q => ?_)⟩)
    obtain ⟨v', e2, hd'⟩ := atI_D ((k3 q).atT hid_sub ha) e
    rw [e1] at e2; cases e2; exact hd'
  · rename_i ns i q
    cases q
    obtain ⟨n, e, rfl⟩ := map_inv h4
    obtain ⟨a, rfl, ha⟩ := k1.vscr
    refine .inl ⟨a, ns.map V.int, i, .int n, rfl, k2.vint, by rw [hK]; exact ha, ?_, h5 [] _ H (Post.sh (.int n) fun q => .int n)⟩
    unfold atI at e ⊢
    obtain ⟨j, e1, e2⟩ := bnd e
    rw [List.length_map, e1]
    show (ns.map V.int)[j]? = _
    rw [List.getElem?_map, e2]; rfl
  · rename_i s i q
    cases q
    obtain ⟨c1, h4⟩ := iff_some h4
    obtain ⟨c, e, rfl⟩ := map_inv h4
    exact .inr (.inr ⟨st s, i, c, k1.vstr, k2.vint, by rw [st_len, sz_eq]; exact c1, e, h5 [] _ H (Post.sh (.str [c]) fun q => .str [c])⟩)
  · cases h4
theorem so_idx (g : Good G sc X) (ha : SoE G sc X a a') (hb : SoE G sc X b b') (nb : nice b' = true) : SoE G sc X (.idx a b) (.Subscript a' b' pos) := by
  have key : ∀ (σ : L2.St) (H : Hp) (Q : VK) (H0 : Hp) (B : Addr → Prop) (AA : Nat → List Addr) (ρ : Rho) (x y t : T), Rep G.C H0 B AA H σ ρ → ev a (dl ρ) = some x → ev b (dl ρ) = some y → idxD [x.d, y.d] = some t → sal (avs a) (ow ρ) = true →
      (∀ As v H', Post G.C (ZZ B AA) H t true As v H' → Q v H') → tOp (fun x y H Q => rP G.C idxD [x, y] H Q) (tE G.C a) (tE G.C b) σ H Q := by
    intro σ H Q H0 B AA ρ x y t R h1 h2 h s q
    -- the index is an int: it is read with all let go
    obtain ⟨i, hi⟩ : ∃ i, y.d = .int i := by
      unfold idxD at h
      split at h
      · rename_i q; exact ⟨_, (List.cons.inj (List.cons.inj q).2).1⟩
      · rename_i q; exact ⟨_, (List.cons.inj (List.cons.inj q).2).1⟩
      · rename_i q; exact ⟨_, (List.cons.inj (List.cons.inj q).2).1⟩
      · rename_i q; exact ⟨_, (List.cons.inj (List.cons.inj q).2).1⟩
      · cases h
    refine tE_of R h1 s fun As v H1 p => ?_
    refine tE_frz (R.mono p.same) h2 fun Bs w H2 p2 => ?_
    have hw : Post G.C (Zp (ZZ B AA) As) H1 (.sh y.d) true [] w H2 := by
      have := p2.dat
      rw [hi] at this ⊢
      have hv := this.vint
      subst hv
      exact Post.sh' p2.same (.int i) fun _ => .int i
    exact rP_of R.z (Posts.cons p (Posts.cons hw Posts.nil)) h fun Bs u H' p3 => q Bs u H' (p3.back (p.same.trans p2.same))
  refine so_val g ((pe_ix (ix_ok g.K) ha.1 hb.1 (ix_plain nb)).imp fun σ H Q q => ?_) rfl fun δ k h => ?_
  · obtain ⟨H0, B, AA, ρ, t, R, h, s, q⟩ := q
    unfold ev at h
    obtain ⟨x, h1, h⟩ := bnd h
    obtain ⟨y, h2, h⟩ := bnd h
    exact key σ H Q H0 B AA ρ x y t R h1 h2 h s q
  · unfold tst at h
    obtain ⟨x, h1, h⟩ := bnd h
    obtain ⟨y, h2, h⟩ := bnd h
    obtain ⟨r, h3, h⟩ := bnd h
    exact ⟨r, by unfold ev; rw [h1, h2]; exact h3, h⟩
/-! ### slices -/
theorem _root_.L2.SlR.imp {r r' : V → Option Int → Option Int → Hp → VK → Prop} (h : SlR X r) (k : ∀ x l u H Q, r' x l u H Q → r x l u H Q) : SlR X r' :=
  fun pins s σ H x v vl vu lo hi sl Q I rx hs pl pu q => h pins s σ H x v vl vu lo hi sl Q I rx hs pl pu (k _ _ _ _ _ q)
theorem cutL_D {C : Cfg} {H : Hp} {vs : List V} {ds : List D} {lo hi : Option Int} (h : Dats C H vs ds) : Dats C H (cutV vs lo hi) (cutL ds lo hi) := by
  unfold cutV cutL
  rw [h.length]
  exact (h.drop _).take _
theorem sl_ok (hK : X.K = G.C.K) : SlR X (fun x lo hi H Q => rP G.C (slcD lo hi) [x] H Q) := (SlR.or (sl_list (X := X)) (sl_str (X := X))).imp fun x lo hi H Q q => by
  obtain ⟨ds, t, Z, al, h1, h2, h3, h4, h5⟩ := q
  obtain ⟨d, rfl, k1⟩ := h1.one
  have k3 : al = true → Dat G.C (hid H Z) x d := fun q => by cases h2 q with | cons h _ => exact h
  unfold slcD at h4
  split at h4
  · rename_i ys q
    cases q
    cases h4
    obtain ⟨a, vs, rfl, ha, hv⟩ := k1.vlst
    exact .inl ⟨a, vs, rfl, SqL.of ha, fun p hp => h5 _ _ _ (Post.newS (cutL_D hv) (fun q => cutL_D ((k3 q).at hid_sub ha)) hp)⟩
  · rename_i ns q
    cases q
    cases h4
    obtain ⟨a, rfl, ha⟩ := k1.vscr
    refine .inl ⟨a, ns.map V.int, rfl, by rw [hK]; exact ha, fun p hp => ?_⟩
    have e : cutV (ns.map V.int) lo hi = (cutL ns lo hi).map V.int := by
      unfold cutV cutL
      rw [List.length_map, List.map_take, List.map_drop]
    rw [e]
    exact h5 _ _ _ (Post.newS Dats.ints (fun q => Dats.ints) hp)
  · rename_i s q
    cases q
    obtain ⟨c1, rfl⟩ := iff_inv h4
    refine .inr ⟨st s, k1.vstr, by rw [st_len, sz_eq]; exact c1, ?_⟩
    have e : cutS (st s) lo hi = st (cutL s lo hi) := by
      unfold cutS cutL
      rw [st_len]
    rw [e]
    exact h5 [] _ H (Post.sh (.str _) fun q => .str _)
  · cases h4
theorem spo_non : PO X none (tO G.C .non) := po_none.imp fun σ H Q q => by
  obtain ⟨H0, B, AA, ρ, l, R, h, q⟩ := q
  unfold evo at h
  cases h
  exact q H (Same.refl H)
theorem spo_som (ha : PE X e' (tE G.C e)) : PO X (some e') (tO G.C (.som e)) := (po_some ha).imp fun σ H Q q => by
  obtain ⟨H0, B, AA, ρ, l, R, h, q⟩ := q
  unfold evo at h
  obtain ⟨t, h1, h⟩ := bnd h
  split at h
  · rename_i i hi
    cases h
    refine tE_frz R h1 fun As v H1 p => ⟨i, ?_, q _ p.same⟩
    have := p.dat
    rw [hi] at this
    exact this.vint
  · cases h
theorem so_slc {lo hi : Eo} {lo' hi' : Option Expr} {p2 : Pos} (g : Good G sc X) (ha : SoE G sc X a a') (hl : PO X lo' (tO G.C lo)) (hh : PO X hi' (tO G.C hi)) : SoE G sc X (.slc a lo hi) (.Subscript a' (.Slice lo' hi' none p2) pos) := by
  refine so_no ((pe_slice (sl_ok g.K) ha.1 hl hh).imp fun σ H Q q => ?_) fun δ => by unfold tst; rfl
  obtain ⟨H0, B, AA, ρ, t, R, h, s, q⟩ := q
  unfold ev at h
  obtain ⟨x, h1, h⟩ := bnd h
  obtain ⟨l, h2, h⟩ := bnd h
  obtain ⟨u, h3, h⟩ := bnd h
  refine tE_of R h1 s fun As v H1 p => ?_
  refine ⟨H0, B, AA, ρ, l, R.mono p.same, h2, fun H2 s2 => ⟨H0, B, AA, ρ, u, R.mono (p.same.trans s2), h3, fun H3 s3 => ?_⟩⟩
  have e : Same H1 H3 := s2.trans s3
  have ps : Posts G.C (ZZ B AA) H [x] true As [v] H3 := by
    have := Posts.cons (p.later e) (Posts.nil (C := G.C) (H := H3) (Z := Zp (ZZ B AA) As) (al := true))
    rw [List.append_nil] at this
    exact this
  exact rP_of R.z ps h fun Bs w H' p3 => q Bs w H' (p3.back (p.same.trans e))
/-! ### fields -/
theorem zip_lookup {C : Cfg} {H : Hp} {f : Str} : ∀ {ns : List Str} {vs : List V} {ds : List D} {d : D}, Dats C H vs ds → (ns.zip ds).lookup f = some d → ∃ v, (ns.zip vs).lookup f = some v ∧ Dat C H v d
  | [], _, _, _, _, h => by simp at h
  | n :: ns, _, _, _, .nil, h => by simp at h
  | n :: ns, v :: vs, d' :: ds, d, .cons hd hs, h => by
    simp only [List.zip_cons_cons, List.lookup_cons] at h ⊢
    split
    · rename_i q
      rw [q] at h
      cases h
      exact ⟨v, rfl, hd⟩
    · rename_i q
      rw [q] at h
      exact zip_lookup hs h
theorem so_fld {f : Str} {cs : List Str} (g : Good G sc X) (ha : SoE G sc X a a') (hb : baseB a' = true) (hn : ∀ c, c ∈ cs → FldOk G f c) : SoE G sc X (.fld a f cs) (.Attribute a' f pos) := by
  refine so_val g ((pe_fld ha.1 (base_ok hb)).imp fun σ H Q q => ?_) rfl fun δ k h => ?_
  · obtain ⟨H0, B, AA, ρ, t, R, h, s, q⟩ := q
    unfold ev at h
    obtain ⟨x, h1, h⟩ := bnd h
    refine tE_of R h1 s fun As v H1 p => ?_
    have pd := p.dat
    have pd' := p.dh R.z rfl
    cases hx : x.d with
    | ins c ns xs =>
      rw [hx] at h pd pd'
      simp only [fldD] at h
      split at h
      · rename_i hc
        obtain ⟨d, hd, rfl⟩ := map_inv h
        cases pd with
        | ins ho hm hv hl =>
          obtain ⟨w, e1, e2⟩ := zip_lookup hv hd
          obtain ⟨k1, k2⟩ := hn c (by simpa using hc) _ hm
          refine ⟨_, _, _, _, w, rfl, ho, by rw [g.K]; exact k1, by rw [g.K]; exact k2, e1, q [] w H1 (Post.sh' p.same e2 fun _ => ?_)⟩
          cases pd' with
          | ins ho' hm' hv' hl' =>
            have := hid_sub _ _ ho'
            rw [ho] at this
            have e3 := (HO.ins.inj (Option.some.inj this)).2.2
            obtain ⟨w', e4, e5⟩ := zip_lookup hv' hd
            rw [← e3, e1] at e4
            cases e4
            exact e5
      · cases h
    | _ => rw [hx] at h; simp only [fldD] at h; cases h
  · unfold tst at h
    obtain ⟨x, h1, h⟩ := bnd h
    obtain ⟨r, h3, h⟩ := bnd h
    exact ⟨r, by unfold ev; rw [h1]; exact h3, h⟩
/-! ### calls -/
theorem so_bi (bb : Bi) {es' : List Expr} (g : Good G sc X) (hl : glB sc bb.name = true) (hn : nmB bb.name = true) (hs : PA X (a' :: es') (tA G.C es)) (n : (a' :: es').all nice = true) (hm : NoG G bb.name) : SoE G sc X (.bi bb es) (.Call (.Name bb.name p) (a' :: es') [] pos) := by
  obtain ⟨n1, n2, n3⟩ := nmB_inv hn
  have n' := n
  rw [List.all_cons, Bool.and_eq_true] at n'
  have hm : X.mg bb.name = none := by rw [g.mg]; exact hm
  have hc := bi_ok (C := G.C) g.calm g.K bb
  have hp : PE X (.Call (.Name bb.name p) (a' :: es') [] pos) (tCB (fun vs H Q => rP G.C (biD bb) vs H Q) (tA G.C es)) := by
    cases bb
    case len => exact pe_callB hc (g.gl _ hl) hm (by decide +kernel) hs n3 n1 (star_cons n'.1) (star_any n'.2)
    case sum => exact pe_callB hc (g.gl _ hl) hm (by decide +kernel) hs n3 n1 (star_cons n'.1) (star_any n'.2)
    case any => exact pe_callB hc (g.gl _ hl) hm (by decide +kernel) hs n3 n1 (star_cons n'.1) (star_any n'.2)
    case all => exact pe_callB hc (g.gl _ hl) hm (by decide +kernel) hs n3 n1 (star_cons n'.1) (star_any n'.2)
    case max => exact pe_callB hc (g.gl _ hl) hm (by decide +kernel) hs n3 n1 (star_cons n'.1) (star_any n'.2)
    case min => exact pe_callB hc (g.gl _ hl) hm (by decide +kernel) hs n3 n1 (star_cons n'.1) (star_any n'.2)
    case abs => exact pe_callB hc (g.gl _ hl) hm (by decide +kernel) hs n3 n1 (star_cons n'.1) (star_any n'.2)
    case int => exact pe_callTy hc (g.gl _ hl) hm (by decide +kernel) hs n3 n1 (star_cons n'.1) (star_any n'.2)
    case str => exact pe_callTy hc (g.gl _ hl) hm (by decide +kernel) hs n3 n1 (star_cons n'.1) (star_any n'.2)
    case list => exact pe_callTy hc (g.gl _ hl) hm (by decide +kernel) hs n3 n1 (star_cons n'.1) (star_any n'.2)
    case tuple => exact pe_callTy hc (g.gl _ hl) hm (by decide +kernel) hs n3 n1 (star_cons n'.1) (star_any n'.2)
  refine so_val g (hp.imp fun σ H Q q => ?_) rfl fun δ k h => ?_
  · obtain ⟨H0, B, AA, ρ, t, R, h, s, q⟩ := q
    unfold ev at h
    obtain ⟨ts, h1, h⟩ := bnd h
    refine args_of R h1 h ?_ q
    unfold avs at s
    by_cases ho : bb.sca = true
    · exact .inr (biD_no ho h)
    · rw [if_neg ho] at s
      exact .inl s
  · unfold tst at h
    obtain ⟨ts, h1, h⟩ := bnd h
    obtain ⟨r, h3, h⟩ := bnd h
    exact ⟨r, by unfold ev; rw [h1]; exact h3, h⟩
theorem so_cal {f : Str} {F : List D → Option T} {dds : List D} {es' : List Expr} (g : Good G sc X) (hl : glB sc f = true) (hn : nmB f = true) (hs : PA X es' (tA G.C es)) (n : es'.all nice = true) (hz : es' = [] → es = .nil) (hm : CallOk G f F dds) : SoE G sc X (.cal f F dds es) (.Call (.Name f p) es' [] pos) := by
  obtain ⟨n1, n2, n3⟩ := nmB_inv hn
  obtain ⟨fa, fd, ps, dvs, ds, c1, c2, c3, c4, c5, c6⟩ := hm
  have F1 : FnOk X.prog X.w X.K X.mg X.base CX0 G.k fa fd ps (pureSp G.C F) := by rw [g.prog, g.w, g.K, g.mg, g.base]; exact c3
  have hp : PE X (.Call (.Name f p) es' [] pos) (tCall (pureSp G.C F) dvs E0 (tA G.C es)) := by
    cases es' with
    | nil =>
      refine (pe_call0 F1 g.room (g.gl f hl) (by rw [g.mg]; exact c1) (by rw [g.K]; exact c2) (by rw [g.K]; exact c4) c5 pass0 n1).imp fun σ H Q q => ?_
      obtain ⟨H0, B, AA, ρ, ts, R, h, s, q⟩ := q
      have := hz rfl
      subst this
      unfold evs at h
      cases h
      exact q [] [] H Posts.nil
    | cons e' r =>
      have n' := n
      rw [List.all_cons, Bool.and_eq_true] at n'
      exact pe_call F1 g.room (g.gl f hl) (by rw [g.mg]; exact c1) (by rw [g.K]; exact c2) (by rw [g.K]; exact c4) c5 pass0 hs n1 (star_cons n'.1) (star_any n'.2)
  refine so_val g (hp.imp fun σ H Q q => ?_) rfl fun δ k h => ?_
  · obtain ⟨H0, B, AA, ρ, t, R, h, s, q⟩ := q
    unfold ev at h
    obtain ⟨ts, h1, h⟩ := bnd h
    refine tA_of R h1 s fun As vs H1 ps => ?_
    refine ⟨T.ds ts ++ dds, t, ZZ B AA, true, ps.dat.append (c6 _), fun q => (ps.dh R.z q).append (c6 _), fun a q => (R.z a q).mono ps.same, h, fun Bs v H' p => q Bs v H' (p.back ps.same)⟩
  · unfold tst at h
    obtain ⟨ts, h1, h⟩ := bnd h
    obtain ⟨r, h3, h⟩ := bnd h
    exact ⟨r, by unfold ev; rw [h1]; exact h3, h⟩
theorem so_mth (m : Mt) {o : Expr} {ap : Pos} {es' : List Expr} (g : Good G sc X) (ha : SoE G sc X a o) (hb : baseB o = true) (hline : (ap.endLine == pos.line) = true) (hlen : es'.length < 20) (hs : PA X (a' :: es') (tA G.C es)) (n : (a' :: es').all nice = true) :
    SoE G sc X (.mth m a es) (.Call (.Attribute o m.name ap) (a' :: es') [] pos) := by
  have n' := n
  rw [List.all_cons, Bool.and_eq_true] at n'
  have hp := pe_bm (cpos := pos) F.plainAttrs_str (mt_slot m).1 (mt_slot m).2 (mt_ok (C := G.C) (X := X) m) ha.1 hs (base_ok hb) (by
    rw [star_few n]
    have : decide ((a' :: es').length + ([] : List Keyword).length + (if ([] : List Keyword).isEmpty then 0 else 1) < 30) = true := decide_eq_true (by simp only [List.length_cons, List.length_nil]; simp; omega)
    rw [this]; rfl) hline (star_cons n'.1) (star_any n'.2)
  refine so_val g (hp.imp fun σ H Q q => ?_) rfl fun δ k h => ?_
  · obtain ⟨H0, B, AA, ρ, t, R, h, s, q⟩ := q
    unfold ev at h
    obtain ⟨x, h1, h⟩ := bnd h
    obtain ⟨ts, h2, h⟩ := bnd h
    obtain ⟨ss, r, e1⟩ := mtD_str h
    have hx := (List.cons.inj e1).1
    unfold avs at s
    by_cases ho : m.sca = true
    · obtain ⟨d, hd, nd⟩ := mtD_no ho h
      refine tE_frz R h1 fun As v H1 p => ⟨?_, ?_⟩
      · have := p.dat
        rw [hx] at this
        rw [this.vstr]; rfl
      · refine tA_of (R.frz.grow p.same p.new) (by rw [dl_frz]; exact h2) (by rw [ow_frz]; exact sal_no _) fun Bs vs H2 ps => ?_
        rw [ZZ_Zp] at ps
        exact rP_of R.frz.z (Posts.cons p ps) h fun Cs u H' p3 => q [] u H' (fin_no R (p.same.trans ps.same) p3 hd nd)
    · rw [if_neg ho] at s
      have s := sal_app.mp s
      refine tE_of R h1 s.1 fun As v H1 p => ⟨?_, ?_⟩
      · have := p.dat
        rw [hx] at this
        rw [this.vstr]; rfl
      · refine tA_of (R.grow p.same p.new) h2 s.2 fun Bs vs H2 ps => ?_
        rw [ZZ_Zp] at ps
        exact rP_of R.z (Posts.cons p ps) h fun Cs u H' p3 => q Cs u H' (p3.back (p.same.trans ps.same))
  · unfold tst at h
    obtain ⟨x, h1, h⟩ := bnd h
    obtain ⟨ts, h2, h⟩ := bnd h
    obtain ⟨r, h3, h⟩ := bnd h
    exact ⟨r, by unfold ev; rw [h1, h2]; exact h3, h⟩
theorem ty_of {K : PySem.W.Frag} {C : Cfg} {H : Hp} {v : V} {d : D} {s : String} (h : Dat C H v d) (e : tyD d = some s) : TyX K H v (.type s) := by
  cases h with
  | non => cases e; exact .base .non
  | bl b => cases e; exact .base (.bl _)
  | int b => cases e; exact .base (.int _)
  | str b => cases e; exact .base (.str _)
  | lst h hs => cases e; exact .base (.lst h)
  | tup h hs => cases e; exact .base (.tup h)
  | dic h hs hl => cases e; exact .base (.dK h)
  | scr h => cases e
  | ins h hm hs hl => cases e
theorem so_isi {x : Str} {t : String} {p2 : Pos} (g : Good G sc X) (hl : glB sc "isinstance" = true) (hl2 : glB sc x = true) (hn : nmB x = true) (hx : x = Str.ofString t) (ha : SoE G sc X a a') (n : nice a' = true) (hm : NoG G "isinstance") (hm2 : NoG G x) (hv : bootBuiltins x = some (.type t)) :
    SoE G sc X (.isi a x t) (.Call (.Name "isinstance" p) [a', .Name x p2] [] pos) := by
  obtain ⟨n1, n2, n3⟩ := nmB_inv hn
  have ht : PE X (.Name x p2) (tC (.ty t)) := pe_bltn (g.gl x hl2) (by rw [g.mg]; exact hm2) hv rfl n3 n1
  have hp := pe_callB (pos := pos) (p := p) (call_isi (X := X)) (g.gl _ hl) (by rw [g.mg]; exact hm) PyProof.Rows.boot_isinstance (pa_cons ha.1 (pa_cons ht pa_nil rfl) (star_cons n)) (by decide) (by decide) (star_cons n) rfl
  have key : ∀ (σ : L2.St) (H : Hp) (Q : VK) (H0 : Hp) (B : Addr → Prop) (AA : Nat → List Addr) (ρ : Rho) (y : T) (s : String) (k : Bool), Rep G.C H0 B AA H σ ρ → ev a (dl ρ) = some y → tyD y.d = some s → kitB s t = some k →
      (∀ H', Same H H' → Q (.bl k) H') → tCB (rIsi X.K) (tCons (tE G.C a) (tCons (tC (.ty t)) tNil)) σ H Q := by
    intro σ H Q H0 B AA ρ y s k R h1 h2 h3 q
    exact tE_frz R h1 fun As v H1 p => ⟨v, .ty t, .type s, .type t, k, rfl, .ty t, ty_of p.dat h2, kit_ty h3, q _ p.same⟩
  refine so_val g (hp.imp fun σ H Q q => ?_) rfl fun δ k h => ?_
  · obtain ⟨H0, B, AA, ρ, t, R, h, s, q⟩ := q
    unfold ev at h
    obtain ⟨y, h1, h⟩ := bnd h
    obtain ⟨s, h2, h⟩ := bnd h
    obtain ⟨k, h3, h⟩ := bnd h
    have := sc_inj h; subst this
    exact key σ H Q H0 B AA ρ y s k R h1 h2 h3 fun H' e => q [] _ H' (Post.sh' e (.bl _) fun _ => .bl _)
  · unfold tst at h
    obtain ⟨y, h1, h⟩ := bnd h
    obtain ⟨s, h2, h3⟩ := bnd h
    exact ⟨.sh (.bl k), by unfold ev; rw [h1]; show ((tyD y.d).bind _) = _; rw [h2]; show ((kitB s t).bind _) = _; rw [h3]; rfl, rfl⟩
end
end Eng
/-! Eng K: what is walked; comprehensions. -/
namespace Eng
open PySem L2
section
variable {C : Cfg} {F : Hp} {vs us : List V} {ds es : List D} {a b : Addr} {K : PySem.W.Frag}
theorem wd_list (ha : F a = some (.lst vs)) (h : Dats C F vs ds) : WalkD C F (Itl K a) ds := by
  refine ⟨_, _, by rw [← h.length]; exact walk_list (K := K) (a := a) (xs := vs), fun H e => SqL.of (e _ _ ha), fun i d H2 x H3 hd e y => ?_⟩
  obtain ⟨rfl, hx⟩ := y
  refine ⟨Same.refl _, fun Z z k => ?_⟩
  obtain ⟨v, h1, h2⟩ := h.getD hd
  rw [hx] at h1; cases h1
  exact h2.mono k
theorem wd_tup (ha : F a = some (.tup vs)) (h : Dats C F vs ds) : WalkD C F (Itt K a) ds := by
  refine ⟨_, _, by rw [← h.length]; exact walk_tup (K := K) (a := a) (xs := vs), fun H e => SqT.of (e _ _ ha), fun i d H2 x H3 hd e y => ?_⟩
  obtain ⟨rfl, hx⟩ := y
  refine ⟨Same.refl _, fun Z z k => ?_⟩
  obtain ⟨v, h1, h2⟩ := h.getD hd
  rw [hx] at h1; cases h1
  exact h2.mono k
theorem wd_scr {ns : List Int} (ha : SqL K F a (ns.map V.int)) : WalkD C F (Itl K a) (ns.map D.int) := by
  refine ⟨_, _, by rw [List.length_map, ← List.length_map (f := V.int)]; exact walk_list (K := K) (a := a) (xs := ns.map V.int), fun H e => e.seq ha, fun i d H2 x H3 hd e y => ?_⟩
  obtain ⟨rfl, hx⟩ := y
  refine ⟨Same.refl _, fun Z z k => ?_⟩
  rw [List.getElem?_map] at hd hx
  obtain ⟨n, h1, rfl⟩ := map_inv hd
  rw [h1] at hx; cases hx
  exact .int _
theorem wd_str (s : List Nat) : WalkD C F (Its (st s)) (s.map fun c => .str [c]) := by
  refine ⟨_, _, by rw [List.length_map]; exact walk_str (z := st s), fun H e => trivial, fun i d H2 x H3 hd e y => ?_⟩
  obtain ⟨rfl, c, hc, rfl⟩ := y
  refine ⟨Same.refl _, fun Z z k => ?_⟩
  rw [List.getElem?_map] at hd
  obtain ⟨n, h1, rfl⟩ := map_inv hd
  have hc : s[i]? = some c := by simpa using hc
  rw [h1] at hc; cases hc
  exact .str _
theorem wd_rng (lo : Int) (n : Nat) : WalkD C F (Itr lo n) ((List.range n).map fun (i : Nat) => .int (lo + i)) := by
  refine ⟨_, _, by rw [List.length_map, List.length_range]; exact walk_range (lo := lo) (n := n), fun H e => trivial, fun i d H2 x H3 hd e y => ?_⟩
  obtain ⟨rfl, rfl⟩ := y
  refine ⟨Same.refl _, fun Z z k => ?_⟩
  rw [List.getElem?_map] at hd
  obtain ⟨j, h1, rfl⟩ := map_inv hd
  have hj : i < (List.range n).length := (List.getElem?_eq_some_iff.mp h1).1
  rw [List.getElem?_eq_getElem hj] at h1
  simp at h1
  subst h1
  exact .int _
theorem pair_dat {H2 H3 : Hp} {T : Addr} {x y : V} {d e : D} {Z : Addr → Prop} (z : ∀ a, Z a → nTup H2 a) (hT : H2 T = none) (e3 : H3 = upd H2 T (.tup [x, y])) (hx : Dat C (hid H2 Z) x d) (hy : Dat C (hid H2 Z) y e) : Dat C (hid H3 Z) (.ref T) (.tup [d, e]) := by
  subst e3
  have s : Same (hid H2 Z) (hid (upd H2 T (.tup [x, y])) Z) := hid_mono (Same.upd hT) fun _ _ _ q => q
  refine .tup (hid_some.mpr ⟨fun q => ?_, upd_same⟩) (.cons (hx.mono s) (.cons (hy.mono s) .nil))
  obtain ⟨o, h, _⟩ := z T q
  rw [hT] at h; cases h
theorem wd_enm (ha : F a = some (.lst vs)) (h : Dats C F vs ds) : WalkD C F (Ite K a) (ds.mapIdx fun i y => .tup [.int i, y]) := by
  refine ⟨_, _, by rw [List.length_mapIdx, ← h.length]; exact walk_enum (K := K) (a := a) (xs := vs), fun H e => SqL.of (e _ _ ha), fun i d H2 x H3 hd e y => ?_⟩
  obtain ⟨T, u, w, rfl, hT, e3, h1, h2⟩ := y
  cases h1
  rw [List.getElem?_mapIdx] at hd
  obtain ⟨d', hd', rfl⟩ := map_inv hd
  obtain ⟨w', h3, h4⟩ := h.getD hd'
  have h2 : vs[i]? = some w := h2
  rw [h2] at h3; cases h3
  exact ⟨by rw [e3]; exact Same.upd hT, fun Z z k => pair_dat z hT e3 (.int _) (h4.mono k)⟩
theorem wd_zip (ha : F a = some (.lst vs)) (h : Dats C F vs ds) (hb : F b = some (.lst us)) (h' : Dats C F us es) : WalkD C F (Itz K a b) (List.zipWith (fun x y => .tup [x, y]) ds es) := by
  refine ⟨fun H => SqL K H a vs ∧ SqL K H b us, _, by rw [List.length_zipWith, ← h.length, ← h'.length]; exact walk_zip (K := K) (a := a) (b := b) (xs := vs) (ys := us) rfl, fun H e => ⟨SqL.of (e _ _ ha), SqL.of (e _ _ hb)⟩, fun i d H2 x H3 hd e y => ?_⟩
  obtain ⟨T, u, w, rfl, hT, e3, h1, h2⟩ := y
  rw [List.getElem?_zipWith] at hd
  obtain ⟨d1, q1, k1⟩ := h.get h1
  obtain ⟨d2, q2, k2⟩ := h'.get h2
  rw [q1, q2] at hd
  cases hd
  exact ⟨by rw [e3]; exact Same.upd hT, fun Z z k => pair_dat z hT e3 (k1.mono k) (k2.mono k)⟩
theorem wd_enmS (s : List Nat) : WalkD C F (Ites 0 (st s)) (s.mapIdx fun i c => .tup [.int i, .str [c]]) := by
  refine ⟨_, _, by rw [List.length_mapIdx]; exact walk_enumS (k := 0) (x := st s), fun H e => trivial, fun i d H2 x H3 hd e y => ?_⟩
  obtain ⟨T, c, rfl, hT, e3, hc⟩ := y
  have hc : s[i]? = some c := by simpa using hc
  rw [List.getElem?_mapIdx, hc] at hd
  cases hd
  rw [Int.zero_add] at e3
  exact ⟨by rw [e3]; exact Same.upd hT, fun Z z k => pair_dat z hT e3 (.int _) (.str _)⟩
theorem wd_zipS (ha : F a = some (.lst vs)) (h : Dats C F vs ds) (s : List Nat) : WalkD C F (Itzs K a (st s)) (List.zipWith (fun x c => .tup [x, .str [c]]) ds s) := by
  refine ⟨fun H => SqL K H a vs, _, by rw [List.length_zipWith, ← h.length]; exact walk_zipS (K := K) (a := a) (xs := vs) (x := st s), fun H e => SqL.of (e _ _ ha), fun i d H2 x H3 hd e y => ?_⟩
  obtain ⟨T, u, c, rfl, hT, e3, h1, hc⟩ := y
  have hc : s[i]? = some c := by simpa using hc
  rw [List.getElem?_zipWith] at hd
  obtain ⟨d1, q1, k1⟩ := h.get h1
  rw [q1, hc] at hd
  cases hd
  exact ⟨by rw [e3]; exact Same.upd hT, fun Z z k => pair_dat z hT e3 (k1.mono k) (.str _)⟩
end
section
variable {G : GC} {sc : Scope} {X : Cx} {e a b c : E} {e' a' b' c' tg : Expr} {pos p : Pos}
theorem si_seq (g : Good G sc X) (ha : PE X e' (tE G.C e)) : PI X tg e' (tI G.C (.seq e)) := (PI.or (pi_list ha) (PI.or (pi_tup ha) (pi_str ha))).imp fun σ H R q => by
  obtain ⟨H0, B, AA, ρ, ds, Rp, h, s, q⟩ := q
  unfold evi at h
  obtain ⟨t, h1, h⟩ := bnd h
  have key : ∀ {Q : VK}, (∀ v H', Same H H' → Dat G.C H' v t.d → Dat G.C (hid H' (ZZ B AA)) v t.d → Q v H') → tE G.C e σ H Q := fun k => tE_of Rp h1 s fun As v H' p => k v H' p.same p.dat (p.dh Rp.z rfl)
  cases ht : t.d with
  | lst ys =>
    rw [ht] at h; cases h
    refine .inl (key fun v H1 e d d' => ?_)
    rw [ht] at d d'
    obtain ⟨a, vs, rfl, h2, h3⟩ := d'.vlst
    exact ⟨a, rfl, ⟨vs, SqL.of (hid_sub _ _ h2)⟩, q _ _ e (wd_list h2 h3)⟩
  | tup ys =>
    rw [ht] at h; cases h
    refine .inr (.inl (key fun v H1 e d d' => ?_))
    rw [ht] at d d'
    obtain ⟨a, vs, rfl, h2, h3⟩ := d'.vtup
    exact ⟨a, rfl, ⟨vs, SqT.of (hid_sub _ _ h2)⟩, q _ _ e (wd_tup h2 h3)⟩
  | scr ns =>
    rw [ht] at h; cases h
    refine .inl (key fun v H1 e d d' => ?_)
    rw [ht] at d d'
    obtain ⟨a, rfl, h2⟩ := d'.vscr
    have h2 : SqL X.K (hid H1 (ZZ B AA)) a (ns.map V.int) := by rw [g.K]; exact h2
    exact ⟨a, rfl, ⟨_, hid_sub.seq h2⟩, q _ _ e (wd_scr h2)⟩
  | str cs =>
    rw [ht] at h; cases h
    refine .inr (.inr (key fun v H1 e d d' => ?_))
    rw [ht] at d d'
    exact ⟨st cs, d.vstr, q _ _ e (wd_str cs)⟩
  | _ => rw [ht] at h; cases h
theorem rngD_inv {lo n : Int} {ds : List D} (h : rngD lo n = some ds) : (-(2 ^ 62) ≤ lo ∧ lo < 2 ^ 62 ∧ -(2 ^ 62) ≤ n ∧ n < 2 ^ 62) ∧ ds = ((List.range (n - lo).toNat).map fun (i : Nat) => .int (lo + i)) := by
  unfold rngD at h
  split at h
  · cases h; exact ⟨by assumption, rfl⟩
  · cases h
theorem si_rng1 (g : Good G sc X) (hl : glB sc "range" = true) (hm : NoG G "range") (ha : PE X a' (tE G.C a)) (n : nice a' = true) : PI X tg (.Call (.Name "range" p) [a'] [] pos) (tI G.C (.rng1 a)) :=
  (pi_range1 (g.gl _ hl) (by rw [g.mg]; exact hm) (pa_cons ha pa_nil (star_cons n)) (star_cons n)).imp fun σ H R q => by
    obtain ⟨H0, B, AA, ρ, ds, Rp, h, s, q⟩ := q
    unfold evi at h
    obtain ⟨t, h1, h⟩ := bnd h
    split at h
    · rename_i n hn
      obtain ⟨c1, rfl⟩ := rngD_inv h
      refine tE_frz Rp h1 fun As v H1 p => ⟨n, ?_, c1.2.2.1, c1.2.2.2, q _ _ p.same ?_⟩
      · have := p.dat; rw [hn] at this; rw [this.vint]
      · have := wd_rng (C := G.C) (F := hid H1 (ZZ B AA)) 0 n.toNat
        rw [Int.sub_zero]
        exact this
    · cases h
theorem si_rng2 (g : Good G sc X) (hl : glB sc "range" = true) (hm : NoG G "range") (ha : PE X a' (tE G.C a)) (hb : PE X b' (tE G.C b)) (n : nice a' = true) (n2 : nice b' = true) : PI X tg (.Call (.Name "range" p) [a', b'] [] pos) (tI G.C (.rng2 a b)) :=
  (pi_range2 (g.gl _ hl) (by rw [g.mg]; exact hm) (pa_cons ha (pa_cons hb pa_nil (star_cons n2)) (star_cons n)) (by rw [star_cons n, star_cons n2]; rfl) (by rw [star_cons n2]; rfl)).imp fun σ H R q => by
    obtain ⟨H0, B, AA, ρ, ds, Rp, h, s, q⟩ := q
    unfold evi at h
    obtain ⟨t, h1, h⟩ := bnd h
    obtain ⟨u, h2, h⟩ := bnd h
    split at h
    · rename_i l n hl hn
      obtain ⟨c1, rfl⟩ := rngD_inv h
      refine tE_frz Rp h1 fun As v H1 p => tE_frz (Rp.mono p.same) h2 fun Bs w H2 p2 => ⟨l, n, ?_, c1, q _ _ (p.same.trans p2.same) (wd_rng l _)⟩
      have d1 := p.dat; rw [hl] at d1
      have d2 := p2.dat; rw [hn] at d2
      rw [d1.vint, d2.vint]
    · cases h
theorem rgdD_inv {lo n : Int} {ds : List D} (h : rgdD lo n = some ds) : (-(2 ^ 62) ≤ lo ∧ lo < 2 ^ 62 ∧ -(2 ^ 62) ≤ n ∧ n < 2 ^ 62) ∧ ds = ((List.range (lo - n).toNat).map fun (i : Nat) => .int (lo - i)) := by
  unfold rgdD at h
  split at h
  · cases h; exact ⟨by assumption, rfl⟩
  · cases h
theorem wd_rgd {C : Cfg} {F : Hp} (lo : Int) (n : Nat) : WalkD C F (Itc lo (-1) n) ((List.range n).map fun (i : Nat) => .int (lo - i)) := by
  refine ⟨_, _, by rw [List.length_map, List.length_range]; exact walk_rangeC (lo := lo) (c := -1) (n := n), fun H e => trivial, fun i d H2 x H3 hd e y => ?_⟩
  obtain ⟨rfl, rfl⟩ := y
  refine ⟨Same.refl _, fun Z z k => ?_⟩
  rw [List.getElem?_map] at hd
  obtain ⟨j, h1, rfl⟩ := map_inv hd
  have hj : i < (List.range n).length := (List.getElem?_eq_some_iff.mp h1).1
  rw [List.getElem?_eq_getElem hj] at h1
  simp at h1
  subst h1
  show Dat C _ (.int (lo + ((i : Nat) : Int) * -1)) _
  rw [show lo + ((i : Nat) : Int) * -1 = lo - i by omega]
  exact .int _
theorem si_rngd (g : Good G sc X) (hl : glB sc "range" = true) (hm : NoG G "range") {c' : Expr} {c : E} (ha : PE X a' (tE G.C a)) (hb : PE X b' (tE G.C b)) (hc : PE X c' (tE G.C c)) (n : nice a' = true) (n2 : nice b' = true) (n3 : nice c' = true) : PI X tg (.Call (.Name "range" p) [a', b', c'] [] pos) (tI G.C (.rngd a b c)) :=
  (pi_range3 (g.gl _ hl) (by rw [g.mg]; exact hm) (pa_cons ha (pa_cons hb (pa_cons hc pa_nil (star_cons n3)) (star_cons n2)) (star_cons n)) (star_cons n) (by rw [star_cons n2, star_cons n3]; rfl)).imp fun σ H R q => by
    obtain ⟨H0, B, AA, ρ, ds, Rp, h, s, q⟩ := q
    unfold evi at h
    obtain ⟨t, h1, h⟩ := bnd h
    obtain ⟨u, h2, h⟩ := bnd h
    obtain ⟨v, h3, h⟩ := bnd h
    unfold rgdK at h
    split at h
    · rename_i l n k hl hn hk
      split at h
      · rename_i hk1
        obtain ⟨c1, rfl⟩ := rgdD_inv h
        refine tE_frz Rp h1 fun As v1 H1 p => tE_frz (Rp.mono p.same) h2 fun Bs w H2 p2 => tE_frz ((Rp.mono p.same).mono p2.same) h3 fun Cs w3 H3 p3 => ⟨l, n, k, (l - n).toNat, ?_, ?_, q _ _ ((p.same.trans p2.same).trans p3.same) ?_⟩
        · have d1 := p.dat; rw [hl] at d1
          have d2 := p2.dat; rw [hn] at d2
          have d3 := p3.dat; rw [hk] at d3
          rw [d1.vint, d2.vint, d3.vint]
        · rw [hk1]; exact RgC.neg c1.1 c1.2.1 c1.2.2.1 c1.2.2.2
        · rw [hk1]; exact wd_rgd l _
      · cases h
    · cases h
theorem si_enm {elts : List Expr} {kk : Nat} {tp : Pos} (g : Good G sc X) (hl : glB sc "enumerate" = true) (hm : NoG G "enumerate") (ha : PE X a' (tE G.C a)) (n : nice a' = true) : PI X (.Tuple elts kk tp) (.Call (.Name "enumerate" p) [a'] [] pos) (tI G.C (.enm a)) :=
  (PI.or (pi_enum (g.gl _ hl) (by rw [g.mg]; exact hm) (pa_cons ha pa_nil (star_cons n)) (star_cons n)) (pi_enumS (g.gl _ hl) (by rw [g.mg]; exact hm) (pa_cons ha pa_nil (star_cons n)) (star_cons n))).imp fun σ H R q => by
    obtain ⟨H0, B, AA, ρ, ds, Rp, h, s, q⟩ := q
    unfold evi at h
    obtain ⟨t, h1, h⟩ := bnd h
    cases ht : t.d with
    | lst ys =>
      rw [ht] at h; cases h
      refine .inl (tE_of Rp h1 s fun As v H1 p => ?_)
      have d := p.dh Rp.z rfl
      rw [ht] at d
      obtain ⟨a, vs, rfl, h2, h3⟩ := d.vlst
      exact ⟨a, vs, rfl, SqL.of (hid_sub _ _ h2), q _ _ p.same (wd_enm h2 h3)⟩
    | str cs =>
      rw [ht] at h; cases h
      refine .inr (tE_of Rp h1 s fun As v H1 p => ?_)
      have d := p.dh Rp.z rfl
      rw [ht] at d
      have := d.vstr
      subst this
      exact ⟨_, rfl, q _ _ p.same (wd_enmS _)⟩
    | _ => rw [ht] at h; cases h
theorem si_zip {elts : List Expr} {kk : Nat} {tp : Pos} (g : Good G sc X) (hl : glB sc "zip" = true) (hm : NoG G "zip") (ha : PE X a' (tE G.C a)) (hb : PE X b' (tE G.C b)) (n : nice a' = true) (n2 : nice b' = true) :
    PI X (.Tuple elts kk tp) (.Call (.Name "zip" p) [a', b'] [] pos) (tI G.C (.zip a b)) :=
  (PI.or (pi_zip (g.gl _ hl) (by rw [g.mg]; exact hm) (pa_cons ha (pa_cons hb pa_nil (star_cons n2)) (star_cons n)) (star_cons n) (by rw [star_cons n2]; rfl)) (pi_zipS (g.gl _ hl) (by rw [g.mg]; exact hm) (pa_cons ha (pa_cons hb pa_nil (star_cons n2)) (star_cons n)) (star_cons n) (by rw [star_cons n2]; rfl))).imp fun σ H R q => by
    obtain ⟨H0, B, AA, ρ, ds, Rp, h, s, q⟩ := q
    unfold evi at h
    obtain ⟨t, h1, h⟩ := bnd h
    obtain ⟨u, h2, h⟩ := bnd h
    have s := sal_app.mp s
    cases ht : t.d with
    | lst xs =>
      cases hu : u.d with
      | lst ys =>
        rw [ht, hu] at h; cases h
        refine .inl (tE_of Rp h1 s.1 fun As v H1 p => tE_of (Rp.mono p.same) h2 s.2 fun Bs w H2 p2 => ?_)
        have d1 := (p.later p2.same).dh Rp.z rfl
        have d2 := p2.dh (Rp.mono p.same).z rfl
        rw [ht] at d1
        rw [hu] at d2
        obtain ⟨a, vs, rfl, q1, q2⟩ := d1.vlst
        obtain ⟨b, us, rfl, q3, q4⟩ := d2.vlst
        exact ⟨a, b, vs, us, rfl, SqL.of (hid_sub _ _ q1), SqL.of (hid_sub _ _ q3), q _ _ (p.same.trans p2.same) (wd_zip q1 q2 q3 q4)⟩
      | str ys =>
        rw [ht, hu] at h; cases h
        refine .inr (tE_of Rp h1 s.1 fun As v H1 p => tE_of (Rp.mono p.same) h2 s.2 fun Bs w H2 p2 => ?_)
        have d1 := (p.later p2.same).dh Rp.z rfl
        have d2 := p2.dat
        rw [ht] at d1
        rw [hu] at d2
        obtain ⟨a, vs, rfl, q1, q2⟩ := d1.vlst
        have := d2.vstr
        subst this
        exact ⟨a, vs, _, rfl, SqL.of (hid_sub _ _ q1), q _ _ (p.same.trans p2.same) (wd_zipS q1 q2 _)⟩
      | _ => rw [ht, hu] at h; cases h
    | _ => rw [ht] at h; cases h
end
end Eng
/-! Eng L: targets, comprehensions, and the whole of the expressions. -/
namespace Eng
open PySem L2
@[simp] def setAllR : List Nat → List D → Rho → Option Rho
  | [], [], ρ => some ρ
  | i :: is, d :: ds, ρ => setAllR is ds (ρ.set i (some (.sh d)))
  | _, _, _ => none
@[simp] def asgR : Tg → D → Rho → Option Rho
  | .nm i, d, ρ => some (ρ.set i (some (.sh d)))
  | .tp is, .tup ds, ρ => setAllR is ds ρ
  | .tp is, .lst ds, ρ => setAllR is ds ρ
  | .tp _, _, _ => none
theorem setAllR_dl : ∀ {is : List Nat} {ds : List D} {ρ : Rho} {δ : Dl}, setAll is ds (dl ρ) = some δ → ∃ ρ', setAllR is ds ρ = some ρ' ∧ dl ρ' = δ
  | [], [], ρ, δ, h => by cases h; exact ⟨ρ, rfl, rfl⟩
  | i :: is, d :: ds, ρ, δ, h => by
    have h : setAll is ds ((dl ρ).set i (some d)) = some δ := h
    have e : (dl ρ).set i (some d) = dl (ρ.set i (some (.sh d))) := (dl_set (t := .sh d)).symm
    rw [e] at h
    exact setAllR_dl (is := is) (ds := ds) (ρ := ρ.set i (some (.sh d))) h
  | [], _ :: _, _, _, h => by cases h
  | _ :: _, [], _, _, h => by cases h
theorem asgR_dl {tg : Tg} {d : D} {ρ : Rho} {δ : Dl} (h : asgD tg d (dl ρ) = some δ) : ∃ ρ', asgR tg d ρ = some ρ' ∧ dl ρ' = δ := by
  cases tg with
  | nm i => cases h; exact ⟨_, rfl, dl_set⟩
  | tp is =>
    cases d with
    | tup ds => exact setAllR_dl h
    | lst ds => exact setAllR_dl h
    | _ => cases h
theorem setAllR_ow : ∀ {is : List Nat} {ds : List D} {ρ ρ' : Rho} {j : Nat}, setAllR is ds ρ = some ρ' → ow ρ' j = true → ow ρ j = true
  | [], [], ρ, _, _, h, o => by cases h; exact o
  | i :: is, d :: ds, ρ, _, _, h, o => ow_set_sh (setAllR_ow (ρ := ρ.set i (some (.sh d))) h o)
  | [], _ :: _, _, _, _, h, _ => by cases h
  | _ :: _, [], _, _, _, h, _ => by cases h
theorem asgR_ow {tg : Tg} {d : D} {ρ ρ' : Rho} {j : Nat} (h : asgR tg d ρ = some ρ') (o : ow ρ' j = true) : ow ρ j = true := by
  cases tg with
  | nm i => cases h; exact ow_set_sh o
  | tp is =>
    cases d with
    | tup ds => exact setAllR_ow h o
    | lst ds => exact setAllR_ow h o
    | _ => cases h
theorem wipe_set {σ : L2.St} {i : Nat} {x : Option V} : ∀ {vs : List Nat}, i ∈ vs → L2.wipe (σ.set i x) vs = L2.wipe σ vs
  | v :: vs, h => by
    show (L2.wipe (σ.set i x) vs).set v none = (L2.wipe σ vs).set v none
    by_cases hi : i ∈ vs
    · rw [wipe_set hi]
    · have hv : i = v := by
        rcases List.mem_cons.mp h with e | e
        · exact e
        · exact absurd e hi
      subst hv
      have : ∀ {us : List Nat}, i ∉ us → L2.wipe (σ.set i x) us = (L2.wipe σ us).set i x := by
        intro us
        induction us with
        | nil => intro _; rfl
        | cons u us ih =>
          intro hu
          have hu1 : i ≠ u := fun e => hu (by rw [e]; exact List.mem_cons_self ..)
          show (L2.wipe (σ.set i x) us).set u none = ((L2.wipe σ us).set u none).set i x
          rw [ih (fun m => hu (List.mem_cons_of_mem _ m)), List.set_comm _ _ hu1]
      rw [this hi, List.set_set]
theorem wipe_wipe {σ : L2.St} {vs : List Nat} : ∀ {us : List Nat}, (∀ i, i ∈ us → i ∈ vs) → L2.wipe (L2.wipe σ us) vs = L2.wipe σ vs
  | [], _ => rfl
  | u :: us, h => by
    show L2.wipe ((L2.wipe σ us).set u none) vs = _
    rw [wipe_set (h u (List.mem_cons_self ..)), wipe_wipe fun i m => h i (List.mem_cons_of_mem _ m)]
def tGs (C : Cfg) (is : List Nat) : TGs := fun vs σ H Q => ∃ (H0 : Hp) (B : Addr → Prop) (AA : Nat → List Addr) (ρ ρ' : Rho) (ds : List D), Rep C H0 B AA H σ ρ ∧ Dats C (hid H (ZZ B AA)) vs ds ∧ setAllR is ds ρ = some ρ' ∧
  ∀ AA' σ', Rep C H0 B AA' H σ' ρ' → (∀ a, ZZ B AA' a → ZZ B AA a) → ((∀ i, i ∈ is → AA i = []) → AA' = AA) → (∀ us : List Nat, (∀ i, i ∈ is → i ∈ us) → L2.wipe σ' us = L2.wipe σ us) → Q σ' H
def tG (C : Cfg) (tg : Tg) : TG := fun v σ H Q => ∃ (H0 : Hp) (B : Addr → Prop) (AA : Nat → List Addr) (ρ ρ' : Rho) (d : D), Rep C H0 B AA H σ ρ ∧ Dat C (hid H (ZZ B AA)) v d ∧ asgR tg d ρ = some ρ' ∧
  ∀ AA' σ', Rep C H0 B AA' H σ' ρ' → (∀ a, ZZ B AA' a → ZZ B AA a) → ((∀ i, i ∈ tg.ix → AA i = []) → AA' = AA) → (∀ us : List Nat, (∀ i, i ∈ tg.ix → i ∈ us) → L2.wipe σ' us = L2.wipe σ us) → Q σ' H
theorem upA_nil {AA : Nat → List Addr} {i : Nat} (h : AA i = []) : upA AA i [] = AA := by
  funext j
  by_cases hj : j = i
  · subst hj; rw [upA_same, h]
  · rw [upA_ne hj]
theorem ZZ_sub {B : Addr → Prop} {AA : Nat → List Addr} {i : Nat} : ∀ a, ZZ B (upA AA i []) a → ZZ B AA a := fun a q => (ZZ_upA a q).elim id fun m => by cases m
section
variable {G : GC} {sc : Scope} {X : Cx} {pos : Pos}
theorem pg_nm {i : Nat} {x : Str} (g : Good G sc X) (hN : G.N[i]? = some x) (hl : locB sc x = true) : PG X (.Name x pos) (gName i) :=
  pg_name (by rw [g.N]; exact g.nd) (by rw [g.N]; exact hN) (g.loc x hl).1 (g.loc x hl).2
theorem sg_nms (g : Good G sc X) : ∀ {is : List Nat} {es : List Expr}, mNms G.N sc is es = true → PGs X es (tGs G.C is) ∧ (assignEach es X.env).length = is.length ∧ (assignEach es X.env).findIdx? (·.1) = none
  | [], [], _ => by
    refine ⟨⟨fun pins s σ H vs us Q I r q => pgs_nil.run pins s σ H vs us Q I r ?_⟩, rfl, rfl⟩
    obtain ⟨H0, B, AA, ρ, ρ', ds, R, hd, h, q⟩ := q
    cases ds with
    | cons d ds => cases h
    | nil =>
      cases h
      cases hd
      exact ⟨rfl, q AA σ R (fun _ z => z) (fun _ => rfl) fun _ _ => rfl⟩
  | i :: is, e :: es, h => by
    unfold mNms at h
    split at h
    · rename_i q1 q2; cases q1
    · rename_i i' is' x p es' q1 q2
      cases q1; cases q2
      have h := Bool.and_eq_true_iff.mp h
      have h' := Bool.and_eq_true_iff.mp h.1
      obtain ⟨k1, k2, k3⟩ := sg_nms g h.2
      refine ⟨⟨fun pins s σ H vs us Q I r q => (pgs_cons (pg_nm g (of_decide_eq_true h'.1) h'.2) k1).run pins s σ H vs us Q I r ?_⟩, congrArg (· + 1) k2, ?_⟩
      · obtain ⟨H0, B, AA, ρ, ρ', ds, R, hd, h, q⟩ := q
        cases ds with
        | nil => cases h
        | cons d ds =>
          cases hd with
          | cons hd hds =>
            refine ⟨_, _, rfl, H0, B, upA AA i [], _, ρ', ds, R.storeS (i := i) hd, hds.mono (hid_mono (Same.refl _) fun a _ _ z => ZZ_sub a z), h, fun AA' σ' R' z1 z2 z3 => ?_⟩
            refine q AA' σ' R' (fun a z => ZZ_sub a (z1 a z)) (fun k => ?_) fun us k => ?_
            · have e0 := upA_nil (k i (List.mem_cons_self ..))
              rw [e0] at z2
              exact z2 fun j m => k j (List.mem_cons_of_mem _ m)
            · rw [z3 us fun j m => k j (List.mem_cons_of_mem _ m), wipe_set (k i (List.mem_cons_self ..))]
      · show ((false, assign (.Name x p) X.env) :: assignEach es X.env).findIdx? (·.1) = none
        rw [List.findIdx?_cons, k3]; rfl
    · cases h
  | [], _ :: _, h => by cases h
  | _ :: _, [], h => by cases h
theorem sg (g : Good G sc X) {tg : Tg} {e : Expr} (h : mTg G.N sc tg e = true) : PG X e (tG G.C tg) := by
  unfold mTg at h
  split at h
  · rename_i i x p
    have h := Bool.and_eq_true_iff.mp h
    refine ⟨fun pins s σ H v u Q I r q => (pg_nm g (of_decide_eq_true h.1) h.2).run pins s σ H v u Q I r ?_⟩
    obtain ⟨H0, B, AA, ρ, ρ', d, R, hd, h, q⟩ := q
    cases h
    exact q _ _ (R.storeS (i := i) hd) ZZ_sub (fun k => upA_nil (k i (List.mem_singleton.mpr rfl))) fun us k => wipe_set (k i (List.mem_singleton.mpr rfl))
  · rename_i is es k p
    obtain ⟨k1, k2, k3⟩ := sg_nms g h
    refine ⟨fun pins s σ H v u Q I r q => ?_⟩
    have hl : ∀ {is : List Nat} {ds : List D} {ρ ρ' : Rho}, setAllR is ds ρ = some ρ' → ds.length = is.length := by
      intro is
      induction is with
      | nil => intro ds ρ ρ' h; cases ds with | nil => rfl | cons _ _ => cases h
      | cons i is ih => intro ds ρ ρ' h; cases ds with | nil => cases h | cons _ _ => exact congrArg (· + 1) (ih h)
    obtain ⟨H0, B, AA, ρ, ρ', d, R, hd, h, q⟩ := q
    cases d with
    | tup ds =>
      refine (pg_tup g.calm k1 k2 k3).run pins s σ H v u Q I r ?_
      obtain ⟨a, xs, rfl, ha, hv⟩ := hd.vtup
      exact ⟨a, xs, rfl, SqT.of (hid_sub _ _ ha), by rw [hv.length]; exact hl h, H0, B, AA, ρ, ρ', ds, R, hv, h, q⟩
    | lst ds =>
      refine (pg_unl g.calm k1 k2 k3).run pins s σ H v u Q I r ?_
      obtain ⟨a, xs, rfl, ha, hv⟩ := hd.vlst
      exact ⟨a, xs, rfl, SqL.of (hid_sub _ _ ha), by rw [hv.length]; exact hl h, H0, B, AA, ρ, ρ', ds, R, hv, h, q⟩
    | _ => cases h
  · cases h
/-! ### comprehensions -/
theorem Rep.forgetB {C : Cfg} {H0 H : Hp} {B : Addr → Prop} {AA : Nat → List Addr} {σ : L2.St} {ρ : Rho} {i : Nat} (R : Rep C H0 B AA H σ ρ) : Rep C H0 (Zp B (AA i)) (upA AA i []) H (σ.set i none) (ρ.set i none) ∧ ZZ (Zp B (AA i)) (upA AA i []) = ZZ B AA := by
  have hz : ZZ (Zp B (AA i)) (upA AA i []) = ZZ B AA := by
    funext a
    refine propext ⟨fun q => ?_, fun q => ?_⟩
    · rcases q with (q | q) | ⟨j, q⟩
      · exact .inl q
      · exact .inr ⟨i, q⟩
      · by_cases hj : j = i
        · subst hj; rw [upA_same] at q; cases q
        · rw [upA_ne hj] at q; exact .inr ⟨j, q⟩
    · rcases q with q | ⟨j, q⟩
      · exact .inl (.inl q)
      · by_cases hj : j = i
        · subst hj; exact .inl (.inr q)
        · exact .inr ⟨j, by rw [upA_ne hj]; exact q⟩
  refine ⟨⟨R.same, fun a q => q.elim (R.bs a) fun m => (R.new i a m).2.1, fun j a m => ?_, fun j => ?_, fun j l a m n => ?_, fun j t h => ?_, by rw [List.length_set, List.length_set]; exact R.len⟩, hz⟩
  · by_cases hj : j = i
    · subst hj; rw [upA_same] at m; cases m
    · rw [upA_ne hj] at m
      obtain ⟨k1, k2, k3⟩ := R.new j a m
      exact ⟨k1, k2, fun q => q.elim k3 fun n => hj (R.dj j i a m n)⟩
  · by_cases hj : j = i
    · subst hj; rw [upA_same]; exact List.nodup_nil
    · rw [upA_ne hj]; exact R.nd j
  · by_cases hj : j = i
    · subst hj; rw [upA_same] at m; cases m
    · by_cases hl : l = i
      · subst hl; rw [upA_same] at n; cases n
      · rw [upA_ne hj] at m; rw [upA_ne hl] at n; exact R.dj j l a m n
  · by_cases hj : i = j
    · subst hj
      have hi : i < ρ.length := by
        have := (List.getElem?_eq_some_iff.mp h).1
        rwa [List.length_set] at this
      rw [List.getElem?_set_self hi] at h
      cases h
    · rw [List.getElem?_set_ne hj] at h
      obtain ⟨u', h1, h2⟩ := R.slot j t h
      exact ⟨u', by rw [List.getElem?_set_ne hj]; exact h1, by rw [hz, upA_ne (fun q => hj q.symm)]; exact h2⟩
theorem Rep.wipeB {C : Cfg} {H0 H : Hp} {σ : L2.St} {ρ : Rho} : ∀ (vs : List Nat) {B : Addr → Prop} {AA : Nat → List Addr}, Rep C H0 B AA H σ ρ →
    ∃ B' AA', Rep C H0 B' AA' H (L2.wipe σ vs) (wipeD ρ vs) ∧ ZZ B' AA' = ZZ B AA ∧ ∀ i, i ∈ vs → AA' i = []
  | [], B, AA, R => ⟨B, AA, R, rfl, fun _ m => by cases m⟩
  | v :: vs, B, AA, R => by
    obtain ⟨B', AA', R', z, k⟩ := Rep.wipeB vs R
    obtain ⟨R2, z2⟩ := R'.forgetB (i := v)
    refine ⟨_, _, R2, z2.trans z, fun i m => ?_⟩
    by_cases h : i = v
    · subst h; exact upA_same
    · rw [upA_ne h]
      rcases List.mem_cons.mp m with e | m
      · exact absurd e h
      · exact k i m
theorem lcGo_cons {f : D → Option (Option T)} {d : D} {ds : List D} {ts : List T} (h : lcGo f (d :: ds) = some ts) : ∃ o us, f d = some o ∧ lcGo f ds = some us ∧ ts = (match o with | some t => t :: us | none => us) := by
  unfold lcGo at h
  obtain ⟨o, h1, h⟩ := bnd h
  obtain ⟨us, h2, h⟩ := map_inv h
  exact ⟨o, us, h1, h2, by cases o <;> exact h.symm⟩
theorem lc_read {own : List (Str × Nat)} {tg : Tg} {it : I} {c : Eo} {e : E} (hx : ∀ i, i ∈ tg.ix → i ∈ own.map (·.2)) {σ : L2.St} {H : Hp} {Q : VK} (q : tE G.C (.lc own tg it c e) σ H Q) :
    tLc (tI G.C it) (tG G.C tg) (tTo G.C c) (tE G.C e) (own.map (·.2)) σ H Q := by
  obtain ⟨H0, B, AA, ρ, t, R, h, s, q⟩ := q
  unfold ev at h
  obtain ⟨ds, h1, h⟩ := bnd h
  split at h
  · rename_i hlen
    obtain ⟨ts, hts, rfl⟩ := map_inv h
    unfold avs at s
    have s := sal_app.mp s
    refine ⟨H0, B, AA, ρ, ds, R, h1, s.1, fun J H1 e1 wd => ?_⟩
    intro Dd hD
    obtain ⟨W, Y, walk, hW, hY⟩ := wd
    generalize hvs : own.map (·.2) = vs at *
    generalize hf : (fun d => (asgD tg d (wipeD (dl ρ) vs)).bind fun δ' => (tsto c δ').bind fun k => if k = true then (ev e δ').map some else some none) = f at *
    have hF : ∀ d o, f d = some o → ∃ δ' k, asgD tg d (wipeD (dl ρ) vs) = some δ' ∧ tsto c δ' = some k ∧ (k = true → ∃ t, ev e δ' = some t ∧ o = some t) ∧ (k = false → o = none) := by
      intro d o h
      subst hf
      obtain ⟨δ', h1, h⟩ := bnd h
      obtain ⟨k, h2, h⟩ := bnd h
      refine ⟨δ', k, h1, h2, fun hk => ?_, fun hk => ?_⟩
      · subst hk
        obtain ⟨t, h3, h4⟩ := map_inv (show (ev e δ').map some = some o from h)
        exact ⟨t, h3, h4.symm⟩
      · subst hk
        have h : some none = some o := h
        cases h; rfl
    refine lc_it walk (fun i H2 => ∃ (vsA : List V) (ts1 rest : List T) (As : List Addr), Same H1 H2 ∧ H2 Dd = some (.lst vsA) ∧ lcGo f (ds.drop i) = some rest ∧ ts = ts1 ++ rest ∧ vsA.length ≤ i ∧ As.Nodup ∧
      (∀ a, a ∈ As → H1 a = none ∧ nTup H2 a ∧ a ≠ Dd) ∧ Owns G.C (hid H2 (Zp (Zp (ZZ B AA) [Dd]) As)) H2 vsA ts1 As) ?_ ?_ ?_ ?_
    · exact ⟨[], [], ts, [], Same.upd hD, upd_same, hts, rfl, Nat.le_refl _, List.nodup_nil, (fun _ m => by cases m), .nil⟩
    · rintro i H2 hi ⟨vsA, ts1, rest, As, sm, _⟩
      exact hW H2 (hid_sub.trans sm)
    · rintro i x H2 H3 hlt ⟨vsA, ts1, rest, As, sm, hDd, hgo, hts1, hl, nd, nw, ow1⟩ y
      have hd : ds[i]? = some ds[i] := List.getElem?_eq_getElem hlt
      generalize ds[i] = d at hd
      have hdrop : ds.drop i = d :: ds.drop (i + 1) := by
        have hlt' : i < ds.length := hlt
        rw [List.drop_eq_getElem_cons hlt']
        rw [List.getElem?_eq_getElem hlt'] at hd
        rw [Option.some.inj hd]
      rw [hdrop] at hgo
      obtain ⟨o, rest', ho, hgo', hrest⟩ := lcGo_cons hgo
      obtain ⟨sm3, hdat⟩ := hY i d H2 x H3 hd (hid_sub.trans sm) y
      obtain ⟨δ', k, ha, hk, hkt, hkf⟩ := hF d o ho
      -- the block's slots
      have newA : ∀ a, a ∈ Dd :: As → H a = none ∧ nTup H3 a := fun a m => by
        rcases List.mem_cons.mp m with rfl | m
        · exact ⟨e1.free hD, _, sm3 _ _ hDd, fun _ z => nomatch z⟩
        · exact ⟨e1.free (nw a m).1, (nw a m).2.1.mono sm3⟩
      have Rg := R.grow (As := Dd :: As) (e1.trans (sm.trans sm3)) newA
      obtain ⟨Bw, AAw, Rw, zw, kw⟩ := Rg.wipeB vs
      rw [ZZ_Zp] at zw
      have dat3 : Dat G.C (hid H3 (ZZ Bw AAw)) x d := by
        rw [zw]
        refine hdat _ (fun a z => ?_) (hid_mono sm fun a u hu z => ?_)
        · rcases z with z | z
          · exact (R.z a z).mono (e1.trans sm)
          · rcases List.mem_cons.mp z with rfl | m
            · exact ⟨_, hDd, fun _ z => nomatch z⟩
            · exact (nw a m).2.1
        · rcases z with z | z
          · exact z
          · rcases List.mem_cons.mp z with rfl | m
            · rw [hD] at hu; cases hu
            · rw [(nw a m).1] at hu; cases hu
      rw [← dl_wipe] at ha
      obtain ⟨ρ', hasg, hdl⟩ := asgR_dl ha
      refine ⟨H0, Bw, AAw, wipeD ρ vs, ρ', d, Rw, dat3, hasg, fun AA' σ' R' z1 z2 z3 => ⟨?_, ?_⟩⟩
      · rw [z3 vs hx, wipe_wipe fun _ m => m]
      · have e2 : AA' = AAw := z2 fun i m => kw i (hx i m)
        subst e2
        refine ⟨H0, Bw, AA', ρ', k, R', by rw [hdl]; exact hk, fun H5 s5 => ?_⟩
        have keepOwn : ∀ H6, Same H2 H6 → ∀ (Bs : List Addr), (∀ a, a ∈ Bs → H2 a = none) → ∀ (w : HO), Owns G.C (hid (upd H6 Dd w) (Zp (Zp (ZZ B AA) [Dd]) (As ++ Bs))) (upd H6 Dd w) vsA ts1 As := fun H6 s26 Bs hB w => by
          refine ow1.mono (fun a u hu => ?_) fun a m => ?_
          · obtain ⟨q1, q2⟩ := hid_some.mp hu
            have hne : a ≠ Dd := fun z => q1 (.inl (.inr (by rw [z]; exact List.mem_singleton.mpr rfl)))
            refine hid_some.mpr ⟨fun z => ?_, by rw [upd_ne hne]; exact s26 _ _ q2⟩
            rcases z with z | z
            · exact q1 (.inl z)
            · rcases List.mem_append.mp z with z | z
              · exact q1 (.inr z)
              · rw [hB a z] at q2; cases q2
          · rw [upd_ne (nw a m).2.2]
            obtain ⟨u, hu, _⟩ := (nw a m).2.1
            rw [hu, s26 _ _ hu]
        cases k with
        | true =>
          obtain ⟨tt, hev, rfl⟩ := hkt rfl
          have sal' : sal (avs e) (Eng.ow ρ') = true := sal_mono (fun j hj => ow_wipe (asgR_ow hasg hj)) s.2
          refine tE_of (R'.mono s5) (by rw [hdl]; exact hev) sal' fun Bs yv H6 p => ?_
          have s26 : Same H2 H6 := sm3.trans (s5.trans p.same)
          have hB5 : ∀ a, a ∈ Bs → H2 a = none := fun a m => (sm3.trans s5).free (p.new a m).1
          refine ⟨vsA, s26 _ _ hDd, by rw [sz_eq]; have : i < ds.length := hlt; omega, vsA ++ [yv], ts1 ++ [tt], rest', As ++ Bs, ?_, upd_same, hgo', by rw [hts1, hrest, List.append_assoc]; rfl, by rw [List.length_append]; simp; omega, ?_, fun a m => ?_, ?_⟩
          · exact fun a u hu => by rw [upd_ne (ne_of_none hu hD)]; exact (sm.trans s26) a u hu
          · refine List.nodup_append.mpr ⟨nd, p.nd, fun a ha b hb e => ?_⟩
            subst e
            obtain ⟨u, hu, _⟩ := (nw a ha).2.1
            rw [hB5 a hb] at hu; cases hu
          · rcases List.mem_append.mp m with m | m
            · refine ⟨(nw a m).1, ?_, (nw a m).2.2⟩
              obtain ⟨u, hu, hn⟩ := (nw a m).2.1
              exact ⟨u, by rw [upd_ne (nw a m).2.2]; exact s26 _ _ hu, hn⟩
            · have hne : a ≠ Dd := fun z => by have := hB5 a m; rw [z, hDd] at this; cases this
              refine ⟨sm.free (hB5 a m), ?_, hne⟩
              obtain ⟨u, hu, hn⟩ := (p.new a m).2
              exact ⟨u, by rw [upd_ne hne]; exact hu, hn⟩
          · have o1 := keepOwn H6 s26 Bs hB5 (.lst (vsA ++ [yv]))
            have o2 := p.own rfl
            rw [zw] at o2
            have hne : ∀ a, a ∈ Bs → a ≠ Dd := fun a m z => by have := hB5 a m; rw [z, hDd] at this; cases this
            have o3 : Own G.C (hid (upd H6 Dd (.lst (vsA ++ [yv]))) (Zp (Zp (ZZ B AA) [Dd]) (As ++ Bs))) (upd H6 Dd (.lst (vsA ++ [yv]))) yv tt Bs := by
              refine o2.mono (fun a u hu => ?_) fun a m => upd_ne (hne a m)
              obtain ⟨q1, q2⟩ := hid_some.mp hu
              have hne2 : a ≠ Dd := fun z => q1 (.inl (.inr (by rw [z]; exact List.mem_cons_self ..)))
              refine hid_some.mpr ⟨fun z => ?_, by rw [upd_ne hne2]; exact q2⟩
              rcases z with (z | z) | z
              · exact q1 (.inl (.inl z))
              · exact hne2 (List.mem_singleton.mp z)
              · rcases List.mem_append.mp z with z | z
                · exact q1 (.inl (.inr (List.mem_cons_of_mem _ z)))
                · exact q1 (.inr z)
            have := Owns.append o1 (Owns.cons o3 .nil)
            rw [List.append_nil] at this
            exact this
        | false =>
          have := hkf rfl
          subst this
          have s25 : Same H2 H5 := sm3.trans s5
          refine ⟨vsA, ts1, rest', As, sm.trans s25, s25 _ _ hDd, hgo', by rw [hts1, hrest], by omega, nd, fun a m => ⟨(nw a m).1, (nw a m).2.1.mono s25, (nw a m).2.2⟩, ?_⟩
          refine ow1.mono (hid_mono s25 fun _ _ _ z => z) fun a m => ?_
          obtain ⟨u, hu, _⟩ := (nw a m).2.1
          rw [hu, s25 _ _ hu]
    · rintro H2 ⟨vsA, ts1, rest, As, sm, hDd, hgo, hts1, hl, nd, nw, ow1⟩
      rw [List.drop_length] at hgo
      cases hgo
      rw [List.append_nil] at hts1
      subst hts1
      have ow2 : Owns G.C (hid H2 (Zp (ZZ B AA) (Dd :: As))) H2 vsA ts As := by
        rw [Zp_app] at ow1
        exact ow1
      have hnA : Dd ∉ As := fun m => (nw Dd m).2.2 rfl
      have o : Own G.C (hid H2 (Zp (ZZ B AA) (Dd :: As))) H2 (.ref Dd) (.lst ts) (Dd :: As) := .lst hDd ow2
      refine q (Dd :: As) (.ref Dd) H2 ⟨e1.trans sm, List.nodup_cons.mpr ⟨hnA, nd⟩, fun a m => ?_, o.dat hid_sub fun _ _ _ z => z, fun _ => o⟩
      rcases List.mem_cons.mp m with rfl | m
      · exact ⟨e1.free hD, _, hDd, fun _ z => nomatch z⟩
      · exact ⟨e1.free (nw a m).1, (nw a m).2.1⟩
  · cases h
theorem so_lc {own : List (Str × Nat)} {tg : Tg} {it : I} {c : Eo} {e : E} {elt tgt iter : Expr} {ifs : List Expr} {scope : Scope} (g : Good G sc X) (ok : BlkOk X.N X.env.scope scope own) (hx : ∀ i, i ∈ tg.ix → i ∈ own.map (·.2)) (nI : nice iter = true)
    (hi : PI X tgt iter (tI G.C it)) (hg : ∀ X', Good G scope X' → PG X' tgt (tG G.C tg)) (ht : ∀ X', Good G scope X' → PTs X' ifs (tTo G.C c)) (he : ∀ X', Good G scope X' → PE X' elt (tE G.C e)) :
    SoE G sc X (.lc own tg it c e) (.ListComp elt [⟨tgt, iter, ifs, 0⟩] scope pos) := by
  refine so_no ((pe_lc g.calm (by rw [g.N]; exact g.nd) hi ok (fun s H C cl fp => hg _ (g.blk ok.kind s H C cl fp)) (fun s H C cl fp => ht _ (g.blk ok.kind s H C cl fp)) (fun s H C cl fp => he _ (g.blk ok.kind s H C cl fp)) (set_plain nI)).imp fun σ H Q q => lc_read hx q) fun δ => by unfold tst; rfl
end
end Eng
/-! Eng M: the whole of the expressions. -/
namespace Eng
open PySem L2
theorem _root_.L2.PTs.imp {X : Cx} {e : List Expr} {t t' : TT} (h : PTs X e t) (k : ∀ σ H Q, t' σ H Q → t σ H Q) : PTs X e t' := ⟨fun pins s σ H Q I q => h.run pins s σ H Q I (k _ _ _ q)⟩
theorem isi_boot {t : String} {x : Str} (h : isiB t = true) (e : x = Str.ofString t) : bootBuiltins x = some (.type t) := by
  subst e
  unfold isiB at h
  simp only [Bool.or_eq_true, beq_iff_eq] at h
  rcases h with ((((rfl | rfl) | rfl) | rfl) | rfl) | rfl <;> decide +kernel
theorem mI_nice {N : List Str} {sc : Scope} {it : I} {tg e : Expr} (h : mI N sc it tg e = true) : nice e = true := by
  cases it with
  | seq e => unfold mI at h; exact mE_nice h
  | _ =>
    unfold mI at h
    split at h
    · rfl
    · cases h
variable {G : GC}
mutual
theorem soE : ∀ (e : E) {sc : Scope} {X : Cx} {e' : Expr}, Good G sc X → mE G.N sc e e' = true → Nd G e → SoE G sc X e e'
  | .var i, sc, X, e', g, m, n => by
    unfold mE at m
    split at m
    · obtain ⟨m1, m2, m3⟩ := and3 m
      exact so_var g (of_decide_eq_true m1) m2 m3
    · cases m
  | .cst d, sc, X, e', g, m, n => by
    unfold mE at m
    split at m
    · exact so_cst g m
    · cases m
  | .glb x d, sc, X, e', g, m, n => by
    unfold mE at m
    split at m
    · obtain ⟨m1, m2, m3⟩ := and3 m
      have := of_decide_eq_true m1
      subst this
      exact so_glb g m2 m3 n
    · cases m
  | .bin op a b, sc, X, e', g, m, n => by
    unfold mE at m
    split at m
    · obtain ⟨m1, m2, m3⟩ := and3 m
      have := of_decide_eq_true m1
      subst this
      exact so_bin (soE a g m2 n.1) (soE b g m3 n.2)
    · cases m
  | .neg a, sc, X, e', g, m, n => by
    unfold mE at m
    split at m
    · exact so_neg (soE a g m n)
    · cases m
  | .cmp op a b, sc, X, e', g, m, n => by
    unfold mE at m
    split at m
    · obtain ⟨m1, m2, m3⟩ := and3 m
      have := of_decide_eq_true m1
      subst this
      exact so_cmp g (soE a g m2 n.1) (soE b g m3 n.2) (mE_nice m3)
    · cases m
  | .chn o1 o2 a b c, sc, X, e', g, m, n => by
    unfold mE at m
    split at m
    · obtain ⟨m1, m2, m3⟩ := and3 m
      obtain ⟨m4, m5, m6⟩ := and3 m1
      have := of_decide_eq_true m4
      subst this
      have := of_decide_eq_true m5
      subst this
      exact so_chn g (soE a g m6 n.1) (soE b g m2 n.2.1) (soE c g m3 n.2.2) (mE_nice m3)
    · cases m
  | .and a b, sc, X, e', g, m, n => by
    unfold mE at m
    split at m
    · have m := Bool.and_eq_true_iff.mp m
      exact so_and (soE a g m.1 n.1) (soE b g m.2 n.2)
    · cases m
  | .or a b, sc, X, e', g, m, n => by
    unfold mE at m
    split at m
    · have m := Bool.and_eq_true_iff.mp m
      exact so_or (soE a g m.1 n.1) (soE b g m.2 n.2)
    · cases m
  | .one a, sc, X, e', g, m, n => by
    unfold mE at m
    split at m
    · exact so_one (soE a g m n)
    · cases m
  | .not a, sc, X, e', g, m, n => by
    unfold mE at m
    split at m
    · exact so_not (soE a g m n)
    · cases m
  | .ife c a b, sc, X, e', g, m, n => by
    unfold mE at m
    split at m
    · obtain ⟨m1, m2, m3⟩ := and3 m
      exact so_ife (soE c g m1 n.1) (soE a g m2 n.2.1) (soE b g m3 n.2.2)
    · cases m
  | .tup es, sc, X, e', g, m, n => by
    unfold mE at m
    split at m
    · exact so_tup (soEs es g m n)
    · cases m
  | .lst es, sc, X, e', g, m, n => by
    unfold mE at m
    split at m
    · exact so_lst (soEs es g m n)
    · cases m
  | .idx a b, sc, X, e', g, m, n => by
    unfold mE at m
    split at m
    · have m := Bool.and_eq_true_iff.mp m
      exact so_idx g (soE a g m.1 n.1) (soE b g m.2 n.2) (mE_nice m.2)
    · cases m
  | .slc a lo hi, sc, X, e', g, m, n => by
    unfold mE at m
    split at m
    · obtain ⟨m1, m2, m3⟩ := and3 m
      exact so_slc g (soE a g m1 n.1) (soEo lo g m2 n.2.1) (soEo hi g m3 n.2.2)
    · cases m
  | .fld a f cs, sc, X, e', g, m, n => by
    unfold mE at m
    split at m
    · obtain ⟨m1, m2, m3⟩ := and3 m
      have := of_decide_eq_true m1
      subst this
      exact so_fld g (soE a g m3 n.1) m2 n.2
    · cases m
  | .cal f F dds es, sc, X, e', g, m, n => by
    unfold mE at m
    split at m
    · obtain ⟨m1, m2, m3⟩ := and3 m
      have m1 := Bool.and_eq_true_iff.mp m1
      have := of_decide_eq_true m1.1
      subst this
      refine so_cal g m1.2 m2 (soEs es g m3 n.2) (mEs_nice m3) (fun z => ?_) n.1
      subst z
      cases es with
      | nil => rfl
      | cons _ _ => unfold mEs at m3; cases m3
    · cases m
  | .bi b es, sc, X, e', g, m, n => by
    unfold mE at m
    split at m
    · obtain ⟨m1, m2, m3⟩ := and3 m
      have m1 := Bool.and_eq_true_iff.mp m1
      have := of_decide_eq_true m1.1
      subst this
      exact so_bi b g m1.2 m2 (soEs es g m3 n.2) (mEs_nice m3) n.1
    · cases m
  | .mth mm a es, sc, X, e', g, m, n => by
    unfold mE at m
    split at m
    · obtain ⟨m1, m2, m3⟩ := and3 m
      obtain ⟨m4, m5, m6⟩ := and3 m1
      have m4 := Bool.and_eq_true_iff.mp m4
      have := of_decide_eq_true m4.1
      subst this
      exact so_mth mm g (soE a g m2 n.1) m4.2 m5 (of_decide_eq_true m6) (soEs es g m3 n.2) (mEs_nice m3)
    · cases m
  | .lc own tg it c e, sc, X, e', g, m, n => by
    unfold mE at m
    split at m
    · obtain ⟨m1, m2, m3⟩ := and3 m
      obtain ⟨m4, m5, m6⟩ := and3 m1
      obtain ⟨m7, m8, m9⟩ := and3 m4
      have := of_decide_eq_true m7
      subst this
      have ok := blkOk_by m8
      rename_i elt tgt iter ifs scope p
      exact so_lc g (g.blkOk ok) (fun i h => by simpa using (List.all_eq_true.mp m5) i h) (mI_nice m6) (soI it g m6 n.1) (fun X' g' => sg g' m9) (fun X' g' => soIf c g' m2 n.2.1) (fun X' g' => (soE e g' m3 n.2.2).1)
    · cases m
  | .isi a x t, sc, X, e', g, m, n => by
    unfold mE at m
    split at m
    · obtain ⟨m1, m2, m3⟩ := and3 m
      obtain ⟨m4, m5, m6⟩ := and3 m1
      obtain ⟨m7, m8, m9⟩ := and3 m4
      have m7 := Bool.and_eq_true_iff.mp m7
      have e1 := of_decide_eq_true m7.1
      subst e1
      have e2 := of_decide_eq_true m8
      subst e2
      have e3 := of_decide_eq_true m2
      exact so_isi g m7.2 m9 m5 e3 (soE a g m3 n.2.2) (mE_nice m3) n.1 n.2.1 (isi_boot m6 e3)
    · cases m
theorem soEs : ∀ (es : Es) {sc : Scope} {X : Cx} {es' : List Expr}, Good G sc X → mEs G.N sc es es' = true → Nds G es → PA X es' (tA G.C es)
  | .nil, sc, X, [], g, m, n => sa_nil
  | .nil, sc, X, _ :: _, g, m, n => by unfold mEs at m; cases m
  | .cons e es, sc, X, [], g, m, n => by unfold mEs at m; cases m
  | .cons e es, sc, X, e' :: es', g, m, n => by
    unfold mEs at m
    have m := Bool.and_eq_true_iff.mp m
    exact sa_cons (soE e g m.1 n.1).1 (soEs es g m.2 n.2) (mE_nice m.1)
theorem soEo : ∀ (o : Eo) {sc : Scope} {X : Cx} {o' : Option Expr}, Good G sc X → mEo G.N sc o o' = true → Ndo G o → PO X o' (tO G.C o)
  | .non, sc, X, none, g, m, n => spo_non
  | .non, sc, X, some _, g, m, n => by unfold mEo at m; cases m
  | .som e, sc, X, none, g, m, n => by unfold mEo at m; cases m
  | .som e, sc, X, some e', g, m, n => by
    unfold mEo at m
    exact spo_som (soE e g m n).1
theorem soIf : ∀ (o : Eo) {sc : Scope} {X : Cx} {ifs : List Expr}, Good G sc X → mIfs G.N sc o ifs = true → Ndo G o → PTs X ifs (tTo G.C o)
  | .non, sc, X, [], g, m, n => pts_nil.imp fun σ H Q q => by
    obtain ⟨H0, B, AA, ρ, k, R, h, q⟩ := q
    unfold tsto at h
    cases h
    exact q H (Same.refl H)
  | .non, sc, X, _ :: _, g, m, n => by unfold mIfs at m; cases m
  | .som e, sc, X, [], g, m, n => by unfold mIfs at m; cases m
  | .som e, sc, X, _ :: _ :: _, g, m, n => by unfold mIfs at m; cases m
  | .som e, sc, X, [e'], g, m, n => by
    unfold mIfs at m
    exact (pts_one (soE e g m n).2.1).imp fun σ H Q q => by
      obtain ⟨H0, B, AA, ρ, k, R, h, q⟩ := q
      unfold tsto at h
      exact ⟨H0, B, AA, ρ, k, R, h, q⟩
theorem soI : ∀ (it : I) {sc : Scope} {X : Cx} {tg e' : Expr}, Good G sc X → mI G.N sc it tg e' = true → Ndi G it → PI X tg e' (tI G.C it)
  | .seq e, sc, X, tg, e', g, m, n => by
    unfold mI at m
    exact si_seq g (soE e g m n).1
  | .rng1 e, sc, X, tg, e', g, m, n => by
    unfold mI at m
    split at m
    · obtain ⟨m1, m2, m3⟩ := and3 m
      have := of_decide_eq_true m1
      subst this
      exact si_rng1 g m2 n.1 (soE e g m3 n.2).1 (mE_nice m3)
    · cases m
  | .rng2 a b, sc, X, tg, e', g, m, n => by
    unfold mI at m
    split at m
    · obtain ⟨m1, m2, m3⟩ := and3 m
      have m1 := Bool.and_eq_true_iff.mp m1
      have := of_decide_eq_true m1.1
      subst this
      exact si_rng2 g m1.2 n.1 (soE a g m2 n.2.1).1 (soE b g m3 n.2.2).1 (mE_nice m2) (mE_nice m3)
    · cases m
  | .rngd a b c, sc, X, tg, e', g, m, n => by
    unfold mI at m
    split at m
    · obtain ⟨m1, m2, m3⟩ := and3 m
      obtain ⟨m4, m5, m6⟩ := and3 m1
      have := of_decide_eq_true m4
      subst this
      exact si_rngd g m5 n.1 (soE a g m6 n.2.1).1 (soE b g m2 n.2.2.1).1 (soE c g m3 n.2.2.2).1 (mE_nice m6) (mE_nice m2) (mE_nice m3)
    · cases m
  | .enm e, sc, X, tg, e', g, m, n => by
    unfold mI at m
    split at m
    · obtain ⟨m1, m2, m3⟩ := and3 m
      have m1 := Bool.and_eq_true_iff.mp m1
      have := of_decide_eq_true m1.1
      subst this
      cases tg <;> first
        | (exact absurd m2 Bool.false_ne_true)
        | exact si_enm g m1.2 n.1 (soE e g m3 n.2).1 (mE_nice m3)
    · cases m
  | .zip a b, sc, X, tg, e', g, m, n => by
    unfold mI at m
    split at m
    · obtain ⟨m1, m2, m3⟩ := and3 m
      obtain ⟨m4, m5, m6⟩ := and3 m1
      have := of_decide_eq_true m4
      subst this
      cases tg <;> first
        | (exact absurd m6 Bool.false_ne_true)
        | exact si_zip g m5 n.1 (soE a g m2 n.2.1).1 (soE b g m3 n.2.2).1 (mE_nice m2) (mE_nice m3)
    · cases m
end
end Eng
/-! Eng N: statements: what they do, and which text they are. -/
namespace Eng
open PySem L2
mutual
inductive S where
  | set (i : Nat) (e : E) | setL (i : Nat) (e : E) | setT (is : List Nat) (e : E) | aug (i : Nat) (op : Operator) (e : E)
  | app (i : Nat) (e : E) | setX (i : Nat) (k e : E) | pop (i : Nat)
  | ret (e : E) | retO (i : Nat) | retT (es : Es) | retN | exp (e : E)
  | poke (i j : Nat) (e : E) | pokeR (i j : Nat)
  | ite (c : E) (a b : Ss) | for (tg : Tg) (it : I) (b : Ss) | whl (c : E) (b : Ss)
  | brk | cnt | pas | nev
inductive Ss where
  | nil | cons (s : S) (ss : Ss) | frz (i : Nat) (ss : Ss)
end
inductive Out where
  | nx (ρ : Rho) | rt (t : T) | bk (ρ : Rho) | ct (ρ : Rho)
@[simp] def T.nf (t : T) : T := if t.own then t else .sh t.d
/-- what is laid in a slot -/
def stT (e : E) (ρ : Rho) : Option T := (ev e (dl ρ)).bind fun t => if sal (avs e) (ow ρ) then some t.nf else if noL t.d then some (.sh t.d) else none
def forGo (asg : D → Rho → Option Rho) (body : Rho → Option Out) : List D → Rho → Option Out
  | [], ρ => some (.nx ρ)
  | d :: ds, ρ => (asg d ρ).bind fun ρ1 => (body ρ1).bind fun o => match o with
    | .nx ρ2 => forGo asg body ds ρ2
    | .ct ρ2 => forGo asg body ds ρ2
    | .bk ρ2 => some (.nx ρ2)
    | .rt t => some (.rt t)
def whlGo (test : Rho → Option Bool) (body : Rho → Option Out) : Nat → Rho → Option Out
  | 0, _ => none
  | n + 1, ρ => (test ρ).bind fun b => if b then (body ρ).bind fun o => match o with
    | .nx ρ2 => whlGo test body n ρ2
    | .ct ρ2 => whlGo test body n ρ2
    | .bk ρ2 => some (.nx ρ2)
    | .rt t => some (.rt t)
  else some (.nx ρ)
/-- a tuple that is handed back: names hand over what they own -/
@[simp] def evM : Es → Rho → Option (List T)
  | .nil, _ => some []
  | .cons e es, ρ => match e with
    | .var i => (match ρ[i]? with
      | some (some t) => (evM es ρ).map fun ts => t :: ts
      | _ => none)
    | e => if sal (avs e) (ow ρ) then (ev e (dl ρ)).bind fun t => (evM es ρ).map fun ts => t :: ts else none
@[simp] def mvs : Es → List Nat
  | .nil => []
  | .cons e es => match e with
    | .var i => i :: mvs es
    | _ => mvs es
@[simp] def tupAt (ρ : Rho) (i j : Nat) : Option (List T) := match ρ[i]? with
  | some (some (.tup ts)) => (match ts[j]? with
    | some (.lst us) => some us
    | _ => none)
  | _ => none
@[simp] def tupPut (ρ : Rho) (i j : Nat) (us : List T) : Rho := match ρ[i]? with
  | some (some (.tup ts)) => ρ.set i (some (.tup (ts.set j (.lst us))))
  | _ => ρ
@[simp] def frz1 (i : Nat) (ρ : Rho) : Rho := match ρ[i]? with
  | some (some t) => ρ.set i (some (.sh t.d))
  | _ => ρ
@[simp] def lstAt (ρ : Rho) (i : Nat) : Option (List T) := match ρ[i]? with
  | some (some (.lst ts)) => some ts
  | _ => none
mutual
def ex (n : Nat) : S → Rho → Option Out
  | .set i e, ρ => (stT e ρ).map fun t => .nx (ρ.set i (some t))
  | .setL i e, ρ => (stT e ρ).map fun t => .nx (ρ.set i (some t))
  | .setT is e, ρ => (ev e (dl ρ)).bind fun t => if sal (avs e) (ow ρ) || noL t.d then (asgR (.tp is) t.d ρ).map .nx else none
  | .aug i op e, ρ => match (dl ρ)[i]? with
    | some (some d) => (ev e (dl ρ)).bind fun t => (augD op [d, t.d]).map fun u => .nx (ρ.set i (some (.sh u.d)))
    | _ => none
  | .app i e, ρ => (lstAt ρ i).bind fun ts => (stT e ρ).bind fun t => if ts.length < SZ then some (.nx (ρ.set i (some (.lst (ts ++ [t]))))) else none
  | .setX i k e, ρ => (lstAt ρ i).bind fun ts => (stT e ρ).bind fun t => (ev k (dl ρ)).bind fun x => match x.d with
    | .int j => (ixN ts.length j).bind fun m => if t.own then none else some (.nx (ρ.set i (some (.lst (ts.set m t)))))
    | _ => none
  | .pop i, ρ => (lstAt ρ i).bind fun ts => match ts.getLast? with
    | some t => if t.own then none else some (.nx (ρ.set i (some (.lst ts.dropLast))))
    | none => none
  | .ret e, ρ => (ev e (dl ρ)).map .rt
  | .retO i, ρ => match ρ[i]? with
    | some (some t) => some (.rt t)
    | _ => none
  | .retN, _ => some (.rt (.sh .non))
  | .retT es, ρ => if (mvs es).Nodup then (evM es ρ).bind fun ts => if ts.length ≤ SZ then some (.rt (T.tup ts).nf) else none else none
  | .poke i j e, ρ => (tupAt ρ i j).bind fun us => (stT e ρ).bind fun t => if us.length < SZ ∧ T.owns us = false ∧ t.own = false then some (.nx (tupPut ρ i j (us ++ [t]))) else none
  | .pokeR i j, ρ => (tupAt ρ i j).bind fun us => if T.owns us = false then some (.nx (tupPut ρ i j us.reverse)) else none
  | .exp e, ρ => (ev e (dl ρ)).map fun _ => .nx ρ
  | .ite c a b, ρ => (tst c (dl ρ)).bind fun k => if k then exs n a ρ else exs n b ρ
  | .for tg it b, ρ => (evi it (dl ρ)).bind fun ds => if sal (avi it) (ow ρ) then forGo (asgR tg) (exs n b) ds ρ else none
  | .whl c b, ρ => whlGo (fun ρ => tst c (dl ρ)) (exs n b) n ρ
  | .brk, ρ => some (.bk ρ)
  | .cnt, ρ => some (.ct ρ)
  | .pas, ρ => some (.nx ρ)
  | .nev, _ => none
def exs (n : Nat) : Ss → Rho → Option Out
  | .nil, ρ => some (.nx ρ)
  | .cons s ss, ρ => (ex n s ρ).bind fun o => match o with
    | .nx ρ' => exs n ss ρ'
    | .rt t => some (.rt t)
    | .bk ρ' => some (.bk ρ')
    | .ct ρ' => some (.ct ρ')
  | .frz i ss, ρ => exs n ss (frz1 i ρ)
end
/-! ### which text it is -/
def notComp : Expr → Bool
  | .ListComp .. => false
  | _ => true
def notTup : Expr → Bool
  | .Tuple .. => false
  | _ => true
def isLoc (sc : Scope) (x : Str) : Bool := match sc.names.lookup x with
  | some .local => true
  | _ => false
mutual
def mS (N : List Str) (sc : Scope) : S → Stmt → Bool
  | .set i e, s' => match s' with
    | .Assign [.Name x _] e' _ => decide (N[i]? = some x) && locB sc x && mE N sc e e' && (notComp e' || !isLoc sc x)
    | _ => false
  | .setL i e, s' => match s' with
    | .Assign [.Name x px] (.ListComp elt gs scope p) sp => decide (N[i]? = some x) && isLoc sc x && mE N sc e (.ListComp elt gs scope p) && (px.line == p.line) && !(scope.names.any fun (n, k) => n == x && (k == .local || k == .cell))
    | _ => false
  | .setT is e, s' => match s' with
    | .Assign [.Tuple es k p] e' _ => mTg N sc (.tp is) (.Tuple es k p) && mE N sc e e' && notTup e'
    | _ => false
  | .aug i op e, s' => match s' with
    | .AugAssign (.Name x _) op' e' _ => decide (op = op') && decide (N[i]? = some x) && locB sc x && mE N sc e e'
    | _ => false
  | .app i e, s' => match s' with
    | .Expr (.Call (.Attribute (.Name x p) m ap) [e'] [] cp) _ => decide (m = ("append" : Str)) && decide (N[i]? = some x) && visB sc x && nmB x && (ap.endLine == cp.line) && mE N sc e e'
    | _ => false
  | .setX i k e, s' => match s' with
    | .Assign [.Subscript (.Name x _) k' _] e' _ => decide (N[i]? = some x) && visB sc x && nmB x && mE N sc k k' && mE N sc e e' && notComp e'
    | _ => false
  | .pop i, s' => match s' with
    | .Expr (.Call (.Attribute (.Name x p) m ap) [] [] cp) _ => decide (m = ("pop" : Str)) && decide (N[i]? = some x) && visB sc x && nmB x && (ap.endLine == cp.line)
    | _ => false
  | .ret e, s' => match s' with
    | .Return (some e') _ => mE N sc e e'
    | _ => false
  | .retO i, s' => match s' with
    | .Return (some (.Name x _)) _ => decide (N[i]? = some x) && visB sc x && nmB x
    | _ => false
  | .retN, s' => match s' with
    | .Return none _ => true
    | _ => false
  | .retT es, s' => match s' with
    | .Return (some (.Tuple es' _ _)) _ => mEs N sc es es'
    | _ => false
  | .poke i j e, s' => match s' with
    | .Expr (.Call (.Attribute (.Subscript (.Name x _) (.Constant (.int k) _ _) _) m ap) [e'] [] cp) _ => decide (m = ("append" : Str)) && decide (k = (j : Int)) && decide (N[i]? = some x) && visB sc x && nmB x && (ap.endLine == cp.line) && mE N sc e e'
    | _ => false
  | .pokeR i j, s' => match s' with
    | .Expr (.Call (.Attribute (.Subscript (.Name x _) (.Constant (.int k) _ _) _) m ap) [] [] cp) _ => decide (m = ("reverse" : Str)) && decide (k = (j : Int)) && decide (N[i]? = some x) && visB sc x && nmB x && (ap.endLine == cp.line)
    | _ => false
  | .exp e, s' => match s' with
    | .Expr e' _ => mE N sc e e' && notComp e'
    | _ => false
  | .ite c a b, s' => match s' with
    | .If c' a' b' _ => mE N sc c c' && mSs N sc a a' && mSs N sc b b'
    | _ => false
  | .for tg it b, s' => match s' with
    | .For tg' it' b' [] _ => mTg N sc tg tg' && mI N sc it tg' it' && mSs N sc b b'
    | _ => false
  | .whl c b, s' => match s' with
    | .While c' b' [] _ => mE N sc c c' && mSs N sc b b'
    | _ => false
  | .brk, s' => match s' with
    | .Break _ => true
    | _ => false
  | .cnt, s' => match s' with
    | .Continue _ => true
    | _ => false
  | .pas, s' => match s' with
    | .Pass _ => true
    | _ => false
  | .nev, _ => true
def mSs (N : List Str) (sc : Scope) : Ss → List Stmt → Bool
  | .nil, ss' => match ss' with
    | [] => true
    | _ => false
  | .cons s ss, ss' => match ss' with
    | s' :: r => mS N sc s s' && mSs N sc ss r
    | _ => false
  | .frz _ ss, ss' => mSs N sc ss ss'
end
mutual
def Ndst (G : GC) : S → Prop
  | .set _ e => Nd G e
  | .setL _ e => Nd G e
  | .setT _ e => Nd G e
  | .aug _ _ e => Nd G e
  | .app _ e => Nd G e
  | .setX _ k e => Nd G k ∧ Nd G e
  | .ret e => Nd G e
  | .exp e => Nd G e
  | .retT es => Nds G es
  | .poke _ _ e => Nd G e
  | .ite c a b => Nd G c ∧ Ndss G a ∧ Ndss G b
  | .for _ it b => Ndi G it ∧ Ndss G b
  | .whl c b => Nd G c ∧ Ndss G b
  | _ => True
def Ndss (G : GC) : Ss → Prop
  | .nil => True
  | .cons s ss => Ndst G s ∧ Ndss G ss
  | .frz _ ss => Ndss G ss
end
end Eng
/-! Eng O: statements keep their word. -/
namespace Eng
open PySem L2
structure GoodS (G : GC) (sc : Scope) (X : Cx) : Prop extends Good G sc X where
  scope : X.env.scope = sc
  pass : PassesOwn (model X.prog X.w) X.A X.env X.xe
/-- what is wanted behind a statement, by how it ended -/
def Fin (C : Cfg) (H0 : Hp) (B : Addr → Prop) (F : Hp) (D : Ends) : Out → Prop
  | .nx ρ => ∀ σ' H' AA', Rep C H0 B AA' H' σ' ρ → Same F (hid H' (ZZ B AA')) → D.nx σ' H'
  | .bk ρ => ∀ σ' H' AA', Rep C H0 B AA' H' σ' ρ → Same F (hid H' (ZZ B AA')) → D.bk σ' H'
  | .ct ρ => ∀ σ' H' AA', Rep C H0 B AA' H' σ' ρ → Same F (hid H' (ZZ B AA')) → D.ct σ' H'
  | .rt t => ∀ As v H', Post C B H0 t true As v H' → D.rt v H'
theorem Fin.imp {C : Cfg} {H0 : Hp} {B : Addr → Prop} {F F' : Hp} {D : Ends} {o : Out} (e : Same F F') (h : Fin C H0 B F D o) : Fin C H0 B F' D o := by
  cases o with
  | nx ρ => exact fun σ' H' AA' R s => h σ' H' AA' R (e.trans s)
  | bk ρ => exact fun σ' H' AA' R s => h σ' H' AA' R (e.trans s)
  | ct ρ => exact fun σ' H' AA' R s => h σ' H' AA' R (e.trans s)
  | rt t => exact h
def tS (C : Cfg) (s : S) : TS := fun D σ H => ∃ (H0 : Hp) (B : Addr → Prop) (AA : Nat → List Addr) (ρ : Rho) (n : Nat) (o : Out), Rep C H0 B AA H σ ρ ∧ ex n s ρ = some o ∧ Fin C H0 B (hid H (ZZ B AA)) D o
def tSs (C : Cfg) (s : Ss) : TS := fun D σ H => ∃ (H0 : Hp) (B : Addr → Prop) (AA : Nat → List Addr) (ρ : Rho) (n : Nat) (o : Out), Rep C H0 B AA H σ ρ ∧ exs n s ρ = some o ∧ Fin C H0 B (hid H (ZZ B AA)) D o
theorem _root_.L2.PS.imp {X : Cx} {s : Stmt} {t t' : TS} (h : PS X s t) (k : ∀ D σ H, t' D σ H → t D σ H) : PS X s t' := ⟨fun pins s σ H D I q => h.run pins s σ H D I (k _ _ _ q)⟩
theorem _root_.L2.PSs.imp {X : Cx} {s : List Stmt} {t t' : TS} (h : PSs X s t) (k : ∀ D σ H, t' D σ H → t D σ H) : PSs X s t' := ⟨fun pins s σ H D I q => h.run pins s σ H D I (k _ _ _ q)⟩
section
variable {C : Cfg} {H0 H H1 : Hp} {B : Addr → Prop} {AA : Nat → List Addr} {σ : L2.St} {ρ : Rho} {As : List Addr} {t : T} {e : E} {v : V} {i : Nat}
/-- a value for a slot, read -/
theorem stT_read {Q : VK} (R : Rep C H0 B AA H σ ρ) (h : stT e ρ = some t) (q : ∀ As v H', Post C (ZZ B AA) H t true As v H' → Q v H') : tE C e σ H Q := by
  unfold stT at h
  obtain ⟨u, h1, h⟩ := bnd h
  split at h
  · rename_i s
    have := (Option.some.inj h).symm
    subst this
    refine tE_of R h1 s fun As v H' p => q As v H' ?_
    unfold T.nf
    by_cases ho : u.own = true
    · rw [if_pos ho]; exact p
    · rw [if_neg ho]
      have ho : u.own = false := by simpa using ho
      obtain ⟨k1, k2⟩ := own_shd (p.own rfl) ho
      subst k2
      exact Post.mk p.same p.nd p.new p.dat fun _ => .sh k1
  · split at h
    · rename_i n
      have := (Option.some.inj h).symm
      subst this
      exact tE_frz R h1 fun As v H' p => q [] v H' (Post.sh' p.same p.dat fun _ => p.dat.hide (fun a z => (R.z a z).mono p.same) n)
    · cases h
theorem store_fro (R : Rep C H0 B AA H σ ρ) (p : Post C (ZZ B AA) H t true As v H1) : Same (hid H (ZZ B AA)) (hid H1 (ZZ B (upA AA i As))) :=
  hid_mono p.same fun a o h z => (ZZ_upA a z).elim id fun m => by rw [(p.new a m).1] at h; cases h
theorem Rep.put (R : Rep C H0 B AA H σ ρ) (p : Post C (ZZ B AA) H t true As v H1) : Rep C H0 B (upA AA i As) H1 (σ.set i (some v)) (ρ.set i (some t)) :=
  Rep.store (R.grow p.same p.new) p.nd (fun a m => ⟨R.same.free (p.new a m).1, fun b => by obtain ⟨o, h, _⟩ := R.bs a b; rw [(p.new a m).1] at h; cases h⟩) (p.own rfl)
end
section
variable {G : GC} {sc : Scope} {X : Cx} {e k' c : E} {e' c' : Expr} {i : Nat} {x : Str} {pos p px : Pos} {st : Stmt} {a b ss : Ss} {a' b' : List Stmt} {s : S}
theorem ss_set (g : GoodS G sc X) (hN : G.N[i]? = some x) (hl : locB sc x = true) (he : PE X e' (tE G.C e)) (hs : swapsWith e' (some (.Name x px)) pos.line X.env = pure false) : PS X (.Assign [.Name x px] e' pos) (tS G.C (.set i e)) :=
  (ps_set (by rw [g.N]; exact g.nd) (by rw [g.N]; exact hN) (g.loc x hl).1 he hs (g.loc x hl).2).imp fun D σ H q => by
    obtain ⟨H0, B, AA, ρ, n, o, R, h, q⟩ := q
    unfold ex at h
    obtain ⟨t, h1, rfl⟩ := map_inv h
    exact stT_read R h1 fun As v H1 p => q _ _ _ (R.put p) (store_fro R p)
theorem ss_setL {own : List (Str × Nat)} {tg : Tg} {it : I} {cc : Eo} {elt tgt iter : Expr} {ifs : List Expr} {scope : Scope} (g : GoodS G sc X) (hN : G.N[i]? = some x) (hl : isLoc sc x = true) (ok : BlkOk X.N X.env.scope scope own) (hx : ∀ i, i ∈ tg.ix → i ∈ own.map (·.2)) (nI : nice iter = true)
    (hi : PI X tgt iter (tI G.C it)) (hg : ∀ X', Good G scope X' → PG X' tgt (tG G.C tg)) (ht : ∀ X', Good G scope X' → PTs X' ifs (tTo G.C cc)) (he : ∀ X', Good G scope X' → PE X' elt (tE G.C e))
    (hp : (px.line == p.line) = true) (ha : (scope.names.any fun (n, k) => n == x && (k == .local || k == .cell)) = false) :
    PS X (.Assign [.Name x px] (.ListComp elt [⟨tgt, iter, ifs, 0⟩] scope p) pos) (tS G.C (.setL i (.lc own tg it cc e))) := by
  have hloc : X.env.scope.names.lookup x = some .local := by
    rw [g.scope]
    unfold isLoc at hl
    split at hl
    · assumption
    · cases hl
  refine (ps_setLc g.calm (by rw [g.N]; exact g.nd) (by rw [g.N]; exact hN) hloc (sw_true g.kind hloc hp ha) hi ok (fun s H C cl fp => hg _ (g.blk ok.kind s H C cl fp)) (fun s H C cl fp => ht _ (g.blk ok.kind s H C cl fp)) (fun s H C cl fp => he _ (g.blk ok.kind s H C cl fp)) (set_plain nI)).imp fun D σ H q => ?_
  obtain ⟨H0, B, AA, ρ, n, o, R, h, q⟩ := q
  unfold ex at h
  obtain ⟨t, h1, rfl⟩ := map_inv h
  exact lc_read hx (stT_read R h1 fun As v H1 p => q _ _ _ (R.put p) (store_fro R p))
theorem sw_plain {t : Option Expr} {l : Nat} {env : Env} (n : nice e' = true) (h : notComp e' = true) : swapsWith e' t l env = pure false := by
  cases e' <;> first | rfl | (exact absurd h Bool.false_ne_true) | (exact absurd n Bool.false_ne_true)
theorem sw_cell {l : Nat} {env : Env} (n : nice e' = true) (h : env.scope.names.lookup x ≠ some .local) : swapsWith e' (some (.Name x px)) l env = pure false := by
  have hk : (env.kindOf x == some .local) = false := by
    cases q : (env.kindOf x == some NameKind.local) with
    | false => rfl
    | true => exact absurd (show env.scope.names.lookup x = some .local from eq_of_beq q) h
  cases e' <;> first
    | rfl
    | (exact absurd n Bool.false_ne_true)
    | (unfold swapsWith; dsimp only; rw [hk]; simp)
theorem ss_setT {is : List Nat} {es : List Expr} {k : Nat} (g : GoodS G sc X) (ht : mTg G.N sc (.tp is) (.Tuple es k p) = true) (he : PE X e' (tE G.C e)) (n : nice e' = true) (nt : notTup e' = true) : PS X (.Assign [.Tuple es k p] e' pos) (tS G.C (.setT is e)) := by
  have hs : swapsWithSole [.Tuple es k p] e' pos.line X.env = pure false := by
    show swapsWith e' (some (.Tuple es k p)) pos.line X.env = pure false
    cases e' <;> first | rfl | (exact absurd n Bool.false_ne_true)
  have hw : swappedStores [.Tuple es k p] e' X.env = pure none := by
    cases e' <;> first | rfl | (exact absurd nt Bool.false_ne_true)
  refine (ps_asg he (sg g.toGood ht) hs hw rfl).imp fun D σ H q => ?_
  obtain ⟨H0, B, AA, ρ, n, o, R, h, q⟩ := q
  unfold ex at h
  obtain ⟨t, h1, h⟩ := bnd h
  split at h
  · rename_i hs
    obtain ⟨ρ', h2, rfl⟩ := map_inv h
    have key : tE G.C e σ H fun v H1 => Same H H1 ∧ Dat G.C (hid H1 (ZZ B AA)) v t.d := by
      by_cases s : sal (avs e) (ow ρ) = true
      · exact tE_of R h1 s fun As v H1 p => ⟨p.same, p.dh R.z rfl⟩
      · have nl : noL t.d = true := by
          rcases Bool.or_eq_true_iff.mp hs with z | z
          · exact absurd z s
          · exact z
        exact tE_frz R h1 fun As v H1 p => ⟨p.same, p.dat.hide (fun a z => (R.z a z).mono p.same) nl⟩
    obtain ⟨H0', B', AA', ρ'', t', R', e1, e2, e3⟩ := key
    refine ⟨H0', B', AA', ρ'', t', R', e1, e2, fun As v H1 p => ?_⟩
    obtain ⟨k1, k2⟩ := e3 As v H1 p
    exact ⟨H0, B, AA, ρ, ρ', t.d, R.mono k1, k2, h2, fun AA2 σ2 R2 z1 _ _ => q _ _ _ R2 (hid_mono k1 fun a _ _ z => z1 a z)⟩
  · cases h
theorem ss_aug {op : Operator} (g : GoodS G sc X) (hN : G.N[i]? = some x) (hl : locB sc x = true) (he : PE X e' (tE G.C e)) : PS X (.AugAssign (.Name x px) op e' pos) (tS G.C (.aug i op e)) :=
  (ps_aug (by rw [g.N]; exact g.nd) (by rw [g.N]; exact hN) (g.loc x hl).1 he (aug_ok (X := X) (C := G.C) op) (g.loc x hl).2).imp fun D σ H q => by
    obtain ⟨H0, B, AA, ρ, n, o, R, h, q⟩ := q
    unfold ex at h
    split at h
    · rename_i d hd
      obtain ⟨t, h1, h⟩ := bnd h
      obtain ⟨u, h2, rfl⟩ := map_inv h
      obtain ⟨v0, k1, k2⟩ := R.dat hd
      refine ⟨v0, k1, tE_frz R h1 fun As v H1 p => ?_⟩
      have nu : ∃ d, u = .sh d ∧ noL d = true := by
        unfold augD at h2
        split at h2
        · rcases orE_inv h2 with e | e
          · obtain ⟨_, _, _, e⟩ := i2_inv e; exact ⟨_, sc_inj e, rfl⟩
          · obtain ⟨_, _, _, e⟩ := s2_inv e; exact ⟨_, (iff_inv e).2, rfl⟩
        · obtain ⟨_, _, _, e⟩ := i2_inv h2; exact ⟨_, sc_inj e, rfl⟩
        · obtain ⟨_, _, _, e⟩ := i2_inv h2; exact ⟨_, sc_inj e, rfl⟩
        · cases h2
      obtain ⟨d', rfl, nd⟩ := nu
      refine ⟨[d, t.d], .sh d', fun _ => False, true, .cons (k2.mono p.same) (.cons p.dat .nil), fun _ => ?_, fun _ z => z.elim, h2, fun Bs w H2 p2 => ?_⟩
      · have n0 : hid H1 (fun _ => False) = H1 := by funext a; exact hid_out fun z => z
        rw [n0]; exact .cons (k2.mono p.same) (.cons p.dat .nil)
      · have e := p.same.trans p2.same
        have p3 : Post G.C (ZZ B AA) H (.sh d') true [] w H2 := Post.sh' e p2.dat fun _ => p2.dat.hide (fun a z => (R.z a z).mono e) nd
        exact q _ _ _ (R.put p3) (store_fro R p3)
    · cases h
/-- a name's owned list -/
theorem own_at {C : Cfg} {H0 H : Hp} {B : Addr → Prop} {AA : Nat → List Addr} {σ : L2.St} {ρ : Rho} {ts : List T} (R : Rep C H0 B AA H σ ρ) (h : lstAt ρ i = some ts) :
    ∃ a vs As, σ[i]? = some (some (.ref a)) ∧ AA i = a :: As ∧ H a = some (.lst vs) ∧ Owns C (hid H (ZZ B AA)) H vs ts As := by
  unfold lstAt at h
  split at h
  · rename_i ts' hh
    cases h
    obtain ⟨v, h1, h2⟩ := R.slot i _ hh
    generalize hA : AA i = As at h2
    cases h2 with
    | lst ha hs => exact ⟨_, _, _, h1, rfl, ha, hs⟩
  · cases h
theorem mem_lst {α : Type} {l : List α} {a : α} {As : List α} (h : l = a :: As) : a ∈ l := by rw [h]; exact List.mem_cons_self ..
/-- the owned list at i is rewritten -/
theorem Rep.rew {C : Cfg} {H0 H1 : Hp} {B : Addr → Prop} {AA : Nat → List Addr} {σ : L2.St} {ρ : Rho} {ts' : List T} {a : Addr} {vs : List V} {As As' Bs : List Addr} (R : Rep C H0 (Zp B Bs) AA H1 σ ρ) (hA : AA i = a :: As) (ha : ∃ us, H1 a = some (.lst us))
    (hv : σ[i]? = some (some (.ref a))) (nd : (a :: As').Nodup) (sub : ∀ b, b ∈ As' → b ∈ As ∨ (b ∈ Bs ∧ H0 b = none ∧ ¬ B b)) (ow : Owns C (hid H1 (ZZ (Zp B Bs) AA)) H1 vs ts' As') :
    Rep C H0 B (upA AA i (a :: As')) (upd H1 a (.lst vs)) σ (ρ.set i (some (.lst ts'))) ∧ (∀ b, ZZ B (upA AA i (a :: As')) b → ZZ (Zp B Bs) AA b) := by
  obtain ⟨us, ha⟩ := ha
  have hz : ∀ b, ZZ B (upA AA i (a :: As')) b → ZZ (Zp B Bs) AA b := fun b q => by
    rcases q with q | ⟨j, q⟩
    · exact .inl (.inl q)
    · by_cases hj : j = i
      · subst hj
        rw [upA_same] at q
        rcases List.mem_cons.mp q with rfl | q
        · exact .inr ⟨j, mem_lst hA⟩
        · rcases sub b q with m | m
          · exact .inr ⟨j, by rw [hA]; exact List.mem_cons_of_mem _ m⟩
          · exact .inl (.inr m.1)
      · rw [upA_ne hj] at q; exact .inr ⟨j, q⟩
  have haZ : ZZ (Zp B Bs) AA a := .inr ⟨i, mem_lst hA⟩
  have hF : ∀ o, hid (upd H1 a o) (ZZ (Zp B Bs) AA) = hid H1 (ZZ (Zp B Bs) AA) := fun o => hid_upd haZ
  have subF : Same (hid H1 (ZZ (Zp B Bs) AA)) (hid (upd H1 a (.lst vs)) (ZZ B (upA AA i (a :: As')))) := by
    rw [← hF (.lst vs)]
    exact hid_mono (Same.refl _) fun b _ _ q => hz b q
  have live : ∀ b, nTup H1 b → nTup (upd H1 a (.lst vs)) b := fun b ⟨o, h1, h2⟩ => by
    by_cases hb : b = a
    · subst hb; exact ⟨_, upd_same, fun _ q => nomatch q⟩
    · exact ⟨o, by rw [upd_ne hb]; exact h1, h2⟩
  have h0a : H0 a = none := (R.new i a (mem_lst hA)).1
  refine ⟨⟨fun b o e => ?_, fun b q => live b (R.bs b (.inl q)), fun j b m => ?_, fun j => ?_, fun j l b m n => ?_, fun j t h => ?_, by rw [List.length_set]; exact R.len⟩, hz⟩
  · rw [upd_ne (ne_of_none e h0a)]; exact R.same b o e
  · by_cases hj : j = i
    · subst hj
      rw [upA_same] at m
      rcases List.mem_cons.mp m with rfl | m
      · obtain ⟨k1, k2, k3⟩ := R.new j b (mem_lst hA)
        exact ⟨k1, live b k2, fun q => k3 (.inl q)⟩
      · rcases sub b m with q | q
        · obtain ⟨k1, k2, k3⟩ := R.new j b (by rw [hA]; exact List.mem_cons_of_mem _ q)
          exact ⟨k1, live b k2, fun q => k3 (.inl q)⟩
        · exact ⟨q.2.1, live b (R.bs b (.inr q.1)), q.2.2⟩
    · rw [upA_ne hj] at m
      obtain ⟨k1, k2, k3⟩ := R.new j b m
      exact ⟨k1, live b k2, fun q => k3 (.inl q)⟩
  · by_cases hj : j = i
    · subst hj; rw [upA_same]; exact nd
    · rw [upA_ne hj]; exact R.nd j
  · have key : ∀ l c, l ≠ i → c ∈ AA l → c ∈ a :: As' → False := fun l c hl hc hm => by
      rcases List.mem_cons.mp hm with hm | hm
      · exact hl (R.dj l i c hc (by rw [hm]; exact mem_lst hA))
      · rcases sub c hm with q | q
        · exact hl (R.dj l i c hc (by rw [hA]; exact List.mem_cons_of_mem _ q))
        · exact (R.new l c hc).2.2 (.inr q.1)
    by_cases hj : j = i
    · by_cases hl : l = i
      · rw [hj, hl]
      · subst hj; rw [upA_same] at m; rw [upA_ne hl] at n; exact (key l b hl n m).elim
    · rw [upA_ne hj] at m
      by_cases hl : l = i
      · subst hl; rw [upA_same] at n; exact (key j b hj m n).elim
      · rw [upA_ne hl] at n; exact R.dj j l b m n
  · by_cases hj : i = j
    · subst hj
      have hi : i < ρ.length := by
        have := (List.getElem?_eq_some_iff.mp h).1
        rwa [List.length_set] at this
      rw [List.getElem?_set_self hi] at h
      cases h
      refine ⟨.ref a, hv, ?_⟩
      rw [upA_same]
      exact .lst upd_same (ow.mono subF fun b m => upd_ne fun q => (List.nodup_cons.mp nd).1 (q ▸ m))
    · rw [List.getElem?_set_ne hj] at h
      obtain ⟨u', h1, h2⟩ := R.slot j t h
      refine ⟨u', h1, ?_⟩
      rw [upA_ne (fun q => hj q.symm)]
      refine h2.mono subF fun b m => upd_ne fun q => ?_
      subst q
      exact hj (R.dj i j b (mem_lst hA) m)
theorem owns_up {C : Cfg} {H H1 : Hp} {Z : Addr → Prop} {vs : List V} {ts : List T} {As Bs : List Addr} (e : Same H H1) (hB : ∀ a, a ∈ Bs → H a = none) (o : Owns C (hid H Z) H vs ts As) : Owns C (hid H1 (Zp Z Bs)) H1 vs ts As :=
  o.mono (hid_mono e fun a u h z => z.elim id fun m => by rw [hB a m] at h; cases h) fun a m => by obtain ⟨u, h⟩ := o.live a m; rw [h, e _ _ h]
theorem ss_app {ap cp : Pos} (g : GoodS G sc X) (hN : G.N[i]? = some x) (hv : visB sc x = true) (hn : nmB x = true) (hline : (ap.endLine == cp.line) = true) (he : PE X e' (tE G.C e)) (n : nice e' = true) :
    PS X (.Expr (.Call (.Attribute (.Name x px) "append" ap) [e'] [] cp) pos) (tS G.C (.app i e)) := by
  obtain ⟨n1, n2, n3⟩ := nmB_inv hn
  have hx : PE X (.Name x px) (tVar i) := pe_var (by rw [g.N]; exact hN) (g.vis x hv) n1 n2
  have hp := pe_bm (cpos := cp) F.plainAttrs_list F.slot_list_append F.type_list_append (mt_append (X := X)) hx (pa_cons he pa_nil (star_cons n)) rfl (by rw [star_cons n]; rfl) hline (star_cons n) rfl
  refine (ps_expr hp rfl).imp fun D σ H q => ?_
  obtain ⟨H0, B, AA, ρ, nn, o, R, h, q⟩ := q
  unfold ex at h
  obtain ⟨ts, h1, h⟩ := bnd h
  obtain ⟨t, h2, h⟩ := bnd h
  split at h
  · rename_i hlt
    cases h
    obtain ⟨a, vs, As, k1, k2, k3, k4⟩ := own_at R h1
    refine ⟨_, k1, .inl ⟨rfl, vs, SqL.of k3⟩, stT_read R h2 fun Bs v H1 p => ?_⟩
    refine ⟨a, vs, v, rfl, rfl, p.same _ _ k3, by rw [k4.length, sz_eq]; exact hlt, ?_⟩
    have Rg := R.grow p.same p.new
    have ow1 := owns_up p.same (fun a m => (p.new a m).1) k4
    have ow2 := Owns.append ow1 (Owns.cons (p.own rfl) .nil)
    rw [List.append_nil] at ow2
    have live : ∀ b, b ∈ a :: As → H b ≠ none := fun b m z => by
      obtain ⟨o, h, _⟩ := (R.new i b (by rw [k2]; exact m)).2.1
      rw [z] at h; cases h
    have nd : (a :: (As ++ Bs)).Nodup := by
      have := R.nd i
      rw [k2] at this
      rw [← List.cons_append]
      exact List.nodup_append.mpr ⟨this, p.nd, fun b m c m2 e => live b m (by rw [e]; exact (p.new c m2).1)⟩
    obtain ⟨R2, hz⟩ := Rep.rew (i := i) Rg k2 ⟨_, p.same _ _ k3⟩ k1 nd (fun b m => (List.mem_append.mp m).elim .inl fun m => .inr ⟨m, R.same.free (p.new b m).1, fun z => by obtain ⟨o, h, _⟩ := R.bs b z; rw [(p.new b m).1] at h; cases h⟩)
      (by rw [ZZ_Zp]; exact ow2)
    refine q _ _ _ R2 fun b u hb => ?_
    obtain ⟨q1, q2⟩ := hid_some.mp hb
    have hne : b ≠ a := fun z => q1 (.inr ⟨i, by rw [k2, z]; exact List.mem_cons_self ..⟩)
    refine hid_some.mpr ⟨fun z => ?_, by rw [upd_ne hne]; exact p.same _ _ q2⟩
    have z2 := hz b z
    rw [ZZ_Zp] at z2
    rcases z2 with z2 | z2
    · exact q1 z2
    · rw [(p.new b z2).1] at q2; cases q2
  · cases h
end
end Eng
/-! Eng P: the rest of the statements, and a def's promise. -/
namespace Eng
open PySem L2
section
variable {G : GC} {sc : Scope} {X : Cx} {e k c : E} {e' k' c' : Expr} {i : Nat} {x : Str} {pos p px : Pos} {st : Stmt} {a b ss : Ss} {a' b' : List Stmt} {s : S}
theorem owns_one {C : Cfg} {F H : Hp} {vs : List V} {ts : List T} {As : List Addr} {n : Nat} (h : Owns C F H vs ts As) : ∀ {v : V} {t : T}, Own C F H v t [] → ∃ Bs, Owns C F H (vs.set n v) (ts.set n t) Bs ∧ Bs.Sublist As := by
  intro v t o
  induction vs generalizing ts As n with
  | nil => cases h; exact ⟨[], .nil, List.Sublist.refl _⟩
  | cons w vs ih =>
    cases h with
    | cons h hs =>
      cases n with
      | zero => exact ⟨_, .cons o hs, List.sublist_append_right _ _⟩
      | succ n =>
        obtain ⟨Bs, h1, h2⟩ := ih hs (n := n)
        exact ⟨_, .cons h h1, List.Sublist.append (List.Sublist.refl _) h2⟩
theorem ss_setX (g : GoodS G sc X) (hN : G.N[i]? = some x) (hv : visB sc x = true) (hn : nmB x = true) (he : PE X e' (tE G.C e)) (hk : PE X k' (tE G.C k)) (n : nice e' = true) (nc : notComp e' = true) (nk : nice k' = true) :
    PS X (.Assign [.Subscript (.Name x px) k' p] e' pos) (tS G.C (.setX i k e)) := by
  obtain ⟨n1, n2, n3⟩ := nmB_inv hn
  have hx : PE X (.Name x px) (tVar i) := pe_var (by rw [g.N]; exact hN) (g.vis x hv) n1 n2
  have hs : swapsWithSole [.Subscript (.Name x px) k' p] e' pos.line X.env = pure false := by
    show swapsWith e' (some (.Subscript (.Name x px) k' p)) pos.line X.env = pure false
    exact sw_plain n nc
  refine (ps_asg he (pg_sub hx hk set_list fun v => by cases k' <;> first | rfl | (exact absurd nk Bool.false_ne_true)) hs (by cases e' <;> rfl) rfl).imp fun D σ H q => ?_
  obtain ⟨H0, B, AA, ρ, nn, o, R, h, q⟩ := q
  unfold ex at h
  obtain ⟨ts, h1, h⟩ := bnd h
  obtain ⟨t, h2, h⟩ := bnd h
  obtain ⟨y, h3, h⟩ := bnd h
  split at h
  · rename_i j hj
    obtain ⟨m, h4, h⟩ := bnd h
    split at h
    · cases h
    rename_i hown
    cases h
    obtain ⟨a, vs, As, k1, k2, k3, k4⟩ := own_at R h1
    have hown : t.own = false := by simpa using hown
    refine stT_read R h2 fun Bs v H1 p => ?_
    obtain ⟨d1, d2⟩ := own_shd (p.own rfl) hown
    subst d2
    refine ⟨.ref a, k1, tE_frz (R.mono p.same) h3 fun Cs w H2 p2 => ?_⟩
    have e2 : Same H H2 := p.same.trans p2.same
    have hw := p2.dat
    rw [hj] at hw
    have hw := hw.vint
    subst hw
    refine ⟨a, vs, j, m, rfl, rfl, e2 _ _ k3, by rw [k4.length]; exact h4, ?_⟩
    have R2 := R.mono e2
    have ow1 : Owns G.C (hid H2 (ZZ B AA)) H2 vs ts As := by
      have := owns_up (Bs := []) e2 (fun _ m => by cases m) k4
      rw [Zp_nil] at this; exact this
    rw [Zp_nil] at d1
    have d3 : Own G.C (hid H2 (ZZ B AA)) H2 v t [] := by
      have := (p.own rfl).mono (F' := hid H2 (ZZ B AA)) (H' := H2) (by rw [Zp_nil]; exact hid_mono p2.same fun _ _ _ z => z) fun _ m => by cases m
      exact this
    obtain ⟨Ds, o1, o2⟩ := owns_one ow1 d3 (n := m)
    have nd : (a :: Ds).Nodup := by
      have := R.nd i
      rw [k2] at this
      exact this.sublist (o2.cons₂ a)
    obtain ⟨R3, hz⟩ := Rep.rew (i := i) (Bs := []) (by rw [Zp_nil]; exact R2) k2 ⟨_, e2 _ _ k3⟩ k1 nd (fun b m => .inl (o2.subset m)) (by rw [Zp_nil]; exact o1)
    refine q _ _ _ R3 fun b u hb => ?_
    obtain ⟨q1, q2⟩ := hid_some.mp hb
    have hne : b ≠ a := fun z => q1 (.inr ⟨i, by rw [k2, z]; exact List.mem_cons_self ..⟩)
    refine hid_some.mpr ⟨fun z => ?_, by rw [upd_ne hne]; exact e2 _ _ q2⟩
    have z2 := hz b z
    rw [Zp_nil] at z2
    exact q1 z2
  · cases h
theorem owns_pop {C : Cfg} {F H : Hp} : ∀ {vs : List V} {ts : List T} {As : List Addr}, Owns C F H vs ts As → ∃ Bs, Owns C F H vs.dropLast ts.dropLast Bs ∧ Bs.Sublist As
  | _, _, _, .nil => ⟨[], .nil, List.Sublist.refl _⟩
  | [_], [_], _, .cons h hs => by cases hs; exact ⟨[], .nil, List.nil_sublist _⟩
  | _ :: w :: vs, _ :: u :: ts, _, .cons h hs => by
    obtain ⟨Bs, h1, h2⟩ := owns_pop hs
    exact ⟨_, .cons h h1, List.Sublist.append (List.Sublist.refl _) h2⟩
  | [_], _ :: _ :: _, _, .cons h hs => by cases hs
  | _ :: _ :: _, [_], _, .cons h hs => by cases hs
theorem ss_pop {ap cp : Pos} (g : GoodS G sc X) (hN : G.N[i]? = some x) (hv : visB sc x = true) (hn : nmB x = true) (hline : (ap.endLine == cp.line) = true) :
    PS X (.Expr (.Call (.Attribute (.Name x px) "pop" ap) [] [] cp) pos) (tS G.C (.pop i)) := by
  obtain ⟨n1, n2, n3⟩ := nmB_inv hn
  have hx : PE X (.Name x px) (tVar i) := pe_var (by rw [g.N]; exact hN) (g.vis x hv) n1 n2
  have hp := pe_bm0 (cpos := cp) (apos := ap) F.plainAttrs_list F.slot_list_pop F.type_list_pop (mt_pop (X := X)) hx rfl hline
  refine (ps_expr hp rfl).imp fun D σ H q => ?_
  obtain ⟨H0, B, AA, ρ, nn, o, R, h, q⟩ := q
  unfold ex at h
  obtain ⟨ts, h1, h⟩ := bnd h
  split at h
  · rename_i t ht
    split at h
    · cases h
    cases h
    obtain ⟨a, vs, As, k1, k2, k3, k4⟩ := own_at R h1
    have hne : vs ≠ [] := fun z => by
      subst z
      cases k4
      cases ht
    refine ⟨_, k1, .inl ⟨rfl, vs, SqL.of k3⟩, a, vs, vs.getLast hne, rfl, rfl, k3, by rw [← List.getLast?_eq_getElem?, List.getLast?_eq_some_getLast hne], ?_⟩
    obtain ⟨Bs, o1, o2⟩ := owns_pop k4
    have nd : (a :: Bs).Nodup := by
      have := R.nd i
      rw [k2] at this
      exact this.sublist (o2.cons₂ a)
    obtain ⟨R2, hz⟩ := Rep.rew (i := i) (Bs := []) (by rw [Zp_nil]; exact R) k2 ⟨_, k3⟩ k1 nd (fun b m => .inl (o2.subset m)) (by rw [Zp_nil]; exact o1)
    refine q _ _ _ R2 fun b u hb => ?_
    obtain ⟨q1, q2⟩ := hid_some.mp hb
    have hne : b ≠ a := fun z => q1 (.inr ⟨i, by rw [k2, z]; exact List.mem_cons_self ..⟩)
    refine hid_some.mpr ⟨fun z => ?_, by rw [upd_ne hne]; exact q2⟩
    have z2 := hz b z
    rw [Zp_nil] at z2
    exact q1 z2
  · cases h
theorem ss_ret (g : GoodS G sc X) (he : PE X e' (tE G.C e)) : PS X (.Return (some e') pos) (tS G.C (.ret e)) := (ps_ret he).imp fun D σ H q => by
  obtain ⟨H0, B, AA, ρ, n, o, R, h, q⟩ := q
  unfold ex at h
  obtain ⟨t, h1, rfl⟩ := map_inv h
  exact tE_frz R h1 fun As v H1 p => q As v H1 (by rw [ZZ_no] at p; exact p.back R.same)
theorem ss_retO (g : GoodS G sc X) (hN : G.N[i]? = some x) (hv : visB sc x = true) (hn : nmB x = true) : PS X (.Return (some (.Name x px)) pos) (tS G.C (.retO i)) := by
  obtain ⟨n1, n2, n3⟩ := nmB_inv hn
  have hx : PE X (.Name x px) (tVar i) := pe_var (by rw [g.N]; exact hN) (g.vis x hv) n1 n2
  refine (ps_ret hx).imp fun D σ H q => ?_
  obtain ⟨H0, B, AA, ρ, n, o, R, h, q⟩ := q
  unfold ex at h
  split at h
  · rename_i t ht
    cases h
    obtain ⟨v, h1, h2⟩ := R.slot i t ht
    refine ⟨v, h1, q (AA i) v H ⟨R.same, R.nd i, fun a m => ⟨(R.new i a m).1, (R.new i a m).2.1⟩, h2.dat hid_sub fun _ _ _ z => z, fun _ => h2.mono (hid_mono (Same.refl _) fun a _ _ z => ?_) fun _ _ => rfl⟩⟩
    rcases z with z | z
    · exact .inl z
    · exact .inr ⟨i, z⟩
  · cases h
theorem ss_retN (g : GoodS G sc X) : PS X (.Return none pos) (tS G.C .retN) := ps_retN.imp fun D σ H q => by
  obtain ⟨H0, B, AA, ρ, n, o, R, h, q⟩ := q
  unfold ex at h
  cases h
  exact q [] .non H (Post.sh' R.same .non fun _ => .non)
theorem ss_exp (g : GoodS G sc X) (he : PE X e' (tE G.C e)) (n : nice e' = true) (nc : notComp e' = true) : PS X (.Expr e' pos) (tS G.C (.exp e)) := (ps_expr he (sw_plain n nc)).imp fun D σ H q => by
  obtain ⟨H0, B, AA, ρ, n, o, R, h, q⟩ := q
  unfold ex at h
  obtain ⟨t, h1, rfl⟩ := map_inv h
  exact tE_frz R h1 fun As v H1 p => q _ _ _ (R.mono p.same) (hid_mono p.same fun _ _ _ z => z)
theorem ss_ite (hc : PT X c' (tT G.C c)) (ha : PSs X a' (tSs G.C a)) (hb : PSs X b' (tSs G.C b)) : PS X (.If c' a' b' pos) (tS G.C (.ite c a b)) := (ps_if hc ha hb).imp fun D σ H q => by
  obtain ⟨H0, B, AA, ρ, n, o, R, h, q⟩ := q
  unfold ex at h
  obtain ⟨kk, h1, h⟩ := bnd h
  refine ⟨H0, B, AA, ρ, kk, R, h1, fun H1 s1 => ?_⟩
  have q' := q.imp (hid_mono s1 (Z := ZZ B AA) fun _ _ _ z => z)
  cases kk with
  | true => exact ⟨H0, B, AA, ρ, n, o, R.mono s1, h, q'⟩
  | false => exact ⟨H0, B, AA, ρ, n, o, R.mono s1, h, q'⟩
/-! ### a tuple handed back -/
def tM (C : Cfg) (es : Es) : TA := fun σ H Q => ∃ (H0 : Hp) (B : Addr → Prop) (Fs : List Addr) (AA : Nat → List Addr) (ρ : Rho) (ts : List T), Rep C H0 (Zp B Fs) AA H σ ρ ∧ evM es ρ = some ts ∧ (mvs es).Nodup ∧
  ∀ As vs H', Same H H' → As.Nodup → (∀ a, a ∈ As → ((∃ i, i ∈ mvs es ∧ a ∈ AA i) ∨ H a = none) ∧ nTup H' a) → Owns C (hid H' (Zp (ZZ (Zp B Fs) AA) As)) H' vs ts As → Q vs H'
theorem sm_cons {es : Es} {es' : List Expr} (g : Good G sc X) (hm : mE G.N sc e e' = true) (nd : Nd G e) (hs : PA X es' (tM G.C es)) : PA X (e' :: es') (tM G.C (.cons e es)) := by
  have hn := mE_nice hm
  by_cases hv : ∃ i, e = .var i
  · obtain ⟨i, rfl⟩ := hv
    unfold mE at hm
    split at hm
    · rename_i x p
      obtain ⟨m1, m2, m3⟩ := and3 hm
      obtain ⟨n1, n2, n3⟩ := nmB_inv m3
      have hx : PE X (.Name x p) (tVar i) := pe_var (by rw [g.N]; exact of_decide_eq_true m1) (g.vis x m2) n1 n2
      refine (pa_cons hx hs rfl).imp fun σ H Q q => ?_
      obtain ⟨H0, B, Fs, AA, ρ, ts, R, h, n, q⟩ := q
      unfold evM at h
      simp only [] at h
      split at h
      · rename_i t ht
        obtain ⟨us, h2, rfl⟩ := map_inv h
        obtain ⟨v, k1, k2⟩ := R.slot i t ht
        have n : (i :: mvs es).Nodup := n
        have n' := List.nodup_cons.mp n
        have fresh : ∀ {b : Addr} {As : List Addr} {H' : Hp}, (∀ a, a ∈ As → ((∃ i, i ∈ mvs es ∧ a ∈ AA i) ∨ H a = none) ∧ nTup H' a) → H b ≠ none → b ∈ As → ∃ j, j ∈ mvs es ∧ b ∈ AA j := fun k hb m => by
          rcases (k _ m).1 with z | z
          · exact z
          · exact absurd z hb
        refine ⟨v, k1, H0, B, Fs, AA, ρ, us, R, h2, n'.2, fun As vs H' s d k o => q (AA i ++ As) (v :: vs) H' s ?_ ?_ ?_⟩
        · refine List.nodup_append.mpr ⟨R.nd i, d, fun a ha b hb e => ?_⟩
          subst e
          have hl : H a ≠ none := fun z => by obtain ⟨o, h, _⟩ := (R.new i a ha).2.1; rw [z] at h; cases h
          obtain ⟨j, j1, j2⟩ := fresh k hl hb
          have := R.dj i j a ha j2
          subst this
          exact n'.1 j1
        · intro a m
          rcases List.mem_append.mp m with m | m
          · exact ⟨.inl ⟨i, List.mem_cons_self .., m⟩, (R.new i a m).2.1.mono s⟩
          · refine ⟨?_, (k a m).2⟩
            rcases (k a m).1 with ⟨j, j1, j2⟩ | z
            · exact .inl ⟨j, List.mem_cons_of_mem _ j1, j2⟩
            · exact .inr z
        · refine .cons (k2.mono (hid_mono s fun a o h z => ?_) fun a m => ?_) (o.mono (hid_mono (Same.refl _) fun a _ _ z => ?_) fun _ _ => rfl)
          · rcases z with z | z
            · exact z
            · rcases List.mem_append.mp z with z | z
              · exact .inr ⟨i, z⟩
              · obtain ⟨j, _, j2⟩ := fresh k (by rw [h]; exact fun z => nomatch z) z
                exact .inr ⟨j, j2⟩
          · obtain ⟨o, h⟩ := k2.live a m
            rw [h, s _ _ h]
          · rcases z with z | z
            · exact .inl z
            · rcases List.mem_append.mp z with z | z
              · exact .inl (.inr ⟨i, z⟩)
              · exact .inr z
      · cases h
    · cases hm
  · refine (pa_cons (soE e g hm nd).1 hs (star_cons hn)).imp fun σ H Q q => ?_
    obtain ⟨H0, B, Fs, AA, ρ, ts, R, h, n, q⟩ := q
    have hev : evM (.cons e es) ρ = if sal (avs e) (ow ρ) then (ev e (dl ρ)).bind fun t => (evM es ρ).map fun ts => t :: ts else none := by
      cases e <;> first | rfl | exact absurd ⟨_, rfl⟩ hv
    have hmv : mvs (.cons e es) = mvs es := by
      cases e <;> first | rfl | exact absurd ⟨_, rfl⟩ hv
    rw [hev] at h
    rw [hmv] at n q
    split at h
    · rename_i hs
      obtain ⟨t, h1, h⟩ := bnd h
      obtain ⟨us, h2, rfl⟩ := map_inv h
      refine tE_of R h1 hs fun Bs v H1 p => ?_
      have hz : Zp (Zp B Fs) Bs = Zp B (Fs ++ Bs) := Zp_app
      refine ⟨H0, B, Fs ++ Bs, AA, ρ, us, by rw [← hz]; exact R.grow p.same p.new, h2, n, fun As vs H' s d k o => q (Bs ++ As) (v :: vs) H' (p.same.trans s) ?_ ?_ ?_⟩
      · refine List.nodup_append.mpr ⟨p.nd, d, fun a ha b hb e => ?_⟩
        subst e
        rcases (k a hb).1 with ⟨j, _, j2⟩ | z
        · obtain ⟨o, h, _⟩ := (R.new j a j2).2.1
          rw [(p.new a ha).1] at h; cases h
        · obtain ⟨o, h, _⟩ := (p.new a ha).2
          rw [z] at h; cases h
      · intro a m
        rcases List.mem_append.mp m with m | m
        · exact ⟨.inr (p.new a m).1, (p.new a m).2.mono s⟩
        · refine ⟨?_, (k a m).2⟩
          rcases (k a m).1 with z | z
          · exact .inl z
          · exact .inr (p.same.free z)
      · rw [← hz, ZZ_Zp, Zp_app] at o
        refine .cons ((p.own rfl).mono (hid_mono s fun a o h z => ?_) fun a m => ?_) o
        · rcases z with z | z
          · exact .inl z
          · rcases List.mem_append.mp z with z | z
            · exact .inr z
            · rcases (k a z).1 with ⟨j, _, j2⟩ | w
              · exact .inl (.inr ⟨j, j2⟩)
              · rw [w] at h; cases h
        · obtain ⟨o, h⟩ := (p.own rfl).live a m
          rw [h, s _ _ h]
    · cases h
theorem sm_all (g : Good G sc X) : ∀ {es : Es} {es' : List Expr}, mEs G.N sc es es' = true → Nds G es → PA X es' (tM G.C es)
  | .nil, [], m, n => pa_nil.imp fun σ H Q q => by
    obtain ⟨H0, B, Fs, AA, ρ, ts, R, h, n, q⟩ := q
    cases h
    exact q [] [] H (Same.refl H) List.nodup_nil (fun _ m => by cases m) .nil
  | .nil, _ :: _, m, n => by unfold mEs at m; cases m
  | .cons e es, [], m, n => by unfold mEs at m; cases m
  | .cons e es, e' :: es', m, n => by
    unfold mEs at m
    have m := Bool.and_eq_true_iff.mp m
    exact sm_cons g m.1 n.1 (sm_all g m.2 n.2)
theorem ss_retT {es : Es} {es' : List Expr} {kk : Nat} (g : GoodS G sc X) (hs : PA X es' (tM G.C es)) : PS X (.Return (some (.Tuple es' kk p)) pos) (tS G.C (.retT es)) := (ps_ret (pe_tup hs)).imp fun D σ H q => by
  obtain ⟨H0, B, AA, ρ, n, o, R, h, q⟩ := q
  unfold ex at h
  split at h
  · rename_i hnd
    obtain ⟨ts, h1, h⟩ := bnd h
    split at h
    · rename_i hl
      cases h
      refine ⟨H0, B, [], AA, ρ, ts, by rw [Zp_nil]; exact R, h1, hnd, fun As vs H1 s d k o => ?_⟩
      rw [Zp_nil] at o
      refine ⟨by rw [o.length, sz_eq]; exact hl, fun p hp => ?_⟩
      have e1 : Same H1 (upd H1 p (.tup vs)) := Same.upd hp
      have nA : p ∉ As := fun m => by obtain ⟨o, h, _⟩ := (k p m).2; rw [hp] at h; cases h
      have o2 : Own G.C (hid (upd H1 p (.tup vs)) (Zp B As)) (upd H1 p (.tup vs)) (.ref p) (.tup ts) As := by
        refine .tup (hid_some.mpr ⟨fun z => ?_, upd_same⟩) (o.mono (hid_mono e1 fun a o h z => ?_) fun a m => upd_ne fun z => nA (z ▸ m))
        · rcases z with z | z
          · obtain ⟨o, h, _⟩ := (R.bs p z).mono s; rw [hp] at h; cases h
          · exact nA z
        · rcases z with z | z
          · exact .inl (.inl z)
          · exact .inr z
      have hp2 : Post G.C B H0 (.tup ts) true As (.ref p) (upd H1 p (.tup vs)) := by
        refine ⟨R.same.trans (s.trans e1), d, fun a m => ⟨?_, (k a m).2.mono e1⟩, o2.dat hid_sub fun _ _ _ z => z, fun _ => o2⟩
        rcases (k a m).1 with ⟨j, _, j2⟩ | z
        · exact (R.new j a j2).1
        · exact R.same.free z
      unfold T.nf at q
      by_cases ho : (T.tup ts).own = true
      · rw [if_pos ho] at q; exact q _ _ _ hp2
      · rw [if_neg ho] at q
        have ho : (T.tup ts).own = false := by simpa using ho
        obtain ⟨k1, k2⟩ := own_shd o2 ho
        subst k2
        exact q [] _ _ ⟨hp2.same, hp2.nd, hp2.new, hp2.dat, fun _ => .sh k1⟩
    · cases h
  · cases h
/-! ### a list within a tuple, changed; the tuple is then let go -/
theorem Rep.hit {C : Cfg} {H0 H : Hp} {B : Addr → Prop} {AA : Nat → List Addr} {σ : L2.St} {ρ : Rho} {a : Addr} {o : HO} (R : Rep C H0 B AA H σ ρ) (ha : a ∈ AA i) (ho : ∀ xs, o ≠ .tup xs) : Rep C H0 B AA (upd H a o) σ (ρ.set i none) := by
  have haZ : ZZ B AA a := .inr ⟨i, ha⟩
  have live : ∀ b, nTup H b → nTup (upd H a o) b := fun b ⟨u, h1, h2⟩ => by
    by_cases hb : b = a
    · subst hb; exact ⟨_, upd_same, ho⟩
    · exact ⟨u, by rw [upd_ne hb]; exact h1, h2⟩
  refine ⟨fun b u e => ?_, fun b q => live b (R.bs b q), fun j b m => ⟨(R.new j b m).1, live b (R.new j b m).2.1, (R.new j b m).2.2⟩, R.nd, R.dj, fun j t h => ?_, by rw [List.length_set]; exact R.len⟩
  · rw [upd_ne (ne_of_none e (R.new i a ha).1)]; exact R.same b u e
  · by_cases hj : i = j
    · subst hj
      have hi : i < ρ.length := by
        have := (List.getElem?_eq_some_iff.mp h).1
        rwa [List.length_set] at this
      rw [List.getElem?_set_self hi] at h
      cases h
    · rw [List.getElem?_set_ne hj] at h
      obtain ⟨u', h1, h2⟩ := R.slot j t h
      exact ⟨u', h1, by rw [hid_upd haZ]; exact h2.mono (Same.refl _) fun b m => upd_ne fun q => hj (R.dj i j a ha (q ▸ m))⟩
theorem owns_get {C : Cfg} {F H : Hp} : ∀ {vs : List V} {ts : List T} {As : List Addr} {j : Nat} {t : T}, Owns C F H vs ts As → ts[j]? = some t → ∃ v Bs, vs[j]? = some v ∧ Own C F H v t Bs ∧ ∀ a, a ∈ Bs → a ∈ As
  | _, _, _, j, t, .nil, h => by simp at h
  | _, _, _, 0, t, .cons ho hs, h => by simp at h; subst h; exact ⟨_, _, rfl, ho, fun a m => List.mem_append_left _ m⟩
  | _, _, _, j + 1, t, .cons ho hs, h => by
    obtain ⟨v, Bs, h1, h2, h3⟩ := owns_get hs (by simpa using h)
    exact ⟨v, Bs, by simpa using h1, h2, fun a m => List.mem_append_right _ (h3 a m)⟩
theorem tup_at {C : Cfg} {H0 H : Hp} {B : Addr → Prop} {AA : Nat → List Addr} {σ : L2.St} {ρ : Rho} {j : Nat} {us : List T} (R : Rep C H0 B AA H σ ρ) (h : tupAt ρ i j = some us) :
    ∃ p xs a ws, σ[i]? = some (some (.ref p)) ∧ H p = some (.tup xs) ∧ xs[j]? = some (.ref a) ∧ H a = some (.lst ws) ∧ ws.length = us.length ∧ a ∈ AA i := by
  unfold tupAt at h
  split at h
  · rename_i ts ht
    split at h
    · rename_i us' hu
      cases h
      obtain ⟨v, k1, k2⟩ := R.slot i _ ht
      generalize hA : AA i = As at k2
      cases k2 with
      | tup hp hs =>
        obtain ⟨w, Bs, h1, h2, h3⟩ := owns_get hs hu
        cases h2 with
        | lst ha hw => exact ⟨_, _, _, _, k1, hid_sub _ _ hp, h1, ha, hw.length, h3 _ (List.mem_cons_self ..)⟩
    · cases h
  · cases h
theorem Rep.hitT {C : Cfg} {H0 H : Hp} {B : Addr → Prop} {AA : Nat → List Addr} {σ : L2.St} {ρ : Rho} {a : Addr} {o : HO} {v : V} {t' : T} (R : Rep C H0 B AA H σ ρ) (ha : a ∈ AA i) (ho : ∀ xs, o ≠ .tup xs) (hv : σ[i]? = some (some v)) (how : Own C (hid (upd H a o) (ZZ B AA)) (upd H a o) v t' (AA i)) : Rep C H0 B AA (upd H a o) σ (ρ.set i (some t')) := by
  have R2 := R.hit (o := o) ha ho
  refine ⟨R2.same, R2.bs, R2.new, R2.nd, R2.dj, fun j t h => ?_, by rw [List.length_set]; exact R.len⟩
  by_cases hj : i = j
  · subst hj
    have hi : i < ρ.length := by
      have := (List.getElem?_eq_some_iff.mp h).1
      rwa [List.length_set] at this
    rw [List.getElem?_set_self hi] at h
    cases h
    exact ⟨v, hv, how⟩
  · rw [List.getElem?_set_ne hj] at h
    exact R2.slot j t (by rw [List.getElem?_set_ne hj]; exact h)
theorem owns_nil {C : Cfg} {F H : Hp} : ∀ {vs : List V} {us : List T} {As : List Addr}, Owns C F H vs us As → T.owns us = false → As = []
  | _, _, _, .nil, _ => rfl
  | _, _, _, .cons h hs, o => by
    have o := Bool.or_eq_false_iff.mp (show (_ || _) = false from o)
    rw [(own_shd h o.1).2, owns_nil hs o.2]; rfl
theorem owns_rev {C : Cfg} {F H : Hp} : ∀ {vs : List V} {us : List T}, Owns C F H vs us [] → Owns C F H vs.reverse us.reverse [] := by
  have key : ∀ {vs : List V} {us : List T} {As : List Addr}, Owns C F H vs us As → As = [] → Owns C F H vs.reverse us.reverse [] := by
    intro vs us As h
    induction vs generalizing us As with
    | nil => cases h; intro _; exact .nil
    | cons v vs ih =>
      cases h with
      | @cons _ _ u us A1 B1 h hs =>
        intro e
        obtain ⟨e1, e2⟩ := List.append_eq_nil_iff.mp e
        subst e1
        rw [List.reverse_cons, List.reverse_cons]
        have := Owns.append (ih hs e2) (Owns.cons h .nil)
        simpa using this
  intro vs us h
  exact key h rfl
theorem owns_lst {C : Cfg} {F H : Hp} : ∀ {vs : List V} {ts : List T} {As : List Addr} {j : Nat} {us : List T}, Owns C F H vs ts As → As.Nodup → ts[j]? = some (.lst us) → T.owns us = false → ∃ a ws, vs[j]? = some (.ref a) ∧ H a = some (.lst ws) ∧ a ∈ As ∧ Owns C F H ws us [] ∧
    ∀ {F' H' : Hp} {ws' : List V} {us' : List T}, Same F F' → (∀ b, b ∈ As → b ≠ a → H' b = H b) → H' a = some (.lst ws') → Owns C F' H' ws' us' [] → Owns C F' H' vs (ts.set j (.lst us')) As
  | _, _, _, j, us, .nil, _, h, _ => by simp at h
  | _, _, _, 0, us, .cons (vs := vs) (ts := ts) (Bs := Bs) ho hs, nd, h, o => by
    simp at h
    subst h
    cases ho with
    | @lst a ws _ As1 ha hw =>
      have e := owns_nil hw o
      subst e
      refine ⟨a, ws, rfl, ha, List.mem_append_left _ (List.mem_cons_self ..), hw, fun s k h' o' => ?_⟩
      refine .cons (.lst h' o') (hs.mono s fun b m => k b (List.mem_append_right _ m) fun z => ?_)
      exact (List.nodup_append.mp nd).2.2 a (List.mem_cons_self ..) b m z.symm
  | _, _, _, j + 1, us, .cons (As := As) ho hs, nd, h, o => by
    have nd' := List.nodup_append.mp nd
    obtain ⟨a, ws, h1, h2, h3, h4, h5⟩ := owns_lst hs nd'.2.1 (by simpa using h) o
    refine ⟨a, ws, by simpa using h1, h2, List.mem_append_right _ h3, h4, fun s k h' o' => ?_⟩
    exact .cons (ho.mono s fun b m => k b (List.mem_append_left _ m) fun z => nd'.2.2 b m a h3 z) (h5 s (fun b m n => k b (List.mem_append_right _ m) n) h' o')
theorem tup_lst {C : Cfg} {H0 H : Hp} {B : Addr → Prop} {AA : Nat → List Addr} {σ : L2.St} {ρ : Rho} {j : Nat} {us : List T} (R : Rep C H0 B AA H σ ρ) (h : tupAt ρ i j = some us) (o : T.owns us = false) :
    ∃ p xs a ws, σ[i]? = some (some (.ref p)) ∧ H p = some (.tup xs) ∧ xs[j]? = some (.ref a) ∧ H a = some (.lst ws) ∧ ws.length = us.length ∧ a ∈ AA i ∧ Owns C (hid H (ZZ B AA)) H ws us [] ∧
      ∀ {H1 : Hp} {ws' : List V} {us' : List T}, Rep C H0 B AA H1 σ ρ → Same H H1 → Owns C (hid H1 (ZZ B AA)) (upd H1 a (.lst ws')) ws' us' [] → Rep C H0 B AA (upd H1 a (.lst ws')) σ (tupPut ρ i j us') := by
  unfold tupAt at h
  split at h
  · rename_i ts ht
    split at h
    · rename_i us' hu
      cases h
      obtain ⟨v, k1, k2⟩ := R.slot i _ ht
      have nd := R.nd i
      have kk := k2
      generalize hA : AA i = As at k2 nd
      cases k2 with
      | @tup p xs _ As1 hp hs =>
        obtain ⟨a, ws, h1, h2, h3, h4, h5⟩ := owns_lst hs nd hu o
        refine ⟨p, xs, a, ws, k1, hid_sub _ _ hp, h1, h2, h4.length, h3, h4, fun {H1 ws' us'} R1 s ho => ?_⟩
        have haZ : ZZ B AA a := .inr ⟨i, by rw [hA]; exact h3⟩
        unfold tupPut
        rw [ht]
        refine R1.hitT (by rw [hA]; exact h3) (fun _ z => nomatch z) k1 ?_
        rw [hA]
        have sm : Same (hid H (ZZ B AA)) (hid H1 (ZZ B AA)) := hid_mono s fun _ _ _ z => z
        rw [hid_upd haZ]
        refine .tup (sm _ _ hp) (h5 sm (fun b m n => ?_) upd_same ho)
        obtain ⟨w, hw⟩ := hs.live b m
        rw [upd_ne n, hw, s _ _ hw]
    · cases h
  · cases h
theorem ss_poke {ap cp p2 p3 : Pos} {j kk : Nat} (g : GoodS G sc X) (hN : G.N[i]? = some x) (hv : visB sc x = true) (hn : nmB x = true) (hline : (ap.endLine == cp.line) = true) (he : PE X e' (tE G.C e)) (n : nice e' = true) :
    PS X (.Expr (.Call (.Attribute (.Subscript (.Name x px) (.Constant (.int (j : Int)) kk p2) p3) "append" ap) [e'] [] cp) pos) (tS G.C (.poke i j e)) := by
  obtain ⟨n1, n2, n3⟩ := nmB_inv hn
  have hx : PE X (.Name x px) (tVar i) := pe_var (by rw [g.N]; exact hN) (g.vis x hv) n1 n2
  have hp := pe_bm (cpos := cp) F.plainAttrs_list F.slot_list_append F.type_list_append (mt_append (X := X)) (pe_ix (pos := p3) ix_tup hx (pe_int (i := (j : Int)) (j := kk) (pos := p2)) fun _ _ => rfl) (pa_cons he pa_nil (star_cons n)) rfl (by rw [star_cons n]; rfl) hline (star_cons n) rfl
  refine (ps_expr hp rfl).imp fun D σ H q => ?_
  obtain ⟨H0, B, AA, ρ, nn, o, R, h, q⟩ := q
  unfold ex at h
  obtain ⟨us, h1, h⟩ := bnd h
  obtain ⟨t, h2, h⟩ := bnd h
  split at h
  · rename_i hc
    obtain ⟨hlt, ho, hto⟩ := hc
    cases h
    obtain ⟨p, xs, a, ws, k1, k2, k3, k4, k5, k6, k7, k8⟩ := tup_lst R h1 ho
    refine ⟨_, k1, p, xs, j, .ref a, rfl, rfl, SqT.of k2, atI_nat k3, .inl ⟨rfl, ws, SqL.of k4⟩, stT_read R h2 fun Bs v H1 pp => ?_⟩
    refine ⟨a, ws, v, rfl, rfl, pp.same _ _ k4, by rw [k5, sz_eq]; exact hlt, ?_⟩
    obtain ⟨d1, d2⟩ := own_shd (pp.own rfl) hto
    subst d2
    have sm : Same (hid H (ZZ B AA)) (hid H1 (ZZ B AA)) := hid_mono pp.same fun _ _ _ z => z
    have o1 : Owns G.C (hid H1 (ZZ B AA)) (upd H1 a (.lst (ws ++ [v]))) ws us [] := k7.mono sm fun _ m => by cases m
    have o2 : Own G.C (hid H1 (ZZ B AA)) (upd H1 a (.lst (ws ++ [v]))) v t [] := (pp.own rfl).mono (by rw [Zp_nil]; exact Same.refl _) fun _ m => by cases m
    have o3 := Owns.append o1 (Owns.cons o2 .nil)
    refine q _ _ _ (k8 (R.mono pp.same) pp.same (by simpa using o3)) ?_
    rw [hid_upd (.inr ⟨i, k6⟩)]
    exact sm
  · cases h
theorem ss_pokeR {ap cp p2 p3 : Pos} {j kk : Nat} (g : GoodS G sc X) (hN : G.N[i]? = some x) (hv : visB sc x = true) (hn : nmB x = true) (hline : (ap.endLine == cp.line) = true) :
    PS X (.Expr (.Call (.Attribute (.Subscript (.Name x px) (.Constant (.int (j : Int)) kk p2) p3) "reverse" ap) [] [] cp) pos) (tS G.C (.pokeR i j)) := by
  obtain ⟨n1, n2, n3⟩ := nmB_inv hn
  have hx : PE X (.Name x px) (tVar i) := pe_var (by rw [g.N]; exact hN) (g.vis x hv) n1 n2
  have hp := pe_bm0 (cpos := cp) (apos := ap) F.plainAttrs_list F.slot_list_reverse F.type_list_reverse (mt_reverse (X := X)) (pe_ix (pos := p3) ix_tup hx (pe_int (i := (j : Int)) (j := kk) (pos := p2)) fun _ _ => rfl) rfl hline
  refine (ps_expr hp rfl).imp fun D σ H q => ?_
  obtain ⟨H0, B, AA, ρ, nn, o, R, h, q⟩ := q
  unfold ex at h
  obtain ⟨us, h1, h⟩ := bnd h
  split at h
  · rename_i ho
    cases h
    obtain ⟨p, xs, a, ws, k1, k2, k3, k4, k5, k6, k7, k8⟩ := tup_lst R h1 ho
    refine ⟨_, k1, p, xs, j, .ref a, rfl, rfl, SqT.of k2, atI_nat k3, .inl ⟨rfl, ws, SqL.of k4⟩, a, ws, rfl, rfl, k4, ?_⟩
    refine q _ _ _ (k8 R (Same.refl _) (owns_rev (k7.mono (Same.refl _) fun _ m => by cases m))) ?_
    rw [hid_upd (.inr ⟨i, k6⟩)]
    exact Same.refl _
  · cases h
theorem ss_brk : PS X (.Break pos) (tS G.C .brk) := ps_break.imp fun D σ H q => by
  obtain ⟨H0, B, AA, ρ, n, o, R, h, q⟩ := q
  unfold ex at h
  cases h
  exact q _ _ _ R (Same.refl _)
theorem ss_cnt : PS X (.Continue pos) (tS G.C .cnt) := ps_continue.imp fun D σ H q => by
  obtain ⟨H0, B, AA, ρ, n, o, R, h, q⟩ := q
  unfold ex at h
  cases h
  exact q _ _ _ R (Same.refl _)
theorem ss_pas : PS X (.Pass pos) (tS G.C .pas) := ps_pass.imp fun D σ H q => by
  obtain ⟨H0, B, AA, ρ, n, o, R, h, q⟩ := q
  unfold ex at h
  cases h
  exact q _ _ _ R (Same.refl _)
theorem ss_nev : PS X st (tS G.C .nev) := ps_never.imp fun D σ H q => by
  obtain ⟨H0, B, AA, ρ, n, o, R, h, q⟩ := q
  unfold ex at h
  cases h
theorem ss_whl (g : GoodS G sc X) (hc : PT X c' (tT G.C c)) (hb : PSs X b' (tSs G.C b)) : PS X (.While c' b' [] pos) (tS G.C (.whl c b)) := (ps_while g.pass hc hb).imp fun D σ H q => by
  obtain ⟨H0, B, AA, ρ, n, o, R, h, q⟩ := q
  unfold ex at h
  refine ⟨fun m σ H1 => ∃ AA' ρ', Rep G.C H0 B AA' H1 σ ρ' ∧ Same (hid H (ZZ B AA)) (hid H1 (ZZ B AA')) ∧ whlGo (fun ρ => tst c (dl ρ)) (exs n b) m ρ' = some o, ⟨n, AA, ρ, R, Same.refl _, h⟩, ?_⟩
  rintro m σ1 H1 ⟨AA1, ρ1, R1, f1, h1⟩
  cases m with
  | zero => cases h1
  | succ m =>
    unfold whlGo at h1
    obtain ⟨kk, h2, h1⟩ := bnd h1
    refine ⟨H0, B, AA1, ρ1, kk, R1, h2, fun H2 s2 => ?_⟩
    have f2 : Same (hid H (ZZ B AA)) (hid H2 (ZZ B AA1)) := f1.trans (hid_mono s2 fun _ _ _ z => z)
    cases kk with
    | false =>
      have h1 : some (Out.nx ρ1) = some o := h1
      cases h1
      exact q _ _ _ (R1.mono s2) f2
    | true =>
      refine ⟨fun σ' H' => ∃ AA' ρ', Rep G.C H0 B AA' H' σ' ρ' ∧ Same (hid H (ZZ B AA)) (hid H' (ZZ B AA')) ∧ whlGo (fun ρ => tst c (dl ρ)) (exs n b) m ρ' = some o, fun σ' H' w => ⟨m, by omega, w⟩, ?_⟩
      obtain ⟨o1, h3, h1⟩ := bnd (show ((exs n b ρ1).bind _) = some o from h1)
      refine ⟨H0, B, AA1, ρ1, n, o1, R1.mono s2, h3, ?_⟩
      cases o1 with
      | nx ρ2 => exact fun σ' H' AA' R' f' => ⟨AA', ρ2, R', f2.trans f', h1⟩
      | ct ρ2 => exact fun σ' H' AA' R' f' => ⟨AA', ρ2, R', f2.trans f', h1⟩
      | bk ρ2 =>
        have h1 : some (Out.nx ρ2) = some o := h1
        cases h1
        exact fun σ' H' AA' R' f' => q _ _ _ R' (f2.trans f')
      | rt t =>
        have h1 : some (Out.rt t) = some o := h1
        cases h1
        exact q
theorem ss_for {tg : Tg} {it : I} {tg' it' : Expr} (g : GoodS G sc X) (hg : PG X tg' (tG G.C tg)) (hi : PI X tg' it' (tI G.C it)) (n : nice it' = true) (hb : PSs X b' (tSs G.C b)) : PS X (.For tg' it' b' [] pos) (tS G.C (.for tg it b)) :=
  (ps_for g.pass g.calm hi hg hb (set_plain n)).imp fun D σ H q => by
    obtain ⟨H0, B, AA, ρ, n, o, R, h, q⟩ := q
    unfold ex at h
    obtain ⟨ds, h1, h⟩ := bnd h
    split at h
    · rename_i hs
      refine ⟨H0, B, AA, ρ, ds, R, h1, hs, fun J H1 e1 wd => ?_⟩
      obtain ⟨W, Y, walk, hW, hY⟩ := wd
      have f1 : Same (hid H (ZZ B AA)) (hid H1 (ZZ B AA)) := hid_mono e1 fun _ _ _ z => z
      refine for_it walk (fun i σ' H' => ∃ AA' ρ', Rep G.C H0 B AA' H' σ' ρ' ∧ Same (hid H1 (ZZ B AA)) (hid H' (ZZ B AA')) ∧ forGo (asgR tg) (exs n b) (ds.drop i) ρ' = some o) ⟨AA, ρ, R.mono e1, Same.refl _, h⟩ ?_ ?_ ?_
      · rintro i σ' H' _ ⟨AA', ρ', R', f', _⟩
        exact hW H' (f'.trans hid_sub)
      · rintro i x σ2 H2 H3 hlt ⟨AA2, ρ2, R2, f2, h2⟩ y
        have hlt' : i < ds.length := hlt
        rw [List.drop_eq_getElem_cons hlt'] at h2
        have hd : ds[i]? = some ds[i] := List.getElem?_eq_getElem hlt'
        unfold forGo at h2
        obtain ⟨ρ3, h3, h2⟩ := bnd h2
        obtain ⟨o1, h4, h2⟩ := bnd h2
        obtain ⟨s3, hdat⟩ := hY i _ H2 x H3 hd (f2.trans hid_sub) y
        refine ⟨H0, B, AA2, ρ2, ρ3, _, R2.mono s3, hdat (ZZ B AA2) R2.z f2, h3, fun AA3 σ3 R3 z1 _ _ => ?_⟩
        have f3 : Same (hid H1 (ZZ B AA)) (hid H3 (ZZ B AA3)) := f2.trans (hid_mono s3 fun a _ _ z => z1 a z)
        refine ⟨H0, B, AA3, ρ3, n, o1, R3, h4, ?_⟩
        cases o1 with
        | nx ρ4 => exact fun σ' H' AA' R' f' => ⟨AA', ρ4, R', f3.trans f', h2⟩
        | ct ρ4 => exact fun σ' H' AA' R' f' => ⟨AA', ρ4, R', f3.trans f', h2⟩
        | bk ρ4 =>
          have h2 : some (Out.nx ρ4) = some o := h2
          cases h2
          exact fun σ' H' AA' R' f' => q _ _ _ R' (f1.trans (f3.trans f'))
        | rt t =>
          have h2 : some (Out.rt t) = some o := h2
          cases h2
          exact q
      · rintro σ' H' ⟨AA', ρ', R', f', h2⟩
        rw [List.drop_length] at h2
        have h2 : some (Out.nx ρ') = some o := h2
        cases h2
        exact q _ _ _ R' (f1.trans f')
    · cases h
theorem sss_nil : PSs X [] (tSs G.C .nil) := pss_nil.imp fun D σ H q => by
  obtain ⟨H0, B, AA, ρ, n, o, R, h, q⟩ := q
  unfold exs at h
  cases h
  exact q _ _ _ R (Same.refl _)
theorem sss_cons (h1 : PS X st (tS G.C s)) (h2 : PSs X a' (tSs G.C ss)) : PSs X (st :: a') (tSs G.C (.cons s ss)) := (pss_cons h1 h2).imp fun D σ H q => by
  obtain ⟨H0, B, AA, ρ, n, o, R, h, q⟩ := q
  unfold exs at h
  obtain ⟨o1, h1, h⟩ := bnd h
  refine ⟨H0, B, AA, ρ, n, o1, R, h1, ?_⟩
  cases o1 with
  | nx ρ1 => exact fun σ' H' AA' R' f' => ⟨H0, B, AA', ρ1, n, o, R', h, q.imp f'⟩
  | rt t =>
    have h : some (Out.rt t) = some o := h
    cases h
    exact q
  | bk ρ1 =>
    have h : some (Out.bk ρ1) = some o := h
    cases h
    exact q
  | ct ρ1 =>
    have h : some (Out.ct ρ1) = some o := h
    cases h
    exact q
theorem Rep.frz1 {C : Cfg} {H0 H : Hp} {B : Addr → Prop} {AA : Nat → List Addr} {σ : L2.St} {ρ : Rho} (R : Rep C H0 B AA H σ ρ) : ∃ AA', Rep C H0 B AA' H σ (frz1 i ρ) ∧ ∀ a, ZZ B AA' a → ZZ B AA a := by
  unfold Eng.frz1
  split
  · rename_i t ht
    refine ⟨upA AA i [], ?_, ZZ_sub⟩
    obtain ⟨v, h1, h2⟩ := R.slot i t ht
    have hd : Dat C (hid H (ZZ B (upA AA i []))) v t.d := h2.dat (hid_mono (Same.refl _) fun a _ _ z => ZZ_sub a z) fun a o m e => hid_some.mpr ⟨fun z => by
      rcases z with z | ⟨j, z⟩
      · exact (R.new i a m).2.2 z
      · by_cases hj : j = i
        · subst hj; rw [upA_same] at z; cases z
        · rw [upA_ne hj] at z; exact hj (R.dj j i a z m), e⟩
    have sub : Same (hid H (ZZ B AA)) (hid H (ZZ B (upA AA i []))) := hid_mono (Same.refl _) fun a _ _ z => ZZ_sub a z
    refine ⟨R.same, R.bs, fun j a m => ?_, fun j => ?_, fun j l a m n => ?_, fun j u h => ?_, by rw [List.length_set]; exact R.len⟩
    · by_cases hj : j = i
      · subst hj; rw [upA_same] at m; cases m
      · rw [upA_ne hj] at m; exact R.new j a m
    · by_cases hj : j = i
      · subst hj; rw [upA_same]; exact List.nodup_nil
      · rw [upA_ne hj]; exact R.nd j
    · by_cases hj : j = i
      · subst hj; rw [upA_same] at m; cases m
      · by_cases hl : l = i
        · subst hl; rw [upA_same] at n; cases n
        · rw [upA_ne hj] at m; rw [upA_ne hl] at n; exact R.dj j l a m n
    · by_cases hj : i = j
      · subst hj
        have hi : i < ρ.length := by
          have := (List.getElem?_eq_some_iff.mp h).1
          rwa [List.length_set] at this
        rw [List.getElem?_set_self hi] at h
        cases h
        refine ⟨v, h1, ?_⟩
        rw [upA_same]
        exact .sh hd
      · rw [List.getElem?_set_ne hj] at h
        obtain ⟨u', k1, k2⟩ := R.slot j u h
        exact ⟨u', k1, by rw [upA_ne (fun q => hj q.symm)]; exact k2.mono sub fun _ _ => rfl⟩
  · exact ⟨AA, R, fun _ z => z⟩
theorem sss_frz (h2 : PSs X a' (tSs G.C ss)) : PSs X a' (tSs G.C (.frz i ss)) := h2.imp fun D σ H q => by
  obtain ⟨H0, B, AA, ρ, n, o, R, h, q⟩ := q
  unfold exs at h
  obtain ⟨AA', R', z⟩ := R.frz1 (i := i)
  exact ⟨H0, B, AA', _, n, o, R', h, q.imp (hid_mono (Same.refl _) fun a _ _ m => z a m)⟩
end
variable {G : GC}
mutual
theorem soS : ∀ (s : S) {sc : Scope} {X : Cx} {s' : Stmt}, GoodS G sc X → mS G.N sc s s' = true → Ndst G s → PS X s' (tS G.C s)
  | .set i e, sc, X, s', g, m, n => by
    unfold mS at m
    split at m
    · rename_i x px e' pos
      obtain ⟨m1, m2, m3⟩ := and3 m
      have m1 := Bool.and_eq_true_iff.mp m1
      refine ss_set g (of_decide_eq_true m1.1) m1.2 (soE e g.toGood m2 n).1 ?_
      rcases Bool.or_eq_true_iff.mp m3 with z | z
      · exact sw_plain (mE_nice m2) z
      · refine sw_cell (mE_nice m2) fun q => ?_
        rw [g.scope] at q
        unfold isLoc at z
        rw [q] at z
        cases z
    · cases m
  | .setL i e, sc, X, s', g, m, n => by
    unfold mS at m
    split at m
    · rename_i x px elt gs scope p sp
      obtain ⟨m1, m2, m3⟩ := and3 m
      obtain ⟨m4, m5, m6⟩ := and3 m1
      cases e with
      | lc own tg it c e =>
        unfold mE at m6
        split at m6
        · rename_i elt' tgt iter ifs isa scope' p' q
          cases q
          obtain ⟨k1, k2, k3⟩ := and3 m6
          obtain ⟨k4, k5, k6⟩ := and3 k1
          obtain ⟨k7, k8, k9⟩ := and3 k4
          have := of_decide_eq_true k7
          subst this
          exact ss_setL g (of_decide_eq_true m4) m5 (g.blkOk (blkOk_by k8)) (fun i h => by simpa using (List.all_eq_true.mp k5) i h) (mI_nice k6) (soI it g.toGood k6 n.1) (fun X' g' => sg g' k9) (fun X' g' => soIf c g' k2 n.2.1) (fun X' g' => (soE e g' k3 n.2.2).1) m2 (by simpa using m3)
        · cases m6
      | _ =>
        unfold mE at m6
        first
          | (exact absurd m6 Bool.false_ne_true)
          | (split at m6 <;> first | (rename_i q; cases q; done) | cases m6)
    · cases m
  | .setT is e, sc, X, s', g, m, n => by
    unfold mS at m
    split at m
    · obtain ⟨m1, m2, m3⟩ := and3 m
      exact ss_setT g m1 (soE e g.toGood m2 n).1 (mE_nice m2) m3
    · cases m
  | .aug i op e, sc, X, s', g, m, n => by
    unfold mS at m
    split at m
    · obtain ⟨m1, m2, m3⟩ := and3 m
      have m1 := Bool.and_eq_true_iff.mp m1
      have := of_decide_eq_true m1.1
      subst this
      exact ss_aug g (of_decide_eq_true m1.2) m2 (soE e g.toGood m3 n).1
    · cases m
  | .app i e, sc, X, s', g, m, n => by
    unfold mS at m
    split at m
    · obtain ⟨m1, m2, m3⟩ := and3 m
      obtain ⟨m4, m5, m6⟩ := and3 m1
      have m4 := Bool.and_eq_true_iff.mp m4
      have := of_decide_eq_true m4.1
      subst this
      exact ss_app g (of_decide_eq_true m4.2) m5 m6 m2 (soE e g.toGood m3 n).1 (mE_nice m3)
    · cases m
  | .setX i k e, sc, X, s', g, m, n => by
    unfold mS at m
    split at m
    · obtain ⟨m1, m2, m3⟩ := and3 m
      obtain ⟨m4, m5, m6⟩ := and3 m1
      have m4 := Bool.and_eq_true_iff.mp m4
      exact ss_setX g (of_decide_eq_true m4.1) m4.2 m5 (soE e g.toGood m2 n.2).1 (soE k g.toGood m6 n.1).1 (mE_nice m2) m3 (mE_nice m6)
    · cases m
  | .pop i, sc, X, s', g, m, n => by
    unfold mS at m
    split at m
    · obtain ⟨m1, m2, m3⟩ := and3 m
      obtain ⟨m4, m5, m6⟩ := and3 m1
      have := of_decide_eq_true m4
      subst this
      exact ss_pop g (of_decide_eq_true m5) m6 m2 m3
    · cases m
  | .ret e, sc, X, s', g, m, n => by
    unfold mS at m
    split at m
    · exact ss_ret g (soE e g.toGood m n).1
    · cases m
  | .retO i, sc, X, s', g, m, n => by
    unfold mS at m
    split at m
    · obtain ⟨m1, m2, m3⟩ := and3 m
      exact ss_retO g (of_decide_eq_true m1) m2 m3
    · cases m
  | .retT es, sc, X, s', g, m, n => by
    unfold mS at m
    split at m
    · exact ss_retT g (sm_all g.toGood m n)
    · cases m
  | .poke i j e, sc, X, s', g, m, n => by
    unfold mS at m
    split at m
    · obtain ⟨m1, m2, m3⟩ := and3 m
      obtain ⟨m4, m5, m6⟩ := and3 m1
      obtain ⟨m7, m8, m9⟩ := and3 m4
      have := of_decide_eq_true m7
      subst this
      have := of_decide_eq_true m8
      subst this
      exact ss_poke g (of_decide_eq_true m9) m5 m6 m2 (soE e g.toGood m3 n).1 (mE_nice m3)
    · cases m
  | .pokeR i j, sc, X, s', g, m, n => by
    unfold mS at m
    split at m
    · obtain ⟨m1, m2, m3⟩ := and3 m
      obtain ⟨m4, m5, m6⟩ := and3 m1
      have m4 := Bool.and_eq_true_iff.mp m4
      have := of_decide_eq_true m4.1
      subst this
      have := of_decide_eq_true m4.2
      subst this
      exact ss_pokeR g (of_decide_eq_true m5) m6 m2 m3
    · cases m
  | .retN, sc, X, s', g, m, n => by
    unfold mS at m
    split at m
    · exact ss_retN g
    · cases m
  | .exp e, sc, X, s', g, m, n => by
    unfold mS at m
    split at m
    · have m := Bool.and_eq_true_iff.mp m
      exact ss_exp g (soE e g.toGood m.1 n).1 (mE_nice m.1) m.2
    · cases m
  | .ite c a b, sc, X, s', g, m, n => by
    unfold mS at m
    split at m
    · obtain ⟨m1, m2, m3⟩ := and3 m
      exact ss_ite (soE c g.toGood m1 n.1).2.1 (soSs a g m2 n.2.1) (soSs b g m3 n.2.2)
    · cases m
  | .for tg it b, sc, X, s', g, m, n => by
    unfold mS at m
    split at m
    · obtain ⟨m1, m2, m3⟩ := and3 m
      exact ss_for g (sg g.toGood m1) (soI it g.toGood m2 n.1) (mI_nice m2) (soSs b g m3 n.2)
    · cases m
  | .whl c b, sc, X, s', g, m, n => by
    unfold mS at m
    split at m
    · have m := Bool.and_eq_true_iff.mp m
      exact ss_whl g (soE c g.toGood m.1 n.1).2.1 (soSs b g m.2 n.2)
    · cases m
  | .brk, sc, X, s', g, m, n => by
    unfold mS at m
    split at m
    · exact ss_brk
    · cases m
  | .cnt, sc, X, s', g, m, n => by
    unfold mS at m
    split at m
    · exact ss_cnt
    · cases m
  | .pas, sc, X, s', g, m, n => by
    unfold mS at m
    split at m
    · exact ss_pas
    · cases m
  | .nev, sc, X, s', g, m, n => ss_nev
theorem soSs : ∀ (s : Ss) {sc : Scope} {X : Cx} {s' : List Stmt}, GoodS G sc X → mSs G.N sc s s' = true → Ndss G s → PSs X s' (tSs G.C s)
  | .nil, sc, X, [], g, m, n => sss_nil
  | .nil, sc, X, _ :: _, g, m, n => by unfold mSs at m; cases m
  | .cons s ss, sc, X, [], g, m, n => by unfold mSs at m; cases m
  | .cons s ss, sc, X, s' :: r, g, m, n => by
    unfold mSs at m
    have m := Bool.and_eq_true_iff.mp m
    exact sss_cons (soS s g m.1 n.1) (soSs ss g m.2 n.2)
  | .frz i ss, sc, X, s', g, m, n => by
    unfold mSs at m
    exact sss_frz (soSs ss g m n)
end
/-! ### a def's promise -/
def runD (n : Nat) (N : List Str) (body : Ss) (ds : List D) : Option T := match exs n body (ds.map (fun d => some (.sh d)) ++ List.replicate (N.length - ds.length) none) with
  | some (.rt t) => some t
  | some (.nx _) => some (.sh .non)
  | _ => none
theorem start_get {vs : List V} {N : List Str} {i : Nat} {v : V} (h : vs[i]? = some v) : (L2.start N vs)[i]? = some (some v) := by
  unfold L2.start
  rw [List.getElem?_append_left (by rw [List.length_map]; exact (List.getElem?_eq_some_iff.mp h).1), List.getElem?_map, h]; rfl
theorem rep_start {C : Cfg} {H : Hp} {B : Addr → Prop} {vs : List V} {ds : List D} {N : List Str} (b : ∀ a, B a → nTup H a) (h : Dats C (hid H B) vs ds) :
    Rep C H B no H (L2.start N vs) (ds.map (fun d => some (.sh d)) ++ List.replicate (N.length - ds.length) none) := by
  refine ⟨Same.refl H, b, (fun _ _ m => by cases m), (fun _ => List.nodup_nil), (fun _ _ _ m => by cases m), fun i t hi => ?_, by unfold L2.start; simp [h.length]⟩
  by_cases hl : i < ds.length
  · rw [List.getElem?_append_left (by rw [List.length_map]; exact hl), List.getElem?_map] at hi
    have hd : ds[i]? = some ds[i] := List.getElem?_eq_getElem hl
    rw [hd] at hi
    cases hi
    obtain ⟨v, h1, h2⟩ := h.getD hd
    exact ⟨v, start_get h1, by rw [ZZ_no]; exact .sh h2⟩
  · rw [List.getElem?_append_right (by rw [List.length_map]; omega)] at hi
    rw [List.getElem?_replicate] at hi
    split at hi <;> cases hi
/-- a def's body under the words' reckoning -/
theorem fn_body {P : Program} {w : World} {C : Cfg} {base : Heap} {qual : Str} {scope : Scope} {bd : List Stmt} {f : Addr} {N ps : List Str} {k : Nat} {body : Ss} {F : List D → Option T}
    (S : FnScope N ps scope) (hm : mSs N scope body bd = true) (nd : Ndss ⟨P, w, C, base, N, k⟩ body)
    (hF : ∀ ds t, F ds = some t → ds.length = ps.length ∧ ∃ n, runD n N body ds = some t) {cdv : Value} {A : Around} {outer : List Env} {s : Shared} {H : Hp} {vs : List V} {Q : VK} {E : XK}
    (hr : Room k (A.deeper (PyProof.Rows.envOfC qual scope s.heap.objs.size f cdv))) (h : pureSp C F vs H Q E) :
    ∃ t, PSs (cxOf CX0 P w C.K C.mg base N qual scope f cdv A outer s H E).nox bd t ∧ t { nx := fun _ H' => Q .non H', rt := Q } (L2.start N vs) H := by
  · have g : GoodS ⟨P, w, C, base, N, k⟩ scope (cxOf CX0 P w C.K C.mg base N qual scope f cdv A outer s H E).nox :=
      { prog := rfl, w := rfl, K := rfl, mg := rfl, base := rfl, N := rfl, nd := S.nd, calm := rfl, room := hr, kind := S.kind
        vis := fun x h => by
          unfold visB at h
          split at h
          · rename_i q; exact .inl q
          · rename_i q; exact .inr (.inl q)
          · rename_i q; exact .inr (.inr q)
          · cases h
        gl := fun x h => by
          unfold glB at h
          split at h
          · rename_i q; exact q
          · cases h
        loc := fun x h => by
          unfold locB at h
          split at h
          · rename_i q; exact ⟨.inl q, .inl rfl⟩
          · rename_i q; exact ⟨.inr q, .inl rfl⟩
          · cases h
        fr := fun x h => h
        scope := rfl
        pass := PassesOwn.never }
    refine ⟨_, soSs body g hm nd, ?_⟩
    obtain ⟨ds, t, Z, al, h1, h2, h3, h4, h5⟩ := h
    obtain ⟨hl, n, hrun⟩ := hF ds t h4
    -- with the hidden part, or with none
    have key : ∀ B : Addr → Prop, (∀ a, B a → nTup H a) → Dats C (hid H B) vs ds → (∀ As v H', Post C B H t true As v H' → Q v H') → tSs C body { nx := fun _ H' => Q .non H', rt := Q } (L2.start N vs) H := by
      intro B hB hd q
      have R := rep_start (N := N) hB hd
      unfold runD at hrun
      split at hrun
      · rename_i t' ht
        cases hrun
        exact ⟨H, B, no, _, n, _, R, ht, q⟩
      · rename_i ρ' ht
        cases hrun
        exact ⟨H, B, no, _, n, _, R, ht, fun σ' H' AA' R' _ => q [] .non H' (Post.sh' R'.same .non fun _ => .non)⟩
      · cases hrun
    cases al with
    | true => exact key Z h3 (h2 rfl) h5
    | false =>
      have n0 : hid H (fun _ => False) = H := by funext a; exact hid_out fun z => z
      refine key (fun _ => False) (fun _ z => z.elim) (by rw [n0]; exact h1) fun As v H' p => h5 As v H' ⟨p.same, p.nd, p.new, p.dat, fun z => by cases z⟩
/-- THE RULE for a def: its body is this text, and it reckons F -/
theorem fn_ok {P : Program} {w : World} {C : Cfg} {base : Heap} {x qual : Str} {st : Stmt} {f : Addr} {fd : FuncData} {N ps : List Str} {k : Nat} {body : Ss} {F : List D → Option T}
    (Fn : Fun C.K x qual st f fd) (S : FnScope N ps (defScope st)) (hm : mSs N (defScope st) body (defBody st) = true) (nd : Ndss ⟨P, w, C, base, N, k⟩ body)
    (hF : ∀ ds t, F ds = some t → ds.length = ps.length ∧ ∃ n, runD n N body ds = some t) : FnOk P w C.K C.mg base CX0 (k + 1) f fd ps (pureSp C F) := by
  refine Fn.ok S (fun vs H Q E h => ?_) fun cdv A outer s H vs Q E hr h => ?_
  · obtain ⟨ds, t, Z, al, h1, h2, h3, h4, h5⟩ := h
    rw [h1.length]; exact (hF ds t h4).1
  · exact fn_body S hm nd hF hr h
end Eng
/-! Eng Q: how the words reckon (rules for simp), loops by a word, defs with defaults. -/
namespace Eng
open PySem L2
@[simp] theorem dl_nil : dl [] = [] := rfl
@[simp] theorem dl_cons_some (t : T) (ρ : Rho) : dl (some t :: ρ) = some t.d :: dl ρ := rfl
@[simp] theorem dl_cons_none (ρ : Rho) : dl (none :: ρ) = none :: dl ρ := rfl
@[simp] theorem dl_cons (o : Option T) (ρ : Rho) : dl (o :: ρ) = o.map T.d :: dl ρ := rfl
@[simp] theorem sal_nil (o : Nat → Bool) : sal [] o = true := rfl
@[simp] theorem sal_cons (i : Nat) (is : List Nat) (o : Nat → Bool) : sal (i :: is) o = (!o i && sal is o) := rfl
@[simp] theorem ow_0 (t : T) (ρ : Rho) : ow (some t :: ρ) 0 = t.own := rfl
@[simp] theorem ow_0n (ρ : Rho) : ow (none :: ρ) 0 = false := rfl
@[simp] theorem ow_s (o : Option T) (ρ : Rho) (i : Nat) : ow (o :: ρ) (i + 1) = ow ρ i := by unfold ow; rw [List.getElem?_cons_succ]
@[simp] theorem add_int (i j : Int) : binD .Add [.int i, .int j] = some (.sh (.int (i + j))) := rfl
@[simp] theorem add_str (a b : List Nat) : binD .Add [.str a, .str b] = if a.length + b.length ≤ SZ then some (.sh (.str (a ++ b))) else none := by
  show orE _ _ _ = _
  unfold orE
  show (match (if a.length + b.length ≤ SZ then some (T.sh (.str (a ++ b))) else none : Option T) with | some t => some t | none => none) = _
  split <;> split <;> simp_all
@[simp] theorem add_lst (a b : List D) : binD .Add [.lst a, .lst b] = if a.length + b.length ≤ SZ then some (.lst ((a ++ b).map .sh)) else none := rfl
@[simp] theorem mul_r (i : Int) {j : Int} (h1 : -18446744073709551616 < j) (h2 : j < 18446744073709551616) : binD .Mult [.int i, .int j] = some (.sh (.int (i * j))) := by
  show orE _ _ _ = _
  unfold orE
  show (match (if (-(2 ^ 64) < i ∧ i < 2 ^ 64) ∨ (-(2 ^ 64) < j ∧ j < 2 ^ 64) then some (T.sh (.int (i * j))) else none : Option T) with | some t => some t | none => _) = _
  rw [if_pos (.inr ⟨by omega, by omega⟩)]
@[simp] theorem mul_l {i : Int} (j : Int) (h1 : -18446744073709551616 < i) (h2 : i < 18446744073709551616) : binD .Mult [.int i, .int j] = some (.sh (.int (i * j))) := by
  show orE _ _ _ = _
  unfold orE
  show (match (if (-(2 ^ 64) < i ∧ i < 2 ^ 64) ∨ (-(2 ^ 64) < j ∧ j < 2 ^ 64) then some (T.sh (.int (i * j))) else none : Option T) with | some t => some t | none => _) = _
  rw [if_pos (.inl ⟨by omega, by omega⟩)]
theorem mul_str (a : List Nat) {k : Int} (h1 : -9223372036854775808 < k) (h2 : k < 9223372036854775808) (h3 : a.length * k.toNat ≤ 16777216) : binD .Mult [.str a, .int k] = some (.sh (.str (mulStr a k))) := by
  show orE _ _ _ = _
  unfold orE
  show (match (if -(2 ^ 63) < k ∧ k < 2 ^ 63 ∧ a.length * k.toNat ≤ SZ then some (T.sh (.str (mulStr a k))) else none : Option T) with | some t => some t | none => _) = _
  rw [if_pos ⟨by omega, by omega, h3⟩]
theorem mul_lst (a : List D) {k : Int} (h1 : -9223372036854775808 ≤ k) (h2 : k < 9223372036854775808) (h3 : a.length * k.toNat ≤ 16777216) : binD .Mult [.lst a, .int k] = some (.lst ((List.replicate k.toNat a).flatten.map .sh)) := by
  show (if -(2 ^ 63) ≤ k ∧ k < 2 ^ 63 ∧ a.length * k.toNat ≤ SZ then some (T.lst ((List.replicate k.toNat a).flatten.map .sh)) else none) = _
  rw [if_pos ⟨by omega, by omega, h3⟩]
@[simp] theorem sub_int (i j : Int) : binD .Sub [.int i, .int j] = some (.sh (.int (i - j))) := rfl
@[simp] theorem mod_int (i j : Int) : binD .Mod [.int i, .int j] = if 0 < j then some (.sh (.int (i % j))) else none := rfl
@[simp] theorem fdiv_int (i j : Int) : binD .FloorDiv [.int i, .int j] = if 0 < j ∧ j < 1073741824 then some (.sh (.int (i / j))) else none := rfl
theorem nab1 : ((1 : Int).natAbs < 2 ^ 64) = True := eq_true (by decide +kernel)
theorem shl_1 (j : Int) : binD .LShift [.int 1, .int j] = if 0 ≤ j ∧ j ≤ 1000000 then some (.sh (.int (2 ^ j.toNat))) else none := by
  show (iff (0 ≤ j ∧ j ≤ 1000000 ∧ (1 : Int).natAbs < 2 ^ 64) (Eng.sc (.int (1 * 2 ^ j.toNat)))) = _
  unfold Eng.iff
  by_cases h : 0 ≤ j ∧ j ≤ 1000000
  · rw [if_pos h, if_pos ⟨h.1, h.2, of_eq_true nab1⟩, Int.one_mul]; rfl
  · rw [if_neg h, if_neg fun z => h ⟨z.1, z.2.1⟩]
theorem shr_int (i j : Int) : binD .RShift [.int i, .int j] = if 0 ≤ j then some (.sh (.int (i / 2 ^ j.toNat))) else none := rfl
@[simp] theorem band_int (i j : Int) : binD .BitAnd [.int i, .int j] = some (.sh (.int (Builtin.bitAnd i j))) := rfl
@[simp] theorem bor_int (i j : Int) : binD .BitOr [.int i, .int j] = some (.sh (.int (Builtin.bitOr i j))) := rfl
@[simp] theorem aug_add_int (i j : Int) : augD .Add [.int i, .int j] = some (.sh (.int (i + j))) := rfl
@[simp] theorem aug_add_str (a b : List Nat) : augD .Add [.str a, .str b] = if a.length + b.length ≤ SZ then some (.sh (.str (a ++ b))) else none := rfl
@[simp] theorem aug_sub_int (i j : Int) : augD .Sub [.int i, .int j] = some (.sh (.int (i - j))) := rfl
@[simp] theorem aug_or_int (i j : Int) : augD .BitOr [.int i, .int j] = some (.sh (.int (Builtin.bitOr i j))) := rfl
def negK (d : D) : Option T := i1 (fun i => Eng.sc (.int (-i))) [d]
@[simp] theorem negK_int (i : Int) : negK (.int i) = some (.sh (.int (-i))) := rfl
/-! ### comparisons, truths -/
theorem eqD_int (i j : Int) : eqD (.int i) (.int j) = some (decide (i = j)) := by
  have : eqD (.int i) (.int j) = some (i == j) := by simp [eqD, toPy, SeqAt.shaped, PyData.canLay0, PyData.depth, PyData.eqv]
  rw [this]; exact congrArg some (Bool.eq_iff_iff.mpr (by simp))
theorem eqD_bl (i j : Bool) : eqD (.bl i) (.bl j) = some (decide (i = j)) := by
  have : eqD (.bl i) (.bl j) = some (i == j) := by simp [eqD, toPy, SeqAt.shaped, PyData.canLay0, PyData.depth, PyData.eqv]
  rw [this]; exact congrArg some (Bool.eq_iff_iff.mpr (by simp))
def eqO (o : Option Bool) : Option T := o.map fun r => .sh (.bl r)
def neO (o : Option Bool) : Option T := o.map fun r => .sh (.bl (!r))
@[simp] theorem eq_str (a b : List Nat) : cmpD .Eq [.str a, .str b] = some (.sh (.bl (decide (a = b)))) := rfl
@[simp] theorem ne_str (a b : List Nat) : cmpD .NotEq [.str a, .str b] = some (.sh (.bl (!decide (a = b)))) := rfl
@[simp] theorem eq_int (i j : Int) : cmpD .Eq [.int i, .int j] = some (.sh (.bl (decide (i = j)))) := by
  show eqO (eqD (.int i) (.int j)) = _
  rw [eqD_int]; rfl
@[simp] theorem ne_int (i j : Int) : cmpD .NotEq [.int i, .int j] = some (.sh (.bl (!decide (i = j)))) := by
  show neO (eqD (.int i) (.int j)) = _
  rw [eqD_int]; rfl
@[simp] theorem eq_bl (i j : Bool) : cmpD .Eq [.bl i, .bl j] = some (.sh (.bl (decide (i = j)))) := by
  show eqO (eqD (.bl i) (.bl j)) = _
  rw [eqD_bl]; rfl
@[simp] theorem ne_bl (i j : Bool) : cmpD .NotEq [.bl i, .bl j] = some (.sh (.bl (!decide (i = j)))) := by
  show neO (eqD (.bl i) (.bl j)) = _
  rw [eqD_bl]; rfl
@[simp] theorem eqO_some (b : Bool) : eqO (some b) = some (.sh (.bl b)) := rfl
@[simp] theorem neO_some (b : Bool) : neO (some b) = some (.sh (.bl (!b))) := rfl
@[simp] theorem eq_lst (a : List D) (b : D) : cmpD .Eq [.lst a, b] = eqO (eqD (.lst a) b) := rfl
@[simp] theorem ne_lst (a : List D) (b : D) : cmpD .NotEq [.lst a, b] = neO (eqD (.lst a) b) := rfl
@[simp] theorem eq_tup (a : List D) (b : D) : cmpD .Eq [.tup a, b] = eqO (eqD (.tup a) b) := rfl
@[simp] theorem ne_tup (a : List D) (b : D) : cmpD .NotEq [.tup a, b] = neO (eqD (.tup a) b) := rfl
@[simp] theorem eq_non (b : D) : cmpD .Eq [.non, b] = eqO (eqD .non b) := rfl
@[simp] theorem ne_non (b : D) : cmpD .NotEq [.non, b] = neO (eqD .non b) := rfl
@[simp] theorem eq_strnon (a : List Nat) : cmpD .Eq [.str a, .non] = eqO (eqD (.str a) .non) := rfl
@[simp] theorem ne_strnon (a : List Nat) : cmpD .NotEq [.str a, .non] = neO (eqD (.str a) .non) := rfl
@[simp] theorem lt_int (i j : Int) : cmpD .Lt [.int i, .int j] = some (.sh (.bl (decide (i < j)))) := rfl
@[simp] theorem le_int (i j : Int) : cmpD .LtE [.int i, .int j] = some (.sh (.bl (decide (i ≤ j)))) := rfl
@[simp] theorem gt_int (i j : Int) : cmpD .Gt [.int i, .int j] = some (.sh (.bl (decide (j < i)))) := rfl
@[simp] theorem ge_int (i j : Int) : cmpD .GtE [.int i, .int j] = some (.sh (.bl (decide (j ≤ i)))) := rfl
@[simp] theorem in_str (a b : List Nat) : cmpD .In [.str a, .str b] = some (.sh (.bl (subOf a b))) := rfl
@[simp] theorem nin_str (a b : List Nat) : cmpD .NotIn [.str a, .str b] = some (.sh (.bl (!subOf a b))) := rfl
theorem in_lst {x : D} {ys : List D} (h1 : flatD x = true) (h2 : ys.all flatD = true) : cmpD .In [x, .lst ys] = some (.sh (.bl (inF x ys))) := by
  have : cmpD .In [x, .lst ys] = Eng.iff (flatD x = true ∧ ys.all flatD = true) (some (.sh (.bl (inF x ys)))) := by cases x <;> rfl
  rw [this]; unfold Eng.iff; rw [if_pos ⟨h1, h2⟩]
theorem nin_lst {x : D} {ys : List D} (h1 : flatD x = true) (h2 : ys.all flatD = true) : cmpD .NotIn [x, .lst ys] = some (.sh (.bl (!inF x ys))) := by
  have : cmpD .NotIn [x, .lst ys] = Eng.iff (flatD x = true ∧ ys.all flatD = true) (some (.sh (.bl (!inF x ys)))) := by cases x <;> rfl
  rw [this]; unfold Eng.iff; rw [if_pos ⟨h1, h2⟩]
theorem in_tup {x : D} {ys : List D} (h1 : flatD x = true) (h2 : ys.all flatD = true) : cmpD .In [x, .tup ys] = some (.sh (.bl (inF x ys))) := by
  have : cmpD .In [x, .tup ys] = Eng.iff (flatD x = true ∧ ys.all flatD = true) (some (.sh (.bl (inF x ys)))) := by cases x <;> rfl
  rw [this]; unfold Eng.iff; rw [if_pos ⟨h1, h2⟩]
@[simp] theorem is_bl (a b : Bool) : cmpD .Is [.bl a, .bl b] = some (.sh (.bl (decide (a = b)))) := rfl
@[simp] theorem isnot_bl (a b : Bool) : cmpD .IsNot [.bl a, .bl b] = some (.sh (.bl (!decide (a = b)))) := rfl
@[simp] theorem is_non (a : D) : cmpD .Is [a, .non] = some (.sh (.bl (isN a))) := by cases a <;> rfl
@[simp] theorem isnot_non (a : D) : cmpD .IsNot [a, .non] = some (.sh (.bl (!isN a))) := by cases a <;> rfl
@[simp] theorem blD_bl (b : Bool) : blD (.bl b) = some b := rfl
@[simp] theorem tru_non : truD .non = some false := rfl
@[simp] theorem tru_bl (b : Bool) : truD (.bl b) = some b := rfl
@[simp] theorem tru_int (i : Int) : truD (.int i) = some (i != 0) := rfl
@[simp] theorem tru_str (s : List Nat) : truD (.str s) = if s.length ≤ SZ then some (s.length != 0) else none := by
  show (if s.length ≤ SZ then _ else none) = _
  split
  · congr 1; exact Bool.eq_iff_iff.mpr (by simp)
  · rfl
@[simp] theorem tru_lst (s : List D) : truD (.lst s) = some !s.isEmpty := rfl
@[simp] theorem tru_tup (s : List D) : truD (.tup s) = some !s.isEmpty := rfl
@[simp] theorem ty_non : tyD .non = some "NoneType" := rfl
@[simp] theorem ty_bl (b : Bool) : tyD (.bl b) = some "bool" := rfl
@[simp] theorem ty_int (b : Int) : tyD (.int b) = some "int" := rfl
@[simp] theorem ty_str (b : List Nat) : tyD (.str b) = some "str" := rfl
@[simp] theorem ty_lst (b : List D) : tyD (.lst b) = some "list" := rfl
@[simp] theorem ty_tup (b : List D) : tyD (.tup b) = some "tuple" := rfl
@[simp] theorem it_lst (b : List D) : itemsD (.lst b) = some b := rfl
@[simp] theorem it_tup (b : List D) : itemsD (.tup b) = some b := rfl
@[simp] theorem it_scr (b : List Int) : itemsD (.scr b) = some (b.map .int) := rfl
@[simp] theorem it_str (b : List Nat) : itemsD (.str b) = some (b.map fun c => .str [c]) := rfl
@[simp] theorem enm_lst (ys : List D) : enmD (.lst ys) = some (ys.mapIdx fun i y => .tup [.int i, y]) := rfl
@[simp] theorem enm_str (s : List Nat) : enmD (.str s) = some (s.mapIdx fun i c => .tup [.int i, .str [c]]) := rfl
@[simp] theorem zip_ls (xs : List D) (s : List Nat) : zipD (.lst xs) (.str s) = some (List.zipWith (fun x c => .tup [x, .str [c]]) xs s) := rfl
@[simp] theorem zip_lst (xs ys : List D) : zipD (.lst xs) (.lst ys) = some (List.zipWith (fun x y => .tup [x, y]) xs ys) := rfl
/-- Option.bind and Option.map under names that the kernel need not unfold -/
def _root_.Option.ob {α β : Type} (o : Option α) (f : α → Option β) : Option β := o.bind f
def _root_.Option.om {α β : Type} (o : Option α) (f : α → β) : Option β := o.map f
@[simp] theorem ob_some {α β : Type} (a : α) (f : α → Option β) : (some a).ob f = f a := by unfold Option.ob; exact Option.bind_some ..
@[simp] theorem ob_none {α β : Type} (f : α → Option β) : (none : Option α).ob f = none := by unfold Option.ob; exact Option.bind_none ..
@[simp] theorem om_some {α β : Type} (a : α) (f : α → β) : (some a).om f = some (f a) := by unfold Option.om; exact Option.map_some ..
@[simp] theorem om_none {α β : Type} (f : α → β) : (none : Option α).om f = none := by unfold Option.om; exact Option.map_none ..
/-! ### expressions, form by form -/
section
variable (δ : Dl)
@[simp] theorem ev_var (i : Nat) : ev (.var i) δ = match δ[i]? with | some (some d) => some (.sh d) | _ => none := by unfold ev; rfl
@[simp] theorem ev_cst (d : D) : ev (.cst d) δ = some (.sh d) := by unfold ev; rfl
@[simp] theorem ev_glb (x : Str) (d : D) : ev (.glb x d) δ = some (.sh d) := by unfold ev; rfl
@[simp] theorem ev_bin (op : Operator) (a b : E) : ev (.bin op a b) δ = (ev a δ).ob fun x => (ev b δ).ob fun y => binD op [x.d, y.d] := by
  conv => lhs; unfold ev
  all_goals rfl
@[simp] theorem ev_neg (a : E) : ev (.neg a) δ = (ev a δ).ob fun x => negK x.d := by
  conv => lhs; unfold ev
  all_goals rfl
@[simp] theorem ev_cmp (op : CmpOp) (a b : E) : ev (.cmp op a b) δ = (ev a δ).ob fun x => (ev b δ).ob fun y => cmpD op [x.d, y.d] := by
  conv => lhs; unfold ev
  all_goals rfl
@[simp] theorem ev_chn (o1 o2 : CmpOp) (a b c : E) : ev (.chn o1 o2 a b c) δ = (ev a δ).ob fun x => (ev b δ).ob fun y => (cmpD o1 [x.d, y.d]).ob fun r => (blD r.d).ob fun k => if k then (ev c δ).ob fun z => cmpD o2 [y.d, z.d] else Eng.sc (.bl false) := by
  conv => lhs; unfold ev
  all_goals rfl
def andK (b : E) (δ : Dl) (k : Bool) : Option T := if k then (ev b δ).ob fun y => (blD y.d).ob fun k' => Eng.sc (.bl k') else Eng.sc (.bl false)
def orK (b : E) (δ : Dl) (k : Bool) : Option T := if k then Eng.sc (.bl true) else (ev b δ).ob fun y => (blD y.d).ob fun k' => Eng.sc (.bl k')
@[simp] theorem ev_and (a b : E) : ev (.and a b) δ = (ev a δ).ob fun x => (blD x.d).ob (andK b δ) := by
  conv => lhs; unfold ev
  all_goals rfl
@[simp] theorem ev_or (a b : E) : ev (.or a b) δ = (ev a δ).ob fun x => (blD x.d).ob (orK b δ) := by
  conv => lhs; unfold ev
  all_goals rfl
@[simp] theorem andK_f (b : E) : andK b δ false = some (.sh (.bl false)) := rfl
@[simp] theorem andK_t (b : E) : andK b δ true = (ev b δ).ob fun y => (blD y.d).ob fun k' => Eng.sc (.bl k') := rfl
@[simp] theorem orK_t (b : E) : orK b δ true = some (.sh (.bl true)) := rfl
@[simp] theorem orK_f (b : E) : orK b δ false = (ev b δ).ob fun y => (blD y.d).ob fun k' => Eng.sc (.bl k') := rfl
@[simp] theorem ev_one (a : E) : ev (.one a) δ = ev a δ := by
  conv => lhs; unfold ev
  all_goals rfl
@[simp] theorem ev_not (a : E) : ev (.not a) δ = (ev a δ).ob fun x => (blD x.d).ob fun k => Eng.sc (.bl (!k)) := by
  conv => lhs; unfold ev
  all_goals rfl
def ifK (a b : E) (δ : Dl) (k : Bool) : Option T := if k then ev a δ else ev b δ
@[simp] theorem ev_ife (c a b : E) : ev (.ife c a b) δ = (tst c δ).ob (ifK a b δ) := by
  conv => lhs; unfold ev
  all_goals rfl
@[simp] theorem ifK_t (a b : E) : ifK a b δ true = ev a δ := rfl
@[simp] theorem ifK_f (a b : E) : ifK a b δ false = ev b δ := rfl
@[simp] theorem ev_tup (es : Es) : ev (.tup es) δ = (evs es δ).ob fun ts => if ts.length ≤ SZ then some (.tup ts) else none := by
  conv => lhs; unfold ev
  all_goals rfl
@[simp] theorem ev_lst (es : Es) : ev (.lst es) δ = (evs es δ).ob fun ts => if ts.length ≤ SZ then some (.lst ts) else none := by
  conv => lhs; unfold ev
  all_goals rfl
@[simp] theorem ev_idx (a b : E) : ev (.idx a b) δ = (ev a δ).ob fun x => (ev b δ).ob fun y => idxD [x.d, y.d] := by
  conv => lhs; unfold ev
  all_goals rfl
@[simp] theorem ev_slc (a : E) (lo hi : Eo) : ev (.slc a lo hi) δ = (ev a δ).ob fun x => (evo lo δ).ob fun l => (evo hi δ).ob fun h => slcD l h [x.d] := by
  conv => lhs; unfold ev
  all_goals rfl
@[simp] theorem ev_fld (a : E) (f : Str) (cs : List Str) : ev (.fld a f cs) δ = (ev a δ).ob fun x => fldD f cs x.d := by
  conv => lhs; unfold ev
  all_goals rfl
@[simp] theorem ev_cal (f : Str) (F : List D → Option T) (dds : List D) (es : Es) : ev (.cal f F dds es) δ = (evs es δ).ob fun ts => F (T.ds ts ++ dds) := by
  conv => lhs; unfold ev
  all_goals rfl
@[simp] theorem ev_bi (b : Bi) (es : Es) : ev (.bi b es) δ = (evs es δ).ob fun ts => biD b (T.ds ts) := by
  conv => lhs; unfold ev
  all_goals rfl
@[simp] theorem ev_mth (m : Mt) (a : E) (es : Es) : ev (.mth m a es) δ = (ev a δ).ob fun x => (evs es δ).ob fun ts => mtD m (x.d :: T.ds ts) := by
  conv => lhs; unfold ev
  all_goals rfl
@[simp] theorem ev_isi (a : E) (x : Str) (t : String) : ev (.isi a x t) δ = (ev a δ).ob fun x => (tyD x.d).ob fun s => (kitB s t).ob fun k => Eng.sc (.bl k) := by
  conv => lhs; unfold ev
  all_goals rfl
/-- one turn of a comprehension -/
def lcF (vs : List Nat) (tg : Tg) (c : Eo) (e : E) (δ : Dl) (d : D) : Option (Option T) := (asgD tg d (wipeD δ vs)).ob fun δ' => (tsto c δ').ob fun k => if k then (ev e δ').om some else some none
def lcK (vs : List Nat) (tg : Tg) (c : Eo) (e : E) (δ : Dl) (ds : List D) : Option T := if ds.length ≤ SZ then (lcGo (lcF vs tg c e δ) ds).om .lst else none
@[simp] theorem ev_lc (own : List (Str × Nat)) (tg : Tg) (it : I) (c : Eo) (e : E) : ev (.lc own tg it c e) δ = (evi it δ).ob (lcK (own.map (·.2)) tg c e δ) := by
  conv => lhs; unfold ev
  all_goals rfl
theorem lcK_map {vs : List Nat} {tg : Tg} {c : Eo} {e : E} {α : Type} {g : α → D} {k : α → T} {xs : List α} (hl : xs.length ≤ SZ) (h : ∀ x, x ∈ xs → lcF vs tg c e δ (g x) = some (some (k x))) : lcK vs tg c e δ (xs.map g) = some (.lst (xs.map k)) := by
  have key : ∀ ys : List α, (∀ x, x ∈ ys → lcF vs tg c e δ (g x) = some (some (k x))) → lcGo (lcF vs tg c e δ) (ys.map g) = some (ys.map k) := by
    intro ys
    induction ys with
    | nil => intro _; rfl
    | cons y ys ih => intro h; rw [List.map_cons, lcGo, h y (List.mem_cons_self ..), ih fun z m => h z (List.mem_cons_of_mem _ m)]; rfl
  unfold lcK
  rw [if_pos (by rw [List.length_map]; exact hl), key xs h]; rfl
theorem lcK_filter {vs : List Nat} {tg : Tg} {c : Eo} {e : E} {α : Type} {g : α → D} {k : α → T} {p : α → Bool} {xs : List α} (hl : xs.length ≤ SZ) (h : ∀ x, x ∈ xs → lcF vs tg c e δ (g x) = some (if p x then some (k x) else none)) :
    lcK vs tg c e δ (xs.map g) = some (.lst ((xs.filter p).map k)) := by
  have key : ∀ ys : List α, (∀ x, x ∈ ys → lcF vs tg c e δ (g x) = some (if p x then some (k x) else none)) → lcGo (lcF vs tg c e δ) (ys.map g) = some ((ys.filter p).map k) := by
    intro ys
    induction ys with
    | nil => intro _; rfl
    | cons y ys ih =>
      intro h
      rw [List.map_cons, lcGo, h y (List.mem_cons_self ..), ih fun z m => h z (List.mem_cons_of_mem _ m)]
      cases q : p y <;> simp [q]
  unfold lcK
  rw [if_pos (by rw [List.length_map]; exact hl), key xs h]; rfl
def tandK (b : E) (δ : Dl) (k : Bool) : Option Bool := if k then tst b δ else some false
def torK (b : E) (δ : Dl) (k : Bool) : Option Bool := if k then some true else tst b δ
@[simp] theorem tst_and (a b : E) : tst (.and a b) δ = (tst a δ).ob (tandK b δ) := by
  conv => lhs; unfold tst
  all_goals rfl
@[simp] theorem tst_or (a b : E) : tst (.or a b) δ = (tst a δ).ob (torK b δ) := by
  conv => lhs; unfold tst
  all_goals rfl
@[simp] theorem tandK_t (b : E) : tandK b δ true = tst b δ := rfl
@[simp] theorem tandK_f (b : E) : tandK b δ false = some false := rfl
@[simp] theorem torK_t (b : E) : torK b δ true = some true := rfl
@[simp] theorem torK_f (b : E) : torK b δ false = tst b δ := rfl
@[simp] theorem tst_one (a : E) : tst (.one a) δ = tst a δ := by
  conv => lhs; unfold tst
  all_goals rfl
@[simp] theorem tst_not (a : E) : tst (.not a) δ = (tst a δ).om fun k => !k := by
  conv => lhs; unfold tst
  all_goals rfl
@[simp] theorem tst_cmp (op : CmpOp) (a b : E) : tst (.cmp op a b) δ = (ev a δ).ob fun x => (ev b δ).ob fun y => (cmpD op [x.d, y.d]).ob fun r => blD r.d := by
  conv => lhs; unfold tst
  all_goals rfl
@[simp] theorem tst_chn (o1 o2 : CmpOp) (a b c : E) : tst (.chn o1 o2 a b c) δ = (ev a δ).ob fun x => (ev b δ).ob fun y => (cmpD o1 [x.d, y.d]).ob fun r => (blD r.d).ob fun k => if k then (ev c δ).ob fun z => (cmpD o2 [y.d, z.d]).ob fun r => blD r.d else some false := by
  conv => lhs; unfold tst
  all_goals rfl
@[simp] theorem tst_var (i : Nat) : tst (.var i) δ = match δ[i]? with | some (some d) => truD d | _ => none := by unfold tst; rfl
@[simp] theorem tst_cst (d : D) : tst (.cst d) δ = truD d := by unfold tst; rfl
@[simp] theorem tst_idx (a b : E) : tst (.idx a b) δ = (ev a δ).ob fun x => (ev b δ).ob fun y => (idxD [x.d, y.d]).ob fun r => truD r.d := by
  conv => lhs; unfold tst
  all_goals rfl
@[simp] theorem tst_fld (a : E) (f : Str) (cs : List Str) : tst (.fld a f cs) δ = (ev a δ).ob fun x => (fldD f cs x.d).ob fun r => truD r.d := by
  conv => lhs; unfold tst
  all_goals rfl
@[simp] theorem tst_cal (f : Str) (F : List D → Option T) (dds : List D) (es : Es) : tst (.cal f F dds es) δ = (evs es δ).ob fun ts => (F (T.ds ts ++ dds)).ob fun r => truD r.d := by
  conv => lhs; unfold tst
  all_goals rfl
@[simp] theorem tst_bi (b : Bi) (es : Es) : tst (.bi b es) δ = (evs es δ).ob fun ts => (biD b (T.ds ts)).ob fun r => truD r.d := by
  conv => lhs; unfold tst
  all_goals rfl
@[simp] theorem tst_mth (m : Mt) (a : E) (es : Es) : tst (.mth m a es) δ = (ev a δ).ob fun x => (evs es δ).ob fun ts => (mtD m (x.d :: T.ds ts)).ob fun r => truD r.d := by
  conv => lhs; unfold tst
  all_goals rfl
@[simp] theorem tst_isi (a : E) (x : Str) (t : String) : tst (.isi a x t) δ = (ev a δ).ob fun x => (tyD x.d).ob fun s => kitB s t := by
  conv => lhs; unfold tst
  all_goals rfl
end
section
variable (δ : Dl)
@[simp] theorem evs_nil : evs .nil δ = some [] := by unfold evs; rfl
@[simp] theorem evs_cons (e : E) (es : Es) : evs (.cons e es) δ = (ev e δ).ob fun t => (evs es δ).om fun ts => t :: ts := by
  conv => lhs; unfold evs
  all_goals rfl
def ioK : D → Option (Option Int)
  | .int i => some (some i)
  | _ => none
@[simp] theorem ioK_int (i : Int) : ioK (.int i) = some (some i) := rfl
@[simp] theorem evo_non : evo .non δ = some none := by unfold evo; rfl
@[simp] theorem evo_som (e : E) : evo (.som e) δ = (ev e δ).ob fun t => ioK t.d := by
  conv => lhs; unfold evo
  all_goals rfl
def rgK : D → Option (List D)
  | .int n => rngD 0 n
  | _ => none
def rgK2 : D → D → Option (List D)
  | .int l, .int n => rngD l n
  | _, _ => none
@[simp] theorem rgK_int (n : Int) : rgK (.int n) = rngD 0 n := rfl
@[simp] theorem rgK2_int (l n : Int) : rgK2 (.int l) (.int n) = rngD l n := rfl
@[simp] theorem evi_seq (e : E) : evi (.seq e) δ = (ev e δ).ob fun t => itemsD t.d := by
  conv => lhs; unfold evi
  all_goals rfl
@[simp] theorem evi_rng1 (e : E) : evi (.rng1 e) δ = (ev e δ).ob fun t => rgK t.d := by
  conv => lhs; unfold evi
  all_goals rfl
@[simp] theorem evi_rng2 (a b : E) : evi (.rng2 a b) δ = (ev a δ).ob fun t => (ev b δ).ob fun u => rgK2 t.d u.d := by
  conv => lhs; unfold evi
  all_goals rfl
@[simp] theorem rgdK_m1 (l n : Int) : rgdK (.int l) (.int n) (.int (-1)) = rgdD l n := rfl
@[simp] theorem evi_rngd (a b c : E) : evi (.rngd a b c) δ = (ev a δ).ob fun t => (ev b δ).ob fun u => (ev c δ).ob fun v => rgdK t.d u.d v.d := by
  conv => lhs; unfold evi
  all_goals rfl
@[simp] theorem evi_enm (e : E) : evi (.enm e) δ = (ev e δ).ob fun t => enmD t.d := by
  conv => lhs; unfold evi
  all_goals rfl
@[simp] theorem evi_zip (a b : E) : evi (.zip a b) δ = (ev a δ).ob fun t => (ev b δ).ob fun u => zipD t.d u.d := by
  conv => lhs; unfold evi
  all_goals rfl
end
def stK (s : Bool) (t : T) : Option T := if s then some t.nf else if noL t.d then some (.sh t.d) else none
@[simp] theorem stK_t (t : T) : stK true t = some t.nf := rfl
@[simp] theorem stK_f (t : T) : stK false t = if noL t.d then some (.sh t.d) else none := rfl
@[simp] theorem stT_eq (e : E) (ρ : Rho) : stT e ρ = (ev e (dl ρ)).ob (stK (sal (avs e) (ow ρ))) := by
  conv => lhs; unfold stT
  all_goals rfl
/-! ### statements, form by form -/
section
variable (n : Nat) (ρ : Rho)
/-- what follows a statement -/
def cont (n : Nat) (ss : Ss) : Out → Option Out
  | .nx ρ' => exs n ss ρ'
  | .rt t => some (.rt t)
  | .bk ρ' => some (.bk ρ')
  | .ct ρ' => some (.ct ρ')
def iteK (n : Nat) (a b : Ss) (ρ : Rho) (k : Bool) : Option Out := if k then exs n a ρ else exs n b ρ
def forK (n : Nat) (tg : Tg) (b : Ss) (ρ : Rho) (s : Bool) (ds : List D) : Option Out := if s then forGo (asgR tg) (exs n b) ds ρ else none
@[simp] theorem exs_nil : exs n .nil ρ = some (.nx ρ) := by unfold exs; rfl
@[simp] theorem exs_frz (i : Nat) (ss : Ss) : exs n (.frz i ss) ρ = exs n ss (frz1 i ρ) := by
  conv => lhs; unfold exs
  all_goals rfl
@[simp] theorem exs_cons (s : S) (ss : Ss) : exs n (.cons s ss) ρ = (ex n s ρ).ob (cont n ss) := by
  conv => lhs; unfold exs
  cases h : ex n s ρ with
  | none => rfl
  | some o => cases o <;> rfl
@[simp] theorem cont_nx (ss : Ss) : cont n ss (.nx ρ) = exs n ss ρ := rfl
@[simp] theorem cont_rt (ss : Ss) (t : T) : cont n ss (.rt t) = some (.rt t) := rfl
@[simp] theorem cont_bk (ss : Ss) : cont n ss (.bk ρ) = some (.bk ρ) := rfl
@[simp] theorem cont_ct (ss : Ss) : cont n ss (.ct ρ) = some (.ct ρ) := rfl
@[simp] theorem ex_ite (c : E) (a b : Ss) : ex n (.ite c a b) ρ = (tst c (dl ρ)).ob (iteK n a b ρ) := by
  conv => lhs; unfold ex
  all_goals rfl
@[simp] theorem iteK_t (a b : Ss) : iteK n a b ρ true = exs n a ρ := rfl
@[simp] theorem iteK_f (a b : Ss) : iteK n a b ρ false = exs n b ρ := rfl
@[simp] theorem ex_set (i : Nat) (e : E) : ex n (.set i e) ρ = (stT e ρ).om fun t => .nx (ρ.set i (some t)) := by
  conv => lhs; unfold ex
  all_goals rfl
@[simp] theorem ex_setL (i : Nat) (e : E) : ex n (.setL i e) ρ = (stT e ρ).om fun t => .nx (ρ.set i (some t)) := by
  conv => lhs; unfold ex
  all_goals rfl
@[simp] theorem ex_setT (is : List Nat) (e : E) : ex n (.setT is e) ρ = (ev e (dl ρ)).ob fun t => if sal (avs e) (ow ρ) || noL t.d then (asgR (.tp is) t.d ρ).om .nx else none := by
  conv => lhs; unfold ex
  all_goals rfl
def augK (op : Operator) (e : E) (i : Nat) (ρ : Rho) : Option (Option D) → Option Out
  | some (some d) => (ev e (dl ρ)).ob fun t => (augD op [d, t.d]).om fun u => .nx (ρ.set i (some (.sh u.d)))
  | _ => none
@[simp] theorem augK_some (op : Operator) (e : E) (i : Nat) (d : D) : augK op e i ρ (some (some d)) = (ev e (dl ρ)).ob fun t => (augD op [d, t.d]).om fun u => .nx (ρ.set i (some (.sh u.d))) := rfl
@[simp] theorem ex_aug (i : Nat) (op : Operator) (e : E) : ex n (.aug i op e) ρ = augK op e i ρ (dl ρ)[i]? := by
  conv => lhs; unfold ex
  all_goals rfl
def sxK (ρ : Rho) (i : Nat) (ts : List T) (t : T) : D → Option Out
  | .int j => (ixN ts.length j).ob fun m => if t.own then none else some (.nx (ρ.set i (some (.lst (ts.set m t)))))
  | _ => none
@[simp] theorem sxK_int (i : Nat) (ts : List T) (t : T) (j : Int) : sxK ρ i ts t (.int j) = (ixN ts.length j).ob fun m => if t.own then none else some (.nx (ρ.set i (some (.lst (ts.set m t))))) := rfl
@[simp] theorem ex_app (i : Nat) (e : E) : ex n (.app i e) ρ = (lstAt ρ i).ob fun ts => (stT e ρ).ob fun t => if ts.length < SZ then some (.nx (ρ.set i (some (.lst (ts ++ [t]))))) else none := by
  conv => lhs; unfold ex
  all_goals rfl
@[simp] theorem ex_setX (i : Nat) (k e : E) : ex n (.setX i k e) ρ = (lstAt ρ i).ob fun ts => (stT e ρ).ob fun t => (ev k (dl ρ)).ob fun x => sxK ρ i ts t x.d := by
  conv => lhs; unfold ex
  all_goals rfl
@[simp] theorem ex_pop (i : Nat) : ex n (.pop i) ρ = (lstAt ρ i).ob fun ts => match ts.getLast? with | some t => if t.own then none else some (.nx (ρ.set i (some (.lst ts.dropLast)))) | none => none := by
  conv => lhs; unfold ex
  all_goals rfl
@[simp] theorem ex_ret (e : E) : ex n (.ret e) ρ = (ev e (dl ρ)).om .rt := by
  conv => lhs; unfold ex
  all_goals rfl
@[simp] theorem ex_retO (i : Nat) : ex n (.retO i) ρ = match ρ[i]? with | some (some t) => some (.rt t) | _ => none := by
  conv => lhs; unfold ex
  all_goals rfl
@[simp] theorem ex_retN : ex n .retN ρ = some (.rt (.sh .non)) := by unfold ex; rfl
@[simp] theorem ex_retT (es : Es) : ex n (.retT es) ρ = if (mvs es).Nodup then (evM es ρ).ob fun ts => if ts.length ≤ SZ then some (.rt (T.tup ts).nf) else none else none := by
  conv => lhs; unfold ex
  all_goals rfl
@[simp] theorem ex_poke (i j : Nat) (e : E) : ex n (.poke i j e) ρ = (tupAt ρ i j).ob fun us => (stT e ρ).ob fun t => if us.length < SZ ∧ T.owns us = false ∧ t.own = false then some (.nx (tupPut ρ i j (us ++ [t]))) else none := by
  conv => lhs; unfold ex
  all_goals rfl
@[simp] theorem ex_pokeR (i j : Nat) : ex n (.pokeR i j) ρ = (tupAt ρ i j).ob fun us => if T.owns us = false then some (.nx (tupPut ρ i j us.reverse)) else none := by
  conv => lhs; unfold ex
  all_goals rfl
@[simp] theorem ex_exp (e : E) : ex n (.exp e) ρ = (ev e (dl ρ)).om fun _ => .nx ρ := by
  conv => lhs; unfold ex
  all_goals rfl
@[simp] theorem ex_for (tg : Tg) (it : I) (b : Ss) : ex n (.for tg it b) ρ = (evi it (dl ρ)).ob (forK n tg b ρ (sal (avi it) (ow ρ))) := by
  conv => lhs; unfold ex
  all_goals rfl
@[simp] theorem forK_t (tg : Tg) (b : Ss) (ds : List D) : forK n tg b ρ true ds = forGo (asgR tg) (exs n b) ds ρ := rfl
@[simp] theorem ex_whl (c : E) (b : Ss) : ex n (.whl c b) ρ = whlGo (fun ρ => tst c (dl ρ)) (exs n b) n ρ := by
  conv => lhs; unfold ex
  all_goals rfl
@[simp] theorem ex_brk : ex n .brk ρ = some (.bk ρ) := by unfold ex; rfl
@[simp] theorem ex_cnt : ex n .cnt ρ = some (.ct ρ) := by unfold ex; rfl
@[simp] theorem ex_pas : ex n .pas ρ = some (.nx ρ) := by unfold ex; rfl
end
@[simp] theorem SZ_eq : SZ = 16777216 := rfl
theorem runD_rt {n : Nat} {N : List Str} {b : Ss} {ds : List D} {t : T} (h : exs n b (ds.map (fun d => some (.sh d)) ++ List.replicate (N.length - ds.length) none) = some (.rt t)) : runD n N b ds = some t := by unfold runD; rw [h]
/-! ### built-ins, methods, by data -/
@[simp] theorem bi_len_str (s : List Nat) : biD .len [.str s] = if s.length ≤ SZ then some (.sh (.int s.length)) else none := rfl
@[simp] theorem bi_len_lst (s : List D) : biD .len [.lst s] = some (.sh (.int s.length)) := rfl
@[simp] theorem bi_len_tup (s : List D) : biD .len [.tup s] = some (.sh (.int s.length)) := rfl
@[simp] theorem bi_len_scr (s : List Int) : biD .len [.scr s] = some (.sh (.int s.length)) := rfl
@[simp] theorem bi_int_bl (b : Bool) : biD .int [.bl b] = some (.sh (.int (if b then 1 else 0))) := rfl
@[simp] theorem bi_int_int (i : Int) : biD .int [.int i] = some (.sh (.int i)) := rfl
@[simp] theorem bi_list_lst (s : List D) : biD .list [.lst s] = some (.lst (s.map .sh)) := rfl
@[simp] theorem bi_list_tup (s : List D) : biD .list [.tup s] = some (.lst (s.map .sh)) := rfl
@[simp] theorem bi_tuple_lst (s : List D) : biD .tuple [.lst s] = some (.sh (.tup s)) := rfl
@[simp] theorem bi_all (s : List D) : biD .all [.lst s] = (blsOf s).map fun ns => .sh (.bl (ns.all id)) := rfl
@[simp] theorem bi_any (s : List D) : biD .any [.lst s] = (blsOf s).map fun ns => .sh (.bl (ns.any id)) := rfl
@[simp] theorem bi_sum (s : List D) : biD .sum [.lst s] = (intsOf s).map fun ns => .sh (.int ns.sum) := rfl
@[simp] theorem bi_max (i j : Int) : biD .max [.int i, .int j] = some (.sh (.int (if j > i then j else i))) := rfl
@[simp] theorem bi_min (i j : Int) : biD .min [.int i, .int j] = some (.sh (.int (if j < i then j else i))) := rfl
@[simp] theorem bi_abs (i : Int) : biD .abs [.int i] = some (.sh (.int (if i < 0 then -i else i))) := rfl
@[simp] theorem mt_split (a b : List Nat) : mtD .split [.str a, .str b] = if b ≠ [] ∧ b.all (· < 256) = true ∧ a.length + 2 ≤ SZ then some (.lst (((splitD a b).map D.str).map .sh)) else none := rfl
@[simp] theorem mt_join (a : List Nat) (ss : List (List Nat)) : mtD .join [.str a, .lst (ss.map .str)] = if (ss.map List.length).sum + ss.length * a.length ≤ SZ then some (.sh (.str (TL.joinL a ss))) else none := by
  show (match strEq (ss.map .str) with | some ss => iff ((ss.map List.length).sum + ss.length * a.length ≤ SZ) (Eng.sc (.str (TL.joinL a ss))) | none => none) = _
  rw [strEq_map]; rfl
@[simp] theorem mt_join0 (a : List Nat) : mtD .join [.str a, .lst []] = some (.sh (.str [])) := (mt_join a []).trans (by simp [TL.joinL])
@[simp] theorem mt_join1 (a b : List Nat) : mtD .join [.str a, .lst [.str b]] = if b.length + a.length ≤ SZ then some (.sh (.str b)) else none := (mt_join a [b]).trans (by simp [TL.joinL])
@[simp] theorem mt_startswith (a b : List Nat) : mtD .startswith [.str a, .str b] = some (.sh (.bl (Txt.startswith (st a) (st b)))) := rfl
@[simp] theorem mt_endswith (a b : List Nat) : mtD .endswith [.str a, .str b] = some (.sh (.bl (Txt.endswith (st a) (st b)))) := rfl
@[simp] theorem mt_find (a b : List Nat) : mtD .find [.str a, .str b] = some (.sh (.int (Txt.find (st a) (st b)))) := rfl
@[simp] theorem mt_find3 (a b : List Nat) (i : Int) : mtD .find3 [.str a, .str b, .int i] = some (.sh (.int (Txt.find3 (st a) (st b) i))) := rfl
@[simp] theorem mt_strip (a b : List Nat) : mtD .strip [.str a, .str b] = if a.length ≤ SZ then some (.sh (txt (Txt.stripChars (st a) (st b)))) else none := rfl
@[simp] theorem mt_partition (a b : List Nat) : mtD .partition [.str a, .str b] = if b ≠ [] ∧ a.length ≤ SZ then some (.sh (.tup [.str (partD a b).1, .str (partD a b).2.1, .str (partD a b).2.2])) else none := rfl
@[simp] theorem idx_lst (ys : List D) (i : Int) : idxD [.lst ys, .int i] = (atI ys i).map .sh := rfl
@[simp] theorem idx_tup (ys : List D) (i : Int) : idxD [.tup ys, .int i] = (atI ys i).map .sh := rfl
@[simp] theorem idx_scr (ys : List Int) (i : Int) : idxD [.scr ys, .int i] = (atI ys i).map fun n => .sh (.int n) := rfl
@[simp] theorem idx_str (ys : List Nat) (i : Int) : idxD [.str ys, .int i] = if ys.length ≤ SZ then (atI ys i).map fun c => .sh (.str [c]) else none := rfl
@[simp] theorem slc_lst (ys : List D) (l h : Option Int) : slcD l h [.lst ys] = some (.lst ((cutL ys l h).map .sh)) := rfl
@[simp] theorem slc_scr (ys : List Int) (l h : Option Int) : slcD l h [.scr ys] = some (.lst (((cutL ys l h).map D.int).map .sh)) := rfl
@[simp] theorem slc_str (ys : List Nat) (l h : Option Int) : slcD l h [.str ys] = if ys.length ≤ SZ then some (.sh (.str (cutL ys l h))) else none := rfl
@[simp] theorem ds_sh (xs : List D) : T.ds (xs.map .sh) = xs := T.ds_sh xs
@[simp] theorem ds_shs {α : Type} (f : α → D) (xs : List α) : T.ds (xs.map (T.sh ∘ f)) = xs.map f := by rw [← List.map_map]; exact T.ds_sh _
@[simp] theorem ds_shf {α : Type} (f : α → D) (xs : List α) : T.ds (xs.map fun x => T.sh (f x)) = xs.map f := ds_shs f xs
@[simp] theorem mt_join_map {α : Type} (a : List Nat) (f : α → List Nat) (xs : List α) : mtD .join [.str a, .lst (xs.map fun x => D.str (f x))] = if ((xs.map f).map List.length).sum + (xs.map f).length * a.length ≤ SZ then some (.sh (.str (TL.joinL a (xs.map f)))) else none := by
  have := mt_join a (xs.map f)
  rwa [List.map_map] at this
@[simp] theorem owns_sh {α : Type} (f : α → D) (xs : List α) : T.owns (xs.map (T.sh ∘ f)) = false := by
  induction xs with
  | nil => rfl
  | cons x xs ih => rw [List.map_cons, T.owns, ih]; rfl
@[simp] theorem owns_shf {α : Type} (f : α → D) (xs : List α) : T.owns (xs.map fun x => T.sh (f x)) = false := owns_sh f xs
@[simp] theorem bls_map {α : Type} (f : α → Bool) : ∀ xs : List α, blsOf (xs.map fun x => D.bl (f x)) = some (xs.map f)
  | [] => rfl
  | x :: xs => by rw [List.map_cons, blsOf, bls_map f xs]; rfl
@[simp] theorem ints_map {α : Type} (f : α → Int) : ∀ xs : List α, intsOf (xs.map fun x => D.int (f x)) = some (xs.map f)
  | [] => rfl
  | x :: xs => by rw [List.map_cons, intsOf, ints_map f xs]; rfl
@[simp] theorem ints_map0 (xs : List Int) : intsOf (xs.map D.int) = some xs := (ints_map id xs).trans (by simp)
/-! ### == -/
@[simp] theorem kit_NoneType_int : kitB "NoneType" "int" = some false := by decide +kernel
@[simp] theorem kit_NoneType_str : kitB "NoneType" "str" = some false := by decide +kernel
@[simp] theorem kit_NoneType_list : kitB "NoneType" "list" = some false := by decide +kernel
@[simp] theorem kit_NoneType_tuple : kitB "NoneType" "tuple" = some false := by decide +kernel
@[simp] theorem kit_NoneType_bool : kitB "NoneType" "bool" = some false := by decide +kernel
@[simp] theorem kit_NoneType_dict : kitB "NoneType" "dict" = some false := by decide +kernel
@[simp] theorem kit_bool_int : kitB "bool" "int" = some true := by decide +kernel
@[simp] theorem kit_bool_str : kitB "bool" "str" = some false := by decide +kernel
@[simp] theorem kit_bool_list : kitB "bool" "list" = some false := by decide +kernel
@[simp] theorem kit_bool_tuple : kitB "bool" "tuple" = some false := by decide +kernel
@[simp] theorem kit_bool_bool : kitB "bool" "bool" = some true := by decide +kernel
@[simp] theorem kit_bool_dict : kitB "bool" "dict" = some false := by decide +kernel
@[simp] theorem kit_int_int : kitB "int" "int" = some true := by decide +kernel
@[simp] theorem kit_int_str : kitB "int" "str" = some false := by decide +kernel
@[simp] theorem kit_int_list : kitB "int" "list" = some false := by decide +kernel
@[simp] theorem kit_int_tuple : kitB "int" "tuple" = some false := by decide +kernel
@[simp] theorem kit_int_bool : kitB "int" "bool" = some false := by decide +kernel
@[simp] theorem kit_int_dict : kitB "int" "dict" = some false := by decide +kernel
@[simp] theorem kit_str_int : kitB "str" "int" = some false := by decide +kernel
@[simp] theorem kit_str_str : kitB "str" "str" = some true := by decide +kernel
@[simp] theorem kit_str_list : kitB "str" "list" = some false := by decide +kernel
@[simp] theorem kit_str_tuple : kitB "str" "tuple" = some false := by decide +kernel
@[simp] theorem kit_str_bool : kitB "str" "bool" = some false := by decide +kernel
@[simp] theorem kit_str_dict : kitB "str" "dict" = some false := by decide +kernel
@[simp] theorem kit_list_int : kitB "list" "int" = some false := by decide +kernel
@[simp] theorem kit_list_str : kitB "list" "str" = some false := by decide +kernel
@[simp] theorem kit_list_list : kitB "list" "list" = some true := by decide +kernel
@[simp] theorem kit_list_tuple : kitB "list" "tuple" = some false := by decide +kernel
@[simp] theorem kit_list_bool : kitB "list" "bool" = some false := by decide +kernel
@[simp] theorem kit_list_dict : kitB "list" "dict" = some false := by decide +kernel
@[simp] theorem kit_tuple_int : kitB "tuple" "int" = some false := by decide +kernel
@[simp] theorem kit_tuple_str : kitB "tuple" "str" = some false := by decide +kernel
@[simp] theorem kit_tuple_list : kitB "tuple" "list" = some false := by decide +kernel
@[simp] theorem kit_tuple_tuple : kitB "tuple" "tuple" = some true := by decide +kernel
@[simp] theorem kit_tuple_bool : kitB "tuple" "bool" = some false := by decide +kernel
@[simp] theorem kit_tuple_dict : kitB "tuple" "dict" = some false := by decide +kernel
@[simp] theorem kit_dict_int : kitB "dict" "int" = some false := by decide +kernel
@[simp] theorem kit_dict_str : kitB "dict" "str" = some false := by decide +kernel
@[simp] theorem kit_dict_list : kitB "dict" "list" = some false := by decide +kernel
@[simp] theorem kit_dict_tuple : kitB "dict" "tuple" = some false := by decide +kernel
@[simp] theorem kit_dict_bool : kitB "dict" "bool" = some false := by decide +kernel
@[simp] theorem kit_dict_dict : kitB "dict" "dict" = some true := by decide +kernel
theorem atI_some {α : Type} {xs : List α} {i : Int} {x : α} (h0 : 0 ≤ i) (h : xs[i.toNat]? = some x) : atI xs i = some x := by
  have hl := (List.getElem?_eq_some_iff.mp h).1
  unfold atI ixN
  rw [if_pos h0, if_pos (by omega)]
  exact h
@[simp] theorem atI_c0 {α : Type} (a : α) (xs : List α) : atI (a :: xs) 0 = some a := atI_some (by decide) rfl
@[simp] theorem atI_c1 {α : Type} (a b : α) (xs : List α) : atI (a :: b :: xs) 1 = some b := atI_some (by decide) rfl
@[simp] theorem atI_c2 {α : Type} (a b c : α) (xs : List α) : atI (a :: b :: c :: xs) 2 = some c := atI_some (by decide) rfl
@[simp] theorem atI_c3 {α : Type} (a b c d : α) (xs : List α) : atI (a :: b :: c :: d :: xs) 3 = some d := atI_some (by decide) rfl
theorem sum_ones {α : Type} : ∀ l : List α, (l.map fun _ => 1).sum = l.length
  | [] => rfl
  | _ :: l => by rw [List.map_cons, List.sum_cons, sum_ones l, List.length_cons]; omega
/-! ### loops by a word -/
theorem forGo_inv {asg : D → Rho → Option Rho} {body : Rho → Option Out} (P : Nat → Rho → Prop) : ∀ {ds : List D} {ρ : Rho} (k : Nat), P k ρ →
    (∀ i d ρ, ds[i]? = some d → P (k + i) ρ → ∃ ρ1 ρ2, asg d ρ = some ρ1 ∧ (body ρ1 = some (.nx ρ2) ∨ body ρ1 = some (.ct ρ2)) ∧ P (k + i + 1) ρ2) → ∃ ρ', forGo asg body ds ρ = some (.nx ρ') ∧ P (k + ds.length) ρ'
  | [], ρ, k, h0, hs => ⟨ρ, rfl, h0⟩
  | d :: ds, ρ, k, h0, hs => by
    obtain ⟨ρ1, ρ2, h1, h2, h3⟩ := hs 0 d ρ rfl h0
    obtain ⟨ρ', h4, h5⟩ := forGo_inv P (ds := ds) (ρ := ρ2) (k + 1) h3 fun i e ρ he hp => by
      have := hs (i + 1) e ρ he (by rw [show k + (i + 1) = k + 1 + i by omega]; exact hp)
      rwa [show k + (i + 1) + 1 = k + 1 + i + 1 by omega] at this
    refine ⟨ρ', ?_, by rw [List.length_cons, show k + (ds.length + 1) = k + 1 + ds.length by omega]; exact h5⟩
    unfold forGo
    rw [h1]
    rcases h2 with h2 | h2
    · show ((body ρ1).bind _) = _
      rw [h2]; exact h4
    · show ((body ρ1).bind _) = _
      rw [h2]; exact h4
/-! ### defs -/
theorem FnOk.call {P : Program} {w : World} {C : Cfg} {base : Heap} {N : List Str} {k j : Nat} {f : Str} {fa : Addr} {fd : FuncData} {ps : List Str} {F : List D → Option T} (G : FnOk P w C.K C.mg base CX0 j fa fd ps (pureSp C F)) (hj : j ≤ k)
    (hm : C.mg f = some (.ref fa)) (kp : PySem.W.keepIn C.K (.ref fa) = true) (b : Binds C.K fd ps []) : CallOk ⟨P, w, C, base, N, k⟩ f F [] :=
  ⟨fa, fd, ps, [], [], hm, kp, G.mono hj, b, .nil, fun _ => .nil⟩
theorem FnOk.callD {P : Program} {w : World} {C : Cfg} {base : Heap} {N : List Str} {k j : Nat} {f : Str} {fa : Addr} {fd : FuncData} {ps : List Str} {F : List D → Option T} {dvs : List V} {dds : List D} (G : FnOk P w C.K C.mg base CX0 j fa fd ps (pureSp C F)) (hj : j ≤ k)
    (hm : C.mg f = some (.ref fa)) (kp : PySem.W.keepIn C.K (.ref fa) = true) (b : ∃ ds, Vals dvs ds ∧ Binds C.K fd ps ds) (hd : ∀ H, Dats C H dvs dds) : CallOk ⟨P, w, C, base, N, k⟩ f F dds := by
  obtain ⟨ds, h1, h2⟩ := b
  exact ⟨fa, fd, ps, dvs, ds, hm, kp, G.mono hj, h2, h1, hd⟩
end Eng
/-! Eng R: == of data by kinds, defs as runs of their words, the rule for a def with defaults. -/
namespace Eng
open PySem L2
/-! ### a def reckons what its words reckon -/
def runF (m n : Nat) (N : List Str) (b : Ss) (ds : List D) : Option T := if ds.length = m then runD n N b ds else none
theorem runF_h {m n : Nat} {N : List Str} {b : Ss} {ds : List D} {t : T} (h : runF m n N b ds = some t) : ds.length = m ∧ ∃ n, runD n N b ds = some t := by
  unfold runF at h
  split at h
  · rename_i e; exact ⟨e, n, h⟩
  · cases h
theorem runF_rt {m n : Nat} {N : List Str} {b : Ss} {ds : List D} {t : T} (hl : ds.length = m) (h : exs n b (ds.map (fun d => some (.sh d)) ++ List.replicate (N.length - ds.length) none) = some (.rt t)) : runF m n N b ds = some t := by
  unfold runF; rw [if_pos hl]; exact runD_rt h
theorem runF_nx {m n : Nat} {N : List Str} {b : Ss} {ds : List D} {ρ : Rho} (hl : ds.length = m) (h : exs n b (ds.map (fun d => some (.sh d)) ++ List.replicate (N.length - ds.length) none) = some (.nx ρ)) : runF m n N b ds = some (.sh .non) := by
  unfold runF runD; rw [if_pos hl, h]
/-! ### == -/
structure EqIs (a b : D) (r : Bool) (n : Nat) : Prop where
  ex : ∃ p q, toPy a = some p ∧ toPy b = some q ∧ p.canLay0 = true ∧ q.canLay0 = true ∧ p.depth ≤ n ∧ q.depth ≤ n ∧ PyData.eqv p q = r
theorem EqIs.eqD {a b : D} {r : Bool} {n : Nat} (h : EqIs a b r n) (hn : n ≤ 64 := by decide) : Eng.eqD a b = some r := by
  obtain ⟨p, q, h1, h2, h3, h4, h5, h6, h7⟩ := h.ex
  unfold Eng.eqD
  rw [h1, h2]
  show (if SeqAt.shaped p = true ∧ SeqAt.shaped q = true then some (PyData.eqv p q) else none) = _
  rw [if_pos, h7]
  unfold SeqAt.shaped
  exact ⟨by rw [h3]; exact decide_eq_true (by omega), by rw [h4]; exact decide_eq_true (by omega)⟩
theorem EqIs.mono {a b : D} {r : Bool} {n m : Nat} (h : EqIs a b r n) (hn : n ≤ m) : EqIs a b r m := by
  obtain ⟨p, q, h1, h2, h3, h4, h5, h6, h7⟩ := h.ex
  exact ⟨p, q, h1, h2, h3, h4, by omega, by omega, h7⟩
/-- all codes are signs' -/
def okT (s : List Nat) : Prop := ∀ c, c ∈ s → c < 1114112
instance (s : List Nat) : Decidable (okT s) := by unfold okT; infer_instance
@[simp] theorem okT_nil : okT [] := fun c m => by cases m
@[simp] theorem okT_cons (c : Nat) (s : List Nat) : okT (c :: s) ↔ c < 1114112 ∧ okT s := by unfold okT; simp
@[simp] theorem okT_append (s t : List Nat) : okT (s ++ t) ↔ okT s ∧ okT t := by
  unfold okT
  simp only [List.mem_append]
  exact ⟨fun h => ⟨fun c m => h c (.inl m), fun c m => h c (.inr m)⟩, fun h c m => m.elim (h.1 c) (h.2 c)⟩
theorem okT_strOk {s : List Nat} (h : okT s) : PySem.PyData.strOk (st s) = true := by
  unfold PySem.PyData.strOk
  have : (st s).cps = s.toArray := rfl
  rw [this]
  simpa [okT] using h
theorem eqIs_str {s t : List Nat} (hs : okT s) (ht : okT t) : EqIs (.str s) (.str t) (decide (s = t)) 0 := by
  refine ⟨_, _, rfl, rfl, ?_, ?_, ?_, ?_, ?_⟩
  · unfold PyData.canLay0; exact okT_strOk hs
  · unfold PyData.canLay0; exact okT_strOk ht
  · unfold PyData.depth; exact Nat.le_refl _
  · unfold PyData.depth; exact Nat.le_refl _
  · unfold PyData.eqv; rw [beq_st]; exact Bool.eq_iff_iff.mpr (by simp)
theorem eqIs_int (i j : Int) : EqIs (.int i) (.int j) (decide (i = j)) 0 :=
  ⟨_, _, rfl, rfl, by simp [PyData.canLay0], by simp [PyData.canLay0], by simp [PyData.depth], by simp [PyData.depth], by unfold PyData.eqv; exact Bool.eq_iff_iff.mpr (by simp)⟩
theorem eqIs_bl (i j : Bool) : EqIs (.bl i) (.bl j) (i == j) 0 :=
  ⟨_, _, rfl, rfl, by simp [PyData.canLay0], by simp [PyData.canLay0], by simp [PyData.depth], by simp [PyData.depth], by unfold PyData.eqv; rfl⟩
theorem eqIs_non : EqIs .non .non true 0 :=
  ⟨_, _, rfl, rfl, by simp [PyData.canLay0], by simp [PyData.canLay0], by simp [PyData.depth], by simp [PyData.depth], by unfold PyData.eqv; rfl⟩
/-- none of one kind is one of another -/
theorem eqIs_non_str {t : List Nat} (ht : okT t) : EqIs .non (.str t) false 0 :=
  ⟨_, _, rfl, rfl, by simp [PyData.canLay0], by unfold PyData.canLay0; exact okT_strOk ht, by simp [PyData.depth], by simp [PyData.depth], by unfold PyData.eqv; rfl⟩
/-- lists against each other, cell by cell -/
inductive EqAll : List D → List D → Bool → Nat → Prop
  | nil {n : Nat} : EqAll [] [] true n
  | cons {a b : D} {as bs : List D} {r r' : Bool} {n : Nat} : EqIs a b r n → EqAll as bs r' n → EqAll (a :: as) (b :: bs) (r && r') n
  | left {a b : D} {as : List D} {n : Nat} {r r' : Bool} {cs : List D} : EqIs a b r n → EqAll as cs r' n → EqAll (a :: as) [] false n
  | right {a b : D} {as : List D} {n : Nat} {r r' : Bool} {cs : List D} : EqIs a b r n → EqAll as cs r' n → EqAll [] (a :: as) false n
theorem EqAll.ex {as bs : List D} {r : Bool} {n : Nat} (h : EqAll as bs r n) : ∃ p q, toPys as = some p ∧ toPys bs = some q ∧ PyData.canLayAll0 p = true ∧ PyData.canLayAll0 q = true ∧ PyData.depthAll p ≤ n ∧ PyData.depthAll q ≤ n ∧ PyData.eqvAll p q = r := by
  induction h with
  | nil => exact ⟨[], [], rfl, rfl, rfl, rfl, by simp [PyData.depthAll], by simp [PyData.depthAll], by simp [PyData.eqvAll]⟩
  | cons h _ ih =>
    obtain ⟨p, q, h1, h2, h3, h4, h5, h6, h7⟩ := h.ex
    obtain ⟨ps, qs, i1, i2, i3, i4, i5, i6, i7⟩ := ih
    exact ⟨p :: ps, q :: qs, by simp [toPys, h1, i1], by simp [toPys, h2, i2], by simp [PyData.canLayAll0, h3, i3], by simp [PyData.canLayAll0, h4, i4], by simp [PyData.depthAll]; omega, by simp [PyData.depthAll]; omega, by simp [PyData.eqvAll, h7, i7]⟩
  | left h _ ih =>
    obtain ⟨p, q, h1, h2, h3, h4, h5, h6, h7⟩ := h.ex
    obtain ⟨ps, qs, i1, i2, i3, i4, i5, i6, i7⟩ := ih
    exact ⟨p :: ps, [], by simp [toPys, h1, i1], rfl, by simp [PyData.canLayAll0, h3, i3], rfl, by simp [PyData.depthAll]; omega, by simp [PyData.depthAll], by simp [PyData.eqvAll]⟩
  | right h _ ih =>
    obtain ⟨p, q, h1, h2, h3, h4, h5, h6, h7⟩ := h.ex
    obtain ⟨ps, qs, i1, i2, i3, i4, i5, i6, i7⟩ := ih
    exact ⟨[], p :: ps, rfl, by simp [toPys, h1, i1], rfl, by simp [PyData.canLayAll0, h3, i3], by simp [PyData.depthAll], by simp [PyData.depthAll]; omega, by simp [PyData.eqvAll]⟩
theorem EqAll.lst {as bs : List D} {r : Bool} {n : Nat} (h : EqAll as bs r n) : EqIs (.lst as) (.lst bs) r (n + 1) := by
  obtain ⟨p, q, h1, h2, h3, h4, h5, h6, h7⟩ := h.ex
  exact ⟨_, _, by unfold toPy; rw [h1]; rfl, by unfold toPy; rw [h2]; rfl, by unfold PyData.canLay0; exact h3, by unfold PyData.canLay0; exact h4, by unfold PyData.depth; omega, by unfold PyData.depth; omega, by unfold PyData.eqv; exact h7⟩
theorem EqAll.tup {as bs : List D} {r : Bool} {n : Nat} (h : EqAll as bs r n) : EqIs (.tup as) (.tup bs) r (n + 1) := by
  obtain ⟨p, q, h1, h2, h3, h4, h5, h6, h7⟩ := h.ex
  exact ⟨_, _, by unfold toPy; rw [h1]; rfl, by unfold toPy; rw [h2]; rfl, by unfold PyData.canLay0; exact h3, by unfold PyData.canLay0; exact h4, by unfold PyData.depth; omega, by unfold PyData.depth; omega, by unfold PyData.eqv; exact h7⟩
/-- words for a kind of data: == tells them apart -/
structure Enc {α : Type} [DecidableEq α] (f : α → D) (ok : α → Prop) (n : Nat) : Prop where
  h : ∀ x y, ok x → ok y → EqIs (f x) (f y) (decide (x = y)) n
theorem enc_str : Enc D.str okT 0 := ⟨fun _ _ h1 h2 => eqIs_str h1 h2⟩
theorem enc_int : Enc D.int (fun _ => True) 0 := ⟨fun _ _ _ _ => eqIs_int _ _⟩
theorem enc_bl : Enc D.bl (fun _ => True) 0 := ⟨fun a b _ _ => by
  have := eqIs_bl a b
  rwa [show (a == b) = decide (a = b) by cases a <;> cases b <;> rfl] at this⟩
theorem Enc.self {α : Type} [DecidableEq α] {f : α → D} {ok : α → Prop} {n : Nat} (E : Enc f ok n) : ∀ {xs : List α}, (∀ x, x ∈ xs → ok x) → ∃ r, EqAll (xs.map f) (xs.map f) r n
  | [], _ => ⟨_, .nil⟩
  | x :: xs, hx => by
    obtain ⟨r, h⟩ := E.self (xs := xs) fun z m => hx z (List.mem_cons_of_mem _ m)
    exact ⟨_, .cons (E.h x x (hx x (List.mem_cons_self ..)) (hx x (List.mem_cons_self ..))) h⟩
theorem Enc.all {α : Type} [DecidableEq α] {f : α → D} {ok : α → Prop} {n : Nat} (E : Enc f ok n) : ∀ {xs ys : List α}, (∀ x, x ∈ xs → ok x) → (∀ y, y ∈ ys → ok y) → EqAll (xs.map f) (ys.map f) (decide (xs = ys)) n
  | [], [], _, _ => .nil
  | x :: xs, [], hx, _ => by
    obtain ⟨r, h⟩ := E.self (xs := xs) fun z m => hx z (List.mem_cons_of_mem _ m)
    exact .left (E.h x x (hx x (List.mem_cons_self ..)) (hx x (List.mem_cons_self ..))) h
  | [], x :: xs, _, hx => by
    obtain ⟨r, h⟩ := E.self (xs := xs) fun z m => hx z (List.mem_cons_of_mem _ m)
    exact .right (E.h x x (hx x (List.mem_cons_self ..)) (hx x (List.mem_cons_self ..))) h
  | x :: xs, y :: ys, hx, hy => by
    have h1 := E.h x y (hx x (List.mem_cons_self ..)) (hy y (List.mem_cons_self ..))
    have h2 := E.all (xs := xs) (ys := ys) (fun z m => hx z (List.mem_cons_of_mem _ m)) fun z m => hy z (List.mem_cons_of_mem _ m)
    have := EqAll.cons h1 h2
    have e : (decide (x :: xs = y :: ys)) = (decide (x = y) && decide (xs = ys)) := Bool.eq_iff_iff.mpr (by simp)
    rw [e]; exact this
theorem Enc.lst {α : Type} [DecidableEq α] {f : α → D} {ok : α → Prop} {n : Nat} (E : Enc f ok n) : Enc (fun xs : List α => D.lst (xs.map f)) (fun xs => ∀ x, x ∈ xs → ok x) (n + 1) := ⟨fun _ _ h1 h2 => (E.all h1 h2).lst⟩
theorem Enc.tupl {α : Type} [DecidableEq α] {f : α → D} {ok : α → Prop} {n : Nat} (E : Enc f ok n) : Enc (fun xs : List α => D.tup (xs.map f)) (fun xs => ∀ x, x ∈ xs → ok x) (n + 1) := ⟨fun _ _ h1 h2 => (E.all h1 h2).tup⟩
theorem Enc.pair {α β : Type} [DecidableEq α] [DecidableEq β] {f : α → D} {g : β → D} {ok : α → Prop} {ok' : β → Prop} {n m : Nat} (E : Enc f ok n) (E' : Enc g ok' m) : Enc (fun x : α × β => D.tup [f x.1, g x.2]) (fun x => ok x.1 ∧ ok' x.2) (max n m + 1) := ⟨fun x y h1 h2 => by
  have := (EqAll.cons ((E.h x.1 y.1 h1.1 h2.1).mono (Nat.le_max_left n m)) (.cons ((E'.h x.2 y.2 h1.2 h2.2).mono (Nat.le_max_right n m)) .nil)).tup
  rwa [show (decide (x.1 = y.1) && (decide (x.2 = y.2) && true)) = decide (x = y) from Bool.eq_iff_iff.mpr (by simp [Prod.ext_iff])] at this⟩
theorem Enc.eqD {α : Type} [DecidableEq α] {f : α → D} {ok : α → Prop} {n : Nat} (E : Enc f ok n) (hn : n ≤ 64 := by decide) {x y : α} (hx : ok x) (hy : ok y) : Eng.eqD (f x) (f y) = some (decide (x = y)) := (E.h x y hx hy).eqD hn
theorem eqD_strs {a b : List (List Nat)} (ha : ∀ x, x ∈ a → okT x) (hb : ∀ x, x ∈ b → okT x) : Eng.eqD (.lst (a.map .str)) (.lst (b.map .str)) = some (decide (a = b)) := (enc_str.lst).eqD (by decide) ha hb
theorem eqD_strs_nil {a : List (List Nat)} (ha : ∀ x, x ∈ a → okT x) : Eng.eqD (.lst (a.map .str)) (.lst []) = some (decide (a = [])) := eqD_strs (b := []) ha fun x m => by cases m
@[simp] theorem eqD_nil_nil : Eng.eqD (.lst []) (.lst []) = some true := eqD_strs (a := []) (b := []) (fun x m => by cases m) fun x m => by cases m
theorem eqD_ints {a b : List Int} : Eng.eqD (.lst (a.map .int)) (.lst (b.map .int)) = some (decide (a = b)) := (enc_int.lst).eqD (by decide) (fun _ _ => trivial) fun _ _ => trivial
theorem eqD_ints_nil {a : List Int} : Eng.eqD (.lst (a.map .int)) (.lst []) = some (decide (a = [])) := eqD_ints (b := [])
theorem atI_nat {α : Type} {xs : List α} {i : Nat} (h : i < xs.length) : atI xs (i : Int) = some xs[i] := atI_some (by omega) (by rw [Int.toNat_natCast]; exact List.getElem?_eq_getElem h)
theorem atI_neg1 {α : Type} (xs : List α) (h : xs ≠ []) : atI xs (-1) = some (xs.getLast h) := by
  unfold atI ixN
  have : 0 < xs.length := List.length_pos_iff.mpr h
  rw [if_neg (by omega), if_pos (by omega)]
  show xs[(-1 + (xs.length : Int)).toNat]? = _
  rw [show (-1 + (xs.length : Int)).toNat = xs.length - 1 by omega, ← List.getLast?_eq_getElem?, List.getLast?_eq_some_getLast h]
theorem rng_of {lo n : Int} (h1 : -(2 ^ 62) ≤ lo ∧ lo < 2 ^ 62) (h2 : -(2 ^ 62) ≤ n ∧ n < 2 ^ 62) : rngD lo n = some ((List.range (n - lo).toNat).map fun i : Nat => D.int (lo + i)) := by
  unfold rngD; rw [if_pos ⟨h1.1, h1.2, h2.1, h2.2⟩]
theorem rng0 {n : Int} (h : -(2 ^ 62) ≤ n ∧ n < 2 ^ 62) : rngD 0 n = some ((List.range n.toNat).map fun i : Nat => D.int i) := by
  rw [rng_of (by decide) h, Int.sub_zero]; simp
theorem cutL_len {α : Type} (xs : List α) (lo hi : Option Int) : (cutL xs lo hi).length ≤ xs.length := by
  unfold cutL; simp only [List.length_take, List.length_drop]; omega
theorem cutL_mem {α : Type} {xs : List α} {lo hi : Option Int} {x : α} (h : x ∈ cutL xs lo hi) : x ∈ xs := List.drop_subset _ _ (List.take_subset _ _ h)
@[simp] theorem atI_mapE {α β : Type} (f : α → β) (xs : List α) (i : Int) : atI (xs.map f) i = (atI xs i).map f := by
  unfold atI
  rw [List.length_map]
  cases ixN xs.length i <;> simp
theorem atI_getD {α : Type} {xs : List α} {i : Int} (d : α) (h0 : 0 ≤ i) (h1 : i < xs.length) : atI xs i = some (xs.getD i.toNat d) := by
  refine atI_some h0 ?_
  rw [List.getD_eq_getElem?_getD, List.getElem?_eq_getElem (by omega)]; rfl
/-! ### bits -/
def sbit (k : Nat) : Nat := 1 <<< k
def shrN (p k : Nat) : Nat := p >>> k
def orN (a b : Nat) : Nat := a ||| b
theorem shl_nat {k : Nat} (h : k ≤ 1000000) : binD .LShift [.int 1, .int (k : Int)] = some (.sh (.int (sbit k : Int))) := by
  rw [shl_1, if_pos ⟨Int.natCast_nonneg _, by omega⟩, Int.toNat_natCast]
  unfold sbit
  rw [Nat.one_shiftLeft, Int.natCast_pow]; rfl
theorem shl_nat1 {k : Nat} (h : k + 1 ≤ 1000000) : binD .LShift [.int 1, .int ((k : Int) + 1)] = some (.sh (.int (sbit (k + 1) : Int))) := shl_nat (k := k + 1) h
theorem shr_nat (p k : Nat) : binD .RShift [.int p, .int (k : Int)] = some (.sh (.int (shrN p k : Int))) := by
  rw [shr_int, if_pos (Int.natCast_nonneg _), Int.toNat_natCast]
  unfold shrN
  rw [Nat.shiftRight_eq_div_pow]
  congr 3
  all_goals (push_cast; rfl)
theorem bitq (p k : Nat) : Builtin.bitAnd (shrN p k : Int) 1 = if p.testBit k = true then 1 else 0 := by
  unfold Builtin.bitAnd
  rw [decide_eq_true (Int.natCast_nonneg _), decide_eq_true (by decide)]
  show (((((p >>> k : Nat) : Int).toNat &&& (1 : Int).toNat : Nat)) : Int) = _
  rw [Int.toNat_natCast, show (1 : Int).toNat = 1 from rfl, Nat.and_one_is_mod, Nat.testBit_eq_decide_div_mod_eq, Nat.shiftRight_eq_div_pow]
  by_cases h : p / 2 ^ k % 2 = 1
  · simp [h]
  · have : p / 2 ^ k % 2 = 0 := by omega
    simp [this]
theorem bitor (a b : Nat) : Builtin.bitOr (a : Int) (b : Int) = (orN a b : Int) := by
  unfold orN Builtin.bitOr Builtin.bitAnd Builtin.bitNot
  rw [decide_eq_false (by omega), decide_eq_false (by omega)]
  show -(-(((-(-(a : Int) - 1) - 1).toNat ||| (-(-(b : Int) - 1) - 1).toNat : Nat) : Int) - 1) - 1 = _
  rw [show (-(-(a : Int) - 1) - 1).toNat = a by omega, show (-(-(b : Int) - 1) - 1).toNat = b by omega]; omega
/-- numbered from k -/
def enF : Nat → List D → List D
  | _, [] => []
  | k, y :: ys => .tup [.int k, y] :: enF (k + 1) ys
theorem enF_eq : ∀ (k : Nat) (ys : List D), ys.mapIdx (fun i y => D.tup [.int ((k + i : Nat) : Int), y]) = enF k ys
  | k, [] => rfl
  | k, y :: ys => by
    rw [List.mapIdx_cons]
    unfold enF
    rw [← enF_eq (k + 1) ys]
    have : (fun i y => D.tup [D.int ((k + 1 + i : Nat) : Int), y]) = fun i y => D.tup [D.int ((k + (i + 1) : Nat) : Int), y] := by
      funext i y; rw [show k + 1 + i = k + (i + 1) by omega]
    rw [this]; rfl
theorem enm_eq (ys : List D) : ys.mapIdx (fun i y => D.tup [.int (i : Int), y]) = enF 0 ys := by
  rw [← enF_eq 0 ys]
  have : (fun (i : Nat) (y : D) => D.tup [D.int (i : Int), y]) = fun i y => D.tup [D.int ((0 + i : Nat) : Int), y] := by
    funext i y; rw [Nat.zero_add]
  rw [this]
/-! ### loops that fold -/
theorem forGo_step {asg : D → Rho → Option Rho} {body : Rho → Option Out} {d : D} {ds : List D} {ρ ρ1 ρ2 : Rho} (h1 : asg d ρ = some ρ1) (h2 : body ρ1 = some (.nx ρ2) ∨ body ρ1 = some (.ct ρ2)) : forGo asg body (d :: ds) ρ = forGo asg body ds ρ2 := by
  conv => lhs; unfold forGo
  rw [h1]
  rcases h2 with h2 | h2
  · show ((body ρ1).bind _) = _
    rw [h2]; rfl
  · show ((body ρ1).bind _) = _
    rw [h2]; rfl
theorem forGo_fold {α σ : Type} {g : α → D} {asg : D → Rho → Option Rho} {body : Rho → Option Out} (f : σ → α → σ) (R : σ → List α → Rho → Prop)
    (step : ∀ s x xs ρ, R s (x :: xs) ρ → ∃ ρ1 ρ2, asg (g x) ρ = some ρ1 ∧ (body ρ1 = some (.nx ρ2) ∨ body ρ1 = some (.ct ρ2)) ∧ R (f s x) xs ρ2) : ∀ (xs : List α) (s : σ) (ρ : Rho), R s xs ρ → ∃ ρ', forGo asg body (xs.map g) ρ = some (.nx ρ') ∧ R (xs.foldl f s) [] ρ'
  | [], s, ρ, h => ⟨ρ, by unfold forGo; rfl, h⟩
  | x :: xs, s, ρ, h => by
    obtain ⟨ρ1, ρ2, h1, h2, h3⟩ := step s x xs ρ h
    obtain ⟨ρ', h4, h5⟩ := forGo_fold f R step xs (f s x) ρ2 h3
    exact ⟨ρ', by rw [List.map_cons, forGo_step h1 h2, h4], h5⟩
theorem foldl_app {α β : Type} (h : α → List β) : ∀ (xs : List α) (acc : List β), xs.foldl (fun s x => s ++ h x) acc = acc ++ (xs.map h).flatten
  | [], acc => by simp
  | x :: xs, acc => by rw [List.foldl_cons, foldl_app h xs]; simp
theorem foldl_app1 {α β : Type} (h : α → β) : ∀ (xs : List α) (acc : List β), xs.foldl (fun s x => s ++ [h x]) acc = acc ++ xs.map h
  | [], acc => by simp
  | x :: xs, acc => by rw [List.foldl_cons, foldl_app1 h xs]; simp
theorem whl_stop {test : Rho → Option Bool} {body : Rho → Option Out} {n : Nat} {ρ : Rho} (h : test ρ = some false) : whlGo test body (n + 1) ρ = some (.nx ρ) := by
  unfold whlGo; rw [h]; rfl
theorem whl_nx {test : Rho → Option Bool} {body : Rho → Option Out} {n : Nat} {ρ ρ2 : Rho} (h : test ρ = some true) (h2 : body ρ = some (.nx ρ2) ∨ body ρ = some (.ct ρ2)) : whlGo test body (n + 1) ρ = whlGo test body n ρ2 := by
  conv => lhs; unfold whlGo
  rw [h]
  show ((body ρ).bind _) = _
  rcases h2 with h2 | h2 <;> rw [h2] <;> rfl
theorem whl_bk {test : Rho → Option Bool} {body : Rho → Option Out} {n : Nat} {ρ ρ2 : Rho} (h : test ρ = some true) (h2 : body ρ = some (.bk ρ2)) : whlGo test body (n + 1) ρ = some (.nx ρ2) := by
  unfold whlGo
  rw [h]
  show ((body ρ).bind _) = _
  rw [h2]; rfl
theorem whl_rt {test : Rho → Option Bool} {body : Rho → Option Out} {n : Nat} {ρ : Rho} {t : T} (h : test ρ = some true) (h2 : body ρ = some (.rt t)) : whlGo test body (n + 1) ρ = some (.rt t) := by
  unfold whlGo
  rw [h]
  show ((body ρ).bind _) = _
  rw [h2]; rfl
theorem forGo_rt {asg : D → Rho → Option Rho} {body : Rho → Option Out} {d : D} {ds : List D} {ρ ρ1 : Rho} {t : T} (h1 : asg d ρ = some ρ1) (h2 : body ρ1 = some (.rt t)) : forGo asg body (d :: ds) ρ = some (.rt t) := by
  conv => lhs; unfold forGo
  rw [h1]
  show ((body ρ1).bind _) = _
  rw [h2]; rfl
/-! ### a sign in a text -/
theorem subOf_one (c : Nat) (s : List Nat) : subOf [c] s = decide (c ∈ s) := (PySem.StrLaws.found_one (st s) c).trans (by rw [show (st s).cps.toList = s from List.toList_toArray])
/-! ### the rule for a def (FunD) -/
theorem fn_okD {P : Program} {w : World} {C : Cfg} {base : Heap} {x qual : Str} {st : Stmt} {dvs : List V} {f : Addr} {fd : FuncData} {N ps : List Str} {k : Nat} {body : Ss} {F : List D → Option T}
    (Fn : FunD C.K x qual (defArgs st) (defBody st) (defScope st) dvs [] f fd) (S : FnScope N ps (defScope st)) (hm : mSs N (defScope st) body (defBody st) = true) (nd : Ndss ⟨P, w, C, base, N, k⟩ body)
    (hF : ∀ ds t, F ds = some t → ds.length = ps.length ∧ ∃ n, runD n N body ds = some t) : FnOk P w C.K C.mg base CX0 (k + 1) f fd ps (pureSp C F) := by
  refine Fn.ok S (fun vs H Q E h => ?_) fun cdv A outer s H vs Q E hr h => ?_
  · obtain ⟨ds, t, Z, al, h1, h2, h3, h4, h5⟩ := h
    rw [h1.length]; exact (hF ds t h4).1
  · obtain ⟨t, h1, h2⟩ := fn_body (outer := outer) S hm nd hF hr h
    exact ⟨t, h1.nox, h2⟩
theorem bindsF {K : PySem.W.Frag} {x qual : Str} {params : Arguments} {body : List Stmt} {scope : Scope} {dvs : List V} {kws : List (Str × V)} {f : Addr} {fd : FuncData} {ps : List Str} (F : FunD K x qual params body scope dvs kws f fd)
    (h : ∀ (dV kV doc pm : Value) (an : Option Addr) (cdv ct : Value) (us : List Value), us.length = ps.length → bindArgs (PySem.W.fnOf x qual params body scope dV kV doc pm an cdv ct) ⟨us, []⟩ = pure (ps.zip us)) : Binds K fd ps [] := by
  obtain ⟨oc, od, dV, kV, doc, pm, an, cdv, ct, osl, rfl, lk, hcd, hD, hK⟩ := F.ex
  exact .all (h dV kV doc pm an cdv ct)
theorem pure_law (C : Cfg) {F : List D → Option T} {ns : List Int} (h : F [.scr ns] = some (.sh (.bl true))) {a : Addr} {H : Hp} {Q : VK} {E : XK} (hS : SqL C.K H a (ns.map V.int)) (q : ∀ H', Q (.bl true) H') : pureSp C F [.ref a] H Q E := by
  have n0 : hid H (fun _ => False) = H := by funext a; exact hid_out fun z => z
  refine ⟨[.scr ns], .sh (.bl true), fun _ => False, false, .cons (.scr hS) .nil, (fun _ => by rw [n0]; exact .cons (.scr hS) .nil), (fun _ z => z.elim), h, fun As v H' p => ?_⟩
  have := p.dat
  cases this
  exact q _
theorem glb_int {C : Cfg} {P : Program} {w : World} {base : Heap} {N : List Str} {k : Nat} {x : Str} {i : Int} (h : ∃ t, C.mg x = some (.int i t)) : GlbOk ⟨P, w, C, base, N, k⟩ x (.int i) := by
  obtain ⟨t, h⟩ := h
  exact ⟨_, .int i, h, ⟨t, rfl⟩, fun _ => .int i⟩
theorem glb_str {C : Cfg} {P : Program} {w : World} {base : Heap} {N : List Str} {k : Nat} {x : Str} {s : List Nat} {z : Str} (h : ∃ t, C.mg x = some (.str z t)) (e : z = st s) : GlbOk ⟨P, w, C, base, N, k⟩ x (.str s) := by
  obtain ⟨t, h⟩ := h
  subst e
  exact ⟨_, sv s, h, ⟨t, rfl⟩, fun _ => .str s⟩
end Eng
/-! X A: trees with holes, what they own, places in them. -/
namespace Eng
open PySem L2
inductive U where
  | sh (d : D)
  | lst (us : List U) | tup (us : List U)
  | ins (c : Str) (ns : List Str) (us : List U) | dic (ks : List Key) (us : List U)
  | hole (j : Option Nat)
  deriving Inhabited
mutual
def U.t : U → Option T
  | .sh d => some (.sh d)
  | .lst us => (U.ts us).map .lst
  | .tup us => (U.ts us).map .tup
  | .ins c ns us => (U.ts us).map (.ins c ns)
  | .dic ks us => (U.ts us).map (.dic ks)
  | .hole _ => none
def U.ts : List U → Option (List T)
  | [] => some []
  | u :: us => u.t.bind fun t => (U.ts us).map fun ts => t :: ts
end
mutual
def T.u : T → U
  | .sh d => .sh d
  | .lst ts => .lst (T.us ts)
  | .tup ts => .tup (T.us ts)
  | .ins c ns ts => .ins c ns (T.us ts)
  | .dic ks ts => .dic ks (T.us ts)
def T.us : List T → List U
  | [] => []
  | t :: ts => t.u :: T.us ts
end
mutual
def U.own : U → Bool
  | .sh _ => false
  | .tup us => U.owns us
  | _ => true
def U.owns : List U → Bool
  | [] => false
  | u :: us => u.own || U.owns us
end
mutual
/-- is j's hole in it? -/
def U.hol (j : Nat) : U → Bool
  | .sh _ => false
  | .lst us => U.hols j us
  | .tup us => U.hols j us
  | .ins _ _ us => U.hols j us
  | .dic _ us => U.hols j us
  | .hole o => o == some j
def U.hols (j : Nat) : List U → Bool
  | [] => false
  | u :: us => u.hol j || U.hols j us
end
mutual
theorem T.u_t : ∀ t : T, t.u.t = some t
  | .sh d => rfl
  | .lst ts => by show (U.ts (T.us ts)).map _ = _; rw [T.us_ts ts]; rfl
  | .tup ts => by show (U.ts (T.us ts)).map _ = _; rw [T.us_ts ts]; rfl
  | .ins c ns ts => by show (U.ts (T.us ts)).map _ = _; rw [T.us_ts ts]; rfl
  | .dic ks ts => by show (U.ts (T.us ts)).map _ = _; rw [T.us_ts ts]; rfl
theorem T.us_ts : ∀ ts : List T, U.ts (T.us ts) = some ts
  | [] => rfl
  | t :: ts => by show (t.u.t.bind _) = _; rw [T.u_t t]; show (U.ts (T.us ts)).map _ = _; rw [T.us_ts ts]; rfl
end
theorem T.us_eq : ∀ ts : List T, T.us ts = ts.map T.u
  | [] => rfl
  | t :: ts => by show t.u :: T.us ts = _; rw [T.us_eq ts]; rfl
mutual
theorem T.u_own : ∀ t : T, t.u.own = t.own
  | .sh d => rfl
  | .lst ts => rfl
  | .tup ts => T.us_own ts
  | .ins c ns ts => rfl
  | .dic ks ts => rfl
theorem T.us_own : ∀ ts : List T, U.owns (T.us ts) = T.owns ts
  | [] => rfl
  | t :: ts => by show (t.u.own || U.owns (T.us ts)) = _; rw [T.u_own t, T.us_own ts]; rfl
end
mutual
theorem U.t_u : ∀ {u : U} {t : T}, u.t = some t → t.u = u
  | .sh d, t, h => by cases h; rfl
  | .lst us, t, h => by obtain ⟨ts, h1, rfl⟩ := map_inv h; show U.lst (T.us ts) = _; rw [U.ts_us h1]
  | .tup us, t, h => by obtain ⟨ts, h1, rfl⟩ := map_inv h; show U.tup (T.us ts) = _; rw [U.ts_us h1]
  | .ins c ns us, t, h => by obtain ⟨ts, h1, rfl⟩ := map_inv h; show U.ins c ns (T.us ts) = _; rw [U.ts_us h1]
  | .dic ks us, t, h => by obtain ⟨ts, h1, rfl⟩ := map_inv h; show U.dic ks (T.us ts) = _; rw [U.ts_us h1]
  | .hole _, t, h => by cases h
theorem U.ts_us : ∀ {us : List U} {ts : List T}, U.ts us = some ts → T.us ts = us
  | [], ts, h => by cases h; rfl
  | u :: us, ts, h => by
    obtain ⟨t, h1, h⟩ := bnd h
    obtain ⟨ts', h2, rfl⟩ := map_inv h
    show t.u :: T.us ts' = _
    rw [U.t_u h1, U.ts_us h2]
end
mutual
inductive OwnU (C : Cfg) (η : Nat → Option V) (F H : Hp) : V → U → List Addr → Prop
  | sh {v : V} {d : D} : Dat C F v d → OwnU C η F H v (.sh d) []
  | lst {a : Addr} {vs : List V} {us : List U} {As : List Addr} : H a = some (.lst vs) → OwnUs C η F H vs us As → OwnU C η F H (.ref a) (.lst us) (a :: As)
  | tup {a : Addr} {vs : List V} {us : List U} {As : List Addr} : F a = some (.tup vs) → OwnUs C η F H vs us As → OwnU C η F H (.ref a) (.tup us) As
  | ins {a A dx : Addr} {c : Str} {ns : List Str} {vs : List V} {us : List U} {As : List Addr} : H a = some (.ins A dx (ns.zip vs)) → C.mg c = some (.ref A) → OwnUs C η F H vs us As → ns.length = us.length → OwnU C η F H (.ref a) (.ins c ns us) (a :: As)
  | dic {a : Addr} {ks : List Key} {vs : List V} {us : List U} {As : List Addr} : H a = some (.dK (ks.zip vs)) → OwnUs C η F H vs us As → ks.length = us.length → OwnU C η F H (.ref a) (.dic ks us) (a :: As)
  | hole {v : V} {o : Option Nat} : (∀ j, o = some j → η j = some v) → OwnU C η F H v (.hole o) []
inductive OwnUs (C : Cfg) (η : Nat → Option V) (F H : Hp) : List V → List U → List Addr → Prop
  | nil : OwnUs C η F H [] [] []
  | cons {v : V} {vs : List V} {u : U} {us : List U} {As Bs : List Addr} : OwnU C η F H v u As → OwnUs C η F H vs us Bs → OwnUs C η F H (v :: vs) (u :: us) (As ++ Bs)
end
section
variable {C : Cfg} {η η' : Nat → Option V} {F F' H H' : Hp}
mutual
theorem Own.u : ∀ {v : V} {t : T} {As : List Addr}, Own C F H v t As → OwnU C η F H v t.u As
  | _, _, _, .sh h => .sh h
  | _, _, _, .lst h hs => .lst h (Owns.u hs)
  | _, _, _, .tup h hs => .tup h (Owns.u hs)
  | _, _, _, .ins h hm hs hl => .ins h hm (Owns.u hs) (by rw [hl, T.us_eq, List.length_map])
  | _, _, _, .dic h hs hl => .dic h (Owns.u hs) (by rw [hl, T.us_eq, List.length_map])
theorem Owns.u : ∀ {vs : List V} {ts : List T} {As : List Addr}, Owns C F H vs ts As → OwnUs C η F H vs (T.us ts) As
  | _, _, _, .nil => .nil
  | _, _, _, .cons h hs => .cons (Own.u h) (Owns.u hs)
end
mutual
theorem OwnU.t : ∀ {v : V} {u : U} {As : List Addr} {t : T}, OwnU C η F H v u As → u.t = some t → Own C F H v t As
  | _, _, _, _, .sh h, e => by cases e; exact .sh h
  | _, .lst us, _, _, .lst h hs, e => by obtain ⟨ts, h1, rfl⟩ := map_inv e; exact .lst h (OwnUs.t hs h1)
  | _, .tup us, _, _, .tup h hs, e => by obtain ⟨ts, h1, rfl⟩ := map_inv e; exact .tup h (OwnUs.t hs h1)
  | _, .ins c ns us, _, _, .ins h hm hs hl, e => by
    obtain ⟨ts, h1, rfl⟩ := map_inv e
    exact .ins h hm (OwnUs.t hs h1) (by rw [hl, ← U.ts_us h1, T.us_eq, List.length_map])
  | _, .dic ks us, _, _, .dic h hs hl, e => by
    obtain ⟨ts, h1, rfl⟩ := map_inv e
    exact .dic h (OwnUs.t hs h1) (by rw [hl, ← U.ts_us h1, T.us_eq, List.length_map])
  | _, _, _, _, .hole _, e => by cases e
theorem OwnUs.t : ∀ {vs : List V} {us : List U} {As : List Addr} {ts : List T}, OwnUs C η F H vs us As → U.ts us = some ts → Owns C F H vs ts As
  | _, _, _, _, .nil, e => by cases e; exact .nil
  | _, _, _, _, .cons h hs, e => by
    obtain ⟨t, h1, e⟩ := bnd e
    obtain ⟨ts, h2, rfl⟩ := map_inv e
    exact .cons (OwnU.t h h1) (OwnUs.t hs h2)
end
mutual
theorem OwnU.mono (e : Same F F') : ∀ {v : V} {u : U} {As : List Addr}, (∀ a, a ∈ As → H' a = H a) → (∀ j, u.hol j = true → η' j = η j) → OwnU C η F H v u As → OwnU C η' F' H' v u As
  | _, _, _, _, _, .sh h => .sh (h.mono e)
  | _, _, _, k, n, .lst h hs => .lst ((k _ (List.mem_cons_self ..)).trans h) (OwnUs.mono e (fun a m => k a (List.mem_cons_of_mem _ m)) (fun j z => n j z) hs)
  | _, _, _, k, n, .tup h hs => .tup (e _ _ h) (OwnUs.mono e k (fun j z => n j z) hs)
  | _, _, _, k, n, .ins h hm hs hl => .ins ((k _ (List.mem_cons_self ..)).trans h) hm (OwnUs.mono e (fun a m => k a (List.mem_cons_of_mem _ m)) (fun j z => n j z) hs) hl
  | _, _, _, k, n, .dic h hs hl => .dic ((k _ (List.mem_cons_self ..)).trans h) (OwnUs.mono e (fun a m => k a (List.mem_cons_of_mem _ m)) (fun j z => n j z) hs) hl
  | _, _, _, k, n, .hole h => .hole fun j z => by
    rw [n j (by subst z; show (some j == some j) = true; simp)]; exact h j z
theorem OwnUs.mono (e : Same F F') : ∀ {vs : List V} {us : List U} {As : List Addr}, (∀ a, a ∈ As → H' a = H a) → (∀ j, U.hols j us = true → η' j = η j) → OwnUs C η F H vs us As → OwnUs C η' F' H' vs us As
  | _, _, _, _, _, .nil => .nil
  | _, _, _, k, n, .cons h hs => .cons (OwnU.mono e (fun a m => k a (List.mem_append_left _ m)) (fun j z => n j (Bool.or_eq_true_iff.mpr (.inl z))) h)
      (OwnUs.mono e (fun a m => k a (List.mem_append_right _ m)) (fun j z => n j (Bool.or_eq_true_iff.mpr (.inr z))) hs)
end
theorem OwnU.up (e : Same F F') {v : V} {u : U} {As : List Addr} (k : ∀ a, a ∈ As → H' a = H a) (h : OwnU C η F H v u As) : OwnU C η F' H' v u As := OwnU.mono e k (fun _ _ => rfl) h
theorem OwnUs.up (e : Same F F') {v : List V} {u : List U} {As : List Addr} (k : ∀ a, a ∈ As → H' a = H a) (h : OwnUs C η F H v u As) : OwnUs C η F' H' v u As := OwnUs.mono e k (fun _ _ => rfl) h
mutual
theorem OwnU.live : ∀ {v : V} {u : U} {As : List Addr}, OwnU C η F H v u As → ∀ a, a ∈ As → ∃ o, H a = some o
  | _, _, _, .sh _, _, m => by cases m
  | _, _, _, .hole _, _, m => by cases m
  | _, _, _, .lst h hs, a, m => by
    rcases List.mem_cons.mp m with rfl | m
    · exact ⟨_, h⟩
    · exact OwnUs.live hs a m
  | _, _, _, .tup h hs, a, m => OwnUs.live hs a m
  | _, _, _, .ins h _ hs _, a, m => by
    rcases List.mem_cons.mp m with rfl | m
    · exact ⟨_, h⟩
    · exact OwnUs.live hs a m
  | _, _, _, .dic h hs _, a, m => by
    rcases List.mem_cons.mp m with rfl | m
    · exact ⟨_, h⟩
    · exact OwnUs.live hs a m
theorem OwnUs.live : ∀ {vs : List V} {us : List U} {As : List Addr}, OwnUs C η F H vs us As → ∀ a, a ∈ As → ∃ o, H a = some o
  | _, _, _, .nil, _, m => by cases m
  | _, _, _, .cons h hs, a, m => by
    rcases List.mem_append.mp m with m | m
    · exact OwnU.live h a m
    · exact OwnUs.live hs a m
end
theorem OwnUs.length {vs : List V} {us : List U} {As : List Addr} (h : OwnUs C η F H vs us As) : vs.length = us.length := by
  induction vs generalizing us As with
  | nil => cases h; rfl
  | cons v vs ih => cases h with | cons h hs => simp [ih hs]
theorem OwnUs.append {vs ws : List V} {us xs : List U} {As Bs : List Addr} (h : OwnUs C η F H vs us As) (k : OwnUs C η F H ws xs Bs) : OwnUs C η F H (vs ++ ws) (us ++ xs) (As ++ Bs) := by
  induction vs generalizing us As with
  | nil => cases h; exact k
  | cons v vs ih =>
    cases h with
    | cons h hs =>
      rw [List.append_assoc]
      exact .cons h (ih hs)
mutual
theorem OwnU.shd : ∀ {v : V} {u : U} {As : List Addr}, OwnU C η F H v u As → u.own = false → ∃ t, u.t = some t ∧ Dat C F v t.d ∧ As = []
  | _, _, _, .sh h, _ => ⟨_, rfl, h, rfl⟩
  | _, _, _, .lst h hs, o => by cases o
  | _, .tup us, _, .tup h hs, o => by
    obtain ⟨ts, h1, h2, h3⟩ := OwnUs.shd hs o
    exact ⟨.tup ts, by show (U.ts us).map _ = _; rw [h1]; rfl, .tup h h2, h3⟩
  | _, _, _, .ins h hm hs hl, o => by cases o
  | _, _, _, .dic h hs hl, o => by cases o
  | _, _, _, .hole _, o => by cases o
theorem OwnUs.shd : ∀ {vs : List V} {us : List U} {As : List Addr}, OwnUs C η F H vs us As → U.owns us = false → ∃ ts, U.ts us = some ts ∧ Dats C F vs (T.ds ts) ∧ As = []
  | _, _, _, .nil, _ => ⟨[], rfl, .nil, rfl⟩
  | _, _, _, .cons h hs, o => by
    have o := Bool.or_eq_false_iff.mp o
    obtain ⟨t, k1, k2, k3⟩ := OwnU.shd h o.1
    obtain ⟨ts, k4, k5, k6⟩ := OwnUs.shd hs o.2
    exact ⟨t :: ts, by show (Option.bind _ _) = _; rw [k1]; show (U.ts _).map _ = _; rw [k4]; rfl, .cons k2 k5, by rw [k3, k6]; rfl⟩
end
theorem OwnUs.shs {vs : List V} {ds : List D} (h : Dats C F vs ds) : OwnUs C η F H vs (ds.map U.sh) [] := by
  induction vs generalizing ds with
  | nil => cases h; exact .nil
  | cons v vs ih => cases h with | cons h hs => exact .cons (As := []) (.sh h) (ih hs)
theorem hols_mem {j : Nat} : ∀ {us : List U}, U.hols j us = true → ∃ w, w ∈ us ∧ w.hol j = true
  | [], h => by cases h
  | u :: us, h => by
    rcases Bool.or_eq_true_iff.mp h with h | h
    · exact ⟨u, List.mem_cons_self .., h⟩
    · obtain ⟨w, h1, h2⟩ := hols_mem h
      exact ⟨w, List.mem_cons_of_mem _ h1, h2⟩
/-- one of several -/
theorem OwnUs.get : ∀ {vs : List V} {us : List U} {As : List Addr} {i : Nat} {u : U}, OwnUs C η F H vs us As → us[i]? = some u → ∃ v Bs, vs[i]? = some v ∧ OwnU C η F H v u Bs ∧ Bs.Sublist As ∧
    ∀ {η' : Nat → Option V} {F' H' : Hp} {u' : U} {Bs' : List Addr}, Same F F' → (∀ a, a ∈ As → a ∉ Bs → H' a = H a) → As.Nodup → (∀ j w, w ∈ us → w.hol j = true → η' j = η j) → OwnU C η' F' H' v u' Bs' →
      ∃ As', OwnUs C η' F' H' vs (us.set i u') As' ∧ (∀ a, a ∈ As' ↔ a ∈ Bs' ∨ (a ∈ As ∧ a ∉ Bs)) ∧ (Bs'.Nodup → (∀ a, a ∈ Bs' → a ∈ As → a ∈ Bs) → As'.Nodup)
  | [], [], _, _, _, .nil, e => by simp at e
  | v :: vs, w :: us, _, 0, u, .cons (As := A1) (Bs := B1) h hs, e => by
    cases e
    refine ⟨v, _, rfl, h, List.sublist_append_left _ _, fun {η' F' H' u' Bs'} s k nd n h' => ⟨Bs' ++ B1, .cons h' (OwnUs.mono s (fun a m => ?_) (fun j z => ?_) hs), fun a => ?_, fun n1 n2 => ?_⟩⟩
    · exact k a (List.mem_append_right _ m) fun z => (List.nodup_append.mp nd).2.2 a z a m rfl
    · obtain ⟨x, hx, z⟩ := hols_mem z
      exact n j x (List.mem_cons_of_mem _ hx) z
    · constructor
      · intro m
        rcases List.mem_append.mp m with m | m
        · exact .inl m
        · exact .inr ⟨List.mem_append_right _ m, fun z => (List.nodup_append.mp nd).2.2 a z a m rfl⟩
      · rintro (m | ⟨m, q⟩)
        · exact List.mem_append_left _ m
        · rcases List.mem_append.mp m with m | m
          · exact absurd m q
          · exact List.mem_append_right _ m
    · refine List.nodup_append.mpr ⟨n1, (List.nodup_append.mp nd).2.1, fun x hx y hy e => ?_⟩
      subst e
      exact (List.nodup_append.mp nd).2.2 x (n2 x hx (List.mem_append_right _ hy)) x hy rfl
  | v :: vs, w :: us, _, i + 1, u, .cons (As := A1) (Bs := B1) h hs, e => by
    obtain ⟨v', Bs, h1, h2, h3, h4⟩ := OwnUs.get hs (i := i) (by simpa using e)
    refine ⟨v', Bs, by simpa using h1, h2, h3.trans (List.sublist_append_right _ _), fun {η' F' H' u' Bs'} s k nd n h' => ?_⟩
    have nd' := List.nodup_append.mp nd
    obtain ⟨As', k1, k2, k3⟩ := h4 (η' := η') (F' := F') (H' := H') (u' := u') (Bs' := Bs') s (fun a m q => k a (List.mem_append_right _ m) q) nd'.2.1 (fun j w m => n j w (List.mem_cons_of_mem _ m)) h'
    refine ⟨A1 ++ As', .cons (OwnU.mono s (fun a m => k a (List.mem_append_left _ m) fun z => nd'.2.2 a m a (h3.subset z) rfl) (fun j z => n j w (List.mem_cons_self ..) z) h) k1, fun a => ?_, fun n1 n2 => ?_⟩
    · constructor
      · intro m
        rcases List.mem_append.mp m with m | m
        · exact .inr ⟨List.mem_append_left _ m, fun z => nd'.2.2 a m a (h3.subset z) rfl⟩
        · rcases (k2 a).mp m with m | m
          · exact .inl m
          · exact .inr ⟨List.mem_append_right _ m.1, m.2⟩
      · rintro (m | ⟨m, q⟩)
        · exact List.mem_append_right _ ((k2 a).mpr (.inl m))
        · rcases List.mem_append.mp m with m | m
          · exact List.mem_append_left _ m
          · exact List.mem_append_right _ ((k2 a).mpr (.inr ⟨m, q⟩))
    · refine List.nodup_append.mpr ⟨nd'.1, k3 n1 fun a m z => n2 a m (List.mem_append_right _ z), fun x hx y hy e => ?_⟩
      subst e
      rcases (k2 x).mp hy with m | m
      · have := h3.subset (n2 x m (List.mem_append_left _ hx))
        exact nd'.2.2 x hx x this rfl
      · exact nd'.2.2 x hx x m.1 rfl
end
end Eng
/-! X B: places in trees. -/
namespace Eng
open PySem L2
def findIx {α : Type} [DecidableEq α] (k : α) : List α → Option Nat
  | [] => none
  | x :: xs => if x = k then some 0 else (findIx k xs).map (· + 1)
inductive Stp where
  | fld (f : Str) | ix (k : Nat) | key (k : Key)
def U.pos : U → Stp → Option Nat
  | .ins _ ns _, .fld f => findIx f ns
  | .lst _, .ix k => some k
  | .tup _, .ix k => some k
  | .dic ks _, .key k => findIx k ks
  | _, _ => none
def U.kids : U → List U
  | .lst us => us
  | .tup us => us
  | .ins _ _ us => us
  | .dic _ us => us
  | _ => []
def U.wk : U → List U → U
  | .lst _, us => .lst us
  | .tup _, us => .tup us
  | .ins c ns _, us => .ins c ns us
  | .dic ks _, us => .dic ks us
  | u, _ => u
def U.atP : U → List Stp → Option U
  | u, [] => some u
  | u, s :: p => (u.pos s).bind fun i => (u.kids[i]?).bind fun w => w.atP p
def U.putP : U → List Stp → U → U
  | _, [], w => w
  | u, s :: p, w => match u.pos s with
    | some i => (match u.kids[i]? with
      | some x => u.wk (u.kids.set i (x.putP p w))
      | none => u)
    | none => u
section
variable {C : Cfg} {η : Nat → Option V} {F H : Hp}
theorem findIx_cons {α : Type} [DecidableEq α] (k x : α) (xs : List α) : findIx k (x :: xs) = if x = k then some 0 else (findIx k xs).map (· + 1) := rfl
theorem findIx_lt {α : Type} [DecidableEq α] {k : α} : ∀ {xs : List α} {i : Nat}, findIx k xs = some i → i < xs.length
  | [], _, h => by cases h
  | x :: xs, i, h => by
    rw [findIx_cons] at h
    split at h
    · cases h; exact Nat.zero_lt_succ _
    · obtain ⟨j, h1, rfl⟩ := map_inv h
      exact Nat.succ_lt_succ (findIx_lt h1)
theorem lookup_zip {β : Type} {f : Str} : ∀ {ns : List Str} {vs : List β}, ns.length = vs.length → (ns.zip vs).lookup f = (findIx f ns).bind fun i => vs[i]?
  | [], _, _ => rfl
  | n :: ns, [], h => by cases h
  | n :: ns, v :: vs, h => by
    rw [List.zip_cons_cons, List.lookup_cons]
    rw [findIx_cons]
    by_cases hn : n = f
    · rw [if_pos hn, show (f == n) = true by rw [hn]; simp]
      rfl
    · rw [if_neg hn, show (f == n) = false from beq_eq_false_iff_ne.mpr fun z => hn z.symm]
      simp only
      rw [lookup_zip (ns := ns) (by simpa using h)]
      cases findIx f ns <;> rfl
theorem val_zip {k : Key} : ∀ {ks : List Key} {vs : List V}, ks.length = vs.length → valV (ks.zip vs) k = (findIx k ks).bind fun i => vs[i]?
  | [], _, _ => rfl
  | n :: ns, [], h => by cases h
  | n :: ns, v :: vs, h => by
    rw [findIx_cons]
    by_cases hn : n = k
    · rw [if_pos hn, List.zip_cons_cons, valV_pos hn]; rfl
    · rw [if_neg hn, List.zip_cons_cons, valV_neg hn, val_zip (ks := ns) (by simpa using h)]
      cases findIx k ns <;> rfl
theorem putF_zip {f : Str} {y : V} : ∀ {ns : List Str} {vs : List V}, ns.length = vs.length → putF f y (ns.zip vs) = match findIx f ns with
    | some i => ns.zip (vs.set i y)
    | none => (ns ++ [f]).zip (vs ++ [y])
  | [], [], _ => rfl
  | n :: ns, [], h => by cases h
  | n :: ns, v :: vs, h => by
    rw [findIx_cons]
    rw [List.zip_cons_cons]
    unfold putF
    by_cases hn : n = f
    · rw [if_pos hn, if_pos hn]; rfl
    · rw [if_neg hn, if_neg hn, putF_zip (ns := ns) (by simpa using h)]
      cases findIx f ns <;> rfl
theorem any_zip {k : Key} : ∀ {ks : List Key} {vs : List V}, ks.length = vs.length → ((ks.zip vs).any fun kv => decide (kv.1 = k)) = (findIx k ks).isSome
  | [], [], _ => rfl
  | n :: ns, [], h => by cases h
  | n :: ns, v :: vs, h => by
    rw [List.zip_cons_cons, List.any_cons, any_zip (ks := ns) (by simpa using h)]
    rw [findIx_cons]
    by_cases hn : n = k
    · simp [hn]
    · simp [hn]
theorem map_zip_ne {k : Key} {y : V} : ∀ {ks : List Key} {vs : List V}, (∀ x, x ∈ ks → x ≠ k) → (ks.zip vs).map (fun kv => if kv.1 = k then (kv.1, y) else kv) = ks.zip vs
  | [], _, _ => rfl
  | n :: ns, [], _ => rfl
  | n :: ns, v :: vs, h => by
    rw [List.zip_cons_cons, List.map_cons, map_zip_ne fun x m => h x (List.mem_cons_of_mem _ m)]
    rw [if_neg (h n (List.mem_cons_self ..))]
theorem putK_zip {k : Key} {y : V} : ∀ {ks : List Key} {vs : List V}, ks.length = vs.length → ks.Nodup → putK (ks.zip vs) k y = match findIx k ks with
    | some i => ks.zip (vs.set i y)
    | none => (ks ++ [k]).zip (vs ++ [y]) := by
  intro ks vs hl hd
  unfold putK
  rw [any_zip hl]
  cases q : findIx k ks with
  | none =>
    rw [if_neg (by simp)]
    show ks.zip vs ++ [(k, y)] = (ks ++ [k]).zip (vs ++ [y])
    rw [List.zip_append hl]; rfl
  | some i =>
    rw [if_pos (show (some i).isSome = true from rfl)]
    show _ = ks.zip (vs.set i y)
    induction ks generalizing vs i with
    | nil => cases q
    | cons n ns ih =>
      cases vs with
      | nil => cases hl
      | cons v vs =>
        rw [List.zip_cons_cons, List.map_cons]
        have hd' := List.nodup_cons.mp hd
        rw [findIx_cons] at q
        by_cases hn : n = k
        · rw [if_pos hn] at q
          cases q
          rw [if_pos hn, map_zip_ne fun x m z => hd'.1 (by rw [hn, ← z]; exact m)]; rfl
        · rw [if_neg hn] at q
          obtain ⟨j, h1, rfl⟩ := map_inv q
          rw [if_neg hn, ih (by simpa using hl) hd'.2 j h1]; rfl
/-- the value of a step -/
def StepV (C : Cfg) (F H : Hp) (v : V) : Stp → V → Prop
  | .fld f, x => ∃ a A dx fs c, v = .ref a ∧ H a = some (.ins A dx fs) ∧ C.mg c = some (.ref A) ∧ fs.lookup f = some x
  | .ix k, x => ∃ a vs, v = .ref a ∧ (H a = some (.lst vs) ∨ F a = some (.tup vs)) ∧ vs[k]? = some x
  | .key k, x => ∃ a kvs, v = .ref a ∧ H a = some (.dK kvs) ∧ valV kvs k = some x
theorem hol_kids {u w : U} {j : Nat} (h : w ∈ u.kids) (z : w.hol j = true) : u.hol j = true := by
  have key : ∀ {us : List U}, w ∈ us → U.hols j us = true := by
    intro us m
    induction us with
    | nil => cases m
    | cons x xs ih =>
      rcases List.mem_cons.mp m with rfl | m
      · exact Bool.or_eq_true_iff.mpr (.inl z)
      · exact Bool.or_eq_true_iff.mpr (.inr (ih m))
  cases u with
  | sh d => cases h
  | hole o => cases h
  | lst us => exact key h
  | tup us => exact key h
  | ins c ns us => exact key h
  | dic ks us => exact key h
/-- one step into a tree -/
theorem focus1 {v : V} {u w : U} {As : List Addr} {s : Stp} {i : Nat} (h : OwnU C η F H v u As) (nd : As.Nodup) (e : u.pos s = some i) (e2 : u.kids[i]? = some w) :
    ∃ x Bs, StepV C F H v s x ∧ OwnU C η F H x w Bs ∧ (∀ a, a ∈ Bs → a ∈ As) ∧ Bs.Nodup ∧
      ∀ {η' : Nat → Option V} {F' H' : Hp} {w' : U} {Bs' : List Addr}, Same F F' → (∀ a, a ∈ As → a ∉ Bs → H' a = H a) → (∀ j, u.hol j = true → η' j = η j) → OwnU C η' F' H' x w' Bs' → Bs'.Nodup → (∀ a, a ∈ Bs' → a ∈ As → a ∈ Bs) →
        ∃ As', OwnU C η' F' H' v (u.wk (u.kids.set i w')) As' ∧ (∀ a, a ∈ As' ↔ a ∈ Bs' ∨ (a ∈ As ∧ a ∉ Bs)) ∧ As'.Nodup := by
  have rest : ∀ {vs : List V} {us : List U} {As1 : List Addr} (hs : OwnUs C η F H vs us As1), us[i]? = some w → As1.Nodup → (∀ j x, x ∈ us → x.hol j = true → u.hol j = true) →
      ∃ x Bs, vs[i]? = some x ∧ OwnU C η F H x w Bs ∧ (∀ a, a ∈ Bs → a ∈ As1) ∧ Bs.Nodup ∧
        ∀ {η' : Nat → Option V} {F' H' : Hp} {w' : U} {Bs' : List Addr}, Same F F' → (∀ a, a ∈ As1 → a ∉ Bs → H' a = H a) → (∀ j, u.hol j = true → η' j = η j) → OwnU C η' F' H' x w' Bs' → Bs'.Nodup → (∀ a, a ∈ Bs' → a ∈ As1 → a ∈ Bs) →
          ∃ As', OwnUs C η' F' H' vs (us.set i w') As' ∧ (∀ a, a ∈ As' ↔ a ∈ Bs' ∨ (a ∈ As1 ∧ a ∉ Bs)) ∧ As'.Nodup := by
    intro vs us As1 hs hi nd1 hu
    obtain ⟨x, Bs, h1, h2, h3, h4⟩ := hs.get hi
    exact ⟨x, Bs, h1, h2, fun a m => h3.subset m, nd1.sublist h3, fun s k n h' n1 n2 => by
      obtain ⟨As', k1, k2, k3⟩ := h4 s k nd1 (fun j x m z => n j (hu j x m z)) h'
      exact ⟨As', k1, k2, k3 n1 n2⟩⟩
  cases h with
  | sh h => cases e
  | hole h => cases e
  | @lst a vs us As1 ha hs =>
    have nd' := List.nodup_cons.mp nd
    cases s with
    | ix k =>
      cases e
      obtain ⟨x, Bs, h1, h2, h3, h4, h5⟩ := rest hs e2 nd'.2 fun j x m z => hol_kids (u := .lst us) m z
      refine ⟨x, Bs, ⟨a, vs, rfl, .inl ha, h1⟩, h2, fun b m => List.mem_cons_of_mem _ (h3 b m), h4, fun s k n h' n1 n2 => ?_⟩
      obtain ⟨As', k1, k2, k3⟩ := h5 s (fun b m q => k b (List.mem_cons_of_mem _ m) q) n h' n1 fun b m q => n2 b m (List.mem_cons_of_mem _ q)
      have na : a ∉ As' := fun m => (k2 a).mp m |>.elim (fun m => nd'.1 (h3 a (n2 a m (List.mem_cons_self ..)))) fun m => nd'.1 m.1
      refine ⟨a :: As', .lst ((k a (List.mem_cons_self ..) fun z => nd'.1 (h3 a z)).trans ha) k1, fun b => ?_, List.nodup_cons.mpr ⟨na, k3⟩⟩
      rw [List.mem_cons, k2 b, List.mem_cons]
      constructor
      · rintro (rfl | m | m)
        · exact .inr ⟨.inl rfl, fun z => nd'.1 (h3 _ z)⟩
        · exact .inl m
        · exact .inr ⟨.inr m.1, m.2⟩
      · rintro (m | ⟨rfl | m, q⟩)
        · exact .inr (.inl m)
        · exact .inl rfl
        · exact .inr (.inr ⟨m, q⟩)
    | fld f => cases e
    | key k => cases e
  | @tup a vs us As1 ha hs =>
    cases s with
    | ix k =>
      cases e
      obtain ⟨x, Bs, h1, h2, h3, h4, h5⟩ := rest hs e2 nd fun j x m z => hol_kids (u := .tup us) m z
      refine ⟨x, Bs, ⟨a, vs, rfl, .inr ha, h1⟩, h2, h3, h4, fun s k n h' n1 n2 => ?_⟩
      obtain ⟨As', k1, k2, k3⟩ := h5 s k n h' n1 n2
      exact ⟨As', .tup (s _ _ ha) k1, k2, k3⟩
    | fld f => cases e
    | key k => cases e
  | @ins a A dx c ns vs us As1 ha hm hs hl =>
    have nd' := List.nodup_cons.mp nd
    cases s with
    | fld f =>
      have e : findIx f ns = some i := e
      obtain ⟨x, Bs, h1, h2, h3, h4, h5⟩ := rest hs e2 nd'.2 fun j x m z => hol_kids (u := .ins c ns us) m z
      refine ⟨x, Bs, ⟨a, A, dx, _, c, rfl, ha, hm, ?_⟩, h2, fun b m => List.mem_cons_of_mem _ (h3 b m), h4, fun s k n h' n1 n2 => ?_⟩
      · rw [lookup_zip (by rw [hl, hs.length]), e]; exact h1
      obtain ⟨As', k1, k2, k3⟩ := h5 s (fun b m q => k b (List.mem_cons_of_mem _ m) q) n h' n1 fun b m q => n2 b m (List.mem_cons_of_mem _ q)
      have na : a ∉ As' := fun m => (k2 a).mp m |>.elim (fun m => nd'.1 (h3 a (n2 a m (List.mem_cons_self ..)))) fun m => nd'.1 m.1
      refine ⟨a :: As', .ins ((k a (List.mem_cons_self ..) fun z => nd'.1 (h3 a z)).trans ha) hm k1 (by rw [hl]; simp [U.kids]), fun b => ?_, List.nodup_cons.mpr ⟨na, k3⟩⟩
      rw [List.mem_cons, k2 b, List.mem_cons]
      constructor
      · rintro (rfl | m | m)
        · exact .inr ⟨.inl rfl, fun z => nd'.1 (h3 _ z)⟩
        · exact .inl m
        · exact .inr ⟨.inr m.1, m.2⟩
      · rintro (m | ⟨rfl | m, q⟩)
        · exact .inr (.inl m)
        · exact .inl rfl
        · exact .inr (.inr ⟨m, q⟩)
    | ix k => cases e
    | key k => cases e
  | @dic a ks vs us As1 ha hs hl =>
    have nd' := List.nodup_cons.mp nd
    cases s with
    | key f =>
      have e : findIx f ks = some i := e
      obtain ⟨x, Bs, h1, h2, h3, h4, h5⟩ := rest hs e2 nd'.2 fun j x m z => hol_kids (u := .dic ks us) m z
      refine ⟨x, Bs, ⟨a, _, rfl, ha, ?_⟩, h2, fun b m => List.mem_cons_of_mem _ (h3 b m), h4, fun s k n h' n1 n2 => ?_⟩
      · rw [val_zip (by rw [hl, hs.length]), e]; exact h1
      obtain ⟨As', k1, k2, k3⟩ := h5 s (fun b m q => k b (List.mem_cons_of_mem _ m) q) n h' n1 fun b m q => n2 b m (List.mem_cons_of_mem _ q)
      have na : a ∉ As' := fun m => (k2 a).mp m |>.elim (fun m => nd'.1 (h3 a (n2 a m (List.mem_cons_self ..)))) fun m => nd'.1 m.1
      refine ⟨a :: As', .dic ((k a (List.mem_cons_self ..) fun z => nd'.1 (h3 a z)).trans ha) k1 (by rw [hl]; simp [U.kids]), fun b => ?_, List.nodup_cons.mpr ⟨na, k3⟩⟩
      rw [List.mem_cons, k2 b, List.mem_cons]
      constructor
      · rintro (rfl | m | m)
        · exact .inr ⟨.inl rfl, fun z => nd'.1 (h3 _ z)⟩
        · exact .inl m
        · exact .inr ⟨.inr m.1, m.2⟩
      · rintro (m | ⟨rfl | m, q⟩)
        · exact .inr (.inl m)
        · exact .inl rfl
        · exact .inr (.inr ⟨m, q⟩)
    | ix k => cases e
    | fld k => cases e
/-- the value of a way -/
def WayV (C : Cfg) (F H : Hp) : V → List Stp → V → Prop
  | v, [], x => v = x
  | v, s :: p, x => ∃ y, StepV C F H v s y ∧ WayV C F H y p x
theorem hol_put {j : Nat} : ∀ {p : List Stp} {u w : U}, (u.putP p w).hol j = true → u.hol j = true ∨ w.hol j = true
  | [], _, _, h => .inr h
  | s :: p, u, w, h => by
    unfold U.putP at h
    split at h
    · split at h
      · rename_i i hi _ x hx
        have key : ∀ {us : List U}, U.hols j (us.set i (x.putP p w)) = true → U.hols j us = true ∨ (x.putP p w).hol j = true := by
          intro us h
          obtain ⟨y, hy, hz⟩ := hols_mem h
          rcases List.mem_or_eq_of_mem_set hy with hy2 | rfl
          · refine .inl ?_
            clear h hy
            have hy := hy2
            clear hy2
            induction us with
            | nil => cases hy
            | cons z zs ih =>
              rcases List.mem_cons.mp hy with rfl | hy
              · exact Bool.or_eq_true_iff.mpr (.inl hz)
              · exact Bool.or_eq_true_iff.mpr (.inr (ih hy))
          · exact .inr hz
        have fin : ∀ {us : List U}, x ∈ us → (U.hols j us = true ∨ (x.putP p w).hol j = true) → U.hols j us = true ∨ w.hol j = true := by
          intro us hm h
          rcases h with h | h
          · exact .inl h
          · rcases hol_put h with h | h
            · refine .inl ?_
              clear key
              induction us with
              | nil => cases hm
              | cons z zs ih =>
                rcases List.mem_cons.mp hm with rfl | hm
                · exact Bool.or_eq_true_iff.mpr (.inl h)
                · exact Bool.or_eq_true_iff.mpr (.inr (ih hm))
            · exact .inr h
        have hmem := List.mem_of_getElem? hx
        cases u with
        | sh d => cases hmem
        | hole o => cases hmem
        | lst us => exact fin hmem (key h)
        | tup us => exact fin hmem (key h)
        | ins c ns us => exact fin hmem (key h)
        | dic ks us => exact fin hmem (key h)
      · exact .inl h
    · exact .inl h
/-- a way into a tree -/
theorem focus : ∀ {p : List Stp} {v : V} {u w : U} {As : List Addr}, OwnU C η F H v u As → As.Nodup → u.atP p = some w →
    ∃ x Bs, WayV C F H v p x ∧ OwnU C η F H x w Bs ∧ (∀ a, a ∈ Bs → a ∈ As) ∧ Bs.Nodup ∧
      ∀ {η' : Nat → Option V} {F' H' : Hp} {w' : U} {Bs' : List Addr}, Same F F' → (∀ a, a ∈ As → a ∉ Bs → H' a = H a) → (∀ j, u.hol j = true → η' j = η j) → OwnU C η' F' H' x w' Bs' → Bs'.Nodup → (∀ a, a ∈ Bs' → a ∈ As → a ∈ Bs) →
        ∃ As', OwnU C η' F' H' v (u.putP p w') As' ∧ (∀ a, a ∈ As' ↔ a ∈ Bs' ∨ (a ∈ As ∧ a ∉ Bs)) ∧ As'.Nodup
  | [], v, u, w, As, h, nd, e => by
    cases e
    refine ⟨v, As, rfl, h, fun a m => m, nd, fun s k n h' n1 n2 => ⟨_, h', fun a => ?_, n1⟩⟩
    exact ⟨.inl, fun z => z.elim id fun z => absurd z.1 z.2⟩
  | s :: p, v, u, w, As, h, nd, e => by
    obtain ⟨i, e1, e⟩ := bnd e
    obtain ⟨y, e2, e⟩ := bnd e
    obtain ⟨x1, B1, h1, h2, h3, h4, h5⟩ := focus1 h nd e1 e2
    obtain ⟨x2, B2, k1, k2, k3, k4, k5⟩ := focus h2 h4 e
    refine ⟨x2, B2, ⟨x1, h1, k1⟩, k2, fun a m => h3 a (k3 a m), k4, fun {η' F' H' w' Bs'} s' k n h' n1 n2 => ?_⟩
    obtain ⟨A1, g1, g2, g3⟩ := k5 s' (fun a m q => k a (h3 a m) q) (fun j z => n j (hol_kids (List.mem_of_getElem? e2) z)) h' n1 fun a m q => n2 a m (h3 a q)
    obtain ⟨A2, f1, f2, f3⟩ := h5 (η' := η') (F' := F') (H' := H') (w' := y.putP p w') (Bs' := A1) s' (fun a m q => k a m fun z => q (k3 a z)) n g1 g3 fun a m q => by
      rcases (g2 a).mp m with m | m
      · exact k3 a (n2 a m q)
      · exact m.1
    refine ⟨A2, ?_, fun a => ?_, f3⟩
    · have : u.putP (s :: p) w' = u.wk (u.kids.set i (y.putP p w')) := by
        conv => lhs; unfold U.putP
        rw [e1]; simp only []; rw [e2]
      rw [this]; exact f1
    · rw [f2 a, g2 a]
      constructor
      · rintro ((m | m) | m)
        · exact .inl m
        · exact .inr ⟨h3 a m.1, m.2⟩
        · exact .inr ⟨m.1, fun z => m.2 (k3 a z)⟩
      · rintro (m | ⟨m, q⟩)
        · exact .inl (.inl m)
        · by_cases hb : a ∈ B1
          · exact .inl (.inr ⟨hb, q⟩)
          · exact .inr ⟨m, hb⟩
end
end Eng
/-! X C: slots of trees with holes; what an evaluation leaves. -/
namespace Eng
open PySem L2
abbrev Rh := List (Option U)
/-- the heap at the beginning; what holes hold -/
structure Gh where
  h : Hp
  η : Nat → Option V
structure RepX (C : Cfg) (H0 : Gh) (B : Addr → Prop) (AA : Nat → List Addr) (H : Hp) (σ : L2.St) (ρ : Rh) : Prop where
  same : Same H0.h H
  bs : ∀ a, B a → nTup H a
  new : ∀ i a, a ∈ AA i → H0.h a = none ∧ nTup H a ∧ ¬ B a
  nd : ∀ i, (AA i).Nodup
  dj : ∀ i j a, a ∈ AA i → a ∈ AA j → i = j
  slot : ∀ i t, ρ[i]? = some (some t) → ∃ v, σ[i]? = some (some v) ∧ OwnU C (H0.η) (hid H (ZZ B AA)) H v t (AA i)
  len : ρ.length = σ.length
/-- how an evaluation may change the heap: slots' parts, new nodes -/
structure Mov (AA : Nat → List Addr) (H : Hp) (AA' : Nat → List Addr) (As : List Addr) (H' : Hp) : Prop where
  fr : ∀ a o, H a = some o → (∀ i, a ∉ AA i) → H' a = some o
  sub : ∀ a, (a ∈ As ∨ ∃ i, a ∈ AA' i) → (∃ i, a ∈ AA i) ∨ H a = none
section
variable {C : Cfg} {H0 : Gh} {H H1 H2 H' : Hp} {B B' : Addr → Prop} {AA AA1 AA2 AA' : Nat → List Addr} {σ : L2.St} {ρ ρ1 ρ2 : Rh} {As Bs : List Addr} {v : V} {vs : List V}
theorem RepX.z (R : RepX C H0 B AA H σ ρ) : ∀ a, ZZ B AA a → nTup H a := fun a q => q.elim (R.bs a) fun ⟨i, m⟩ => (R.new i a m).2.1
theorem nTup.some {H : Hp} {a : Addr} (h : nTup H a) : H a ≠ none := fun z => by obtain ⟨o, h1, _⟩ := h; rw [z] at h1; cases h1
theorem RepX.grow (R : RepX C H0 B AA H σ ρ) (e : Same H H') (k : ∀ a, a ∈ As → H a = none ∧ nTup H' a) : RepX C H0 (Zp B As) AA H' σ ρ := by
  refine ⟨R.same.trans e, fun a q => q.elim (fun q => (R.bs a q).mono e) fun m => (k a m).2, fun i a m => ⟨(R.new i a m).1, (R.new i a m).2.1.mono e, fun q => ?_⟩, R.nd, R.dj, fun i t h => ?_, R.len⟩
  · rcases q with q | q
    · exact (R.new i a m).2.2 q
    · exact (R.new i a m).2.1.some (k a q).1
  · obtain ⟨v, h1, h2⟩ := R.slot i t h
    refine ⟨v, h1, h2.up (hid_mono e fun a o h q => ?_) fun a m => ?_⟩
    · rcases q with (q | q) | q
      · exact .inl q
      · rw [(k a q).1] at h; cases h
      · exact .inr q
    · obtain ⟨o, h⟩ := h2.live a m
      rw [h, e _ _ h]
theorem RepX.mono (R : RepX C H0 B AA H σ ρ) (e : Same H H') : RepX C H0 B AA H' σ ρ := by
  have := R.grow (As := []) e fun _ m => by cases m
  rwa [Zp_nil] at this
theorem RepX.weak (R : RepX C H0 B AA H σ ρ) (k : ∀ a, B' a → B a) : RepX C H0 B' AA H σ ρ :=
  ⟨R.same, fun a q => R.bs a (k a q), fun i a m => ⟨(R.new i a m).1, (R.new i a m).2.1, fun q => (R.new i a m).2.2 (k a q)⟩, R.nd, R.dj, fun i t h => by
    obtain ⟨v, h1, h2⟩ := R.slot i t h
    exact ⟨v, h1, h2.up (hid_mono (Same.refl _) fun a o _ q => q.elim (fun q => .inl (k a q)) .inr) fun _ _ => rfl⟩, R.len⟩
theorem RepX.drop (R : RepX C H0 (Zp B As) AA H σ ρ) : RepX C H0 B AA H σ ρ := R.weak fun a q => .inl q
theorem Mov.refl : Mov AA H AA [] H := ⟨fun _ _ h _ => h, fun a q => q.elim (fun q => by cases q) .inl⟩
theorem Mov.same (e : Same H H') (k : ∀ a, a ∈ As → H a = none) : Mov AA H AA As H' := ⟨fun a o h _ => e a o h, fun a q => q.elim (fun q => .inr (k a q)) .inl⟩
theorem Mov.trans (m : Mov AA H AA1 Bs H1) (k : Mov AA1 H1 AA2 As H2) : Mov AA H AA2 As H2 := by
  have f : ∀ a o, H a = some o → (∀ i, a ∉ AA i) → ∀ i, a ∉ AA1 i := fun a o h q i z => by
    rcases m.sub a (.inr ⟨i, z⟩) with ⟨j, y⟩ | y
    · exact q j y
    · rw [h] at y; cases y
  refine ⟨fun a o h q => k.fr a o (m.fr a o h q) (f a o h q), fun a q => ?_⟩
  rcases k.sub a q with ⟨i, y⟩ | y
  · exact m.sub a (.inr ⟨i, y⟩)
  · by_cases hq : ∃ i, a ∈ AA i
    · exact .inl hq
    · refine .inr ?_
      cases h : H a with
      | none => rfl
      | some o => rw [m.fr a o h fun i z => hq ⟨i, z⟩] at y; cases y
theorem Mov.hd (m : Mov AA H AA' As H') : Same (hid H (ZZ B AA)) (hid H' (Zp (ZZ B AA') As)) := fun a o h => by
  obtain ⟨h1, h2⟩ := hid_some.mp h
  have n : ∀ i, a ∉ AA i := fun i z => h1 (.inr ⟨i, z⟩)
  refine hid_some.mpr ⟨fun q => ?_, m.fr a o h2 n⟩
  have : (∃ i, a ∈ AA i) ∨ H a = none ∨ B a := by
    rcases q with (q | q) | q
    · exact .inr (.inr q)
    · exact (m.sub a (.inr q)).imp id .inl
    · exact (m.sub a (.inl q)).imp id .inl
  rcases this with ⟨i, z⟩ | z | z
  · exact n i z
  · rw [h2] at z; cases z
  · exact h1 (.inl z)
theorem Mov.hd0 (m : Mov AA H AA' As H') : Same (hid H (ZZ B AA)) (hid H' (ZZ B AA')) := (m.hd (B := B)).trans (hid_mono (Same.refl _) fun _ _ _ z => .inl z)
theorem Mov.nil (m : Mov AA H AA' As H') : Mov AA H AA' [] H' := ⟨m.fr, fun a q => q.elim (fun q => by cases q) fun q => m.sub a (.inr q)⟩
abbrev Val := U × Bool
inductive OwnVs (C : Cfg) (η : Nat → Option V) (F H : Hp) (P : Addr → Prop) : List V → List Val → List Addr → Prop
  | nil : OwnVs C η F H P [] [] []
  | own {v : V} {vs : List V} {u : U} {us : List Val} {As Bs : List Addr} : OwnU C η F H v u As → OwnVs C η F H P vs us Bs → OwnVs C η F H P (v :: vs) ((u, true) :: us) (As ++ Bs)
  | bor {v : V} {vs : List V} {u : U} {us : List Val} {Cs Bs : List Addr} : OwnU C η F H v u Cs → (∀ a, a ∈ Cs → P a) → OwnVs C η F H P vs us Bs → OwnVs C η F H P (v :: vs) ((u, false) :: us) Bs
def allS (us : List Val) : Bool := us.all (·.2)
def U.d (u : U) : Option D := u.t.map T.d
def dsV : List Val → Option (List D)
  | [] => some []
  | u :: us => u.1.d.bind fun d => (dsV us).map fun ds => d :: ds
theorem OwnVs.up {η : Nat → Option V} {F F' : Hp} {P P' : Addr → Prop} (e : Same F F') (p : ∀ a, P a → P' a) : ∀ {vs : List V} {us : List Val} {As : List Addr}, (∀ a, a ∈ As → H' a = H a) → (allS us = false → ∀ a, P a → H' a = H a) → OwnVs C η F H P vs us As → OwnVs C η F' H' P' vs us As
  | _, _, _, k, q, .nil => .nil
  | _, _, _, k, q, .own h hs => .own (h.up e fun a m => k a (List.mem_append_left _ m)) (OwnVs.up e p (fun a m => k a (List.mem_append_right _ m)) q hs)
  | _, _, _, k, q, .bor h hp hs => .bor (h.up e fun a m => q rfl a (hp a m)) (fun a m => p a (hp a m)) (OwnVs.up e p k (fun z => q rfl) hs)
theorem OwnVs.live {η : Nat → Option V} {F : Hp} {P : Addr → Prop} : ∀ {vs : List V} {us : List Val} {As : List Addr}, OwnVs C η F H P vs us As → ∀ a, a ∈ As → ∃ o, H a = some o
  | _, _, _, .nil, a, m => by cases m
  | _, _, _, .own h hs, a, m => (List.mem_append.mp m).elim (h.live a) (hs.live a)
  | _, _, _, .bor h hp hs, a, m => hs.live a m
theorem OwnVs.dats {η : Nat → Option V} {F : Hp} {P : Addr → Prop} (e : Same F H) : ∀ {vs : List V} {us : List Val} {As : List Addr} {ds : List D}, OwnVs C η F H P vs us As → dsV us = some ds → Dats C H vs ds
  | _, _, _, _, .nil, q => by cases q; exact .nil
  | _, _, _, _, .own h hs, q => by
    obtain ⟨d, q1, q⟩ := bnd q
    obtain ⟨ds, q2, rfl⟩ := map_inv q
    obtain ⟨t, q3, rfl⟩ := map_inv q1
    exact .cons ((h.t q3).dat e fun _ _ _ z => z) (hs.dats e q2)
  | _, _, _, _, .bor h hp hs, q => by
    obtain ⟨d, q1, q⟩ := bnd q
    obtain ⟨ds, q2, rfl⟩ := map_inv q
    obtain ⟨t, q3, rfl⟩ := map_inv q1
    exact .cons ((h.t q3).dat e fun _ _ _ z => z) (hs.dats e q2)
/-- all safe: let go -/
theorem OwnVs.frees {η : Nat → Option V} {F G : Hp} {P : Addr → Prop} (e : Same F G) : ∀ {vs : List V} {us : List Val} {As : List Addr} {ds : List D}, OwnVs C η F H P vs us As → (∀ a o, a ∈ As → H a = some o → G a = some o) → allS us = true → dsV us = some ds → Dats C G vs ds
  | _, _, _, _, .nil, _, _, q => by cases q; exact .nil
  | _, _, _, _, .own h hs, k, s, q => by
    obtain ⟨d, q1, q⟩ := bnd q
    obtain ⟨ds, q2, rfl⟩ := map_inv q
    obtain ⟨t, q3, rfl⟩ := map_inv q1
    exact .cons ((h.t q3).dat e fun a o m => k a o (List.mem_append_left _ m)) (hs.frees e (fun a o m => k a o (List.mem_append_right _ m)) s q2)
  | _, _, _, _, .bor h hp hs, k, s, q => by cases s
structure PXs (C : Cfg) (H0 : Gh) (B : Addr → Prop) (AA : Nat → List Addr) (H : Hp) (σ : L2.St) (us : List Val) (As : List Addr) (vs : List V) (H' : Hp) (AA' : Nat → List Addr) (ρ' : Rh) : Prop where
  rep : RepX C H0 (Zp B As) AA' H' σ ρ'
  nd : As.Nodup
  nB : ∀ a, a ∈ As → H0.h a = none ∧ ¬ B a
  own : OwnVs C (H0.η) (hid H' (Zp (ZZ B AA') As)) H' (fun a => ∃ i, a ∈ AA' i) vs us As
  mov : Mov AA H AA' As H'
variable {us : List Val} {u : U} {s : Bool}
theorem PXs.nil (R : RepX C H0 B AA H σ ρ) : PXs C H0 B AA H σ [] [] [] H AA ρ :=
  ⟨by rw [Zp_nil]; exact R, List.nodup_nil, (fun _ m => by cases m), .nil, Mov.refl⟩
theorem PXs.cons (h : PXs C H0 B AA H σ [(u, s)] As [v] H1 AA1 ρ1) (k : PXs C H0 (Zp B As) AA1 H1 σ us Bs vs H2 AA2 ρ2) (p : s = true ∨ (Same H1 H2 ∧ AA2 = AA1)) :
    PXs C H0 B AA H σ ((u, s) :: us) (As ++ Bs) (v :: vs) H2 AA2 ρ2 := by
  have nA : ∀ a, a ∈ As → (∀ i, a ∉ AA1 i) ∧ H1 a ≠ none := fun a m => ⟨fun i z => (h.rep.new i a z).2.2 (.inr m), (h.rep.bs a (.inr m)).some⟩
  have eZ : Zp (ZZ (Zp B As) AA2) Bs = Zp (ZZ B AA2) (As ++ Bs) := by rw [ZZ_Zp, Zp_app]
  have kf := k.mov.hd (B := Zp B As)
  rw [eZ] at kf
  rw [show ZZ (Zp B As) AA1 = Zp (ZZ B AA1) As from ZZ_Zp] at kf
  have ko := k.own
  rw [eZ] at ko
  refine ⟨by rw [← Zp_app]; exact k.rep, List.nodup_append.mpr ⟨h.nd, k.nd, fun x hx y hy e => ?_⟩, fun a m => ?_, ?_, ?_⟩
  · subst e
    rcases k.mov.sub x (.inl hy) with ⟨i, z⟩ | z
    · exact (nA x hx).1 i z
    · exact (nA x hx).2 z
  · rcases List.mem_append.mp m with m | m
    · exact h.nB a m
    · exact ⟨(k.nB a m).1, fun z => (k.nB a m).2 (.inl z)⟩
  · have ho := h.own
    cases ho with
    | @own _ _ _ _ A1 B1 o n =>
      cases n
      rw [List.append_nil] at *
      exact .own (o.up kf fun a m => by
        obtain ⟨w, hw⟩ := o.live a m
        rw [hw, k.mov.fr a w hw (nA a m).1]) ko
    | bor o hp n =>
      cases n
      rcases p with p | ⟨p1, p2⟩
      · cases p
      · subst p2
        refine .bor (o.up kf fun a m => ?_) hp ?_
        · obtain ⟨w, hw⟩ := o.live a m
          rw [hw, p1 _ _ hw]
        · exact ko
  · refine ⟨(h.mov.trans k.mov).fr, fun a q => ?_⟩
    rcases q with q | q
    · rcases List.mem_append.mp q with q | q
      · exact h.mov.sub a (.inl q)
      · exact (h.mov.trans k.mov).sub a (.inl q)
    · exact (h.mov.trans k.mov).sub a (.inr q)
/-- what is shared, as a value -/
theorem PXs.sh (R : RepX C H0 B AA H σ ρ) {d : D} (h : Dat C (hid H (ZZ B AA)) v d) : PXs C H0 B AA H σ [(.sh d, true)] [] [v] H AA ρ :=
  ⟨by rw [Zp_nil]; exact R, List.nodup_nil, (fun _ m => by cases m), by rw [Zp_nil]; exact .own (.sh h) .nil, Mov.refl⟩
/-- a slot's tree, borrowed -/
theorem PXs.bor (R : RepX C H0 B AA H σ ρ) (h : OwnU C (H0.η) (hid H (ZZ B AA)) H v u Bs) (k : ∀ a, a ∈ Bs → ∃ i, a ∈ AA i) : PXs C H0 B AA H σ [(u, false)] [] [v] H AA ρ :=
  ⟨by rw [Zp_nil]; exact R, List.nodup_nil, (fun _ m => by cases m), by rw [Zp_nil]; exact .bor h k .nil, Mov.refl⟩
theorem PXs.one (P : PXs C H0 B AA H σ [(u, true)] As [v] H' AA' ρ1) : OwnU C (H0.η) (hid H' (Zp (ZZ B AA') As)) H' v u As := by
  have := P.own
  cases this with
  | own o n => cases n; rw [List.append_nil] at *; exact o
theorem PXs.dats (P : PXs C H0 B AA H σ us As vs H' AA' ρ1) {ds : List D} (e : dsV us = some ds) : Dats C H' vs ds := P.own.dats hid_sub e
theorem PXs.nZ (P : PXs C H0 B AA H σ us As vs H' AA' ρ1) : ∀ a, a ∈ As → ¬ ZZ B AA' a := fun a m q => q.elim (P.nB a m).2 fun ⟨i, z⟩ => (P.rep.new i a z).2.2 (.inr m)
theorem PXs.frees (P : PXs C H0 B AA H σ us As vs H' AA' ρ1) {ds : List D} (s : allS us = true) (e : dsV us = some ds) : Dats C (hid H' (ZZ B AA')) vs ds :=
  P.own.frees (hid_mono (Same.refl _) fun a o _ q => .inl q) (fun a o m z => hid_some.mpr ⟨P.nZ a m, z⟩) s e
/-- the value let go -/
def U.nf (t : T) : U := if t.own then t.u else .sh t.d
def opV (f : List D → Option T) (us : List Val) : Option Val := (dsV us).bind fun ds => (f ds).bind fun t => if allS us then some (U.nf t, true) else if noL t.d then some (.sh t.d, true) else none
theorem own_nf {η : Nat → Option V} {F : Hp} {t : T} (o : Own C F H v t As) : OwnU C η F H v (U.nf t) As := by
  unfold U.nf
  by_cases h : t.own = true
  · rw [if_pos h]; exact o.u
  · rw [if_neg h]
    obtain ⟨k1, k2⟩ := own_shd o (by simpa using h)
    subst k2
    exact .sh k1
theorem post_px {t : T} (R : RepX C H0 B AA1 H1 σ ρ1) (m : Mov AA H AA1 Bs H1) (p : Post C (ZZ B AA1) H1 t true As v H') : PXs C H0 B AA H σ [(U.nf t, true)] As [v] H' AA1 ρ1 := by
  refine ⟨R.grow p.same p.new, p.nd, fun a q => ⟨R.same.free (p.new a q).1, fun z => (R.bs a z).some (p.new a q).1⟩, ?_, m.trans (Mov.same p.same fun a q => (p.new a q).1)⟩
  have := OwnVs.own (P := fun a => ∃ i, a ∈ AA1 i) (own_nf (η := H0.η) (p.own rfl)) OwnVs.nil
  rwa [List.append_nil] at this
theorem noL_px {d : D} (R : RepX C H0 B AA1 H1 σ ρ1) (m : Mov AA H AA1 Bs H1) (e : Same H1 H') (h : Dat C H' v d) (n : noL d = true) : PXs C H0 B AA H σ [(.sh d, true)] [] [v] H' AA1 ρ1 := by
  have R2 := R.mono e
  have P := PXs.sh R2 (h.hide R2.z n)
  exact ⟨P.rep, P.nd, P.nB, P.own, m.trans (Mov.same e fun _ m => by cases m)⟩
/-- an operation on what was reckoned -/
theorem op_px {f : List D → Option T} {val : Val} {Q : VK} (P : PXs C H0 B AA H σ us As vs H1 AA1 ρ1) (hv : opV f us = some val) (q : ∀ As' v H', PXs C H0 B AA H σ [val] As' [v] H' AA1 ρ1 → Same H1 H' → Q v H') : rP C f vs H1 Q := by
  obtain ⟨ds, h1, hv⟩ := bnd hv
  obtain ⟨t, h2, hv⟩ := bnd hv
  have R := P.rep.drop
  by_cases s : allS us = true
  · rw [if_pos s] at hv
    cases hv
    exact ⟨ds, t, ZZ B AA1, true, P.dats h1, fun _ => P.frees s h1, R.z, h2, fun As' v H' p => q As' v H' (post_px R P.mov p) p.same⟩
  · rw [if_neg s] at hv
    split at hv
    · rename_i n
      cases hv
      exact ⟨ds, t, fun _ => False, false, P.dats h1, (fun z => nomatch z), (fun _ z => False.elim z), h2, fun As' v H' p => q [] v H' (noL_px R P.mov p.same p.dat n) p.same⟩
    · cases hv
end
end Eng
/-! X D: expressions that may change what slots own, and may raise: what they do, which text they are. -/
namespace Eng
open PySem L2
inductive FR where
  | ok (t : T) | ex (c : Str) (fs : List (Str × D))
abbrev IoF := T → List D → Option (FR × T)
abbrev RaF := List D → Option FR
inductive Pl where
  | slot (i : Nat) | fld (p : Pl) (f : Str) (cs : List Str) | ixc (p : Pl) (k : Nat) | ixv (p : Pl) (j : Nat)
mutual
inductive X where
  | pe (e : E) | var (i : Nat) | mv (i : Nat)
  | bin (op : Operator) (a b : X) | cmp (op : CmpOp) (a b : X)
  | and (a b : X) | or (a b : X) | one (a : X) | not (a : X) | ife (c a b : X)
  | tup (xs : Xs) | lst (xs : Xs)
  | idx (a b : X) | slc (a : X) (lo hi : Eo) | fld (a : X) (f : Str) (cs : List Str)
  | cal (f : Str) (F : List D → Option T) (dds : List D) (xs : Xs)
  | bi (b : Bi) (xs : Xs) | mth (m : Mt) (a : X) (xs : Xs)
  | cax (f : Str) (G : RaF) (dds : List D) (xs : Xs)
  | ioc (f : Str) (k : Nat) (p : Pl) (G : IoF) (dds : List D) (xs : Xs)
  | iof (f : Str) (k : Nat) (G : IoF) (dds : List D) (xs : Xs)
  | iom (m : Str) (p : Pl) (tbl : List (Str × IoF)) (dds : List D) (xs : Xs)
  | mcl (m : Str) (a : X) (tbl : List (Str × RaF)) (dds : List D) (xs : Xs)
  | mk (c : Str) (G : IoF) (dds : List D) (xs : Xs) | mk0 (c : Str)
  | iso (a : X) (cs : List Str) (bs : List (Str × Bool))
  | dnew | din (neg : Bool) (a d : X) | dgt (d a b : X) | dix (d a : X)
  | popl (p : Pl) | popi (p : Pl) (a : X)
  | lcx (own : List (Str × Nat)) (tg : Tg) (it : XI) (c : Xo) (e : X)
inductive Xs where
  | nil | cons (x : X) (xs : Xs)
inductive Xo where
  | non | som (x : X)
inductive XI where
  | pi (it : I) | seq (x : X) | rng1 (x : X) | rng2 (a b : X) | enm (x : X) | enm1 (x : X) (k : Int) | zip (a b : X) | itm (x : X)
end
inductive R (α : Type) where
  | ok (a : α) (ρ : Rh) | ex (c : Str) (fs : List (Str × D)) (ρ : Rh)
def rb {α β : Type} (r : Option (R α)) (k : α → Rh → Option (R β)) : Option (R β) := match r with
  | some (.ok a ρ) => k a ρ
  | some (.ex c fs ρ) => some (.ex c fs ρ)
  | none => none
/-- a worth, the slots as they are -/
def rv {α : Type} (o : Option α) (ρ : Rh) : Option (R α) := match o with
  | some a => some (.ok a ρ)
  | none => none
/-! ### the slots as data -/
def tr (ρ : Rh) : Rho := ρ.map fun o => o.bind U.t
/-! ### worths -/
def peV (e : E) (ρ : Rh) : Option Val := (ev e (dl (tr ρ))).bind fun t => if sal (avs e) (ow (tr ρ)) then some (U.nf t, true) else if noL t.d then some (.sh t.d, true) else none
def varV (i : Nat) (ρ : Rh) : Option Val := match ρ[i]? with
  | some (some u) => some (u, !u.own)
  | _ => none
def U.dsU (us : List U) : Option (List D) := if U.owns us = false then (U.ts us).map T.ds else none
/-- the items of a list, shared -/
def elsV : Val → Option (List D)
  | (u, s) => match u with
    | .lst us => if s then (U.ts us).map T.ds else U.dsU us
    | .tup us => if s then (U.ts us).map T.ds else U.dsU us
    | .sh (.lst ds) => some ds
    | .sh (.tup ds) => some ds
    | .sh (.scr ns) => some (ns.map .int)
    | .sh (.str cs) => some (cs.map fun c => .str [c])
    | _ => none
/-- .. of a list that is no script -/
def lsnV : Val → Option (List D)
  | (u, s) => match u with
    | .lst us => if s then (U.ts us).map T.ds else U.dsU us
    | .sh (.lst ds) => some ds
    | _ => none
/-- .. of a list alone -/
def lstV : Val → Option (List D)
  | (u, s) => match u with
    | .lst us => if s then (U.ts us).map T.ds else U.dsU us
    | .sh (.lst ds) => some ds
    | .sh (.scr ns) => some (ns.map .int)
    | _ => none
def idxV (a b : Val) : Option Val := match a with
  | (.lst us, false) => (match b.1 with
    | .sh (.int i) => (atI us i).map fun w => (w, !w.own)
    | _ => none)
  | (.tup us, false) => (match b.1 with
    | .sh (.int i) => (atI us i).map fun w => (w, !w.own)
    | _ => none)
  | _ => opV idxD [a, b]
def slcV (a : Val) (lo hi : Option Int) : Option Val := match a with
  | (.lst us, false) => (U.dsU us).map fun ds => (.lst ((cutL ds lo hi).map .sh), true)
  | _ => opV (slcD lo hi) [a]
def fldV (f : Str) (cs : List Str) (a : Val) : Option Val := match a with
  | (.ins c ns us, false) => if cs.contains c then ((findIx f ns).bind fun i => us[i]?).map fun w => (w, !w.own) else none
  | _ => opV (fun ds => match ds with | [d] => fldD f cs d | _ => none) [a]
def binV (op : Operator) (a b : Val) : Option Val := match op, a, b with
  | .Add, (.lst us, s), c => if s && c.2 then opV (binD .Add) [(.lst us, s), c] else (lsnV (.lst us, s)).bind fun x => (lsnV c).bind fun y => if x.length + y.length ≤ SZ then some (.lst ((x ++ y).map .sh), true) else none
  | op, a, b => opV (binD op) [a, b]
def biV (b : Bi) (us : List Val) : Option Val := match b, us with
  | .list, [(.lst us, false)] => (U.dsU us).map fun ds => (.lst (ds.map .sh), true)
  | b, us => opV (biD b) us
def truU : Val → Option Bool
  | (u, _) => match u with
    | .sh d => truD d
    | .lst us => some !us.isEmpty
    | .tup us => some !us.isEmpty
    | _ => none
def blU (a : Val) : Option Bool := match a.1 with
  | .sh (.bl b) => some b
  | _ => none
def strU (a : Val) : Bool := match a.1 with
  | .sh (.str _) => true
  | _ => false
def keyD : D → Option Key
  | .int i => some (.inl i)
  | .str s => some (.inr (st s))
  | _ => none
def keyU (a : Val) : Option Key := match a.1 with
  | .sh d => keyD d
  | _ => none
def keyE : Key → D
  | .inl i => .int i
  | .inr x => txt x
/-- the value at a key -/
def dgtU (d : Val) (k : Key) : Option (Option Val) := match d with
  | (.dic ks us, false) => some ((findIx k ks).bind fun i => (us[i]?).map fun w => (w, !w.own))
  | (.dic ks us, true) => (match U.ts us with
    | some ts => some ((findIx k ks).bind fun i => ((T.ds ts)[i]?).map fun w => (.sh w, true))
    | none => none)
  | (.sh (.dic ks ds), _) => some ((findIx k ks).bind fun i => (ds[i]?).map fun w => (.sh w, true))
  | _ => none
/-! ### places -/
def getP (ρ : Rh) (i : Nat) (q : List Stp) : Option U := match ρ[i]? with
  | some (some u) => u.atP q
  | _ => none
def putR (ρ : Rh) (i : Nat) (q : List Stp) (w : U) : Rh := match ρ[i]? with
  | some (some u) => ρ.set i (some (u.putP q w))
  | _ => ρ
def intU (ρ : Rh) (j : Nat) : Option Int := match ρ[j]? with
  | some (some (.sh (.int k))) => some k
  | _ => none
def plR : Pl → Rh → Option (Nat × List Stp)
  | .slot i, ρ => match ρ[i]? with
    | some (some _) => some (i, [])
    | _ => none
  | .fld p f cs, ρ => (plR p ρ).bind fun z => match getP ρ z.1 z.2 with
    | some (.ins c ns us) => if cs.contains c && (findIx f ns).isSome then some (z.1, z.2 ++ [.fld f]) else none
    | _ => none
  | .ixc p k, ρ => (plR p ρ).bind fun z => match getP ρ z.1 z.2 with
    | some (.lst us) => if k < us.length then some (z.1, z.2 ++ [.ix k]) else none
    | _ => none
  | .ixv p j, ρ => (plR p ρ).bind fun z => match getP ρ z.1 z.2 with
    | some (.lst us) => (intU ρ j).bind fun k => (ixN us.length k).bind fun m => some (z.1, z.2 ++ [.ix m])
    | _ => none
def plT (p : Pl) (ρ : Rh) : Option (Nat × List Stp × T) := (plR p ρ).bind fun z => (getP ρ z.1 z.2).bind fun u => u.t.map fun t => (z.1, z.2, t)
@[simp] def Pl.isSlot : Pl → Bool
  | .slot _ => true
  | _ => false
/-- a call's end: the worth, the tree put back -/
def frR (r : FR) (ρ : Rh) : R Val := match r with
  | .ok t => .ok (U.nf t, true) ρ
  | .ex c fs => .ex c fs ρ
def insK (k : Nat) {α : Type} (x : α) (xs : List α) : List α := xs.take k ++ x :: xs.drop k
mutual
/-- changes nothing, raises nothing -/
@[simp] def pur : X → Bool
  | .pe _ => true
  | .var _ => true
  | .bin _ a b => pur a && pur b
  | .cmp _ a b => pur a && pur b
  | .and a b => pur a && pur b
  | .or a b => pur a && pur b
  | .one a => pur a
  | .not a => pur a
  | .tup xs => purs xs
  | .lst xs => purs xs
  | .idx a b => pur a && pur b
  | .slc a _ _ => pur a
  | .fld a _ _ => pur a
  | .cal _ _ _ xs => purs xs
  | .bi _ xs => purs xs
  | .mth _ a xs => pur a && purs xs
  | .iso a _ _ => pur a
  | .dnew => true
  | .din _ a d => pur a && pur d
  | .dgt d a b => pur d && pur a && pur b
  | .dix d a => pur d && pur a
  | .mk _ _ _ xs => purs xs
  | .mk0 _ => true
  | _ => false
@[simp] def purs : Xs → Bool
  | .nil => true
  | .cons x xs => pur x && purs xs
end
def lcPut (o : Option Val) (us : List U) : Option (List U) := match o with
  | some (u, true) => some (u :: us)
  | some (_, false) => none
  | none => some us
/-- an effectful comprehension's turns -/
def lcxGo (body : D → Rh → Option (R (Option Val))) : List D → Rh → Option (List U × Rh)
  | [], ρ => some ([], ρ)
  | d :: ds, ρ => match body d ρ with
    | some (.ok o ρ1) => (lcxGo body ds ρ1).bind fun p => (lcPut o p.1).map fun us => (us, p.2)
    | _ => none
@[simp] def setAllX : List Nat → List D → Rh → Option Rh
  | [], [], ρ => some ρ
  | i :: is, d :: ds, ρ => setAllX is ds (ρ.set i (some (.sh d)))
  | _, _, _ => none
@[simp] def asgX : Tg → D → Rh → Option Rh
  | .nm i, d, ρ => some (ρ.set i (some (.sh d)))
  | .tp is, .tup ds, ρ => setAllX is ds ρ
  | .tp is, .lst ds, ρ => setAllX is ds ρ
  | .tp _, _, _ => none
def offAll (ρ : Rh) (vs : List Nat) : Bool := vs.all fun i => match ρ[i]? with | some none => true | _ => false
def wipeX (ρ : Rh) : List Nat → Rh
  | [] => ρ
  | v :: vs => (wipeX ρ vs).set v none
def rngX (a b : Val) : Option (List D) := match a.1, b.1 with
  | .sh (.int l), .sh (.int n) => rngD l n
  | _, _ => none
mutual
def xv : X → Rh → Option (R Val)
  | .pe e, ρ => rv (peV e ρ) ρ
  | .var i, ρ => rv (varV i ρ) ρ
  | .mv i, ρ => match ρ[i]? with
    | some (some u) => some (.ok (u, true) (ρ.set i none))
    | _ => none
  | .bin op a b, ρ => rb (xv a ρ) fun u ρ1 => rb (xv b ρ1) fun w ρ2 => if u.2 || pur b then rv (binV op u w) ρ2 else none
  | .cmp op a b, ρ => rb (xv a ρ) fun u ρ1 => rb (xv b ρ1) fun w ρ2 => if u.2 || pur b then rv (opV (cmpD op) [u, w]) ρ2 else none
  | .and a b, ρ => rb (xv a ρ) fun u ρ1 => match blU u with
    | some true => rb (xv b ρ1) fun w ρ2 => rv ((blU w).map fun k => (.sh (.bl k), true)) ρ2
    | some false => some (.ok (.sh (.bl false), true) ρ1)
    | none => none
  | .or a b, ρ => rb (xv a ρ) fun u ρ1 => match blU u with
    | some false => rb (xv b ρ1) fun w ρ2 => rv ((blU w).map fun k => (.sh (.bl k), true)) ρ2
    | some true => some (.ok (.sh (.bl true), true) ρ1)
    | none => none
  | .one a, ρ => xv a ρ
  | .not a, ρ => rb (xv a ρ) fun u ρ1 => rv ((blU u).map fun k => (.sh (.bl (!k)), true)) ρ1
  | .ife c a b, ρ => rb (xt c ρ) fun k ρ1 => if k then xv a ρ1 else xv b ρ1
  | .tup xs, ρ => rb (xvs xs ρ) fun us ρ1 => if us.length ≤ SZ && allS us then some (.ok (.tup (us.map (·.1)), true) ρ1) else none
  | .lst xs, ρ => rb (xvs xs ρ) fun us ρ1 => if us.length ≤ SZ && allS us then some (.ok (.lst (us.map (·.1)), true) ρ1) else none
  | .idx a b, ρ => rb (xv a ρ) fun u ρ1 => rb (xv b ρ1) fun w ρ2 => if u.2 || pur b then rv (idxV u w) ρ2 else none
  | .slc a lo hi, ρ => rb (xv a ρ) fun u ρ1 => match evo lo (dl (tr ρ1)), evo hi (dl (tr ρ1)) with
    | some l, some h => rv (slcV u l h) ρ1
    | _, _ => none
  | .fld a f cs, ρ => rb (xv a ρ) fun u ρ1 => rv (fldV f cs u) ρ1
  | .cal _ F dds xs, ρ => rb (xvs xs ρ) fun us ρ1 => rv (opV (fun ds => F (ds ++ dds)) us) ρ1
  | .bi b xs, ρ => rb (xvs xs ρ) fun us ρ1 => rv (biV b us) ρ1
  | .mth m a xs, ρ => rb (xv a ρ) fun u ρ1 => if strU u then rb (xvs xs ρ1) fun us ρ2 => if u.2 || purs xs then rv (opV (mtD m) (u :: us)) ρ2 else none
    else none
  | .cax _ G dds xs, ρ => rb (xvs xs ρ) fun us ρ1 => if allS us then match dsV us with
    | some ds => (G (ds ++ dds)).map fun r => frR r ρ1
    | none => none
    else none
  | .ioc _ k p G dds xs, ρ => if (plR p ρ).isSome && (p.isSlot || purs xs) then rb (xvs xs ρ) fun us ρ1 => if allS us && decide (k ≤ us.length) then match dsV us, plT p ρ1 with
    | some ds, some (i, q, t) => (G t (ds ++ dds)).map fun r => frR r.1 (putR ρ1 i q r.2.u)
    | _, _ => none
    else none
    else none
  | .iof _ k G dds xs, ρ => rb (xvs xs ρ) fun us ρ1 => if allS us then match us[k]?, dsV (us.eraseIdx k) with
    | some (u, _), some ds => u.t.bind fun t => (G t (ds ++ dds)).map fun r => frR r.1 ρ1
    | _, _ => none
    else none
  | .iom m p tbl dds xs, ρ => if purs xs then rb (xvs xs ρ) fun us ρ1 => if allS us then match dsV us, plT p ρ1 with
    | some ds, some (i, q, .ins c ns ts) => if (findIx m ns).isSome then none else (tbl.lookup c).bind fun G => (G (.ins c ns ts) (ds ++ dds)).map fun r => frR r.1 (putR ρ1 i q r.2.u)
    | _, _ => none
    else none
    else none
  | .mcl m a tbl dds xs, ρ => if pur a then rb (xv a ρ) fun u ρ1 => match u.2, u.1.d with
    | true, some (.ins c ns ds) => if (findIx m ns).isSome then none else (tbl.lookup c).bind fun G => rb (xvs xs ρ1) fun us ρ2 => if allS us then match dsV us with
      | some es => (G (.ins c ns ds :: (es ++ dds))).map fun r => frR r ρ2
      | none => none
      else none
    | _, _ => none
    else none
  | .mk c G dds xs, ρ => rb (xvs xs ρ) fun us ρ1 => if allS us then match dsV us with
    | some ds => (match G (.ins c [] []) (ds ++ dds) with
      | some (.ok (.sh .non), t) => some (.ok (t.u, true) ρ1)
      | _ => none)
    | none => none
    else none
  | .mk0 c, ρ => some (.ok (.ins c [] [], true) ρ)
  | .iso a _ bs, ρ => rb (xv a ρ) fun u ρ1 => match u.1.d with
    | some (.ins c _ _) => rv ((bs.lookup c).map fun b => (.sh (.bl b), true)) ρ1
    | _ => none
  | .dnew, ρ => some (.ok (.dic [] [], true) ρ)
  | .din neg a d, ρ => rb (xv a ρ) fun u ρ1 => rb (xv d ρ1) fun w ρ2 => match keyU u with
    | some k => rv ((dgtU w k).map fun o => (.sh (.bl (if neg then !o.isSome else o.isSome)), true)) ρ2
    | none => none
  | .dgt d a b, ρ => if pur a && pur b then rb (xv d ρ) fun w ρ1 => rb (xv a ρ1) fun u ρ2 => rb (xv b ρ2) fun y ρ3 => match keyU u with
    | some k => rv ((dgtU w k).map fun o => o.getD y) ρ3
    | none => none
    else none
  | .dix d a, ρ => rb (xv d ρ) fun w ρ1 => rb (xv a ρ1) fun u ρ2 => if pur a then match keyU u with
    | some k => rv ((dgtU w k).bind id) ρ2
    | none => none
    else none
  | .popl p, ρ => match plR p ρ with
    | some (i, q) => (match getP ρ i q with
      | some (.lst us) => (match us.getLast? with
        | some w => some (.ok (w, true) (putR ρ i q (.lst us.dropLast)))
        | none => none)
      | _ => none)
    | none => none
  | .popi p a, ρ => if pur a then rb (xv a ρ) fun u ρ1 => match plR p ρ1, u.1 with
    | some (i, q), .sh (.int j) => (match getP ρ1 i q with
      | some (.lst us) => if us.length ≤ SZ then (ixN us.length j).bind fun m => (us[m]?).bind fun w => some (.ok (w, true) (putR ρ1 i q (.lst (us.eraseIdx m)))) else none
      | _ => none)
    | _, _ => none
    else none
  | .lcx own tg it c e, ρ => rb (xvi it ρ) fun ds ρ1 => if ds.length ≤ SZ && offAll ρ1 (own.map (·.2)) then
      (lcxGo (fun d ρ => (asgX tg d ρ).bind fun ρ2 => rb (xto c ρ2) fun k ρ3 => if k then rb (xv e ρ3) fun v ρ4 => some (.ok (some v) (wipeX ρ4 (own.map (·.2)))) else some (.ok none (wipeX ρ3 (own.map (·.2))))) ds ρ1).map fun p => .ok (.lst p.1, true) p.2
    else none
def xvs : Xs → Rh → Option (R (List Val))
  | .nil, ρ => some (.ok [] ρ)
  | .cons x xs, ρ => rb (xv x ρ) fun u ρ1 => rb (xvs xs ρ1) fun us ρ2 => if u.2 || purs xs then some (.ok (u :: us) ρ2) else none
/-- as a test -/
def xt : X → Rh → Option (R Bool)
  | .pe e, ρ => rv (tst e (dl (tr ρ))) ρ
  | .and a b, ρ => rb (xt a ρ) fun k ρ1 => if k then xt b ρ1 else some (.ok false ρ1)
  | .or a b, ρ => rb (xt a ρ) fun k ρ1 => if k then some (.ok true ρ1) else xt b ρ1
  | .one a, ρ => xt a ρ
  | .not a, ρ => rb (xt a ρ) fun k ρ1 => some (.ok (!k) ρ1)
  | .cmp op a b, ρ => rb (xv (.cmp op a b) ρ) fun u ρ1 => rv (blU u) ρ1
  | .din neg a d, ρ => rb (xv (.din neg a d) ρ) fun u ρ1 => rv (blU u) ρ1
  | .var i, ρ => rv ((varV i ρ).bind truU) ρ
  | .fld a f cs, ρ => rb (xv (.fld a f cs) ρ) fun u ρ1 => rv (truU u) ρ1
  | .idx a b, ρ => rb (xv (.idx a b) ρ) fun u ρ1 => rv (truU u) ρ1
  | .cal f F dds xs, ρ => rb (xv (.cal f F dds xs) ρ) fun u ρ1 => rv (truU u) ρ1
  | .cax f G dds xs, ρ => rb (xv (.cax f G dds xs) ρ) fun u ρ1 => rv (truU u) ρ1
  | .ioc f k p G dds xs, ρ => rb (xv (.ioc f k p G dds xs) ρ) fun u ρ1 => rv (truU u) ρ1
  | .iof f k G dds xs, ρ => rb (xv (.iof f k G dds xs) ρ) fun u ρ1 => rv (truU u) ρ1
  | .iom m p tbl dds xs, ρ => rb (xv (.iom m p tbl dds xs) ρ) fun u ρ1 => rv (truU u) ρ1
  | .iso a cs bs, ρ => rb (xv (.iso a cs bs) ρ) fun u ρ1 => rv (truU u) ρ1
  | .bi b xs, ρ => rb (xv (.bi b xs) ρ) fun u ρ1 => rv (truU u) ρ1
  | .mth m a xs, ρ => rb (xv (.mth m a xs) ρ) fun u ρ1 => rv (truU u) ρ1
  | _, _ => none
def xto : Xo → Rh → Option (R Bool)
  | .non, ρ => some (.ok true ρ)
  | .som x, ρ => xt x ρ
/-- what is walked -/
def xvi : XI → Rh → Option (R (List D))
  | .pi it, ρ => rv ((evi it (dl (tr ρ))).bind fun ds => if sal (avi it) (ow (tr ρ)) then some ds else none) ρ
  | .seq x, ρ => rb (xv x ρ) fun u ρ1 => if u.2 then rv (elsV u) ρ1 else none
  | .rng1 x, ρ => rb (xv x ρ) fun u ρ1 => rv (rngX (.sh (.int 0), true) u) ρ1
  | .rng2 a b, ρ => rb (xv a ρ) fun u ρ1 => rb (xv b ρ1) fun w ρ2 => rv (rngX u w) ρ2
  | .enm x, ρ => rb (xv x ρ) fun u ρ1 => if u.2 then rv ((lsnV u).map fun ys => ys.mapIdx fun i y => .tup [.int i, y]) ρ1 else none
  | .enm1 x k, ρ => rb (xv x ρ) fun u ρ1 => if u.2 then rv ((lsnV u).map fun ys => ys.mapIdx fun i y => .tup [.int (k + i), y]) ρ1 else none
  | .zip a b, ρ => rb (xv a ρ) fun u ρ1 => rb (xv b ρ1) fun w ρ2 => if u.2 && w.2 then match lsnV u, lsnV w with
    | some xs, some ys => rv (some (List.zipWith (fun x y => .tup [x, y]) xs ys)) ρ2
    | _, _ => none
    else none
  | .itm x, ρ => none
end
end Eng
/-! X E: readings of expressions, chained. -/
namespace Eng
open PySem L2
/-- an exception of an own class, with its fields -/
def ExR (C : Cfg) (H : Hp) (cls : Value) (d : Option Addr) (c : Str) (fs : List (Str × D)) : Prop :=
  ∃ A, C.mg c = some (.ref A) ∧ cls = .ref A ∧ ((fs = [] ∧ d = none) ∨ ∃ (dd : Addr) (vs : List V), d = some dd ∧ H dd = some (.xd ((fs.map (·.1)).zip vs)) ∧ Dats C H vs (fs.map (·.2)))
def ExW (C : Cfg) (W : WX) (H0 : Gh) (B : Addr → Prop) (AA : Nat → List Addr) (H : Hp) (σ : L2.St) (c : Str) (fs : List (Str × D)) (ρ' : Rh) : Prop :=
  ∀ H' AA' cls d, RepX C H0 B AA' H' σ ρ' → Mov AA H AA' [] H' → ExR C H' cls d c fs → W cls d σ H'
def fin (C : Cfg) (W : WX) (H0 : Gh) (B : Addr → Prop) (AA : Nat → List Addr) (H : Hp) (σ : L2.St) (pu : Bool) : R Val → VK → Prop
  | .ok u ρ', Q => ∀ As v H' AA', PXs C H0 B AA H σ [u] As [v] H' AA' ρ' → (pu = true → Same H H' ∧ AA' = AA) → Q v H'
  | .ex c fs ρ', _ => ExW C W H0 B AA H σ c fs ρ'
def fins (C : Cfg) (W : WX) (H0 : Gh) (B : Addr → Prop) (AA : Nat → List Addr) (H : Hp) (σ : L2.St) (pu : Bool) : R (List Val) → (List V → Hp → Prop) → Prop
  | .ok us ρ', Q => ∀ As vs H' AA', PXs C H0 B AA H σ us As vs H' AA' ρ' → (pu = true → Same H H' ∧ AA' = AA) → Q vs H'
  | .ex c fs ρ', _ => ExW C W H0 B AA H σ c fs ρ'
def fint (C : Cfg) (W : WX) (H0 : Gh) (B : Addr → Prop) (AA : Nat → List Addr) (H : Hp) (σ : L2.St) : R Bool → (Bool → Hp → Prop) → Prop
  | .ok b ρ', Q => ∀ H' AA', RepX C H0 B AA' H' σ ρ' → Mov AA H AA' [] H' → Q b H'
  | .ex c fs ρ', _ => ExW C W H0 B AA H σ c fs ρ'
def tX (C : Cfg) (W : WX) (x : X) : TE := fun σ H Q => ∃ (H0 : Gh) (B : Addr → Prop) (AA : Nat → List Addr) (ρ : Rh) (r : R Val), RepX C H0 B AA H σ ρ ∧ xv x ρ = some r ∧ fin C W H0 B AA H σ (pur x) r Q
def tXs (C : Cfg) (W : WX) (x : Xs) : TA := fun σ H Q => ∃ (H0 : Gh) (B : Addr → Prop) (AA : Nat → List Addr) (ρ : Rh) (r : R (List Val)), RepX C H0 B AA H σ ρ ∧ xvs x ρ = some r ∧ fins C W H0 B AA H σ (purs x) r Q
def tXt (C : Cfg) (W : WX) (x : X) : TT := fun σ H Q => ∃ (H0 : Gh) (B : Addr → Prop) (AA : Nat → List Addr) (ρ : Rh) (r : R Bool), RepX C H0 B AA H σ ρ ∧ xt x ρ = some r ∧ fint C W H0 B AA H σ r Q
def tXto (C : Cfg) (W : WX) (x : Xo) : TT := fun σ H Q => ∃ (H0 : Gh) (B : Addr → Prop) (AA : Nat → List Addr) (ρ : Rh) (r : R Bool), RepX C H0 B AA H σ ρ ∧ xto x ρ = some r ∧ fint C W H0 B AA H σ r Q
section
variable {C : Cfg} {W : WX} {H0 : Gh} {H H1 H2 H' : Hp} {B : Addr → Prop} {AA AA1 AA2 AA' : Nat → List Addr} {σ : L2.St} {ρ ρ1 ρ2 : Rh} {As Bs : List Addr} {v w : V} {vs : List V} {u : Val} {us : List Val} {x a b : X} {xs : Xs} {α β : Type}
theorem rb_inv {r : Option (R α)} {k : α → Rh → Option (R β)} {z : R β} (h : rb r k = some z) : (∃ a ρ, r = some (.ok a ρ) ∧ k a ρ = some z) ∨ ∃ c fs ρ, r = some (.ex c fs ρ) ∧ z = .ex c fs ρ := by
  unfold rb at h
  split at h
  · exact .inl ⟨_, _, rfl, h⟩
  · cases h; exact .inr ⟨_, _, _, rfl, rfl⟩
  · cases h
theorem rv_inv {o : Option α} {ρ : Rh} {z : R α} (h : rv o ρ = some z) : ∃ a, o = some a ∧ z = .ok a ρ := by
  unfold rv at h
  split at h
  · cases h; exact ⟨_, rfl, rfl⟩
  · cases h
theorem ExW.step {c : Str} {fs : List (Str × D)} (h : ExW C W H0 B AA H σ c fs ρ) (m : Mov AA H AA1 As H1) : ExW C W H0 (Zp B As) AA1 H1 σ c fs ρ :=
  fun H' AA' cls d R k e => h H' AA' cls d R.drop (m.trans k) e
theorem ExW.step0 {c : Str} {fs : List (Str × D)} (h : ExW C W H0 B AA H σ c fs ρ) (m : Mov AA H AA1 As H1) : ExW C W H0 B AA1 H1 σ c fs ρ :=
  fun H' AA' cls d R k e => h H' AA' cls d R (m.trans k) e
/-- what is wanted if it raises -/
def exW (C : Cfg) (W : WX) (H0 : Gh) (B : Addr → Prop) (AA : Nat → List Addr) (H : Hp) (σ : L2.St) {γ : Type} (z : R γ) : Prop := ∀ c fs ρ', z = .ex c fs ρ' → ExW C W H0 B AA H σ c fs ρ'
theorem exW_ok {γ : Type} {g : γ} : exW C W H0 B AA H σ (R.ok g ρ) := fun _ _ _ e => nomatch e
theorem exW_fin {pu : Bool} {r : R Val} {Q : VK} (h : fin C W H0 B AA H σ pu r Q) : exW C W H0 B AA H σ r := fun c fs ρ' e => by subst e; exact h
theorem exW_fins {pu : Bool} {r : R (List Val)} {Q : List V → Hp → Prop} (h : fins C W H0 B AA H σ pu r Q) : exW C W H0 B AA H σ r := fun c fs ρ' e => by subst e; exact h
theorem exW_fint {r : R Bool} {Q : Bool → Hp → Prop} (h : fint C W H0 B AA H σ r Q) : exW C W H0 B AA H σ r := fun c fs ρ' e => by subst e; exact h
theorem exW.step {γ : Type} {z : R γ} (h : exW C W H0 B AA H σ z) (m : Mov AA H AA1 As H1) : exW C W H0 (Zp B As) AA1 H1 σ z := fun c fs ρ' e => (h c fs ρ' e).step m
theorem exW.step0 {γ : Type} {z : R γ} (h : exW C W H0 B AA H σ z) (m : Mov AA H AA1 As H1) : exW C W H0 B AA1 H1 σ z := fun c fs ρ' e => (h c fs ρ' e).step0 m
/-- a part is read -/
theorem tX_go {k : Val → Rh → Option (R β)} {z : R β} {Q : VK} (R0 : RepX C H0 B AA H σ ρ) (h : rb (xv x ρ) k = some z) (e : exW C W H0 B AA H σ z)
    (q : ∀ u ρ1 As v H1 AA1, xv x ρ = some (.ok u ρ1) → k u ρ1 = some z → PXs C H0 B AA H σ [u] As [v] H1 AA1 ρ1 → (pur x = true → Same H H1 ∧ AA1 = AA) → exW C W H0 (Zp B As) AA1 H1 σ z → Q v H1) : tX C W x σ H Q := by
  rcases rb_inv h with ⟨a, ρ1, h1, h2⟩ | ⟨c, fs, ρ1, h1, rfl⟩
  · exact ⟨H0, B, AA, ρ, _, R0, h1, fun As v H1 AA1 P p => q a ρ1 As v H1 AA1 h1 h2 P p (e.step P.mov)⟩
  · exact ⟨H0, B, AA, ρ, _, R0, h1, e c fs ρ1 rfl⟩
theorem tXs_go {k : List Val → Rh → Option (R β)} {z : R β} {Q : List V → Hp → Prop} (R0 : RepX C H0 B AA H σ ρ) (h : rb (xvs xs ρ) k = some z) (e : exW C W H0 B AA H σ z)
    (q : ∀ us ρ1 As vs H1 AA1, xvs xs ρ = some (.ok us ρ1) → k us ρ1 = some z → PXs C H0 B AA H σ us As vs H1 AA1 ρ1 → (purs xs = true → Same H H1 ∧ AA1 = AA) → exW C W H0 (Zp B As) AA1 H1 σ z → Q vs H1) : tXs C W xs σ H Q := by
  rcases rb_inv h with ⟨a, ρ1, h1, h2⟩ | ⟨c, fs, ρ1, h1, rfl⟩
  · exact ⟨H0, B, AA, ρ, _, R0, h1, fun As v H1 AA1 P p => q a ρ1 As v H1 AA1 h1 h2 P p (e.step P.mov)⟩
  · exact ⟨H0, B, AA, ρ, _, R0, h1, e c fs ρ1 rfl⟩
theorem tXt_go {k : Bool → Rh → Option (R β)} {z : R β} {Q : Bool → Hp → Prop} (R0 : RepX C H0 B AA H σ ρ) (h : rb (xt x ρ) k = some z) (e : exW C W H0 B AA H σ z)
    (q : ∀ b ρ1 H1 AA1, xt x ρ = some (.ok b ρ1) → k b ρ1 = some z → RepX C H0 B AA1 H1 σ ρ1 → Mov AA H AA1 [] H1 → exW C W H0 B AA1 H1 σ z → Q b H1) : tXt C W x σ H Q := by
  rcases rb_inv h with ⟨a, ρ1, h1, h2⟩ | ⟨c, fs, ρ1, h1, rfl⟩
  · exact ⟨H0, B, AA, ρ, _, R0, h1, fun H1 AA1 R1 m => q a ρ1 H1 AA1 h1 h2 R1 m (e.step0 m)⟩
  · exact ⟨H0, B, AA, ρ, _, R0, h1, e c fs ρ1 rfl⟩
/-- the end of a reading that began further up -/
theorem fin.back {pu pu' : Bool} {r : R Val} {Q : VK} (f : fin C W H0 B AA H σ pu r Q) (m : Mov AA H AA1 Bs H1) (p : pu = true → pu' = true ∧ Same H H1 ∧ AA1 = AA) : fin C W H0 B AA1 H1 σ pu' r Q := by
  cases r with
  | ok u ρ' =>
    intro As v H' AA' P k
    refine f As v H' AA' ⟨P.rep, P.nd, P.nB, P.own, m.trans P.mov⟩ fun z => ?_
    obtain ⟨z1, z2, z3⟩ := p z
    obtain ⟨k1, k2⟩ := k z1
    exact ⟨z2.trans k1, k2.trans z3⟩
  | ex c fs ρ' => exact ExW.step0 f m
theorem fint.back {r : R Bool} {Q : Bool → Hp → Prop} (f : fint C W H0 B AA H σ r Q) (m : Mov AA H AA1 [] H1) : fint C W H0 B AA1 H1 σ r Q := by
  cases r with
  | ok u ρ' => exact fun H' AA' R k => f H' AA' R (m.trans k)
  | ex c fs ρ' => exact ExW.step0 f m
/-- the worth is told -/
theorem fin_ok {pu : Bool} {Q : VK} (f : fin C W H0 B AA H σ pu (.ok u ρ1) Q) (P : PXs C H0 B AA H σ [u] As [v] H' AA1 ρ1) (p : pu = true → Same H H' ∧ AA1 = AA) : Q v H' := f As v H' AA1 P p
/-- parts one behind the other -/
theorem two_px {pb : Bool} {u1 u2 : Val} (P : PXs C H0 B AA H σ [u1] As [v] H1 AA1 ρ1) (P2 : PXs C H0 (Zp B As) AA1 H1 σ [u2] Bs [w] H2 AA2 ρ2) (h : (u1.2 || pb) = true) (k : pb = true → Same H1 H2 ∧ AA2 = AA1) :
    PXs C H0 B AA H σ [u1, u2] (As ++ Bs) [v, w] H2 AA2 ρ2 := by
  obtain ⟨a1, s1⟩ := u1
  refine P.cons P2 ?_
  rcases Bool.or_eq_true_iff.mp h with h | h
  · exact .inl h
  · exact .inr (k h)
theorem cons_px {pb : Bool} {u1 : Val} (P : PXs C H0 B AA H σ [u1] As [v] H1 AA1 ρ1) (P2 : PXs C H0 (Zp B As) AA1 H1 σ us Bs vs H2 AA2 ρ2) (h : (u1.2 || pb) = true) (k : pb = true → Same H1 H2 ∧ AA2 = AA1) :
    PXs C H0 B AA H σ (u1 :: us) (As ++ Bs) (v :: vs) H2 AA2 ρ2 := by
  obtain ⟨a1, s1⟩ := u1
  refine P.cons P2 ?_
  rcases Bool.or_eq_true_iff.mp h with h | h
  · exact .inl h
  · exact .inr (k h)
theorem pu2 {pa pb : Bool} (h1 : pa = true → Same H H1 ∧ AA1 = AA) (h2 : pb = true → Same H1 H2 ∧ AA2 = AA1) : (pa && pb) = true → Same H H2 ∧ AA2 = AA := fun z => by
  have z := Bool.and_eq_true_iff.mp z
  obtain ⟨k1, k2⟩ := h1 z.1
  obtain ⟨k3, k4⟩ := h2 z.2
  exact ⟨k1.trans k3, k4.trans k2⟩
/-- an operation, told -/
theorem op_fin {pu : Bool} {f : List D → Option T} {z : R Val} {Q : VK} (F : fin C W H0 B AA H σ pu z Q) (P : PXs C H0 B AA H σ us As vs H1 AA1 ρ1) (p : pu = true → Same H H1 ∧ AA1 = AA) (h : rv (opV f us) ρ1 = some z) : rP C f vs H1 Q := by
  obtain ⟨val, h1, rfl⟩ := rv_inv h
  exact op_px P h1 fun As' v H' P' s => F As' v H' AA1 P' fun z => ⟨(p z).1.trans s, (p z).2⟩
theorem sh_fin {pu : Bool} {d : D} {Q : VK} (F : fin C W H0 B AA H σ pu (.ok (.sh d, true) ρ1) Q) (R : RepX C H0 B AA1 H1 σ ρ1) (m : Mov AA H AA1 As H1) (p : pu = true → Same H H1 ∧ AA1 = AA) (h : Dat C H1 v d) (n : noL d = true) : Q v H1 :=
  F [] v H1 AA1 (noL_px R m (Same.refl _) h n) p
/-- the slots, as the expressions' own rules want them -/
theorem RepX.rep (R : RepX C H0 B AA H σ ρ) : Rep C H0.h B AA H σ (tr ρ) := by
  refine ⟨R.same, R.bs, R.new, R.nd, R.dj, fun i t h => ?_, by unfold tr; rw [List.length_map]; exact R.len⟩
  unfold tr at h
  rw [List.getElem?_map] at h
  obtain ⟨o, h1, h2⟩ := map_inv h
  cases o with
  | none => cases h2
  | some u =>
    obtain ⟨v, k1, k2⟩ := R.slot i u h1
    exact ⟨v, k1, k2.t h2⟩
theorem truU_V {u : Val} {b : Bool} (P : PXs C H0 B AA H σ [u] As [v] H1 AA1 ρ1) (h : truU u = some b) : TruV C.K v H1 b := by
  have key : ∀ {G : Hp} {w : U} {Bs : List Addr}, Same G H1 → OwnU C (H0.η) G H1 v w Bs → ∀ s, truU (w, s) = some b → TruV C.K v H1 b := by
    intro G w Bs e o s h
    cases o with
    | sh d => exact tru_V (d.mono e) h
    | lst ha hs =>
      cases h
      refine .inl ⟨_, SqL.of ha, ?_⟩
      cases hs <;> rfl
    | tup ha hs =>
      cases h
      refine .inr (.inl ⟨_, SqT.of (e _ _ ha), ?_⟩)
      cases hs <;> rfl
    | ins _ _ _ _ => cases h
    | dic _ _ _ => cases h
    | hole _ => cases h
  obtain ⟨w, s⟩ := u
  have := P.own
  cases this with
  | own o n => exact key hid_sub o true h
  | bor o hp n => exact key hid_sub o false h
theorem blU_V {u : Val} {b : Bool} (P : PXs C H0 B AA H σ [u] As [v] H1 AA1 ρ1) (h : blU u = some b) : v = .bl b := by
  unfold blU at h
  split at h
  · rename_i k hk
    cases h
    obtain ⟨w, s⟩ := u
    simp only at hk
    subst hk
    have := P.own
    cases this with
    | own o n => cases o with | sh d => exact d.vbl
    | bor o hp n => cases o with | sh d => exact d.vbl
  · cases h
end
end Eng
/-! X F: what changes nothing; places read; the promises. -/
namespace Eng
open PySem L2
/-! ### what is pure leaves the slots -/
section
variable {ρ : Rh} {α β : Type}
theorem rb_pur {r : Option (R α)} {k : α → Rh → Option (R β)} {z : R β} (hr : ∀ y, r = some y → ∃ a, y = .ok a ρ) (hk : ∀ a y, k a ρ = some y → ∃ b, y = .ok b ρ) (h : rb r k = some z) : ∃ b, z = .ok b ρ := by
  rcases rb_inv h with ⟨a, ρ1, h1, h2⟩ | ⟨c, fs, ρ1, h1, rfl⟩
  · obtain ⟨a', e⟩ := hr _ h1
    cases e
    exact hk a z h2
  · obtain ⟨a', e⟩ := hr _ h1
    cases e
theorem rv_pur {o : Option α} {z : R α} (h : rv o ρ = some z) : ∃ a, z = .ok a ρ := by
  obtain ⟨a, _, e⟩ := rv_inv h
  exact ⟨a, e⟩
end
mutual
theorem pur_ok : ∀ {x : X} {ρ : Rh} {z : R Val}, pur x = true → xv x ρ = some z → ∃ u, z = .ok u ρ
  | .pe e, ρ, z, p, h => by unfold xv at h; exact rv_pur h
  | .var i, ρ, z, p, h => by unfold xv at h; exact rv_pur h
  | .bin op a b, ρ, z, p, h => by
    have p := Bool.and_eq_true_iff.mp p
    unfold xv at h
    exact rb_pur (fun y => pur_ok p.1) (fun u y => rb_pur (fun y => pur_ok p.2) fun w y h => by split at h; exact rv_pur h; cases h) h
  | .cmp op a b, ρ, z, p, h => by
    have p := Bool.and_eq_true_iff.mp p
    unfold xv at h
    exact rb_pur (fun y => pur_ok p.1) (fun u y => rb_pur (fun y => pur_ok p.2) fun w y h => by split at h; exact rv_pur h; cases h) h
  | .and a b, ρ, z, p, h => by
    have p := Bool.and_eq_true_iff.mp p
    unfold xv at h
    refine rb_pur (fun y => pur_ok p.1) (fun u y h => ?_) h
    split at h
    · exact rb_pur (fun y => pur_ok p.2) (fun w y h => rv_pur h) h
    · cases h; exact ⟨_, rfl⟩
    · cases h
  | .or a b, ρ, z, p, h => by
    have p := Bool.and_eq_true_iff.mp p
    unfold xv at h
    refine rb_pur (fun y => pur_ok p.1) (fun u y h => ?_) h
    split at h
    · exact rb_pur (fun y => pur_ok p.2) (fun w y h => rv_pur h) h
    · cases h; exact ⟨_, rfl⟩
    · cases h
  | .one a, ρ, z, p, h => by unfold xv at h; exact pur_ok (x := a) p h
  | .not a, ρ, z, p, h => by
    unfold xv at h
    exact rb_pur (fun y => pur_ok (x := a) p) (fun u y h => rv_pur h) h
  | .ife c a b, ρ, z, p, h => by cases p
  | .tup xs, ρ, z, p, h => by
    unfold xv at h
    exact rb_pur (fun y => purs_ok (xs := xs) p) (fun u y h => by split at h; cases h; exact ⟨_, rfl⟩; cases h) h
  | .lst xs, ρ, z, p, h => by
    unfold xv at h
    exact rb_pur (fun y => purs_ok (xs := xs) p) (fun u y h => by split at h; cases h; exact ⟨_, rfl⟩; cases h) h
  | .idx a b, ρ, z, p, h => by
    have p := Bool.and_eq_true_iff.mp p
    unfold xv at h
    exact rb_pur (fun y => pur_ok p.1) (fun u y => rb_pur (fun y => pur_ok p.2) fun w y h => by split at h; exact rv_pur h; cases h) h
  | .slc a lo hi, ρ, z, p, h => by
    unfold xv at h
    exact rb_pur (fun y => pur_ok (x := a) p) (fun u y h => by split at h; exact rv_pur h; cases h) h
  | .fld a f cs, ρ, z, p, h => by
    unfold xv at h
    exact rb_pur (fun y => pur_ok (x := a) p) (fun u y h => rv_pur h) h
  | .cal f F dds xs, ρ, z, p, h => by
    unfold xv at h
    exact rb_pur (fun y => purs_ok (xs := xs) p) (fun u y h => rv_pur h) h
  | .bi b xs, ρ, z, p, h => by
    unfold xv at h
    exact rb_pur (fun y => purs_ok (xs := xs) p) (fun u y h => rv_pur h) h
  | .mth m a xs, ρ, z, p, h => by
    have p := Bool.and_eq_true_iff.mp p
    unfold xv at h
    exact rb_pur (fun y => pur_ok p.1) (fun u y h => by
      split at h
      · exact rb_pur (fun y => purs_ok p.2) (fun w y h => by split at h; exact rv_pur h; cases h) h
      · cases h) h
  | .iso a cs bs, ρ, z, p, h => by
    unfold xv at h
    exact rb_pur (fun y => pur_ok (x := a) p) (fun u y h => by split at h; exact rv_pur h; cases h) h
  | .dnew, ρ, z, p, h => by unfold xv at h; cases h; exact ⟨_, rfl⟩
  | .din neg a d, ρ, z, p, h => by
    have p := Bool.and_eq_true_iff.mp p
    unfold xv at h
    exact rb_pur (fun y => pur_ok p.1) (fun u y => rb_pur (fun y => pur_ok p.2) fun w y h => by split at h; exact rv_pur h; cases h) h
  | .dgt d a b, ρ, z, p, h => by
    have p := Bool.and_eq_true_iff.mp p
    have p1 := Bool.and_eq_true_iff.mp p.1
    unfold xv at h
    split at h
    · refine rb_pur (fun y => pur_ok p1.1) (fun u y => rb_pur (fun y => pur_ok p1.2) fun w y => rb_pur (fun y => pur_ok p.2) fun w2 y h => ?_) h
      split at h
      · exact rv_pur h
      · cases h
    · cases h
  | .dix d a, ρ, z, p, h => by
    have p := Bool.and_eq_true_iff.mp p
    unfold xv at h
    refine rb_pur (fun y => pur_ok p.1) (fun u y => rb_pur (fun y => pur_ok p.2) fun w y h => ?_) h
    split at h
    · split at h
      · exact rv_pur h
      · cases h
    · cases h
  | .cax .., ρ, z, p, h => by cases p
  | .ioc .., ρ, z, p, h => by cases p
  | .iof .., ρ, z, p, h => by cases p
  | .iom .., ρ, z, p, h => by cases p
  | .mcl .., ρ, z, p, h => by cases p
  | .mk c G dds xs, ρ, z, p, h => by
    unfold xv at h
    refine rb_pur (fun y => purs_ok (xs := xs) p) (fun u y h => ?_) h
    split at h
    · split at h
      · split at h
        · cases h; exact ⟨_, rfl⟩
        · cases h
      · cases h
    · cases h
  | .mk0 c, ρ, z, p, h => by unfold xv at h; cases h; exact ⟨_, rfl⟩
  | .popl .., ρ, z, p, h => by cases p
  | .popi .., ρ, z, p, h => by cases p
  | .lcx .., ρ, z, p, h => by cases p
theorem purs_ok : ∀ {xs : Xs} {ρ : Rh} {z : R (List Val)}, purs xs = true → xvs xs ρ = some z → ∃ u, z = .ok u ρ
  | .nil, ρ, z, p, h => by unfold xvs at h; cases h; exact ⟨_, rfl⟩
  | .cons x xs, ρ, z, p, h => by
    have p := Bool.and_eq_true_iff.mp p
    unfold xvs at h
    exact rb_pur (fun y => pur_ok p.1) (fun u y => rb_pur (fun y => purs_ok p.2) fun w y h => by split at h; cases h; exact ⟨_, rfl⟩; cases h) h
end
theorem purt_ok : ∀ {x : X} {ρ : Rh} {z : R Bool}, pur x = true → xt x ρ = some z → ∃ u, z = .ok u ρ
  | .pe e, ρ, z, p, h => by unfold xt at h; exact rv_pur h
  | .and a b, ρ, z, p, h => by
    have p := Bool.and_eq_true_iff.mp p
    unfold xt at h
    exact rb_pur (fun y => purt_ok p.1) (fun u y h => by split at h; exact purt_ok p.2 h; cases h; exact ⟨_, rfl⟩) h
  | .or a b, ρ, z, p, h => by
    have p := Bool.and_eq_true_iff.mp p
    unfold xt at h
    exact rb_pur (fun y => purt_ok p.1) (fun u y h => by split at h; cases h; exact ⟨_, rfl⟩; exact purt_ok p.2 h) h
  | .one a, ρ, z, p, h => by unfold xt at h; exact purt_ok (x := a) p h
  | .not a, ρ, z, p, h => by
    unfold xt at h
    exact rb_pur (fun y => purt_ok (x := a) p) (fun u y h => by cases h; exact ⟨_, rfl⟩) h
  | .var i, ρ, z, p, h => by unfold xt at h; exact rv_pur h
  | .cmp op a b, ρ, z, p, h => by unfold xt at h; exact rb_pur (fun y => pur_ok (x := .cmp op a b) p) (fun u y h => rv_pur h) h
  | .din neg a d, ρ, z, p, h => by unfold xt at h; exact rb_pur (fun y => pur_ok (x := .din neg a d) p) (fun u y h => rv_pur h) h
  | .fld a f cs, ρ, z, p, h => by unfold xt at h; exact rb_pur (fun y => pur_ok (x := .fld a f cs) p) (fun u y h => rv_pur h) h
  | .idx a b, ρ, z, p, h => by unfold xt at h; exact rb_pur (fun y => pur_ok (x := .idx a b) p) (fun u y h => rv_pur h) h
  | .cal f F dds xs, ρ, z, p, h => by unfold xt at h; exact rb_pur (fun y => pur_ok (x := .cal f F dds xs) p) (fun u y h => rv_pur h) h
  | .iso a cs bs, ρ, z, p, h => by unfold xt at h; exact rb_pur (fun y => pur_ok (x := .iso a cs bs) p) (fun u y h => rv_pur h) h
  | .bi b xs, ρ, z, p, h => by unfold xt at h; exact rb_pur (fun y => pur_ok (x := .bi b xs) p) (fun u y h => rv_pur h) h
  | .mth m a xs, ρ, z, p, h => by unfold xt at h; exact rb_pur (fun y => pur_ok (x := .mth m a xs) p) (fun u y h => rv_pur h) h
  | .cax .., ρ, z, p, h => by cases p
  | .ioc .., ρ, z, p, h => by cases p
  | .iof .., ρ, z, p, h => by cases p
  | .iom .., ρ, z, p, h => by cases p
  | .mcl .., ρ, z, p, h => by cases p
  | .mk .., ρ, z, p, h => by unfold xt at h; cases h
  | .mk0 .., ρ, z, p, h => by unfold xt at h; cases h
  | .popl .., ρ, z, p, h => by cases p
  | .popi .., ρ, z, p, h => by cases p
  | .lcx .., ρ, z, p, h => by cases p
  | .ife .., ρ, z, p, h => by cases p
  | .tup _, ρ, z, p, h => by unfold xt at h; cases h
  | .lst _, ρ, z, p, h => by unfold xt at h; cases h
  | .slc .., ρ, z, p, h => by unfold xt at h; cases h
  | .bin .., ρ, z, p, h => by unfold xt at h; cases h
  | .dnew, ρ, z, p, h => by unfold xt at h; cases h
  | .dgt .., ρ, z, p, h => by unfold xt at h; cases h
  | .dix .., ρ, z, p, h => by unfold xt at h; cases h
end Eng
/-! X G: places, the promises, which text it is, what must be there. -/
namespace Eng
open PySem L2
/-! ### places -/
def PlV (C : Cfg) : Pl → L2.St → Hp → V → Prop
  | .slot i, σ, _, x => σ[i]? = some (some x)
  | .fld p f cs, σ, H, x => ∃ a A dx fs c, PlV C p σ H (.ref a) ∧ H a = some (.ins A dx fs) ∧ c ∈ cs ∧ C.mg c = some (.ref A) ∧ fs.lookup f = some x
  | .ixc p k, σ, H, x => ∃ a vs, PlV C p σ H (.ref a) ∧ H a = some (.lst vs) ∧ vs[k]? = some x
  | .ixv p j, σ, H, x => ∃ a vs k, PlV C p σ H (.ref a) ∧ H a = some (.lst vs) ∧ σ[j]? = some (some (.int k)) ∧ atI vs k = some x
theorem StepV.det {C : Cfg} {F F' H : Hp} (e : Same F H) (e' : Same F' H) {v : V} : ∀ {s : Stp} {x y : V}, StepV C F H v s x → StepV C F' H v s y → x = y
  | .fld f, x, y, ⟨a, A, dx, fs, c, h1, h2, h3, h4⟩, ⟨a', A', dx', fs', c', g1, g2, g3, g4⟩ => by
    rw [h1] at g1; cases g1
    rw [h2] at g2; cases g2
    rw [h4] at g4; cases g4; rfl
  | .ix k, x, y, ⟨a, vs, h1, h2, h3⟩, ⟨a', vs', g1, g2, g3⟩ => by
    rw [h1] at g1; cases g1
    have : vs = vs' := by
      rcases h2 with h2 | h2 <;> rcases g2 with g2 | g2
      · rw [h2] at g2; cases g2; rfl
      · have := e' _ _ g2; rw [h2] at this; cases this
      · have := e _ _ h2; rw [g2] at this; cases this
      · have := e _ _ h2; rw [e' _ _ g2] at this; cases this; rfl
    subst this
    rw [h3] at g3; cases g3; rfl
  | .key k, x, y, ⟨a, vs, h1, h2, h3⟩, ⟨a', vs', g1, g2, g3⟩ => by
    rw [h1] at g1; cases g1
    rw [h2] at g2; cases g2
    rw [h3] at g3; cases g3; rfl
theorem WayV.det {C : Cfg} {F F' H : Hp} (e : Same F H) (e' : Same F' H) : ∀ {p : List Stp} {v x y : V}, WayV C F H v p x → WayV C F' H v p y → x = y
  | [], v, x, y, h, g => h.symm.trans g
  | s :: p, v, x, y, ⟨z, h1, h2⟩, ⟨z', g1, g2⟩ => by
    have := h1.det e e' g1
    subst this
    exact WayV.det e e' h2 g2
theorem WayV.snoc {C : Cfg} {F H : Hp} : ∀ {p : List Stp} {v x : V} {s : Stp}, WayV C F H v (p ++ [s]) x → ∃ y, WayV C F H v p y ∧ StepV C F H y s x
  | [], v, x, s, ⟨y, h1, h2⟩ => by cases h2; exact ⟨v, rfl, h1⟩
  | s' :: p, v, x, s, ⟨y, h1, h2⟩ => by
    obtain ⟨z, g1, g2⟩ := WayV.snoc h2
    exact ⟨z, ⟨y, h1, g1⟩, g2⟩
theorem atP_snoc : ∀ {p : List Stp} {u w : U} {s : Stp} {i : Nat}, u.atP p = some w → w.pos s = some i → u.atP (p ++ [s]) = w.kids[i]?
  | [], u, w, s, i, h, e => by
    cases h
    show ((u.pos s).bind fun i => (u.kids[i]?).bind fun w => some w) = _
    rw [e]
    show ((u.kids[i]?).bind fun w => some w) = _
    cases u.kids[i]? <;> rfl
  | s' :: p, u, w, s, i, h, e => by
    obtain ⟨j, h1, h⟩ := bnd h
    obtain ⟨x, h2, h⟩ := bnd h
    show ((u.pos s').bind fun i => (u.kids[i]?).bind fun w => w.atP (p ++ [s])) = _
    rw [h1]
    show ((u.kids[j]?).bind fun w => w.atP (p ++ [s])) = _
    rw [h2]
    exact atP_snoc (p := p) h e
section
variable {C : Cfg} {H0 : Gh} {H H' : Hp} {B : Addr → Prop} {AA : Nat → List Addr} {σ : L2.St} {ρ : Rh}
theorem getP_inv {i : Nat} {q : List Stp} {w : U} (h : getP ρ i q = some w) : ∃ u, ρ[i]? = some (some u) ∧ u.atP q = some w := by
  unfold getP at h
  split at h
  · exact ⟨_, by assumption, h⟩
  · cases h
/-- a place that is told stands there -/
theorem plR_some (R : RepX C H0 B AA H σ ρ) : ∀ {p : Pl} {i : Nat} {q : List Stp}, plR p ρ = some (i, q) → ∃ u w v x, ρ[i]? = some (some u) ∧ u.atP q = some w ∧ σ[i]? = some (some v) ∧ WayV C (hid H (ZZ B AA)) H v q x ∧ PlV C p σ H x ∧
    ∃ Bs, OwnU C (H0.η) (hid H (ZZ B AA)) H x w Bs ∧ ∀ a, a ∈ Bs → a ∈ AA i
  | .slot j, i, q, h => by
    unfold plR at h
    split at h
    · rename_i u hu
      cases h
      obtain ⟨v, h1, h2⟩ := R.slot _ _ hu
      exact ⟨u, u, v, v, hu, rfl, h1, rfl, h1, _, h2, fun a m => m⟩
    · cases h
  | .fld p f cs, i, q, h => by
    unfold plR at h
    obtain ⟨⟨j, q'⟩, h1, h⟩ := bnd h
    split at h
    · rename_i c ns us hg
      split at h
      · rename_i hc
        cases h
        have hc := Bool.and_eq_true_iff.mp hc
        obtain ⟨k, hk⟩ := Option.isSome_iff_exists.mp hc.2
        obtain ⟨u, w, v, x, e1, e2, e3, e4, e5, Bs, e6, e7⟩ := plR_some R h1
        obtain ⟨u', g1, g2⟩ := getP_inv hg
        simp only at g1
        rw [e1] at g1; cases g1
        rw [e2] at g2; cases g2
        cases e6 with
        | @ins a A dx _ _ vs _ As1 ha hm hs hl =>
          have hlt := findIx_lt hk
          have hku : us[k]? = some (us[k]'(by rw [← hl]; exact hlt)) := List.getElem?_eq_getElem _
          obtain ⟨y, B2, f1, f2, f3, f4⟩ := hs.get hku
          have hlk : (ns.zip vs).lookup f = some y := by rw [lookup_zip (by rw [hl, hs.length]), hk]; exact f1
          have es : (U.ins c ns us).pos (.fld f) = some k := hk
          have ea := atP_snoc e2 es
          refine ⟨u, _, v, y, e1, ea.trans hku, e3, ?_, ⟨a, A, dx, _, c, e5, ha, by simpa using hc.1, hm, hlk⟩, B2, f2, fun b m => e7 b (List.mem_cons_of_mem _ (f3.subset m))⟩
          have : ∀ {q : List Stp} {v : V}, WayV C (hid H (ZZ B AA)) H v q (.ref a) → WayV C (hid H (ZZ B AA)) H v (q ++ [.fld f]) y := by
            intro q
            induction q with
            | nil => intro v h; cases h; exact ⟨y, ⟨a, A, dx, _, c, rfl, ha, hm, hlk⟩, rfl⟩
            | cons s q ih => rintro v ⟨z, g1, g2⟩; exact ⟨z, g1, ih g2⟩
          exact this e4
      · cases h
    · cases h
  | .ixc p k, i, q, h => by
    unfold plR at h
    obtain ⟨⟨j, q'⟩, h1, h⟩ := bnd h
    split at h
    · rename_i us hg
      split at h
      · rename_i hlt
        cases h
        obtain ⟨u, w, v, x, e1, e2, e3, e4, e5, Bs, e6, e7⟩ := plR_some R h1
        obtain ⟨u', g1, g2⟩ := getP_inv hg
        simp only at g1
        rw [e1] at g1; cases g1
        rw [e2] at g2; cases g2
        cases e6 with
        | @lst a vs _ As1 ha hs =>
          have hku : us[k]? = some us[k] := List.getElem?_eq_getElem hlt
          obtain ⟨y, B2, f1, f2, f3, f4⟩ := hs.get hku
          have es : (U.lst us).pos (.ix k) = some k := rfl
          have ea := atP_snoc e2 es
          refine ⟨u, _, v, y, e1, ea.trans hku, e3, ?_, ⟨a, vs, e5, ha, f1⟩, B2, f2, fun b m => e7 b (List.mem_cons_of_mem _ (f3.subset m))⟩
          have : ∀ {q : List Stp} {v : V}, WayV C (hid H (ZZ B AA)) H v q (.ref a) → WayV C (hid H (ZZ B AA)) H v (q ++ [.ix k]) y := by
            intro q
            induction q with
            | nil => intro v h; cases h; exact ⟨y, ⟨a, vs, rfl, .inl ha, f1⟩, rfl⟩
            | cons s q ih => rintro v ⟨z, g1, g2⟩; exact ⟨z, g1, ih g2⟩
          exact this e4
      · cases h
    · cases h
  | .ixv p j', i, q, h => by
    unfold plR at h
    obtain ⟨⟨j, q'⟩, h1, h⟩ := bnd h
    split at h
    · rename_i us hg
      obtain ⟨k, hk, h⟩ := bnd h
      obtain ⟨m, hm, h⟩ := bnd h
      cases h
      obtain ⟨u, w, v, x, e1, e2, e3, e4, e5, Bs, e6, e7⟩ := plR_some R h1
      obtain ⟨u', g1, g2⟩ := getP_inv hg
      simp only at g1
      rw [e1] at g1; cases g1
      rw [e2] at g2; cases g2
      have hσ : σ[j']? = some (some (.int k)) := by
        unfold intU at hk
        split at hk
        · rename_i hu
          cases hk
          obtain ⟨z, z1, z2⟩ := R.slot _ _ hu
          generalize AA j' = A' at z2
          cases z2 with | sh d => rw [z1, d.vint]
        · cases hk
      cases e6 with
      | @lst a vs _ As1 ha hs =>
        have hlt : m < us.length := by
          unfold ixN at hm
          split at hm
          · split at hm
            · cases hm; omega
            · cases hm
          · split at hm
            · cases hm; omega
            · cases hm
        have hku : us[m]? = some us[m] := List.getElem?_eq_getElem hlt
        obtain ⟨y, B2, f1, f2, f3, f4⟩ := hs.get hku
        have es : (U.lst us).pos (.ix m) = some m := rfl
        have ea := atP_snoc e2 es
        refine ⟨u, _, v, y, e1, ea.trans hku, e3, ?_, ⟨a, vs, k, e5, ha, hσ, ?_⟩, B2, f2, fun b m => e7 b (List.mem_cons_of_mem _ (f3.subset m))⟩
        · have : ∀ {q : List Stp} {v : V}, WayV C (hid H (ZZ B AA)) H v q (.ref a) → WayV C (hid H (ZZ B AA)) H v (q ++ [.ix m]) y := by
            intro q
            induction q with
            | nil => intro v h; cases h; exact ⟨y, ⟨a, vs, rfl, .inl ha, f1⟩, rfl⟩
            | cons s q ih => rintro v ⟨z, g1, g2⟩; exact ⟨z, g1, ih g2⟩
          exact this e4
        · unfold atI; rw [hs.length, hm]; exact f1
    · cases h
theorem PlV.mono (e : Same H H') : ∀ {p : Pl} {x : V}, PlV C p σ H x → PlV C p σ H' x
  | .slot i, x, h => h
  | .fld p f cs, x, ⟨a, A, dx, fs, c, h1, h2, h3, h4, h5⟩ => ⟨a, A, dx, fs, c, h1.mono e, e _ _ h2, h3, h4, h5⟩
  | .ixc p k, x, ⟨a, vs, h1, h2, h3⟩ => ⟨a, vs, h1.mono e, e _ _ h2, h3⟩
  | .ixv p j, x, ⟨a, vs, k, h1, h2, h3, h4⟩ => ⟨a, vs, k, h1.mono e, e _ _ h2, h3, h4⟩
theorem PlV.det : ∀ {p : Pl} {x y : V}, PlV C p σ H x → PlV C p σ H y → x = y
  | .slot i, x, y, h, g => by
    have h : σ[i]? = some (some x) := h
    have g : σ[i]? = some (some y) := g
    rw [h] at g; cases g; rfl
  | .fld p f cs, x, y, ⟨a, A, dx, fs, c, h1, h2, h3, h4, h5⟩, ⟨a', A', dx', fs', c', g1, g2, g3, g4, g5⟩ => by
    have := h1.det g1; cases this
    rw [h2] at g2; cases g2
    rw [h5] at g5; cases g5; rfl
  | .ixc p k, x, y, ⟨a, vs, h1, h2, h3⟩, ⟨a', vs', g1, g2, g3⟩ => by
    have := h1.det g1; cases this
    rw [h2] at g2; cases g2
    rw [h3] at g3; cases g3; rfl
  | .ixv p j, x, y, ⟨a, vs, k, h1, h2, h3, h4⟩, ⟨a', vs', k', g1, g2, g3, g4⟩ => by
    have := h1.det g1; cases this
    rw [h2] at g2; cases g2
    rw [h3] at g3; cases g3
    rw [h4] at g4; cases g4; rfl
end
/-! ### the promises -/
def raSp (C : Cfg) (G : RaF) : Sp := fun vs H Q E => ∃ (ds : List D) (Z : Addr → Prop) (r : FR), Dats C (hid H Z) vs ds ∧ (∀ a, Z a → nTup H a) ∧ G ds = some r ∧
  (∀ t, r = .ok t → ∀ As v H', Post C Z H t true As v H' → Q v H') ∧ (∀ c fs, r = .ex c fs → ∀ H' cls d, Same H H' → ExR C H' cls d c fs → E cls d H')
structure IoPost (C : Cfg) (Z : Addr → Prop) (H : Hp) (As : List Addr) (H' : Hp) (v0 : V) (u' : T) (As' Bs : List Addr) : Prop where
  fr : ∀ a o, H a = some o → a ∉ As → H' a = some o
  sub : ∀ a, a ∈ As' ∨ a ∈ Bs → a ∈ As ∨ H a = none
  nd : (As' ++ Bs).Nodup
  own : Own C (hid H' (Zp Z (As' ++ Bs))) H' v0 u' As'
def ioSp (C : Cfg) (k : Nat) (G : IoF) : Sp := fun vs H Q E => ∃ (v0 : V) (ws : List V) (u : T) (ds : List D) (Z : Addr → Prop) (As : List Addr) (r : FR) (u' : T), vs = insK k v0 ws ∧ k ≤ ws.length ∧
  Own C (hid H (Zp Z As)) H v0 u As ∧ Dats C (hid H (Zp Z As)) ws ds ∧ As.Nodup ∧ (∀ a, a ∈ As → ¬ Z a) ∧ (∀ a, Z a → nTup H a) ∧ G u ds = some (r, u') ∧
  (∀ t, r = .ok t → ∀ v H' As' Bs, IoPost C Z H As H' v0 u' As' Bs → Own C (hid H' (Zp Z (As' ++ Bs))) H' v t Bs → Q v H') ∧
  (∀ c fs, r = .ex c fs → ∀ H' As' cls d, IoPost C Z H As H' v0 u' As' [] → ExR C H' cls d c fs → E cls d H')
mutual
theorem Own.ntup {C : Cfg} {F H : Hp} : ∀ {v : V} {t : T} {As : List Addr}, Own C F H v t As → ∀ a, a ∈ As → nTup H a
  | _, _, _, .sh _, _, m => by cases m
  | _, _, _, .lst h hs, a, m => by
    rcases List.mem_cons.mp m with rfl | m
    · exact ⟨_, h, fun _ q => nomatch q⟩
    · exact Owns.ntup hs a m
  | _, _, _, .tup h hs, a, m => Owns.ntup hs a m
  | _, _, _, .ins h _ hs _, a, m => by
    rcases List.mem_cons.mp m with rfl | m
    · exact ⟨_, h, fun _ q => nomatch q⟩
    · exact Owns.ntup hs a m
  | _, _, _, .dic h hs _, a, m => by
    rcases List.mem_cons.mp m with rfl | m
    · exact ⟨_, h, fun _ q => nomatch q⟩
    · exact Owns.ntup hs a m
theorem Owns.ntup {C : Cfg} {F H : Hp} : ∀ {vs : List V} {ts : List T} {As : List Addr}, Owns C F H vs ts As → ∀ a, a ∈ As → nTup H a
  | _, _, _, .nil, _, m => by cases m
  | _, _, _, .cons h hs, a, m => by
    rcases List.mem_append.mp m with m | m
    · exact Own.ntup h a m
    · exact Owns.ntup hs a m
end
abbrev CXG (G : GC) : CXT := L2.CX G.P G.w
def RaOk (G : GC) (f : Str) (F : RaF) (dds : List D) : Prop :=
  ∃ (fa : Addr) (fd : FuncData) (ps : List Str) (dvs : List V) (ds : List Value), G.C.mg f = some (.ref fa) ∧ PySem.W.keepIn G.C.K (.ref fa) = true ∧
    FnOk G.P G.w G.C.K G.C.mg G.base (CXG G) G.k fa fd ps (raSp G.C F) ∧ Binds G.C.K fd ps ds ∧ Vals dvs ds ∧ ∀ H, Dats G.C H dvs dds
def IoOk (G : GC) (f : Str) (k : Nat) (F : IoF) (dds : List D) : Prop :=
  ∃ (fa : Addr) (fd : FuncData) (ps : List Str) (dvs : List V) (ds : List Value), G.C.mg f = some (.ref fa) ∧ PySem.W.keepIn G.C.K (.ref fa) = true ∧
    FnOk G.P G.w G.C.K G.C.mg G.base (CXG G) G.k fa fd ps (ioSp G.C k F) ∧ Binds G.C.K fd ps ds ∧ Vals dvs ds ∧ ∀ H, Dats G.C H dvs dds
def MeOk (G : GC) (c m : Str) (sp : Sp) (dds : List D) : Prop :=
  ∃ (A f : Addr) (fd : FuncData) (ps : List Str) (dvs : List V) (ds : List Value), G.C.mg c = some (.ref A) ∧ Cls G.C.K A ∧ Meth G.C.K A m f ∧
    FnOk G.P G.w G.C.K G.C.mg G.base (CXG G) G.k f fd ps sp ∧ Binds G.C.K fd ps ds ∧ Vals dvs ds ∧ ∀ H, Dats G.C H dvs dds
def MkOk (G : GC) (c : Str) (F : IoF) (dds : List D) : Prop :=
  ∃ (A f : Addr) (fd : FuncData) (ps : List Str) (dvs : List V) (ds : List Value) (j : Nat), G.C.mg c = some (.ref A) ∧ Mk G.C.K A f ∧ j + 1 ≤ G.k ∧
    FnOk G.P G.w G.C.K G.C.mg G.base (CXG G) j f fd ps (ioSp G.C 0 F) ∧ Binds G.C.K fd ps ds ∧ Vals dvs ds ∧ ∀ H, Dats G.C H dvs dds
/-- a class without an __init__ of its own -/
def Mk0Ok (G : GC) (c : Str) : Prop := ∃ A, G.C.mg c = some (.ref A) ∧ PySem.W.makesIn G.C.K A = true ∧ PySem.W.findIn G.C.K (.ref A) "__init__" = some (some (.builtin "object.__init__")) ∧ PySem.W.keepIn G.C.K (.ref A) = true
/-- what isinstance asks of an instance of such a class -/
structure InsTy (K : PySem.W.Frag) (A : Addr) : Prop where
  cl : Cls K A
  ha : PySem.W.findIn K (.ref A) "__class__" = some (some (.builtin "object.__class__"))
  hn : PySem.W.specialIn K (.builtin "object.__class__") "__get__" = some (some (.builtin "getset_descriptor.__get__"))
  ht : PySem.W.takesIn K (.builtin "object.__class__") = some true
  hm : PySem.W.mroIn K A (.type "object") = some true
inductive Named (G : GC) : List Str → List Addr → Prop
  | nil : Named G [] []
  | cons {c : Str} {cs : List Str} {A : Addr} {As : List Addr} : G.C.mg c = some (.ref A) → Named G cs As → Named G (c :: cs) (A :: As)
/-- isinstance(x, cs) of an instance of b's class -/
def IsOk (G : GC) (cs : List Str) (bs : List (Str × Bool)) : Prop := ∃ cas, Named G cs cas ∧ ∀ b r, bs.lookup b = some r → ∀ A, G.C.mg b = some (.ref A) → InsTy G.C.K A ∧ PySem.W.kitAny G.C.K (.ref A) (cas.map Value.ref) = some r
mutual
def NdX (G : GC) : X → Prop
  | .pe e => Nd G e
  | .var _ => True
  | .mv _ => True
  | .bin _ a b => NdX G a ∧ NdX G b
  | .cmp _ a b => NdX G a ∧ NdX G b
  | .and a b => NdX G a ∧ NdX G b
  | .or a b => NdX G a ∧ NdX G b
  | .one a => NdX G a
  | .not a => NdX G a
  | .ife c a b => NdX G c ∧ NdX G a ∧ NdX G b
  | .tup xs => NdXs G xs
  | .lst xs => NdXs G xs
  | .idx a b => NdX G a ∧ NdX G b
  | .slc a lo hi => NdX G a ∧ Ndo G lo ∧ Ndo G hi
  | .fld a f cs => NdX G a ∧ ∀ c, c ∈ cs → FldOk G f c
  | .cal f F dds xs => CallOk G f F dds ∧ NdXs G xs
  | .bi b xs => NoG G b.name ∧ NdXs G xs
  | .mth _ a xs => NdX G a ∧ NdXs G xs
  | .cax f F dds xs => RaOk G f F dds ∧ NdXs G xs
  | .ioc f k p F dds xs => IoOk G f k F dds ∧ NdP G p ∧ NdXs G xs
  | .iof f k F dds xs => IoOk G f k F dds ∧ NdXs G xs
  | .iom m p tbl dds xs => (∀ c F, tbl.lookup c = some F → MeOk G c m (ioSp G.C 0 F) dds) ∧ NdP G p ∧ NdXs G xs
  | .mcl m a tbl dds xs => (∀ c F, tbl.lookup c = some F → MeOk G c m (raSp G.C F) dds) ∧ NdX G a ∧ NdXs G xs
  | .mk c F dds xs => MkOk G c F dds ∧ NdXs G xs
  | .mk0 c => Mk0Ok G c
  | .iso a cs bs => NoG G "isinstance" ∧ IsOk G cs bs ∧ NdX G a
  | .dnew => True
  | .din _ a d => NdX G a ∧ NdX G d
  | .dgt d a b => NdX G d ∧ NdX G a ∧ NdX G b
  | .dix d a => NdX G d ∧ NdX G a
  | .popl p => NdP G p
  | .popi p a => NdP G p ∧ NdX G a
  | .lcx _ _ it c e => NdXI G it ∧ NdXo G c ∧ NdX G e
def NdXs (G : GC) : Xs → Prop
  | .nil => True
  | .cons x xs => NdX G x ∧ NdXs G xs
def NdXo (G : GC) : Xo → Prop
  | .non => True
  | .som x => NdX G x
def NdXI (G : GC) : XI → Prop
  | .pi it => Ndi G it
  | .seq x => NdX G x
  | .rng1 x => NoG G "range" ∧ NdX G x
  | .rng2 a b => NoG G "range" ∧ NdX G a ∧ NdX G b
  | .enm x => NoG G "enumerate" ∧ NdX G x
  | .enm1 x _ => NoG G "enumerate" ∧ NdX G x
  | .zip a b => NoG G "zip" ∧ NdX G a ∧ NdX G b
  | .itm x => NdX G x
def NdP (G : GC) : Pl → Prop
  | .slot _ => True
  | .fld p f cs => NdP G p ∧ ∀ c, c ∈ cs → FldOk G f c
  | .ixc p _ => NdP G p
  | .ixv p _ => NdP G p
end
/-! ### which text it is -/
def mP (N : List Str) (sc : Scope) : Pl → Expr → Bool
  | .slot i, e' => match e' with
    | .Name x _ => decide (N[i]? = some x) && visB sc x && nmB x
    | _ => false
  | .fld p f _, e' => match e' with
    | .Attribute a' f' _ => decide (f = f') && baseB a' && mP N sc p a'
    | _ => false
  | .ixc p k, e' => match e' with
    | .Subscript a' (.Constant (.int k') _ _) _ => decide (k' = (k : Int)) && mP N sc p a'
    | _ => false
  | .ixv p j, e' => match e' with
    | .Subscript a' (.Name x _) _ => decide (N[j]? = some x) && visB sc x && nmB x && mP N sc p a'
    | _ => false
def mNames (sc : Scope) : List Str → List Expr → Bool
  | [], [] => true
  | c :: cs, .Name x _ :: es => decide (c = x) && glB sc c && nmB c && mNames sc cs es
  | _, _ => false
mutual
def mX (N : List Str) (sc : Scope) : X → Expr → Bool
  | .pe e, e' => mE N sc e e'
  | .var i, e' => match e' with
    | .Name x _ => decide (N[i]? = some x) && visB sc x && nmB x
    | _ => false
  | .mv i, e' => match e' with
    | .Name x _ => decide (N[i]? = some x) && visB sc x && nmB x
    | _ => false
  | .bin op a b, e' => match e' with
    | .BinOp a' op' b' _ => decide (op = op') && mX N sc a a' && mX N sc b b'
    | _ => false
  | .cmp op a b, e' => match e' with
    | .Compare a' [op'] [b'] _ => decide (op = op') && mX N sc a a' && mX N sc b b'
    | _ => false
  | .and a b, e' => match e' with
    | .BoolOp .And (a' :: b' :: r) p => mX N sc a a' && mX N sc b (.BoolOp .And (b' :: r) p)
    | _ => false
  | .or a b, e' => match e' with
    | .BoolOp .Or (a' :: b' :: r) p => mX N sc a a' && mX N sc b (.BoolOp .Or (b' :: r) p)
    | _ => false
  | .one a, e' => match e' with
    | .BoolOp _ [a'] _ => mX N sc a a'
    | _ => false
  | .not a, e' => match e' with
    | .UnaryOp .Not a' _ => mX N sc a a'
    | _ => false
  | .ife c a b, e' => match e' with
    | .IfExp c' a' b' _ => mX N sc c c' && mX N sc a a' && mX N sc b b'
    | _ => false
  | .tup es, e' => match e' with
    | .Tuple es' _ _ => mXs N sc es es'
    | _ => false
  | .lst es, e' => match e' with
    | .List es' _ => mXs N sc es es'
    | _ => false
  | .idx a b, e' => match e' with
    | .Subscript a' b' _ => mX N sc a a' && mX N sc b b'
    | _ => false
  | .slc a lo hi, e' => match e' with
    | .Subscript a' (.Slice lo' hi' none _) _ => mX N sc a a' && mEo N sc lo lo' && mEo N sc hi hi'
    | _ => false
  | .fld a f _, e' => match e' with
    | .Attribute a' f' _ => decide (f = f') && baseB a' && mX N sc a a'
    | _ => false
  | .cal f _ _ es, e' => match e' with
    | .Call (.Name f' _) es' [] _ => decide (f = f') && glB sc f && nmB f && mXs N sc es es'
    | _ => false
  | .bi b es, e' => match e' with
    | .Call (.Name f' _) (a' :: es') [] _ => decide (b.name = f') && glB sc b.name && nmB b.name && mXs N sc es (a' :: es')
    | _ => false
  | .mth m a es, e' => match e' with
    | .Call (.Attribute o n ap) (a' :: es') [] cp => decide (m.name = n) && baseB o && (ap.endLine == cp.line) && decide (es'.length < 20) && mX N sc a o && mXs N sc es (a' :: es')
    | _ => false
  | .cax f _ _ es, e' => match e' with
    | .Call (.Name f' _) es' [] _ => decide (f = f') && glB sc f && nmB f && mXs N sc es es'
    | _ => false
  | .ioc f k p _ _ es, e' => match e' with
    | .Call (.Name f' _) es' [] _ => decide (f = f') && glB sc f && nmB f && mXk N sc p es k es'
    | _ => false
  | .iof f k _ _ es, e' => false
  | .iom m p _ _ es, e' => match e' with
    | .Call (.Attribute o n ap) es' [] cp => decide (m = n) && baseB o && (ap.endLine == cp.line) && decide (es'.length < 20) && mP N sc p o && mXs N sc es es'
    | _ => false
  | .mcl m a _ _ es, e' => match e' with
    | .Call (.Attribute o n ap) es' [] cp => decide (m = n) && baseB o && (ap.endLine == cp.line) && decide (es'.length < 20) && mX N sc a o && mXs N sc es es'
    | _ => false
  | .mk c _ _ es, e' => match e' with
    | .Call (.Name f' _) es' [] _ => decide (c = f') && glB sc c && nmB c && mXs N sc es es'
    | _ => false
  | .mk0 c, e' => match e' with
    | .Call (.Name f' _) [] [] _ => decide (c = f') && glB sc c && nmB c
    | _ => false
  | .iso a cs _, e' => match e' with
    | .Call (.Name f _) [a', .Name y _] [] _ => decide (f = ("isinstance" : Str)) && glB sc f && decide (cs = [y]) && glB sc y && nmB y && mX N sc a a'
    | .Call (.Name f _) [a', .Tuple es _ _] [] _ => decide (f = ("isinstance" : Str)) && glB sc f && mNames sc cs es && decide (es.length < 20) && mX N sc a a'
    | _ => false
  | .dnew, e' => match e' with
    | .Dict [] [] _ => true
    | _ => false
  | .din neg a d, e' => match e' with
    | .Compare a' [op'] [d'] _ => decide (op' = if neg then CmpOp.NotIn else CmpOp.In) && mX N sc a a' && mX N sc d d'
    | _ => false
  | .dgt d a b, e' => match e' with
    | .Call (.Attribute o n ap) [a', b'] [] cp => decide (n = ("get" : Str)) && baseB o && (ap.endLine == cp.line) && mX N sc d o && mX N sc a a' && mX N sc b b'
    | _ => false
  | .dix d a, e' => match e' with
    | .Subscript d' a' _ => mX N sc d d' && mX N sc a a'
    | _ => false
  | .popl p, e' => match e' with
    | .Call (.Attribute o n ap) [] [] cp => decide (n = ("pop" : Str)) && baseB o && (ap.endLine == cp.line) && mP N sc p o
    | _ => false
  | .popi p a, e' => match e' with
    | .Call (.Attribute o n ap) [a'] [] cp => decide (n = ("pop" : Str)) && baseB o && (ap.endLine == cp.line) && mP N sc p o && mX N sc a a'
    | _ => false
  | .lcx own tg it c e, e' => false
def mXs (N : List Str) (sc : Scope) : Xs → List Expr → Bool
  | .nil, es' => match es' with
    | [] => true
    | _ => false
  | .cons e es, es' => match es' with
    | e' :: r => mX N sc e e' && mXs N sc es r
    | _ => false
/-- the k-th argument is a place -/
def mXk (N : List Str) (sc : Scope) (p : Pl) : Xs → Nat → List Expr → Bool
  | .nil, k, es' => match k, es' with
    | 0, [e'] => mP N sc p e'
    | _, _ => false
  | .cons e es, k, es' => match k, es' with
    | 0, e' :: e2 :: r => mP N sc p e' && mX N sc e e2 && mXs N sc es r
    | k + 1, e' :: r => mX N sc e e' && mXk N sc p es k r
    | _, _ => false
def mXf (N : List Str) (sc : Scope) : Xo → List Expr → Bool
  | .non, o => match o with
    | [] => true
    | _ => false
  | .som e, o => match o with
    | [e'] => mX N sc e e'
    | _ => false
def mXI (N : List Str) (sc : Scope) : XI → Expr → Expr → Bool
  | .pi it, tg, e' => mI N sc it tg e'
  | .seq e, _, e' => mX N sc e e'
  | .rng1 e, _, e' => match e' with
    | .Call (.Name f _) [a] [] _ => decide (f = ("range" : Str)) && glB sc f && mX N sc e a
    | _ => false
  | .rng2 e1 e2, _, e' => match e' with
    | .Call (.Name f _) [a, b] [] _ => decide (f = ("range" : Str)) && glB sc f && mX N sc e1 a && mX N sc e2 b
    | _ => false
  | .enm e, tg, e' => match e' with
    | .Call (.Name f _) [a] [] _ => decide (f = ("enumerate" : Str)) && glB sc f && isTup tg && mX N sc e a
    | _ => false
  | .enm1 e k, tg, e' => false
  | .zip e1 e2, tg, e' => match e' with
    | .Call (.Name f _) [a, b] [] _ => decide (f = ("zip" : Str)) && glB sc f && isTup tg && mX N sc e1 a && mX N sc e2 b
    | _ => false
  | .itm e, tg, e' => false
end
end Eng
/-! X H: expressions keep their word: what is like the pure ones. -/
namespace Eng
open PySem L2
structure GoodW (G : GC) (sc : Scope) (X : Cx) (W : WX) : Prop extends Good G sc X where
  tk : Takes X W
def SoX (G : GC) (sc : Scope) (X : Cx) (W : WX) (x : Eng.X) (e' : Expr) : Prop := PE X e' (tX G.C W x) ∧ PT X e' (tXt G.C W x) ∧ ∀ op vs p, e' = .BoolOp op vs p → PW X e' (tXt G.C W x)
theorem mX_nice {N : List Str} {sc : Scope} {x : Eng.X} {e' : Expr} (h : mX N sc x e' = true) : nice e' = true := by
  cases e' <;> first
    | rfl
    | (cases x <;> (unfold mX at h; first | (exact mE_nice h) | (exact absurd h Bool.false_ne_true) | (split at h <;> first | (exact absurd h Bool.false_ne_true) | (rename_i q; cases q; done) | cases h)))
theorem mXs_nice {N : List Str} {sc : Scope} : ∀ {es : Xs} {es' : List Expr}, mXs N sc es es' = true → es'.all nice = true
  | .nil, [], _ => rfl
  | .nil, _ :: _, h => by unfold mXs at h; cases h
  | .cons e es, [], h => by unfold mXs at h; cases h
  | .cons e es, a :: r, h => by
    unfold mXs at h
    have h := Bool.and_eq_true_iff.mp h
    rw [List.all_cons, mX_nice h.1, mXs_nice h.2]; rfl
section
variable {G : GC} {sc : Scope} {X : Cx} {W : WX} {x a b c : Eng.X} {xs : Xs} {e' a' b' c' : Expr} {es' : List Expr} {pos p : Pos}
variable {H0 : Gh} {H H1 H2 : Hp} {B : Addr → Prop} {AA AA1 AA2 : Nat → List Addr} {σ : L2.St} {ρ ρ1 ρ2 : Rh} {As Bs : List Addr} {v w : V} {vs : List V} {us : List Val}
theorem sxt_no (h : ∀ ρ, xt x ρ = none) : PT X e' (tXt G.C W x) := ⟨fun pins s σ H Q I q => by
  obtain ⟨H0, B, AA, ρ, k, R, q, _⟩ := q
  rw [h] at q; cases q⟩
theorem sxw_no (h : ∀ ρ, xt x ρ = none) : PW X e' (tXt G.C W x) := ⟨fun wh pins s σ H Q I q => by
  obtain ⟨H0, B, AA, ρ, k, R, q, _⟩ := q
  rw [h] at q; cases q⟩
theorem sx_no (hp : PE X e' (tX G.C W x)) (ht : ∀ ρ, xt x ρ = none) : SoX G sc X W x e' := ⟨hp, sxt_no ht, fun _ _ _ _ => sxw_no ht⟩
theorem fint_of {u : Val} {b : Bool} {Q : Bool → Hp → Prop} (f : fint G.C W H0 B AA H σ (.ok b ρ1) Q) (P : PXs G.C H0 B AA H σ us As vs H1 AA1 ρ1) : Q b H1 := f H1 AA1 P.rep.drop P.mov.nil
/-- a test by the worth -/
theorem sx_val (g : GoodW G sc X W) (hp : PE X e' (tX G.C W x)) (hn : plainT e' = true) (ht : ∀ ρ, xt x ρ = rb (xv x ρ) fun u ρ1 => rv (truU u) ρ1) : SoX G sc X W x e' :=
  ⟨hp, (pt_truth hp (tru_plain hn)).imp fun σ H Q q => by
    obtain ⟨H0, B, AA, ρ, z, R, h, f⟩ := q
    rw [ht] at h
    refine tX_go R h (exW_fint f) fun u ρ1 As v H1 AA1 _ h2 P _ _ => ?_
    obtain ⟨k, h3, rfl⟩ := rv_inv h2
    exact ⟨k, by rw [g.K]; exact truU_V P h3, fint_of (u := u) f P⟩, fun op vs p q => by subst q; cases hn⟩
theorem Mov.same0 {AA : Nat → List Addr} {H H' : Hp} (e : Same H H') : Mov AA H AA [] H' := Mov.same e fun _ m => by cases m
theorem sx_pe {e : E} (g : GoodW G sc X W) (hs : SoE G sc X e e') : SoX G sc X W (.pe e) e' := by
  have key : ∀ (σ : L2.St) (H : Hp) (Q : Bool → Hp → Prop), tXt G.C W (.pe e) σ H Q → tT G.C e σ H Q := fun σ H Q q => by
    obtain ⟨H0, B, AA, ρ, z, R, h, f⟩ := q
    unfold xt at h
    obtain ⟨b, h1, rfl⟩ := rv_inv h
    exact ⟨H0.h, B, AA, tr ρ, b, R.rep, h1, fun H' s => f H' AA (R.mono s) (Mov.same0 s)⟩
  refine ⟨hs.1.imp fun σ H Q q => ?_, hs.2.1.imp key, fun op vs p q => (hs.2.2 op vs p q).imp key⟩
  obtain ⟨H0, B, AA, ρ, z, R, h, f⟩ := q
  unfold xv at h
  obtain ⟨val, h1, rfl⟩ := rv_inv h
  obtain ⟨t, h2, h3⟩ := bnd h1
  split at h3
  · rename_i s
    cases h3
    exact tE_of R.rep h2 s fun As v H' p => f As v H' AA (post_px R Mov.refl p) fun _ => ⟨p.same, rfl⟩
  · split at h3
    · rename_i n
      cases h3
      exact tE_frz R.rep h2 fun As v H' p => f [] v H' AA (noL_px R Mov.refl p.same p.dat n) fun _ => ⟨p.same, rfl⟩
    · cases h3
/-- a part of what a slot owns -/
theorem sub_px {u : U} (P : PXs G.C H0 B AA H σ us As vs H1 AA1 ρ1) (o : OwnU G.C (H0.η) (hid H1 (ZZ B AA1)) H1 v u Bs) (k : ∀ a, a ∈ Bs → ∃ i, a ∈ AA1 i) : PXs G.C H0 B AA H σ [(u, !u.own)] [] [v] H1 AA1 ρ1 := by
  have R := P.rep.drop
  refine ⟨by rw [Zp_nil]; exact R, List.nodup_nil, (fun _ m => by cases m), ?_, P.mov.nil⟩
  rw [Zp_nil]
  cases h : u.own with
  | true => exact .bor o k .nil
  | false =>
    obtain ⟨t, _, _, h3⟩ := o.shd h
    subst h3
    exact .own (As := []) o .nil
theorem PXs.bors {u : U} (P : PXs G.C H0 B AA H σ [(u, false)] As [v] H1 AA1 ρ1) : ∃ Bs, OwnU G.C (H0.η) (hid H1 (ZZ B AA1)) H1 v u Bs ∧ ∀ a, a ∈ Bs → ∃ i, a ∈ AA1 i := by
  have := P.own
  cases this with
  | bor o hp n => exact ⟨_, o.up (hid_mono (Same.refl _) fun _ _ _ z => .inl z) (fun _ _ => rfl), hp⟩
theorem PXs.bor1 {u : U} (P : PXs G.C H0 B AA H σ ((u, false) :: us) As (v :: vs) H1 AA1 ρ1) : ∃ Bs, OwnU G.C (H0.η) (hid H1 (ZZ B AA1)) H1 v u Bs ∧ ∀ a, a ∈ Bs → ∃ i, a ∈ AA1 i := by
  have := P.own
  cases this with
  | bor o hp n => exact ⟨_, o.up (hid_mono (Same.refl _) fun _ _ _ z => .inl z) (fun _ _ => rfl), hp⟩
theorem sx_var {i : Nat} {y : Str} (g : GoodW G sc X W) (hN : G.N[i]? = some y) (hv : visB sc y = true) (hn : nmB y = true) : SoX G sc X W (.var i) (.Name y pos) := by
  obtain ⟨n1, n2, n3⟩ := nmB_inv hn
  have hp : PE X (.Name y pos) (tVar i) := pe_var (i := i) (by rw [g.N]; exact hN) (g.vis y hv) n1 n2
  have key : ∀ {σ : L2.St} {H : Hp} {H0 : Gh} {B : Addr → Prop} {AA : Nat → List Addr} {ρ : Rh} {val : Val}, RepX G.C H0 B AA H σ ρ → varV i ρ = some val → ∃ v, σ[i]? = some (some v) ∧ PXs G.C H0 B AA H σ [val] [] [v] H AA ρ := by
    intro σ H H0 B AA ρ val R h
    unfold varV at h
    split at h
    · rename_i u hu
      cases h
      obtain ⟨v, h1, h2⟩ := R.slot i u hu
      exact ⟨v, h1, sub_px (PXs.nil R) h2 fun a m => ⟨i, m⟩⟩
    · cases h
  refine ⟨hp.imp fun σ H Q q => ?_, (pt_truth hp (tru_plain rfl)).imp fun σ H Q q => ?_, fun _ _ _ q => nomatch q⟩
  · obtain ⟨H0, B, AA, ρ, z, R, h, f⟩ := q
    unfold xv at h
    obtain ⟨val, h1, rfl⟩ := rv_inv h
    obtain ⟨v, k1, k2⟩ := key R h1
    exact ⟨v, k1, f [] v H AA k2 fun _ => ⟨Same.refl _, rfl⟩⟩
  · obtain ⟨H0, B, AA, ρ, z, R, h, f⟩ := q
    unfold xt at h
    obtain ⟨b, h1, rfl⟩ := rv_inv h
    obtain ⟨val, h2, h3⟩ := bnd h1
    obtain ⟨v, k1, k2⟩ := key R h2
    exact ⟨v, k1, b, by rw [g.K]; exact truU_V k2 h3, f H AA R Mov.refl⟩
/-- two parts, then what becomes of them -/
theorem two_go {z : R Val} {k : Val → Val → Option Val} {Gq : V → V → Hp → Prop} (R0 : RepX G.C H0 B AA H σ ρ) (h : (rb (xv a ρ) fun u ρ1 => rb (xv b ρ1) fun w ρ2 => if u.2 || pur b then rv (k u w) ρ2 else none) = some z) (e : exW G.C W H0 B AA H σ z)
    (q : ∀ u1 u2 val As v w H2 AA2 ρ2, PXs G.C H0 B AA H σ [u1, u2] As [v, w] H2 AA2 ρ2 → k u1 u2 = some val → z = .ok val ρ2 → ((pur a && pur b) = true → Same H H2 ∧ AA2 = AA) → Gq v w H2) : tX G.C W a σ H fun v H1 => tX G.C W b σ H1 fun w H2 => Gq v w H2 := by
  refine tX_go R0 h e fun u ρ1 As v H1 AA1 h1 h2 P p e1 => ?_
  refine tX_go P.rep h2 e1 fun u2 ρ2 Bs w H2 AA2 h3 h4 P2 p2 e2 => ?_
  split at h4
  · rename_i s
    obtain ⟨val, h5, rfl⟩ := rv_inv h4
    exact q u u2 val _ v w H2 AA2 ρ2 (two_px P P2 s p2) h5 rfl (pu2 p p2)
  · cases h4
/-- one of the worths: what it is -/
inductive VIs (C : Cfg) (η : Nat → Option V) (Z : Addr → Prop) (AA : Nat → List Addr) (H : Hp) : Val → V → Prop
  | own {F : Hp} {u : U} {v : V} {As : List Addr} : OwnU C η F H v u As → Same F (hid H Z) → (∀ a, a ∈ As → ¬ Z a) → VIs C η Z AA H (u, true) v
  | bor {u : U} {v : V} {Bs : List Addr} : OwnU C η (hid H Z) H v u Bs → (∀ a, a ∈ Bs → ∃ i, a ∈ AA i) → VIs C η Z AA H (u, false) v
theorem OwnVs.vis {C : Cfg} {η : Nat → Option V} {Z : Addr → Prop} {Ah : List Addr} : ∀ {vs : List V} {us : List Val} {As : List Addr}, OwnVs C η (hid H (Zp Z Ah)) H (fun a => ∃ i, a ∈ AA i) vs us As → (∀ a, a ∈ As → ¬ Z a) → ∀ (i : Nat) (u : Val) (v : V), us[i]? = some u → vs[i]? = some v → VIs C η Z AA H u v
  | _, _, _, .nil, k, i, u, v, h, g => by simp at h
  | _, _, _, .own o hs, k, 0, u, v, h, g => by cases h; cases g; exact .own o (hid_mono (Same.refl _) fun _ _ _ z => .inl z) fun a m => k a (List.mem_append_left _ m)
  | _, _, _, .own o hs, k, i + 1, u, v, h, g => hs.vis (fun a m => k a (List.mem_append_right _ m)) i u v (by simpa using h) (by simpa using g)
  | _, _, _, .bor o hp hs, k, 0, u, v, h, g => by cases h; cases g; exact .bor (o.up (hid_mono (Same.refl _) fun _ _ _ z => .inl z) fun _ _ => rfl) hp
  | _, _, _, .bor o hp hs, k, i + 1, u, v, h, g => hs.vis k i u v (by simpa using h) (by simpa using g)
theorem PXs.vis (P : PXs G.C H0 B AA H σ us As vs H1 AA1 ρ1) {i : Nat} {u : Val} (h : us[i]? = some u) (g : vs[i]? = some v) : VIs G.C (H0.η) (ZZ B AA1) AA1 H1 u v := P.own.vis P.nZ i u v h g
theorem VIs.shd {C : Cfg} {η : Nat → Option V} {Z : Addr → Prop} {d : D} {s : Bool} (h : VIs C η Z AA H (.sh d, s) v) : Dat C (hid H Z) v d := by
  cases h with
  | own o e k => cases o with | sh d => exact d.mono e
  | bor o k => cases o with | sh d => exact d
theorem lsnV_px {C : Cfg} {η : Nat → Option V} {Z : Addr → Prop} {u : Val} {ds : List D} (P : VIs C η Z AA H u v) (h : lsnV u = some ds) : ∃ a us, v = .ref a ∧ H a = some (.lst us) ∧ Dats C (hid H Z) us ds := by
  obtain ⟨u, s⟩ := u
  unfold lsnV at h
  simp only at h
  split at h
  · rename_i us
    cases P with
    | own o e k =>
      obtain ⟨ts, h1, rfl⟩ := map_inv (show (U.ts us).map T.ds = some ds from h)
      cases o with
      | @lst a vs _ As1 ha hs => exact ⟨a, vs, rfl, ha, (hs.t h1).dat e fun b o m z => hid_some.mpr ⟨k b (List.mem_cons_of_mem _ m), z⟩⟩
    | bor o k =>
      have h : U.dsU us = some ds := h
      unfold U.dsU at h
      split at h
      · rename_i ho
        obtain ⟨ts, h1, rfl⟩ := map_inv h
        cases o with
        | @lst a vs _ As1 ha hs =>
          obtain ⟨ts', g1, g2, g3⟩ := hs.shd ho
          rw [h1] at g1; cases g1
          exact ⟨a, vs, rfl, ha, g2⟩
      · cases h
  · cases h
    obtain ⟨a, vs, rfl, h1, h2⟩ := P.shd.vlst
    exact ⟨a, vs, rfl, hid_sub _ _ h1, h2⟩
  · cases h
theorem lstV_px {C : Cfg} {η : Nat → Option V} {Z : Addr → Prop} {u : Val} {ds : List D} (P : VIs C η Z AA H u v) (h : lstV u = some ds) : (∃ a us, v = .ref a ∧ H a = some (.lst us) ∧ Dats C (hid H Z) us ds) ∨ ∃ (a : Addr) (ns : List Int), v = .ref a ∧ SqL C.K (hid H Z) a (ns.map V.int) ∧ ds = ns.map D.int := by
  obtain ⟨u, s⟩ := u
  unfold lstV at h
  simp only at h
  split at h
  · exact .inl (lsnV_px P h)
  · exact .inl (lsnV_px P h)
  · cases h
    obtain ⟨a, rfl, h1⟩ := P.shd.vscr
    exact .inr ⟨a, _, rfl, h1, rfl⟩
  · cases h
/-- a new list of shared things -/
theorem newL_px {ds : List D} {q : Addr} (P : PXs G.C H0 B AA H σ us As vs H1 AA1 ρ1) {ws : List V} (h : Dats G.C (hid H1 (ZZ B AA1)) ws ds) (hq : H1 q = none) :
    PXs G.C H0 B AA H σ [(.lst (ds.map .sh), true)] [q] [.ref q] (upd H1 q (.lst ws)) AA1 ρ1 := by
  have e : Same H1 (upd H1 q (.lst ws)) := Same.upd hq
  have R := P.rep.drop
  have nw : ∀ a, a ∈ [q] → H1 a = none := fun a m => by rw [List.mem_singleton.mp m]; exact hq
  refine ⟨R.grow e fun a m => ⟨nw a m, ?_⟩, by simp, fun a m => ⟨R.same.free (nw a m), fun z => (R.bs a z).some (nw a m)⟩, ?_, P.mov.trans (Mov.same e nw)⟩
  · rw [List.mem_singleton.mp m]; exact ⟨_, upd_same, fun _ q => nomatch q⟩
  · refine OwnVs.own (As := [q]) (Bs := []) (.lst upd_same (OwnUs.shs (h.mono (hid_mono e fun b o hb z => ?_)))) .nil
    rcases z with z | z
    · exact z
    · rw [nw b z] at hb; cases hb
theorem sx_bin {op : Operator} (ha : SoX G sc X W a a') (hb : SoX G sc X W b b') : SoX G sc X W (.bin op a b) (.BinOp a' op b' pos) := by
  have ho : OpR X (binaryOp op) (fun x y H Q => rP G.C (binD op) [x, y] H Q ∨ (op = .Add ∧ ∃ p q xs ys, x = .ref p ∧ y = .ref q ∧ H p = some (.lst xs) ∧ H q = some (.lst ys) ∧ xs.length + ys.length ≤ sizeLine ∧ ∀ r, H r = none → Q (.ref r) (upd H r (.lst (xs ++ ys))))) := by
    intro pins s σ H x y v u Q I rx ry h
    rcases h with h | ⟨rfl, h⟩
    · exact bin_ok (C := G.C) op pins s σ H x y v u Q I rx ry h
    · exact op_cat pins s σ H x y v u Q I rx ry h
  refine sx_no ((pe_op ho ha.1 hb.1).imp fun σ H Q q => ?_) fun ρ => by unfold xt; rfl
  obtain ⟨H0, B, AA, ρ, z, R, h, f⟩ := q
  unfold xv at h
  refine two_go R h (exW_fin f) fun u1 u2 val As v w H2 AA2 ρ2 P hk hz p => ?_
  subst hz
  have pure_ : opV (binD op) [u1, u2] = some val → rP G.C (binD op) [v, w] H2 Q := fun h => op_fin (pu := pur a && pur b) f P p (by show rv (opV (binD op) [u1, u2]) ρ2 = _; rw [h]; rfl)
  unfold binV at hk
  split at hk
  · rename_i us s c
    split at hk
    · exact .inl (pure_ hk)
    · obtain ⟨xs, h1, hk⟩ := bnd hk
      obtain ⟨ys, h2, hk⟩ := bnd hk
      split at hk
      · rename_i hl
        cases hk
        refine .inr ⟨rfl, ?_⟩
        have V1 := P.vis (i := 0) rfl rfl
        have V2 := P.vis (i := 1) rfl rfl
        obtain ⟨a1, vs1, rfl, ha1, hd1⟩ := lsnV_px V1 h1
        obtain ⟨a2, vs2, rfl, ha2, hd2⟩ := lsnV_px V2 h2
        refine ⟨a1, a2, vs1, vs2, rfl, rfl, ha1, ha2, by rw [hd1.length, hd2.length, sz_eq]; exact hl, fun r hr => ?_⟩
        refine f _ _ _ AA2 (newL_px P (hd1.append hd2) hr) fun z => ?_
        obtain ⟨z1, z2⟩ := p z
        exact ⟨z1.trans (Same.upd hr), z2⟩
      · cases hk
  · exact .inl (pure_ hk)
end
end Eng
/-! X I: more expressions keep their word. -/
namespace Eng
open PySem L2
section
variable {G : GC} {sc : Scope} {X : Cx} {W : WX} {x a b c : Eng.X} {xs : Xs} {e' a' b' c' : Expr} {es' : List Expr} {pos p : Pos}
variable {H0 : Gh} {H H1 H2 : Hp} {B : Addr → Prop} {AA AA1 AA2 : Nat → List Addr} {σ : L2.St} {ρ ρ1 ρ2 : Rh} {As Bs : List Addr} {v w : V} {vs : List V} {us : List Val}
theorem cmp_bl {op : CmpOp} {u1 u2 val : Val} (h : opV (cmpD op) [u1, u2] = some val) : ∃ b, val = (.sh (.bl b), true) := by
  obtain ⟨ds, h1, h⟩ := bnd h
  obtain ⟨t, h2, h⟩ := bnd h
  obtain ⟨b, rfl⟩ := cmpD_no h2
  split at h
  · cases h; exact ⟨b, rfl⟩
  · split at h
    · cases h; exact ⟨b, rfl⟩
    · cases h
theorem sx_cmp {op : CmpOp} (g : GoodW G sc X W) (ha : SoX G sc X W a a') (hb : SoX G sc X W b b') (nb : nice b' = true) : SoX G sc X W (.cmp op a b) (.Compare a' [op] [b'] pos) := by
  have hc := cmp_ok (X := X) (C := G.C) g.room.units g.K op
  refine ⟨(pe_cmpR hc ha.1 hb.1 (mark_plain nb)).imp fun σ H Q q => ?_, (pt_cmpR hc ha.1 hb.1 (mark_plain nb)).imp fun σ H Q q => ?_, fun _ _ _ q => nomatch q⟩
  · obtain ⟨H0, B, AA, ρ, z, R, h, f⟩ := q
    unfold xv at h
    refine two_go R h (exW_fin f) fun u1 u2 val As v w H2 AA2 ρ2 P hk hz p => ?_
    subst hz
    exact op_fin (pu := pur a && pur b) f P p (by show rv (opV (cmpD op) [u1, u2]) ρ2 = _; rw [hk]; rfl)
  · obtain ⟨H0, B, AA, ρ, z, R, h, f⟩ := q
    unfold xt at h
    rcases rb_inv h with ⟨val, ρ1, h1, h2⟩ | ⟨cc, fs, ρ1, h1, rfl⟩
    · unfold xv at h1
      refine two_go R h1 exW_ok fun u1 u2 val' As v w H2 AA2 ρ2 P hk hz p => ?_
      cases hz
      obtain ⟨k, hv⟩ := cmp_bl hk
      subst hv
      obtain ⟨k', hk', rfl⟩ := rv_inv h2
      cases hk'
      exact op_px P hk fun As' v H' P' s => ⟨k, blU_V P' rfl, f H' AA2 P'.rep.drop P'.mov.nil⟩
    · unfold xv at h1
      exact two_go R h1 (fun c fs ρ' e => by cases e; exact f) fun u1 u2 val' As v w H2 AA2 ρ2 P hk hz p => by cases hz
theorem sx_and {r : List Expr} (ha : SoX G sc X W a a') (hb : SoX G sc X W b (.BoolOp .And (b' :: r) pos)) : SoX G sc X W (.and a b) (.BoolOp .And (a' :: b' :: r) pos) := by
  have hw : PW X (.BoolOp .And (a' :: b' :: r) pos) (tXt G.C W (.and a b)) := (pw_and ha.2.1 (hb.2.2 _ _ _ rfl)).imp fun σ H Q q => by
    obtain ⟨H0, B, AA, ρ, z, R, h, f⟩ := q
    unfold xt at h
    refine tXt_go R h (exW_fint f) fun k ρ1 H1 AA1 h1 h2 R1 m e => ?_
    cases k with
    | true => exact ⟨H0, B, AA1, ρ1, z, R1, h2, f.back m⟩
    | false => cases h2; exact f H1 AA1 R1 m
  refine ⟨(pe_and ha.1 hb.1).imp fun σ H Q q => ?_, hw.pt, fun _ _ _ _ => hw⟩
  obtain ⟨H0, B, AA, ρ, z, R, h, f⟩ := q
  unfold xv at h
  refine tX_go R h (exW_fin f) fun u ρ1 As v H1 AA1 h1 h2 P p e => ?_
  split at h2
  · rename_i hu
    refine ⟨true, blU_V P hu, ?_⟩
    rw [if_pos rfl]
    refine tX_go P.rep.drop h2 ((exW_fin f).step0 P.mov) fun u2 ρ2 Bs w H2 AA2 h3 h4 P2 p2 e2 => ?_
    obtain ⟨val, h5, rfl⟩ := rv_inv h4
    obtain ⟨k, h6, rfl⟩ := map_inv h5
    rw [blU_V P2 h6]
    exact sh_fin f P2.rep.drop (P.mov.nil.trans P2.mov) (pu2 p p2) (.bl k) rfl
  · rename_i hu
    refine ⟨false, blU_V P hu, ?_⟩
    rw [if_neg (by decide)]
    cases h2
    exact sh_fin f P.rep.drop P.mov (fun z => p (Bool.and_eq_true_iff.mp z).1) (.bl false) rfl
  · cases h2
theorem sx_or {r : List Expr} (ha : SoX G sc X W a a') (hb : SoX G sc X W b (.BoolOp .Or (b' :: r) pos)) : SoX G sc X W (.or a b) (.BoolOp .Or (a' :: b' :: r) pos) := by
  have hw : PW X (.BoolOp .Or (a' :: b' :: r) pos) (tXt G.C W (.or a b)) := (pw_or ha.2.1 (hb.2.2 _ _ _ rfl)).imp fun σ H Q q => by
    obtain ⟨H0, B, AA, ρ, z, R, h, f⟩ := q
    unfold xt at h
    refine tXt_go R h (exW_fint f) fun k ρ1 H1 AA1 h1 h2 R1 m e => ?_
    cases k with
    | false => exact ⟨H0, B, AA1, ρ1, z, R1, h2, f.back m⟩
    | true => cases h2; exact f H1 AA1 R1 m
  refine ⟨(pe_or ha.1 hb.1).imp fun σ H Q q => ?_, hw.pt, fun _ _ _ _ => hw⟩
  obtain ⟨H0, B, AA, ρ, z, R, h, f⟩ := q
  unfold xv at h
  refine tX_go R h (exW_fin f) fun u ρ1 As v H1 AA1 h1 h2 P p e => ?_
  split at h2
  · rename_i hu
    refine ⟨false, blU_V P hu, ?_⟩
    rw [if_neg (by decide)]
    refine tX_go P.rep.drop h2 ((exW_fin f).step0 P.mov) fun u2 ρ2 Bs w H2 AA2 h3 h4 P2 p2 e2 => ?_
    obtain ⟨val, h5, rfl⟩ := rv_inv h4
    obtain ⟨k, h6, rfl⟩ := map_inv h5
    rw [blU_V P2 h6]
    exact sh_fin f P2.rep.drop (P.mov.nil.trans P2.mov) (pu2 p p2) (.bl k) rfl
  · rename_i hu
    refine ⟨true, blU_V P hu, ?_⟩
    rw [if_pos rfl]
    cases h2
    exact sh_fin f P.rep.drop P.mov (fun z => p (Bool.and_eq_true_iff.mp z).1) (.bl true) rfl
  · cases h2
theorem sx_one {op : BoolOp} (ha : SoX G sc X W a a') : SoX G sc X W (.one a) (.BoolOp op [a'] pos) := by
  have key : ∀ (σ : L2.St) (H : Hp) (Q : Bool → Hp → Prop), tXt G.C W (.one a) σ H Q → tXt G.C W a σ H Q := fun σ H Q q => by
    obtain ⟨H0, B, AA, ρ, z, R, h, f⟩ := q
    unfold xt at h
    exact ⟨H0, B, AA, ρ, z, R, h, f⟩
  have hw : PW X (.BoolOp op [a'] pos) (tXt G.C W (.one a)) := by
    cases op with
    | And => exact (pw_and1 ha.2.1).imp key
    | Or => exact (pw_or1 ha.2.1).imp key
  exact ⟨(pe_one ha.1).imp fun σ H Q q => by
    obtain ⟨H0, B, AA, ρ, z, R, h, f⟩ := q
    unfold xv at h
    exact ⟨H0, B, AA, ρ, z, R, h, f⟩, hw.pt, fun _ _ _ _ => hw⟩
theorem sx_not (ha : SoX G sc X W a a') : SoX G sc X W (.not a) (.UnaryOp .Not a' pos) := by
  refine ⟨(pe_not ha.1).imp fun σ H Q q => ?_, (pt_not ha.2.1).imp fun σ H Q q => ?_, fun _ _ _ q => nomatch q⟩
  · obtain ⟨H0, B, AA, ρ, z, R, h, f⟩ := q
    unfold xv at h
    refine tX_go R h (exW_fin f) fun u ρ1 As v H1 AA1 h1 h2 P p e => ?_
    obtain ⟨val, h5, rfl⟩ := rv_inv h2
    obtain ⟨k, h6, rfl⟩ := map_inv h5
    exact ⟨k, blU_V P h6, sh_fin f P.rep.drop P.mov p (.bl _) rfl⟩
  · obtain ⟨H0, B, AA, ρ, z, R, h, f⟩ := q
    unfold xt at h
    refine tXt_go R h (exW_fint f) fun k ρ1 H1 AA1 h1 h2 R1 m e => ?_
    cases h2
    exact f H1 AA1 R1 m
theorem sx_ife (hc : SoX G sc X W c c') (ha : SoX G sc X W a a') (hb : SoX G sc X W b b') : SoX G sc X W (.ife c a b) (.IfExp c' a' b' pos) := by
  refine sx_no ((pe_ifExp hc.2.1 ha.1 hb.1).imp fun σ H Q q => ?_) fun ρ => by unfold xt; rfl
  obtain ⟨H0, B, AA, ρ, z, R, h, f⟩ := q
  unfold xv at h
  refine tXt_go R h (exW_fin f) fun k ρ1 H1 AA1 h1 h2 R1 m e => ?_
  cases k with
  | true => rw [if_pos rfl] at h2 ⊢; exact ⟨H0, B, AA1, ρ1, z, R1, h2, f.back m fun z => by cases z⟩
  | false => rw [if_neg (by decide)] at h2 ⊢; exact ⟨H0, B, AA1, ρ1, z, R1, h2, f.back m fun z => by cases z⟩
theorem sa_nilX : PA X [] (tXs G.C W .nil) := pa_nil.imp fun σ H Q q => by
  obtain ⟨H0, B, AA, ρ, z, R, h, f⟩ := q
  unfold xvs at h
  cases h
  exact f [] [] H AA (PXs.nil R) fun _ => ⟨Same.refl _, rfl⟩
theorem sa_consX (ha : PE X e' (tX G.C W x)) (hs : PA X es' (tXs G.C W xs)) (n : nice e' = true) : PA X (e' :: es') (tXs G.C W (.cons x xs)) := (pa_cons ha hs (star_cons n)).imp fun σ H Q q => by
  obtain ⟨H0, B, AA, ρ, z, R, h, f⟩ := q
  unfold xvs at h
  refine tX_go R h (exW_fins f) fun u ρ1 As v H1 AA1 h1 h2 P p e => ?_
  refine tXs_go P.rep h2 e fun us ρ2 Bs vs H2 AA2 h3 h4 P2 p2 e2 => ?_
  split at h4
  · rename_i s
    cases h4
    exact f _ _ H2 AA2 (cons_px P P2 s p2) (pu2 p p2)
  · cases h4
/-- own worths in a new display -/
theorem OwnVs.ous {C : Cfg} {η : Nat → Option V} {F : Hp} {P : Addr → Prop} : ∀ {vs : List V} {us : List Val} {As : List Addr}, OwnVs C η F H P vs us As → allS us = true → OwnUs C η F H vs (us.map (·.1)) As
  | _, _, _, .nil, _ => .nil
  | _, _, _, .own o hs, s => .cons o (hs.ous s)
  | _, _, _, .bor o hp hs, s => by cases s
theorem OwnVs.len {C : Cfg} {η : Nat → Option V} {F : Hp} {P : Addr → Prop} : ∀ {vs : List V} {us : List Val} {As : List Addr}, OwnVs C η F H P vs us As → vs.length = us.length
  | _, _, _, .nil => rfl
  | _, _, _, .own o hs => congrArg (· + 1) hs.len
  | _, _, _, .bor o hp hs => congrArg (· + 1) hs.len
theorem lst_px {q : Addr} (P : PXs G.C H0 B AA H σ us As vs H1 AA1 ρ1) (s : allS us = true) (hq : H1 q = none) :
    PXs G.C H0 B AA H σ [(.lst (us.map (·.1)), true)] (q :: As) [.ref q] (upd H1 q (.lst vs)) AA1 ρ1 := by
  have e : Same H1 (upd H1 q (.lst vs)) := Same.upd hq
  have nA : q ∉ As := fun m => by obtain ⟨o, z⟩ := P.own.live q m; rw [hq] at z; cases z
  have R := (P.rep.grow (As := [q]) e fun a m => by rw [List.mem_singleton.mp m]; exact ⟨hq, _, upd_same, fun _ z => nomatch z⟩)
  have eZ : Zp (Zp B As) [q] = Zp B (q :: As) := by
    funext a; simp only [Zp, List.mem_cons, List.mem_singleton, List.not_mem_nil, or_false, eq_iff_iff]
    constructor
    · rintro ((h | h) | h)
      · exact .inl h
      · exact .inr (.inr h)
      · exact .inr (.inl h)
    · rintro (h | h | h)
      · exact .inl (.inl h)
      · exact .inr h
      · exact .inl (.inr h)
  rw [eZ] at R
  refine ⟨R, List.nodup_cons.mpr ⟨nA, P.nd⟩, fun a m => ?_, ?_, ⟨fun a o h n => e _ _ (P.mov.fr a o h n), fun a m => ?_⟩⟩
  · rcases List.mem_cons.mp m with rfl | m
    · exact ⟨P.rep.same.free hq, fun z => (P.rep.bs a (.inl z)).some hq⟩
    · exact P.nB a m
  · have := OwnVs.own (P := fun a => ∃ i, a ∈ AA1 i) (C := G.C) (η := H0.η) (F := hid (upd H1 q (.lst vs)) (Zp (ZZ B AA1) (q :: As))) (H := upd H1 q (.lst vs)) (v := .ref q) (u := .lst (us.map (·.1))) (As := q :: As) (vs := []) (us := []) (Bs := [])
      (.lst upd_same ((P.own.ous s).up (hid_mono e fun b o hb z => ?_) fun b m => upd_ne fun z => nA (z ▸ m))) .nil
    · rwa [List.append_nil] at this
    · rcases z with z | z
      · exact .inl z
      · rcases List.mem_cons.mp z with rfl | z
        · rw [hq] at hb; cases hb
        · exact .inr z
  · rcases m with m | m
    · rcases List.mem_cons.mp m with rfl | m
      · by_cases hx : ∃ i, a ∈ AA i
        · exact .inl hx
        · refine .inr ?_
          cases hh : H a with
          | none => rfl
          | some o => rw [P.mov.fr a o hh fun i z => hx ⟨i, z⟩] at hq; cases hq
      · exact P.mov.sub a (.inl m)
    · exact P.mov.sub a (.inr m)
theorem tup_px {q : Addr} (P : PXs G.C H0 B AA H σ us As vs H1 AA1 ρ1) (s : allS us = true) (hq : H1 q = none) :
    PXs G.C H0 B AA H σ [(.tup (us.map (·.1)), true)] As [.ref q] (upd H1 q (.tup vs)) AA1 ρ1 := by
  have e : Same H1 (upd H1 q (.tup vs)) := Same.upd hq
  have nA : q ∉ As := fun m => by obtain ⟨o, z⟩ := P.own.live q m; rw [hq] at z; cases z
  have R := P.rep.mono e
  refine ⟨R, P.nd, P.nB, ?_, ⟨fun a o h n => e _ _ (P.mov.fr a o h n), P.mov.sub⟩⟩
  have := OwnVs.own (P := fun a => ∃ i, a ∈ AA1 i) (C := G.C) (η := H0.η) (F := hid (upd H1 q (.tup vs)) (Zp (ZZ B AA1) As)) (H := upd H1 q (.tup vs)) (v := .ref q) (u := .tup (us.map (·.1))) (As := As) (vs := []) (us := []) (Bs := [])
    (.tup (hid_some.mpr ⟨fun z => ?_, upd_same⟩) ((P.own.ous s).up (hid_mono e fun b o hb z => z) fun b m => upd_ne fun z => nA (z ▸ m))) .nil
  · rwa [List.append_nil] at this
  · have z2 : ZZ (Zp B As) AA1 q := by rw [ZZ_Zp]; exact z
    exact (P.rep.z q z2).some hq
theorem sx_tup {k : Nat} (hs : PA X es' (tXs G.C W xs)) : SoX G sc X W (.tup xs) (.Tuple es' k pos) := by
  refine sx_no ((pe_tup hs).imp fun σ H Q q => ?_) fun ρ => by unfold xt; rfl
  obtain ⟨H0, B, AA, ρ, z, R, h, f⟩ := q
  unfold xv at h
  refine tXs_go R h (exW_fin f) fun us ρ1 As vs H1 AA1 h1 h2 P p e => ?_
  split at h2
  · rename_i hl
    have hl := Bool.and_eq_true_iff.mp hl
    cases h2
    refine ⟨by rw [P.own.len, sz_eq]; simpa using hl.1, fun q hq => f _ _ _ AA1 (tup_px P hl.2 hq) fun z => ?_⟩
    obtain ⟨z1, z2⟩ := p z
    exact ⟨z1.trans (Same.upd hq), z2⟩
  · cases h2
theorem sx_lst (hs : PA X es' (tXs G.C W xs)) : SoX G sc X W (.lst xs) (.List es' pos) := by
  refine sx_no ((pe_lst hs).imp fun σ H Q q => ?_) fun ρ => by unfold xt; rfl
  obtain ⟨H0, B, AA, ρ, z, R, h, f⟩ := q
  unfold xv at h
  refine tXs_go R h (exW_fin f) fun us ρ1 As vs H1 AA1 h1 h2 P p e => ?_
  split at h2
  · rename_i hl
    have hl := Bool.and_eq_true_iff.mp hl
    cases h2
    refine ⟨by rw [P.own.len, sz_eq]; simpa using hl.1, fun q hq => f _ _ _ AA1 (lst_px P hl.2 hq) fun z => ?_⟩
    obtain ⟨z1, z2⟩ := p z
    exact ⟨z1.trans (Same.upd hq), z2⟩
  · cases h2
end
end Eng
/-! X J: subscripts, slices, fields, calls of what is pure. -/
namespace Eng
open PySem L2
section
variable {G : GC} {sc : Scope} {X : Cx} {W : WX} {x a b c : Eng.X} {xs : Xs} {e' a' b' c' : Expr} {es' : List Expr} {pos p : Pos}
variable {H0 : Gh} {H H1 H2 : Hp} {B : Addr → Prop} {AA AA1 AA2 : Nat → List Addr} {σ : L2.St} {ρ ρ1 ρ2 : Rh} {As Bs : List Addr} {v w : V} {vs : List V} {us : List Val}
theorem IxR_or {r r' : R2} (h : IxR X r) (h' : IxR X r') : IxR X (fun x y H Q => r x y H Q ∨ r' x y H Q) :=
  fun value slice pins s σ H x y v u Q I rx ry q hs => q.elim (fun q => h value slice pins s σ H x y v u Q I rx ry q hs) fun q => h' value slice pins s σ H x y v u Q I rx ry q hs
theorem SlR_or {r r' : V → Option Int → Option Int → Hp → VK → Prop} (h : SlR X r) (h' : SlR X r') : SlR X (fun x l u H Q => r x l u H Q ∨ r' x l u H Q) :=
  fun pins s σ H x v vl vu lo hi sl Q I rx hs pl pu q => q.elim (fun q => h pins s σ H x v vl vu lo hi sl Q I rx hs pl pu q) fun q => h' pins s σ H x v vl vu lo hi sl Q I rx hs pl pu q
theorem int_px {u : Val} {i : Int} {C : Cfg} {η : Nat → Option V} {Z : Addr → Prop} (P : VIs C η Z AA H u v) (h : u.1 = .sh (.int i)) : v = .int i := by
  obtain ⟨u, s⟩ := u
  simp only at h
  subst h
  exact P.shd.vint
theorem ixN_lt {n m : Nat} {k : Int} (h : ixN n k = some m) : m < n := by
  unfold ixN at h
  split at h
  · split at h
    · cases h; omega
    · cases h
  · split at h
    · cases h; omega
    · cases h
/-- an item of what a slot owns -/
theorem OwnUs.at {C : Cfg} {η : Nat → Option V} {F : Hp} {us : List U} {i : Int} {u : U} (hs : OwnUs C η F H vs us As) (h : atI us i = some u) : ∃ v Bs, atI vs i = some v ∧ OwnU C η F H v u Bs ∧ ∀ a, a ∈ Bs → a ∈ As := by
  unfold atI at h ⊢
  obtain ⟨k, h1, h2⟩ := bnd h
  obtain ⟨v, Bs, g1, g2, g3, _⟩ := hs.get h2
  rw [hs.length, h1]
  exact ⟨v, Bs, g1, g2, fun a m => g3.subset m⟩
theorem sx_idx (g : GoodW G sc X W) (ha : SoX G sc X W a a') (hb : SoX G sc X W b b') (nb : nice b' = true) : SoX G sc X W (.idx a b) (.Subscript a' b' pos) := by
  refine sx_val g ((pe_ix (IxR_or (ix_ok g.K) (ix_seq (X := X))) ha.1 hb.1 (ix_plain nb)).imp fun σ H Q q => ?_) rfl fun ρ => by conv => lhs; unfold xt
  obtain ⟨H0, B, AA, ρ, z, R, h, f⟩ := q
  unfold xv at h
  refine two_go R h (exW_fin f) fun u1 u2 val As v w H2 AA2 ρ2 P hk hz p => ?_
  subst hz
  have pure_ : opV idxD [u1, u2] = some val → rP G.C idxD [v, w] H2 Q := fun h => op_fin (pu := pur a && pur b) f P p (by show rv (opV idxD [u1, u2]) ρ2 = _; rw [h]; rfl)
  have V1 := P.vis (i := 0) rfl rfl
  have V2 := P.vis (i := 1) rfl rfl
  unfold idxV at hk
  split at hk
  · rename_i us
    split at hk
    · rename_i i hi
      obtain ⟨u, h1, rfl⟩ := map_inv hk
      cases V1 with
      | bor o k =>
        cases o with
        | @lst q vs _ As1 ha hs =>
          obtain ⟨y, Bs, g1, g2, g3⟩ := hs.at h1
          exact .inr (.inl ⟨q, vs, i, y, rfl, int_px V2 hi, SqL.of ha, g1, f _ _ _ AA2 (sub_px P g2 fun a m => k a (List.mem_cons_of_mem _ (g3 a m))) p⟩)
    · cases hk
  · rename_i us
    split at hk
    · rename_i i hi
      obtain ⟨u, h1, rfl⟩ := map_inv hk
      cases V1 with
      | bor o k =>
        cases o with
        | @tup q vs _ As1 ha hs =>
          obtain ⟨y, Bs, g1, g2, g3⟩ := hs.at h1
          exact .inr (.inr (.inl ⟨q, vs, i, y, rfl, int_px V2 hi, SqT.of (hid_sub _ _ ha), g1, f _ _ _ AA2 (sub_px P g2 fun a m => k a (g3 a m)) p⟩))
    · cases hk
  · exact .inl (pure_ hk)
theorem sx_slc {lo hi : Eo} {lo' hi' : Option Expr} {p2 : Pos} (g : GoodW G sc X W) (ha : SoX G sc X W a a') (hl : PO X lo' (tO G.C lo)) (hh : PO X hi' (tO G.C hi)) : SoX G sc X W (.slc a lo hi) (.Subscript a' (.Slice lo' hi' none p2) pos) := by
  refine sx_no ((pe_slice (SlR_or (sl_ok g.K) (sl_list (X := X))) ha.1 hl hh).imp fun σ H Q q => ?_) fun ρ => by unfold xt; rfl
  obtain ⟨H0, B, AA, ρ, z, R, h, f⟩ := q
  unfold xv at h
  refine tX_go R h (exW_fin f) fun u ρ1 As v H1 AA1 h1 h2 P p e => ?_
  split at h2
  · rename_i l u2 hl2 hu2
    obtain ⟨val, h3, rfl⟩ := rv_inv h2
    have R1 := P.rep.drop
    refine ⟨H0.h, B, AA1, tr ρ1, l, R1.rep, hl2, fun H2 s2 => ⟨H0.h, B, AA1, tr ρ1, u2, (R1.mono s2).rep, hu2, fun H3 s3 => ?_⟩⟩
    have e13 := s2.trans s3
    have P3 : PXs G.C H0 B AA H σ [u] As [v] H3 AA1 ρ1 := by
      refine ⟨P.rep.mono e13, P.nd, P.nB, P.own.up (hid_mono e13 fun _ _ _ z => z) (fun a m => m) (fun a m => ?_) fun _ a ⟨i, m⟩ => ?_, ⟨fun a o h n => e13 _ _ (P.mov.fr a o h n), P.mov.sub⟩⟩
      · obtain ⟨o, ho⟩ := P.own.live a m; rw [ho, e13 _ _ ho]
      · obtain ⟨o, ho, _⟩ := (P.rep.new i a m).2.1; rw [ho, e13 _ _ ho]
    have p3 : pur a = true → Same H H3 ∧ AA1 = AA := fun z => ⟨(p z).1.trans e13, (p z).2⟩
    unfold slcV at h3
    split at h3
    · rename_i us
      obtain ⟨ds, h4, rfl⟩ := map_inv h3
      obtain ⟨q, ws, rfl, k1, k2⟩ := lsnV_px (ds := ds) (P3.vis (i := 0) rfl rfl) (by unfold lsnV; exact h4)
      refine .inr ⟨q, ws, rfl, SqL.of k1, fun r hr => f _ _ _ AA1 (newL_px P3 (cutL_D k2) hr) fun z => ?_⟩
      obtain ⟨z1, z2⟩ := p3 z
      exact ⟨z1.trans (Same.upd hr), z2⟩
    · exact .inl (op_fin (pu := pur a) f P3 p3 (by show rv (opV (slcD l u2) [u]) ρ1 = _; rw [h3]; rfl))
  · cases h2
theorem sx_fld {fd : Str} {cs : List Str} (g : GoodW G sc X W) (ha : SoX G sc X W a a') (hb : baseB a' = true) (hn : ∀ c, c ∈ cs → FldOk G fd c) : SoX G sc X W (.fld a fd cs) (.Attribute a' fd pos) := by
  refine sx_val g ((pe_fld ha.1 (base_ok hb)).imp fun σ H Q q => ?_) rfl fun ρ => by conv => lhs; unfold xt
  obtain ⟨H0, B, AA, ρ, z, R, h, f⟩ := q
  unfold xv at h
  refine tX_go R h (exW_fin f) fun u ρ1 As v H1 AA1 h1 h2 P p e => ?_
  obtain ⟨val, h3, rfl⟩ := rv_inv h2
  have V1 := P.vis (i := 0) rfl rfl
  unfold fldV at h3
  split at h3
  · rename_i c ns us
    split at h3
    · rename_i hc
      obtain ⟨w, h4, rfl⟩ := map_inv h3
      obtain ⟨i, h5, h6⟩ := bnd h4
      cases V1 with
      | bor o k =>
        cases o with
        | @ins q A dx _ _ ws _ As1 ho hm hs hl =>
          obtain ⟨y, Bs, g1, g2, g3, _⟩ := hs.get h6
          obtain ⟨k1, k2⟩ := hn c (by simpa using hc) _ hm
          refine ⟨q, A, dx, _, y, rfl, ho, by rw [g.K]; exact k1, by rw [g.K]; exact k2, ?_, f _ _ _ AA1 (sub_px P g2 fun a m => k a (List.mem_cons_of_mem _ (g3.subset m))) p⟩
          rw [lookup_zip (by rw [hl, hs.length]), h5]; exact g1
    · cases h3
  · obtain ⟨ds, q1, h3⟩ := bnd h3
    obtain ⟨t, q2, h3⟩ := bnd h3
    have hds : ∃ d, ds = [d] ∧ u.1.d = some d := by
      unfold dsV at q1
      obtain ⟨d, z1, z2⟩ := bnd q1
      cases z2
      exact ⟨d, rfl, z1⟩
    obtain ⟨d, rfl, hd⟩ := hds
    have q2 : fldD fd cs d = some t := q2
    have pd : Dat G.C H1 v d := by
      have := P.dats (ds := [d]) q1
      cases this with | cons h _ => exact h
    cases d with
    | ins c ns xs =>
      simp only [fldD] at q2
      split at q2
      · rename_i hc
        obtain ⟨d, hd, rfl⟩ := map_inv q2
        cases pd with
        | @ins q A dx _ _ ws _ ho hm hv hl =>
          obtain ⟨y, e1, e2⟩ := Eng.zip_lookup hv hd
          obtain ⟨k1, k2⟩ := hn c (by simpa using hc) _ hm
          refine ⟨q, A, dx, _, y, rfl, ho, by rw [g.K]; exact k1, by rw [g.K]; exact k2, e1, ?_⟩
          split at h3
          · rename_i s
            cases h3
            have pd' : Dat G.C (hid H1 (ZZ B AA1)) (.ref q) (.ins c ns xs) := by
              have := P.frees (ds := [.ins c ns xs]) s q1
              cases this with | cons h _ => exact h
            have e5 : Dat G.C (hid H1 (ZZ B AA1)) y d := by
              cases pd' with
              | ins ho' hm' hv' hl' =>
                have := hid_sub _ _ ho'
                rw [ho] at this
                have e3 := (HO.ins.inj (Option.some.inj this)).2.2
                obtain ⟨w', e4, e5⟩ := Eng.zip_lookup hv' hd
                rw [← e3, e1] at e4
                cases e4
                exact e5
            have P' := PXs.sh P.rep.drop e5
            exact f _ _ _ AA1 ⟨P'.rep, P'.nd, P'.nB, P'.own, P.mov.nil⟩ p
          · split at h3
            · rename_i n
              cases h3
              exact f _ _ _ AA1 (noL_px P.rep.drop P.mov (Same.refl _) e2 n) p
            · cases h3
      · cases q2
    | _ => simp only [fldD] at q2; cases q2
theorem sx_bi (bb : Bi) {es' : List Expr} (g : GoodW G sc X W) (hl : glB sc bb.name = true) (hn : nmB bb.name = true) (hs : PA X (a' :: es') (tXs G.C W xs)) (n : (a' :: es').all nice = true) (hm : NoG G bb.name) : SoX G sc X W (.bi bb xs) (.Call (.Name bb.name p) (a' :: es') [] pos) := by
  obtain ⟨n1, n2, n3⟩ := nmB_inv hn
  have n' := n
  rw [List.all_cons, Bool.and_eq_true] at n'
  have hm : X.mg bb.name = none := by rw [g.mg]; exact hm
  have hc0 := bi_ok (C := G.C) g.calm g.K bb
  have hc : CallR X bb.val (fun vs H Q => rP G.C (biD bb) vs H Q ∨ (bb = .list ∧ ∃ q ws, vs = [.ref q] ∧ H q = some (.lst ws) ∧ ∀ r, H r = none → Q (.ref r) (upd H r (.lst ws)))) := by
    intro pins s σ H xs us Q I rs q
    rcases q with q | ⟨rfl, q, ws, rfl, h1, h2⟩
    · exact hc0 pins s σ H xs us Q I rs q
    · exact call_list_of pins s σ H _ us Q I rs ⟨q, ws, rfl, .inl (SqL.of h1), h2⟩
  have hp : PE X (.Call (.Name bb.name p) (a' :: es') [] pos) (tCB (fun vs H Q => rP G.C (biD bb) vs H Q ∨ (bb = .list ∧ ∃ q ws, vs = [.ref q] ∧ H q = some (.lst ws) ∧ ∀ r, H r = none → Q (.ref r) (upd H r (.lst ws)))) (tXs G.C W xs)) := by
    cases bb
    case len => exact pe_callB hc (g.gl _ hl) hm (by decide +kernel) hs n3 n1 (star_cons n'.1) (star_any n'.2)
    case sum => exact pe_callB hc (g.gl _ hl) hm (by decide +kernel) hs n3 n1 (star_cons n'.1) (star_any n'.2)
    case any => exact pe_callB hc (g.gl _ hl) hm (by decide +kernel) hs n3 n1 (star_cons n'.1) (star_any n'.2)
    case all => exact pe_callB hc (g.gl _ hl) hm (by decide +kernel) hs n3 n1 (star_cons n'.1) (star_any n'.2)
    case max => exact pe_callB hc (g.gl _ hl) hm (by decide +kernel) hs n3 n1 (star_cons n'.1) (star_any n'.2)
    case min => exact pe_callB hc (g.gl _ hl) hm (by decide +kernel) hs n3 n1 (star_cons n'.1) (star_any n'.2)
    case abs => exact pe_callB hc (g.gl _ hl) hm (by decide +kernel) hs n3 n1 (star_cons n'.1) (star_any n'.2)
    case int => exact pe_callTy hc (g.gl _ hl) hm (by decide +kernel) hs n3 n1 (star_cons n'.1) (star_any n'.2)
    case str => exact pe_callTy hc (g.gl _ hl) hm (by decide +kernel) hs n3 n1 (star_cons n'.1) (star_any n'.2)
    case list => exact pe_callTy hc (g.gl _ hl) hm (by decide +kernel) hs n3 n1 (star_cons n'.1) (star_any n'.2)
    case tuple => exact pe_callTy hc (g.gl _ hl) hm (by decide +kernel) hs n3 n1 (star_cons n'.1) (star_any n'.2)
  refine sx_val g (hp.imp fun σ H Q q => ?_) rfl fun ρ => by conv => lhs; unfold xt
  obtain ⟨H0, B, AA, ρ, z, R, h, f⟩ := q
  unfold xv at h
  refine tXs_go R h (exW_fin f) fun us ρ1 As vs H1 AA1 h1 h2 P p e => ?_
  obtain ⟨val, h3, rfl⟩ := rv_inv h2
  unfold biV at h3
  split at h3
  · rename_i us'
    obtain ⟨ds, h4, rfl⟩ := map_inv h3
    have hvl := P.own.len
    obtain ⟨v, rfl⟩ : ∃ v, vs = [v] := by
      cases vs with
      | nil => cases hvl
      | cons v r => cases r with | nil => exact ⟨v, rfl⟩ | cons _ _ => simp at hvl
    obtain ⟨q, ws, rfl, k1, k2⟩ := lsnV_px (ds := ds) (P.vis (i := 0) rfl rfl) (by unfold lsnV; exact h4)
    refine .inr ⟨rfl, q, ws, rfl, k1, fun r hr => f _ _ _ AA1 (newL_px P k2 hr) fun z => ?_⟩
    obtain ⟨z1, z2⟩ := p z
    exact ⟨z1.trans (Same.upd hr), z2⟩
  · exact .inl (op_fin (pu := purs xs) f P p (by show rv (opV (biD bb) us) ρ1 = _; rw [h3]; rfl))
theorem sx_mth (m : Mt) {o : Expr} {ap : Pos} (g : GoodW G sc X W) (ha : SoX G sc X W a o) (hb : baseB o = true) (hline : (ap.endLine == pos.line) = true) (hlen : es'.length < 20) (hs : PA X (a' :: es') (tXs G.C W xs)) (n : (a' :: es').all nice = true) :
    SoX G sc X W (.mth m a xs) (.Call (.Attribute o m.name ap) (a' :: es') [] pos) := by
  have n' := n
  rw [List.all_cons, Bool.and_eq_true] at n'
  have hp := pe_bm (cpos := pos) F.plainAttrs_str (mt_slot m).1 (mt_slot m).2 (mt_ok (C := G.C) (X := X) m) ha.1 hs (base_ok hb) (by
    rw [star_few n]
    have : decide ((a' :: es').length + ([] : List Keyword).length + (if ([] : List Keyword).isEmpty then 0 else 1) < 30) = true := decide_eq_true (by simp only [List.length_cons, List.length_nil]; simp; omega)
    rw [this]; rfl) hline (star_cons n'.1) (star_any n'.2)
  refine sx_val g (hp.imp fun σ H Q q => ?_) rfl fun ρ => by conv => lhs; unfold xt
  obtain ⟨H0, B, AA, ρ, z, R, h, f⟩ := q
  unfold xv at h
  refine tX_go R h (exW_fin f) fun u ρ1 As v H1 AA1 h1 h2 P p e => ?_
  split at h2
  · rename_i hs2
    refine ⟨?_, ?_⟩
    · unfold strU at hs2
      split at hs2
      · rename_i ss hss
        have := P.vis (i := 0) rfl rfl
        obtain ⟨u, s⟩ := u
        simp only at hss
        subst hss
        rw [this.shd.vstr]; rfl
      · cases hs2
    · refine tXs_go P.rep h2 e fun us ρ2 Bs vs H2 AA2 h3 h4 P2 p2 e2 => ?_
      split at h4
      · rename_i s
        exact op_fin (pu := pur a && purs xs) f (cons_px P P2 s p2) (pu2 p p2) h4
      · cases h4
  · cases h2
end
end Eng
/-! X K: calls that may change what they are handed, and may raise. -/
namespace L2
open PySem PySem.Spec PyProof.Rows
section
variable {X : Cx} {CX : CXT} {k : Nat} {f C : Addr} {fd : FuncData} {ps : List Str} {sp : Sp} {dvs : List V} {ds : List Value} {E : St → XK} {x m : Str} {p pos apos : Pos} {e o : Expr} {es : List Expr} {t : TA} {ta : TE}
theorem pe_call0SD (F : FnOk X.prog X.w X.K X.mg X.base CX k f fd ps sp) (hr : Room k X.A) (hg : Gl X x) (hm : X.mg x = some (.ref f)) (hk : PySem.W.keepIn X.K (.ref f) = true) (hb : Binds X.K fd ps ds) (hd : Vals dvs ds) (hx : ∀ σ, PassesAt CX X σ (E σ))
    (hdb : (x == ("__debug__" : Str)) = false := by decide) : PE X (.Call (.Name x p) [] [] pos) (tCallSD sp dvs E tNil) := by
  refine ⟨fun pins s σ H Q I h => ?_⟩
  refine wpAny_Call_Name_kw (ld_glob I hg hm ?_ hdb)
  exact PySem.W.callWith_K0 I.kIn hk (run_fnSD (us := []) F hr hb hd (hx σ) I .nil h)
def tMethSD (C : Addr) (m : Str) (sp : Sp) (dvs : List V) (E : St → XK) (ta : TE) (t : TA) : TE := fun σ H Q => ta σ H fun x H1 => ∃ a dx fs, x = .ref a ∧ H1 a = some (.ins C dx fs) ∧ fs.lookup m = none ∧
  t σ H1 fun vs H2 => sp (x :: (vs ++ dvs)) H2 Q (E σ)
theorem pe_methSD {pl : Sem Bool} (he : PE X o ta) (c : Cls X.K C) (hm : Meth X.K C m f) (F : FnOk X.prog X.w X.K X.mg X.base CX k f fd ps sp) (hr : Room k X.A) (hb : Binds X.K fd ps ds) (hd : Vals dvs ds) (hx : ∀ σ, PassesAt CX X σ (E σ)) (ha : PA X (e :: es) t)
    (hst : starEach (e :: es) X.env = (false, eval e X.env) :: starEach es X.env := by rfl) (hpl : (backTo pos (starEach es X.env)).any (·.1) = false := by rfl)
    (ht : eval (.Call (.Attribute o m apos) (e :: es) [] pos) X.env = (do
      let ov ← eval o X.env
      standAt apos.atName
      let (f, first) ← holding [ov] (getMethod ov m pl)
      callWith pos f first (backTo pos (starEach (e :: es) X.env)) (backToKw pos (keywordEach [] X.env))) := by rfl) :
    PE X (.Call (.Attribute o m apos) (e :: es) [] pos) (tMethSD C m sp dvs E ta t) := by
  refine ⟨fun pins s σ H Q I h => ?_⟩
  refine PySem.W.methodCall_KW (pl := pl) (thn (he.run pins s σ H _ I h) fun u s1 ⟨x, H1, I1, rx, a, dx, fs, ex, ea, l, q⟩ => ?_) ht
  subst ex
  obtain rfl : u = Value.ref a := rx
  refine getmeth_ok I1 ea c hm l ?_
  refine PySem.W.callWith_K (first := [.ref a]) (h₀ := X.base) I.ok.mod.kin hm.kp (thn (ha.run pos pins s1 σ H1 _ I1 q) fun us s2 ⟨vs, H2, I2, r, q2⟩ => ⟨I2.kIn, ?_⟩) hst hpl
  exact run_fnSD (us := .ref a :: us) (vs := .ref a :: vs) F hr hb hd (hx σ) I2 (.cons rfl r) q2
theorem pe_meth0SD {pl : Sem Bool} (he : PE X o ta) (c : Cls X.K C) (hm : Meth X.K C m f) (F : FnOk X.prog X.w X.K X.mg X.base CX k f fd ps sp) (hr : Room k X.A) (hb : Binds X.K fd ps ds) (hd : Vals dvs ds) (hx : ∀ σ, PassesAt CX X σ (E σ))
    (ht : eval (.Call (.Attribute o m apos) [] [] pos) X.env = (do
      let ov ← eval o X.env
      standAt apos.atName
      let (f, first) ← holding [ov] (getMethod ov m pl)
      callWith pos f first (backTo pos (starEach [] X.env)) (backToKw pos (keywordEach [] X.env))) := by rfl) :
    PE X (.Call (.Attribute o m apos) [] [] pos) (tMethSD C m sp dvs E ta tNil) := by
  refine ⟨fun pins s σ H Q I h => ?_⟩
  refine PySem.W.methodCall_KW (pl := pl) (thn (he.run pins s σ H _ I h) fun u s1 ⟨x, H1, I1, rx, a, dx, fs, ex, ea, l, q⟩ => ?_) ht
  subst ex
  obtain rfl : u = Value.ref a := rx
  refine getmeth_ok I1 ea c hm l ?_
  exact PySem.W.callWith_K0 (first := [.ref a]) I1.kIn hm.kp (run_fnSD (us := [.ref a]) (vs := [.ref a]) F hr hb hd (hx σ) I1 (.cons rfl .nil) q)
end
end L2
namespace Eng
open PySem L2
section
variable {C : Cfg} {H0 : Gh} {H H1 H2 H' : Hp} {B : Addr → Prop} {AA AA1 AA2 : Nat → List Addr} {σ : L2.St} {ρ ρ1 ρ2 : Rh} {As Bs Bs2 As' : List Addr} {v w x : V} {vs : List V} {us : List Val} {i : Nat} {q : List Stp}
/-- what a slot's part was handed to is put back -/
theorem io_put {u wt : U} {t u' : T} (R : RepX C H0 B AA1 H1 σ ρ1) (hu : ρ1[i]? = some (some u)) (hw : u.atP q = some wt)
    (hx : ∃ v, σ[i]? = some (some v) ∧ WayV C (hid H1 (ZZ B AA1)) H1 v q x) :
    ∃ Bs, OwnU C (H0.η) (hid H1 (ZZ B AA1)) H1 x wt Bs ∧ Bs.Nodup ∧ (∀ a, a ∈ Bs → a ∈ AA1 i) ∧ Zp (fun a => ZZ B AA1 a ∧ a ∉ Bs) Bs = ZZ B AA1 ∧
      ∀ {H' : Hp} {u' : T} {As' Bs2 : List Addr}, IoPost C (fun a => ZZ B AA1 a ∧ a ∉ Bs) H1 Bs H' x u' As' Bs2 → (∀ a, a ∈ Bs2 → nTup H' a) →
        ∃ AA', RepX C H0 (Zp B Bs2) AA' H' σ (putR ρ1 i q u'.u) ∧ Mov AA1 H1 AA' Bs2 H' ∧ ZZ (Zp B Bs2) AA' = Zp (fun a => ZZ B AA1 a ∧ a ∉ Bs) (As' ++ Bs2) ∧ ∀ a, a ∈ Bs2 → H0.h a = none ∧ ¬ B a := by
  obtain ⟨v, hv, ow⟩ := R.slot i u hu
  obtain ⟨v', hv', way⟩ := hx
  rw [hv] at hv'; cases hv'
  obtain ⟨x', Bs, f1, f2, f3, f4, f5⟩ := focus ow (R.nd i) hw
  have := f1.det hid_sub hid_sub way
  subst this
  have eZ : Zp (fun a => ZZ B AA1 a ∧ a ∉ Bs) Bs = ZZ B AA1 := by
    funext a
    refine propext ⟨fun z => ?_, fun z => ?_⟩
    · rcases z with z | z
      · exact z.1
      · exact .inr ⟨i, f3 a z⟩
    · by_cases hb : a ∈ Bs
      · exact .inr hb
      · exact .inl ⟨z, hb⟩
  refine ⟨Bs, f2, f4, f3, eZ, fun {H' u' As' Bs2} P nt => ?_⟩
  have ndAB := List.nodup_append.mp P.nd
  have liveI : ∀ j a, a ∈ AA1 j → H1 a ≠ none := fun j a m => (R.new j a m).2.1.some
  have As'_in : ∀ a j, a ∈ As' ∨ a ∈ Bs2 → a ∈ AA1 j → a ∈ Bs := fun a j m z => by
    rcases P.sub a m with y | y
    · exact y
    · exact absurd y (liveI j a z)
  have notB : ∀ a, a ∈ As' ∨ a ∈ Bs2 → ¬ B a ∧ H0.h a = none := fun a m => by
    rcases P.sub a m with y | y
    · exact ⟨(R.new i a (f3 a y)).2.2, (R.new i a (f3 a y)).1⟩
    · exact ⟨fun z => (R.bs a z).some y, R.same.free y⟩
  have BsB : ∀ a, B a → a ∉ Bs := fun a z m => (R.new i a (f3 a m)).2.2 z
  have BsJ : ∀ j a, j ≠ i → a ∈ AA1 j → a ∉ Bs := fun j a hj m z => hj (R.dj j i a m (f3 a z))
  have subF : Same (hid H1 (ZZ B AA1)) (hid H' (Zp (fun a => ZZ B AA1 a ∧ a ∉ Bs) (As' ++ Bs2))) := fun a o h => by
    obtain ⟨h1, h2⟩ := hid_some.mp h
    have nb : a ∉ Bs := fun z => h1 (.inr ⟨i, f3 a z⟩)
    refine hid_some.mpr ⟨fun z => ?_, P.fr a o h2 nb⟩
    rcases z with z | z
    · exact h1 z.1
    · rcases P.sub a (List.mem_append.mp z) with y | y
      · exact nb y
      · rw [h2] at y; cases y
  obtain ⟨As2, g1, g2, g3⟩ := f5 (η' := H0.η) (F' := hid H' (Zp (fun a => ZZ B AA1 a ∧ a ∉ Bs) (As' ++ Bs2))) (H' := H') (w' := u'.u) (Bs' := As') subF (fun a m n => by
      obtain ⟨o, ho, _⟩ := (R.new i a m).2.1
      rw [ho, P.fr a o ho n]) (fun _ _ => rfl) P.own.u ndAB.1 fun a m z => As'_in a i (.inl m) z
  have eq : ZZ (Zp B Bs2) (upA AA1 i As2) = Zp (fun a => ZZ B AA1 a ∧ a ∉ Bs) (As' ++ Bs2) := by
    funext a
    refine propext ⟨fun z => ?_, fun z => ?_⟩
    · rcases z with (z | z) | ⟨j, z⟩
      · exact .inl ⟨.inl z, BsB a z⟩
      · exact .inr (List.mem_append_right _ z)
      · by_cases hj : j = i
        · subst hj
          rw [upA_same] at z
          rcases (g2 a).mp z with z | z
          · exact .inr (List.mem_append_left _ z)
          · exact .inl ⟨.inr ⟨j, z.1⟩, z.2⟩
        · rw [upA_ne hj] at z
          exact .inl ⟨.inr ⟨j, z⟩, BsJ j a hj z⟩
    · rcases z with ⟨z | ⟨j, z⟩, n⟩ | z
      · exact .inl (.inl z)
      · by_cases hj : j = i
        · subst hj; exact .inr ⟨j, by rw [upA_same]; exact (g2 a).mpr (.inr ⟨z, n⟩)⟩
        · exact .inr ⟨j, by rw [upA_ne hj]; exact z⟩
      · rcases List.mem_append.mp z with z | z
        · exact .inr ⟨i, by rw [upA_same]; exact (g2 a).mpr (.inl z)⟩
        · exact .inl (.inr z)
  have put : putR ρ1 i q u'.u = ρ1.set i (some (u.putP q u'.u)) := by unfold putR; rw [hu]
  refine ⟨upA AA1 i As2, ⟨fun a o h => ?_, fun a z => ?_, fun j a m => ?_, fun j => ?_, fun j l a m n => ?_, fun j tt h => ?_, ?_⟩, ⟨fun a o h n => P.fr a o h fun z => n i (f3 a z), fun a m => ?_⟩, eq, fun a m => ⟨(notB a (.inr m)).2, (notB a (.inr m)).1⟩⟩
  · have h1 := R.same a o h
    exact P.fr a o h1 fun z => by have := (R.new i a (f3 a z)).1; rw [h] at this; cases this
  · rcases z with z | z
    · obtain ⟨o, h1, h2⟩ := R.bs a z
      exact ⟨o, P.fr a o h1 (BsB a z), h2⟩
    · exact nt a z
  · by_cases hj : j = i
    · subst hj
      rw [upA_same] at m
      rcases (g2 a).mp m with m | m
      · exact ⟨(notB a (.inl m)).2, P.own.ntup a m, fun z => z.elim (notB a (.inl m)).1 fun z => ndAB.2.2 a m a z rfl⟩
      · obtain ⟨k1, ⟨o, k2, k3⟩, k4⟩ := R.new j a m.1
        exact ⟨k1, ⟨o, P.fr a o k2 m.2, k3⟩, fun z => z.elim k4 fun z => m.2 (As'_in a j (.inr z) m.1)⟩
    · rw [upA_ne hj] at m
      obtain ⟨k1, ⟨o, k2, k3⟩, k4⟩ := R.new j a m
      exact ⟨k1, ⟨o, P.fr a o k2 (BsJ j a hj m), k3⟩, fun z => z.elim k4 fun z => BsJ j a hj m (As'_in a j (.inr z) m)⟩
  · by_cases hj : j = i
    · subst hj; rw [upA_same]; exact g3
    · rw [upA_ne hj]; exact R.nd j
  · have key : ∀ l a, l ≠ i → a ∈ As2 → a ∈ AA1 l → False := fun l a hl m n => by
      rcases (g2 a).mp m with m | m
      · exact BsJ l a hl n (As'_in a l (.inl m) n)
      · exact hl (R.dj l i a n m.1)
    by_cases hj : j = i
    · by_cases hl : l = i
      · rw [hj, hl]
      · subst hj; rw [upA_same] at m; rw [upA_ne hl] at n; exact (key l a hl m n).elim
    · rw [upA_ne hj] at m
      by_cases hl : l = i
      · subst hl; rw [upA_same] at n; exact (key j a hj n m).elim
      · rw [upA_ne hl] at n; exact R.dj j l a m n
  · rw [put] at h
    rw [eq]
    by_cases hj : i = j
    · subst hj
      have hi : i < ρ1.length := (List.getElem?_eq_some_iff.mp hu).1
      rw [List.getElem?_set_self hi] at h
      cases h
      exact ⟨v, hv, by rw [upA_same]; exact g1⟩
    · rw [List.getElem?_set_ne hj] at h
      obtain ⟨v', h1, h2⟩ := R.slot j tt h
      refine ⟨v', h1, ?_⟩
      rw [upA_ne (fun z => hj z.symm)]
      exact h2.up subF fun a m => by
        obtain ⟨o, ho⟩ := h2.live a m
        rw [ho, P.fr a o ho (BsJ j a (fun z => hj z.symm) m)]
  · rw [put, List.length_set]; exact R.len
  · rcases m with m | ⟨j, m⟩
    · rcases P.sub a (.inr m) with y | y
      · exact .inl ⟨i, f3 a y⟩
      · exact .inr y
    · by_cases hj : j = i
      · subst hj
        rw [upA_same] at m
        rcases (g2 a).mp m with m | m
        · rcases P.sub a (.inl m) with y | y
          · exact .inl ⟨j, f3 a y⟩
          · exact .inr y
        · exact .inl ⟨j, m.1⟩
      · rw [upA_ne hj] at m; exact .inl ⟨j, m⟩
end
end Eng
/-! X L: calls keep their word. -/
namespace Eng
open PySem L2
section
variable {G : GC} {sc : Scope} {X : Cx} {W : WX} {x a b c : Eng.X} {xs : Xs} {e' a' b' c' : Expr} {es' : List Expr} {pos p : Pos} {o : Expr}
variable {H0 : Gh} {H H1 H2 : Hp} {B : Addr → Prop} {AA AA1 AA2 : Nat → List Addr} {σ : L2.St} {ρ ρ1 ρ2 : Rh} {As Bs : List Addr} {v w : V} {vs : List V} {us : List Val}
theorem dsV_len : ∀ {us : List Val} {ds : List D}, dsV us = some ds → ds.length = us.length
  | [], ds, h => by cases h; rfl
  | u :: us, ds, h => by
    obtain ⟨d, _, h⟩ := bnd h
    obtain ⟨ds', h2, rfl⟩ := map_inv h
    exact congrArg (· + 1) (dsV_len h2)
/-- arguments and defaults -/
theorem op_pxD {f : List D → Option T} {val : Val} {Q : VK} {dvs : List V} {dds : List D} (P : PXs G.C H0 B AA H σ us As vs H1 AA1 ρ1) (hd : ∀ H, Dats G.C H dvs dds) (hv : opV (fun ds => f (ds ++ dds)) us = some val) (q : ∀ As' v H', PXs G.C H0 B AA H σ [val] As' [v] H' AA1 ρ1 → Same H1 H' → Q v H') : rP G.C f (vs ++ dvs) H1 Q := by
  obtain ⟨ds, h1, hv⟩ := bnd hv
  obtain ⟨t, h2, hv⟩ := bnd hv
  have R := P.rep.drop
  by_cases s : allS us = true
  · rw [if_pos s] at hv
    cases hv
    exact ⟨ds ++ dds, t, ZZ B AA1, true, (P.dats h1).append (hd _), fun _ => (P.frees s h1).append (hd _), R.z, h2, fun As' v H' p => q As' v H' (post_px R P.mov p) p.same⟩
  · rw [if_neg s] at hv
    split at hv
    · rename_i n
      cases hv
      exact ⟨ds ++ dds, t, fun _ => False, false, (P.dats h1).append (hd _), (fun z => nomatch z), (fun _ z => False.elim z), h2, fun As' v H' p => q [] v H' (noL_px R P.mov p.same p.dat n) p.same⟩
    · cases hv
theorem args0 {Q : List V → Hp → Prop} {k : List Val → Rh → Option (R Val)} {z : R Val} (hz : mXs G.N sc xs [] = true) (R0 : RepX G.C H0 B AA H σ ρ) (h : rb (xvs xs ρ) k = some z) (e : exW G.C W H0 B AA H σ z)
    (q : ∀ us ρ1 As vs H1 AA1, xvs xs ρ = some (.ok us ρ1) → k us ρ1 = some z → PXs G.C H0 B AA H σ us As vs H1 AA1 ρ1 → (purs xs = true → Same H H1 ∧ AA1 = AA) → exW G.C W H0 (Zp B As) AA1 H1 σ z → Q vs H1) : tNil σ H Q := by
  have : xs = .nil := by
    cases xs with
    | nil => rfl
    | cons _ _ => unfold mXs at hz; cases hz
  subst this
  unfold xvs at h
  refine q [] ρ [] [] H AA (by unfold xvs; rfl) h (PXs.nil R0) (fun _ => ⟨Same.refl _, rfl⟩) ?_
  rw [Zp_nil]; exact e
theorem sx_cal {f : Str} {F : List D → Option T} {dds : List D} (g : GoodW G sc X W) (hl : glB sc f = true) (hn : nmB f = true) (hs : PA X es' (tXs G.C W xs)) (hmx : mXs G.N sc xs es' = true) (hm : CallOk G f F dds) : SoX G sc X W (.cal f F dds xs) (.Call (.Name f p) es' [] pos) := by
  obtain ⟨n1, n2, n3⟩ := nmB_inv hn
  obtain ⟨fa, fd, ps, dvs, ds, c1, c2, c3, c4, c5, c6⟩ := hm
  have F1 : FnOk X.prog X.w X.K X.mg X.base CX0 G.k fa fd ps (pureSp G.C F) := by rw [g.prog, g.w, g.K, g.mg, g.base]; exact c3
  have hp : PE X (.Call (.Name f p) es' [] pos) (tX G.C W (.cal f F dds xs)) := by
    cases es' with
    | nil =>
      refine (pe_call0 F1 g.room (g.gl f hl) (by rw [g.mg]; exact c1) (by rw [g.K]; exact c2) (by rw [g.K]; exact c4) c5 pass0 n1).imp fun σ H Q q => ?_
      obtain ⟨H0, B, AA, ρ, z, R, h, ff⟩ := q
      unfold xv at h
      refine args0 hmx R h (exW_fin ff) fun us ρ1 As vs H1 AA1 h1 h2 P p e => ?_
      obtain ⟨val, h3, rfl⟩ := rv_inv h2
      exact op_pxD P c6 h3 fun As' v H' P' s => ff _ _ _ AA1 P' fun z => ⟨(p z).1.trans s, (p z).2⟩
    | cons e' r =>
      have n' := mXs_nice hmx
      rw [List.all_cons, Bool.and_eq_true] at n'
      refine (pe_call F1 g.room (g.gl f hl) (by rw [g.mg]; exact c1) (by rw [g.K]; exact c2) (by rw [g.K]; exact c4) c5 pass0 hs n1 (star_cons n'.1) (star_any n'.2)).imp fun σ H Q q => ?_
      obtain ⟨H0, B, AA, ρ, z, R, h, ff⟩ := q
      unfold xv at h
      refine tXs_go R h (exW_fin ff) fun us ρ1 As vs H1 AA1 h1 h2 P p e => ?_
      obtain ⟨val, h3, rfl⟩ := rv_inv h2
      exact op_pxD P c6 h3 fun As' v H' P' s => ff _ _ _ AA1 P' fun z => ⟨(p z).1.trans s, (p z).2⟩
  exact sx_val g hp rfl fun ρ => by conv => lhs; unfold xt
/-- a promise that may raise, met -/
theorem ra_meet {F : RaF} {dds : List D} {dvs : List V} {z : R Val} {Q : VK} {ds : List D} {r : FR} (f : fin G.C W H0 B AA H σ false z Q) (P : PXs G.C H0 B AA H σ us As vs H1 AA1 ρ1) (hd : ∀ H, Dats G.C H dvs dds) (s : allS us = true) (h1 : dsV us = some ds) (h2 : F (ds ++ dds) = some r) (hz : z = frR r ρ1) :
    raSp G.C F (vs ++ dvs) H1 Q (WE W σ) := by
  have R := P.rep.drop
  refine ⟨ds ++ dds, ZZ B AA1, r, (P.frees s h1).append (hd _), R.z, h2, fun t ht As' v H' p => ?_, fun c fs hr H' cls d e k => ?_⟩
  · subst hz; subst ht
    exact f _ _ _ AA1 (post_px R P.mov p) fun z => by cases z
  · subst hz; subst hr
    exact f H' AA1 cls d (R.mono e) (P.mov.nil.trans (Mov.same0 e)) k
theorem sx_cax {f : Str} {F : RaF} {dds : List D} (g : GoodW G sc X W) (hl : glB sc f = true) (hn : nmB f = true) (hs : PA X es' (tXs G.C W xs)) (hmx : mXs G.N sc xs es' = true) (hm : RaOk G f F dds) : SoX G sc X W (.cax f F dds xs) (.Call (.Name f p) es' [] pos) := by
  obtain ⟨n1, n2, n3⟩ := nmB_inv hn
  obtain ⟨fa, fd, ps, dvs, ds, c1, c2, c3, c4, c5, c6⟩ := hm
  have F1 : FnOk X.prog X.w X.K X.mg X.base (L2.CX X.prog X.w) G.k fa fd ps (raSp G.C F) := by rw [g.prog, g.w, g.K, g.mg, g.base]; exact c3
  have hx : ∀ σ, PassesAt (L2.CX X.prog X.w) X σ (WE W σ) := fun σ => passAt g.tk σ
  have key : ∀ {σ : L2.St} {H1 : Hp} {Q : VK} {H0 : Gh} {B : Addr → Prop} {AA AA1 : Nat → List Addr} {H : Hp} {z : R Val} {us : List Val} {ρ1 : Rh} {As : List Addr} {vs : List V}, fin G.C W H0 B AA H σ false z Q → PXs G.C H0 B AA H σ us As vs H1 AA1 ρ1 →
      (if allS us then match dsV us with | some ds => (F (ds ++ dds)).map fun r => frR r ρ1 | none => none else none) = some z → raSp G.C F (vs ++ dvs) H1 Q (WE W σ) := by
    intro σ H1 Q H0 B AA AA1 H z us ρ1 As vs ff P h2
    split at h2
    · rename_i s
      split at h2
      · rename_i ds' hds
        obtain ⟨r, h3, h4⟩ := map_inv h2
        exact ra_meet ff P c6 s hds h3 h4.symm
      · cases h2
    · cases h2
  have hp : PE X (.Call (.Name f p) es' [] pos) (tX G.C W (.cax f F dds xs)) := by
    cases es' with
    | nil =>
      refine (pe_call0SD F1 g.room (g.gl f hl) (by rw [g.mg]; exact c1) (by rw [g.K]; exact c2) (by rw [g.K]; exact c4) c5 hx n1).imp fun σ H Q q => ?_
      obtain ⟨H0, B, AA, ρ, z, R, h, ff⟩ := q
      unfold xv at h
      exact args0 hmx R h (exW_fin ff) fun us ρ1 As vs H1 AA1 h1 h2 P p e => key ff P h2
    | cons e' r =>
      have n' := mXs_nice hmx
      rw [List.all_cons, Bool.and_eq_true] at n'
      refine (pe_callSD F1 g.room (g.gl f hl) (by rw [g.mg]; exact c1) (by rw [g.K]; exact c2) (by rw [g.K]; exact c4) c5 hx hs n1 (star_cons n'.1) (star_any n'.2)).imp fun σ H Q q => ?_
      obtain ⟨H0, B, AA, ρ, z, R, h, ff⟩ := q
      unfold xv at h
      exact tXs_go R h (exW_fin ff) fun us ρ1 As vs H1 AA1 h1 h2 P p e => key ff P h2
  exact sx_val g hp rfl fun ρ => by conv => lhs; unfold xt
/-! ### places -/
def tPl (C : Cfg) (p : Pl) : TE := fun σ H Q => ∃ v, PlV C p σ H v ∧ Q v H
theorem sx_pl (g : GoodW G sc X W) : ∀ {p : Pl} {e' : Expr}, mP G.N sc p e' = true → NdP G p → PE X e' (tPl G.C p)
  | .slot i, e', m, n => by
    unfold mP at m
    split at m
    · obtain ⟨m1, m2, m3⟩ := and3 m
      obtain ⟨n1, n2, n3⟩ := nmB_inv m3
      exact (pe_var (i := i) (by rw [g.N]; exact of_decide_eq_true m1) (g.vis _ m2) n1 n2).imp fun σ H Q q => q
    · cases m
  | .fld p f cs, e', m, n => by
    unfold mP at m
    split at m
    · obtain ⟨m1, m2, m3⟩ := and3 m
      have := of_decide_eq_true m1
      subst this
      refine (pe_fld (sx_pl g m3 n.1) (base_ok m2)).imp fun σ H Q q => ?_
      obtain ⟨v, ⟨a, A, dx, fs, c, h1, h2, h3, h4, h5⟩, q⟩ := q
      obtain ⟨k1, k2⟩ := n.2 c h3 A h4
      exact ⟨.ref a, h1, a, A, dx, fs, v, rfl, h2, by rw [g.K]; exact k1, by rw [g.K]; exact k2, h5, q⟩
    · cases m
  | .ixc p k, e', m, n => by
    unfold mP at m
    split at m
    · have m := Bool.and_eq_true_iff.mp m
      have := of_decide_eq_true m.1
      subst this
      refine (pe_ix (ix_list (X := X)) (sx_pl g m.2 n) pe_int (fun _ _ => rfl)).imp fun σ H Q q => ?_
      obtain ⟨v, ⟨a, vs, h1, h2, h3⟩, q⟩ := q
      exact ⟨.ref a, h1, a, vs, k, v, rfl, rfl, SqL.of h2, atI_some (Int.natCast_nonneg _) (by rw [Int.toNat_natCast]; exact h3), q⟩
    · cases m
  | .ixv p j, e', m, n => by
    unfold mP at m
    split at m
    · have m := Bool.and_eq_true_iff.mp m
      obtain ⟨m1, m2, m3⟩ := and3 m.1
      obtain ⟨n1, n2, n3⟩ := nmB_inv m3
      refine (pe_ix (ix_list (X := X)) (sx_pl g m.2 n) (pe_var (i := j) (by rw [g.N]; exact of_decide_eq_true m1) (g.vis _ m2) n1 n2) (fun _ _ => rfl)).imp fun σ H Q q => ?_
      obtain ⟨v, ⟨a, vs, k, h1, h2, h3, h4⟩, q⟩ := q
      exact ⟨.ref a, h1, .int k, h3, a, vs, k, v, rfl, rfl, SqL.of h2, h4, q⟩
    · cases m
theorem mP_nice {p : Pl} {N : List Str} {e' : Expr} (h : mP N sc p e' = true) : nice e' = true := by
  cases p <;> (unfold mP at h; split at h <;> first | rfl | (exact absurd h Bool.false_ne_true))
/-- the arguments, the k-th a place -/
def tXk (C : Cfg) (W : WX) (p : Pl) : Xs → Nat → TA
  | .nil, _ => fun σ H Q => tPl C p σ H fun v H1 => Q [v] H1
  | .cons x xs, 0 => fun σ H Q => tPl C p σ H fun v H1 => tXs C W (.cons x xs) σ H1 fun vs H2 => Q (v :: vs) H2
  | .cons x xs, k + 1 => fun σ H Q => tX C W x σ H fun v H1 => tXk C W p xs k σ H1 fun vs H2 => Q (v :: vs) H2
theorem plV_go {i : Nat} {q : List Stp} {pl : Pl} (R0 : RepX G.C H0 B AA H σ ρ) (h : xvs xs ρ = some (.ok us ρ1)) (hp : (pl.isSlot || purs xs) = true) (hr : plR pl ρ1 = some (i, q)) (R1 : RepX G.C H0 B AA1 H1 σ ρ1) (s : purs xs = true → Same H H1) :
    ∃ v, PlV G.C pl σ H v ∧ PlV G.C pl σ H1 v := by
  rcases Bool.or_eq_true_iff.mp hp with z | z
  · cases pl with
    | slot j =>
      obtain ⟨u, w, v, x, e1, e2, e3, e4, e5, _⟩ := plR_some R1 hr
      exact ⟨x, e5, e5⟩
    | _ => cases z
  · obtain ⟨u', e⟩ := purs_ok z h
    cases e
    obtain ⟨u, w, v, x, e1, e2, e3, e4, e5, _⟩ := plR_some R0 hr
    exact ⟨x, e5, e5.mono (s z)⟩
end
end Eng
/-! X M: calls that change what they are handed; methods; making; isinstance. -/
namespace Eng
open PySem L2
section
variable {G : GC} {sc : Scope} {X : Cx} {W : WX} {x a b c : Eng.X} {xs : Xs} {e' a' b' c' : Expr} {es' : List Expr} {pos p p2 : Pos} {o : Expr}
variable {H0 : Gh} {H H1 H2 H' : Hp} {B : Addr → Prop} {AA AA1 AA2 : Nat → List Addr} {σ : L2.St} {ρ ρ1 ρ2 : Rh} {As Bs : List Addr} {v w : V} {vs : List V} {us : List Val} {pl : Pl}
theorem nodup_right {α : Type} {a b : List α} (h : (a ++ b).Nodup) : b.Nodup := (List.nodup_append.mp h).2.1
/-- the end of a call by which a slot's part was changed -/
theorem io_end {i : Nat} {q : List Stp} {t u' : T} {r : FR} {z : R Val} {Q : VK} {k : Nat} {F : IoF} {ds dds : List D} {dvs : List V} {v0 : V} (f : fin G.C W H0 B AA H σ false z Q) (P : PXs G.C H0 B AA H σ us As vs H1 AA1 ρ1)
    (hd : ∀ H, Dats G.C H dvs dds) (s : allS us = true) (h1 : dsV us = some ds) (hk : k ≤ us.length) (hv : PlV G.C pl σ H1 v0) (hp : plR pl ρ1 = some (i, q)) {u : U} (hg : getP ρ1 i q = some u) (ht : u.t = some t) (h2 : F t (ds ++ dds) = some (r, u')) (hz : z = frR r (putR ρ1 i q u'.u)) :
    ioSp G.C k F (insK k v0 (vs ++ dvs)) H1 Q (WE W σ) := by
  have R := P.rep.drop
  obtain ⟨u0, w0, v1, x, e1, e2, e3, e4, e5, _⟩ := plR_some R hp
  have := e5.det hv
  subst this
  obtain ⟨u1, g1, g2⟩ := getP_inv hg
  rw [e1] at g1; cases g1
  rw [e2] at g2; cases g2
  obtain ⟨Bs, k1, k2, k3, k4, k5⟩ := io_put (t := t) (u' := u') R e1 e2 ⟨_, e3, e4⟩
  refine ⟨x, vs ++ dvs, t, ds ++ dds, fun a => ZZ B AA1 a ∧ a ∉ Bs, Bs, r, u', rfl, by rw [List.length_append, P.own.len]; omega, ?_, ?_, k2, fun a m z => z.2 m, fun a z => R.z a z.1, h2, fun t' ht' v H' As' Bs2 p o => ?_, fun c fs hr H' As' cls d p e => ?_⟩
  · rw [k4]; exact k1.t ht
  · rw [k4]; exact (P.frees s h1).append (hd _)
  · subst hz; subst ht'
    obtain ⟨AA', m1, m2, m3, m4⟩ := k5 p o.ntup
    have e : Zp (ZZ B AA') Bs2 = Zp (fun a => ZZ B AA1 a ∧ a ∉ Bs) (As' ++ Bs2) := by rw [← m3, ZZ_Zp]
    refine f Bs2 v H' AA' ⟨m1, nodup_right p.nd, m4, ?_, P.mov.trans m2⟩ fun z => by cases z
    have := OwnVs.own (P := fun a => ∃ i, a ∈ AA' i) (own_nf (η := H0.η) o) (OwnVs.nil)
    rw [List.append_nil] at this
    rw [e]; exact this
  · subst hz; subst hr
    obtain ⟨AA', m1, m2, m3, m4⟩ := k5 p fun a m => by cases m
    rw [Zp_nil] at m1
    exact f H' AA' cls d m1 (P.mov.nil.trans m2.nil) e
theorem insK_app {α : Type} (k : Nat) (x : α) (xs ys : List α) (h : k ≤ xs.length) : insK k x xs ++ ys = insK k x (xs ++ ys) := by
  unfold insK
  rw [List.append_assoc, List.cons_append, List.take_append_of_le_length h, List.drop_append_of_le_length h]
theorem tXk_go (pl : Pl) : ∀ (xs : Xs) (k : Nat) {H0 : Gh} {H : Hp} {B : Addr → Prop} {AA : Nat → List Addr} {ρ : Rh} {r : R (List Val)} {v0 : V} {Q : List V → Hp → Prop}, RepX G.C H0 B AA H σ ρ → PlV G.C pl σ H v0 → (pl.isSlot || purs xs) = true → xvs xs ρ = some r → exW G.C W H0 B AA H σ r →
    (∀ us ρ1, r = .ok us ρ1 → k ≤ us.length ∧ ∀ As ws H1 AA1, PXs G.C H0 B AA H σ us As ws H1 AA1 ρ1 → PlV G.C pl σ H1 v0 → (purs xs = true → Same H H1 ∧ AA1 = AA) → Q (insK k v0 ws) H1) → tXk G.C W pl xs k σ H Q
  | .nil, k, H0, H, B, AA, ρ, r, v0, Q, R, hv, hp, h, e, q => by
    unfold xvs at h
    cases h
    obtain ⟨q1, q2⟩ := q [] ρ rfl
    have hk : k = 0 := by simpa using q1
    subst hk
    unfold tXk
    exact ⟨v0, hv, q2 [] [] H AA (PXs.nil R) hv fun _ => ⟨Same.refl _, rfl⟩⟩
  | .cons x xs, 0, H0, H, B, AA, ρ, r, v0, Q, R, hv, hp, h, e, q => by
    unfold tXk
    refine ⟨v0, hv, H0, B, AA, ρ, r, R, h, ?_⟩
    cases r with
    | ok us ρ1 =>
      intro As ws H1 AA1 P pu
      refine (q us ρ1 rfl).2 As ws H1 AA1 P ?_ pu
      rcases Bool.or_eq_true_iff.mp hp with z | z
      · cases pl with
        | slot j => exact hv
        | _ => cases z
      · exact hv.mono (pu z).1
    | ex c fs ρ1 => exact e c fs ρ1 rfl
  | .cons x xs, k + 1, H0, H, B, AA, ρ, r, v0, Q, R, hv, hp, h, e, q => by
    unfold tXk
    unfold xvs at h
    refine tX_go R h e fun u ρ1 As v H1 AA1 h1 h2 P p e1 => ?_
    have hv1 : PlV G.C pl σ H1 v0 := by
      rcases Bool.or_eq_true_iff.mp hp with z | z
      · cases pl with
        | slot j => exact hv
        | _ => cases z
      · exact hv.mono (p (Bool.and_eq_true_iff.mp z).1).1
    have hp1 : (pl.isSlot || purs xs) = true := by
      rcases Bool.or_eq_true_iff.mp hp with z | z
      · exact Bool.or_eq_true_iff.mpr (.inl z)
      · exact Bool.or_eq_true_iff.mpr (.inr (Bool.and_eq_true_iff.mp z).2)
    rcases rb_inv h2 with ⟨us, ρ2, h3, h4⟩ | ⟨cc, ff, ρ2, h3, hz⟩
    · split at h4
      · rename_i s
        cases h4
        obtain ⟨q1, q2⟩ := q (u :: us) ρ2 rfl
        refine tXk_go pl xs k P.rep hv1 hp1 h3 exW_ok fun us' ρ2' e2 => ?_
        cases e2
        refine ⟨by simpa using q1, fun Bs ws H2 AA2 P2 hv2 p2 => ?_⟩
        have e4 : insK (k + 1) v0 (v :: ws) = v :: insK k v0 ws := rfl
        rw [← e4]
        exact q2 _ _ H2 AA2 (cons_px P P2 s p2) hv2 (pu2 p p2)
      · cases h4
    · exact tXk_go pl xs k P.rep hv1 hp1 h3 (fun c fs ρ' e3 => by cases e3; exact e1 cc ff ρ2 hz) fun us' ρ2' e2 => by cases e2
theorem plr_V (R : RepX G.C H0 B AA H σ ρ) (h : (plR pl ρ).isSome = true) : ∃ v, PlV G.C pl σ H v := by
  obtain ⟨⟨i, q⟩, hq⟩ := Option.isSome_iff_exists.mp h
  obtain ⟨u, w, v, x, e1, e2, e3, e4, e5, _⟩ := plR_some R hq
  exact ⟨x, e5⟩
theorem plT_inv {ρ : Rh} {i : Nat} {q : List Stp} {t : T} (h : plT pl ρ = some (i, q, t)) : plR pl ρ = some (i, q) ∧ ∃ u, getP ρ i q = some u ∧ u.t = some t := by
  unfold plT at h
  obtain ⟨⟨j, q'⟩, h1, h⟩ := bnd h
  obtain ⟨u, h2, h⟩ := bnd h
  obtain ⟨t', h3, h4⟩ := map_inv h
  cases h4
  exact ⟨h1, u, h2, h3⟩
theorem sx_ioc {f : Str} {k : Nat} {F : IoF} {dds : List D} (g : GoodW G sc X W) (hl : glB sc f = true) (hn : nmB f = true) (hs : PA X (e' :: es') (tXk G.C W pl xs k)) (n : (e' :: es').all nice = true) (hm : IoOk G f k F dds) : SoX G sc X W (.ioc f k pl F dds xs) (.Call (.Name f p) (e' :: es') [] pos) := by
  obtain ⟨n1, n2, n3⟩ := nmB_inv hn
  obtain ⟨fa, fd, ps, dvs, ds, c1, c2, c3, c4, c5, c6⟩ := hm
  have F1 : FnOk X.prog X.w X.K X.mg X.base (L2.CX X.prog X.w) G.k fa fd ps (ioSp G.C k F) := by rw [g.prog, g.w, g.K, g.mg, g.base]; exact c3
  have n' := n
  rw [List.all_cons, Bool.and_eq_true] at n'
  have hp : PE X (.Call (.Name f p) (e' :: es') [] pos) (tX G.C W (.ioc f k pl F dds xs)) :=
    (pe_callSD F1 g.room (g.gl f hl) (by rw [g.mg]; exact c1) (by rw [g.K]; exact c2) (by rw [g.K]; exact c4) c5 (fun σ => passAt g.tk σ) hs n1 (star_cons n'.1) (star_any n'.2)).imp fun σ H Q q => by
      obtain ⟨H0, B, AA, ρ, z, R, h, ff⟩ := q
      unfold xv at h
      split at h
      · rename_i hpl
        have hpl := Bool.and_eq_true_iff.mp hpl
        obtain ⟨v0, hv⟩ := plr_V R hpl.1
        rcases rb_inv h with ⟨us, ρ1, h1, h2⟩ | ⟨cc, fs, ρ1, h1, hz⟩
        · split at h2
          · rename_i hc
            have hc := Bool.and_eq_true_iff.mp hc
            split at h2
            · rename_i ds' i q t hds hpt
              obtain ⟨r, h3, h4⟩ := map_inv h2
              obtain ⟨r1, u'⟩ := r
              refine tXk_go pl xs k R hv hpl.2 h1 exW_ok fun us' ρ1' e => ?_
              cases e
              have hk : k ≤ us.length := of_decide_eq_true hc.2
              refine ⟨hk, fun As ws H1 AA1 P hv1 pu => ?_⟩
              obtain ⟨k1, u, k2, k3⟩ := plT_inv hpt
              show ioSp G.C k F (insK k v0 ws ++ dvs) H1 Q (WE W σ)
              rw [insK_app _ _ _ _ (by rw [P.own.len]; exact hk)]
              exact io_end ff P c6 hc.1 hds hk hv1 k1 k2 k3 h3 h4.symm
            · cases h2
          · cases h2
        · exact tXk_go pl xs k R hv hpl.2 h1 (fun c fs' ρ' e3 => by cases e3; exact exW_fin ff cc fs ρ1 hz) fun us' ρ1' e => by cases e
      · cases h
  exact sx_val g hp rfl fun ρ => by conv => lhs; unfold xt
end
end Eng
/-! X N: methods; making; isinstance. -/
namespace Eng
open PySem L2
theorem call_meth_eq {o : Expr} {m : Str} {ap cp : Pos} {es : List Expr} {env : Env} (hb : baseB o = true) (n : es.all nice = true) (hlen : es.length < 21) (hline : (ap.endLine == cp.line) = true) :
    eval (.Call (.Attribute o m ap) es [] cp) env = (do
      let ov ← eval o env
      standAt ap.atName
      let (f, first) ← holding [ov] (getMethod ov m (do return (← importBound o env).getD true))
      callWith cp f first (backTo cp (starEach es env)) (backToKw cp (keywordEach [] env))) := by
  rw [PySem.arm_eval_Call, base_ok hb]
  have hform : methodCallForm (es.length + ([] : List Keyword).length) (backTo cp (starEach es env)) (backToKw cp (keywordEach [] env)) = true := by
    show ((backTo cp (starEach es env)).all (fun x => !x.1) && (backToKw cp (keywordEach [] env)).all (fun x => x.1.isSome) && decide (es.length + ([] : List Keyword).length + (if ([] : List Keyword).isEmpty then 0 else 1) < 30)) = true
    rw [star_few n]
    have : decide (es.length + ([] : List Keyword).length + (if ([] : List Keyword).isEmpty then 0 else 1) < 30) = true := decide_eq_true (by simp only [List.length_nil]; simp; omega)
    rw [this]; rfl
  have hpos : methodCallPos true o env ap cp = pure cp := by unfold methodCallPos; simp [hline]
  unfold methodCall calleeOf
  rw [hform, hpos]
  simp
section
variable {G : GC} {sc : Scope} {X : Cx} {W : WX} {x a b c : Eng.X} {xs : Xs} {e' a' b' c' : Expr} {es' : List Expr} {pos p p2 : Pos} {o : Expr}
variable {H0 : Gh} {H H1 H2 H' : Hp} {B : Addr → Prop} {AA AA1 AA2 : Nat → List Addr} {σ : L2.St} {ρ ρ1 ρ2 : Rh} {As Bs : List Addr} {v w : V} {vs : List V} {us : List Val} {pl : Pl}
theorem lookup_none {f : Str} {ns : List Str} {vs : List V} (hl : ns.length = vs.length) (h : findIx f ns = none) : (ns.zip vs).lookup f = none := by
  rw [lookup_zip hl, h]; rfl
theorem own_ins {C : Cfg} {F : Hp} {c : Str} {ns : List Str} {ts : List T} (o : Own C F H v (.ins c ns ts) As) : ∃ a A dx vs, v = .ref a ∧ H a = some (.ins A dx (ns.zip vs)) ∧ C.mg c = some (.ref A) ∧ ns.length = vs.length := by
  cases o with
  | ins h hm hs hl => exact ⟨_, _, _, _, rfl, h, hm, by rw [hl, hs.length]⟩
theorem sx_iom {m : Str} {tbl : List (Str × IoF)} {dds : List D} {ap : Pos} (g : GoodW G sc X W) (hpl : PE X o (tPl G.C pl)) (hb : baseB o = true) (hline : (ap.endLine == pos.line) = true) (hlen : es'.length < 20) (hs : PA X es' (tXs G.C W xs)) (hmx : mXs G.N sc xs es' = true)
    (hm : ∀ c F, tbl.lookup c = some F → MeOk G c m (ioSp G.C 0 F) dds) : SoX G sc X W (.iom m pl tbl dds xs) (.Call (.Attribute o m ap) es' [] pos) := by
  have n' := mXs_nice hmx
  have hp : PE X (.Call (.Attribute o m ap) es' [] pos) (tX G.C W (.iom m pl tbl dds xs)) := by
    refine ⟨fun pins s σ H Q I q => ?_⟩
    obtain ⟨H0, B, AA, ρ, z, R, h, ff⟩ := q
    unfold xv at h
    split at h
    · rename_i hpu
      rcases rb_inv h with ⟨us, ρ1, h1, h2⟩ | ⟨cc, fs, ρ1, h1, hz⟩
      · obtain ⟨us', e⟩ := purs_ok hpu h1
        cases e
        split at h2
        · rename_i hc
          split at h2
          · rename_i ds' i q c ns ts hds hpt
            split at h2
            · cases h2
            · rename_i hnf
              obtain ⟨F, hF, h2⟩ := bnd h2
              obtain ⟨r, h3, h4⟩ := map_inv h2
              obtain ⟨r1, u'⟩ := r
              obtain ⟨A, fa, fd, ps, dvs, ds, c1, c2, c3, c4, c5, c6, c7⟩ := hm c F hF
              have F1 : FnOk X.prog X.w X.K X.mg X.base (L2.CX X.prog X.w) G.k fa fd ps (ioSp G.C 0 F) := by rw [g.prog, g.w, g.K, g.mg, g.base]; exact c4
              obtain ⟨k1, u, k2, k3⟩ := plT_inv hpt
              obtain ⟨u0, w0, v1, x0, e1, e2, e3, e4, e5, Bs0, o0, _⟩ := plR_some R k1
              obtain ⟨u1, g1, g2⟩ := getP_inv k2
              rw [e1] at g1; cases g1
              rw [e2] at g2; cases g2
              obtain ⟨a, A', dx, wsx, rfl, ha, hmA, hlw⟩ := own_ins (o0.t k3)
              rw [c1] at hmA; cases hmA
              have hlk : (ns.zip wsx).lookup m = none := lookup_none hlw (by simpa using hnf)
              have fin_ : ∀ As ws H1 AA1, PXs G.C H0 B AA H σ us As ws H1 AA1 ρ → (purs xs = true → Same H H1 ∧ AA1 = AA) → ioSp G.C 0 F (.ref a :: (ws ++ dvs)) H1 Q (WE W σ) := fun As ws H1 AA1 P pu =>
                io_end ff P c7 hc hds (Nat.zero_le _) (e5.mono (pu hpu).1) k1 k2 k3 h3 h4.symm
              cases es' with
              | nil =>
                refine (pe_meth0SD hpl (by rw [g.K]; exact c2) (by rw [g.K]; exact c3) F1 g.room (by rw [g.K]; exact c5) c6 (fun σ => passAt g.tk σ) (call_meth_eq hb rfl (by decide) hline)).run pins s σ H Q I ?_
                refine ⟨.ref a, e5, a, dx, _, rfl, ha, hlk, ?_⟩
                exact args0 (k := fun us ρ1 => some z) hmx R (by unfold rb; rw [h1]) (exW_fin ff) fun us2 ρ2 As ws H1 AA1 q1 q2 P pu e => by
                  rw [h1] at q1; cases q1
                  exact fin_ As ws H1 AA1 P pu
              | cons e' r =>
                have n2 := n'
                rw [List.all_cons, Bool.and_eq_true] at n2
                refine (pe_methSD hpl (by rw [g.K]; exact c2) (by rw [g.K]; exact c3) F1 g.room (by rw [g.K]; exact c5) c6 (fun σ => passAt g.tk σ) hs (star_cons n2.1) (star_any n2.2) (call_meth_eq hb n' (by omega) hline)).run pins s σ H Q I ?_
                refine ⟨.ref a, e5, a, dx, _, rfl, ha, hlk, ?_⟩
                exact tXs_go (k := fun us ρ1 => some z) R (by unfold rb; rw [h1]) (exW_fin ff) fun us2 ρ2 As ws H1 AA1 q1 q2 P pu e => by
                  rw [h1] at q1; cases q1
                  exact fin_ As ws H1 AA1 P pu
          · cases h2
        · cases h2
      · obtain ⟨us', e⟩ := purs_ok hpu h1
        cases e
    · cases h
  exact sx_val g hp rfl fun ρ => by conv => lhs; unfold xt
theorem sx_mcl {m : Str} {tbl : List (Str × RaF)} {dds : List D} {ap : Pos} (g : GoodW G sc X W) (ha : SoX G sc X W a o) (hb : baseB o = true) (hline : (ap.endLine == pos.line) = true) (hlen : es'.length < 20) (hs : PA X es' (tXs G.C W xs)) (hmx : mXs G.N sc xs es' = true)
    (hm : ∀ c F, tbl.lookup c = some F → MeOk G c m (raSp G.C F) dds) : SoX G sc X W (.mcl m a tbl dds xs) (.Call (.Attribute o m ap) es' [] pos) := by
  have n' := mXs_nice hmx
  have hp : PE X (.Call (.Attribute o m ap) es' [] pos) (tX G.C W (.mcl m a tbl dds xs)) := by
    refine ⟨fun pins s σ H Q I q => ?_⟩
    obtain ⟨H0, B, AA, ρ, z, R, h, ff⟩ := q
    unfold xv at h
    split at h
    · rename_i hpu
      rcases rb_inv h with ⟨u, ρ1, h1, h2⟩ | ⟨cc, fs, ρ1, h1, hz⟩
      · split at h2
        · rename_i c ns ds hu2 hud
          split at h2
          · cases h2
          · rename_i hnf
            obtain ⟨F, hF, h2⟩ := bnd h2
            obtain ⟨A, fa, fd, ps, dvs, dsv, c1, c2, c3, c4, c5, c6, c7⟩ := hm c F hF
            have F1 : FnOk X.prog X.w X.K X.mg X.base (L2.CX X.prog X.w) G.k fa fd ps (raSp G.C F) := by rw [g.prog, g.w, g.K, g.mg, g.base]; exact c4
            have rd : ∀ {As : List Addr} {v : V} {H1 : Hp} {AA1 : Nat → List Addr}, PXs G.C H0 B AA H σ [u] As [v] H1 AA1 ρ1 → ∃ a' dx fs', v = .ref a' ∧ H1 a' = some (.ins A dx fs') ∧ fs'.lookup m = none := by
              intro As v H1 AA1 P
              have := P.dats (ds := [.ins c ns ds]) (by show (u.1.d.bind fun d => (dsV []).map fun ds => d :: ds) = _; rw [hud]; rfl)
              cases this with
              | cons hd _ =>
                cases hd with
                | ins ho hm' hv hl =>
                  rw [c1] at hm'; cases hm'
                  exact ⟨_, _, _, rfl, ho, lookup_none (by rw [hl, hv.length]) (by simpa using hnf)⟩
            have key : ∀ {As : List Addr} {v : V} {H1 : Hp} {AA1 : Nat → List Addr} {us : List Val} {ρ2 : Rh} {Bs : List Addr} {vs : List V} {H2 : Hp} {AA2 : Nat → List Addr}, PXs G.C H0 B AA H σ [u] As [v] H1 AA1 ρ1 → PXs G.C H0 (Zp B As) AA1 H1 σ us Bs vs H2 AA2 ρ2 →
                (if allS us then match dsV us with | some es => (F (.ins c ns ds :: (es ++ dds))).map fun r => frR r ρ2 | none => none else none) = some z → raSp G.C F (v :: (vs ++ dvs)) H2 Q (WE W σ) := by
              intro As v H1 AA1 us ρ2 Bs vs H2 AA2 P P2 h4
              split at h4
              · rename_i s2
                split at h4
                · rename_i es hes
                  obtain ⟨r, h5, h6⟩ := map_inv h4
                  have PP : PXs G.C H0 B AA H σ (u :: us) (As ++ Bs) (v :: vs) H2 AA2 ρ2 := cons_px (pb := false) P P2 (by rw [hu2]; rfl) (fun z => by cases z)
                  exact ra_meet (ds := .ins c ns ds :: es) ff PP c7 (by unfold allS at s2 ⊢; rw [List.all_cons, hu2, s2]; rfl) (by show (u.1.d.bind fun d => (dsV us).map fun ds => d :: ds) = _; rw [hud, hes]; rfl) h5 h6.symm
                · cases h4
              · cases h4
            cases es' with
            | nil =>
              refine (pe_meth0SD ha.1 (by rw [g.K]; exact c2) (by rw [g.K]; exact c3) F1 g.room (by rw [g.K]; exact c5) c6 (fun σ => passAt g.tk σ) (call_meth_eq hb rfl (by decide) hline)).run pins s σ H Q I ?_
              refine tX_go (k := fun _ _ => some z) R (by unfold rb; rw [h1]) (exW_fin ff) fun u' ρ1' As v H1 AA1 q1 q2 P p e => ?_
              rw [h1] at q1; cases q1
              obtain ⟨a', dx, fs', rfl, k1, k2⟩ := rd P
              refine ⟨a', dx, fs', rfl, k1, k2, ?_⟩
              exact args0 hmx P.rep h2 e fun us ρ2 Bs vs H2 AA2 h3 h4 P2 p2 e2 => key P P2 h4
            | cons e' r =>
              have n2 := n'
              rw [List.all_cons, Bool.and_eq_true] at n2
              refine (pe_methSD ha.1 (by rw [g.K]; exact c2) (by rw [g.K]; exact c3) F1 g.room (by rw [g.K]; exact c5) c6 (fun σ => passAt g.tk σ) hs (star_cons n2.1) (star_any n2.2) (call_meth_eq hb n' (by omega) hline)).run pins s σ H Q I ?_
              refine tX_go (k := fun _ _ => some z) R (by unfold rb; rw [h1]) (exW_fin ff) fun u' ρ1' As v H1 AA1 q1 q2 P p e => ?_
              rw [h1] at q1; cases q1
              obtain ⟨a', dx, fs', rfl, k1, k2⟩ := rd P
              refine ⟨a', dx, fs', rfl, k1, k2, ?_⟩
              exact tXs_go P.rep h2 e fun us ρ2 Bs vs H2 AA2 h3 h4 P2 p2 e2 => key P P2 h4
        · cases h2
      · obtain ⟨us', e⟩ := pur_ok hpu h1
        cases e
    · cases h
  exact sx_no hp fun ρ => by unfold xt; rfl
/-- making: __init__ at a new instance -/
theorem mk_end {c : Str} {F : IoF} {ds dds : List D} {dvs : List V} {t : T} {z : R Val} {Q : VK} {A : Addr} {pu : Bool} (f : fin G.C W H0 B AA H σ pu z Q) (P : PXs G.C H0 B AA H σ us As vs H1 AA1 ρ1) (pp : pu = true → Same H H1 ∧ AA1 = AA)
    (hd : ∀ H, Dats G.C H dvs dds) (s : allS us = true) (h1 : dsV us = some ds) (hc : G.C.mg c = some (.ref A)) (h2 : F (.ins c [] []) (ds ++ dds) = some (.ok (.sh .non), t)) (hz : z = .ok (t.u, true) ρ1) (x dx : Addr) (hx : H1 x = none) (hdx : H1 dx = none) (ne : dx ≠ x) :
    ioSp G.C 0 F (.ref x :: (vs ++ dvs)) (upd (upd H1 dx (.own x)) x (.ins A dx [])) (fun v H2 => v = .non ∧ Q (.ref x) H2) E0 := by
  have R := P.rep.drop
  have e1 : Same H1 (upd (upd H1 dx (.own x)) x (.ins A dx [])) := fun b o h => by
    rw [upd_ne (ne_of_none h hx), upd_ne (ne_of_none h hdx)]; exact h
  refine ⟨.ref x, vs ++ dvs, .ins c [] [], ds ++ dds, ZZ B AA1, [x], .ok (.sh .non), t, rfl, Nat.zero_le _, ?_, ?_, by simp, fun a m => ?_, fun a z => (R.z a z).mono e1, h2, fun t' ht' v H' As' Bs p o => ?_, fun cc fs hr => by cases hr⟩
  · exact .ins (vs := []) (As := []) (by rw [upd_same]; rfl) hc .nil rfl
  · refine ((P.frees s h1).append (hd _)).mono (hid_mono e1 fun a o h z => ?_)
    rcases z with z | z
    · exact z
    · rw [List.mem_singleton.mp z, hx] at h; cases h
  · rw [List.mem_singleton.mp m]
    exact fun z => (R.z x z).some hx
  · cases ht'
    have hv : v = .non ∧ Bs = [] := by cases o with | sh d => exact ⟨d.vnon, rfl⟩
    obtain ⟨rfl, rfl⟩ := hv
    refine ⟨rfl, ?_⟩
    subst hz
    have po := p.own
    rw [List.append_nil] at po
    have nw : ∀ a, a ∈ As' → H1 a = none := fun a m => by
      rcases p.sub a (.inl m) with y | y
      · rw [List.mem_singleton.mp y]; exact hx
      · cases hh : H1 a with
        | none => rfl
        | some o => rw [e1 _ _ hh] at y; cases y
    have e2 : Same H1 H' := fun b o h => p.fr b o (e1 _ _ h) fun m => by rw [List.mem_singleton.mp m, hx] at h; cases h
    have nd : As'.Nodup := by have := p.nd; rwa [List.append_nil] at this
    refine f As' (.ref x) H' AA1 ⟨R.grow e2 fun a m => ⟨nw a m, po.ntup a m⟩, nd, fun a m => ⟨R.same.free (nw a m), fun z => (R.bs a z).some (nw a m)⟩, ?_, P.mov.trans (Mov.same e2 nw)⟩ fun z => ⟨(pp z).1.trans e2, (pp z).2⟩
    have := OwnVs.own (P := fun a => ∃ i, a ∈ AA1 i) (po.u (η := H0.η)) OwnVs.nil
    rwa [List.append_nil] at this
theorem sx_mk {c : Str} {F : IoF} {dds : List D} (g : GoodW G sc X W) (hl : glB sc c = true) (hn : nmB c = true) (hs : PA X es' (tXs G.C W xs)) (hmx : mXs G.N sc xs es' = true) (hm : MkOk G c F dds) : SoX G sc X W (.mk c F dds xs) (.Call (.Name c p) es' [] pos) := by
  obtain ⟨n1, n2, n3⟩ := nmB_inv hn
  obtain ⟨A, fa, fd, ps, dvs, dsv, j, c1, c2, c3, c4, c5, c6, c7⟩ := hm
  have F1 : FnOk X.prog X.w X.K X.mg X.base (L2.CX X.prog X.w) j fa fd ps (ioSp G.C 0 F) := by rw [g.prog, g.w, g.K, g.mg, g.base]; exact c4
  have M : Mk X.K A fa := by rw [g.K]; exact c2
  have key : ∀ {σ : L2.St} {H1 : Hp} {Q : VK} {H0 : Gh} {B : Addr → Prop} {AA AA1 : Nat → List Addr} {H : Hp} {z : R Val} {us : List Val} {ρ1 : Rh} {As : List Addr} {vs : List V}, fin G.C W H0 B AA H σ (purs xs) z Q → PXs G.C H0 B AA H σ us As vs H1 AA1 ρ1 → (purs xs = true → Same H H1 ∧ AA1 = AA) →
      (if allS us then match dsV us with | some ds => (match F (.ins c [] []) (ds ++ dds) with | some (.ok (.sh .non), t) => some (.ok (t.u, true) ρ1) | _ => none) | none => none else none) = some z →
      ∀ x dx, H1 x = none → H1 dx = none → dx ≠ x → ioSp G.C 0 F (.ref x :: (vs ++ dvs)) (upd (upd H1 dx (.own x)) x (.ins A dx [])) (fun v H2 => v = .non ∧ Q (.ref x) H2) E0 := by
    intro σ H1 Q H0 B AA AA1 H z us ρ1 As vs ff P p h2
    split at h2
    · rename_i s
      split at h2
      · rename_i ds' hds
        split at h2
        · rename_i t ht
          exact fun x dx hx hdx ne => mk_end ff P p c7 s hds c1 ht (Option.some.inj h2).symm x dx hx hdx ne
        · cases h2
      · cases h2
    · cases h2
  have hp : PE X (.Call (.Name c p) es' [] pos) (tX G.C W (.mk c F dds xs)) := by
    cases es' with
    | nil =>
      refine (pe_make0 M F1 (g.room.mono c3) (g.gl c hl) (by rw [g.mg]; exact c1) (by rw [g.K]; exact c5) c6 passL n1).imp fun σ H Q q => ?_
      obtain ⟨H0, B, AA, ρ, z, R, h, ff⟩ := q
      unfold xv at h
      exact args0 hmx R h (exW_fin ff) fun us ρ1 As vs H1 AA1 h1 h2 P p e => key ff P p h2
    | cons e' r =>
      have n' := mXs_nice hmx
      rw [List.all_cons, Bool.and_eq_true] at n'
      refine (pe_make M F1 (g.room.mono c3) (g.gl c hl) (by rw [g.mg]; exact c1) (by rw [g.K]; exact c5) c6 passL hs n1 (star_cons n'.1) (star_any n'.2)).imp fun σ H Q q => ?_
      obtain ⟨H0, B, AA, ρ, z, R, h, ff⟩ := q
      unfold xv at h
      exact tXs_go R h (exW_fin ff) fun us ρ1 As vs H1 AA1 h1 h2 P p e => key ff P p h2
  exact sx_no hp fun ρ => by unfold xt; rfl
end
end Eng
/-! X O: instances without an __init__; isinstance; dicts. -/
namespace L2
open PySem PySem.Spec PyProof.Rows
section
variable {X : Cx} {x : Str} {p pos : Pos} {C : Addr}
theorem pe_make00 (hm : PySem.W.makesIn X.K C = true) (hi : PySem.W.findIn X.K (.ref C) "__init__" = some (some (.builtin "object.__init__"))) (kp : PySem.W.keepIn X.K (.ref C) = true) (hg : Gl X x) (hmg : X.mg x = some (.ref C))
    (hdb : (x == ("__debug__" : Str)) = false := by decide) : PE X (.Call (.Name x p) [] [] pos) (fun σ H Q => ∀ y dx, H y = none → H dx = none → dx ≠ y → Q (.ref y) (upd (upd H dx (.own y)) y (.ins C dx []))) := by
  refine ⟨fun pins s σ H Q I h => ?_⟩
  refine wpAny_Call_Name_kw (ld_glob I hg hmg ?_ hdb)
  refine PySem.W.callWith_K0 I.kIn kp ?_
  have I2 := Inv.made (C := C) I
  have hq := h (s.heap.objs.size + 1) s.heap.objs.size (I.hok.fresh (Nat.le_succ _)) (I.hok.fresh (Nat.le_refl _)) (Nat.ne_of_lt (Nat.lt_succ_self _))
  obtain ⟨hh, g, d, t, os⟩ := s
  have Y := PySem.W.makes_of (M := model X.prog X.w) I.kIn hm
  refine wpAny_call (PySem.W.make_core Y (PySem.W.looks_findIn I.kIn hi) (fun self => PySem.W.Looks.of_pure (PySem.W.oi_bind self)) (.inr ⟨rfl, rfl⟩) ?_)
  have e2 : ((hh.push PySem.W.emptyDict).push (PySem.W.instObj C hh.objs.size)).get? (hh.objs.size + 1) = some (PySem.W.instObj C hh.objs.size) := by
    have := Heap.get?_push_size (hh.push PySem.W.emptyDict) (o := PySem.W.instObj C hh.objs.size) rfl
    rwa [Heap.size_push] at this
  have t1 : PySem.W.Looks (model X.prog X.w) ((hh.push PySem.W.emptyDict).push (PySem.W.instObj C hh.objs.size)) (typeOf (.ref (hh.objs.size + 1))) (.ref C) := (PySem.W.Looks.ld e2).andThen .now
  have t2 : PySem.W.Looks (model X.prog X.w) ((hh.push PySem.W.emptyDict).push (PySem.W.instObj C hh.objs.size)) (isInstance (.ref (hh.objs.size + 1)) (.type "object")) true := t1.andThen (Y.top.keeps fun b o e => Heap.get?_push_of_some _ (Heap.get?_push_of_some _ e))
  refine codeAny_call_builtin PySem.W.oi_plain PySem.W.entry_oi (@PySem.W.check_slot (model X.prog X.w) _ _ _ "object.__init__" "object" "__init__" (.ref (hh.objs.size + 1)) [] [] _ PySem.W.oi_kind PySem.W.oi_split t2 (PySem.W.oi_args (.ref (hh.objs.size + 1))) ?_)
  show wpAny _ _ (Builtin.«object.__init__» ⟨[.ref (hh.objs.size + 1)], []⟩) _ _ _
  rw [PySem.W.oi_run]
  exact wpAny_pure (And.intro rfl ⟨V.ref (hh.objs.size + 1), _, I2, rfl, hq⟩)
end
end L2
namespace Eng
open PySem L2
section
variable {G : GC} {sc : Scope} {X : Cx} {W : WX} {x a b c d : Eng.X} {xs : Xs} {e' a' b' c' d' : Expr} {es' : List Expr} {pos p p2 : Pos} {o : Expr}
variable {H0 : Gh} {H H1 H2 H' : Hp} {B : Addr → Prop} {AA AA1 AA2 : Nat → List Addr} {σ : L2.St} {ρ ρ1 ρ2 : Rh} {As Bs : List Addr} {v w : V} {vs : List V} {us : List Val} {pl : Pl}
/-- a new node, owned -/
theorem new_px {y : Addr} {ob : HO} {u : U} (P : PXs G.C H0 B AA H σ us As vs H1 AA1 ρ1) (hy : H1 y = none) (e : Same H1 H2) (hob : H2 y = some ob) (nt : ∀ xs, ob ≠ .tup xs) (o : ∀ F, OwnU G.C (H0.η) F H2 (.ref y) u [y]) :
    PXs G.C H0 B AA H σ [(u, true)] [y] [.ref y] H2 AA1 ρ1 := by
  have R := P.rep.drop
  have nw : ∀ a, a ∈ [y] → H1 a = none := fun a m => by rw [List.mem_singleton.mp m]; exact hy
  refine ⟨R.grow e fun a m => ⟨nw a m, by rw [List.mem_singleton.mp m]; exact ⟨_, hob, nt⟩⟩, by simp, fun a m => ⟨R.same.free (nw a m), fun z => (R.bs a z).some (nw a m)⟩, ?_, P.mov.trans (Mov.same e nw)⟩
  have := OwnVs.own (P := fun a => ∃ i, a ∈ AA1 i) (o (hid H2 (Zp (ZZ B AA1) [y]))) OwnVs.nil
  rwa [List.append_nil] at this
theorem sx_mk0 {c : Str} (g : GoodW G sc X W) (hl : glB sc c = true) (hn : nmB c = true) (hm : Mk0Ok G c) : SoX G sc X W (.mk0 c) (.Call (.Name c p) [] [] pos) := by
  obtain ⟨n1, n2, n3⟩ := nmB_inv hn
  obtain ⟨A, c1, c2, c3, c4⟩ := hm
  refine sx_no ((pe_make00 (by rw [g.K]; exact c2) (by rw [g.K]; exact c3) (by rw [g.K]; exact c4) (g.gl c hl) (by rw [g.mg]; exact c1) n1).imp fun σ H Q q => ?_) fun ρ => by unfold xt; rfl
  obtain ⟨H0, B, AA, ρ, z, R, h, f⟩ := q
  unfold xv at h
  cases h
  intro y dx hy hdx ne
  have e1 : Same H (upd (upd H dx (.own y)) y (.ins A dx [])) := fun b o h => by
    rw [upd_ne (ne_of_none h hy), upd_ne (ne_of_none h hdx)]; exact h
  refine f _ _ _ AA (new_px (PXs.nil R) hy e1 upd_same (fun _ z => nomatch z) fun F => ?_) fun _ => ⟨e1, rfl⟩
  exact .ins (vs := []) (As := []) (by rw [upd_same]; rfl) c1 .nil rfl
theorem sx_dnew : SoX G sc X W .dnew (.Dict [] [] pos) := by
  refine sx_no (pe_dnewK.imp fun σ H Q q => ?_) fun ρ => by unfold xt; rfl
  obtain ⟨H0, B, AA, ρ, z, R, h, f⟩ := q
  unfold xv at h
  cases h
  intro y hy
  refine f _ _ _ AA (new_px (PXs.nil R) hy (Same.upd hy) upd_same (fun _ z => nomatch z) fun F => ?_) fun _ => ⟨Same.upd hy, rfl⟩
  exact .dic (vs := []) (As := []) (by rw [upd_same]; rfl) .nil rfl
/-- what isinstance asks: an instance's class -/
theorem ins_ty {c : Str} {ns : List Str} {ds : List D} {A : Addr} (h : Dat G.C H v (.ins c ns ds)) (hc : G.C.mg c = some (.ref A)) (t : InsTy G.C.K A) : TyX G.C.K H v (.ref A) := by
  cases h with
  | ins ho hm hv hl =>
    rw [hc] at hm; cases hm
    exact .base (.ins ho t.cl t.ha t.hn t.ht t.hm)
theorem tIso_names (g : GoodW G sc X W) : ∀ {cs : List Str} {es : List Expr} {cas : List Addr}, mNames sc cs es = true → Named G cs cas → ∃ t : TA, PA X es t ∧ ∀ σ H (Q : List V → Hp → Prop), Q (cas.map V.ref) H → t σ H Q
  | [], [], _, _, .nil => ⟨_, pa_nil, fun σ H Q q => q⟩
  | [], _ :: _, _, m, _ => by cases m
  | _ :: _, [], _, m, _ => by cases m
  | c :: cs, e :: es, _, m, .cons (A := A) h hs => by
    cases e <;> first | (exact absurd m Bool.false_ne_true) | skip
    rename_i y p
    have m : (decide (c = y) && glB sc c && nmB c && mNames sc cs es) = true := m
    have m1 := Bool.and_eq_true_iff.mp m
    obtain ⟨k1, k2, k3⟩ := and3 m1.1
    have := of_decide_eq_true k1
    subst this
    obtain ⟨t, t1, t2⟩ := tIso_names g m1.2 hs
    have hp : PE X (.Name c p) (tC (.ref A)) := pe_glob (g.gl c k2) (by rw [g.mg]; exact h) rfl (nmB_inv k3).1
    exact ⟨_, pa_cons hp t1 rfl, fun σ H Q q => t2 σ H _ q⟩
theorem kit_refs : ∀ {cas : List Addr}, Paired ClsV (cas.map V.ref) (cas.map Value.ref)
  | [] => .nil
  | A :: cas => .cons (.own A) kit_refs
theorem kit_one {K : PySem.W.Frag} {t c : Value} {b : Bool} (h : PySem.W.kitAny K t [c] = some b) : PySem.W.kitOne K t c = some b := by
  unfold PySem.W.kitAny at h
  cases q : PySem.W.kitOne K t c with
  | none => rw [q] at h; cases h
  | some r =>
    rw [q] at h
    cases r with
    | true => exact h
    | false => exact h
theorem iso_inv {u : Val} {bs : List (Str × Bool)} {z : R Val} (h : (match u.1.d with | some (.ins c _ _) => rv ((bs.lookup c).map fun b => ((.sh (.bl b), true) : Val)) ρ1 | _ => none) = some z) :
    ∃ c ns ds b, u.1.d = some (.ins c ns ds) ∧ bs.lookup c = some b ∧ z = .ok (.sh (.bl b), true) ρ1 := by
  split at h
  · rename_i c ns ds hu
    obtain ⟨val, h1, rfl⟩ := rv_inv h
    obtain ⟨b, h2, rfl⟩ := map_inv h1
    exact ⟨c, ns, ds, b, hu, h2, rfl⟩
  · cases h
theorem ins_dat {u : Val} {c : Str} {ns : List Str} {ds : List D} (P : PXs G.C H0 B AA H σ [u] As [v] H1 AA1 ρ1) (hu : u.1.d = some (.ins c ns ds)) : Dat G.C H1 v (.ins c ns ds) := by
  have := P.dats (ds := [.ins c ns ds]) (by show (u.1.d.bind fun d => (dsV []).map fun ds => d :: ds) = _; rw [hu]; rfl)
  cases this with | cons h _ => exact h
theorem dat_cls {c : Str} {ns : List Str} {ds : List D} (h : Dat G.C H v (.ins c ns ds)) : ∃ A, G.C.mg c = some (.ref A) := by
  cases h with | ins ho hm hv hl => exact ⟨_, hm⟩
theorem sx_iso1 {cs : List Str} {bs : List (Str × Bool)} {y : Str} (g : GoodW G sc X W) (hl : glB sc "isinstance" = true) (hcs : cs = [y]) (hl2 : glB sc y = true) (hn : nmB y = true) (ha : SoX G sc X W a a') (n : nice a' = true) (hm : NoG G "isinstance") (hi : IsOk G cs bs) :
    SoX G sc X W (.iso a cs bs) (.Call (.Name "isinstance" p) [a', .Name y p2] [] pos) := by
  subst hcs
  obtain ⟨cas, k1, k2⟩ := hi
  cases k1 with
  | @cons _ _ A _ hA hn2 =>
    cases hn2
    have ht : PE X (.Name y p2) (tC (.ref A)) := pe_glob (g.gl y hl2) (by rw [g.mg]; exact hA) rfl (nmB_inv hn).1
    have hp := pe_callB (pos := pos) (p := p) (call_isi (X := X)) (g.gl _ hl) (by rw [g.mg]; exact hm) PyProof.Rows.boot_isinstance (pa_cons ha.1 (pa_cons ht pa_nil rfl) (star_cons n)) (by decide) (by decide) (star_cons n) rfl
    refine sx_val g (hp.imp fun σ H Q q => ?_) rfl fun ρ => by conv => lhs; unfold xt
    obtain ⟨H0, B, AA, ρ, z, R, h, f⟩ := q
    unfold xv at h
    refine tX_go R h (exW_fin f) fun u ρ1 As v H1 AA1 h1 h2 P pp e => ?_
    obtain ⟨c, ns, ds, b, hu, hb, rfl⟩ := iso_inv h2
    have dd := ins_dat P hu
    obtain ⟨A2, hA2⟩ := dat_cls dd
    obtain ⟨t1, t2⟩ := k2 c b hb A2 hA2
    exact ⟨v, .ref A, .ref A2, .ref A, b, rfl, .own A, by rw [g.K]; exact ins_ty dd hA2 t1, by rw [g.K]; exact kit_one t2, sh_fin f P.rep.drop P.mov pp (.bl b) rfl⟩
theorem sx_iso2 {cs : List Str} {bs : List (Str × Bool)} {es : List Expr} {kk : Nat} (g : GoodW G sc X W) (hl : glB sc "isinstance" = true) (hcs : mNames sc cs es = true) (hln : es.length < 20) (ha : SoX G sc X W a a') (n : nice a' = true) (hm : NoG G "isinstance") (hi : IsOk G cs bs) :
    SoX G sc X W (.iso a cs bs) (.Call (.Name "isinstance" p) [a', .Tuple es kk p2] [] pos) := by
  obtain ⟨cas, k1, k2⟩ := hi
  obtain ⟨tt, t1, t2⟩ := tIso_names g hcs k1
  have hp := pe_callB (pos := pos) (p := p) (call_isiT (X := X)) (g.gl _ hl) (by rw [g.mg]; exact hm) PyProof.Rows.boot_isinstance (pa_cons ha.1 (pa_cons (pe_tup (x1 := kk) (pos := p2) t1) pa_nil rfl) (star_cons n)) (by decide) (by decide) (star_cons n) rfl
  refine sx_val g (hp.imp fun σ H Q q => ?_) rfl fun ρ => by conv => lhs; unfold xt
  obtain ⟨H0, B, AA, ρ, z, R, h, f⟩ := q
  unfold xv at h
  refine tX_go R h (exW_fin f) fun u ρ1 As v H1 AA1 h1 h2 P pp e => ?_
  obtain ⟨c, ns, ds, b, hu, hb, rfl⟩ := iso_inv h2
  have dd := ins_dat P hu
  obtain ⟨A2, hA2⟩ := dat_cls dd
  obtain ⟨t3, t4⟩ := k2 c b hb A2 hA2
  refine t2 σ H1 _ ⟨?_, fun q hq => ?_⟩
  · have l1 : ∀ {cs : List Str} {cas : List Addr}, Named G cs cas → ∀ {es : List Expr}, mNames sc cs es = true → cas.length = es.length := by
      intro cs cas h
      induction h with
      | nil => intro es m; cases es with | nil => rfl | cons _ _ => cases m
      | cons _ _ ih =>
        intro es m
        cases es with
        | nil => cases m
        | cons e es =>
          cases e <;> first | (exact absurd m Bool.false_ne_true) | skip
          exact congrArg (· + 1) (ih (Bool.and_eq_true_iff.mp m).2)
    rw [List.length_map, l1 k1 hcs, sizeLine_eq]; omega
  · have e1 : Same H1 (upd H1 q (.tup (cas.map V.ref))) := Same.upd hq
    refine ⟨v, q, _, .ref A2, _, b, rfl, upd_same, kit_refs, by rw [g.K]; exact ins_ty (dd.mono e1) hA2 t3, by rw [g.K]; exact t4, ?_⟩
    exact f _ _ _ AA1 (noL_px P.rep.drop P.mov e1 (.bl b) rfl) fun z => ⟨(pp z).1.trans e1, (pp z).2⟩
end
end Eng
/-! X P: dicts read; pops as values. -/
namespace Eng
open PySem L2
section
variable {G : GC} {sc : Scope} {X : Cx} {W : WX} {x a b c d : Eng.X} {xs : Xs} {e' a' b' c' d' : Expr} {es' : List Expr} {pos p p2 ap : Pos} {o : Expr}
variable {H0 : Gh} {H H1 H2 H3 H' : Hp} {B : Addr → Prop} {AA AA1 AA2 AA3 : Nat → List Addr} {σ : L2.St} {ρ ρ1 ρ2 ρ3 : Rh} {As Bs : List Addr} {v w : V} {vs : List V} {us : List Val} {pl : Pl}
theorem key_V {C : Cfg} {η : Nat → Option V} {Z : Addr → Prop} {u : Val} {k : Key} (P : VIs C η Z AA H u v) (h : keyU u = some k) : v = kV k := by
  obtain ⟨u, s⟩ := u
  unfold keyU at h
  simp only at h
  split at h
  · have := P.shd
    unfold keyD at h
    split at h
    · cases h; exact this.vint
    · cases h; exact this.vstr
    · cases h
  · cases h
/-- what a dict holds at a key -/
theorem dict_V {C : Cfg} {η : Nat → Option V} {Z : Addr → Prop} {u : Val} {k : Key} {r : Option Val} (P : VIs C η Z AA H u v) (h : dgtU u k = some r) :
    ∃ a kvs, v = .ref a ∧ H a = some (.dK kvs) ∧ (r = none → valV kvs k = none) ∧ ∀ val, r = some val → ∃ y, valV kvs k = some y ∧ ((∃ Bs, OwnU C η (hid H Z) H y val.1 Bs ∧ val.2 = !val.1.own ∧ ∀ a, a ∈ Bs → ∃ i, a ∈ AA i) ∨ ∃ d, val = (.sh d, true) ∧ Dat C (hid H Z) y d) := by
  unfold dgtU at h
  split at h
  · rename_i ks us
    cases h
    cases P with
    | bor o hk =>
      cases o with
      | @dic a _ vs _ As1 ha hs hl =>
        have hz := val_zip (k := k) (ks := ks) (vs := vs) (by rw [hl, hs.length])
        refine ⟨a, _, rfl, ha, fun hr => ?_, fun val hr => ?_⟩
        · rw [hz]
          cases q : findIx k ks with
          | none => rfl
          | some i =>
            rw [q] at hr
            have hlt := findIx_lt q
            have : us[i]? = some (us[i]'(by omega)) := List.getElem?_eq_getElem _
            have hr : ((us[i]?).map fun w => ((w, !w.own) : Val)) = none := hr
            rw [this] at hr; cases hr
        · obtain ⟨i, q1, q2⟩ := bnd hr
          obtain ⟨w, q3, rfl⟩ := map_inv q2
          obtain ⟨y, Bs, g1, g2, g3, _⟩ := hs.get q3
          exact ⟨y, by rw [hz, q1]; exact g1, .inl ⟨Bs, g2, rfl, fun b m => hk b (List.mem_cons_of_mem _ (g3.subset m))⟩⟩
  · rename_i ks us
    split at h
    · rename_i ts hts
      cases h
      cases P with
      | own o e hk =>
        cases o with
        | @dic a _ vs _ As1 ha hs hl =>
          have dd : Dats C (hid H Z) vs (T.ds ts) := (hs.t hts).dat e fun b o m z => hid_some.mpr ⟨hk b (List.mem_cons_of_mem _ m), z⟩
          have hz := val_zip (k := k) (ks := ks) (vs := vs) (by rw [hl, hs.length])
          refine ⟨a, _, rfl, ha, fun hr => ?_, fun val hr => ?_⟩
          · rw [hz]
            cases q : findIx k ks with
            | none => rfl
            | some i =>
              rw [q] at hr
              have hlt := findIx_lt q
              have : (T.ds ts)[i]? = some ((T.ds ts)[i]'(by rw [← dd.length, hs.length]; omega)) := List.getElem?_eq_getElem _
              have hr : (((T.ds ts)[i]?).map fun w => ((.sh w, true) : Val)) = none := hr
              rw [this] at hr; cases hr
          · obtain ⟨i, q1, q2⟩ := bnd hr
            obtain ⟨w, q3, rfl⟩ := map_inv q2
            obtain ⟨y, g1, g2⟩ := dd.getD q3
            exact ⟨y, by rw [hz, q1]; exact g1, .inr ⟨w, rfl, g2⟩⟩
    · cases h
  · rename_i ks ds s
    cases h
    have := P.shd
    cases this with
    | @dic a _ vs _ ha hs hl =>
      have hz := val_zip (k := k) (ks := ks) (vs := vs) (by rw [hl, hs.length])
      refine ⟨a, _, rfl, hid_sub _ _ ha, fun hr => ?_, fun val hr => ?_⟩
      · rw [hz]
        cases q : findIx k ks with
        | none => rfl
        | some i =>
          rw [q] at hr
          have hlt := findIx_lt q
          have : ds[i]? = some (ds[i]'(by omega)) := List.getElem?_eq_getElem _
          have hr : ((ds[i]?).map fun w => ((.sh w, true) : Val)) = none := hr
          rw [this] at hr; cases hr
      · obtain ⟨i, q1, q2⟩ := bnd hr
        obtain ⟨w, q3, rfl⟩ := map_inv q2
        obtain ⟨y, g1, g2⟩ := hs.getD q3
        exact ⟨y, by rw [hz, q1]; exact g1, .inr ⟨w, rfl, g2⟩⟩
  · cases h
/-- the found worth, told -/
theorem found_px {val : Val} (P : PXs G.C H0 B AA H σ us As vs H1 AA1 ρ1) (h : (∃ Bs, OwnU G.C (H0.η) (hid H1 (ZZ B AA1)) H1 v val.1 Bs ∧ val.2 = !val.1.own ∧ ∀ a, a ∈ Bs → ∃ i, a ∈ AA1 i) ∨ ∃ d, val = (.sh d, true) ∧ Dat G.C (hid H1 (ZZ B AA1)) v d) : PXs G.C H0 B AA H σ [val] [] [v] H1 AA1 ρ1 := by
  rcases h with ⟨Bs, o, hs, hk⟩ | ⟨d, rfl, hd⟩
  · obtain ⟨u, s⟩ := val
    simp only at hs o
    subst hs
    exact sub_px P o hk
  · have P' := PXs.sh P.rep.drop hd
    exact ⟨P'.rep, P'.nd, P'.nB, P'.own, P.mov.nil⟩
theorem dgetV {a : Addr} {kvs : List (Key × V)} {k : Key} (h : H a = some (.dK kvs)) : DGet H a (kV k) (valV kvs k) := .inl ⟨kvs, k, .inl h, rfl, rfl⟩
theorem sx_din {neg : Bool} {op : CmpOp} (g : GoodW G sc X W) (hop : op = if neg then CmpOp.NotIn else CmpOp.In) (ha : SoX G sc X W a a') (hd : SoX G sc X W d d') (nd : nice d' = true) : SoX G sc X W (.din neg a d) (.Compare a' [op] [d'] pos) := by
  have key : ∀ {σ : L2.St} {H : Hp} {Q : VK} {H0 : Gh} {B : Addr → Prop} {AA : Nat → List Addr} {ρ : Rh} {z : R Val}, RepX G.C H0 B AA H σ ρ → xv (.din neg a d) ρ = some z → exW G.C W H0 B AA H σ z →
      (∀ bl ρ1 H1 AA1 As vs us, z = .ok (.sh (.bl bl), true) ρ1 → PXs G.C H0 B AA H σ us As vs H1 AA1 ρ1 → ((pur a && pur d) = true → Same H H1 ∧ AA1 = AA) → Q (.bl bl) H1) →
      tX G.C W a σ H fun y H1 => tX G.C W d σ H1 fun x H2 => ∃ q o, x = .ref q ∧ DGet H2 q y o ∧ Q (.bl (if neg then !o.isSome else o.isSome)) H2 := by
    intro σ H Q H0 B AA ρ z R h ex q
    unfold xv at h
    refine tX_go R h ex fun u ρ1 As v H1 AA1 h1 h2 P p e => ?_
    refine tX_go P.rep.drop h2 (ex.step0 P.mov) fun u2 ρ2 Bs w H2 AA2 h3 h4 P2 p2 e2 => ?_
    split at h4
    · rename_i k hk
      obtain ⟨val, h5, rfl⟩ := rv_inv h4
      obtain ⟨r, h6, rfl⟩ := map_inv h5
      obtain ⟨aa, kvs, rfl, k1, k2, k3⟩ := dict_V (P2.vis (i := 0) rfl rfl) h6
      have hv := key_V (P.vis (i := 0) rfl rfl) hk
      subst hv
      refine ⟨aa, valV kvs k, rfl, dgetV k1, ?_⟩
      have hr : (valV kvs k).isSome = r.isSome := by
        cases r with
        | none => rw [k2 rfl]; rfl
        | some val => obtain ⟨y, g1, _⟩ := k3 val rfl; rw [g1]; rfl
      rw [hr]
      exact q _ _ _ AA2 Bs _ _ rfl (⟨P2.rep, P2.nd, P2.nB, P2.own, ⟨(P.mov.nil.trans P2.mov).fr, (P.mov.nil.trans P2.mov).sub⟩⟩ : PXs G.C H0 B AA H σ [u2] Bs [.ref aa] H2 AA2 ρ2) (pu2 p p2)
    · cases h4
  subst hop
  have hu : X.A.units + 1 < cLine := by have := g.room.units; omega
  have fin_ : ∀ {σ : L2.St} {H : Hp} {Q : Bool → Hp → Prop} {H0 : Gh} {B : Addr → Prop} {AA : Nat → List Addr} {ρ : Rh} {z : R Bool}, xt (.din neg a d) ρ = some z → fint G.C W H0 B AA H σ z Q → ∃ z', xv (.din neg a d) ρ = some z' ∧ exW G.C W H0 B AA H σ z' ∧ ∀ bl ρ1, z' = .ok (.sh (.bl bl), true) ρ1 → z = .ok bl ρ1 := by
    intro σ H Q H0 B AA ρ z h f
    conv at h => lhs; unfold xt
    rcases rb_inv h with ⟨val, ρ1, h1, h2⟩ | ⟨cc, fs, ρ1, h1, rfl⟩
    · refine ⟨_, h1, exW_ok, fun bl ρ2 e => ?_⟩
      cases e
      obtain ⟨b, h3, rfl⟩ := rv_inv h2
      cases h3; rfl
    · exact ⟨_, h1, fun c fs ρ' e => by cases e; exact f, fun bl ρ2 e => by cases e⟩
  cases neg with
  | false =>
    refine ⟨(pe_cmp (pc_din hu ha.1 hd.1) (mark_plain nd)).imp fun σ H Q q => ?_, (pt_cmp (pc_din hu ha.1 hd.1) (mark_plain nd)).imp fun σ H Q q => ?_, fun _ _ _ q => nomatch q⟩
    · obtain ⟨H0, B, AA, ρ, z, R, h, f⟩ := q
      exact key R h (exW_fin f) fun bl ρ1 H1 AA1 As vs us hz P pp => by
        subst hz
        exact sh_fin f P.rep.drop P.mov pp (.bl bl) rfl
    · obtain ⟨H0, B, AA, ρ, z, R, h, f⟩ := q
      obtain ⟨z', h1, h2, h3⟩ := fin_ h f
      exact key (Q := fun x H1 => ∃ c, x = .bl c ∧ Q c H1) R h1 h2 fun bl ρ1 H1 AA1 As vs us hz P pp => by
        have := h3 bl ρ1 hz
        subst this
        exact ⟨bl, rfl, f H1 AA1 P.rep.drop P.mov.nil⟩
  | true =>
    refine ⟨(pe_cmp (pc_dnotin hu ha.1 hd.1) (mark_plain nd)).imp fun σ H Q q => ?_, (pt_cmp (pc_dnotin hu ha.1 hd.1) (mark_plain nd)).imp fun σ H Q q => ?_, fun _ _ _ q => nomatch q⟩
    · obtain ⟨H0, B, AA, ρ, z, R, h, f⟩ := q
      exact key R h (exW_fin f) fun bl ρ1 H1 AA1 As vs us hz P pp => by
        subst hz
        exact sh_fin f P.rep.drop P.mov pp (.bl bl) rfl
    · obtain ⟨H0, B, AA, ρ, z, R, h, f⟩ := q
      obtain ⟨z', h1, h2, h3⟩ := fin_ h f
      exact key (Q := fun x H1 => ∃ c, x = .bl c ∧ Q c H1) R h1 h2 fun bl ρ1 H1 AA1 As vs us hz P pp => by
        have := h3 bl ρ1 hz
        subst this
        exact ⟨bl, rfl, f H1 AA1 P.rep.drop P.mov.nil⟩
theorem sx_dix (g : GoodW G sc X W) (hd : SoX G sc X W d d') (ha : SoX G sc X W a a') (na : nice a' = true) : SoX G sc X W (.dix d a) (.Subscript d' a' pos) := by
  have hu : X.A.units + 1 < cLine := by have := g.room.units; omega
  refine sx_no ((pe_dget hu hd.1 ha.1 (ix_plain na)).imp fun σ H Q q => ?_) fun ρ => by unfold xt; rfl
  obtain ⟨H0, B, AA, ρ, z, R, h, f⟩ := q
  unfold xv at h
  refine tX_go R h (exW_fin f) fun u ρ1 As v H1 AA1 h1 h2 P p e => ?_
  refine tX_go P.rep h2 e fun u2 ρ2 Bs w H2 AA2 h3 h4 P2 p2 e2 => ?_
  split at h4
  · rename_i hpa
    split at h4
    · rename_i k hk
      obtain ⟨val, h5, rfl⟩ := rv_inv h4
      obtain ⟨r, h6, h7⟩ := bnd h5
      have PP := two_px (pb := pur a) P P2 (by rw [hpa]; simp) p2
      have V1 := PP.vis (i := 0) rfl rfl
      have V2 := PP.vis (i := 1) rfl rfl
      obtain ⟨aa, kvs, rfl, k1, k2, k3⟩ := dict_V V1 h6
      have hv := key_V V2 hk
      subst hv
      have h7 : r = some val := h7
      obtain ⟨y, g1, g2⟩ := k3 val h7
      exact ⟨aa, y, rfl, by rw [← g1]; exact dgetV k1, f _ _ _ AA2 (found_px PP g2) (pu2 p p2)⟩
    · cases h4
  · cases h4
/-- one of the worths, by itself -/
theorem OwnVs.nth {C : Cfg} {η : Nat → Option V} {F : Hp} {P : Addr → Prop} : ∀ {vs : List V} {us : List Val} {As : List Addr}, OwnVs C η F H P vs us As → ∀ {i : Nat} {u : Val} {v : V}, us[i]? = some u → vs[i]? = some v → ∃ A', A'.Sublist As ∧ OwnVs C η F H P [v] [u] A'
  | _, _, _, .nil, i, u, v, h, g => by simp at h
  | _, _, _, .own (As := A1) (Bs := B1) o hs, 0, u, v, h, g => by
    cases h; cases g
    refine ⟨A1, List.sublist_append_left _ _, ?_⟩
    have := OwnVs.own (P := P) o OwnVs.nil
    rwa [List.append_nil] at this
  | _, _, _, .own o hs, i + 1, u, v, h, g => by
    obtain ⟨A', k1, k2⟩ := hs.nth (i := i) (by simpa using h) (by simpa using g)
    exact ⟨A', k1.trans (List.sublist_append_right _ _), k2⟩
  | _, _, _, .bor o hp hs, 0, u, v, h, g => by
    cases h; cases g
    exact ⟨[], List.nil_sublist _, .bor o hp .nil⟩
  | _, _, _, .bor o hp hs, i + 1, u, v, h, g => hs.nth (i := i) (by simpa using h) (by simpa using g)
theorem PXs.nth (P : PXs G.C H0 B AA H σ us As vs H1 AA1 ρ1) {i : Nat} {u : Val} (h : us[i]? = some u) (g : vs[i]? = some v) : ∃ A', PXs G.C H0 B AA H σ [u] A' [v] H1 AA1 ρ1 := by
  obtain ⟨A', k1, k2⟩ := P.own.nth h g
  refine ⟨A', P.rep.weak fun a q => q.elim .inl fun m => .inr (k1.subset m), P.nd.sublist k1, fun a m => P.nB a (k1.subset m), ?_, ⟨P.mov.fr, fun a q => P.mov.sub a (q.imp (fun m => k1.subset m) id)⟩⟩
  refine k2.up (hid_mono (Same.refl _) fun a o _ z => z.elim .inl fun m => .inr (k1.subset m)) (fun _ m => m) (fun _ _ => rfl) fun _ _ _ => rfl
theorem sx_dgt (g : GoodW G sc X W) (hd : SoX G sc X W d d') (ha : SoX G sc X W a a') (hb : SoX G sc X W b b') (hbase : baseB d' = true) (hline : (ap.endLine == pos.line) = true) (na : nice a' = true) (nb : nice b' = true) : SoX G sc X W (.dgt d a b) (.Call (.Attribute d' "get" ap) [a', b'] [] pos) := by
  have hu : X.A.units + 1 < cLine := by have := g.room.units; omega
  have n2 : ([a', b'] : List Expr).all nice = true := by rw [List.all_cons, na, List.all_cons, nb]; rfl
  have m2 : M2 X d' "get" ap a' b' pos := {
    base := base_ok hbase
    few := by rw [star_few n2]; rfl
    line := hline
    trees := by unfold backTo; rw [star_cons na, star_cons nb]; rfl }
  refine sx_no ((pe_dget2 hu hd.1 ha.1 hb.1 m2).imp fun σ H Q q => ?_) fun ρ => by unfold xt; rfl
  obtain ⟨H0, B, AA, ρ, z, R, h, f⟩ := q
  unfold xv at h
  split at h
  · rename_i hpp
    refine tX_go R h (exW_fin f) fun u ρ1 As v H1 AA1 h1 h2 P p e => ?_
    have hpp' := Bool.and_eq_true_iff.mp hpp
    have dic : ∃ q kvs, v = .ref q ∧ H1 q = some (.dK kvs) := by
      rcases rb_inv h2 with ⟨u2, ρ2, h3, h4⟩ | ⟨cc, fs, ρ2, h3, _⟩
      · rcases rb_inv h4 with ⟨u3, ρ3, h5, h6⟩ | ⟨cc, fs, ρ3, h5, _⟩
        · split at h6
          · obtain ⟨val, h7, _⟩ := rv_inv h6
            obtain ⟨r, h8, _⟩ := map_inv h7
            obtain ⟨aa, kvs, k0, k1, _⟩ := dict_V (P.vis (i := 0) rfl rfl) h8
            exact ⟨aa, kvs, k0, k1⟩
          · cases h6
        · obtain ⟨_, e⟩ := pur_ok hpp'.2 h5; cases e
      · obtain ⟨_, e⟩ := pur_ok hpp'.1 h3; cases e
    obtain ⟨q, kvs0, rfl, hq⟩ := dic
    refine ⟨q, rfl, .inl ⟨kvs0, .inl hq⟩, ?_⟩
    refine tX_go P.rep h2 e fun u2 ρ2 Bs w H2 AA2 h3 h4 P2 p2 e2 => ?_
    refine tX_go P2.rep h4 e2 fun u3 ρ3 Cs y H3 AA3 h5 h6 P3 p3 e3 => ?_
    split at h6
    · rename_i k hk
      obtain ⟨val, h7, rfl⟩ := rv_inv h6
      obtain ⟨r, h8, rfl⟩ := map_inv h7
      have P23 := two_px (pb := pur b) P2 P3 (by rw [hpp'.2]; simp) p3
      have p23 := pu2 p2 p3
      have PP := cons_px (pb := pur a && pur b) P P23 (by rw [hpp]; simp) p23
      have V1 := PP.vis (i := 0) rfl rfl
      have V2 := PP.vis (i := 1) rfl rfl
      obtain ⟨aa, kvs, e0, k1, k2, k3⟩ := dict_V V1 h8
      cases e0
      have hv := key_V V2 hk
      subst hv
      refine ⟨valV kvs k, dgetV k1, ?_⟩
      have pp : (pur d && pur a && pur b) = true → Same H H3 ∧ AA3 = AA := fun z => by
        have z := Bool.and_eq_true_iff.mp z
        have z1 := Bool.and_eq_true_iff.mp z.1
        exact pu2 p p23 (Bool.and_eq_true_iff.mpr ⟨z1.1, Bool.and_eq_true_iff.mpr ⟨z1.2, z.2⟩⟩)
      cases r with
      | none =>
        rw [k2 rfl]
        obtain ⟨A', P'⟩ := PP.nth (i := 2) (u := u3) (v := y) rfl rfl
        exact f _ _ _ AA3 P' pp
      | some val =>
        obtain ⟨y', g1, g2⟩ := k3 val rfl
        rw [g1]
        exact f _ _ _ AA3 (found_px PP g2) pp
    · cases h6
  · cases h
end
end Eng
/-! X Q: a node that a slot owns is rewritten. -/
namespace Eng
open PySem L2
section
variable {C : Cfg} {H0 : Gh} {H H1 H2 H' : Hp} {B : Addr → Prop} {AA AA1 AA2 : Nat → List Addr} {σ : L2.St} {ρ ρ1 ρ2 : Rh} {As As2 Bs : List Addr} {v w x : V} {vs : List V} {us : List Val} {i : Nat} {q : List Stp}
theorem node_put {u wt : U} (R : RepX C H0 (Zp B As2) AA1 H1 σ ρ1) (n2 : ∀ a, a ∈ As2 → H0.h a = none ∧ ¬ B a) (m : Mov AA H AA1 As2 H1) (hu : ρ1[i]? = some (some u)) (hw : u.atP q = some wt)
    (hx : ∃ v, σ[i]? = some (some v) ∧ WayV C (hid H1 (ZZ (Zp B As2) AA1)) H1 v q x) :
    ∃ Bs, OwnU C (H0.η) (hid H1 (ZZ (Zp B As2) AA1)) H1 x wt Bs ∧ Bs.Nodup ∧ (∀ a, a ∈ Bs → a ∈ AA1 i) ∧ (∀ a, a ∈ Bs → a ∉ As2) ∧
      ∀ {a : Addr} {ob : HO} {u' : U} {Bs' Out : List Addr}, a ∈ Bs → (∀ xs, ob ≠ .tup xs) → Bs'.Nodup → Out.Nodup → (∀ b, b ∈ Bs' → b ∈ Bs ∨ b ∈ As2) → (∀ b, b ∈ Out → b ∈ Bs ∧ b ∉ Bs') →
        OwnU C (H0.η) (hid H1 (ZZ (Zp B As2) AA1)) (upd H1 a ob) x u' Bs' →
        ∃ AA', RepX C H0 (Zp B Out) AA' (upd H1 a ob) σ (putR ρ1 i q u') ∧ Mov AA H AA' Out (upd H1 a ob) ∧ (∀ b, ZZ (Zp B Out) AA' b → ZZ (Zp B As2) AA1 b) ∧ (∀ b, b ∈ Out → H0.h b = none ∧ ¬ B b) := by
  obtain ⟨v, hv, ow⟩ := R.slot i u hu
  obtain ⟨v', hv', way⟩ := hx
  rw [hv] at hv'; cases hv'
  obtain ⟨x', Bs, f1, f2, f3, f4, f5⟩ := focus ow (R.nd i) hw
  have := f1.det hid_sub hid_sub way
  subst this
  have nA2 : ∀ j a, a ∈ AA1 j → a ∉ As2 := fun j a z y => (R.new j a z).2.2 (.inr y)
  refine ⟨Bs, f2, f4, f3, fun a z => nA2 i a (f3 a z), fun {a ob u' Bs' Out} ha ntup ndB ndO hB' hOut hown => ?_⟩
  have haZ : ZZ (Zp B As2) AA1 a := .inr ⟨i, f3 a ha⟩
  have eF : hid (upd H1 a ob) (ZZ (Zp B As2) AA1) = hid H1 (ZZ (Zp B As2) AA1) := hid_upd haZ
  have other : ∀ b, b ≠ a → (upd H1 a ob) b = H1 b := fun b hb => upd_ne hb
  obtain ⟨As3, g1, g2, g3⟩ := f5 (η' := H0.η) (F' := hid H1 (ZZ (Zp B As2) AA1)) (H' := upd H1 a ob) (w' := u') (Bs' := Bs') (Same.refl _) (fun b m n => other b fun z => n (z ▸ ha)) (fun _ _ => rfl) hown ndB fun b z y => (hB' b z).elim id fun h => absurd h (nA2 i b y)
  have hZ : ∀ b, ZZ (Zp B Out) (upA AA1 i As3) b → ZZ (Zp B As2) AA1 b := fun b z => by
    rcases z with (z | z) | ⟨j, z⟩
    · exact .inl (.inl z)
    · exact .inr ⟨i, f3 b (hOut b z).1⟩
    · by_cases hj : j = i
      · subst hj
        rw [upA_same] at z
        rcases (g2 b).mp z with z | z
        · exact (hB' b z).elim (fun h => .inr ⟨j, f3 b h⟩) fun h => .inl (.inr h)
        · exact .inr ⟨j, z.1⟩
      · rw [upA_ne hj] at z; exact .inr ⟨j, z⟩
  have subF : Same (hid H1 (ZZ (Zp B As2) AA1)) (hid (upd H1 a ob) (ZZ (Zp B Out) (upA AA1 i As3))) := by
    rw [← eF]
    exact hid_mono (Same.refl _) fun b _ _ z => hZ b z
  have put : putR ρ1 i q u' = ρ1.set i (some (u.putP q u')) := by unfold putR; rw [hu]
  have live : ∀ b, nTup H1 b → nTup (upd H1 a ob) b := fun b ⟨o, h1, h2⟩ => by
    by_cases hb : b = a
    · subst hb; exact ⟨ob, upd_same, ntup⟩
    · exact ⟨o, by rw [other b hb]; exact h1, h2⟩
  have newB' : ∀ b, b ∈ Bs' → H0.h b = none ∧ nTup H1 b ∧ ¬ B b := fun b z => by
    rcases hB' b z with h | h
    · obtain ⟨k1, k2, k3⟩ := R.new i b (f3 b h)
      exact ⟨k1, k2, fun y => k3 (.inl y)⟩
    · exact ⟨(n2 b h).1, R.bs b (.inr h), (n2 b h).2⟩
  have newAll : ∀ j b, b ∈ upA AA1 i As3 j → H0.h b = none ∧ nTup H1 b ∧ ¬ B b := fun j b z => by
    by_cases hj : j = i
    · subst hj
      rw [upA_same] at z
      rcases (g2 b).mp z with z | z
      · exact newB' b z
      · obtain ⟨k1, k2, k3⟩ := R.new j b z.1
        exact ⟨k1, k2, fun y => k3 (.inl y)⟩
    · rw [upA_ne hj] at z
      obtain ⟨k1, k2, k3⟩ := R.new j b z
      exact ⟨k1, k2, fun y => k3 (.inl y)⟩
  have outI : ∀ b, b ∈ Out → H0.h b = none ∧ ¬ B b := fun b z => by
    obtain ⟨k1, k2, k3⟩ := R.new i b (f3 b (hOut b z).1)
    exact ⟨k1, fun y => k3 (.inl y)⟩
  refine ⟨upA AA1 i As3, ⟨fun b o h => ?_, fun b z => ?_, fun j b z => ?_, fun j => ?_, fun j l b z y => ?_, fun j t h => ?_, ?_⟩, ⟨fun b o h n => ?_, fun b z => ?_⟩, hZ, outI⟩
  · have h0a : H0.h a = none := (R.new i a (f3 a ha)).1
    rw [other b (ne_of_none h h0a)]; exact R.same b o h
  · rcases z with z | z
    · exact live b (R.bs b (.inl z))
    · exact live b (R.new i b (f3 b (hOut b z).1)).2.1
  · obtain ⟨k1, k2, k3⟩ := newAll j b z
    refine ⟨k1, live b k2, fun y => y.elim k3 fun y => ?_⟩
    by_cases hj : j = i
    · subst hj
      rw [upA_same] at z
      rcases (g2 b).mp z with z | z
      · exact (hOut b y).2 z
      · exact z.2 (hOut b y).1
    · rw [upA_ne hj] at z
      exact hj (R.dj j i b z (f3 b (hOut b y).1))
  · by_cases hj : j = i
    · subst hj; rw [upA_same]; exact g3
    · rw [upA_ne hj]; exact R.nd j
  · have key : ∀ l b, l ≠ i → b ∈ As3 → b ∈ AA1 l → False := fun l b hl z y => by
      rcases (g2 b).mp z with z | z
      · rcases hB' b z with h | h
        · exact hl (R.dj l i b y (f3 b h))
        · exact nA2 l b y h
      · exact hl (R.dj l i b y z.1)
    by_cases hj : j = i
    · by_cases hl : l = i
      · rw [hj, hl]
      · subst hj; rw [upA_same] at z; rw [upA_ne hl] at y; exact (key l b hl z y).elim
    · rw [upA_ne hj] at z
      by_cases hl : l = i
      · subst hl; rw [upA_same] at y; exact (key j b hj y z).elim
      · rw [upA_ne hl] at y; exact R.dj j l b z y
  · rw [put] at h
    by_cases hj : i = j
    · subst hj
      have hi : i < ρ1.length := (List.getElem?_eq_some_iff.mp hu).1
      rw [List.getElem?_set_self hi] at h
      cases h
      exact ⟨v, hv, by rw [upA_same]; exact g1.up subF fun _ _ => rfl⟩
    · rw [List.getElem?_set_ne hj] at h
      obtain ⟨v', h1, h2⟩ := R.slot j t h
      refine ⟨v', h1, ?_⟩
      rw [upA_ne (fun z => hj z.symm)]
      exact h2.up subF fun b z => other b fun y => hj (R.dj i j b (y ▸ f3 a ha) z)
  · rw [put, List.length_set]; exact R.len
  · have h1 := m.fr b o h n
    rw [other b fun z => ?_]
    · exact h1
    · subst z
      rcases m.sub b (.inr ⟨i, f3 b ha⟩) with ⟨j, y⟩ | y
      · exact n j y
      · rw [h] at y; cases y
  · have key : b ∈ As2 ∨ ∃ j, b ∈ AA1 j := by
      rcases z with z | ⟨j, z⟩
      · exact .inr ⟨i, f3 b (hOut b z).1⟩
      · by_cases hj : j = i
        · subst hj
          rw [upA_same] at z
          rcases (g2 b).mp z with z | z
          · exact (hB' b z).elim (fun h => .inr ⟨j, f3 b h⟩) .inl
          · exact .inr ⟨j, z.1⟩
        · rw [upA_ne hj] at z; exact .inr ⟨j, z⟩
    exact m.sub b key
/-- a place whose node is told, ready to be rewritten -/
theorem place_put {G : GC} {pl : Pl} {wt : U} (R : RepX G.C H0 (Zp B As2) AA1 H1 σ ρ1) (hp : plR pl ρ1 = some (i, q)) (hg : getP ρ1 i q = some wt) :
    ∃ u x, ρ1[i]? = some (some u) ∧ u.atP q = some wt ∧ PlV G.C pl σ H1 x ∧ ∃ v, σ[i]? = some (some v) ∧ WayV G.C (hid H1 (ZZ (Zp B As2) AA1)) H1 v q x := by
  obtain ⟨u0, w0, v1, x, e1, e2, e3, e4, e5, _⟩ := plR_some R hp
  obtain ⟨u1, g1, g2⟩ := getP_inv hg
  rw [e1] at g1; cases g1
  rw [e2] at g2; cases g2
  exact ⟨u0, x, e1, e2, e5, v1, e3, e4⟩
end
section
variable {G : GC} {sc : Scope} {X : Cx} {W : WX} {a b c d : Eng.X} {xs : Xs} {e' a' b' c' d' : Expr} {es' : List Expr} {pos p p2 ap : Pos} {o : Expr}
variable {H0 : Gh} {H H1 H2 H3 H' : Hp} {B : Addr → Prop} {AA AA1 AA2 AA3 : Nat → List Addr} {σ : L2.St} {ρ ρ1 ρ2 ρ3 : Rh} {As Bs : List Addr} {v w : V} {vs : List V} {us : List Val} {pl : Pl} {i : Nat} {q : List Stp}
theorem owns_erase {C : Cfg} {η : Nat → Option V} {F : Hp} : ∀ {vs : List V} {us : List U} {As : List Addr} {k : Nat} {u : U}, OwnUs C η F H vs us As → us[k]? = some u → ∃ v Bs Cs, vs[k]? = some v ∧ OwnU C η F H v u Bs ∧ OwnUs C η F H (vs.eraseIdx k) (us.eraseIdx k) Cs ∧ (∀ a, a ∈ Bs → a ∈ As) ∧ (∀ a, a ∈ Cs → a ∈ As) ∧ (As.Nodup → Bs.Nodup ∧ Cs.Nodup ∧ ∀ a, a ∈ Bs → a ∉ Cs)
  | [], [], _, k, u, .nil, h => by simp at h
  | v :: vs, w :: us, _, 0, u, .cons (As := A1) (Bs := B1) h hs, e => by
    cases e
    exact ⟨v, A1, B1, rfl, h, hs, fun a m => List.mem_append_left _ m, fun a m => List.mem_append_right _ m, fun nd => by
      have nd := List.nodup_append.mp nd
      exact ⟨nd.1, nd.2.1, fun a m n => nd.2.2 a m a n rfl⟩⟩
  | v :: vs, w :: us, _, k + 1, u, .cons (As := A1) (Bs := B1) h hs, e => by
    obtain ⟨x, Bs, Cs, h1, h2, h3, h4, h5, h6⟩ := owns_erase hs (k := k) (by simpa using e)
    refine ⟨x, Bs, A1 ++ Cs, by simpa using h1, h2, .cons h h3, fun a m => List.mem_append_right _ (h4 a m), fun a m => ?_, fun nd => ?_⟩
    · rcases List.mem_append.mp m with m | m
      · exact List.mem_append_left _ m
      · exact List.mem_append_right _ (h5 a m)
    · have nd := List.nodup_append.mp nd
      obtain ⟨k1, k2, k3⟩ := h6 nd.2.1
      refine ⟨k1, List.nodup_append.mpr ⟨nd.1, k2, fun x hx y hy e => nd.2.2 x hx y (h5 y hy) e⟩, fun a m n => ?_⟩
      rcases List.mem_append.mp n with n | n
      · exact nd.2.2 a n a (h4 a m) rfl
      · exact k3 a m n
/-- an item is taken out of a list -/
theorem pop_px {us : List U} {k : Nat} {u : U} {vals : List Val} {vs0 : List V} (P : PXs G.C H0 B AA H σ vals As vs0 H1 AA1 ρ1) (hp : plR pl ρ1 = some (i, q)) (hg : getP ρ1 i q = some (.lst us)) (hu : us[k]? = some u) :
    ∃ aa ws y, PlV G.C pl σ H1 (.ref aa) ∧ H1 aa = some (.lst ws) ∧ ws.length = us.length ∧ ws[k]? = some y ∧ ∃ AA' Bs, PXs G.C H0 B AA H σ [(u, true)] Bs [y] (upd H1 aa (.lst (ws.eraseIdx k))) AA' (putR ρ1 i q (.lst (us.eraseIdx k))) := by
  have R0 : RepX G.C H0 (Zp B []) AA1 H1 σ ρ1 := by rw [Zp_nil]; exact P.rep.drop
  obtain ⟨ur, x, h1, h2, h3, h4⟩ := place_put R0 hp hg
  obtain ⟨Bs, k1, k2, k3, k4, k5⟩ := node_put (AA := AA) (H := H) R0 (fun a m => by cases m) P.mov.nil h1 h2 h4
  generalize hF : hid H1 (ZZ (Zp B []) AA1) = F at k1 k5
  cases k1 with
  | @lst aa ws _ As1 ha hs =>
    obtain ⟨y, Bs2, Cs, g1, g2, g3, g4, g5, g6⟩ := owns_erase hs hu
    have nd := List.nodup_cons.mp k2
    obtain ⟨n1, n2, n3⟩ := g6 nd.2
    refine ⟨aa, ws, y, h3, ha, hs.length, g1, ?_⟩
    have live : ∀ b, b ∈ As1 → b ≠ aa := fun b m z => nd.1 (z ▸ m)
    obtain ⟨AA', m1, m2, m3, m4⟩ := k5 (a := aa) (ob := .lst (ws.eraseIdx k)) (u' := .lst (us.eraseIdx k)) (Bs' := aa :: Cs) (Out := Bs2) (List.mem_cons_self ..) (fun _ z => nomatch z) (List.nodup_cons.mpr ⟨fun m => nd.1 (g5 aa m), n2⟩) n1 (fun b m => .inl (by
        rcases List.mem_cons.mp m with rfl | m
        · exact List.mem_cons_self ..
        · exact List.mem_cons_of_mem _ (g5 b m))) (fun b m => ⟨List.mem_cons_of_mem _ (g4 b m), fun z => by
        rcases List.mem_cons.mp z with z | z
        · exact live b (g4 b m) z
        · exact n3 b m z⟩) (.lst upd_same (g3.up (Same.refl _) fun b m => upd_ne (live b (g5 b m))))
    refine ⟨AA', Bs2, m1, n1, m4, ?_, m2⟩
    have := OwnVs.own (P := fun a => ∃ i, a ∈ AA' i) (C := G.C) (η := H0.η) (F := hid (upd H1 aa (.lst (ws.eraseIdx k))) (Zp (ZZ B AA') Bs2)) (H := upd H1 aa (.lst (ws.eraseIdx k))) (v := y) (u := u) (As := Bs2) (vs := []) (us := []) (Bs := []) (g2.up (by
        rw [← hF]
        have e1 : hid H1 (ZZ (Zp B []) AA1) = hid (upd H1 aa (.lst (ws.eraseIdx k))) (ZZ (Zp B []) AA1) := (hid_upd (.inr ⟨i, k3 aa (List.mem_cons_self ..)⟩)).symm
        rw [e1, ← ZZ_Zp]
        exact hid_mono (Same.refl _) fun b _ _ z => m3 b z) fun b m => upd_ne (live b (g4 b m))) .nil
    rwa [List.append_nil] at this
end
end Eng
/-! X R: pops as values; what is walked. -/
namespace Eng
open PySem L2
section
variable {G : GC} {sc : Scope} {X : Cx} {W : WX} {x a b c d : Eng.X} {xs : Xs} {e' a' b' c' d' : Expr} {es' : List Expr} {pos p p2 ap : Pos} {o : Expr}
variable {H0 : Gh} {H H1 H2 H3 H' : Hp} {B : Addr → Prop} {AA AA1 AA2 AA3 : Nat → List Addr} {σ : L2.St} {ρ ρ1 ρ2 ρ3 : Rh} {As Bs : List Addr} {v w : V} {vs : List V} {us : List Val} {pl : Pl} {i : Nat} {q : List Stp}
theorem ty_lstX {K : PySem.W.Frag} {a : Addr} {vs : List V} (h : H a = some (.lst vs)) : tyV K "list" (.ref a) H := .inl ⟨rfl, vs, SqL.of h⟩
theorem sx_popl (hpl : PE X o (tPl G.C pl)) (hb : baseB o = true) (hline : (ap.endLine == pos.line) = true) : SoX G sc X W (.popl pl) (.Call (.Attribute o "pop" ap) [] [] pos) := by
  refine sx_no ((pe_bm0 (cpos := pos) (apos := ap) F.plainAttrs_list F.slot_list_pop F.type_list_pop (mt_pop (X := X)) hpl (base_ok hb) hline).imp fun σ H Q q => ?_) fun ρ => by unfold xt; rfl
  obtain ⟨H0, B, AA, ρ, z, R, h, f⟩ := q
  unfold xv at h
  split at h
  · rename_i i q hp
    split at h
    · rename_i us hg
      split at h
      · rename_i w hw
        cases h
        have hw' : us[us.length - 1]? = some w := by rw [← List.getLast?_eq_getElem?]; exact hw
        obtain ⟨aa, ws, y, k1, k2, k3, k4, AA', Bs, P⟩ := pop_px (PXs.nil R) hp hg hw'
        refine ⟨_, k1, ty_lstX k2, aa, ws, y, rfl, rfl, k2, by rw [k3]; exact k4, ?_⟩
        rw [← List.eraseIdx_length_sub_one, k3]
        have P' := P
        rw [show us.eraseIdx (us.length - 1) = us.dropLast from List.eraseIdx_length_sub_one] at P'
        exact f _ _ _ _ P' fun z => nomatch z
      · cases h
    · cases h
  · cases h
theorem sx_popi (hpl : PE X o (tPl G.C pl)) (ha : SoX G sc X W a a') (na : nice a' = true) (hb : baseB o = true) (hline : (ap.endLine == pos.line) = true) : SoX G sc X W (.popi pl a) (.Call (.Attribute o "pop" ap) [a'] [] pos) := by
  refine sx_no ((pe_bm (cpos := pos) (apos := ap) F.plainAttrs_list F.slot_list_pop F.type_list_pop (mt_popAt (X := X)) hpl (pa_cons ha.1 pa_nil (star_cons na)) (base_ok hb) (by rw [star_cons na]; rfl) hline (star_cons na) rfl).imp fun σ H Q q => ?_) fun ρ => by unfold xt; rfl
  obtain ⟨H0, B, AA, ρ, z, R, h, f⟩ := q
  unfold xv at h
  split at h
  · rename_i hpa
    rcases rb_inv h with ⟨u, ρ1, h1, h2⟩ | ⟨cc, fs, ρ1, h1, hz⟩
    · obtain ⟨u', e⟩ := pur_ok hpa h1
      cases e
      split at h2
      · rename_i i q j hp hj
        split at h2
        · rename_i us hg
          split at h2
          · rename_i hsz
            obtain ⟨m, h3, h2⟩ := bnd h2
            obtain ⟨w, h4, h2⟩ := bnd h2
            cases h2
            obtain ⟨aa0, ws0, y0, g1, g2, _⟩ := pop_px (PXs.nil R) hp hg h4
            refine ⟨_, g1, ty_lstX g2, H0, B, AA, ρ, _, R, h1, fun As v H1 AA1 P pp => ?_⟩
            obtain ⟨pp1, pp2⟩ := pp hpa
            have hv := int_px (P.vis (i := 0) rfl rfl) hj
            subst hv
            obtain ⟨aa, ws, y, k1, k2, k3, k4, AA', Bs, P'⟩ := pop_px P hp hg h4
            have := (g1.mono pp1).det k1
            cases this
            obtain ⟨q1, q2, q3, q4⟩ := ixN_seq h3
            have hn : us.length ≤ 16777216 := hsz
            refine ⟨_, ws, j, m, y, rfl, rfl, k2, by omega, by omega, by rw [k3]; exact q1, k4, ?_⟩
            exact f _ _ _ _ P' fun z => nomatch z
          · cases h2
        · cases h2
      · cases h2
    · obtain ⟨_, e⟩ := pur_ok hpa h1; cases e
  · cases h
/-- a slot's tree is taken out -/
theorem take_px {C : Cfg} {u : U} (R : RepX C H0 B AA H σ ρ) (h : ρ[i]? = some (some u)) : ∃ v, σ[i]? = some (some v) ∧ PXs C H0 B AA H σ [(u, true)] (AA i) [v] H (upA AA i []) (ρ.set i none) := by
  obtain ⟨v, h1, h2⟩ := R.slot i u h
  have hz : ∀ a, ZZ (Zp B (AA i)) (upA AA i []) a → ZZ B AA a := fun a q => by
    rcases q with (q | q) | ⟨j, q⟩
    · exact .inl q
    · exact .inr ⟨i, q⟩
    · by_cases hj : j = i
      · subst hj; rw [upA_same] at q; cases q
      · rw [upA_ne hj] at q; exact .inr ⟨j, q⟩
  have nw : ∀ j a, a ∈ upA AA i [] j → j ≠ i ∧ a ∈ AA j := fun j a q => by
    by_cases hj : j = i
    · subst hj; rw [upA_same] at q; cases q
    · rw [upA_ne hj] at q; exact ⟨hj, q⟩
  refine ⟨v, h1, ⟨⟨R.same, fun a q => q.elim (R.bs a) fun m => (R.new i a m).2.1, fun j a m => ?_, fun j => ?_, fun j l a m n => R.dj j l a (nw j a m).2 (nw l a n).2, fun j t ht => ?_, by rw [List.length_set]; exact R.len⟩, R.nd i, fun a m => ⟨(R.new i a m).1, (R.new i a m).2.2⟩, ?_, ⟨fun a o h _ => h, fun a q => .inl ?_⟩⟩⟩
  · obtain ⟨k1, k2⟩ := nw j a m
    exact ⟨(R.new j a k2).1, (R.new j a k2).2.1, fun q => q.elim (R.new j a k2).2.2 fun q => k1 (R.dj j i a k2 q)⟩
  · by_cases hj : j = i
    · subst hj; rw [upA_same]; exact List.nodup_nil
    · rw [upA_ne hj]; exact R.nd j
  · by_cases hj : i = j
    · subst hj
      have hi : i < ρ.length := (List.getElem?_eq_some_iff.mp h).1
      rw [List.getElem?_set_self hi] at ht
      cases ht
    · rw [List.getElem?_set_ne hj] at ht
      obtain ⟨w, k1, k2⟩ := R.slot j t ht
      refine ⟨w, k1, ?_⟩
      rw [upA_ne fun z => hj z.symm]
      exact k2.up (hid_mono (Same.refl _) fun a _ _ q => hz a q) fun _ _ => rfl
  · have := OwnVs.own (P := fun a => ∃ i', a ∈ upA AA i [] i') (h2.up (F' := hid H (Zp (ZZ B (upA AA i [])) (AA i))) (hid_mono (Same.refl _) fun a _ _ q => ?_) (H' := H) fun _ _ => rfl) OwnVs.nil
    · rwa [List.append_nil] at this
    · rw [← ZZ_Zp] at q; exact hz a q
  · rcases q with q | ⟨j, q⟩
    · exact ⟨i, q⟩
    · exact ⟨j, (nw j a q).2⟩
theorem sx_mv {y : Str} (g : GoodW G sc X W) (hN : G.N[i]? = some y) (hv : visB sc y = true) (hn : nmB y = true) : SoX G sc X W (.mv i) (.Name y pos) := by
  obtain ⟨n1, n2, n3⟩ := nmB_inv hn
  have hp : PE X (.Name y pos) (tVar i) := pe_var (i := i) (by rw [g.N]; exact hN) (g.vis y hv) n1 n2
  refine sx_no (hp.imp fun σ H Q q => ?_) fun ρ => by unfold xt; rfl
  obtain ⟨H0, B, AA, ρ, z, R, h, f⟩ := q
  unfold xv at h
  split at h
  · rename_i u hu
    cases h
    obtain ⟨v, k1, k2⟩ := take_px R hu
    exact ⟨v, k1, f _ v H _ k2 fun z => nomatch z⟩
  · cases h
/-! ### what is walked -/
def finI (C : Cfg) (W : WX) (H0 : Gh) (B : Addr → Prop) (AA : Nat → List Addr) (H : Hp) (σ : L2.St) : R (List D) → (It → Hp → Prop) → Prop
  | .ok ds ρ', Q => ∀ J H' AA', RepX C H0 B AA' H' σ ρ' → Mov AA H AA' [] H' → WalkD C (hid H' (ZZ B AA')) J ds → Q J H'
  | .ex c fs ρ', _ => ExW C W H0 B AA H σ c fs ρ'
def tXI (C : Cfg) (W : WX) (x : XI) : TI := fun σ H Q => ∃ (H0 : Gh) (B : Addr → Prop) (AA : Nat → List Addr) (ρ : Rh) (r : R (List D)), RepX C H0 B AA H σ ρ ∧ xvi x ρ = some r ∧ finI C W H0 B AA H σ r Q
theorem exW_finI {r : R (List D)} {Q : It → Hp → Prop} (h : finI G.C W H0 B AA H σ r Q) : exW G.C W H0 B AA H σ r := fun c fs ρ' e => by subst e; exact h
variable {tg : Expr}
theorem xi_pi {it : I} (hi : PI X tg e' (tI G.C it)) : PI X tg e' (tXI G.C W (.pi it)) := hi.imp fun σ H Q q => by
  obtain ⟨H0, B, AA, ρ, z, R, h, f⟩ := q
  unfold xvi at h
  obtain ⟨ds, h1, rfl⟩ := rv_inv h
  obtain ⟨ds', h2, h3⟩ := bnd h1
  split at h3
  · rename_i s
    cases h3
    exact ⟨H0.h, B, AA, tr ρ, ds, R.rep, h2, s, fun J H1 e w => f J H1 AA (R.mono e) (Mov.same0 e) w⟩
  · cases h3
/-- a list in hand, safe: it stands apart from the slots -/
theorem lsn_safe {u : Val} {ds : List D} (P : PXs G.C H0 B AA H σ us As vs H1 AA1 ρ1) {i : Nat} (h : us[i]? = some u) (gv : vs[i]? = some v) (s : u.2 = true) (h4 : lsnV u = some ds) : ∃ aa ws, v = .ref aa ∧ hid H1 (ZZ B AA1) aa = some (.lst ws) ∧ Dats G.C (hid H1 (ZZ B AA1)) ws ds := by
  obtain ⟨u, s'⟩ := u
  cases s
  have V := P.vis h gv
  obtain ⟨aa, ws, rfl, k1, k2⟩ := lsnV_px V h4
  refine ⟨aa, ws, rfl, ?_, k2⟩
  refine hid_some.mpr ⟨?_, k1⟩
  cases u with
  | lst us => cases V with | own o e k => cases o with | lst _ _ => exact k _ (List.mem_cons_self ..)
  | sh d =>
    have := V.shd
    cases d with
    | lst ys =>
      obtain ⟨_, _, e, k3, _⟩ := this.vlst
      cases e
      exact (hid_some.mp k3).1
    | _ => cases h4
  | _ => cases h4
theorem xi_seq (g : GoodW G sc X W) (ha : SoX G sc X W a e') : PI X tg e' (tXI G.C W (.seq a)) := (PI.or (pi_list ha.1) (PI.or (pi_tup ha.1) (pi_str ha.1))).imp fun σ H Q q => by
  obtain ⟨H0, B, AA, ρ, z, R, h, f⟩ := q
  unfold xvi at h
  rcases rb_inv h with ⟨⟨u, s⟩, ρ1, h1, h2⟩ | ⟨cc, fs, ρ1, h1, rfl⟩
  · split at h2
    · rename_i hs
      have hs : s = true := hs
      subst hs
      obtain ⟨ds, h3, rfl⟩ := rv_inv h2
      have go : ∀ (P : V → Hp → Prop), (∀ As v H1 AA1, PXs G.C H0 B AA H σ [(u, true)] As [v] H1 AA1 ρ1 → (∀ J, WalkD G.C (hid H1 (ZZ B AA1)) J ds → Q J H1) → P v H1) → tX G.C W a σ H P := fun P k =>
        ⟨H0, B, AA, ρ, _, R, h1, fun As v H1 AA1 PP _ => k As v H1 AA1 PP fun J w => f J H1 AA1 PP.rep.drop PP.mov.nil w⟩
      have lst : lsnV (u, true) = some ds → iList X.K (tX G.C W a) σ H Q := fun h4 => go _ fun As v H1 AA1 P q => by
        obtain ⟨aa, vs, rfl, k1, k2⟩ := lsn_safe (i := 0) P rfl rfl rfl h4
        exact ⟨aa, rfl, ⟨vs, SqL.of (hid_sub _ _ k1)⟩, q _ (wd_list k1 k2)⟩
      unfold elsV at h3
      simp only at h3
      split at h3
      · exact .inl (lst h3)
      · refine .inr (.inl (go _ fun As v H1 AA1 P q => ?_))
        obtain ⟨ts, h5, rfl⟩ := map_inv (show (U.ts _).map T.ds = some ds from h3)
        have P1 := P.vis (i := 0) rfl rfl
        cases P1 with
        | own o e k =>
          cases o with
          | tup ha hs =>
            have ha' := e _ _ ha
            have dd := (hs.t h5).dat e fun b o m z => hid_some.mpr ⟨k b m, z⟩
            exact ⟨_, rfl, ⟨_, SqT.of (hid_sub _ _ ha')⟩, q _ (wd_tup ha' dd)⟩
      · exact .inl (lst h3)
      · refine .inr (.inl (go _ fun As v H1 AA1 P q => ?_))
        cases h3
        obtain ⟨aa, vs, rfl, k1, k2⟩ := (P.vis (i := 0) rfl rfl).shd.vtup
        exact ⟨aa, rfl, ⟨vs, SqT.of (hid_sub _ _ k1)⟩, q _ (wd_tup k1 k2)⟩
      · refine .inl (go _ fun As v H1 AA1 P q => ?_)
        cases h3
        obtain ⟨aa, rfl, k1⟩ := (P.vis (i := 0) rfl rfl).shd.vscr
        exact ⟨aa, rfl, ⟨_, by rw [g.K]; exact hid_sub.seq k1⟩, q _ (by rw [g.K]; exact wd_scr k1)⟩
      · refine .inr (.inr (go _ fun As v H1 AA1 P q => ?_))
        cases h3
        exact ⟨_, (P.vis (i := 0) rfl rfl).shd.vstr, q _ (wd_str _)⟩
      · cases h3
    · cases h2
  · exact .inl ⟨H0, B, AA, ρ, _, R, h1, exW_finI f cc fs ρ1 rfl⟩
theorem rngX_inv {u w : Val} {ds : List D} (h : rngX u w = some ds) : ∃ l n, u.1 = .sh (.int l) ∧ w.1 = .sh (.int n) ∧ rngD l n = some ds := by
  unfold rngX at h
  split at h
  · exact ⟨_, _, by assumption, by assumption, h⟩
  · cases h
theorem xi_rng1 (g : GoodW G sc X W) (hl : glB sc "range" = true) (hm : NoG G "range") (ha : PE X a' (tX G.C W a)) (n : nice a' = true) : PI X tg (.Call (.Name "range" p) [a'] [] pos) (tXI G.C W (.rng1 a)) :=
  (pi_range1 (g.gl _ hl) (by rw [g.mg]; exact hm) (pa_cons ha pa_nil (star_cons n)) (star_cons n)).imp fun σ H Q q => by
    obtain ⟨H0, B, AA, ρ, z, R, h, f⟩ := q
    unfold xvi at h
    refine tX_go R h (exW_finI f) fun u ρ1 As v H1 AA1 h1 h2 P p e => ?_
    obtain ⟨ds, h3, rfl⟩ := rv_inv h2
    obtain ⟨l, n, e1, e2, h4⟩ := rngX_inv h3
    cases e1
    obtain ⟨c1, rfl⟩ := rngD_inv h4
    refine ⟨n, by rw [int_px (P.vis (i := 0) rfl rfl) e2], c1.2.2.1, c1.2.2.2, f _ _ AA1 P.rep.drop P.mov.nil ?_⟩
    have := wd_rng (C := G.C) (F := hid H1 (ZZ B AA1)) 0 n.toNat
    rw [Int.sub_zero]
    exact this
theorem xi_rng2 (g : GoodW G sc X W) (hl : glB sc "range" = true) (hm : NoG G "range") (ha : PE X a' (tX G.C W a)) (hb : PE X b' (tX G.C W b)) (n : nice a' = true) (n2 : nice b' = true) : PI X tg (.Call (.Name "range" p) [a', b'] [] pos) (tXI G.C W (.rng2 a b)) :=
  (pi_range2 (g.gl _ hl) (by rw [g.mg]; exact hm) (pa_cons ha (pa_cons hb pa_nil (star_cons n2)) (star_cons n)) (by rw [star_cons n, star_cons n2]; rfl) (by rw [star_cons n2]; rfl)).imp fun σ H Q q => by
    obtain ⟨H0, B, AA, ρ, z, R, h, f⟩ := q
    unfold xvi at h
    refine tX_go R h (exW_finI f) fun u ρ1 As v H1 AA1 h1 h2 P p e => ?_
    refine tX_go P.rep.drop h2 ((exW_finI f).step0 P.mov) fun u2 ρ2 Bs w H2 AA2 h3 h4 P2 p2 e2 => ?_
    obtain ⟨ds, h5, rfl⟩ := rv_inv h4
    obtain ⟨l, n, e3, e4, h6⟩ := rngX_inv h5
    obtain ⟨c1, rfl⟩ := rngD_inv h6
    refine ⟨l, n, ?_, c1, f _ _ AA2 P2.rep.drop (P.mov.nil.trans P2.mov.nil) (wd_rng l _)⟩
    rw [int_px (P.vis (i := 0) rfl rfl) e3, int_px (P2.vis (i := 0) rfl rfl) e4]
theorem xi_enm {elts : List Expr} {kk : Nat} {tp : Pos} (g : GoodW G sc X W) (hl : glB sc "enumerate" = true) (hm : NoG G "enumerate") (ha : PE X a' (tX G.C W a)) (n : nice a' = true) : PI X (.Tuple elts kk tp) (.Call (.Name "enumerate" p) [a'] [] pos) (tXI G.C W (.enm a)) :=
  (pi_enum (g.gl _ hl) (by rw [g.mg]; exact hm) (pa_cons ha pa_nil (star_cons n)) (star_cons n)).imp fun σ H Q q => by
    obtain ⟨H0, B, AA, ρ, z, R, h, f⟩ := q
    unfold xvi at h
    refine tX_go R h (exW_finI f) fun u ρ1 As v H1 AA1 h1 h2 P p e => ?_
    split at h2
    · rename_i hs
      obtain ⟨ds, h3, rfl⟩ := rv_inv h2
      obtain ⟨ds', h4, rfl⟩ := map_inv h3
      obtain ⟨aa, ws, rfl, k1, k2⟩ := lsn_safe (i := 0) P rfl rfl hs h4
      exact ⟨aa, ws, rfl, SqL.of (hid_sub _ _ k1), f _ _ AA1 P.rep.drop P.mov.nil (wd_enm k1 k2)⟩
    · cases h2
theorem xi_zip {elts : List Expr} {kk : Nat} {tp : Pos} (g : GoodW G sc X W) (hl : glB sc "zip" = true) (hm : NoG G "zip") (ha : PE X a' (tX G.C W a)) (hb : PE X b' (tX G.C W b)) (n : nice a' = true) (n2 : nice b' = true) :
    PI X (.Tuple elts kk tp) (.Call (.Name "zip" p) [a', b'] [] pos) (tXI G.C W (.zip a b)) :=
  (pi_zip (g.gl _ hl) (by rw [g.mg]; exact hm) (pa_cons ha (pa_cons hb pa_nil (star_cons n2)) (star_cons n)) (star_cons n) (by rw [star_cons n2]; rfl)).imp fun σ H Q q => by
    obtain ⟨H0, B, AA, ρ, z, R, h, f⟩ := q
    unfold xvi at h
    refine tX_go R h (exW_finI f) fun u ρ1 As v H1 AA1 h1 h2 P p e => ?_
    refine tX_go P.rep h2 e fun u2 ρ2 Bs w H2 AA2 h3 h4 P2 p2 e2 => ?_
    split at h4
    · rename_i hs
      have hs := Bool.and_eq_true_iff.mp hs
      split at h4
      · rename_i xs ys hx hy
        obtain ⟨ds, h5, rfl⟩ := rv_inv h4
        cases h5
        have PP := two_px (pb := false) P P2 (by rw [hs.1]; rfl) fun z => nomatch z
        obtain ⟨aa, ws, rfl, k1, k2⟩ := lsn_safe (i := 0) PP rfl rfl hs.1 hx
        obtain ⟨bb, ws2, rfl, k3, k4⟩ := lsn_safe (i := 1) PP rfl rfl hs.2 hy
        exact ⟨aa, bb, ws, ws2, rfl, SqL.of (hid_sub _ _ k1), SqL.of (hid_sub _ _ k3), f _ _ AA2 PP.rep.drop PP.mov.nil (wd_zip k1 k2 k3 k4)⟩
      · cases h4
    · cases h4
end
end Eng
/-! X S: the whole of the expressions that act. -/
namespace Eng
open PySem L2
theorem mXI_nice {N : List Str} {sc : Scope} {it : XI} {tg e : Expr} (h : mXI N sc it tg e = true) : nice e = true := by
  cases it with
  | pi it => unfold mXI at h; exact mI_nice h
  | seq e => unfold mXI at h; exact mX_nice h
  | enm1 e k => unfold mXI at h; cases h
  | itm e => unfold mXI at h; cases h
  | _ =>
    unfold mXI at h
    simp only [] at h
    split at h
    · rfl
    · cases h
section
variable {G : GC} {W : WX}
theorem mXk_nice {N : List Str} {sc : Scope} {p : Pl} : ∀ {es : Xs} {k : Nat} {es' : List Expr}, mXk N sc p es k es' = true → es'.all nice = true ∧ es' ≠ []
  | .nil, k, es', h => by
    unfold mXk at h
    split at h
    · rename_i e'
      exact ⟨by rw [List.all_cons, mP_nice h]; rfl, by simp⟩
    · cases h
  | .cons e es, k, es', h => by
    unfold mXk at h
    split at h
    · obtain ⟨h1, h2, h3⟩ := and3 h
      exact ⟨by rw [List.all_cons, List.all_cons, mP_nice h1, mX_nice h2, mXs_nice h3]; rfl, by simp⟩
    · have h := Bool.and_eq_true_iff.mp h
      exact ⟨by rw [List.all_cons, mX_nice h.1, (mXk_nice h.2).1]; rfl, by simp⟩
    · cases h
mutual
theorem soX : ∀ (e : Eng.X) {sc : Scope} {X : Cx} {e' : Expr}, GoodW G sc X W → mX G.N sc e e' = true → NdX G e → SoX G sc X W e e'
  | .pe e, sc, X, e', g, m, n => by
    unfold mX at m
    exact sx_pe g (soE e g.toGood m n)
  | .var i, sc, X, e', g, m, n => by
    unfold mX at m
    split at m
    · obtain ⟨m1, m2, m3⟩ := and3 m
      exact sx_var g (of_decide_eq_true m1) m2 m3
    · cases m
  | .mv i, sc, X, e', g, m, n => by
    unfold mX at m
    split at m
    · obtain ⟨m1, m2, m3⟩ := and3 m
      exact sx_mv g (of_decide_eq_true m1) m2 m3
    · cases m
  | .bin op a b, sc, X, e', g, m, n => by
    unfold mX at m
    split at m
    · obtain ⟨m1, m2, m3⟩ := and3 m
      have := of_decide_eq_true m1
      subst this
      exact sx_bin (soX a g m2 n.1) (soX b g m3 n.2)
    · cases m
  | .cmp op a b, sc, X, e', g, m, n => by
    unfold mX at m
    split at m
    · obtain ⟨m1, m2, m3⟩ := and3 m
      have := of_decide_eq_true m1
      subst this
      exact sx_cmp g (soX a g m2 n.1) (soX b g m3 n.2) (mX_nice m3)
    · cases m
  | .and a b, sc, X, e', g, m, n => by
    unfold mX at m
    split at m
    · have m := Bool.and_eq_true_iff.mp m
      exact sx_and (soX a g m.1 n.1) (soX b g m.2 n.2)
    · cases m
  | .or a b, sc, X, e', g, m, n => by
    unfold mX at m
    split at m
    · have m := Bool.and_eq_true_iff.mp m
      exact sx_or (soX a g m.1 n.1) (soX b g m.2 n.2)
    · cases m
  | .one a, sc, X, e', g, m, n => by
    unfold mX at m
    split at m
    · exact sx_one (soX a g m n)
    · cases m
  | .not a, sc, X, e', g, m, n => by
    unfold mX at m
    split at m
    · exact sx_not (soX a g m n)
    · cases m
  | .ife c a b, sc, X, e', g, m, n => by
    unfold mX at m
    split at m
    · obtain ⟨m1, m2, m3⟩ := and3 m
      exact sx_ife (soX c g m1 n.1) (soX a g m2 n.2.1) (soX b g m3 n.2.2)
    · cases m
  | .tup es, sc, X, e', g, m, n => by
    unfold mX at m
    split at m
    · exact sx_tup (soXs es g m n)
    · cases m
  | .lst es, sc, X, e', g, m, n => by
    unfold mX at m
    split at m
    · exact sx_lst (soXs es g m n)
    · cases m
  | .idx a b, sc, X, e', g, m, n => by
    unfold mX at m
    split at m
    · have m := Bool.and_eq_true_iff.mp m
      exact sx_idx g (soX a g m.1 n.1) (soX b g m.2 n.2) (mX_nice m.2)
    · cases m
  | .slc a lo hi, sc, X, e', g, m, n => by
    unfold mX at m
    split at m
    · obtain ⟨m1, m2, m3⟩ := and3 m
      exact sx_slc g (soX a g m1 n.1) (soEo lo g.toGood m2 n.2.1) (soEo hi g.toGood m3 n.2.2)
    · cases m
  | .fld a f cs, sc, X, e', g, m, n => by
    unfold mX at m
    split at m
    · obtain ⟨m1, m2, m3⟩ := and3 m
      have := of_decide_eq_true m1
      subst this
      exact sx_fld g (soX a g m3 n.1) m2 n.2
    · cases m
  | .cal f F dds es, sc, X, e', g, m, n => by
    unfold mX at m
    split at m
    · obtain ⟨m1, m2, m3⟩ := and3 m
      have m1 := Bool.and_eq_true_iff.mp m1
      have := of_decide_eq_true m1.1
      subst this
      exact sx_cal g m1.2 m2 (soXs es g m3 n.2) m3 n.1
    · cases m
  | .bi b es, sc, X, e', g, m, n => by
    unfold mX at m
    split at m
    · obtain ⟨m1, m2, m3⟩ := and3 m
      have m1 := Bool.and_eq_true_iff.mp m1
      have := of_decide_eq_true m1.1
      subst this
      exact sx_bi b g m1.2 m2 (soXs es g m3 n.2) (mXs_nice m3) n.1
    · cases m
  | .mth mm a es, sc, X, e', g, m, n => by
    unfold mX at m
    split at m
    · obtain ⟨m1, m2, m3⟩ := and3 m
      obtain ⟨m4, m5, m6⟩ := and3 m1
      have m4 := Bool.and_eq_true_iff.mp m4
      have := of_decide_eq_true m4.1
      subst this
      exact sx_mth mm g (soX a g m2 n.1) m4.2 m5 (of_decide_eq_true m6) (soXs es g m3 n.2) (mXs_nice m3)
    · cases m
  | .cax f F dds es, sc, X, e', g, m, n => by
    unfold mX at m
    split at m
    · obtain ⟨m1, m2, m3⟩ := and3 m
      have m1 := Bool.and_eq_true_iff.mp m1
      have := of_decide_eq_true m1.1
      subst this
      exact sx_cax g m1.2 m2 (soXs es g m3 n.2) m3 n.1
    · cases m
  | .ioc f k pl F dds es, sc, X, e', g, m, n => by
    unfold mX at m
    split at m
    · rename_i f' p1 es' p2
      obtain ⟨m1, m2, m3⟩ := and3 m
      have m1 := Bool.and_eq_true_iff.mp m1
      have := of_decide_eq_true m1.1
      subst this
      have hn := mXk_nice m3
      cases es' with
      | nil => exact absurd rfl hn.2
      | cons a' r => exact sx_ioc g m1.2 m2 (soXk es k g m3 n.2.1 n.2.2) hn.1 n.1
    · cases m
  | .iof f k F dds es, sc, X, e', g, m, n => by unfold mX at m; cases m
  | .iom mm pl tbl dds es, sc, X, e', g, m, n => by
    unfold mX at m
    split at m
    · obtain ⟨m1, m2, m3⟩ := and3 m
      obtain ⟨m4, m5, m6⟩ := and3 m1
      have m4 := Bool.and_eq_true_iff.mp m4
      have := of_decide_eq_true m4.1
      subst this
      exact sx_iom g (sx_pl g m2 n.2.1) m4.2 m5 (of_decide_eq_true m6) (soXs es g m3 n.2.2) m3 n.1
    · cases m
  | .mcl mm a tbl dds es, sc, X, e', g, m, n => by
    unfold mX at m
    split at m
    · obtain ⟨m1, m2, m3⟩ := and3 m
      obtain ⟨m4, m5, m6⟩ := and3 m1
      have m4 := Bool.and_eq_true_iff.mp m4
      have := of_decide_eq_true m4.1
      subst this
      exact sx_mcl g (soX a g m2 n.2.1) m4.2 m5 (of_decide_eq_true m6) (soXs es g m3 n.2.2) m3 n.1
    · cases m
  | .mk c F dds es, sc, X, e', g, m, n => by
    unfold mX at m
    split at m
    · obtain ⟨m1, m2, m3⟩ := and3 m
      have m1 := Bool.and_eq_true_iff.mp m1
      have := of_decide_eq_true m1.1
      subst this
      exact sx_mk g m1.2 m2 (soXs es g m3 n.2) m3 n.1
    · cases m
  | .mk0 c, sc, X, e', g, m, n => by
    unfold mX at m
    split at m
    · obtain ⟨m1, m2, m3⟩ := and3 m
      have := of_decide_eq_true m1
      subst this
      exact sx_mk0 g m2 m3 n
    · cases m
  | .iso a cs bs, sc, X, e', g, m, n => by
    unfold mX at m
    split at m
    · obtain ⟨m1, m2, m3⟩ := and3 m
      obtain ⟨m4, m5, m6⟩ := and3 m1
      have m4 := Bool.and_eq_true_iff.mp m4
      have := of_decide_eq_true m4.1
      subst this
      exact sx_iso1 g m4.2 (of_decide_eq_true m5) m6 m2 (soX a g m3 n.2.2) (mX_nice m3) n.1 n.2.1
    · obtain ⟨m1, m2, m3⟩ := and3 m
      obtain ⟨m4, m5, m6⟩ := and3 m1
      have := of_decide_eq_true m4
      subst this
      exact sx_iso2 g m5 m6 (of_decide_eq_true m2) (soX a g m3 n.2.2) (mX_nice m3) n.1 n.2.1
    · cases m
  | .dnew, sc, X, e', g, m, n => by
    unfold mX at m
    split at m
    · exact sx_dnew
    · cases m
  | .din neg a d, sc, X, e', g, m, n => by
    unfold mX at m
    split at m
    · obtain ⟨m1, m2, m3⟩ := and3 m
      exact sx_din g (of_decide_eq_true m1) (soX a g m2 n.1) (soX d g m3 n.2) (mX_nice m3)
    · cases m
  | .dgt d a b, sc, X, e', g, m, n => by
    unfold mX at m
    split at m
    · obtain ⟨m1, m2, m3⟩ := and3 m
      obtain ⟨m4, m5, m6⟩ := and3 m1
      have m4 := Bool.and_eq_true_iff.mp m4
      have := of_decide_eq_true m4.1
      subst this
      exact sx_dgt g (soX d g m6 n.1) (soX a g m2 n.2.1) (soX b g m3 n.2.2) m4.2 m5 (mX_nice m2) (mX_nice m3)
    · cases m
  | .dix d a, sc, X, e', g, m, n => by
    unfold mX at m
    split at m
    · have m := Bool.and_eq_true_iff.mp m
      exact sx_dix g (soX d g m.1 n.1) (soX a g m.2 n.2) (mX_nice m.2)
    · cases m
  | .popl pl, sc, X, e', g, m, n => by
    unfold mX at m
    split at m
    · obtain ⟨m1, m2, m3⟩ := and3 m
      have m1 := Bool.and_eq_true_iff.mp m1
      have := of_decide_eq_true m1.1
      subst this
      exact sx_popl (sx_pl g m3 n) m1.2 m2
    · cases m
  | .popi pl a, sc, X, e', g, m, n => by
    unfold mX at m
    split at m
    · obtain ⟨m1, m2, m3⟩ := and3 m
      obtain ⟨m4, m5, m6⟩ := and3 m1
      have := of_decide_eq_true m4
      subst this
      exact sx_popi (sx_pl g m2 n.1) (soX a g m3 n.2) (mX_nice m3) m5 m6
    · cases m
  | .lcx _ _ _ _ _, sc, X, e', g, m, n => by unfold mX at m; cases m
theorem soXs : ∀ (es : Xs) {sc : Scope} {X : Cx} {es' : List Expr}, GoodW G sc X W → mXs G.N sc es es' = true → NdXs G es → PA X es' (tXs G.C W es)
  | .nil, sc, X, [], g, m, n => sa_nilX
  | .nil, sc, X, _ :: _, g, m, n => by unfold mXs at m; cases m
  | .cons e es, sc, X, [], g, m, n => by unfold mXs at m; cases m
  | .cons e es, sc, X, e' :: es', g, m, n => by
    unfold mXs at m
    have m := Bool.and_eq_true_iff.mp m
    exact sa_consX (soX e g m.1 n.1).1 (soXs es g m.2 n.2) (mX_nice m.1)
theorem soXk : ∀ (es : Xs) (k : Nat) {p : Pl} {sc : Scope} {X : Cx} {es' : List Expr}, GoodW G sc X W → mXk G.N sc p es k es' = true → NdP G p → NdXs G es → PA X es' (tXk G.C W p es k)
  | .nil, k, p, sc, X, es', g, m, np, n => by
    unfold mXk at m
    split at m
    · rename_i e'
      exact (pa_cons (sx_pl g m np) pa_nil (star_cons (mP_nice m))).imp fun σ H Q q => q
    · cases m
  | .cons e es, 0, p, sc, X, es', g, m, np, n => by
    unfold mXk at m
    split at m
    · rename_i e2 r _
      obtain ⟨m1, m2, m3⟩ := and3 m
      exact (pa_cons (sx_pl g m1 np) (sa_consX (soX e g m2 n.1).1 (soXs es g m3 n.2) (mX_nice m2)) (star_cons (mP_nice m1))).imp fun σ H Q q => q
    · rename_i h; cases h
    · cases m
  | .cons e es, k + 1, p, sc, X, es', g, m, np, n => by
    unfold mXk at m
    split at m
    · rename_i h; cases h
    · rename_i r h
      cases h
      have m := Bool.and_eq_true_iff.mp m
      exact (pa_cons (soX e g m.1 n.1).1 (soXk es k g m.2 np n.2) (star_cons (mX_nice m.1))).imp fun σ H Q q => q
    · cases m
end
theorem soXf : ∀ (o : Xo) {sc : Scope} {X : Cx} {ifs : List Expr}, GoodW G sc X W → mXf G.N sc o ifs = true → NdXo G o → PTs X ifs (tXto G.C W o)
  | .non, sc, X, [], g, m, n => pts_nil.imp fun σ H Q q => by
    obtain ⟨H0, B, AA, ρ, r, R, h, f⟩ := q
    unfold xto at h
    cases h
    exact f H AA R Mov.refl
  | .non, sc, X, _ :: _, g, m, n => by unfold mXf at m; cases m
  | .som e, sc, X, [], g, m, n => by unfold mXf at m; cases m
  | .som e, sc, X, _ :: _ :: _, g, m, n => by unfold mXf at m; cases m
  | .som e, sc, X, [e'], g, m, n => by
    unfold mXf at m
    exact (pts_one (soX e g m n).2.1).imp fun σ H Q q => by
      obtain ⟨H0, B, AA, ρ, k, R, h, q⟩ := q
      unfold xto at h
      exact ⟨H0, B, AA, ρ, k, R, h, q⟩
theorem soXI : ∀ (it : XI) {sc : Scope} {X : Cx} {tg e' : Expr}, GoodW G sc X W → mXI G.N sc it tg e' = true → NdXI G it → PI X tg e' (tXI G.C W it)
  | .pi it, sc, X, tg, e', g, m, n => by
    unfold mXI at m
    exact xi_pi (soI it g.toGood m n)
  | .seq e, sc, X, tg, e', g, m, n => by
    unfold mXI at m
    exact xi_seq g (soX e g m n)
  | .rng1 e, sc, X, tg, e', g, m, n => by
    unfold mXI at m
    simp only [] at m
    split at m
    · obtain ⟨m1, m2, m3⟩ := and3 m
      have := of_decide_eq_true m1
      subst this
      exact xi_rng1 g m2 n.1 (soX e g m3 n.2).1 (mX_nice m3)
    · cases m
  | .rng2 a b, sc, X, tg, e', g, m, n => by
    unfold mXI at m
    simp only [] at m
    split at m
    · obtain ⟨m1, m2, m3⟩ := and3 m
      have m1 := Bool.and_eq_true_iff.mp m1
      have := of_decide_eq_true m1.1
      subst this
      exact xi_rng2 g m1.2 n.1 (soX a g m2 n.2.1).1 (soX b g m3 n.2.2).1 (mX_nice m2) (mX_nice m3)
    · cases m
  | .enm e, sc, X, tg, e', g, m, n => by
    unfold mXI at m
    simp only [] at m
    split at m
    · obtain ⟨m1, m2, m3⟩ := and3 m
      have m1 := Bool.and_eq_true_iff.mp m1
      have := of_decide_eq_true m1.1
      subst this
      cases tg <;> first
        | (exact absurd m2 Bool.false_ne_true)
        | exact xi_enm g m1.2 n.1 (soX e g m3 n.2).1 (mX_nice m3)
    · cases m
  | .enm1 _ _, sc, X, tg, e', g, m, n => by unfold mXI at m; cases m
  | .zip a b, sc, X, tg, e', g, m, n => by
    unfold mXI at m
    simp only [] at m
    split at m
    · obtain ⟨m1, m2, m3⟩ := and3 m
      obtain ⟨m4, m5, m6⟩ := and3 m1
      have := of_decide_eq_true m4
      subst this
      cases tg <;> first
        | (exact absurd m6 Bool.false_ne_true)
        | exact xi_zip g m5 n.1 (soX a g m2 n.2.1).1 (soX b g m3 n.2.2).1 (mX_nice m2) (mX_nice m3)
    · cases m
  | .itm _, sc, X, tg, e', g, m, n => by unfold mXI at m; cases m
end
end Eng
/-! X T: statements that act: what they do, and which text they are. -/
namespace Eng
open PySem L2
mutual
inductive Sx where
  | set (i : Nat) (x : X) | setL (i : Nat) (e : E) | setT (is : List Nat) (x : X) | aug (i : Nat) (op : Operator) (x : X)
  | setF (p : Pl) (f : Str) (cs : List Str) (x : X) | augF (p : Pl) (f : Str) (cs : List Str) (op : Operator) (x : X)
  | setI (p : Pl) (k x : X) | app (p : Pl) (x : X) | ext (p : Pl) (x : X)
  | ret (x : X) | retN | exp (x : X) | rse (c : Str) (m : Str)
  | ite (c : X) (a b : Sxs) | for (tg : Tg) (it : XI) (b : Sxs) | whl (c : X) (b : Sxs)
  | tro (b : Sxs) (c : Str) (bs : List (Str × Bool)) (h : Sxs)
  | tra (b : Sxs) (c : Str) (bs : List (Str × Bool)) (i : Nat) (h : Sxs)
  | brk | cnt | pas | nev
inductive Sxs where
  | nil | cons (s : Sx) (ss : Sxs) | frz (i : Nat) (ss : Sxs)
end
inductive Oc where
  | nx (ρ : Rh) | rt (u : U) (ρ : Rh) | bk (ρ : Rh) | ct (ρ : Rh) | xc (c : Str) (fs : List (Str × D)) (ρ : Rh)
def Oc.bd (o : Option Oc) (k : Rh → Option Oc) : Option Oc := match o with
  | some (.nx ρ) => k ρ
  | some o => some o
  | none => none
/-- with the worth of an expression -/
def xb {α : Type} (r : Option (R α)) (k : α → Rh → Option Oc) : Option Oc := match r with
  | some (.ok a ρ) => k a ρ
  | some (.ex c fs ρ) => some (.xc c fs ρ)
  | none => none
def forX (asg : D → Rh → Option Rh) (body : Rh → Option Oc) : List D → Rh → Option Oc
  | [], ρ => some (.nx ρ)
  | d :: ds, ρ => match asg d ρ with
    | some ρ1 => (match body ρ1 with
      | some (.nx ρ2) => forX asg body ds ρ2
      | some (.ct ρ2) => forX asg body ds ρ2
      | some (.bk ρ2) => some (.nx ρ2)
      | o => o)
    | none => none
def whlX (test : Rh → Option (R Bool)) (body : Rh → Option Oc) : Nat → Rh → Option Oc
  | 0, _ => none
  | n + 1, ρ => xb (test ρ) fun b ρ1 => if b then (match body ρ1 with
      | some (.nx ρ2) => whlX test body n ρ2
      | some (.ct ρ2) => whlX test body n ρ2
      | some (.bk ρ2) => some (.nx ρ2)
      | o => o)
    else some (.nx ρ1)
def frzX (i : Nat) (ρ : Rh) : Rh := match ρ[i]? with
  | some (some u) => (match u.t with
    | some t => ρ.set i (some (.sh t.d))
    | none => ρ)
  | _ => ρ
def free (pn : List Nat) (is : List Nat) : Bool := is.all fun i => !pn.contains i
/-- the list at a place -/
def lstP (p : Pl) (ρ : Rh) : Option (Nat × List Stp × List U) := match plR p ρ with
  | some (i, q) => (match getP ρ i q with
    | some (.lst us) => some (i, q, us)
    | _ => none)
  | none => none
def insP (p : Pl) (ρ : Rh) : Option (Nat × List Stp × Str × List Str × List U) := match plR p ρ with
  | some (i, q) => (match getP ρ i q with
    | some (.ins c ns us) => some (i, q, c, ns, us)
    | _ => none)
  | none => none
def setN (f : Str) (u : U) (c : Str) (ns : List Str) (us : List U) : Option U := if ns.length < 999 then match findIx f ns with
  | some k => some (.ins c ns (us.set k u))
  | none => some (.ins c (ns ++ [f]) (us ++ [u]))
  else none
mutual
def sx (pn : List Nat) (n : Nat) : Sx → Rh → Option Oc
  | .set i x, ρ => xb (xv x ρ) fun u ρ1 => if u.2 && free pn [i] then some (.nx (ρ1.set i (some u.1))) else none
  | .setL i e, ρ => xb (rv (peV e ρ) ρ) fun u ρ1 => if u.2 && free pn [i] then some (.nx (ρ1.set i (some u.1))) else none
  | .setT is x, ρ => xb (xv x ρ) fun u ρ1 => if u.2 && free pn is then (u.1.d.bind fun d => asgX (.tp is) d ρ1).map .nx else none
  | .aug i op x, ρ => match ρ[i]? with
    | some (some (.sh d)) => xb (xv x ρ) fun u ρ1 => if free pn [i] then (opV (augD op) [(.sh d, true), u]).map fun w => .nx (ρ1.set i (some w.1)) else none
    | _ => none
  | .setF p f cs x, ρ => xb (xv x ρ) fun u ρ1 => if u.2 then match insP p ρ1 with
    | some (i, q, c, ns, us) => if cs.contains c then (setN f u.1 c ns us).map fun w => .nx (putR ρ1 i q w) else none
    | none => none
    else none
  | .setI p k x, ρ => none
  | .augF p f cs op x, ρ => none
  | .app p x, ρ => if (lstP p ρ).isSome && (p.isSlot || pur x) then xb (xv x ρ) fun u ρ1 => if u.2 then match lstP p ρ1 with
    | some (i, q, us) => if us.length < SZ then some (.nx (putR ρ1 i q (.lst (us ++ [u.1])))) else none
    | none => none
    else none
    else none
  | .ext p x, ρ => none
  | .ret x, ρ => xb (xv x ρ) fun u ρ1 => if u.2 then some (.rt u.1 ρ1) else none
  | .retN, ρ => some (.rt (.sh .non) ρ)
  | .exp x, ρ => xb (xv x ρ) fun _ ρ1 => some (.nx ρ1)
  | .rse c m, ρ => some (.xc c [] ρ)
  | .ite c a b, ρ => xb (xt c ρ) fun k ρ1 => if k then sxs pn n a ρ1 else sxs pn n b ρ1
  | .for tg it b, ρ => xb (xvi it ρ) fun ds ρ1 => if free pn tg.ix then forX (asgX tg) (sxs pn n b) ds ρ1 else none
  | .whl c b, ρ => whlX (xt c) (sxs pn n b) n ρ
  | .tro b c bs h, ρ => match sxs pn n b ρ with
    | some (.xc c' fs ρ1) => (match bs.lookup c' with
      | some true => (match sxs pn n h ρ1 with
        | some (.xc _ _ _) => none
        | o => o)
      | some false => some (.xc c' fs ρ1)
      | none => none)
    | o => o
  | .tra b c bs i h, ρ => none
  | .brk, ρ => some (.bk ρ)
  | .cnt, ρ => some (.ct ρ)
  | .pas, ρ => some (.nx ρ)
  | .nev, _ => none
def sxs (pn : List Nat) (n : Nat) : Sxs → Rh → Option Oc
  | .nil, ρ => some (.nx ρ)
  | .cons s ss, ρ => Oc.bd (sx pn n s ρ) (sxs pn n ss)
  | .frz i ss, ρ => sxs pn n ss (frzX i ρ)
end
/-! ### which text it is -/
mutual
def mSx (N : List Str) (sc : Scope) : Sx → Stmt → Bool
  | .set i e, s' => match s' with
    | .Assign [.Name x _] e' _ => decide (N[i]? = some x) && locB sc x && mX N sc e e' && (notComp e' || !isLoc sc x)
    | _ => false
  | .setL i e, s' => match s' with
    | .Assign [.Name x px] (.ListComp elt gs scope p) sp => decide (N[i]? = some x) && isLoc sc x && mE N sc e (.ListComp elt gs scope p) && (px.line == p.line) && !(scope.names.any fun (n, k) => n == x && (k == .local || k == .cell))
    | _ => false
  | .setT is e, s' => match s' with
    | .Assign [.Tuple es k p] e' _ => mTg N sc (.tp is) (.Tuple es k p) && mX N sc e e' && notTup e'
    | _ => false
  | .aug i op e, s' => match s' with
    | .AugAssign (.Name x _) op' e' _ => decide (op = op') && decide (N[i]? = some x) && locB sc x && mX N sc e e'
    | _ => false
  | .setF p f cs e, s' => match s' with
    | .Assign [.Attribute o f' _] e' _ => decide (f = f') && mP N sc p o && mX N sc e e' && notComp e'
    | _ => false
  | .setI p k e, s' => false
  | .augF p f cs op x, s' => false
  | .app p e, s' => match s' with
    | .Expr (.Call (.Attribute o m ap) [e'] [] cp) _ => decide (m = ("append" : Str)) && baseB o && mP N sc p o && (ap.endLine == cp.line) && mX N sc e e'
    | _ => false
  | .ext p x, s' => false
  | .ret e, s' => match s' with
    | .Return (some e') _ => mX N sc e e'
    | _ => false
  | .retN, s' => match s' with
    | .Return none _ => true
    | _ => false
  | .exp e, s' => match s' with
    | .Expr e' _ => mX N sc e e' && notComp e'
    | _ => false
  | .rse c m, s' => match s' with
    | .Raise (some (.Call (.Name x _) [.Constant (.str m') _ _] [] _)) none _ => decide (c = x) && decide (m = m') && glB sc x && nmB x
    | _ => false
  | .ite c a b, s' => match s' with
    | .If c' a' b' _ => mX N sc c c' && mSxs N sc a a' && mSxs N sc b b'
    | _ => false
  | .for tg it b, s' => match s' with
    | .For tg' it' b' [] _ => mTg N sc tg tg' && mXI N sc it tg' it' && mSxs N sc b b'
    | _ => false
  | .whl c b, s' => match s' with
    | .While c' b' [] _ => mX N sc c c' && mSxs N sc b b'
    | _ => false
  | .tro b c bs h, s' => false
  | .tra b c bs i h, s' => false
  | .brk, s' => match s' with
    | .Break _ => true
    | _ => false
  | .cnt, s' => match s' with
    | .Continue _ => true
    | _ => false
  | .pas, s' => match s' with
    | .Pass _ => true
    | _ => false
  | .nev, _ => true
def mSxs (N : List Str) (sc : Scope) : Sxs → List Stmt → Bool
  | .nil, ss' => match ss' with
    | [] => true
    | _ => false
  | .cons s ss, ss' => match ss' with
    | s' :: r => mSx N sc s s' && mSxs N sc ss r
    | _ => false
  | .frz _ ss, ss' => mSxs N sc ss ss'
end
/-- an own exception class made of a text -/
def RsOk (G : GC) (c : Str) : Prop := ∃ (A : Addr) (B newId initId : String) (bmB : List Value), G.C.mg c = some (.ref A) ∧ ExcBaseFacts B newId initId bmB ∧ PySem.W.excIn G.C.K A bmB newId = true ∧ PySem.W.keepIn G.C.K (.ref A) = true ∧
  PySem.W.subIn G.C.K (.ref A) (.type "BaseException") = some true ∧ PySem.W.typeIn G.C.K (.ref A) = some (.type "type")
mutual
def NdSx (G : GC) : Sx → Prop
  | .set _ e => NdX G e
  | .setL _ e => Nd G e
  | .setT _ e => NdX G e
  | .aug _ _ e => NdX G e
  | .setF p f cs e => NdP G p ∧ NdX G e ∧ ∀ c, c ∈ cs → FldOk G f c
  | .app p e => NdP G p ∧ NdX G e
  | .ret e => NdX G e
  | .exp e => NdX G e
  | .rse c _ => RsOk G c
  | .ite c a b => NdX G c ∧ NdSxs G a ∧ NdSxs G b
  | .for _ it b => NdXI G it ∧ NdSxs G b
  | .whl c b => NdX G c ∧ NdSxs G b
  | _ => True
def NdSxs (G : GC) : Sxs → Prop
  | .nil => True
  | .cons s ss => NdSx G s ∧ NdSxs G ss
  | .frz _ ss => NdSxs G ss
end
/-! ### what is wanted behind a statement -/
def PinOk (pn : List Nat) (σ σ' : L2.St) : Prop := ∀ j, j ∈ pn → σ'[j]? = σ[j]?
theorem PinOk.refl {pn : List Nat} {σ : L2.St} : PinOk pn σ σ := fun _ _ => rfl
theorem PinOk.trans {pn : List Nat} {σ σ1 σ2 : L2.St} (h : PinOk pn σ σ1) (k : PinOk pn σ1 σ2) : PinOk pn σ σ2 := fun j m => (k j m).trans (h j m)
theorem PinOk.set {pn : List Nat} {σ : L2.St} {i : Nat} {v : Option V} (h : free pn [i] = true) : PinOk pn σ (σ.set i v) := fun j m => by
  have : i ≠ j := fun z => by
    subst z
    simp [free, m] at h
  rw [List.getElem?_set_ne this]
def FinX (C : Cfg) (W : WX) (pn : List Nat) (H0 : Gh) (B : Addr → Prop) (AA : Nat → List Addr) (H : Hp) (σ : L2.St) (D : Ends) : Oc → Prop
  | .nx ρ => ∀ σ' H' AA', RepX C H0 B AA' H' σ' ρ → Mov AA H AA' [] H' → PinOk pn σ σ' → D.nx σ' H'
  | .bk ρ => ∀ σ' H' AA', RepX C H0 B AA' H' σ' ρ → Mov AA H AA' [] H' → PinOk pn σ σ' → D.bk σ' H'
  | .ct ρ => ∀ σ' H' AA', RepX C H0 B AA' H' σ' ρ → Mov AA H AA' [] H' → PinOk pn σ σ' → D.ct σ' H'
  | .rt u ρ => ∀ As v σ' H' AA', PXs C H0 B AA H σ' [(u, true)] As [v] H' AA' ρ → PinOk pn σ σ' → D.rt v H'
  | .xc c fs ρ => ∀ σ' H' AA' cls d, RepX C H0 B AA' H' σ' ρ → Mov AA H AA' [] H' → PinOk pn σ σ' → ExR C H' cls d c fs → W cls d σ' H'
def tSx (C : Cfg) (W : WX) (pn : List Nat) (s : Sx) : TS := fun D σ H => ∃ (H0 : Gh) (B : Addr → Prop) (AA : Nat → List Addr) (ρ : Rh) (n : Nat) (o : Oc), RepX C H0 B AA H σ ρ ∧ sx pn n s ρ = some o ∧ FinX C W pn H0 B AA H σ D o
def tSxs (C : Cfg) (W : WX) (pn : List Nat) (s : Sxs) : TS := fun D σ H => ∃ (H0 : Gh) (B : Addr → Prop) (AA : Nat → List Addr) (ρ : Rh) (n : Nat) (o : Oc), RepX C H0 B AA H σ ρ ∧ sxs pn n s ρ = some o ∧ FinX C W pn H0 B AA H σ D o
section
variable {C : Cfg} {W : WX} {pn : List Nat} {H0 : Gh} {H H1 H2 H' : Hp} {B : Addr → Prop} {AA AA1 AA2 AA' : Nat → List Addr} {σ σ1 : L2.St} {ρ ρ1 ρ2 : Rh} {As Bs : List Addr} {v w : V} {vs : List V} {u : U} {us : List Val} {D : Ends} {i : Nat} {o : Oc}
theorem FinX.back (f : FinX C W pn H0 B AA H σ D o) (m : Mov AA H AA1 Bs H1) (p : PinOk pn σ σ1) : FinX C W pn H0 B AA1 H1 σ1 D o := by
  cases o with
  | nx ρ => exact fun σ' H' AA' R k q => f σ' H' AA' R (m.trans k) (p.trans q)
  | bk ρ => exact fun σ' H' AA' R k q => f σ' H' AA' R (m.trans k) (p.trans q)
  | ct ρ => exact fun σ' H' AA' R k q => f σ' H' AA' R (m.trans k) (p.trans q)
  | rt u ρ => exact fun As v σ' H' AA' P q => f As v σ' H' AA' ⟨P.rep, P.nd, P.nB, P.own, m.trans P.mov⟩ (p.trans q)
  | xc c fs ρ => exact fun σ' H' AA' cls d R k q e => f σ' H' AA' cls d R (m.trans k) (p.trans q) e
/-- what is raised on the way -/
theorem FinX.exW {γ : Type} {z : R γ} (h : ∀ c fs ρ', z = .ex c fs ρ' → FinX C W pn H0 B AA H σ D (.xc c fs ρ')) : exW C W H0 B AA H σ z := fun c fs ρ' e H' AA' cls d R m x => h c fs ρ' e σ H' AA' cls d R m PinOk.refl x
theorem xb_inv {α : Type} {r : Option (R α)} {k : α → Rh → Option Oc} {o : Oc} (h : xb r k = some o) : (∃ a ρ, r = some (.ok a ρ) ∧ k a ρ = some o) ∨ ∃ c fs ρ, r = some (.ex c fs ρ) ∧ o = .xc c fs ρ := by
  unfold xb at h
  split at h
  · exact .inl ⟨_, _, rfl, h⟩
  · cases h; exact .inr ⟨_, _, _, rfl, rfl⟩
  · cases h
/-- an expression of a statement is read -/
theorem tX_st {x : Eng.X} {k : Val → Rh → Option Oc} {Q : VK} (R0 : RepX C H0 B AA H σ ρ) (h : xb (xv x ρ) k = some o) (f : FinX C W pn H0 B AA H σ D o)
    (q : ∀ u ρ1 As v H1 AA1, xv x ρ = some (.ok u ρ1) → k u ρ1 = some o → PXs C H0 B AA H σ [u] As [v] H1 AA1 ρ1 → (pur x = true → Same H H1 ∧ AA1 = AA) → Q v H1) : tX C W x σ H Q := by
  rcases xb_inv h with ⟨a, ρ1, h1, h2⟩ | ⟨c, fs, ρ1, h1, rfl⟩
  · exact ⟨H0, B, AA, ρ, _, R0, h1, fun As v H1 AA1 P p => q a ρ1 As v H1 AA1 h1 h2 P p⟩
  · exact ⟨H0, B, AA, ρ, _, R0, h1, fun H' AA' cls d R m x => f σ H' AA' cls d R m PinOk.refl x⟩
theorem tXt_st {x : Eng.X} {k : Bool → Rh → Option Oc} {Q : Bool → Hp → Prop} (R0 : RepX C H0 B AA H σ ρ) (h : xb (xt x ρ) k = some o) (f : FinX C W pn H0 B AA H σ D o)
    (q : ∀ b ρ1 H1 AA1, k b ρ1 = some o → RepX C H0 B AA1 H1 σ ρ1 → Mov AA H AA1 [] H1 → Q b H1) : tXt C W x σ H Q := by
  rcases xb_inv h with ⟨a, ρ1, h1, h2⟩ | ⟨c, fs, ρ1, h1, rfl⟩
  · exact ⟨H0, B, AA, ρ, _, R0, h1, fun H1 AA1 R m => q a ρ1 H1 AA1 h2 R m⟩
  · exact ⟨H0, B, AA, ρ, _, R0, h1, fun H' AA' cls d R m x => f σ H' AA' cls d R m PinOk.refl x⟩
/-- a worth is laid in a slot -/
theorem put_px (P : PXs C H0 B AA H σ [(u, true)] As [v] H1 AA1 ρ1) : RepX C H0 B (upA AA1 i As) H1 (σ.set i (some v)) (ρ1.set i (some u)) ∧ Mov AA H (upA AA1 i As) [] H1 := by
  have R := P.rep
  have hz : ∀ a, ZZ B (upA AA1 i As) a → Zp (ZZ B AA1) As a := fun a q => by
    rcases q with q | ⟨j, q⟩
    · exact .inl (.inl q)
    · by_cases hj : j = i
      · subst hj; rw [upA_same] at q; exact .inr q
      · rw [upA_ne hj] at q; exact .inl (.inr ⟨j, q⟩)
  have sm : Same (hid H1 (Zp (ZZ B AA1) As)) (hid H1 (ZZ B (upA AA1 i As))) := hid_mono (Same.refl _) fun a _ _ q => hz a q
  refine ⟨⟨R.same, fun a q => R.bs a (.inl q), fun j a m => ?_, fun j => ?_, fun j l a m n => ?_, fun j t ht => ?_, by rw [List.length_set, List.length_set]; exact R.len⟩, ⟨P.mov.fr, fun a q => ?_⟩⟩
  · by_cases hj : j = i
    · subst hj; rw [upA_same] at m
      exact ⟨(P.nB a m).1, R.bs a (.inr m), (P.nB a m).2⟩
    · rw [upA_ne hj] at m
      exact ⟨(R.new j a m).1, (R.new j a m).2.1, fun q => (R.new j a m).2.2 (.inl q)⟩
  · by_cases hj : j = i
    · subst hj; rw [upA_same]; exact P.nd
    · rw [upA_ne hj]; exact R.nd j
  · by_cases hj : j = i
    · by_cases hl : l = i
      · rw [hj, hl]
      · subst hj; rw [upA_same] at m; rw [upA_ne hl] at n; exact ((R.new l a n).2.2 (.inr m)).elim
    · rw [upA_ne hj] at m
      by_cases hl : l = i
      · subst hl; rw [upA_same] at n; exact ((R.new j a m).2.2 (.inr n)).elim
      · rw [upA_ne hl] at n; exact R.dj j l a m n
  · by_cases hj : i = j
    · subst hj
      have hi : i < ρ1.length := by
        have := (List.getElem?_eq_some_iff.mp ht).1
        rwa [List.length_set] at this
      rw [List.getElem?_set_self hi] at ht
      cases ht
      refine ⟨v, List.getElem?_set_self (by rw [← R.len]; exact hi), ?_⟩
      rw [upA_same]
      exact P.one.up sm fun _ _ => rfl
    · rw [List.getElem?_set_ne hj] at ht
      obtain ⟨w, k1, k2⟩ := R.slot j t ht
      refine ⟨w, by rw [List.getElem?_set_ne hj]; exact k1, ?_⟩
      rw [upA_ne fun z => hj z.symm]
      refine k2.up (hid_mono (Same.refl _) fun a _ _ q => ?_) fun _ _ => rfl
      have := hz a q
      rw [← ZZ_Zp] at this; exact this
  · rcases q with q | ⟨j, q⟩
    · cases q
    · by_cases hj : j = i
      · subst hj; rw [upA_same] at q; exact P.mov.sub a (.inl q)
      · rw [upA_ne hj] at q; exact P.mov.sub a (.inr ⟨j, q⟩)
theorem putS_px {d : Eng.D} (R : RepX C H0 B AA H σ ρ) (h : Dat C (hid H (ZZ B AA)) v d) : RepX C H0 B (upA AA i []) H (σ.set i (some v)) (ρ.set i (some (.sh d))) ∧ Mov AA H (upA AA i []) [] H := put_px (PXs.sh R h)
end
end Eng
/-! X U: statements that act keep their word. -/
namespace Eng
open PySem L2
structure GoodWS (G : GC) (sc : Scope) (X : Cx) (W : WX) : Prop extends GoodW G sc X W where
  scope : X.env.scope = sc
  pass : PassesOwn (model X.prog X.w) X.A X.env X.xe
def tGsX (C : Cfg) (is : List Nat) : TGs := fun vs σ H Q => ∃ (H0 : Gh) (B : Addr → Prop) (AA : Nat → List Addr) (ρ ρ' : Rh) (ds : List D), RepX C H0 B AA H σ ρ ∧ Dats C (hid H (ZZ B AA)) vs ds ∧ setAllX is ds ρ = some ρ' ∧
  ∀ AA' σ', RepX C H0 B AA' H σ' ρ' → Mov AA H AA' [] H → (∀ j, j ∉ is → σ'[j]? = σ[j]?) → Q σ' H
def tGX (C : Cfg) (tg : Tg) : TG := fun v σ H Q => ∃ (H0 : Gh) (B : Addr → Prop) (AA : Nat → List Addr) (ρ ρ' : Rh) (d : D), RepX C H0 B AA H σ ρ ∧ Dat C (hid H (ZZ B AA)) v d ∧ asgX tg d ρ = some ρ' ∧
  ∀ AA' σ', RepX C H0 B AA' H σ' ρ' → Mov AA H AA' [] H → (∀ j, j ∉ tg.ix → σ'[j]? = σ[j]?) → Q σ' H
theorem Mov.nilAA {AA : Nat → List Addr} {H : Hp} {i : Nat} : Mov AA H (upA AA i []) [] H := ⟨fun _ _ h _ => h, fun a q => by
  rcases q with q | ⟨j, q⟩
  · cases q
  · by_cases hj : j = i
    · subst hj; rw [upA_same] at q; cases q
    · rw [upA_ne hj] at q; exact .inl ⟨j, q⟩⟩
theorem set_other {σ : L2.St} {i : Nat} {v : Option V} : ∀ j, j ∉ [i] → (σ.set i v)[j]? = σ[j]? := fun j m => List.getElem?_set_ne fun z => m (by rw [z]; exact List.mem_singleton.mpr rfl)
section
variable {G : GC} {sc : Scope} {X : Cx} {W : WX} {pos : Pos}
theorem sgX_nms (g : Good G sc X) : ∀ {is : List Nat} {es : List Expr}, mNms G.N sc is es = true → PGs X es (tGsX G.C is) ∧ (assignEach es X.env).length = is.length ∧ (assignEach es X.env).findIdx? (·.1) = none
  | [], [], _ => by
    refine ⟨⟨fun pins s σ H vs us Q I r q => pgs_nil.run pins s σ H vs us Q I r ?_⟩, rfl, rfl⟩
    obtain ⟨H0, B, AA, ρ, ρ', ds, R, hd, h, q⟩ := q
    cases ds with
    | cons d ds => cases h
    | nil =>
      cases h
      cases hd
      exact ⟨rfl, q AA σ R Mov.refl fun _ _ => rfl⟩
  | i :: is, e :: es, h => by
    unfold mNms at h
    split at h
    · rename_i q1 q2; cases q1
    · rename_i i' is' x p es' q1 q2
      cases q1; cases q2
      have h := Bool.and_eq_true_iff.mp h
      have h' := Bool.and_eq_true_iff.mp h.1
      obtain ⟨k1, k2, k3⟩ := sgX_nms g h.2
      refine ⟨⟨fun pins s σ H vs us Q I r q => (pgs_cons (pg_nm g (of_decide_eq_true h'.1) h'.2) k1).run pins s σ H vs us Q I r ?_⟩, congrArg (· + 1) k2, ?_⟩
      · obtain ⟨H0, B, AA, ρ, ρ', ds, R, hd, h, q⟩ := q
        cases ds with
        | nil => cases h
        | cons d ds =>
          cases hd with
          | cons hd hds =>
            obtain ⟨R2, m2⟩ := putS_px (i := i) R hd
            refine ⟨_, _, rfl, H0, B, upA AA i [], _, ρ', ds, R2, hds.mono m2.hd0, h, fun AA' σ' R' z1 z2 => ?_⟩
            refine q AA' σ' R' (m2.trans z1) fun j hj => ?_
            rw [z2 j fun z => hj (List.mem_cons_of_mem _ z)]
            exact List.getElem?_set_ne fun z => hj (by rw [z]; exact List.mem_cons_self ..)
      · show ((false, assign (.Name x p) X.env) :: assignEach es X.env).findIdx? (·.1) = none
        rw [List.findIdx?_cons, k3]; rfl
    · cases h
  | [], _ :: _, h => by cases h
  | _ :: _, [], h => by cases h
theorem setAllX_len : ∀ {is : List Nat} {ds : List D} {ρ ρ' : Rh}, setAllX is ds ρ = some ρ' → ds.length = is.length := by
  intro is
  induction is with
  | nil => intro ds ρ ρ' h; cases ds with | nil => rfl | cons _ _ => cases h
  | cons i is ih => intro ds ρ ρ' h; cases ds with | nil => cases h | cons _ _ => exact congrArg (· + 1) (ih h)
theorem sgX (g : Good G sc X) {tg : Tg} {e : Expr} (h : mTg G.N sc tg e = true) : PG X e (tGX G.C tg) := by
  unfold mTg at h
  split at h
  · rename_i i x p
    have h := Bool.and_eq_true_iff.mp h
    refine ⟨fun pins s σ H v u Q I r q => (pg_nm g (of_decide_eq_true h.1) h.2).run pins s σ H v u Q I r ?_⟩
    obtain ⟨H0, B, AA, ρ, ρ', d, R, hd, h, q⟩ := q
    cases h
    obtain ⟨R2, m2⟩ := putS_px (i := i) R hd
    exact q _ _ R2 m2 set_other
  · rename_i is es k p
    obtain ⟨k1, k2, k3⟩ := sgX_nms g h
    refine ⟨fun pins s σ H v u Q I r q => ?_⟩
    obtain ⟨H0, B, AA, ρ, ρ', d, R, hd, h, q⟩ := q
    cases d with
    | tup ds =>
      refine (pg_tup g.calm k1 k2 k3).run pins s σ H v u Q I r ?_
      obtain ⟨a, xs, rfl, ha, hv⟩ := hd.vtup
      exact ⟨a, xs, rfl, SqT.of (hid_sub _ _ ha), by rw [hv.length]; exact setAllX_len h, H0, B, AA, ρ, ρ', ds, R, hv, h, q⟩
    | lst ds =>
      refine (pg_unl g.calm k1 k2 k3).run pins s σ H v u Q I r ?_
      obtain ⟨a, xs, rfl, ha, hv⟩ := hd.vlst
      exact ⟨a, xs, rfl, SqL.of (hid_sub _ _ ha), by rw [hv.length]; exact setAllX_len h, H0, B, AA, ρ, ρ', ds, R, hv, h, q⟩
    | _ => cases h
  · cases h
theorem PinOk.sets {pn : List Nat} {σ σ' : L2.St} {is : List Nat} (h : free pn is = true) (k : ∀ j, j ∉ is → σ'[j]? = σ[j]?) : PinOk pn σ σ' := fun j m => k j fun z => by
  have := List.all_eq_true.mp h j z
  simp [m] at this
end
section
variable {G : GC} {sc : Scope} {X : Cx} {W : WX} {pn : List Nat} {x c : Eng.X} {e' c' : Expr} {i : Nat} {y : Str} {pos p px : Pos} {st : Stmt} {a b ss : Sxs} {a' b' : List Stmt} {s : Sx} {o : Expr} {pl : Pl}
variable {H0 : Gh} {H H1 H2 H' : Hp} {B : Addr → Prop} {AA AA1 AA2 AA' : Nat → List Addr} {σ σ1 : L2.St} {ρ ρ1 ρ2 : Rh} {As Bs : List Addr} {v w : V} {vs : List V} {u : U} {us : List U} {q : List Stp}
theorem st_set (g : GoodWS G sc X W) (hN : G.N[i]? = some y) (hl : locB sc y = true) (he : PE X e' (tX G.C W x)) (hs : swapsWith e' (some (.Name y px)) pos.line X.env = pure false) : PS X (.Assign [.Name y px] e' pos) (tSx G.C W pn (.set i x)) :=
  (ps_set (by rw [g.N]; exact g.nd) (by rw [g.N]; exact hN) (g.loc y hl).1 he hs (g.loc y hl).2).imp fun D σ H q => by
    obtain ⟨H0, B, AA, ρ, n, o, R, h, f⟩ := q
    unfold sx at h
    refine tX_st R h f fun u ρ1 As v H1 AA1 _ h2 P _ => ?_
    obtain ⟨u, s⟩ := u
    split at h2
    · rename_i hc
      have hc := Bool.and_eq_true_iff.mp hc
      have : s = true := hc.1
      subst this
      cases h2
      obtain ⟨R2, m2⟩ := put_px (i := i) P
      exact f _ _ _ R2 m2 (PinOk.set hc.2)
    · cases h2
theorem pe_read {C : Cfg} {e : E} {val : Val} {Q : VK} (R : RepX C H0 B AA H σ ρ) (h1 : peV e ρ = some val) (f : ∀ As v H', PXs C H0 B AA H σ [val] As [v] H' AA ρ → Q v H') : tE C e σ H Q := by
  obtain ⟨t, h2, h3⟩ := bnd h1
  split at h3
  · rename_i s
    cases h3
    exact tE_of R.rep h2 s fun As v H' p => f As v H' (post_px R Mov.refl p)
  · split at h3
    · rename_i n
      cases h3
      exact tE_frz R.rep h2 fun As v H' p => f [] v H' (noL_px R Mov.refl p.same p.dat n)
    · cases h3
theorem st_setL {own : List (Str × Nat)} {tg : Tg} {it : I} {cc : Eo} {e : E} {elt tgt iter : Expr} {ifs : List Expr} {scope : Scope} (g : GoodWS G sc X W) (hN : G.N[i]? = some y) (hl : isLoc sc y = true) (ok : BlkOk X.N X.env.scope scope own) (hx : ∀ i, i ∈ tg.ix → i ∈ own.map (·.2)) (nI : nice iter = true)
    (hi : PI X tgt iter (tI G.C it)) (hg : ∀ X', Good G scope X' → PG X' tgt (tG G.C tg)) (ht : ∀ X', Good G scope X' → PTs X' ifs (tTo G.C cc)) (he : ∀ X', Good G scope X' → PE X' elt (tE G.C e))
    (hp : (px.line == p.line) = true) (ha : (scope.names.any fun (n, k) => n == y && (k == .local || k == .cell)) = false) :
    PS X (.Assign [.Name y px] (.ListComp elt [⟨tgt, iter, ifs, 0⟩] scope p) pos) (tSx G.C W pn (.setL i (.lc own tg it cc e))) := by
  have hloc : X.env.scope.names.lookup y = some .local := by
    rw [g.scope]
    unfold isLoc at hl
    split at hl
    · assumption
    · cases hl
  refine (ps_setLc g.calm (by rw [g.N]; exact g.nd) (by rw [g.N]; exact hN) hloc (sw_true g.kind hloc hp ha) hi ok (fun s H C cl fp => hg _ (g.blk ok.kind s H C cl fp)) (fun s H C cl fp => ht _ (g.blk ok.kind s H C cl fp)) (fun s H C cl fp => he _ (g.blk ok.kind s H C cl fp)) (set_plain nI)).imp fun D σ H q => ?_
  obtain ⟨H0, B, AA, ρ, n, o, R, h, f⟩ := q
  unfold sx at h
  rcases xb_inv h with ⟨val, ρ1, h1, h2⟩ | ⟨cc, fs, ρ1, h1, _⟩
  · obtain ⟨val', h3, h4⟩ := rv_inv h1
    cases h4
    refine lc_read hx (pe_read R h3 fun As v H1 P => ?_)
    obtain ⟨u, s⟩ := val
    split at h2
    · rename_i hc
      have hc := Bool.and_eq_true_iff.mp hc
      have : s = true := hc.1
      subst this
      cases h2
      obtain ⟨R2, m2⟩ := put_px (i := i) P
      exact f _ _ _ R2 m2 (PinOk.set hc.2)
    · cases h2
  · obtain ⟨_, _, h4⟩ := rv_inv h1
    cases h4
theorem st_setT {is : List Nat} {es : List Expr} {k : Nat} (g : GoodWS G sc X W) (ht : mTg G.N sc (.tp is) (.Tuple es k p) = true) (he : PE X e' (tX G.C W x)) (n : nice e' = true) (nt : notTup e' = true) : PS X (.Assign [.Tuple es k p] e' pos) (tSx G.C W pn (.setT is x)) := by
  have hs : swapsWithSole [.Tuple es k p] e' pos.line X.env = pure false := by
    show swapsWith e' (some (.Tuple es k p)) pos.line X.env = pure false
    cases e' <;> first | rfl | (exact absurd n Bool.false_ne_true)
  have hw : swappedStores [.Tuple es k p] e' X.env = pure none := by
    cases e' <;> first | rfl | (exact absurd nt Bool.false_ne_true)
  refine (ps_asg he (sgX g.toGood ht) hs hw rfl).imp fun D σ H q => ?_
  obtain ⟨H0, B, AA, ρ, n, o, R, h, f⟩ := q
  unfold sx at h
  refine tX_st R h f fun u ρ1 As v H1 AA1 _ h2 P _ => ?_
  obtain ⟨u, s⟩ := u
  split at h2
  · rename_i hc
    have hc := Bool.and_eq_true_iff.mp hc
    have : s = true := hc.1
    subst this
    obtain ⟨ρ', h3, rfl⟩ := map_inv h2
    obtain ⟨d, h4, h5⟩ := bnd h3
    have hd : Dat G.C (hid H1 (ZZ B AA1)) v d := by
      have := P.frees (ds := [d]) rfl (by show (U.d u).bind _ = _; rw [h4]; rfl)
      cases this with | cons h _ => exact h
    exact ⟨H0, B, AA1, ρ1, ρ', d, P.rep.drop, hd, h5, fun AA2 σ2 R2 m2 k2 => f _ _ _ R2 (P.mov.nil.trans m2) (PinOk.sets hc.2 k2)⟩
  · cases h2
theorem opV_true {g : List D → Option T} {us : List Val} {w : Val} (h : opV g us = some w) : w.2 = true := by
  obtain ⟨ds, h1, h⟩ := bnd h
  obtain ⟨t, h2, h⟩ := bnd h
  split at h
  · cases h; rfl
  · split at h
    · cases h; rfl
    · cases h
theorem st_aug {op : Operator} (g : GoodWS G sc X W) (hN : G.N[i]? = some y) (hl : locB sc y = true) (he : PE X e' (tX G.C W x)) : PS X (.AugAssign (.Name y px) op e' pos) (tSx G.C W pn (.aug i op x)) :=
  (ps_aug (by rw [g.N]; exact g.nd) (by rw [g.N]; exact hN) (g.loc y hl).1 he (aug_ok (X := X) (C := G.C) op) (g.loc y hl).2).imp fun D σ H q => by
    obtain ⟨H0, B, AA, ρ, n, o, R, h, f⟩ := q
    unfold sx at h
    split at h
    · rename_i d hd
      obtain ⟨v0, k1, k2⟩ := R.slot i _ hd
      have k3 : Dat G.C (hid H (ZZ B AA)) v0 d := by
        generalize AA i = A' at k2
        cases k2 with | sh h => exact h
      refine ⟨v0, k1, tX_st R h f fun u ρ1 As v H1 AA1 _ h2 P _ => ?_⟩
      split at h2
      · rename_i hc
        obtain ⟨w, h3, rfl⟩ := map_inv h2
        have P' : PXs G.C H0 (Zp B []) AA H σ [u] As [v] H1 AA1 ρ1 := by rw [Zp_nil]; exact P
        have PP := (PXs.sh R k3).cons P' (.inl rfl)
        refine op_px PP h3 fun As' v' H' P2 s2 => ?_
        obtain ⟨w, sw⟩ := w
        have : sw = true := opV_true h3
        subst this
        obtain ⟨R2, m2⟩ := put_px (i := i) P2
        exact f _ _ _ R2 m2 (PinOk.set hc)
      · cases h2
    · cases h
/-- the list at a place -/
theorem lst_at {C : Cfg} (R : RepX C H0 B AA H σ ρ) (h : lstP pl ρ = some (i, q, us)) : plR pl ρ = some (i, q) ∧ getP ρ i q = some (.lst us) ∧ ∃ aa ws, PlV C pl σ H (.ref aa) ∧ H aa = some (.lst ws) ∧ ws.length = us.length := by
  unfold lstP at h
  split at h
  · rename_i i' q' hp
    split at h
    · rename_i us' hg
      cases h
      refine ⟨hp, hg, ?_⟩
      obtain ⟨u, w, v, x, e1, e2, e3, e4, e5, Bs, e6, e7⟩ := plR_some R hp
      obtain ⟨u', g1, g2⟩ := getP_inv hg
      rw [e1] at g1; cases g1
      rw [e2] at g2; cases g2
      cases e6 with
      | lst ha hs => exact ⟨_, _, e5, ha, hs.length⟩
    · cases h
  · cases h
theorem ins_at {c : Str} {ns : List Str} (h : insP pl ρ = some (i, q, c, ns, us)) : plR pl ρ = some (i, q) ∧ getP ρ i q = some (.ins c ns us) := by
  unfold insP at h
  split at h
  · rename_i i' q' hp
    split at h
    · rename_i hg
      cases h
      exact ⟨hp, hg⟩
    · cases h
  · cases h
/-- an item is laid behind a list -/
theorem app_px (P : PXs G.C H0 B AA H σ [(u, true)] As [v] H1 AA1 ρ1) (hl : lstP pl ρ1 = some (i, q, us)) :
    ∃ aa ws, PlV G.C pl σ H1 (.ref aa) ∧ H1 aa = some (.lst ws) ∧ ws.length = us.length ∧ ∃ AA', RepX G.C H0 B AA' (upd H1 aa (.lst (ws ++ [v]))) σ (putR ρ1 i q (.lst (us ++ [u]))) ∧ Mov AA H AA' [] (upd H1 aa (.lst (ws ++ [v]))) := by
  obtain ⟨hp, hg, _⟩ := lst_at P.rep hl
  obtain ⟨ur, x, h1, h2, h3, h4⟩ := place_put P.rep hp hg
  obtain ⟨Bs, k1, k2, k3, k4, k5⟩ := node_put (AA := AA) (H := H) P.rep P.nB P.mov h1 h2 h4
  have po := P.one
  rw [← ZZ_Zp] at po
  generalize hF : hid H1 (ZZ (Zp B As) AA1) = F at k1 k5 po
  cases k1 with
  | @lst aa ws _ As1 ha hs =>
    refine ⟨aa, ws, h3, ha, hs.length, ?_⟩
    have nd := List.nodup_cons.mp k2
    have na : aa ∉ As := k4 aa (List.mem_cons_self ..)
    have hap := OwnUs.append (hs.up (H' := upd H1 aa (.lst (ws ++ [v]))) (Same.refl F) fun b m => upd_ne fun z => nd.1 (z ▸ m)) (OwnUs.cons (po.up (H' := upd H1 aa (.lst (ws ++ [v]))) (Same.refl F) fun b m => upd_ne fun z => na (z ▸ m)) .nil)
    rw [List.append_nil] at hap
    obtain ⟨AA', m1, m2, _⟩ := k5 (a := aa) (ob := .lst (ws ++ [v])) (u' := .lst (us ++ [u])) (Bs' := aa :: (As1 ++ As)) (Out := []) (List.mem_cons_self ..) (fun _ z => nomatch z) (by
        refine List.nodup_cons.mpr ⟨fun m => (List.mem_append.mp m).elim nd.1 na, List.nodup_append.mpr ⟨nd.2, P.nd, fun x hx y hy e => k4 x (List.mem_cons_of_mem _ hx) (e ▸ hy)⟩⟩) List.nodup_nil (fun b m => by
        rcases List.mem_cons.mp m with rfl | m
        · exact .inl (List.mem_cons_self ..)
        · exact (List.mem_append.mp m).imp (List.mem_cons_of_mem _) id) (fun _ m => by cases m) (.lst upd_same hap)
    rw [Zp_nil] at m1
    exact ⟨AA', m1, m2⟩
theorem ty_lstY {K : PySem.W.Frag} {a : Addr} {vs : List V} (h : H a = some (.lst vs)) : tyV K "list" (.ref a) H := .inl ⟨rfl, vs, SqL.of h⟩
theorem st_appX {ap cp : Pos} (g : GoodWS G sc X W) (hpl : PE X o (tPl G.C pl)) (hb : baseB o = true) (hline : (ap.endLine == cp.line) = true) (he : PE X e' (tX G.C W x)) (n : nice e' = true) :
    PS X (.Expr (.Call (.Attribute o "append" ap) [e'] [] cp) pos) (tSx G.C W pn (.app pl x)) := by
  have hp := pe_bm (cpos := cp) F.plainAttrs_list F.slot_list_append F.type_list_append (mt_append (X := X)) hpl (pa_cons he pa_nil (star_cons n)) (base_ok hb) (by rw [star_cons n]; rfl) hline (star_cons n) rfl
  refine (ps_expr hp rfl).imp fun D σ H q => ?_
  obtain ⟨H0, B, AA, ρ, nn, o, R, h, f⟩ := q
  unfold sx at h
  split at h
  · rename_i hc
    have hc := Bool.and_eq_true_iff.mp hc
    obtain ⟨⟨i0, q0, us0⟩, hz⟩ := Option.isSome_iff_exists.mp hc.1
    obtain ⟨p0, g0, aa0, ws0, k1, k2, k3⟩ := lst_at R hz
    refine ⟨_, k1, ty_lstY k2, tX_st R h f fun u ρ1 As v H1 AA1 _ h2 P pp => ?_⟩
    obtain ⟨u, s⟩ := u
    split at h2
    · rename_i hs
      have : s = true := hs
      subst this
      split at h2
      · rename_i i q us hl
        split at h2
        · rename_i hlt
          cases h2
          obtain ⟨aa, ws, e1, e2, e3, AA', R', m'⟩ := app_px P hl
          have : (V.ref aa0) = .ref aa := by
            rcases Bool.or_eq_true_iff.mp hc.2 with z | z
            · cases pl with
              | slot j =>
                have k1 : σ[j]? = some (some (.ref aa0)) := k1
                have e1 : σ[j]? = some (some (.ref aa)) := e1
                rw [k1] at e1; cases e1; rfl
              | _ => cases z
            · exact (k1.mono (pp z).1).det e1
          cases this
          exact ⟨_, ws, v, rfl, rfl, e2, by rw [e3, sz_eq]; exact hlt, f _ _ _ R' m' PinOk.refl⟩
        · cases h2
      · cases h2
    · cases h2
  · cases h
theorem owns_set {C : Cfg} {η : Nat → Option V} {F : Hp} : ∀ {vs : List V} {us : List U} {As : List Addr} {k : Nat} {v : V} {u : U} {Bs : List Addr}, OwnUs C η F H vs us As → OwnU C η F H v u Bs → k < us.length → ∃ Cs, OwnUs C η F H (vs.set k v) (us.set k u) Cs ∧ (∀ a, a ∈ Cs → a ∈ As ∨ a ∈ Bs) ∧ (As.Nodup → Bs.Nodup → (∀ a, a ∈ As → a ∉ Bs) → Cs.Nodup)
  | [], [], _, k, v, u, Bs, .nil, o, h => by cases h
  | w :: vs, x :: us, _, 0, v, u, Bs, .cons (As := A1) (Bs := B1) h hs, o, _ => ⟨Bs ++ B1, .cons o hs, fun a m => (List.mem_append.mp m).elim .inr fun m => .inl (List.mem_append_right _ m), fun n1 n2 d => List.nodup_append.mpr ⟨n2, (List.nodup_append.mp n1).2.1, fun x hx y hy e => d y (List.mem_append_right _ hy) (e ▸ hx)⟩⟩
  | w :: vs, x :: us, _, k + 1, v, u, Bs, .cons (As := A1) (Bs := B1) h hs, o, hk => by
    obtain ⟨Cs, h1, h2, h3⟩ := owns_set hs o (k := k) (by simpa using hk)
    refine ⟨A1 ++ Cs, .cons h h1, fun a m => ?_, fun n1 n2 d => ?_⟩
    · rcases List.mem_append.mp m with m | m
      · exact .inl (List.mem_append_left _ m)
      · exact (h2 a m).imp (List.mem_append_right _) id
    · have n1 := List.nodup_append.mp n1
      refine List.nodup_append.mpr ⟨n1.1, h3 n1.2.1 n2 fun a m => d a (List.mem_append_right _ m), fun x hx y hy e => ?_⟩
      subst e
      rcases h2 x hy with m | m
      · exact n1.2.2 x hx x m rfl
      · exact d x (List.mem_append_left _ hx) m
/-- a field is laid in an object -/
theorem fld_px {c fd : Str} {ns : List Str} {w : U} (P : PXs G.C H0 B AA H σ [(u, true)] As [v] H1 AA1 ρ1) (hl : insP pl ρ1 = some (i, q, c, ns, us)) (hw : setN fd u c ns us = some w) :
    ∃ aa A dx fs, PlV G.C pl σ H1 (.ref aa) ∧ H1 aa = some (.ins A dx fs) ∧ G.C.mg c = some (.ref A) ∧ fs.length < 1000 ∧ ∃ AA', RepX G.C H0 B AA' (upd H1 aa (.ins A dx (putF fd v fs))) σ (putR ρ1 i q w) ∧ Mov AA H AA' [] (upd H1 aa (.ins A dx (putF fd v fs))) := by
  obtain ⟨hp, hg⟩ := ins_at hl
  obtain ⟨ur, x, h1, h2, h3, h4⟩ := place_put P.rep hp hg
  obtain ⟨Bs, k1, k2, k3, k4, k5⟩ := node_put (AA := AA) (H := H) P.rep P.nB P.mov h1 h2 h4
  have po := P.one
  rw [← ZZ_Zp] at po
  generalize hF : hid H1 (ZZ (Zp B As) AA1) = F at k1 k5 po
  unfold setN at hw
  split at hw
  · rename_i h999
    cases k1 with
    | @ins aa A dx _ _ ws _ As1 ha hm hs hlen =>
      refine ⟨aa, A, dx, ns.zip ws, h3, ha, hm, by rw [List.length_zip]; omega, ?_⟩
      have nd := List.nodup_cons.mp k2
      have na : aa ∉ As := k4 aa (List.mem_cons_self ..)
      have hlw : ns.length = ws.length := by rw [hlen, hs.length]
      have dj : ∀ a, a ∈ As1 → a ∉ As := fun a m => k4 a (List.mem_cons_of_mem _ m)
      have fin : ∀ {ns' : List Str} {ws' : List V} {us' : List U} {Cs : List Addr}, putF fd v (ns.zip ws) = ns'.zip ws' → (∀ H', (∀ a, a ∈ As1 ∨ a ∈ As → H' a = H1 a) → OwnUs G.C H0.η F H' ws' us' Cs) → (∀ a, a ∈ Cs → a ∈ As1 ∨ a ∈ As) → Cs.Nodup → ns'.length = us'.length → w = .ins c ns' us' →
          ∃ AA', RepX G.C H0 B AA' (upd H1 aa (.ins A dx (putF fd v (ns.zip ws)))) σ (putR ρ1 i q w) ∧ Mov AA H AA' [] (upd H1 aa (.ins A dx (putF fd v (ns.zip ws)))) := by
        intro ns' ws' us' Cs e1 e2 e3 e4 e5 e6
        subst e6
        rw [e1]
        obtain ⟨AA', m1, m2, _⟩ := k5 (a := aa) (ob := .ins A dx (ns'.zip ws')) (u' := .ins c ns' us') (Bs' := aa :: Cs) (Out := []) (List.mem_cons_self ..) (fun _ z => nomatch z) (List.nodup_cons.mpr ⟨fun m => (e3 aa m).elim nd.1 na, e4⟩) List.nodup_nil (fun b m => by
          rcases List.mem_cons.mp m with rfl | m
          · exact .inl (List.mem_cons_self ..)
          · exact (e3 b m).imp (List.mem_cons_of_mem _) id) (fun _ m => by cases m) (.ins upd_same hm (e2 _ fun b m => upd_ne fun z => m.elim (fun m => nd.1 (z ▸ m)) fun m => na (z ▸ m)) e5)
        rw [Zp_nil] at m1
        exact ⟨AA', m1, m2⟩
      have hpz := putF_zip (f := fd) (y := v) hlw
      cases hfi : findIx fd ns with
      | some k =>
        rw [hfi] at hw hpz
        cases hw
        obtain ⟨Cs, f1, f2, f3⟩ := owns_set hs po (k := k) (by rw [← hlen]; exact findIx_lt hfi)
        exact fin hpz (fun H' hh => f1.up (Same.refl F) fun a m => hh a (f2 a m)) f2 (f3 nd.2 P.nd dj) (by rw [List.length_set]; exact hlen) rfl
      | none =>
        rw [hfi] at hw hpz
        cases hw
        have hap := OwnUs.append hs (OwnUs.cons po .nil)
        rw [List.append_nil] at hap
        exact fin hpz (fun H' hh => hap.up (Same.refl F) fun a m => hh a (List.mem_append.mp m)) (fun a m => List.mem_append.mp m) (List.nodup_append.mpr ⟨nd.2, P.nd, fun x hx y hy e => dj x hx (e ▸ hy)⟩) (by simp [hlen]) rfl
  · cases hw
theorem st_setF {fd : Str} {cs : List Str} {pos' : Pos} (g : GoodWS G sc X W) (hpl : PE X o (tPl G.C pl)) (he : PE X e' (tX G.C W x)) (n : nice e' = true) (nc : notComp e' = true) (hf : ∀ c, c ∈ cs → FldOk G fd c) : PS X (.Assign [.Attribute o fd pos'] e' pos) (tSx G.C W pn (.setF pl fd cs x)) :=
  (ps_fld hpl he (sw_plain n nc)).imp fun D σ H q => by
    obtain ⟨H0, B, AA, ρ, nn, o, R, h, f⟩ := q
    unfold sx at h
    refine tX_st R h f fun u ρ1 As v H1 AA1 _ h2 P pp => ?_
    obtain ⟨u, s⟩ := u
    split at h2
    · rename_i hs
      have : s = true := hs
      subst this
      split at h2
      · rename_i i q c ns us hl
        split at h2
        · rename_i hc
          obtain ⟨w, h3, rfl⟩ := map_inv h2
          obtain ⟨aa, A, dx, fs, e1, e2, e3, e4, AA', R', m'⟩ := fld_px P hl h3
          obtain ⟨c1, c2⟩ := hf c (by simpa using hc) A e3
          exact ⟨_, e1, aa, A, dx, fs, rfl, e2, by rw [g.K]; exact c1, by rw [g.K]; exact c2, e4, f _ _ _ R' m' PinOk.refl⟩
        · cases h2
      · cases h2
    · cases h2
theorem st_ret (he : PE X e' (tX G.C W x)) : PS X (.Return (some e') pos) (tSx G.C W pn (.ret x)) := (ps_ret he).imp fun D σ H q => by
  obtain ⟨H0, B, AA, ρ, n, o, R, h, f⟩ := q
  unfold sx at h
  refine tX_st R h f fun u ρ1 As v H1 AA1 _ h2 P _ => ?_
  obtain ⟨u, s⟩ := u
  split at h2
  · rename_i hs
    have : s = true := hs
    subst this
    cases h2
    exact f As v σ H1 AA1 P PinOk.refl
  · cases h2
theorem st_retN : PS X (.Return none pos) (tSx G.C W pn .retN) := ps_retN.imp fun D σ H q => by
  obtain ⟨H0, B, AA, ρ, n, o, R, h, f⟩ := q
  unfold sx at h
  cases h
  exact f [] .non σ H AA (PXs.sh R .non) PinOk.refl
theorem st_exp (he : PE X e' (tX G.C W x)) (n : nice e' = true) (nc : notComp e' = true) : PS X (.Expr e' pos) (tSx G.C W pn (.exp x)) := (ps_expr he (sw_plain n nc)).imp fun D σ H q => by
  obtain ⟨H0, B, AA, ρ, n, o, R, h, f⟩ := q
  unfold sx at h
  refine tX_st R h f fun u ρ1 As v H1 AA1 _ h2 P _ => ?_
  cases h2
  exact f σ H1 AA1 P.rep.drop P.mov.nil PinOk.refl
theorem st_rse {cl m : Str} {j : Nat} {p2 pos' : Pos} (g : GoodWS G sc X W) (hl : glB sc cl = true) (hn : nmB cl = true) (hr : RsOk G cl) : PS X (.Raise (some (.Call (.Name cl p) [.Constant (.str m) j p2] [] pos)) none pos') (tSx G.C W pn (.rse cl m)) := by
  obtain ⟨A, Bn, newId, initId, bmB, r1, r2, r3, r4, r5, r6⟩ := hr
  obtain ⟨n1, n2, n3⟩ := nmB_inv hn
  refine (ps_raise g.calm g.tk (pmk_own r2 (by rw [g.K]; exact r3) (by rw [g.mg]; exact r1) (by rw [g.K]; exact r4) (raises_own (by rw [g.K]; exact r5) (by rw [g.K]; exact r6)) (g.gl cl hl) n1)).imp fun D σ H q => ?_
  obtain ⟨H0, B, AA, ρ, n, o, R, h, f⟩ := q
  unfold sx at h
  cases h
  exact f σ H AA (.ref A) none R Mov.refl PinOk.refl ⟨A, r1, rfl, .inl ⟨rfl, rfl⟩⟩
theorem st_ite (hc : PT X c' (tXt G.C W c)) (ha : PSs X a' (tSxs G.C W pn a)) (hb : PSs X b' (tSxs G.C W pn b)) : PS X (.If c' a' b' pos) (tSx G.C W pn (.ite c a b)) := (ps_if hc ha hb).imp fun D σ H q => by
  obtain ⟨H0, B, AA, ρ, n, o, R, h, f⟩ := q
  unfold sx at h
  refine tXt_st R h f fun k ρ1 H1 AA1 h2 R1 m => ?_
  have f' := f.back m PinOk.refl
  cases k with
  | true => exact ⟨H0, B, AA1, ρ1, n, o, R1, h2, f'⟩
  | false => exact ⟨H0, B, AA1, ρ1, n, o, R1, h2, f'⟩
theorem st_whl (g : GoodWS G sc X W) (hc : PT X c' (tXt G.C W c)) (hb : PSs X b' (tSxs G.C W pn b)) : PS X (.While c' b' [] pos) (tSx G.C W pn (.whl c b)) := (ps_while g.pass hc hb).imp fun D σ H q => by
  obtain ⟨H0, B, AA, ρ, n, o, R, h, f⟩ := q
  unfold sx at h
  refine ⟨fun m σ' H1 => ∃ AA' ρ', RepX G.C H0 B AA' H1 σ' ρ' ∧ Mov AA H AA' [] H1 ∧ PinOk pn σ σ' ∧ whlX (xt c) (sxs pn n b) m ρ' = some o, ⟨n, AA, ρ, R, Mov.refl, PinOk.refl, h⟩, ?_⟩
  rintro m σ1 H1 ⟨AA1, ρ1, R1, m1, p1, h1⟩
  cases m with
  | zero => cases h1
  | succ m =>
    unfold whlX at h1
    have f1 := f.back m1 p1
    refine tXt_st R1 h1 f1 fun kk ρ2 H2 AA2 h2 R2 m2 => ?_
    have f2 := f1.back m2 PinOk.refl
    cases kk with
    | false =>
      have h2 : some (Oc.nx ρ2) = some o := h2
      cases h2
      exact f2 _ _ _ R2 Mov.refl PinOk.refl
    | true =>
      refine ⟨fun σ' H' => ∃ AA' ρ', RepX G.C H0 B AA' H' σ' ρ' ∧ Mov AA H AA' [] H' ∧ PinOk pn σ σ' ∧ whlX (xt c) (sxs pn n b) m ρ' = some o, fun σ' H' w => ⟨m, by omega, w⟩, ?_⟩
      rw [if_pos rfl] at h2
      split at h2
      · rename_i ρ3 h3
        exact ⟨H0, B, AA2, ρ2, n, _, R2, h3, fun σ' H' AA' R' m' p' => ⟨AA', ρ3, R', (m1.trans m2).trans m', p1.trans p', h2⟩⟩
      · rename_i ρ3 h3
        exact ⟨H0, B, AA2, ρ2, n, _, R2, h3, fun σ' H' AA' R' m' p' => ⟨AA', ρ3, R', (m1.trans m2).trans m', p1.trans p', h2⟩⟩
      · rename_i ρ3 h3
        cases h2
        exact ⟨H0, B, AA2, ρ2, n, _, R2, h3, fun σ' H' AA' R' m' p' => f2 _ _ _ R' m' p'⟩
      · rename_i n1 n2 n3
        refine ⟨H0, B, AA2, ρ2, n, o, R2, h2, ?_⟩
        cases o with
        | nx ρ3 => exact (n1 _ h2).elim
        | ct ρ3 => exact (n2 _ h2).elim
        | bk ρ3 => exact (n3 _ h2).elim
        | rt u ρ3 => exact f2
        | xc c fs ρ3 => exact f2
theorem st_for {tg : Tg} {it : XI} {tg' it' : Expr} (g : GoodWS G sc X W) (hg : PG X tg' (tGX G.C tg)) (hi : PI X tg' it' (tXI G.C W it)) (n : nice it' = true) (hb : PSs X b' (tSxs G.C W pn b)) : PS X (.For tg' it' b' [] pos) (tSx G.C W pn (.for tg it b)) :=
  (ps_for g.pass g.calm hi hg hb (set_plain n)).imp fun D σ H q => by
    obtain ⟨H0, B, AA, ρ, n, o, R, h, f⟩ := q
    unfold sx at h
    rcases xb_inv h with ⟨ds, ρ0, h1, h2⟩ | ⟨cc, fs, ρ1, h1, rfl⟩
    · split at h2
      · rename_i hfr
        refine ⟨H0, B, AA, ρ, _, R, h1, fun J H1 AA1 R1 m1 wd => ?_⟩
        obtain ⟨W', Y, walk, hW, hY⟩ := wd
        refine for_it walk (fun i σ' H' => ∃ AA' ρ', RepX G.C H0 B AA' H' σ' ρ' ∧ Mov AA1 H1 AA' [] H' ∧ PinOk pn σ σ' ∧ forX (asgX tg) (sxs pn n b) (ds.drop i) ρ' = some o) ⟨AA1, ρ0, R1, Mov.refl, PinOk.refl, h2⟩ ?_ ?_ ?_
        · rintro i σ' H' _ ⟨AA', ρ', R', m', _, _⟩
          exact hW H' (m'.hd0.trans hid_sub)
        · rintro i x σ2 H2 H3 hlt ⟨AA2, ρ2, R2, m2, p2, h3⟩ y
          have hlt' : i < ds.length := hlt
          rw [List.drop_eq_getElem_cons hlt'] at h3
          have hd : ds[i]? = some ds[i] := List.getElem?_eq_getElem hlt'
          unfold forX at h3
          split at h3
          · rename_i ρ3 h4
            obtain ⟨s3, hdat⟩ := hY i _ H2 x H3 hd (m2.hd0.trans hid_sub) y
            refine ⟨H0, B, AA2, ρ2, ρ3, _, R2.mono s3, hdat (ZZ B AA2) R2.z m2.hd0, h4, fun AA3 σ3 R3 m3 k3 => ?_⟩
            have m13 := (m2.trans (Mov.same0 s3)).trans m3
            have p3 : PinOk pn σ σ3 := p2.trans (PinOk.sets hfr k3)
            have f3 := f.back (m1.trans m13) p3
            split at h3
            · rename_i ρ4 h5
              exact ⟨H0, B, AA3, ρ3, n, _, R3, h5, fun σ' H' AA' R' m' p' => ⟨AA', ρ4, R', m13.trans m', p3.trans p', h3⟩⟩
            · rename_i ρ4 h5
              exact ⟨H0, B, AA3, ρ3, n, _, R3, h5, fun σ' H' AA' R' m' p' => ⟨AA', ρ4, R', m13.trans m', p3.trans p', h3⟩⟩
            · rename_i ρ4 h5
              cases h3
              exact ⟨H0, B, AA3, ρ3, n, _, R3, h5, fun σ' H' AA' R' m' p' => f3 _ _ _ R' m' p'⟩
            · rename_i n1 n2 n3
              refine ⟨H0, B, AA3, ρ3, n, o, R3, h3, ?_⟩
              cases o with
              | nx ρ3 => exact (n1 _ h3).elim
              | ct ρ3 => exact (n2 _ h3).elim
              | bk ρ3 => exact (n3 _ h3).elim
              | rt u ρ3 => exact f3
              | xc c fs ρ3 => exact f3
          · cases h3
        · rintro σ' H' ⟨AA', ρ', R', m', p', h3⟩
          rw [List.drop_length] at h3
          have h3 : some (Oc.nx ρ') = some o := h3
          cases h3
          exact f _ _ _ R' (m1.trans m') p'
      · cases h2
    · exact ⟨H0, B, AA, ρ, _, R, h1, fun H' AA' cls d R m x => f σ H' AA' cls d R m PinOk.refl x⟩
theorem st_brk : PS X (.Break pos) (tSx G.C W pn .brk) := ps_break.imp fun D σ H q => by
  obtain ⟨H0, B, AA, ρ, n, o, R, h, f⟩ := q
  unfold sx at h
  cases h
  exact f _ _ _ R Mov.refl PinOk.refl
theorem st_cnt : PS X (.Continue pos) (tSx G.C W pn .cnt) := ps_continue.imp fun D σ H q => by
  obtain ⟨H0, B, AA, ρ, n, o, R, h, f⟩ := q
  unfold sx at h
  cases h
  exact f _ _ _ R Mov.refl PinOk.refl
theorem st_pas : PS X (.Pass pos) (tSx G.C W pn .pas) := ps_pass.imp fun D σ H q => by
  obtain ⟨H0, B, AA, ρ, n, o, R, h, f⟩ := q
  unfold sx at h
  cases h
  exact f _ _ _ R Mov.refl PinOk.refl
theorem st_no (h : ∀ n ρ, sx pn n s ρ = none) : PS X st (tSx G.C W pn s) := ⟨fun pins s σ H D I q => by
  obtain ⟨H0, B, AA, ρ, n, o, R, h', f⟩ := q
  rw [h] at h'; cases h'⟩
theorem sts_nil : PSs X [] (tSxs G.C W pn .nil) := pss_nil.imp fun D σ H q => by
  obtain ⟨H0, B, AA, ρ, n, o, R, h, f⟩ := q
  unfold sxs at h
  cases h
  exact f _ _ _ R Mov.refl PinOk.refl
theorem sts_cons (h1 : PS X st (tSx G.C W pn s)) (h2 : PSs X a' (tSxs G.C W pn ss)) : PSs X (st :: a') (tSxs G.C W pn (.cons s ss)) := (pss_cons h1 h2).imp fun D σ H q => by
  obtain ⟨H0, B, AA, ρ, n, o, R, h, f⟩ := q
  unfold sxs at h
  unfold Oc.bd at h
  split at h
  · rename_i ρ1 h1
    exact ⟨H0, B, AA, ρ, n, _, R, h1, fun σ' H' AA' R' m' p' => ⟨H0, B, AA', ρ1, n, o, R', h, f.back m' p'⟩⟩
  · rename_i o1 hno h1
    cases h
    refine ⟨H0, B, AA, ρ, n, o, R, h1, ?_⟩
    cases o with
    | nx ρ1 => exact (hno _ rfl).elim
    | bk ρ1 => exact f
    | ct ρ1 => exact f
    | rt u ρ1 => exact f
    | xc c fs ρ1 => exact f
  · cases h
theorem frz_px {C : Cfg} (R : RepX C H0 B AA H σ ρ) : ∃ AA', RepX C H0 B AA' H σ (frzX i ρ) ∧ Mov AA H AA' [] H := by
  unfold frzX
  split
  · rename_i u hu
    split
    · rename_i t ht
      obtain ⟨v, k1, P⟩ := take_px R hu
      have hd : Dat C (hid H (ZZ B (upA AA i []))) v t.d := by
        have := P.frees (ds := [t.d]) rfl (by show (U.d u).bind _ = _; unfold U.d; rw [ht]; rfl)
        cases this with | cons h _ => exact h
      obtain ⟨R2, m2⟩ := putS_px (i := i) P.rep.drop hd
      have e1 : σ.set i (some v) = σ := by
        obtain ⟨hi, he⟩ := List.getElem?_eq_some_iff.mp k1
        rw [← he]; exact List.set_getElem_self hi
      rw [List.set_set] at R2
      rw [e1] at R2
      exact ⟨_, R2, P.mov.nil.trans m2⟩
    · exact ⟨AA, R, Mov.refl⟩
  · exact ⟨AA, R, Mov.refl⟩
theorem sts_frz (h2 : PSs X a' (tSxs G.C W pn ss)) : PSs X a' (tSxs G.C W pn (.frz i ss)) := h2.imp fun D σ H q => by
  obtain ⟨H0, B, AA, ρ, n, o, R, h, f⟩ := q
  unfold sxs at h
  obtain ⟨AA', R', m'⟩ := frz_px (i := i) R
  exact ⟨H0, B, AA', _, n, o, R', h, f.back m' PinOk.refl⟩
end
end Eng
/-! X V: the whole of the statements that act; what a def promises. -/
namespace Eng
open PySem L2
section
variable {G : GC} {W : WX} {pn : List Nat}
mutual
theorem soSx : ∀ (s : Sx) {sc : Scope} {X : Cx} {s' : Stmt}, GoodWS G sc X W → mSx G.N sc s s' = true → NdSx G s → PS X s' (tSx G.C W pn s)
  | .set i e, sc, X, s', g, m, n => by
    unfold mSx at m
    split at m
    · rename_i x px e' pos
      obtain ⟨m1, m2, m3⟩ := and3 m
      have m1 := Bool.and_eq_true_iff.mp m1
      refine st_set g (of_decide_eq_true m1.1) m1.2 (soX e g.toGoodW m2 n).1 ?_
      rcases Bool.or_eq_true_iff.mp m3 with z | z
      · exact sw_plain (mX_nice m2) z
      · refine sw_cell (mX_nice m2) fun q => ?_
        rw [g.scope] at q
        unfold isLoc at z
        rw [q] at z
        cases z
    · cases m
  | .setL i e, sc, X, s', g, m, n => by
    unfold mSx at m
    split at m
    · rename_i x px elt gs scope p sp
      obtain ⟨m1, m2, m3⟩ := and3 m
      obtain ⟨m4, m5, m6⟩ := and3 m1
      cases e with
      | lc own tg it c e =>
        unfold mE at m6
        split at m6
        · rename_i elt' tgt iter ifs isa scope' p' q
          cases q
          obtain ⟨k1, k2, k3⟩ := and3 m6
          obtain ⟨k4, k5, k6⟩ := and3 k1
          obtain ⟨k7, k8, k9⟩ := and3 k4
          have := of_decide_eq_true k7
          subst this
          exact st_setL g (of_decide_eq_true m4) m5 (g.blkOk (blkOk_by k8)) (fun i h => by simpa using (List.all_eq_true.mp k5) i h) (mI_nice k6) (soI it g.toGood k6 n.1) (fun X' g' => sg g' k9) (fun X' g' => soIf c g' k2 n.2.1) (fun X' g' => (soE e g' k3 n.2.2).1) m2 (by simpa using m3)
        · cases m6
      | _ =>
        unfold mE at m6
        first
          | (exact absurd m6 Bool.false_ne_true)
          | (split at m6 <;> first | (rename_i q; cases q; done) | cases m6)
    · cases m
  | .setT is e, sc, X, s', g, m, n => by
    unfold mSx at m
    split at m
    · obtain ⟨m1, m2, m3⟩ := and3 m
      exact st_setT g m1 (soX e g.toGoodW m2 n).1 (mX_nice m2) m3
    · cases m
  | .aug i op e, sc, X, s', g, m, n => by
    unfold mSx at m
    split at m
    · obtain ⟨m1, m2, m3⟩ := and3 m
      have m1 := Bool.and_eq_true_iff.mp m1
      have := of_decide_eq_true m1.1
      subst this
      exact st_aug g (of_decide_eq_true m1.2) m2 (soX e g.toGoodW m3 n).1
    · cases m
  | .setF p f cs e, sc, X, s', g, m, n => by
    unfold mSx at m
    split at m
    · obtain ⟨m1, m2, m3⟩ := and3 m
      have m1 := Bool.and_eq_true_iff.mp m1
      have := of_decide_eq_true m1.1
      subst this
      exact st_setF g (sx_pl g.toGoodW m1.2 n.1) (soX e g.toGoodW m2 n.2.1).1 (mX_nice m2) m3 n.2.2
    · cases m
  | .setI p k e, sc, X, s', g, m, n => by unfold mSx at m; cases m
  | .augF p f cs op e, sc, X, s', g, m, n => by unfold mSx at m; cases m
  | .app p e, sc, X, s', g, m, n => by
    unfold mSx at m
    split at m
    · obtain ⟨m1, m2, m3⟩ := and3 m
      obtain ⟨m4, m5⟩ := Bool.and_eq_true_iff.mp m1
      obtain ⟨m6, m7⟩ := Bool.and_eq_true_iff.mp m4
      have := of_decide_eq_true m6
      subst this
      exact st_appX g (sx_pl g.toGoodW m5 n.1) m7 m2 (soX e g.toGoodW m3 n.2).1 (mX_nice m3)
    · cases m
  | .ext p e, sc, X, s', g, m, n => by unfold mSx at m; cases m
  | .ret e, sc, X, s', g, m, n => by
    unfold mSx at m
    split at m
    · exact st_ret (soX e g.toGoodW m n).1
    · cases m
  | .retN, sc, X, s', g, m, n => by
    unfold mSx at m
    split at m
    · exact st_retN
    · cases m
  | .exp e, sc, X, s', g, m, n => by
    unfold mSx at m
    split at m
    · have m := Bool.and_eq_true_iff.mp m
      exact st_exp (soX e g.toGoodW m.1 n).1 (mX_nice m.1) m.2
    · cases m
  | .rse c t, sc, X, s', g, m, n => by
    unfold mSx at m
    split at m
    · obtain ⟨m1, m2, m3⟩ := and3 m
      have m1 := Bool.and_eq_true_iff.mp m1
      have e1 := of_decide_eq_true m1.1
      subst e1
      exact st_rse g m2 m3 n
    · cases m
  | .ite c a b, sc, X, s', g, m, n => by
    unfold mSx at m
    split at m
    · obtain ⟨m1, m2, m3⟩ := and3 m
      exact st_ite (soX c g.toGoodW m1 n.1).2.1 (soSxs a g m2 n.2.1) (soSxs b g m3 n.2.2)
    · cases m
  | .for tg it b, sc, X, s', g, m, n => by
    unfold mSx at m
    split at m
    · obtain ⟨m1, m2, m3⟩ := and3 m
      exact st_for g (sgX g.toGood m1) (soXI it g.toGoodW m2 n.1) (mXI_nice m2) (soSxs b g m3 n.2)
    · cases m
  | .whl c b, sc, X, s', g, m, n => by
    unfold mSx at m
    split at m
    · have m := Bool.and_eq_true_iff.mp m
      exact st_whl g (soX c g.toGoodW m.1 n.1).2.1 (soSxs b g m.2 n.2)
    · cases m
  | .tro b c bs h, sc, X, s', g, m, n => by unfold mSx at m; cases m
  | .tra b c bs i h, sc, X, s', g, m, n => by unfold mSx at m; cases m
  | .brk, sc, X, s', g, m, n => by
    unfold mSx at m
    split at m
    · exact st_brk
    · cases m
  | .cnt, sc, X, s', g, m, n => by
    unfold mSx at m
    split at m
    · exact st_cnt
    · cases m
  | .pas, sc, X, s', g, m, n => by
    unfold mSx at m
    split at m
    · exact st_pas
    · cases m
  | .nev, sc, X, s', g, m, n => st_no fun n ρ => by unfold sx; rfl
theorem soSxs : ∀ (s : Sxs) {sc : Scope} {X : Cx} {s' : List Stmt}, GoodWS G sc X W → mSxs G.N sc s s' = true → NdSxs G s → PSs X s' (tSxs G.C W pn s)
  | .nil, sc, X, [], g, m, n => sts_nil
  | .nil, sc, X, _ :: _, g, m, n => by unfold mSxs at m; cases m
  | .cons s ss, sc, X, [], g, m, n => by unfold mSxs at m; cases m
  | .cons s ss, sc, X, s' :: r, g, m, n => by
    unfold mSxs at m
    have m := Bool.and_eq_true_iff.mp m
    exact sts_cons (soSx s g m.1 n.1) (soSxs ss g m.2 n.2)
  | .frz i ss, sc, X, s', g, m, n => by
    unfold mSxs at m
    exact sts_frz (soSxs ss g m n)
end
end
/-! ### what a def promises -/
/-- the slots at the beginning: the k-th argument is a tree, the others are data -/
def begX (N : List Str) (k : Nat) (u : T) (ds : List D) : Rh := (insK k (some u.u) (ds.map fun d => some (.sh d))) ++ List.replicate (N.length - (ds.length + 1)) none
def begR (N : List Str) (ds : List D) : Rh := ds.map (fun d => some (.sh d)) ++ List.replicate (N.length - ds.length) none
/-- a def that hands back, or raises -/
def runR (n : Nat) (N : List Str) (body : Sxs) (ds : List D) : Option FR := match sxs [] n body (begR N ds) with
  | some (.rt u _) => u.t.map .ok
  | some (.nx _) => some (.ok (.sh .non))
  | some (.xc c fs _) => some (.ex c fs)
  | _ => none
/-- the tree of the k-th slot at the end -/
def endT (k : Nat) (ρ : Rh) : Option T := match ρ[k]? with
  | some (some u) => u.t
  | _ => none
def runI (n : Nat) (N : List Str) (k : Nat) (body : Sxs) (u : T) (ds : List D) : Option (FR × T) := match sxs [k] n body (begX N k u ds) with
  | some (.rt w ρ) => w.t.bind fun t => (endT k ρ).map fun z => (.ok t, z)
  | some (.nx ρ) => (endT k ρ).map fun z => (.ok (.sh .non), z)
  | some (.xc c fs ρ) => (endT k ρ).map fun z => (.ex c fs, z)
  | _ => none
theorem rep_begR {C : Cfg} {H : Hp} {B : Addr → Prop} {vs : List V} {ds : List D} {N : List Str} (b : ∀ a, B a → nTup H a) (h : Dats C (hid H B) vs ds) :
    RepX C ⟨H, fun _ => none⟩ B no H (L2.start N vs) (begR N ds) := by
  unfold begR
  refine ⟨Same.refl H, b, (fun _ _ m => by cases m), (fun _ => List.nodup_nil), (fun _ _ _ m => by cases m), fun i t hi => ?_, by unfold L2.start; simp [h.length]⟩
  by_cases hl : i < ds.length
  · rw [List.getElem?_append_left (by rw [List.length_map]; exact hl), List.getElem?_map] at hi
    have hd : ds[i]? = some ds[i] := List.getElem?_eq_getElem hl
    rw [hd] at hi
    cases hi
    obtain ⟨v, h1, h2⟩ := h.getD hd
    exact ⟨v, start_get h1, by rw [ZZ_no]; exact .sh h2⟩
  · rw [List.getElem?_append_right (by rw [List.length_map]; omega)] at hi
    rw [List.getElem?_replicate] at hi
    split at hi <;> cases hi
section
variable {P : Program} {w : World} {C : Cfg} {base : Heap} {qual x : Str} {scope : Scope} {bd : List Stmt} {f : Addr} {fd : FuncData} {N ps : List Str} {k : Nat} {body : Sxs}
theorem good_cx (S : FnScope N ps scope) {cdv : Value} {A : Around} {outer : List Env} {s : Shared} {H : Hp} {E : XK} (hr : Room k (A.deeper (PyProof.Rows.envOfC qual scope s.heap.objs.size f cdv))) :
    GoodWS ⟨P, w, C, base, N, k⟩ scope (cxOf (L2.CX P w) P w C.K C.mg base N qual scope f cdv A outer s H E) (fun cls d _ H => E cls d H) :=
  { prog := rfl, w := rfl, K := rfl, mg := rfl, base := rfl, N := rfl, nd := S.nd, calm := rfl, room := hr, kind := S.kind
    vis := fun x h => by
      unfold visB at h
      split at h
      · rename_i q; exact .inl q
      · rename_i q; exact .inr (.inl q)
      · rename_i q; exact .inr (.inr q)
      · cases h
    gl := fun x h => by
      unfold glB at h
      split at h
      · rename_i q; exact q
      · cases h
    loc := fun x h => by
      unfold locB at h
      split at h
      · rename_i q; exact ⟨.inl q, .inl rfl⟩
      · rename_i q; exact ⟨.inr q, .inl rfl⟩
      · cases h
    fr := fun x h => h
    tk := takes_of rfl rfl rfl rfl
    scope := rfl
    pass := passes_of rfl }
theorem post_of {H0 : Gh} {B : Addr → Prop} {AA AA' : Nat → List Addr} {H H' : Hp} {σ : L2.St} {u : U} {t : T} {As : List Addr} {v : V} {ρ : Rh} (P : PXs C H0 B AA H σ [(u, true)] As [v] H' AA' ρ) (ht : u.t = some t) : Post C B H0.h t true As v H' := by
  have o := P.one.t ht
  refine ⟨P.rep.same, P.nd, fun a m => ⟨(P.nB a m).1, P.rep.bs a (.inr m)⟩, o.dat hid_sub fun _ _ _ z => z, fun _ => o.mono (hid_mono (Same.refl _) fun a _ _ z => ?_) fun _ _ => rfl⟩
  rcases z with z | z
  · exact .inl (.inl z)
  · exact .inr z
/-- THE RULE for a def that may raise -/
theorem fn_okR {st : Stmt} {dvs : List V} {F : RaF} (Fn : FunD C.K x qual (defArgs st) (defBody st) (defScope st) dvs [] f fd) (S : FnScope N ps (defScope st)) (hm : mSxs N (defScope st) body (defBody st) = true) (nd : NdSxs ⟨P, w, C, base, N, k⟩ body)
    (hF : ∀ ds r, F ds = some r → ds.length = ps.length ∧ ∃ n, runR n N body ds = some r) : FnOk P w C.K C.mg base (L2.CX P w) (k + 1) f fd ps (raSp C F) := by
  refine Fn.ok S (fun vs H Q E h => ?_) fun cdv A outer s H vs Q E hr h => ?_
  · obtain ⟨ds, Z, r, h1, h2, h3, h4, h5⟩ := h
    rw [h1.length]; exact (hF ds r h3).1
  · refine ⟨_, soSxs body (pn := []) (good_cx S hr) hm nd, ?_⟩
    obtain ⟨ds, Z, r, h1, h2, h3, h4, h5⟩ := h
    obtain ⟨hl, n, hrun⟩ := hF ds r h3
    have R := rep_begR (N := N) h2 h1
    unfold runR at hrun
    split at hrun
    · rename_i u ρ' ht
      obtain ⟨t, h6, rfl⟩ := map_inv hrun
      exact ⟨_, Z, no, _, n, _, R, ht, fun As v σ' H' AA' P _ => h4 t rfl As v H' (post_of P h6)⟩
    · rename_i ρ' ht
      cases hrun
      exact ⟨_, Z, no, _, n, _, R, ht, fun σ' H' AA' R' _ _ => h4 _ rfl [] .non H' (Post.sh' R'.same .non fun _ => .non)⟩
    · rename_i c fs ρ' ht
      cases hrun
      exact ⟨_, Z, no, _, n, _, R, ht, fun σ' H' AA' cls d R' _ _ e => h5 c fs rfl H' cls d R'.same e⟩
    · cases hrun
theorem insK_len {α : Type} {k : Nat} {x : α} {xs : List α} (h : k ≤ xs.length) : (insK k x xs).length = xs.length + 1 := by
  unfold insK; simp; omega
theorem insK_at {α : Type} {k : Nat} {x : α} {xs : List α} (h : k ≤ xs.length) (i : Nat) : (insK k x xs)[i]? = if i < k then xs[i]? else if i = k then some x else xs[i - 1]? := by
  unfold insK
  have hl : (xs.take k).length = k := by rw [List.length_take]; omega
  by_cases h1 : i < k
  · rw [if_pos h1, List.getElem?_append_left (by rw [hl]; exact h1), List.getElem?_take_of_lt h1]
  · rw [if_neg h1, List.getElem?_append_right (by rw [hl]; omega), hl]
    by_cases h2 : i = k
    · subst h2; rw [if_pos rfl, Nat.sub_self]; rfl
    · rw [if_neg h2]
      obtain ⟨j, rfl⟩ : ∃ j, i = k + 1 + j := ⟨i - k - 1, by omega⟩
      rw [show k + 1 + j - k = j + 1 by omega, List.getElem?_cons_succ, List.getElem?_drop]
      congr 1
      omega
theorem rep_begX {H : Hp} {Z : Addr → Prop} {v0 : V} {ws : List V} {u : T} {ds : List D} {As : List Addr} (hk : k ≤ ws.length) (ho : Own C (hid H (Zp Z As)) H v0 u As) (hd : Dats C (hid H (Zp Z As)) ws ds) (nd : As.Nodup) (nz : ∀ a, a ∈ As → ¬ Z a) (b : ∀ a, Z a → nTup H a) :
    RepX C ⟨hid H (fun a => a ∈ As), fun _ => none⟩ Z (upA no k As) H (L2.start N (insK k v0 ws)) (begX N k u ds) := by
  have hz : ∀ a, ZZ Z (upA no k As) a → Zp Z As a := fun a q => by
    rcases q with q | ⟨j, q⟩
    · exact .inl q
    · by_cases hj : j = k
      · subst hj; rw [upA_same] at q; exact .inr q
      · rw [upA_ne hj] at q; cases q
  have sm : Same (hid H (Zp Z As)) (hid H (ZZ Z (upA no k As))) := hid_mono (Same.refl _) fun a _ _ q => hz a q
  have hdl := hd.length
  have inA : ∀ j a, a ∈ upA no k As j → j = k ∧ a ∈ As := fun j a m => by
    by_cases hj : j = k
    · subst hj; rw [upA_same] at m; exact ⟨rfl, m⟩
    · rw [upA_ne hj] at m; cases m
  refine ⟨hid_sub, b, fun j a m => ?_, fun j => ?_, fun j l a m n => by rw [(inA j a m).1, (inA l a n).1], fun i t hi => ?_, ?_⟩
  · obtain ⟨_, m⟩ := inA j a m
    exact ⟨hid_in m, ho.ntup a m, nz a m⟩
  · by_cases hj : j = k
    · subst hj; rw [upA_same]; exact nd
    · rw [upA_ne hj]; exact List.nodup_nil
  · unfold begX at hi
    have hlen : (insK k (some u.u) (ds.map fun d => some (U.sh d))).length = ds.length + 1 := by rw [insK_len (by rw [List.length_map]; omega), List.length_map]
    by_cases hl : i < ds.length + 1
    · rw [List.getElem?_append_left (by rw [hlen]; exact hl), insK_at (by rw [List.length_map]; omega)] at hi
      have hv := insK_at (x := v0) hk i
      by_cases h1 : i < k
      · rw [if_pos h1, List.getElem?_map] at hi
        rw [if_pos h1] at hv
        obtain ⟨d, h2, h3⟩ := map_inv hi
        cases h3
        obtain ⟨v, h4, h5⟩ := hd.getD h2
        refine ⟨v, start_get (hv.trans h4), ?_⟩
        rw [upA_ne (by omega)]
        exact .sh (h5.mono sm)
      · rw [if_neg h1] at hi hv
        by_cases h2 : i = k
        · subst h2
          rw [if_pos rfl] at hi hv
          cases hi
          refine ⟨v0, start_get hv, ?_⟩
          rw [upA_same]
          exact (ho.mono sm fun _ _ => rfl).u
        · rw [if_neg h2, List.getElem?_map] at hi
          rw [if_neg h2] at hv
          obtain ⟨d, h3, h4⟩ := map_inv hi
          cases h4
          obtain ⟨v, h5, h6⟩ := hd.getD h3
          refine ⟨v, start_get (hv.trans h5), ?_⟩
          rw [upA_ne h2]
          exact .sh (h6.mono sm)
    · rw [List.getElem?_append_right (by rw [hlen]; omega), List.getElem?_replicate] at hi
      split at hi <;> cases hi
  · unfold begX L2.start
    rw [List.length_append, List.length_append, insK_len (by rw [List.length_map]; omega), List.length_map, List.length_map, insK_len hk]
    simp
    omega
theorem io_of {H0 : Gh} {Z : Addr → Prop} {AA' : Nat → List Addr} {H H' : Hp} {σ σ' : L2.St} {z : T} {As Bs : List Addr} {v0 : V} {ρ : Rh} (e0 : H0.h = hid H (fun a => a ∈ As)) (R : RepX C H0 (Zp Z Bs) AA' H' σ' ρ) (ndB : Bs.Nodup) (nB : ∀ a, a ∈ Bs → H0.h a = none)
    (hk : σ[k]? = some (some v0)) (pk : PinOk [k] σ σ') (hz : endT k ρ = some z) : IoPost C Z H As H' v0 z (AA' k) Bs := by
  have none_of : ∀ a, H0.h a = none → a ∈ As ∨ H a = none := fun a h => by
    rw [e0] at h
    by_cases m : a ∈ As
    · exact .inl m
    · rw [hid_out m] at h; exact .inr h
  unfold endT at hz
  split at hz
  · rename_i u' hu
    obtain ⟨v, h1, h2⟩ := R.slot k u' hu
    have := pk k (List.mem_singleton.mpr rfl)
    rw [h1, hk] at this
    cases this
    refine ⟨fun a o h n => R.same a o (by rw [e0]; exact hid_some.mpr ⟨n, h⟩), fun a m => none_of a (m.elim (fun m => (R.new k a m).1) (nB a)), List.nodup_append.mpr ⟨R.nd k, ndB, fun x hx y hy e => (R.new k x hx).2.2 (.inr (e ▸ hy))⟩, (h2.t hz).mono (hid_mono (Same.refl _) fun a _ _ q => ?_) fun _ _ => rfl⟩
    rcases q with q | q
    · exact .inl (.inl q)
    · rcases List.mem_append.mp q with q | q
      · exact .inr ⟨k, q⟩
      · exact .inl (.inr q)
  · cases hz
/-- THE RULE for a def that changes its k-th argument -/
theorem fn_okI {st : Stmt} {dvs : List V} {F : IoF} {j : Nat} (Fn : FunD C.K x qual (defArgs st) (defBody st) (defScope st) dvs [] f fd) (S : FnScope N ps (defScope st)) (hm : mSxs N (defScope st) body (defBody st) = true) (nd : NdSxs ⟨P, w, C, base, N, j⟩ body)
    (hF : ∀ u ds r, F u ds = some r → ds.length + 1 = ps.length ∧ ∃ n, runI n N k body u ds = some r) : FnOk P w C.K C.mg base (L2.CX P w) (j + 1) f fd ps (ioSp C k F) := by
  refine Fn.ok S (fun vs H Q E h => ?_) fun cdv A outer s H vs Q E hr h => ?_
  · obtain ⟨v0, ws, u, ds, Z, As, r, u', rfl, hk, ho, hd, nd, nz, b, hf, _⟩ := h
    rw [insK_len hk, hd.length]; exact (hF u ds _ hf).1
  · refine ⟨_, soSxs body (pn := [k]) (good_cx S hr) hm nd, ?_⟩
    obtain ⟨v0, ws, u, ds, Z, As, r, u', rfl, hk, ho, hd, nd, nz, b, hf, q1, q2⟩ := h
    obtain ⟨hl, n, hrun⟩ := hF u ds _ hf
    have R := rep_begX (N := N) hk ho hd nd nz b
    have h0 : (L2.start N (insK k v0 ws))[k]? = some (some v0) := start_get (by rw [insK_at hk, if_neg (Nat.lt_irrefl _), if_pos rfl])
    unfold runI at hrun
    split at hrun
    · rename_i w' ρ' ht
      obtain ⟨t, h6, hrun⟩ := bnd hrun
      obtain ⟨z, h7, h8⟩ := map_inv hrun
      cases h8
      refine ⟨_, Z, _, _, n, _, R, ht, fun Bs v σ' H' AA' P' pk => ?_⟩
      refine q1 t rfl v H' (AA' k) Bs (io_of rfl P'.rep P'.nd (fun a m => (P'.nB a m).1) h0 pk h7) ((P'.one.t h6).mono (hid_mono (Same.refl _) fun a _ _ q => ?_) fun _ _ => rfl)
      rcases q with q | q
      · exact .inl (.inl q)
      · rcases List.mem_append.mp q with q | q
        · exact .inl (.inr ⟨k, q⟩)
        · exact .inr q
    · rename_i ρ' ht
      obtain ⟨z, h7, h8⟩ := map_inv hrun
      cases h8
      refine ⟨_, Z, _, _, n, _, R, ht, fun σ' H' AA' R' m' pk => ?_⟩
      exact q1 _ rfl .non H' (AA' k) [] (io_of rfl (by rw [Zp_nil]; exact R') List.nodup_nil (fun _ m => by cases m) h0 pk h7) (.sh .non)
    · rename_i c fs ρ' ht
      obtain ⟨z, h7, h8⟩ := map_inv hrun
      cases h8
      refine ⟨_, Z, _, _, n, _, R, ht, fun σ' H' AA' cls d R' m' pk e => ?_⟩
      exact q2 c fs rfl H' (AA' k) cls d (io_of rfl (by rw [Zp_nil]; exact R') List.nodup_nil (fun _ m => by cases m) h0 pk h7) e
    · cases hrun
end
end Eng
/-! X W: a def that neither raises nor changes anything. -/
namespace Eng
open PySem L2
section
variable {P : Program} {w : World} {C : Cfg} {base : Heap} {qual x : Str} {scope : Scope} {bd : List Stmt} {f : Addr} {fd : FuncData} {N ps : List Str} {k : Nat} {body : Sxs}
theorem good_no (S : FnScope N ps scope) {cdv : Value} {A : Around} {outer : List Env} {s : Shared} {H : Hp} {E : XK} (hr : Room k (A.deeper (PyProof.Rows.envOfC qual scope s.heap.objs.size f cdv))) :
    GoodWS ⟨P, w, C, base, N, k⟩ scope (cxOf CX0 P w C.K C.mg base N qual scope f cdv A outer s H E).nox (fun _ _ _ _ => False) :=
  { prog := rfl, w := rfl, K := rfl, mg := rfl, base := rfl, N := rfl, nd := S.nd, calm := rfl, room := hr, kind := S.kind
    vis := fun x h => by
      unfold visB at h
      split at h
      · rename_i q; exact .inl q
      · rename_i q; exact .inr (.inl q)
      · rename_i q; exact .inr (.inr q)
      · cases h
    gl := fun x h => by
      unfold glB at h
      split at h
      · rename_i q; exact q
      · cases h
    loc := fun x h => by
      unfold locB at h
      split at h
      · rename_i q; exact ⟨.inl q, .inl rfl⟩
      · rename_i q; exact ⟨.inr q, .inl rfl⟩
      · cases h
    fr := fun x h => h
    tk := takes0
    scope := rfl
    pass := PassesOwn.never }
def runX (n : Nat) (N : List Str) (body : Sxs) (ds : List D) : Option T := match sxs [] n body (begR N ds) with
  | some (.rt u _) => u.t
  | some (.nx _) => some (.sh .non)
  | _ => none
/-- THE RULE for a def by the words of X that raises nothing -/
theorem fn_okX {st : Stmt} {dvs : List V} {F : List D → Option T} (Fn : FunD C.K x qual (defArgs st) (defBody st) (defScope st) dvs [] f fd) (S : FnScope N ps (defScope st)) (hm : mSxs N (defScope st) body (defBody st) = true) (nd : NdSxs ⟨P, w, C, base, N, k⟩ body)
    (hF : ∀ ds t, F ds = some t → ds.length = ps.length ∧ ∃ n, runX n N body ds = some t) : FnOk P w C.K C.mg base CX0 (k + 1) f fd ps (pureSp C F) := by
  refine Fn.ok S (fun vs H Q E h => ?_) fun cdv A outer s H vs Q E hr h => ?_
  · obtain ⟨ds, t, Z, al, h1, h2, h3, h4, h5⟩ := h
    rw [h1.length]; exact (hF ds t h4).1
  · refine ⟨_, (soSxs body (pn := []) (good_no S hr) hm nd).nox, ?_⟩
    obtain ⟨ds, t, Z, al, h1, h2, h3, h4, h5⟩ := h
    obtain ⟨hl, n, hrun⟩ := hF ds t h4
    have key : ∀ B : Addr → Prop, (∀ a, B a → nTup H a) → Dats C (hid H B) vs ds → (∀ As v H', Post C B H t true As v H' → Q v H') → tSxs C (fun _ _ _ _ => False) [] body { nx := fun _ H' => Q .non H', rt := Q } (L2.start N vs) H := by
      intro B hB hd q
      have R := rep_begR (N := N) hB hd
      unfold runX at hrun
      split at hrun
      · rename_i u ρ' ht
        exact ⟨_, B, no, _, n, _, R, ht, fun As v σ' H' AA' P _ => q As v H' (post_of P hrun)⟩
      · rename_i ρ' ht
        cases hrun
        exact ⟨_, B, no, _, n, _, R, ht, fun σ' H' AA' R' _ _ => q [] .non H' (Post.sh' R'.same .non fun _ => .non)⟩
      · cases hrun
    cases al with
    | true => exact key Z h3 (h2 rfl) h5
    | false =>
      have n0 : hid H (fun _ => False) = H := by funext a; exact hid_out fun z => z
      exact key (fun _ => False) (fun _ z => z.elim) (by rw [n0]; exact h1) fun As v H' p => h5 As v H' ⟨p.same, p.nd, p.new, p.dat, fun z => by cases z⟩
end
end Eng
/-! X X: how the words of X reckon (rules for simp). -/
namespace Eng
open PySem L2
/-! ### trees as data -/
@[simp] theorem tr_nil : tr [] = [] := rfl
@[simp] theorem tr_some (u : U) (ρ : Rh) : tr (some u :: ρ) = u.t :: tr ρ := rfl
@[simp] theorem tr_none (ρ : Rh) : tr (none :: ρ) = none :: tr ρ := rfl
@[simp] theorem ut_sh (d : D) : U.t (.sh d) = some (.sh d) := rfl
@[simp] theorem ut_tu (t : T) : U.t t.u = some t := T.u_t t
@[simp] theorem ut_lst (us : List U) : U.t (.lst us) = (U.ts us).om .lst := rfl
@[simp] theorem ut_tup (us : List U) : U.t (.tup us) = (U.ts us).om .tup := rfl
@[simp] theorem ut_ins (c : Str) (ns : List Str) (us : List U) : U.t (.ins c ns us) = (U.ts us).om (.ins c ns) := rfl
@[simp] theorem ut_dic (ks : List Key) (us : List U) : U.t (.dic ks us) = (U.ts us).om (.dic ks) := rfl
@[simp] theorem uts_nil : U.ts [] = some [] := rfl
@[simp] theorem uts_cons (u : U) (us : List U) : U.ts (u :: us) = u.t.ob fun t => (U.ts us).om fun ts => t :: ts := rfl
@[simp] theorem uts_sh : ∀ xs : List D, U.ts (xs.map .sh) = some (xs.map .sh)
  | [] => rfl
  | x :: xs => by rw [List.map_cons, uts_cons, uts_sh xs]; simp
@[simp] theorem uts_shf {α : Type} (f : α → D) (xs : List α) : U.ts (xs.map fun x => .sh (f x)) = some (xs.map fun x => .sh (f x)) := by
  have := uts_sh (xs.map f)
  rw [List.map_map, List.map_map] at this
  exact this
@[simp] theorem uts_shc {α : Type} (f : α → D) (xs : List α) : U.ts (xs.map (U.sh ∘ f)) = some (xs.map fun x => .sh (f x)) := uts_shf f xs
@[simp] theorem uts_us (ts : List T) : U.ts (T.us ts) = some ts := T.us_ts ts
@[simp] theorem uts_app (as bs : List U) : U.ts (as ++ bs) = (U.ts as).ob fun x => (U.ts bs).om fun y => x ++ y := by
  induction as with
  | nil => cases h : U.ts bs <;> simp [h]
  | cons a as ih =>
    rw [List.cons_append, uts_cons, uts_cons, ih]
    cases a.t <;> cases U.ts as <;> cases U.ts bs <;> simp
@[simp] theorem tu_sh (d : D) : (T.sh d).u = .sh d := rfl
@[simp] theorem tu_lst (ts : List T) : (T.lst ts).u = .lst (ts.map T.u) := by show U.lst (T.us ts) = _; rw [T.us_eq]
@[simp] theorem tu_tup (ts : List T) : (T.tup ts).u = .tup (ts.map T.u) := by show U.tup (T.us ts) = _; rw [T.us_eq]
@[simp] theorem nf_sh (d : D) : U.nf (.sh d) = .sh d := rfl
@[simp] theorem nf_lst (ts : List T) : U.nf (.lst ts) = .lst (ts.map T.u) := by show (T.lst ts).u = _; exact tu_lst ts
@[simp] theorem nf_tup (ts : List T) : U.nf (.tup ts) = if T.owns ts then .tup (ts.map T.u) else .sh (.tup (T.ds ts)) := by
  unfold U.nf
  show (if T.owns ts = true then _ else _) = _
  rw [tu_tup]; rfl
@[simp] theorem uown_sh (d : D) : (U.sh d).own = false := rfl
@[simp] theorem uown_lst (us : List U) : (U.lst us).own = true := rfl
@[simp] theorem uown_ins (c : Str) (ns : List Str) (us : List U) : (U.ins c ns us).own = true := rfl
@[simp] theorem uown_dic (ks : List Key) (us : List U) : (U.dic ks us).own = true := rfl
/-! ### the words' own ways -/
section
variable {α β : Type}
@[simp] theorem rb_ok (a : α) (ρ : Rh) (k : α → Rh → Option (R β)) : rb (some (.ok a ρ)) k = k a ρ := by unfold rb; simp only []
@[simp] theorem rb_ex (c : Str) (fs : List (Str × D)) (ρ : Rh) (k : α → Rh → Option (R β)) : rb (some (.ex c fs ρ)) k = some (.ex c fs ρ) := by unfold rb; simp only []
@[simp] theorem rv_ok (a : α) (ρ : Rh) : rv (some a) ρ = some (.ok a ρ) := by unfold rv; simp only []
@[simp] theorem rv_no (ρ : Rh) : rv (none : Option α) ρ = none := by unfold rv; simp only []
@[simp] theorem xb_ok (a : α) (ρ : Rh) (k : α → Rh → Option Oc) : xb (some (.ok a ρ)) k = k a ρ := by unfold xb; simp only []
@[simp] theorem xb_ex (c : Str) (fs : List (Str × D)) (ρ : Rh) (k : α → Rh → Option Oc) : xb (some (.ex c fs ρ)) k = some (.xc c fs ρ) := by unfold xb; simp only []
end
section
variable (k : Rh → Option Oc) (ρ : Rh)
@[simp] theorem bd_nx : Oc.bd (some (.nx ρ)) k = k ρ := by unfold Oc.bd; simp only []
@[simp] theorem bd_bk : Oc.bd (some (.bk ρ)) k = some (.bk ρ) := by unfold Oc.bd; simp only []
@[simp] theorem bd_ct : Oc.bd (some (.ct ρ)) k = some (.ct ρ) := by unfold Oc.bd; simp only []
@[simp] theorem bd_rt (u : U) : Oc.bd (some (.rt u ρ)) k = some (.rt u ρ) := by unfold Oc.bd; simp only []
@[simp] theorem bd_xc (c : Str) (fs : List (Str × D)) : Oc.bd (some (.xc c fs ρ)) k = some (.xc c fs ρ) := by unfold Oc.bd; simp only []
end
@[simp] theorem free_nil (pn : List Nat) : free pn [] = true := rfl
@[simp] theorem free_cons (pn : List Nat) (i : Nat) (is : List Nat) : free pn (i :: is) = (!pn.contains i && free pn is) := rfl
/-! ### expressions -/
def peK (s : Bool) (t : T) : Option Val := if s then some (U.nf t, true) else if noL t.d then some (.sh t.d, true) else none
@[simp] theorem peK_t (t : T) : peK true t = some (U.nf t, true) := rfl
@[simp] theorem peK_f (t : T) : peK false t = if noL t.d then some (.sh t.d, true) else none := rfl
@[simp] theorem peV_eq (e : E) (ρ : Rh) : peV e ρ = (ev e (dl (tr ρ))).ob (peK (sal (avs e) (ow (tr ρ)))) := by
  conv => lhs; unfold peV
  all_goals rfl
def opK (s : Bool) (t : T) : Option Val := if s then some (U.nf t, true) else if noL t.d then some (.sh t.d, true) else none
@[simp] theorem opK_t (t : T) : opK true t = some (U.nf t, true) := rfl
@[simp] theorem opK_f (t : T) : opK false t = if noL t.d then some (.sh t.d, true) else none := rfl
@[simp] theorem opV_eq (f : List D → Option T) (us : List Val) : opV f us = (dsV us).ob fun ds => (f ds).ob (opK (allS us)) := by
  conv => lhs; unfold opV
  all_goals rfl
@[simp] theorem dsV_nil : dsV [] = some [] := rfl
@[simp] theorem dsV_cons (u : Val) (us : List Val) : dsV (u :: us) = (u.1.t.om T.d).ob fun d => (dsV us).om fun ds => d :: ds := rfl
@[simp] theorem allS_nil : allS [] = true := rfl
@[simp] theorem allS_cons (u : Val) (us : List Val) : allS (u :: us) = (u.2 && allS us) := rfl
section
variable (ρ : Rh)
@[simp] theorem xv_pe (e : E) : xv (.pe e) ρ = rv (peV e ρ) ρ := by unfold xv; rfl
@[simp] theorem xv_var (i : Nat) : xv (.var i) ρ = rv (varV i ρ) ρ := by unfold xv; rfl
def mvK (i : Nat) (ρ : Rh) : Option (Option U) → Option (R Val)
  | some (some u) => some (.ok (u, true) (ρ.set i none))
  | _ => none
@[simp] theorem mvK_some (i : Nat) (u : U) : mvK i ρ (some (some u)) = some (.ok (u, true) (ρ.set i none)) := rfl
@[simp] theorem xv_mv (i : Nat) : xv (.mv i) ρ = mvK i ρ ρ[i]? := by
  conv => lhs; unfold xv
  all_goals rfl
def varK : Option (Option U) → Option Val
  | some (some u) => some (u, !u.own)
  | _ => none
@[simp] theorem varK_some (u : U) : varK (some (some u)) = some (u, !u.own) := rfl
@[simp] theorem varV_eq (i : Nat) : varV i ρ = varK ρ[i]? := rfl
@[simp] theorem xv_bin (op : Operator) (a b : X) : xv (.bin op a b) ρ = rb (xv a ρ) fun u ρ1 => rb (xv b ρ1) fun w ρ2 => if u.2 || pur b then rv (binV op u w) ρ2 else none := by
  conv => lhs; unfold xv
  all_goals rfl
@[simp] theorem binV_sh (op : Operator) (d e : D) : binV op (.sh d, true) (.sh e, true) = opV (binD op) [(.sh d, true), (.sh e, true)] := by
  cases op <;> rfl
@[simp] theorem xv_cmp (op : CmpOp) (a b : X) : xv (.cmp op a b) ρ = rb (xv a ρ) fun u ρ1 => rb (xv b ρ1) fun w ρ2 => if u.2 || pur b then rv (opV (cmpD op) [u, w]) ρ2 else none := by
  conv => lhs; unfold xv
  all_goals rfl
@[simp] theorem xv_tup (xs : Xs) : xv (.tup xs) ρ = rb (xvs xs ρ) fun us ρ1 => if us.length ≤ SZ && allS us then some (.ok (.tup (us.map (·.1)), true) ρ1) else none := by
  conv => lhs; unfold xv
  all_goals rfl
@[simp] theorem xv_lst (xs : Xs) : xv (.lst xs) ρ = rb (xvs xs ρ) fun us ρ1 => if us.length ≤ SZ && allS us then some (.ok (.lst (us.map (·.1)), true) ρ1) else none := by
  conv => lhs; unfold xv
  all_goals rfl
@[simp] theorem xvs_nil : xvs .nil ρ = some (.ok [] ρ) := by unfold xvs; rfl
@[simp] theorem xvs_cons (x : X) (xs : Xs) : xvs (.cons x xs) ρ = rb (xv x ρ) fun u ρ1 => rb (xvs xs ρ1) fun us ρ2 => if u.2 || purs xs then some (.ok (u :: us) ρ2) else none := by
  conv => lhs; unfold xvs
  all_goals rfl
def caxK (ρ1 : Rh) (o : Option FR) : Option (R Val) := match o with
  | some r => some (frR r ρ1)
  | none => none
@[simp] theorem caxK_ok (ρ1 : Rh) (t : T) : caxK ρ1 (some (.ok t)) = some (.ok (U.nf t, true) ρ1) := rfl
@[simp] theorem caxK_ex (ρ1 : Rh) (c : Str) (fs : List (Str × D)) : caxK ρ1 (some (.ex c fs)) = some (.ex c fs ρ1) := rfl
@[simp] theorem xv_cax (f : Str) (F : RaF) (dds : List D) (xs : Xs) : xv (.cax f F dds xs) ρ = rb (xvs xs ρ) fun us ρ1 => if allS us then (dsV us).ob fun ds => caxK ρ1 (F (ds ++ dds)) else none := by
  conv => lhs; unfold xv
  congr 1
  funext us ρ1
  split
  · cases h : dsV us with
    | none => rfl
    | some ds => simp only []; cases h2 : F (ds ++ dds) <;> simp [h2, caxK]
  · rfl
@[simp] theorem xv_cal (f : Str) (F : List D → Option T) (dds : List D) (xs : Xs) : xv (.cal f F dds xs) ρ = rb (xvs xs ρ) fun us ρ1 => rv (opV (fun ds => F (ds ++ dds)) us) ρ1 := by
  conv => lhs; unfold xv
  all_goals rfl
/-- the list of a slot -/
def slotK : Option (Option U) → Option (List U)
  | some (some (.lst us)) => some us
  | _ => none
@[simp] theorem slotK_lst (us : List U) : slotK (some (some (.lst us))) = some us := rfl
def intK : U → Option Int
  | .sh (.int j) => some j
  | _ => none
@[simp] theorem intK_int (j : Int) : intK (.sh (.int j)) = some j := rfl
theorem plR_slot {i : Nat} {u : U} (h : ρ[i]? = some (some u)) : plR (.slot i) ρ = some (i, []) := by unfold plR; rw [h]
theorem getP_slot {i : Nat} {u : U} (h : ρ[i]? = some (some u)) : getP ρ i [] = some u := by unfold getP; rw [h]; rfl
theorem putR_slot {i : Nat} {u w : U} (h : ρ[i]? = some (some u)) : putR ρ i [] w = ρ.set i (some w) := by unfold putR; rw [h]; rfl
/-- xs.pop(k) of a slot -/
theorem xv_popi_slot {i : Nat} {a : X} (hp : pur a = true) {us : List U} (h : ρ[i]? = some (some (.lst us))) : xv (.popi (.slot i) a) ρ = rb (xv a ρ) fun u ρ1 => (intK u.1).ob fun j => if us.length ≤ SZ then (ixN us.length j).ob fun m => us[m]?.ob fun w => some (.ok (w, true) (ρ.set i (some (.lst (us.eraseIdx m))))) else none := by
  conv => lhs; unfold xv
  rw [if_pos hp]
  cases hx : xv a ρ with
  | none => rfl
  | some r =>
    obtain ⟨u, rfl⟩ := pur_ok hp hx
    rw [rb_ok, rb_ok, plR_slot ρ h]
    obtain ⟨u, s⟩ := u
    cases u with
    | sh d => cases d with
      | int j => simp only [getP_slot ρ h, putR_slot ρ h]; rfl
      | _ => rfl
    | _ => rfl
@[simp] theorem xt_pe (e : E) : xt (.pe e) ρ = rv (tst e (dl (tr ρ))) ρ := by
  conv => lhs; unfold xt
  all_goals rfl
def tK (b : X) (w : Bool) (k : Bool) (ρ1 : Rh) : Option (R Bool) := if k = w then xt b ρ1 else some (.ok k ρ1)
@[simp] theorem tK_y (b : X) (w : Bool) (ρ1 : Rh) : tK b w w ρ1 = xt b ρ1 := by unfold tK; rw [if_pos rfl]
@[simp] theorem tK_tf (b : X) (ρ1 : Rh) : tK b true false ρ1 = some (.ok false ρ1) := rfl
@[simp] theorem tK_ft (b : X) (ρ1 : Rh) : tK b false true ρ1 = some (.ok true ρ1) := rfl
@[simp] theorem xt_and (a b : X) : xt (.and a b) ρ = rb (xt a ρ) (tK b true) := by
  conv => lhs; unfold xt
  congr 1; funext k ρ1; cases k <;> rfl
@[simp] theorem xt_or (a b : X) : xt (.or a b) ρ = rb (xt a ρ) (tK b false) := by
  conv => lhs; unfold xt
  congr 1; funext k ρ1; cases k <;> rfl
@[simp] theorem xt_one (a : X) : xt (.one a) ρ = xt a ρ := by
  conv => lhs; unfold xt
  all_goals rfl
@[simp] theorem xt_not (a : X) : xt (.not a) ρ = rb (xt a ρ) fun k ρ1 => some (.ok (!k) ρ1) := by
  conv => lhs; unfold xt
  all_goals rfl
@[simp] theorem xt_cmp (op : CmpOp) (a b : X) : xt (.cmp op a b) ρ = rb (xv (.cmp op a b) ρ) fun u ρ1 => rv (blU u) ρ1 := by
  conv => lhs; unfold xt
  all_goals rfl
@[simp] theorem xt_cal (f : Str) (F : List D → Option T) (dds : List D) (xs : Xs) : xt (.cal f F dds xs) ρ = rb (xv (.cal f F dds xs) ρ) fun u ρ1 => rv (truU u) ρ1 := by
  conv => lhs; unfold xt
  all_goals rfl
@[simp] theorem xt_cax (f : Str) (F : RaF) (dds : List D) (xs : Xs) : xt (.cax f F dds xs) ρ = rb (xv (.cax f F dds xs) ρ) fun u ρ1 => rv (truU u) ρ1 := by
  conv => lhs; unfold xt
  all_goals rfl
@[simp] theorem blU_bl (b s : Bool) : blU (.sh (.bl b), s) = some b := rfl
@[simp] theorem truU_sh (d : D) (s : Bool) : truU (.sh d, s) = truD d := rfl
def piK (s : Bool) (ds : List D) : Option (List D) := if s then some ds else none
@[simp] theorem piK_t (ds : List D) : piK true ds = some ds := rfl
@[simp] theorem xvi_pi (it : I) : xvi (.pi it) ρ = rv ((evi it (dl (tr ρ))).ob (piK (sal (avi it) (ow (tr ρ))))) ρ := by unfold xvi; rfl
@[simp] theorem xvi_seq (x : X) : xvi (.seq x) ρ = rb (xv x ρ) fun u ρ1 => if u.2 then rv (elsV u) ρ1 else none := by unfold xvi; rfl
@[simp] theorem elsV_lst (ds : List D) (s : Bool) : elsV (.sh (.lst ds), s) = some ds := rfl
@[simp] theorem elsV_tup (ds : List D) (s : Bool) : elsV (.sh (.tup ds), s) = some ds := rfl
@[simp] theorem elsV_scr (ns : List Int) (s : Bool) : elsV (.sh (.scr ns), s) = some (ns.map .int) := rfl
@[simp] theorem elsV_str (cs : List Nat) (s : Bool) : elsV (.sh (.str cs), s) = some (cs.map fun c => .str [c]) := rfl
@[simp] theorem elsV_own (us : List U) : elsV (.lst us, true) = (U.ts us).om T.ds := rfl
end
/-! ### statements -/
section
variable (pn : List Nat) (n : Nat) (ρ : Rh)
@[simp] theorem sxs_nil : sxs pn n .nil ρ = some (.nx ρ) := by unfold sxs; rfl
@[simp] theorem sxs_cons (s : Sx) (ss : Sxs) : sxs pn n (.cons s ss) ρ = Oc.bd (sx pn n s ρ) (sxs pn n ss) := by
  conv => lhs; unfold sxs
  all_goals rfl
@[simp] theorem sxs_frz (i : Nat) (ss : Sxs) : sxs pn n (.frz i ss) ρ = sxs pn n ss (frzX i ρ) := by
  conv => lhs; unfold sxs
  all_goals rfl
def setK (i : Nat) (u : Val) (ρ1 : Rh) : Option Oc := if u.2 && free pn [i] then some (.nx (ρ1.set i (some u.1))) else none
@[simp] theorem setK_t (i : Nat) (u : U) (ρ1 : Rh) : setK pn i (u, true) ρ1 = if free pn [i] then some (.nx (ρ1.set i (some u))) else none := rfl
@[simp] theorem sx_set (i : Nat) (x : X) : sx pn n (.set i x) ρ = xb (xv x ρ) (setK pn i) := by
  conv => lhs; unfold sx
  all_goals rfl
@[simp] theorem sx_setL (i : Nat) (e : E) : sx pn n (.setL i e) ρ = xb (rv (peV e ρ) ρ) (setK pn i) := by
  conv => lhs; unfold sx
  all_goals rfl
def setTK (is : List Nat) (u : Val) (ρ1 : Rh) : Option Oc := if u.2 && free pn is then (u.1.t.om T.d).ob fun d => (asgX (.tp is) d ρ1).om .nx else none
@[simp] theorem setTK_t (is : List Nat) (u : U) (ρ1 : Rh) : setTK pn is (u, true) ρ1 = if free pn is then (u.t.om T.d).ob fun d => (asgX (.tp is) d ρ1).om .nx else none := rfl
@[simp] theorem sx_setT (is : List Nat) (x : X) : sx pn n (.setT is x) ρ = xb (xv x ρ) (setTK pn is) := by
  conv => lhs; unfold sx
  congr 1
  funext u ρ1
  unfold setTK
  split
  · show Option.map _ (Option.bind (U.d u.1) _) = _
    unfold U.d
    cases u.1.t <;> simp
    rfl
  · rfl
def augX (i : Nat) (op : Operator) (x : X) (ρ : Rh) : Option (Option U) → Option Oc
  | some (some (.sh d)) => xb (xv x ρ) fun u ρ1 => if free pn [i] then (opV (augD op) [(.sh d, true), u]).om fun w => .nx (ρ1.set i (some w.1)) else none
  | _ => none
@[simp] theorem augX_sh (i : Nat) (op : Operator) (x : X) (d : D) : augX pn i op x ρ (some (some (.sh d))) = xb (xv x ρ) fun u ρ1 => if free pn [i] then (opV (augD op) [(.sh d, true), u]).om fun w => .nx (ρ1.set i (some w.1)) else none := rfl
@[simp] theorem sx_aug (i : Nat) (op : Operator) (x : X) : sx pn n (.aug i op x) ρ = augX pn i op x ρ ρ[i]? := by
  conv => lhs; unfold sx
  unfold augX
  cases ρ[i]? with
  | none => rfl
  | some o =>
    cases o with
    | none => rfl
    | some u => cases u <;> rfl
def retX (u : Val) (ρ1 : Rh) : Option Oc := if u.2 then some (.rt u.1 ρ1) else none
@[simp] theorem retX_t (u : U) (ρ1 : Rh) : retX (u, true) ρ1 = some (.rt u ρ1) := rfl
@[simp] theorem sx_ret (x : X) : sx pn n (.ret x) ρ = xb (xv x ρ) retX := by
  conv => lhs; unfold sx
  all_goals rfl
@[simp] theorem sx_retN : sx pn n .retN ρ = some (.rt (.sh .non) ρ) := by unfold sx; rfl
@[simp] theorem sx_exp (x : X) : sx pn n (.exp x) ρ = xb (xv x ρ) fun _ ρ1 => some (.nx ρ1) := by
  conv => lhs; unfold sx
  all_goals rfl
@[simp] theorem sx_rse (c m : Str) : sx pn n (.rse c m) ρ = some (.xc c [] ρ) := by unfold sx; rfl
def iteX (a b : Sxs) (k : Bool) (ρ1 : Rh) : Option Oc := if k then sxs pn n a ρ1 else sxs pn n b ρ1
@[simp] theorem iteX_t (a b : Sxs) (ρ1 : Rh) : iteX pn n a b true ρ1 = sxs pn n a ρ1 := rfl
@[simp] theorem iteX_f (a b : Sxs) (ρ1 : Rh) : iteX pn n a b false ρ1 = sxs pn n b ρ1 := rfl
@[simp] theorem sx_ite (c : X) (a b : Sxs) : sx pn n (.ite c a b) ρ = xb (xt c ρ) (iteX pn n a b) := by
  conv => lhs; unfold sx
  all_goals rfl
def forK' (tg : Tg) (b : Sxs) (ds : List D) (ρ1 : Rh) : Option Oc := if free pn tg.ix then forX (asgX tg) (sxs pn n b) ds ρ1 else none
@[simp] theorem sx_for (tg : Tg) (it : XI) (b : Sxs) : sx pn n (.for tg it b) ρ = xb (xvi it ρ) (forK' pn n tg b) := by
  conv => lhs; unfold sx
  all_goals rfl
theorem forK_free {tg : Tg} (h : free pn tg.ix = true) (b : Sxs) (ds : List D) (ρ1 : Rh) : forK' pn n tg b ds ρ1 = forX (asgX tg) (sxs pn n b) ds ρ1 := by unfold forK'; rw [if_pos h]
@[simp] theorem forK_no (tg : Tg) (b : Sxs) (ds : List D) (ρ1 : Rh) : forK' [] n tg b ds ρ1 = forX (asgX tg) (sxs [] n b) ds ρ1 := forK_free [] n (List.all_eq_true.mpr fun _ _ => rfl) b ds ρ1
@[simp] theorem sx_whl (c : X) (b : Sxs) : sx pn n (.whl c b) ρ = whlX (xt c) (sxs pn n b) n ρ := by
  conv => lhs; unfold sx
  all_goals rfl
@[simp] theorem sx_brk : sx pn n .brk ρ = some (.bk ρ) := by unfold sx; rfl
@[simp] theorem sx_cnt : sx pn n .cnt ρ = some (.ct ρ) := by unfold sx; rfl
@[simp] theorem sx_pas : sx pn n .pas ρ = some (.nx ρ) := by unfold sx; rfl
/-- xs.append(x) of a slot -/
theorem sx_app_slot {i : Nat} {x : X} {us : List U} (h : ρ[i]? = some (some (.lst us))) : sx pn n (.app (.slot i) x) ρ = xb (xv x ρ) fun u ρ1 => if u.2 then (slotK ρ1[i]?).ob fun us => if us.length < SZ then some (.nx (ρ1.set i (some (.lst (us ++ [u.1]))))) else none else none := by
  have hl : ∀ {ρ : Rh} {us : List U}, ρ[i]? = some (some (.lst us)) → lstP (.slot i) ρ = some (i, [], us) := fun {ρ us} h => by unfold lstP; rw [plR_slot ρ h]; simp only [getP_slot ρ h]
  conv => lhs; unfold sx
  rw [if_pos (by rw [hl h]; rfl)]
  congr 1
  funext u ρ1
  split
  · cases hq : ρ1[i]? with
    | none => unfold lstP plR; rw [hq]; rfl
    | some o =>
      cases o with
      | none => unfold lstP plR; rw [hq]; rfl
      | some w =>
        cases w with
        | lst us' => rw [hl hq]; simp only [slotK_lst, ob_some, putR_slot ρ1 hq]
        | _ => unfold lstP; rw [plR_slot ρ1 hq]; simp only [getP_slot ρ1 hq]; rfl
  · rfl
end
/-! ### loops by a word -/
theorem forX_step {asg : D → Rh → Option Rh} {body : Rh → Option Oc} {d : D} {ds : List D} {ρ ρ1 ρ2 : Rh} (h1 : asg d ρ = some ρ1) (h2 : body ρ1 = some (.nx ρ2) ∨ body ρ1 = some (.ct ρ2)) : forX asg body (d :: ds) ρ = forX asg body ds ρ2 := by
  conv => lhs; unfold forX
  rw [h1]
  simp only []
  rcases h2 with h2 | h2 <;> rw [h2]
theorem forX_end {asg : D → Rh → Option Rh} {body : Rh → Option Oc} {d : D} {ds : List D} {ρ ρ1 : Rh} {o : Oc} (h1 : asg d ρ = some ρ1) (h2 : body ρ1 = some o) (h3 : (∃ u ρ', o = .rt u ρ') ∨ ∃ c fs ρ', o = .xc c fs ρ') : forX asg body (d :: ds) ρ = some o := by
  conv => lhs; unfold forX
  rw [h1]
  simp only []
  rcases h3 with ⟨u, ρ', rfl⟩ | ⟨c, fs, ρ', rfl⟩ <;> rw [h2]
theorem forX_fold {α σ : Type} {g : α → D} {asg : D → Rh → Option Rh} {body : Rh → Option Oc} (f : σ → α → σ) (R : σ → List α → Rh → Prop)
    (step : ∀ s x xs ρ, R s (x :: xs) ρ → ∃ ρ1 ρ2, asg (g x) ρ = some ρ1 ∧ (body ρ1 = some (.nx ρ2) ∨ body ρ1 = some (.ct ρ2)) ∧ R (f s x) xs ρ2) : ∀ (xs : List α) (s : σ) (ρ : Rh), R s xs ρ → ∃ ρ', forX asg body (xs.map g) ρ = some (.nx ρ') ∧ R (xs.foldl f s) [] ρ'
  | [], s, ρ, h => ⟨ρ, by unfold forX; rfl, h⟩
  | x :: xs, s, ρ, h => by
    obtain ⟨ρ1, ρ2, h1, h2, h3⟩ := step s x xs ρ h
    obtain ⟨ρ', h4, h5⟩ := forX_fold f R step xs (f s x) ρ2 h3
    exact ⟨ρ', by rw [List.map_cons, forX_step h1 h2, h4], h5⟩
theorem wX_stop {test : Rh → Option (R Bool)} {body : Rh → Option Oc} {n : Nat} {ρ ρ1 : Rh} (h : test ρ = some (.ok false ρ1)) : whlX test body (n + 1) ρ = some (.nx ρ1) := by
  unfold whlX; rw [h]; rfl
theorem wX_nx {test : Rh → Option (R Bool)} {body : Rh → Option Oc} {n : Nat} {ρ ρ1 ρ2 : Rh} (h : test ρ = some (.ok true ρ1)) (h2 : body ρ1 = some (.nx ρ2) ∨ body ρ1 = some (.ct ρ2)) : whlX test body (n + 1) ρ = whlX test body n ρ2 := by
  conv => lhs; unfold whlX
  rw [h, xb_ok, if_pos rfl]
  rcases h2 with h2 | h2 <;> rw [h2]
theorem wX_bk {test : Rh → Option (R Bool)} {body : Rh → Option Oc} {n : Nat} {ρ ρ1 ρ2 : Rh} (h : test ρ = some (.ok true ρ1)) (h2 : body ρ1 = some (.bk ρ2)) : whlX test body (n + 1) ρ = some (.nx ρ2) := by
  unfold whlX
  rw [h, xb_ok, if_pos rfl, h2]
theorem wX_end {test : Rh → Option (R Bool)} {body : Rh → Option Oc} {n : Nat} {ρ ρ1 : Rh} {o : Oc} (h : test ρ = some (.ok true ρ1)) (h2 : body ρ1 = some o) (h3 : (∃ u ρ', o = .rt u ρ') ∨ ∃ c fs ρ', o = .xc c fs ρ') : whlX test body (n + 1) ρ = some o := by
  unfold whlX
  rw [h, xb_ok, if_pos rfl]
  rcases h3 with ⟨u, ρ', rfl⟩ | ⟨c, fs, ρ', rfl⟩ <;> rw [h2]
/-! ### defs -/
@[simp] theorem frzX_lst (i : Nat) (ρ : Rh) : frzX i ρ = (match ρ[i]? with | some (some u) => (match u.t with | some t => ρ.set i (some (.sh t.d)) | none => ρ) | _ => ρ) := by unfold frzX; rfl
def runXF (m n : Nat) (N : List Str) (b : Sxs) (ds : List D) : Option T := if ds.length = m then runX n N b ds else none
theorem runXF_h {m n : Nat} {N : List Str} {b : Sxs} {ds : List D} {t : T} (h : runXF m n N b ds = some t) : ds.length = m ∧ ∃ n, runX n N b ds = some t := by
  unfold runXF at h
  split at h
  · rename_i e; exact ⟨e, n, h⟩
  · cases h
theorem runXF_rt {m n : Nat} {N : List Str} {b : Sxs} {ds : List D} {u : U} {t : T} {ρ : Rh} (hl : ds.length = m) (h : sxs [] n b (begR N ds) = some (.rt u ρ)) (ht : u.t = some t) : runXF m n N b ds = some t := by
  unfold runXF; rw [if_pos hl]; unfold runX; rw [h]; exact ht
def runRF (m n : Nat) (N : List Str) (b : Sxs) (ds : List D) : Option FR := if ds.length = m then runR n N b ds else none
theorem runRF_h {m n : Nat} {N : List Str} {b : Sxs} {ds : List D} {r : FR} (h : runRF m n N b ds = some r) : ds.length = m ∧ ∃ n, runR n N b ds = some r := by
  unfold runRF at h
  split at h
  · rename_i e; exact ⟨e, n, h⟩
  · cases h
theorem runRF_rt {m n : Nat} {N : List Str} {b : Sxs} {ds : List D} {u : U} {t : T} {ρ : Rh} (hl : ds.length = m) (h : sxs [] n b (begR N ds) = some (.rt u ρ)) (ht : u.t = some t) : runRF m n N b ds = some (.ok t) := by
  unfold runRF; rw [if_pos hl]; unfold runR; rw [h]; simp only [ht]; rfl
theorem runRF_xc {m n : Nat} {N : List Str} {b : Sxs} {ds : List D} {c : Str} {fs : List (Str × D)} {ρ : Rh} (hl : ds.length = m) (h : sxs [] n b (begR N ds) = some (.xc c fs ρ)) : runRF m n N b ds = some (.ex c fs) := by
  unfold runRF; rw [if_pos hl]; unfold runR; rw [h]
end Eng
/-! law_k16_whole_least_and_longest: the words of its defs (printed by wip/mk.py). -/
namespace Lw
open PySem L2 Eng
def N_let_by : List Str := ["items", "places", "k", "item"]
def l1_let_by : Ss :=
  (.cons (.ite (.and (.cmp .Eq (.bin .BitAnd (.bin .RShift (.var 1) (.var 2)) (.cst (.int 1))) (.cst (.int 1))) (.one (.cmp .In (.idx (.var 3) (.cst (.int 2))) (.cst (.str [42, 63])))))
  (.cons (.aug 1 .BitOr (.bin .LShift (.cst (.int 1)) (.bin .Add (.var 2) (.cst (.int 1))))) .nil)
  .nil) .nil)
def b_let_by : Ss :=
  (.cons (.for (.tp [2, 3]) (.enm (.var 0))
  l1_let_by) (.cons (.retO 1) .nil))
def F_let_by : List D → Option T := runF 2 100000 N_let_by b_let_by
def N_first_places : List Str := ["items"]
def b_first_places : Ss :=
  (.cons (.ret (.cal "let_by" F_let_by [] (.cons (.var 0) (.cons (.cst (.int 1)) .nil)))) .nil)
def F_first_places : List D → Option T := runF 1 100000 N_first_places b_first_places
def N_holds : List Str := ["item", "sign"]
def b_holds : Ss :=
  (.cons (.ret (.cmp .NotEq (.cmp .In (.var 1) (.idx (.var 0) (.cst (.int 0)))) (.idx (.var 0) (.cst (.int 1))))) .nil)
def F_holds : List D → Option T := runF 2 100000 N_holds b_holds
def N_stepped : List Str := ["items", "places", "sign", "after", "k", "item"]
def l1_stepped : Ss :=
  (.cons (.ite (.and (.cmp .Eq (.bin .BitAnd (.bin .RShift (.var 1) (.var 4)) (.cst (.int 1))) (.cst (.int 1))) (.one (.cal "holds" F_holds [] (.cons (.var 5) (.cons (.var 2) .nil)))))
  (.cons (.ite (.cmp .In (.idx (.var 5) (.cst (.int 2))) (.cst (.str [42, 43])))
  (.cons (.aug 3 .BitOr (.bin .LShift (.cst (.int 1)) (.var 4))) .nil)
  .nil) (.cons (.ite (.cmp .NotEq (.idx (.var 5) (.cst (.int 2))) (.cst (.str [42])))
  (.cons (.aug 3 .BitOr (.bin .LShift (.cst (.int 1)) (.bin .Add (.var 4) (.cst (.int 1))))) .nil)
  .nil) .nil))
  .nil) .nil)
def b_stepped : Ss :=
  (.cons (.set 3 (.cst (.int 0))) (.cons (.for (.tp [4, 5]) (.enm (.var 0))
  l1_stepped) (.cons (.ret (.cal "let_by" F_let_by [] (.cons (.var 0) (.cons (.var 3) .nil)))) .nil)))
def F_stepped : List D → Option T := runF 3 100000 N_stepped b_stepped
def N_is_done : List Str := ["items", "places"]
def b_is_done : Ss :=
  (.cons (.ret (.cmp .Eq (.bin .BitAnd (.bin .RShift (.var 1) (.bi .len (.cons (.var 0) .nil))) (.cst (.int 1))) (.cst (.int 1)))) .nil)
def F_is_done : List D → Option T := runF 2 100000 N_is_done b_is_done
def N_last_end : List Str := ["one", "row", "begin", "items", "places", "at", "end"]
def l1_last_end : Ss :=
  (.cons (.ite (.and (.cal "is_done" F_is_done [] (.cons (.var 3) (.cons (.var 4) .nil))) (.one (.or (.cmp .Eq (.var 5) (.bi .len (.cons (.var 1) .nil))) (.one (.not (.idx (.var 0) (.cst (.int 2))))))))
  (.cons (.set 6 (.var 5)) .nil)
  .nil) (.cons (.ite (.cmp .Eq (.var 5) (.bi .len (.cons (.var 1) .nil)))
  (.cons .brk .nil)
  .nil) (.frz 3 (.frz 4 (.cons (.set 4 (.cal "stepped" F_stepped [] (.cons (.var 3) (.cons (.var 4) (.cons (.idx (.var 1) (.var 5)) .nil))))) (.cons (.aug 5 .Add (.cst (.int 1))) .nil))))))
def b_last_end : Ss :=
  (.cons (.set 3 (.idx (.var 0) (.cst (.int 1)))) (.frz 3 (.cons (.set 4 (.cal "first_places" F_first_places [] (.cons (.var 3) .nil))) (.cons (.set 5 (.var 2)) (.cons (.set 6 (.cst .non)) (.cons (.whl (.cmp .NotEq (.var 4) (.cst (.int 0)))
  l1_last_end) (.cons (.retO 6) .nil)))))))
def F_last_end : List D → Option T := runF 3 100000 N_last_end b_last_end
def N_stretch : List Str := ["one", "row", "start", "behind", "begin", "end"]
def l1_stretch : Ss :=
  (.cons (.set 5 (.cal "last_end" F_last_end [] (.cons (.var 0) (.cons (.var 1) (.cons (.var 4) .nil))))) (.cons (.ite (.cmp .IsNot (.var 5) (.cst .non))
  (.cons (.retT (.cons (.var 4) (.cons (.var 5) .nil))) .nil)
  .nil) .nil))
def b_stretch : Ss :=
  (.cons (.set 3 (.bin .Add (.bi .len (.cons (.var 1) .nil)) (.cst (.int 1)))) (.cons (.ite (.idx (.var 0) (.cst (.int 0)))
  (.cons (.set 3 (.cst (.int 1))) .nil)
  .nil) (.cons (.for (.nm 4) (.rng2 (.var 2) (.var 3))
  l1_stretch) (.cons (.ret (.cst .non)) .nil))))
def F_stretch : List D → Option T := runF 3 100000 N_stretch b_stretch
def N_found : List Str := ["one", "row"]
def b_found : Ss :=
  (.cons (.ret (.cmp .IsNot (.cal "stretch" F_stretch [(.int 0)] (.cons (.var 0) (.cons (.var 1) .nil))) (.cst .non))) .nil)
def F_found : List D → Option T := runF 2 100000 N_found b_found
def N_w_cell_at : List Str := ["_law_script", "_law_k"]
def b_w_cell_at : Ss :=
  (.cons (.ite (.cmp .Lt (.var 1) (.bi .len (.cons (.var 0) .nil)))
  (.cons (.ret (.idx (.var 0) (.var 1))) .nil)
  .nil) (.cons (.ret (.cst (.int 0))) .nil))
def F_w_cell_at : List D → Option T := runF 2 100000 N_w_cell_at b_w_cell_at
def N_w_signs : List Str := ["_law_some"]
def b_w_signs : Ss :=
  (.cons (.set 0 (.cst (.str [32, 33, 34, 35, 36, 38, 39, 40, 41, 42, 43, 44, 45, 46, 47, 48, 49, 50, 51, 52, 53, 54, 55, 56, 57, 58, 59, 60, 61, 62, 63, 64, 65, 66, 67, 68, 69, 70, 71, 72, 73, 74, 75, 76, 77, 78, 79, 80, 81, 82, 83, 84, 85, 86, 87, 88, 89, 90, 91, 92, 93, 94, 95, 96]))) (.cons (.ret (.bin .Add (.var 0) (.cst (.str [97, 98, 99, 100, 101, 102, 103, 104, 105, 106, 107, 108, 109, 110, 111, 112, 113, 114, 115, 116, 117, 118, 119, 120, 121, 122, 123, 124, 125, 126])))) .nil))
def F_w_signs : List D → Option T := runF 0 100000 N_w_signs b_w_signs
def N_w_four : List Str := ["_law_cell", "_law_some", "_law_x", "_law_y", "_law_left", "_law_w", "_law_z", "_law_sign"]
def b_w_four : Ss :=
  (.cons (.set 1 (.lc [("_law_sign", 7)] (.nm 7) (.seq (.cal "_law_signs" F_w_signs [] .nil)) (.som (.cmp .NotIn (.var 7) (.cst (.str [93, 94, 47])))) (.var 7))) (.cons (.set 2 (.bin .Mod (.var 0) (.cst (.int 91)))) (.cons (.set 3 (.bin .Mod (.bin .Add (.bin .Add (.var 2) (.cst (.int 1))) (.bin .Mod (.bin .FloorDiv (.var 0) (.cst (.int 91))) (.cst (.int 90)))) (.cst (.int 91)))) (.frz 1 (.cons (.setL 4 (.lc [("_law_sign", 7)] (.nm 7) (.seq (.var 1)) (.som (.and (.cmp .NotEq (.var 7) (.idx (.var 1) (.var 2))) (.one (.cmp .NotEq (.var 7) (.idx (.var 1) (.var 3)))))) (.var 7))) (.cons (.set 5 (.bin .Mod (.bin .FloorDiv (.var 0) (.cst (.int 8190))) (.cst (.int 89)))) (.cons (.set 6 (.bin .Mod (.bin .Add (.bin .Add (.var 5) (.cst (.int 1))) (.bin .Mod (.bin .FloorDiv (.var 0) (.cst (.int 728910))) (.cst (.int 88)))) (.cst (.int 89)))) (.cons (.ret (.lst (.cons (.idx (.var 1) (.var 2)) (.cons (.idx (.var 1) (.var 3)) (.cons (.idx (.var 4) (.var 5)) (.cons (.idx (.var 4) (.var 6)) .nil)))))) .nil))))))))
def F_w_four : List D → Option T := runF 1 100000 N_w_four b_w_four
def N_w_item : List Str := ["_law_cell", "_law_four_here", "_law_x", "_law_y", "_law_w", "_law_z", "_law_signs_here", "_law_others", "_law_far", "_law_sign", "_law_k"]
def b_w_item : Ss :=
  (.cons (.setT [2, 3, 4, 5] (.var 1)) (.cons (.setT [6, 7] (.idx (.lst (.cons (.tup (.cons (.var 2) (.cons (.cst (.bl false)) .nil))) (.cons (.tup (.cons (.var 3) (.cons (.cst (.bl false)) .nil))) (.cons (.tup (.cons (.bin .Add (.var 2) (.var 3)) (.cons (.cst (.bl false)) .nil))) (.cons (.tup (.cons (.var 2) (.cons (.cst (.bl true)) .nil))) (.cons (.tup (.cons (.bin .Add (.var 2) (.var 3)) (.cons (.cst (.bl true)) .nil))) (.cons (.tup (.cons (.cst (.str [])) (.cons (.cst (.bl true)) .nil))) .nil))))))) (.bin .Mod (.var 0) (.cst (.int 6))))) (.cons (.ite (.and (.cmp .Eq (.bin .Mod (.bin .FloorDiv (.var 0) (.cst (.int 24))) (.cst (.int 2))) (.cst (.int 1))) (.one (.cmp .Lt (.bin .Mod (.var 0) (.cst (.int 6))) (.cst (.int 5)))))
  (.cons (.set 8 (.lc [("_law_sign", 9)] (.nm 9) (.seq (.cal "_law_signs" F_w_signs [] .nil)) (.som (.cmp .NotIn (.var 9) (.bin .Add (.bin .Add (.bin .Add (.bin .Add (.cst (.str [93, 94, 47])) (.var 2)) (.var 3)) (.var 4)) (.var 5)))) (.var 9))) (.frz 6 (.cons (.set 6 (.bin .Add (.bin .Add (.var 6) (.var 4)) (.mth .join (.cst (.str [])) (.cons (.lc [("_law_k", 10)] (.nm 10) (.rng1 (.cst (.int 9))) .non (.idx (.var 8) (.bin .Mod (.bin .Add (.var 0) (.bin .Mult (.cst (.int 7)) (.var 10))) (.cst (.int 87))))) .nil)))) .nil)))
  .nil) (.cons (.retT (.cons (.var 6) (.cons (.var 7) (.cons (.idx (.lst (.cons (.cst (.str [49])) (.cons (.cst (.str [42])) (.cons (.cst (.str [43])) (.cons (.cst (.str [63])) .nil))))) (.bin .Mod (.bin .FloorDiv (.var 0) (.cst (.int 6))) (.cst (.int 4)))) .nil)))) .nil))))
def F_w_item : List D → Option T := runF 2 100000 N_w_item b_w_item
def N_w_load : List Str := ["_law_cell", "_law_mixed", "_law_folded", "_law_turn"]
def l1_w_load : Ss :=
  (.cons (.set 1 (.bin .Mod (.bin .Add (.bin .Mult (.var 1) (.cst (.int 48271))) (.cst (.int 9973))) (.cst (.int 2147483629)))) (.frz 2 (.cons (.set 2 (.bin .Add (.bin .Mult (.var 2) (.cst (.int 2147483587))) (.bin .Mod (.bin .Mult (.var 1) (.var 1)) (.cst (.int 2147483587))))) .nil)))
def b_w_load : Ss :=
  (.cons (.ite (.cmp .GtE (.bi .abs (.cons (.var 0) .nil)) (.bin .Pow (.cst (.int 2)) (.cst (.int 63))))
  (.cons (.retO 0) .nil)
  .nil) (.cons (.set 1 (.bin .Mod (.bin .Add (.bin .Mult (.var 0) (.cst (.int 48271))) (.cst (.int 11))) (.cst (.int 2147483647)))) (.cons (.set 2 (.cst (.int 0))) (.cons (.for (.nm 3) (.rng1 (.cst (.int 14)))
  l1_w_load) (.cons (.retO 2) .nil)))))
def F_w_load : List D → Option T := runF 1 100000 N_w_load b_w_load
def N_w_item_by : List Str := ["_law_number", "_law_left", "_law_way", "_law_many", "_law_size", "_law_signs_here", "_law_k", "_law_sign"]
def l1_w_item_by : Sxs :=
  (.frz 5 (.cons (.set 5 (.bin .Add (.pe (.var 5)) (.popi (.slot 1) (.pe (.bin .Mod (.var 0) (.bi .len (.cons (.var 1) .nil))))))) (.cons (.set 0 (.pe (.bin .FloorDiv (.var 0) (.bin .Add (.bi .len (.cons (.var 1) .nil)) (.cst (.int 1)))))) .nil)))
def b_w_item_by : Sxs :=
  (.cons (.setL 1 (.lc [("_law_sign", 7)] (.nm 7) (.seq (.cal "_law_signs" F_w_signs [] .nil)) (.som (.cmp .NotIn (.var 7) (.cst (.str [93, 94, 47])))) (.var 7))) (.cons (.set 2 (.pe (.bin .Mod (.var 0) (.cst (.int 3))))) (.cons (.set 3 (.pe (.idx (.lst (.cons (.cst (.str [49])) (.cons (.cst (.str [42])) (.cons (.cst (.str [43])) (.cons (.cst (.str [63])) .nil))))) (.bin .Mod (.bin .FloorDiv (.var 0) (.cst (.int 3))) (.cst (.int 4)))))) (.cons (.set 4 (.pe (.bin .Add (.cst (.int 1)) (.bin .Mod (.bin .FloorDiv (.var 0) (.cst (.int 12))) (.cst (.int 12)))))) (.cons (.set 0 (.pe (.bin .FloorDiv (.var 0) (.cst (.int 144))))) (.cons (.set 5 (.pe (.cst (.str [])))) (.cons (.for (.nm 6) (.pi (.rng1 (.var 4)))
  l1_w_item_by) (.cons (.ite (.pe (.cmp .Eq (.var 2) (.cst (.int 2))))
  (.cons (.ret (.lst (.cons (.tup (.cons (.pe (.cst (.str []))) (.cons (.pe (.cst (.bl true))) (.cons (.mv 3) .nil)))) (.cons (.mv 0) .nil)))) .nil)
  .nil) (.cons (.ret (.lst (.cons (.tup (.cons (.mv 5) (.cons (.pe (.cmp .Eq (.var 2) (.cst (.int 1)))) (.cons (.mv 3) .nil)))) (.cons (.mv 0) .nil)))) .nil)))))))))
def F_w_item_by : List D → Option T := runXF 1 100000 N_w_item_by b_w_item_by
def N_w_items_by : List Str := ["_law_number", "_law_most", "_law_items", "_law_rest", "_law_k", "_law_item_here"]
def l1_w_items_by : Ss :=
  (.frz 3 (.cons (.setT [5, 3] (.cal "_law_item_by" F_w_item_by [] (.cons (.var 3) .nil))) (.cons (.app 2 (.var 5)) .nil)))
def b_w_items_by : Ss :=
  (.cons (.set 2 (.lst .nil)) (.cons (.set 3 (.bin .FloorDiv (.var 0) (.bin .Add (.var 1) (.cst (.int 1))))) (.cons (.for (.nm 4) (.rng1 (.bin .Mod (.var 0) (.bin .Add (.var 1) (.cst (.int 1)))))
  l1_w_items_by) (.cons (.retO 2) .nil))))
def F_w_items_by : List D → Option T := runF 2 100000 N_w_items_by b_w_items_by
def N_w_made_by : List Str := ["_law_items", "_law_number", "_law_row", "_law_item_here", "_law_some", "_law_many", "_law_k", "_law_sign"]
def l1_w_made_by : Ss :=
  (.frz 2 (.frz 4 (.cons (.set 2 (.bin .Add (.var 2) (.idx (.var 4) (.bin .Mod (.var 1) (.bi .len (.cons (.var 4) .nil)))))) (.cons (.set 1 (.bin .FloorDiv (.var 1) (.bi .len (.cons (.var 4) .nil)))) .nil))))
def l2_w_made_by : Ss :=
  (.cons (.setL 4 (.lc [("_law_sign", 7)] (.nm 7) (.seq (.cal "_law_signs" F_w_signs [] .nil)) (.som (.cmp .NotEq (.cmp .In (.var 7) (.idx (.var 3) (.cst (.int 0)))) (.idx (.var 3) (.cst (.int 1))))) (.var 7))) (.cons (.set 5 (.bin .Mod (.var 1) (.cst (.int 6)))) (.cons (.set 1 (.bin .FloorDiv (.var 1) (.cst (.int 6)))) (.cons (.ite (.or (.cmp .Eq (.idx (.var 3) (.cst (.int 2))) (.cst (.str [49]))) (.one (.and (.cmp .Eq (.idx (.var 3) (.cst (.int 2))) (.cst (.str [43]))) (.one (.cmp .Eq (.var 5) (.cst (.int 0)))))))
  (.cons (.set 5 (.cst (.int 1))) .nil)
  .nil) (.cons (.ite (.cmp .Eq (.idx (.var 3) (.cst (.int 2))) (.cst (.str [63])))
  (.cons (.set 5 (.bin .Mod (.var 5) (.cst (.int 2)))) .nil)
  .nil) (.cons (.for (.nm 6) (.rng1 (.var 5))
  l1_w_made_by) .nil))))))
def b_w_made_by : Ss :=
  (.cons (.set 2 (.cst (.str []))) (.cons (.for (.nm 3) (.seq (.var 0))
  l2_w_made_by) (.cons (.retO 2) .nil)))
def F_w_made_by : List D → Option T := runF 2 100000 N_w_made_by b_w_made_by
def N_w_row_by : List Str := ["_law_number", "_law_letters", "_law_row", "_law_rest", "_law_k"]
def l1_w_row_by : Ss :=
  (.frz 2 (.cons (.set 2 (.bin .Add (.var 2) (.idx (.var 1) (.bin .Mod (.var 3) (.bi .len (.cons (.var 1) .nil)))))) (.cons (.set 3 (.bin .FloorDiv (.var 3) (.bi .len (.cons (.var 1) .nil)))) .nil)))
def b_w_row_by : Ss :=
  (.cons (.set 2 (.cst (.str []))) (.cons (.set 3 (.bin .FloorDiv (.var 0) (.cst (.int 13)))) (.cons (.for (.nm 4) (.rng1 (.bin .Mod (.var 0) (.cst (.int 13))))
  l1_w_row_by) (.cons (.retO 2) .nil))))
def F_w_row_by : List D → Option T := runF 2 100000 N_w_row_by b_w_row_by
def N_w_drawn_by : List Str := ["_law_script", "_law_items", "_law_letters", "_law_left", "_law_right", "_law_made_here", "_law_item_here"]
def b_w_drawn_by : Ss :=
  (.cons (.set 1 (.cal "_law_items_by" F_w_items_by [] (.cons (.cal "_law_load" F_w_load [] (.cons (.cal "_law_cell_at" F_w_cell_at [] (.cons (.var 0) (.cons (.cst (.int 1)) .nil))) .nil)) (.cons (.cst (.int 8)) .nil)))) (.cons (.set 2 (.cal "_law_signs" F_w_signs [] .nil)) (.cons (.ite (.cmp .Eq (.bin .Mod (.cal "_law_cell_at" F_w_cell_at [] (.cons (.var 0) (.cons (.cst (.int 4)) .nil))) (.cst (.int 2))) (.cst (.int 0)))
  (.cons (.set 2 (.bin .Add (.cst (.str [97, 98])) (.mth .join (.cst (.str [])) (.cons (.lc [("_law_item_here", 6)] (.nm 6) (.seq (.var 1)) .non (.idx (.var 6) (.cst (.int 0)))) .nil)))) .nil)
  .nil) (.frz 2 (.cons (.set 3 (.cal "_law_row_by" F_w_row_by [] (.cons (.cal "_law_load" F_w_load [] (.cons (.bin .FloorDiv (.cal "_law_cell_at" F_w_cell_at [] (.cons (.var 0) (.cons (.cst (.int 4)) .nil))) (.cst (.int 2))) .nil)) (.cons (.var 2) .nil)))) (.frz 2 (.cons (.set 4 (.cal "_law_row_by" F_w_row_by [] (.cons (.cal "_law_load" F_w_load [] (.cons (.cal "_law_cell_at" F_w_cell_at [] (.cons (.var 0) (.cons (.cst (.int 5)) .nil))) .nil)) (.cons (.var 2) .nil)))) (.cons (.set 5 (.cst (.str []))) (.cons (.ite (.cmp .Eq (.bin .Mod (.cal "_law_cell_at" F_w_cell_at [] (.cons (.var 0) (.cons (.cst (.int 3)) .nil))) (.cst (.int 2))) (.cst (.int 0)))
  (.frz 1 (.cons (.set 5 (.cal "_law_made_by" F_w_made_by [] (.cons (.var 1) (.cons (.cal "_law_load" F_w_load [] (.cons (.bin .FloorDiv (.cal "_law_cell_at" F_w_cell_at [] (.cons (.var 0) (.cons (.cst (.int 3)) .nil))) (.cst (.int 2))) .nil)) .nil)))) .nil))
  .nil) (.cons (.ret (.lst (.cons (.var 1) (.cons (.bin .Add (.bin .Add (.var 3) (.var 5)) (.var 4)) .nil)))) .nil))))))))))
def F_w_drawn_by : List D → Option T := runF 1 100000 N_w_drawn_by b_w_drawn_by
def N_w_made : List Str := ["_law_items", "_law_cells", "_law_four_here", "_law_row", "_law_item_here", "_law_cell", "_law_some", "_law_many", "_law_sign", "_law_k"]
def l1_w_made : Ss :=
  (.cons (.set 6 (.lc [("_law_sign", 8)] (.nm 8) (.seq (.var 2)) (.som (.cmp .NotEq (.cmp .In (.var 8) (.idx (.var 4) (.cst (.int 0)))) (.idx (.var 4) (.cst (.int 1))))) (.var 8))) (.cons (.set 7 (.bin .Mod (.bin .FloorDiv (.var 5) (.cst (.int 48))) (.cst (.int 4)))) (.cons (.ite (.or (.cmp .Eq (.idx (.var 4) (.cst (.int 2))) (.cst (.str [49]))) (.one (.and (.cmp .Eq (.idx (.var 4) (.cst (.int 2))) (.cst (.str [43]))) (.one (.cmp .Eq (.var 7) (.cst (.int 0)))))))
  (.cons (.set 7 (.cst (.int 1))) .nil)
  .nil) (.cons (.ite (.cmp .Eq (.idx (.var 4) (.cst (.int 2))) (.cst (.str [63])))
  (.cons (.set 7 (.bin .Mod (.var 7) (.cst (.int 2)))) .nil)
  .nil) (.frz 3 (.cons (.set 3 (.bin .Add (.var 3) (.mth .join (.cst (.str [])) (.cons (.lc [("_law_k", 9)] (.nm 9) (.rng1 (.var 7)) .non (.idx (.var 6) (.bin .Mod (.bin .Add (.bin .FloorDiv (.var 5) (.cst (.int 192))) (.var 9)) (.bi .len (.cons (.var 6) .nil))))) .nil)))) .nil))))))
def b_w_made : Ss :=
  (.cons (.set 3 (.cst (.str []))) (.cons (.for (.tp [4, 5]) (.zip (.var 0) (.var 1))
  l1_w_made) (.cons (.retO 3) .nil)))
def F_w_made : List D → Option T := runF 3 100000 N_w_made b_w_made
def N_w_whole : List Str := ["_law_told"]
def b_w_whole : Ss :=
  (.cons (.ret (.and (.isi (.var 0) "int" "int") (.one (.not (.isi (.var 0) "bool" "bool"))))) .nil)
def F_w_whole : List D → Option T := runF 1 100000 N_w_whole b_w_whole
def N_w_is_stretch : List Str := ["_law_told", "_law_row"]
def b_w_is_stretch : Ss :=
  (.cons (.ite (.or (.not (.isi (.var 0) "tuple" "tuple")) (.or (.cmp .NotEq (.bi .len (.cons (.var 0) .nil)) (.cst (.int 2))) (.or (.not (.cal "_law_whole" F_w_whole [] (.cons (.idx (.var 0) (.cst (.int 0))) .nil))) (.one (.not (.cal "_law_whole" F_w_whole [] (.cons (.idx (.var 0) (.cst (.int 1))) .nil)))))))
  (.cons (.ret (.cst (.bl false))) .nil)
  .nil) (.cons (.ret (.and (.cmp .LtE (.cst (.int 0)) (.idx (.var 0) (.cst (.int 0)))) (.and (.cmp .LtE (.idx (.var 0) (.cst (.int 0))) (.idx (.var 0) (.cst (.int 1)))) (.one (.cmp .LtE (.idx (.var 0) (.cst (.int 1))) (.bi .len (.cons (.var 1) .nil))))))) .nil))
def F_w_is_stretch : List D → Option T := runF 2 100000 N_w_is_stretch b_w_is_stretch
def N_w_held : List Str := ["_law_one", "_law_row", "_law_pair"]
def b_w_held : Ss :=
  (.cons (.ret (.cmp .Is (.cal "found" F_found [] (.cons (.tup (.cons (.cst (.bl true)) (.cons (.idx (.var 0) (.cst (.int 1))) (.cons (.cst (.bl true)) .nil)))) (.cons (.slc (.var 1) (.som (.idx (.var 2) (.cst (.int 0)))) (.som (.idx (.var 2) (.cst (.int 1))))) .nil))) (.cst (.bl true)))) .nil)
def F_w_held : List D → Option T := runF 3 100000 N_w_held b_w_held
def N_w_pairs : List Str := ["_law_cells", "_law_row", "_law_last", "_law_pairs_here", "_law_cell", "_law_begin"]
def l1_w_pairs : Ss :=
  (.cons (.set 5 (.bin .Mod (.var 4) (.bin .Add (.var 2) (.cst (.int 1))))) (.frz 5 (.cons (.app 3 (.tup (.cons (.var 5) (.cons (.bin .Add (.var 5) (.bin .Mod (.bin .FloorDiv (.var 4) (.bin .Add (.var 2) (.cst (.int 1)))) (.bin .Add (.bin .Sub (.bi .len (.cons (.var 1) .nil)) (.var 5)) (.cst (.int 1))))) .nil)))) .nil)))
def b_w_pairs : Ss :=
  (.cons (.set 3 (.lst .nil)) (.cons (.for (.nm 4) (.seq (.var 0))
  l1_w_pairs) (.cons (.retO 3) .nil)))
def F_w_pairs : List D → Option T := runF 3 100000 N_w_pairs b_w_pairs
def N_w_longer : List Str := ["_law_one", "_law_row", "_law_told", "_law_sides", "_law_left", "_law_right", "_law_longer_here", "_law_there", "_law_again"]
def b_w_longer : Ss :=
  (.cons (.set 4 (.mth .join (.cst (.str [])) (.cons (.slc (.var 3) .non (.som (.cst (.int 3)))) .nil))) (.cons (.set 5 (.mth .join (.cst (.str [])) (.cons (.slc (.var 3) (.som (.cst (.int 3))) .non) .nil))) (.frz 4 (.frz 5 (.cons (.set 6 (.bin .Add (.bin .Add (.var 4) (.var 1)) (.var 5))) (.frz 6 (.cons (.set 7 (.cal "stretch" F_stretch [(.int 0)] (.cons (.var 0) (.cons (.var 6) .nil)))) (.cons (.ite (.or (.not (.cal "_law_is_stretch" F_w_is_stretch [] (.cons (.var 7) (.cons (.var 6) .nil)))) (.one (.cmp .Gt (.idx (.var 7) (.cst (.int 0))) (.bin .Add (.bi .len (.cons (.var 4) .nil)) (.idx (.var 2) (.cst (.int 0)))))))
  (.cons (.ret (.cst (.bl false))) .nil)
  .nil) (.cons (.ite (.and (.cmp .Eq (.idx (.var 7) (.cst (.int 0))) (.bin .Add (.bi .len (.cons (.var 4) .nil)) (.idx (.var 2) (.cst (.int 0))))) (.one (.cmp .Lt (.idx (.var 7) (.cst (.int 1))) (.bin .Add (.bi .len (.cons (.var 4) .nil)) (.idx (.var 2) (.cst (.int 1)))))))
  (.cons (.ret (.cst (.bl false))) .nil)
  .nil) (.frz 6 (.cons (.set 8 (.cal "stretch" F_stretch [] (.cons (.var 0) (.cons (.var 6) (.cons (.bin .Add (.bi .len (.cons (.var 4) .nil)) (.idx (.var 2) (.cst (.int 0)))) .nil))))) (.cons (.ret (.and (.cal "_law_is_stretch" F_w_is_stretch [] (.cons (.var 8) (.cons (.var 6) .nil))) (.and (.cmp .Eq (.idx (.var 8) (.cst (.int 0))) (.bin .Add (.bi .len (.cons (.var 4) .nil)) (.idx (.var 2) (.cst (.int 0))))) (.one (.cmp .GtE (.idx (.var 8) (.cst (.int 1))) (.bin .Add (.bi .len (.cons (.var 4) .nil)) (.idx (.var 2) (.cst (.int 1))))))))) .nil))))))))))))
def F_w_longer : List D → Option T := runF 4 100000 N_w_longer b_w_longer
def N_law : List Str := ["_law_script", "_law_first", "_law_four_here", "_law_cells", "_law_items", "_law_row", "_law_one", "_law_told", "_law_later", "_law_cell", "_law_sides", "_law_at", "_law_pairs_here", "_law_end", "_law_k", "_law_pair"]
def b_law : Ss :=
  (.cons (.set 1 (.cal "_law_cell_at" F_w_cell_at [] (.cons (.var 0) (.cons (.cst (.int 0)) .nil)))) (.cons (.set 2 (.cal "_law_four" F_w_four [] (.cons (.cal "_law_cell_at" F_w_cell_at [] (.cons (.var 0) (.cons (.cst (.int 1)) .nil))) .nil))) (.cons (.set 3 (.slc (.var 0) (.som (.cst (.int 3))) (.som (.bin .Add (.cst (.int 3)) (.bin .Mod (.var 1) (.cst (.int 5))))))) (.frz 2 (.frz 3 (.cons (.setL 4 (.lc [("_law_cell", 9)] (.nm 9) (.seq (.var 3)) .non (.cal "_law_item" F_w_item [] (.cons (.var 9) (.cons (.var 2) .nil))))) (.cons (.set 5 (.mth .join (.cst (.str [])) (.cons (.lc [("_law_cell", 9)] (.nm 9) (.seq (.slc (.var 0) (.som (.cst (.int 7))) (.som (.cst (.int 19))))) .non (.idx (.var 2) (.bin .Mod (.var 9) (.cst (.int 4))))) .nil))) (.cons (.ite (.cmp .Eq (.bin .Mod (.bin .FloorDiv (.var 1) (.cst (.int 5))) (.cst (.int 2))) (.cst (.int 1)))
  (.cons (.set 11 (.bin .Mod (.bin .FloorDiv (.var 1) (.cst (.int 10))) (.bin .Add (.bi .len (.cons (.var 5) .nil)) (.cst (.int 1))))) (.frz 2 (.frz 3 (.frz 4 (.frz 5 (.cons (.set 5 (.bin .Add (.bin .Add (.slc (.var 5) .non (.som (.var 11))) (.cal "_law_made" F_w_made [] (.cons (.var 4) (.cons (.var 3) (.cons (.var 2) .nil))))) (.slc (.var 5) (.som (.var 11)) .non))) .nil))))))
  .nil) (.cons (.ite (.cmp .Gt (.bin .Mod (.bin .FloorDiv (.var 1) (.cst (.int 5))) (.cst (.int 4))) (.cst (.int 1)))
  (.cons (.setT [4, 5] (.cal "_law_drawn_by" F_w_drawn_by [] (.cons (.var 0) .nil))) .nil)
  .nil) (.frz 4 (.cons (.set 6 (.tup (.cons (.cst (.bl false)) (.cons (.var 4) (.cons (.cst (.bl false)) .nil))))) (.frz 5 (.frz 6 (.cons (.set 7 (.cal "stretch" F_stretch [(.int 0)] (.cons (.var 6) (.cons (.var 5) .nil)))) (.cons (.ite (.cmp .Is (.var 7) (.cst .non))
  (.frz 5 (.cons (.set 12 (.cal "_law_pairs" F_w_pairs [] (.cons (.slc (.var 0) (.som (.cst (.int 19))) (.som (.cst (.int 39)))) (.cons (.var 5) (.cons (.bi .len (.cons (.var 5) .nil)) .nil))))) (.cons (.ret (.and (.not (.bi .any (.cons (.lc [("_law_pair", 15)] (.nm 15) (.seq (.var 12)) .non (.cal "_law_held" F_w_held [] (.cons (.var 6) (.cons (.var 5) (.cons (.var 15) .nil))))) .nil))) (.one (.cmp .Is (.cal "found" F_found [] (.cons (.var 6) (.cons (.var 5) .nil))) (.cst (.bl false)))))) .nil)))
  .nil) (.cons (.ite (.or (.not (.cal "_law_is_stretch" F_w_is_stretch [] (.cons (.var 7) (.cons (.var 5) .nil)))) (.or (.not (.cal "_law_held" F_w_held [] (.cons (.var 6) (.cons (.var 5) (.cons (.var 7) .nil))))) (.one (.cmp .IsNot (.cal "found" F_found [] (.cons (.var 6) (.cons (.var 5) .nil))) (.cst (.bl true))))))
  (.cons (.ret (.cst (.bl false))) .nil)
  .nil) (.frz 7 (.cons (.setL 8 (.lc [("_law_end", 13)] (.nm 13) (.rng2 (.bin .Add (.idx (.var 7) (.cst (.int 1))) (.cst (.int 1))) (.bin .Add (.bi .len (.cons (.var 5) .nil)) (.cst (.int 1)))) .non (.tup (.cons (.idx (.var 7) (.cst (.int 0))) (.cons (.var 13) .nil))))) (.cons (.ite (.cmp .Gt (.idx (.var 7) (.cst (.int 0))) (.cst (.int 0)))
  (.frz 5 (.frz 8 (.cons (.set 8 (.bin .Add (.var 8) (.cal "_law_pairs" F_w_pairs [] (.cons (.slc (.var 0) (.som (.cst (.int 19))) (.som (.cst (.int 39)))) (.cons (.var 5) (.cons (.bin .Sub (.idx (.var 7) (.cst (.int 0))) (.cst (.int 1))) .nil)))))) .nil)))
  .nil) (.cons (.ite (.bi .any (.cons (.lc [("_law_pair", 15)] (.nm 15) (.seq (.var 8)) .non (.cal "_law_held" F_w_held [] (.cons (.var 6) (.cons (.var 5) (.cons (.var 15) .nil))))) .nil))
  (.cons (.ret (.cst (.bl false))) .nil)
  .nil) (.cons (.set 9 (.cal "_law_cell_at" F_w_cell_at [] (.cons (.var 0) (.cons (.cst (.int 2)) .nil)))) (.frz 2 (.cons (.setL 10 (.lc [("_law_k", 14)] (.nm 14) (.rng1 (.cst (.int 6))) .non (.idx (.var 2) (.bin .Mod (.bin .FloorDiv (.var 9) (.idx (.lst (.cons (.cst (.int 1)) (.cons (.cst (.int 4)) (.cons (.cst (.int 16)) (.cons (.cst (.int 64)) (.cons (.cst (.int 256)) (.cons (.cst (.int 1024)) .nil))))))) (.var 14))) (.cst (.int 4)))))) (.cons (.ret (.cal "_law_longer" F_w_longer [] (.cons (.var 6) (.cons (.var 5) (.cons (.var 7) (.cons (.var 10) .nil)))))) .nil))))))))))))))))))))))))
def F_law : List D → Option T := runF 1 100000 N_law b_law
end Lw
/-! patterns of items: what fits, and the sets of places. -/
namespace Lw
open PySem L2 Eng
/-- signs, all but these?, how often (the code of 1 * + ?) -/
structure Item where
  s : List Nat
  o : Bool
  m : Nat
deriving DecidableEq
namespace Item
def D (i : Item) : Eng.D := .tup [.str i.s, .bl i.o, .str [i.m]]
def holds (i : Item) (c : Nat) : Bool := decide (c ∈ i.s) != i.o
def skip (i : Item) : Bool := i.m == 42 || i.m == 63
def loop (i : Item) : Bool := i.m == 42 || i.m == 43
def ok (i : Item) : Prop := okT i.s ∧ i.s.length ≤ 100 ∧ (i.m = 49 ∨ i.m = 42 ∨ i.m = 43 ∨ i.m = 63)
/-- one item by itself -/
def one (i : Item) (u : List Nat) : Prop := (∀ c, c ∈ u → i.holds c = true) ∧ (i.skip = true ∨ u ≠ []) ∧ (i.loop = true ∨ u.length ≤ 1)
end Item
/-- items one behind the other -/
def fits : List Item → List Nat → Prop
  | [], w => w = []
  | i :: is, w => ∃ u v, w = u ++ v ∧ i.one u ∧ fits is v
theorem fits_append : ∀ {as bs : List Item} {w : List Nat}, fits (as ++ bs) w ↔ ∃ u v, w = u ++ v ∧ fits as u ∧ fits bs v
  | [], bs, w => ⟨fun h => ⟨[], w, rfl, rfl, h⟩, fun ⟨u, v, h1, h2, h3⟩ => by cases h2; subst h1; exact h3⟩
  | a :: as, bs, w => by
    constructor
    · rintro ⟨u, v, rfl, h1, h2⟩
      obtain ⟨u', v', rfl, h3, h4⟩ := fits_append.mp h2
      exact ⟨u ++ u', v', (List.append_assoc ..).symm, ⟨u, u', rfl, h1, h3⟩, h4⟩
    · rintro ⟨u, v, rfl, ⟨u1, u2, rfl, h1, h2⟩, h3⟩
      exact ⟨u1, u2 ++ v, (List.append_assoc ..), h1, fits_append.mpr ⟨u2, v, rfl, h2, h3⟩⟩
theorem fits_snoc {as : List Item} {i : Item} {w : List Nat} : fits (as ++ [i]) w ↔ ∃ u v, w = u ++ v ∧ fits as u ∧ i.one v := by
  rw [fits_append]
  constructor
  · rintro ⟨u, v, rfl, h1, u2, v2, rfl, h2, h3⟩
    cases h3
    exact ⟨u, u2, by simp, h1, h2⟩
  · rintro ⟨u, v, rfl, h1, h2⟩
    exact ⟨u, v, rfl, h1, v, [], by simp, h2, rfl⟩
/-- as the sets of places are reckoned -/
def letN : List Item → Nat → Nat → Nat
  | [], _, p => p
  | i :: is, k, p => letN is (k + 1) (if (p.testBit k && i.skip) = true then orN p (sbit (k + 1)) else p)
def stepN : List Item → Nat → Nat → Nat → Nat → Nat
  | [], _, _, _, a => a
  | i :: is, k, p, c, a => stepN is (k + 1) p c (if (p.testBit k && i.holds c) = true then
      (if i.m ≠ 42 then orN (if i.loop = true then orN a (sbit k) else a) (sbit (k + 1)) else (if i.loop = true then orN a (sbit k) else a)) else a)
def firstN (is : List Item) : Nat := letN is 0 1
def nextN (is : List Item) (p c : Nat) : Nat := letN is 0 (stepN is 0 p c 0)
def runN (is : List Item) (w : List Nat) : Nat := w.foldl (nextN is) (firstN is)
theorem one_bit (j : Nat) : (1 : Nat).testBit j = decide (j = 0) := by
  cases j with
  | zero => rfl
  | succ j => rw [Nat.testBit_succ]; simp
theorem orN_bit (a b j : Nat) : (orN a b).testBit j = (a.testBit j || b.testBit j) := Nat.testBit_or ..
theorem bit1 (k j : Nat) : (sbit k).testBit j = decide (j = k) := by
  unfold sbit
  rw [Nat.testBit_shiftLeft]
  by_cases h : j = k
  · subst h; simp
  · by_cases h2 : k ≤ j
    · have : j - k ≠ 0 := by omega
      simp [h, h2, one_bit]; omega
    · simp [h2, h]
/-- the closure, bit by bit -/
def clo (is : List Item) (P : Nat → Prop) : Nat → Prop
  | 0 => P 0
  | k + 1 => P (k + 1) ∨ (clo is P k ∧ ∃ i, is[k]? = some i ∧ i.skip = true)
theorem letN_bit : ∀ (is : List Item) (as : List Item) (p q : Nat), (∀ j, p.testBit j = true ↔ (if j ≤ as.length then clo (as ++ is) (fun k => q.testBit k = true) j else q.testBit j = true)) →
    ∀ j, (letN is as.length p).testBit j = true ↔ clo (as ++ is) (fun k => q.testBit k = true) j
  | [], as, p, q, h, j => by
    unfold letN
    rw [h j]
    split
    · exact Iff.rfl
    · rename_i hj
      obtain ⟨k, rfl⟩ : ∃ k, j = k + 1 := ⟨j - 1, by omega⟩
      unfold clo
      constructor
      · exact .inl
      · rintro (h1 | ⟨_, i, h2, _⟩)
        · exact h1
        · rw [List.append_nil, List.getElem?_eq_none (by omega)] at h2; cases h2
  | i :: is, as, p, q, h, j => by
    unfold letN
    have e : as ++ i :: is = (as ++ [i]) ++ is := by simp
    rw [e]
    have el : as.length + 1 = (as ++ [i]).length := by simp
    have hk := h as.length
    rw [if_pos (Nat.le_refl _)] at hk
    have hi : (as ++ i :: is)[as.length]? = some i := by simp
    rw [show letN is (as.length + 1) = letN is (as ++ [i]).length by rw [el]]
    refine letN_bit is (as ++ [i]) _ q (fun j => ?_) j
    rw [← e, List.length_append, List.length_singleton]
    by_cases c : (p.testBit as.length && i.skip) = true
    · rw [if_pos c, orN_bit, bit1, Bool.or_eq_true, decide_eq_true_eq, h j]
      rw [Bool.and_eq_true] at c
      by_cases hj : j ≤ as.length
      · rw [if_pos hj, if_pos (by omega)]
        exact ⟨fun z => z.elim id (fun z => by omega), .inl⟩
      · rw [if_neg hj]
        by_cases hj2 : j = as.length + 1
        · subst hj2
          rw [if_pos (Nat.le_refl _)]
          exact ⟨fun _ => .inr ⟨hk.mp c.1, i, hi, c.2⟩, fun _ => .inr rfl⟩
        · rw [if_neg (by omega)]
          exact ⟨fun z => z.elim id (fun z => absurd z hj2), .inl⟩
    · rw [if_neg c, h j]
      rw [Bool.and_eq_true] at c
      by_cases hj : j ≤ as.length
      · rw [if_pos hj, if_pos (by omega)]
      · rw [if_neg hj]
        by_cases hj2 : j = as.length + 1
        · subst hj2
          rw [if_pos (Nat.le_refl _)]
          constructor
          · exact .inl
          · rintro (z | ⟨z1, i', z2, z3⟩)
            · exact z
            · rw [hi] at z2; cases z2
              exact absurd ⟨hk.mpr z1, z3⟩ c
        · rw [if_neg (by omega)]
theorem let_bit (is : List Item) (q j : Nat) : (letN is 0 q).testBit j = true ↔ clo is (fun k => q.testBit k = true) j := by
  refine letN_bit is [] q q (fun j => ?_) j
  split
  · rename_i h
    have : j = 0 := by simpa using h
    subst this
    exact Iff.rfl
  · exact Iff.rfl
/-- a step ahead of the closure, bit by bit -/
def raw (is : List Item) (p c k : Nat) : Prop := (p.testBit k = true ∧ ∃ i, is[k]? = some i ∧ i.holds c = true ∧ i.loop = true) ∨ ∃ j i, k = j + 1 ∧ p.testBit j = true ∧ is[j]? = some i ∧ i.holds c = true ∧ i.m ≠ 42
theorem stepN_bit : ∀ (is as : List Item) (p c a : Nat), (∀ j, a.testBit j = true ↔ raw as p c j) → ∀ j, (stepN is as.length p c a).testBit j = true ↔ raw (as ++ is) p c j
  | [], as, p, c, a, h, j => by unfold stepN; rw [List.append_nil]; exact h j
  | i :: is, as, p, c, a, h, j => by
    unfold stepN
    have e : as ++ i :: is = (as ++ [i]) ++ is := by simp
    rw [e, show as.length + 1 = (as ++ [i]).length by simp]
    refine stepN_bit is (as ++ [i]) p c _ (fun j => ?_) j
    have hlen : (as ++ [i]).length = as.length + 1 := by simp
    -- a cell more
    have hg : ∀ (k : Nat) (x : Item), (as ++ [i])[k]? = some x ↔ as[k]? = some x ∨ (k = as.length ∧ i = x) := by
      intro k x
      by_cases hk : k < as.length
      · rw [List.getElem?_append_left hk]
        exact ⟨.inl, fun z => z.elim id fun z => by omega⟩
      · by_cases hk2 : k = as.length
        · subst hk2
          simp
        · rw [List.getElem?_eq_none (by simp; omega), List.getElem?_eq_none (by omega)]
          simp; omega
    have hr : raw (as ++ [i]) p c j ↔ raw as p c j ∨ (p.testBit as.length = true ∧ i.holds c = true ∧ ((j = as.length ∧ i.loop = true) ∨ (j = as.length + 1 ∧ i.m ≠ 42))) := by
      unfold raw
      constructor
      · rintro (⟨h1, x, h2, h3, h4⟩ | ⟨k, x, rfl, h1, h2, h3, h4⟩)
        · rcases (hg j x).mp h2 with h2 | ⟨rfl, rfl⟩
          · exact .inl (.inl ⟨h1, x, h2, h3, h4⟩)
          · exact .inr ⟨h1, h3, .inl ⟨rfl, h4⟩⟩
        · rcases (hg k x).mp h2 with h2 | ⟨rfl, rfl⟩
          · exact .inl (.inr ⟨k, x, rfl, h1, h2, h3, h4⟩)
          · exact .inr ⟨h1, h3, .inr ⟨rfl, h4⟩⟩
      · rintro ((⟨h1, x, h2, h3, h4⟩ | ⟨k, x, rfl, h1, h2, h3, h4⟩) | ⟨h1, h2, (⟨rfl, h3⟩ | ⟨rfl, h3⟩)⟩)
        · exact .inl ⟨h1, x, (hg _ _).mpr (.inl h2), h3, h4⟩
        · exact .inr ⟨k, x, rfl, h1, (hg _ _).mpr (.inl h2), h3, h4⟩
        · exact .inl ⟨h1, i, (hg _ _).mpr (.inr ⟨rfl, rfl⟩), h2, h3⟩
        · exact .inr ⟨_, i, rfl, h1, (hg _ _).mpr (.inr ⟨rfl, rfl⟩), h2, h3⟩
    rw [hr, ← h j]
    by_cases q : (p.testBit as.length && i.holds c) = true
    · rw [if_pos q]
      rw [Bool.and_eq_true] at q
      by_cases q1 : i.m ≠ 42 <;> by_cases q2 : i.loop = true <;> simp [q1, q2, q.1, q.2, orN_bit, bit1]
      constructor
      · rintro ((z | z) | z)
        · exact .inl z
        · exact .inr (.inl z)
        · exact .inr (.inr z)
      · rintro (z | z | z)
        · exact .inl (.inl z)
        · exact .inl (.inr z)
        · exact .inr z
    · rw [if_neg q]
      rw [Bool.and_eq_true] at q
      exact ⟨.inl, fun z => z.elim id fun z => absurd ⟨z.1, z.2.1⟩ q⟩
theorem step_bit (is : List Item) (p c j : Nat) : (stepN is 0 p c 0).testBit j = true ↔ raw is p c j := by
  refine stepN_bit is [] p c 0 (fun j => ?_) j
  rw [Nat.zero_testBit]
  constructor
  · intro z; cases z
  · rintro (⟨_, i, h, _⟩ | ⟨k, i, _, _, h, _⟩) <;> simp at h
theorem next_bit (is : List Item) (p c j : Nat) : (nextN is p c).testBit j = true ↔ clo is (raw is p c) j := by
  unfold nextN
  rw [let_bit]
  have : (fun k => (stepN is 0 p c 0).testBit k = true) = raw is p c := by funext k; exact propext (step_bit is p c k)
  rw [this]
/-- a place is reached by signs -/
def Reach (is : List Item) (w : List Nat) (k : Nat) : Prop := k ≤ is.length ∧ ∃ u v, w = u ++ v ∧ fits (is.take k) u ∧ (v = [] ∨ ∃ i, is[k]? = some i ∧ i.loop = true ∧ ∀ c, c ∈ v → i.holds c = true)
theorem take_snoc {α : Type} {is : List α} {k : Nat} {i : α} (h : is[k]? = some i) : is.take (k + 1) = is.take k ++ [i] := by rw [List.take_succ, h]; rfl
theorem reach_end {is : List Item} {w : List Nat} : Reach is w is.length ↔ fits is w := by
  constructor
  · rintro ⟨_, u, v, rfl, h1, (rfl | ⟨i, h2, _⟩)⟩
    · rwa [List.take_length, ← List.append_nil u] at h1
    · rw [List.getElem?_eq_none (Nat.le_refl _)] at h2; cases h2
  · intro h
    exact ⟨Nat.le_refl _, w, [], by simp, by rwa [List.take_length], .inl rfl⟩
theorem fits_nil_reach {is : List Item} : ∀ k, Reach is [] k ↔ clo is (fun j => j = 0) k
  | 0 => by
    constructor
    · intro _; rfl
    · intro _; exact ⟨Nat.zero_le _, [], [], rfl, rfl, .inl rfl⟩
  | k + 1 => by
    have ih := fits_nil_reach (is := is) k
    unfold clo
    constructor
    · rintro ⟨hk, u, v, e, h1, _⟩
      have eu : u = [] := (List.append_eq_nil_iff.mp e.symm).1
      subst eu
      have hi : is[k]? = some is[k] := List.getElem?_eq_getElem (by omega)
      rw [take_snoc hi, fits_snoc] at h1
      obtain ⟨u1, v1, e1, h2, h3⟩ := h1
      obtain ⟨rfl, rfl⟩ := List.append_eq_nil_iff.mp e1.symm
      refine .inr ⟨ih.mp ⟨by omega, [], [], rfl, h2, .inl rfl⟩, is[k], hi, ?_⟩
      exact h3.2.1.elim id fun z => absurd rfl z
    · rintro (h | ⟨h1, i, h2, h3⟩)
      · cases h
      · obtain ⟨hk, u, v, e, h4, _⟩ := ih.mpr h1
        obtain ⟨rfl, rfl⟩ := List.append_eq_nil_iff.mp e.symm
        have hl := (List.getElem?_eq_some_iff.mp h2).1
        refine ⟨by omega, [], [], rfl, ?_, .inl rfl⟩
        rw [take_snoc h2, fits_snoc]
        exact ⟨[], [], rfl, h4, (fun c m => by cases m), .inl h3, .inr (Nat.zero_le _)⟩
theorem snoc_cases {α : Type} (v : List α) : v = [] ∨ ∃ v' c, v = v' ++ [c] := by
  rcases List.eq_nil_or_concat v with h | ⟨v', c, h⟩
  · exact .inl h
  · exact .inr ⟨v', c, by rw [h, List.concat_eq_append]⟩
theorem snoc_inj {α : Type} {w v : List α} {c d : α} (h : w ++ [c] = v ++ [d]) : w = v ∧ c = d := by
  have := List.append_inj' h rfl
  exact ⟨this.1, by simpa using this.2⟩
theorem reach_next {is : List Item} {w : List Nat} {c : Nat} {p : Nat} (hp : ∀ j, p.testBit j = true ↔ Reach is w j) : ∀ k, Reach is (w ++ [c]) k ↔ clo is (raw is p c) k
  | 0 => by
    unfold clo raw
    constructor
    · rintro ⟨hk, u, v, e, h1, h2⟩
      cases h1
      rw [List.nil_append] at e
      subst e
      rcases h2 with h2 | ⟨i, h2, h3, h4⟩
      · simp at h2
      · exact .inl ⟨(hp 0).mpr ⟨hk, [], w, rfl, rfl, .inr ⟨i, h2, h3, fun d m => h4 d (by simp [m])⟩⟩, i, h2, h4 c (by simp), h3⟩
    · rintro (⟨h1, i, h2, h3, h4⟩ | ⟨j, i, z, _⟩)
      · obtain ⟨hk, u, v, rfl, h5, h6⟩ := (hp 0).mp h1
        refine ⟨hk, u, v ++ [c], by simp, h5, .inr ⟨i, h2, h4, fun d m => ?_⟩⟩
        rcases List.mem_append.mp m with m | m
        · rcases h6 with rfl | ⟨i', h7, _, h8⟩
          · cases m
          · rw [h2] at h7; cases h7; exact h8 d m
        · rw [List.mem_singleton.mp m]; exact h3
      · cases z
  | k + 1 => by
    have ih := reach_next hp (c := c) k
    unfold clo
    constructor
    · rintro ⟨hk, u, v, e, h1, h2⟩
      rcases snoc_cases v with rfl | ⟨v', d, rfl⟩
      · rw [List.append_nil] at e
        subst e
        have hi : is[k]? = some is[k] := List.getElem?_eq_getElem (by omega)
        rw [take_snoc hi, fits_snoc] at h1
        obtain ⟨u1, v1, e1, h3, h4⟩ := h1
        rcases snoc_cases v1 with rfl | ⟨v2, d, rfl⟩
        · rw [List.append_nil] at e1
          subst e1
          exact .inr ⟨ih.mp ⟨by omega, w ++ [c], [], by simp, h3, .inl rfl⟩, _, hi, h4.2.1.elim id fun z => absurd rfl z⟩
        · rw [← List.append_assoc] at e1
          obtain ⟨rfl, rfl⟩ := snoc_inj e1
          have hc : is[k].holds c = true := h4.1 c (by simp)
          have hv : ∀ x, x ∈ v2 → is[k].holds x = true := fun x m => h4.1 x (by simp [m])
          by_cases hm : is[k].m = 42
          · refine .inr ⟨ih.mp ⟨by omega, u1, v2 ++ [c], by simp, h3, .inr ⟨_, hi, by simp [Item.loop, hm], h4.1⟩⟩, _, hi, by simp [Item.skip, hm]⟩
          · refine .inl (.inr ⟨k, is[k], rfl, (hp k).mpr ⟨by omega, u1, v2, rfl, h3, ?_⟩, hi, hc, hm⟩)
            by_cases hl : is[k].loop = true
            · exact .inr ⟨_, hi, hl, hv⟩
            · refine .inl ?_
              have := h4.2.2.elim (fun z => absurd z hl) id
              simp at this
              exact this
      · rw [← List.append_assoc] at e
        obtain ⟨rfl, rfl⟩ := snoc_inj e
        rcases h2 with h2 | ⟨i, h2, h3, h4⟩
        · simp at h2
        · exact .inl (.inl ⟨(hp _).mpr ⟨hk, u, v', rfl, h1, .inr ⟨i, h2, h3, fun x m => h4 x (by simp [m])⟩⟩, i, h2, h4 c (by simp), h3⟩)
    · rintro ((⟨h1, i, h2, h3, h4⟩ | ⟨j, i, ej, h1, h2, h3, h4⟩) | ⟨h1, i, h2, h3⟩)
      · obtain ⟨hk, u, v, rfl, h5, h6⟩ := (hp _).mp h1
        refine ⟨hk, u, v ++ [c], by simp, h5, .inr ⟨i, h2, h4, fun d m => ?_⟩⟩
        rcases List.mem_append.mp m with m | m
        · rcases h6 with rfl | ⟨i', h7, _, h8⟩
          · cases m
          · rw [h2] at h7; cases h7; exact h8 d m
        · rw [List.mem_singleton.mp m]; exact h3
      · have ej : k = j := by omega
        subst ej
        obtain ⟨hk, u, v, rfl, h5, h6⟩ := (hp _).mp h1
        have hl := (List.getElem?_eq_some_iff.mp h2).1
        refine ⟨by omega, u ++ v ++ [c], [], by simp, ?_, .inl rfl⟩
        rw [take_snoc h2, fits_snoc]
        refine ⟨u, v ++ [c], by simp, h5, fun d m => ?_, .inr (by simp), ?_⟩
        · rcases List.mem_append.mp m with m | m
          · rcases h6 with rfl | ⟨i', h7, _, h8⟩
            · cases m
            · rw [h2] at h7; cases h7; exact h8 d m
          · rw [List.mem_singleton.mp m]; exact h3
        · rcases h6 with rfl | ⟨i', h7, h8, _⟩
          · exact .inr (by simp)
          · rw [h2] at h7; cases h7; exact .inl h8
      · obtain ⟨hk, u, v, e, h5, h6⟩ := ih.mpr h1
        have hl := (List.getElem?_eq_some_iff.mp h2).1
        refine ⟨by omega, w ++ [c], [], by simp, ?_, .inl rfl⟩
        rw [take_snoc h2, fits_snoc]
        refine ⟨u, v, e, h5, ?_, .inl h3, ?_⟩
        · rcases h6 with rfl | ⟨i', h7, _, h8⟩
          · intro d m; cases m
          · rw [h2] at h7; cases h7; exact h8
        · rcases h6 with rfl | ⟨i', h7, h8, _⟩
          · exact .inr (by simp)
          · rw [h2] at h7; cases h7; exact .inl h8
theorem run_bit_n (is : List Item) : ∀ (n : Nat) (w : List Nat), w.length = n → ∀ k : Nat, (runN is w).testBit k = true ↔ Reach is w k
  | 0, w, h, k => by
    have : w = [] := List.length_eq_zero_iff.mp h
    subst this
    rw [fits_nil_reach]
    show (letN is 0 1).testBit k = true ↔ _
    rw [let_bit]
    have : (fun k => (1 : Nat).testBit k = true) = fun j => j = 0 := by
      funext j; exact propext (by rw [one_bit]; simp)
    rw [this]
  | n + 1, w, h, k => by
    rcases snoc_cases w with rfl | ⟨v, c, rfl⟩
    · cases h
    · have ih := run_bit_n is n v (by simpa using h)
      rw [reach_next ih]
      unfold runN
      rw [List.foldl_append]
      exact next_bit is _ c k
theorem run_bit (is : List Item) (w : List Nat) (k : Nat) : (runN is w).testBit k = true ↔ Reach is w k := run_bit_n is _ w rfl k
theorem run_done (is : List Item) (w : List Nat) : (runN is w).testBit is.length = true ↔ fits is w := (run_bit is w _).trans reach_end
theorem run_snoc (is : List Item) (w : List Nat) (c : Nat) : runN is (w ++ [c]) = nextN is (runN is w) c := by unfold runN; rw [List.foldl_append]; rfl
theorem next_zero (is : List Item) (c : Nat) : nextN is 0 c = 0 := by
  apply Nat.eq_of_testBit_eq
  intro j
  rw [Nat.zero_testBit, ← Bool.not_eq_true, next_bit]
  induction j with
  | zero =>
    unfold clo raw
    rintro (⟨h, _⟩ | ⟨_, _, _, h, _⟩) <;> simp at h
  | succ j ih =>
    unfold clo
    rintro ((⟨h, _⟩ | ⟨_, _, _, h, _⟩) | ⟨h, _⟩)
    · simp at h
    · simp at h
    · exact ih h
theorem run_zero (is : List Item) {w : List Nat} (h : runN is w = 0) : ∀ v, runN is (w ++ v) = 0 := by
  intro v
  induction v generalizing w with
  | nil => simpa using h
  | cons c v ih =>
    have : w ++ c :: v = (w ++ [c]) ++ v := by simp
    rw [this]
    exact ih (by rw [run_snoc, h, next_zero])
/-! ### the stretch -/
/-- e is an end of a stretch that begins at b -/
def Ends (is : List Item) (back : Bool) (row : List Nat) (b e : Nat) : Prop := b ≤ e ∧ e ≤ row.length ∧ fits is ((row.drop b).take (e - b)) ∧ (back = true → e = row.length)
/-- the last end, by going through the rest of the row -/
def lastG (is : List Item) (back : Bool) : List Nat → Nat → Nat → Option Nat → Option Nat
  | [], p, a, r => if p = 0 then r else if p.testBit is.length = true then some a else r
  | c :: cs, p, a, r => if p = 0 then r else lastG is back cs (nextN is p c) (a + 1) (if p.testBit is.length = true ∧ back = false then some a else r)
def lastF (is : List Item) (back : Bool) (row : List Nat) (b : Nat) : Option Nat := lastG is back (row.drop b) (firstN is) b none
/-- r is the greatest end -/
def Last (E : Nat → Prop) (r : Option Nat) : Prop := match r with
  | none => ∀ e, ¬E e
  | some e => E e ∧ ∀ e', E e' → e' ≤ e
theorem lastG_spec (is : List Item) (back : Bool) (row : List Nat) (b : Nat) : ∀ (cs w : List Nat) (a : Nat) (r : Option Nat), row.drop b = w ++ cs → a = b + w.length → a ≤ row.length → Last (fun e => Ends is back row b e ∧ e < a) r →
    Last (Ends is back row b) (lastG is back cs (runN is w) a r)
  | cs, w, a, r, h1, h2, h3, h4 => by
    have hlen : row.length = a + cs.length := by
      have := congrArg List.length h1
      rw [List.length_drop, List.length_append] at this; omega
    have hend : ∀ e, a ≤ e → e ≤ row.length → (Ends is back row b e ↔ fits is (w ++ cs.take (e - a)) ∧ (back = true → e = row.length)) := by
      intro e he hr
      unfold Ends
      rw [h1, List.take_append]
      have e1 : List.take (e - b) w = w := List.take_of_length_le (by omega)
      rw [e1, show e - b - w.length = e - a by omega]
      exact ⟨fun z => ⟨z.2.2.1, z.2.2.2⟩, fun z => ⟨by omega, hr, z.1, z.2⟩⟩
    -- nothing farther on where no place is left
    by_cases h0 : runN is w = 0
    · have hno : ∀ e, a ≤ e → e ≤ row.length → ¬Ends is back row b e := by
        intro e he hr z
        have := (hend e he hr).mp z
        have k := (run_done is _).mpr this.1
        rw [run_zero is h0] at k
        rw [Nat.zero_testBit] at k; cases k
      have key : Last (Ends is back row b) r := by
        cases r with
        | none =>
          intro e z
          by_cases he : e < a
          · exact h4 e ⟨z, he⟩
          · exact hno e (by omega) z.2.1 z
        | some e0 =>
          refine ⟨h4.1.1, fun e z => ?_⟩
          by_cases he : e < a
          · exact h4.2 e ⟨z, he⟩
          · exact absurd z (hno e (by omega) z.2.1)
      cases cs with
      | nil => unfold lastG; rw [if_pos h0]; exact key
      | cons c cs => unfold lastG; rw [if_pos h0]; exact key
    · cases cs with
      | nil =>
        unfold lastG
        rw [if_neg h0]
        have hal : a = row.length := by simp at hlen; omega
        have hE : Ends is back row b a ↔ (runN is w).testBit is.length = true := by
          rw [hend a (Nat.le_refl _) h3, run_done]
          simp [hal]
        split
        · rename_i q
          exact ⟨hE.mpr q, fun e z => by have := z.2.1; omega⟩
        · rename_i q
          cases r with
          | none =>
            intro e z
            by_cases he : e < a
            · exact h4 e ⟨z, he⟩
            · have : e = a := by have := z.2.1; omega
              subst this; exact q (hE.mp z)
          | some e0 =>
            refine ⟨h4.1.1, fun e z => ?_⟩
            by_cases he : e < a
            · exact h4.2 e ⟨z, he⟩
            · have : e = a := by have := z.2.1; omega
              subst this; exact absurd (hE.mp z) q
      | cons c cs =>
        unfold lastG
        rw [if_neg h0]
        have hal : a < row.length := by simp at hlen; omega
        have hE : Ends is back row b a ↔ ((runN is w).testBit is.length = true ∧ back = false) := by
          rw [hend a (Nat.le_refl _) h3, run_done]
          simp only [Nat.sub_self, List.take_zero, List.append_nil]
          refine and_congr Iff.rfl ?_
          cases back
          · simp
          · simp; omega
        rw [← run_snoc]
        refine lastG_spec is back row b cs (w ++ [c]) (a + 1) _ (by rw [h1]; simp) (by simp; omega) hal ?_
        split
        · rename_i q
          exact ⟨⟨hE.mpr q, by omega⟩, fun e z => by have := z.2; omega⟩
        · rename_i q
          cases r with
          | none =>
            rintro e ⟨z, he⟩
            by_cases he2 : e < a
            · exact h4 e ⟨z, he2⟩
            · have : e = a := by omega
              subst this; exact q (hE.mp z)
          | some e0 =>
            refine ⟨⟨h4.1.1, by have := h4.1.2; omega⟩, fun e z => ?_⟩
            by_cases he2 : e < a
            · exact h4.2 e ⟨z.1, he2⟩
            · have : e = a := by omega
              subst this; exact absurd (hE.mp z.1) q
termination_by cs => cs.length
theorem lastF_spec (is : List Item) (back : Bool) (row : List Nat) {b : Nat} (hb : b ≤ row.length) : Last (Ends is back row b) (lastF is back row b) :=
  lastG_spec is back row b (row.drop b) [] b none rfl rfl hb fun e z => by have := z.1.1; have := z.2; omega
/-- the least beginning among so many from here on -/
def firstF (f : Nat → Option Nat) : Nat → Nat → Option (Nat × Nat)
  | 0, _ => none
  | n + 1, b => match f b with
    | some e => some (b, e)
    | none => firstF f n (b + 1)
def stretchF (front : Bool) (is : List Item) (back : Bool) (row : List Nat) (start : Nat) : Option (Nat × Nat) := firstF (lastF is back row) ((if front then 1 else row.length + 1) - start) start
theorem firstF_spec (f : Nat → Option Nat) : ∀ (n b : Nat), match firstF f n b with
    | none => ∀ k, b ≤ k → k < b + n → f k = none
    | some (k, e) => b ≤ k ∧ k < b + n ∧ f k = some e ∧ ∀ j, b ≤ j → j < k → f j = none
  | 0, b => by unfold firstF; intro k h1 h2; omega
  | n + 1, b => by
    unfold firstF
    cases q : f b with
    | some e => exact ⟨Nat.le_refl _, by omega, q, fun j h1 h2 => by omega⟩
    | none =>
      have ih := firstF_spec f n (b + 1)
      show (match firstF f n (b + 1) with | none => _ | some (k, e) => _ : Prop)
      cases q2 : firstF f n (b + 1) with
      | none =>
        rw [q2] at ih
        intro k h1 h2
        by_cases hk : k = b
        · subst hk; exact q
        · exact ih k (by omega) (by omega)
      | some ke =>
        obtain ⟨k, e⟩ := ke
        rw [q2] at ih
        refine ⟨by have := ih.1; omega, by have := ih.2.1; omega, ih.2.2.1, fun j h1 h2 => ?_⟩
        by_cases hk : j = b
        · subst hk; exact q
        · exact ih.2.2.2 j (by omega) h2
/-- the stretch told, by what fits -/
theorem stretchF_spec (front : Bool) (is : List Item) (back : Bool) (row : List Nat) (start : Nat) : match stretchF front is back row start with
    | none => ∀ b e, start ≤ b → (front = true → b = 0) → ¬Ends is back row b e
    | some (b, e) => start ≤ b ∧ (front = true → b = 0) ∧ Ends is back row b e ∧ (∀ e', Ends is back row b e' → e' ≤ e) ∧ ∀ b' e', start ≤ b' → b' < b → (front = true → b' = 0) → ¬Ends is back row b' e' := by
  have h := firstF_spec (lastF is back row) ((if front then 1 else row.length + 1) - start) start
  unfold stretchF
  cases q : firstF (lastF is back row) ((if front then 1 else row.length + 1) - start) start with
  | none =>
    rw [q] at h
    intro b e h1 h2 z
    have hb : b ≤ row.length := Nat.le_trans z.1 z.2.1
    have := h b h1 (by
      cases front with
      | true => have := h2 rfl; subst this; simp; omega
      | false => simp; omega)
    have s := lastF_spec is back row hb
    rw [this] at s
    exact s e z
  | some ke =>
    obtain ⟨k, e⟩ := ke
    rw [q] at h
    obtain ⟨h1, h2, h3, h4⟩ := h
    have hk : k ≤ row.length ∧ (front = true → k = 0) := by
      cases front with
      | true => simp at h2; exact ⟨by omega, fun _ => by omega⟩
      | false => simp at h2; exact ⟨by omega, fun z => by cases z⟩
    have s := lastF_spec is back row hk.1
    rw [h3] at s
    refine ⟨h1, hk.2, s.1, s.2, fun b' e' g1 g2 g3 z => ?_⟩
    have hb : b' ≤ row.length := by omega
    have s' := lastF_spec is back row hb
    rw [h4 b' g1 g2] at s'
    exact s' e' z
end Lw
/-! a word of plain signs: where it stands in a row. -/
namespace Lw
open PySem L2 Eng
/-- w stands in the row at i -/
def AtW (row w : List Nat) (i : Nat) : Prop := i + w.length ≤ row.length ∧ (row.drop i).take w.length = w
theorem at_iff (row w : List Nat) (i : Nat) : StrLaws.At (st row) (st w) (st row).length i ↔ AtW row w i := by
  unfold StrLaws.At AtW
  rw [StrLaws.subAt_eq, st_len, st_len]
  simp
theorem find3_spec (row w : List Nat) {s : Nat} (h : s ≤ row.length) : (Txt.find3 (st row) (st w) (s : Int) = -1 ∧ ∀ i, s ≤ i → ¬AtW row w i) ∨ ∃ i : Nat, Txt.find3 (st row) (st w) (s : Int) = i ∧ s ≤ i ∧ AtW row w i ∧ ∀ k, s ≤ k → k < i → ¬AtW row w k := by
  have hf : fromIndex (st row).length (s : Int) = s := by unfold fromIndex; omega
  unfold Txt.find3
  rw [hf, StrLaws.occ_eq]
  rcases StrLaws.occ_first (st row) (st w) (st row).length 1 (Nat.le_refl 1) (List.range' s ((st row).length + 1 - s)) s (fun i hi => (List.mem_range'_1.mp hi).1) with ⟨h0, hn⟩ | ⟨pre, a, post, e, h0, ha, hn⟩
  · rw [h0]
    refine .inl ⟨rfl, fun i hi z => ?_⟩
    refine hn i (List.mem_range'_1.mpr ⟨hi, ?_⟩) ((at_iff row w i).mpr z)
    rw [st_len]; have := z.1; omega
  · generalize (forIn (List.range' s ((st row).length + 1 - s)) ((#[] : Array Nat), s) (StrLaws.occBody (st row) (st w) (st row).length 1)).run.fst = A at h0
    obtain ⟨A⟩ := A
    cases A with
    | nil => simp at h0
    | cons x xs =>
      simp at h0
      subst h0
      refine .inr ⟨x, rfl, ?_, (at_iff row w x).mp ha, fun k h1 h2 z => ?_⟩
      · have : x ∈ List.range' s ((st row).length + 1 - s) := by rw [e]; simp
        exact (List.mem_range'_1.mp this).1
      · have hk : k ∈ List.range' s ((st row).length + 1 - s) := List.mem_range'_1.mpr ⟨h1, by rw [st_len]; have := z.1; omega⟩
        rw [e] at hk
        have hp : (List.range' s ((st row).length + 1 - s)).Pairwise (· < ·) := List.pairwise_lt_range'
        rw [e] at hp
        rcases List.mem_append.mp hk with m | m
        · exact hn k m ((at_iff row w k).mpr z)
        · rcases List.mem_cons.mp m with m | m
          · omega
          · have := (List.pairwise_append.mp hp).2.1
            have := (List.pairwise_cons.mp this).1 k m
            omega
theorem starts_iff (row w : List Nat) : Txt.startswith (st row) (st w) = true ↔ AtW row w 0 := by
  unfold Txt.startswith AtW
  rw [StrLaws.subAt_eq, st_len, st_len]
  simp
theorem ends_iff (row w : List Nat) : Txt.endswith (st row) (st w) = true ↔ w.length ≤ row.length ∧ AtW row w (row.length - w.length) := by
  unfold Txt.endswith AtW
  rw [StrLaws.subAt_eq, st_len, st_len]
  simp
  intro h _
  omega
/-- the items of a word -/
def wi (c : Nat) : Item := ⟨[c], false, 49⟩
def wis (w : List Nat) : List Item := w.map wi
theorem one_wi (c : Nat) (u : List Nat) : (wi c).one u ↔ u = [c] := by
  unfold Item.one wi Item.holds Item.skip Item.loop
  constructor
  · rintro ⟨h1, h2, h3⟩
    cases u with
    | nil => simp at h2
    | cons a u =>
      cases u with
      | nil => have := h1 a (by simp); simp at this; rw [this]
      | cons b u => simp at h3
  · rintro rfl
    simp
theorem fits_word : ∀ (w u : List Nat), fits (wis w) u ↔ u = w
  | [], u => Iff.rfl
  | c :: w, u => by
    show (∃ a b, u = a ++ b ∧ (wi c).one a ∧ fits (wis w) b) ↔ _
    constructor
    · rintro ⟨a, b, rfl, h1, h2⟩
      rw [(one_wi c a).mp h1, (fits_word w b).mp h2]; rfl
    · rintro rfl
      exact ⟨[c], w, rfl, (one_wi c _).mpr rfl, (fits_word w w).mpr rfl⟩
theorem ends_word (w : List Nat) (back : Bool) (row : List Nat) (b e : Nat) : Ends (wis w) back row b e ↔ AtW row w b ∧ e = b + w.length ∧ (back = true → e = row.length) := by
  unfold Ends AtW
  rw [fits_word]
  constructor
  · rintro ⟨h1, h2, h3, h4⟩
    have hl : e - b = w.length := by
      have := congrArg List.length h3
      simp at this; omega
    rw [hl] at h3
    exact ⟨⟨by omega, h3⟩, by omega, h4⟩
  · rintro ⟨⟨h1, h2⟩, rfl, h4⟩
    refine ⟨by omega, h1, ?_, h4⟩
    rw [show b + w.length - b = w.length by omega]; exact h2
/-- what is told, by where the word stands -/
theorem told_some {front back : Bool} {w row : List Nat} {s b : Nat} (h1 : s ≤ b) (h2 : front = true → b = 0) (h3 : AtW row w b) (h4 : back = true → b + w.length = row.length) (h5 : back = false → ∀ k, s ≤ k → k < b → (front = true → k = 0) → ¬AtW row w k) :
    stretchF front (wis w) back row s = some (b, b + w.length) := by
  have sp := stretchF_spec front (wis w) back row s
  cases q : stretchF front (wis w) back row s with
  | none =>
    rw [q] at sp
    exact (sp b (b + w.length) h1 h2 ((ends_word ..).mpr ⟨h3, rfl, h4⟩)).elim
  | some be =>
    obtain ⟨b', e'⟩ := be
    rw [q] at sp
    obtain ⟨g1, g2, g3, g4, g5⟩ := sp
    obtain ⟨k1, k2, k3⟩ := (ends_word ..).mp g3
    have : b' = b := by
      rcases Nat.lt_trichotomy b' b with h | h | h
      · cases back with
        | true => have := k3 rfl; have := h4 rfl; omega
        | false => exact (h5 rfl b' g1 h g2 k1).elim
      · exact h
      · exact (g5 b (b + w.length) h1 h h2 ((ends_word ..).mpr ⟨h3, rfl, h4⟩)).elim
    subst this
    rw [k2]
theorem told_none {front back : Bool} {w row : List Nat} {s : Nat} (h : ∀ b, s ≤ b → (front = true → b = 0) → AtW row w b → (back = true → b + w.length = row.length) → False) : stretchF front (wis w) back row s = none := by
  have sp := stretchF_spec front (wis w) back row s
  cases q : stretchF front (wis w) back row s with
  | none => rfl
  | some be =>
    obtain ⟨b', e'⟩ := be
    rw [q] at sp
    obtain ⟨g1, g2, g3, g4, g5⟩ := sp
    obtain ⟨k1, k2, k3⟩ := (ends_word ..).mp g3
    exact (h b' g1 g2 k1 fun z => by have := k3 z; omega).elim
end Lw
/-! the stretch told: whole, least, longest. -/
namespace Lw
open PySem L2 Eng
/-- the signs between two places -/
def betw (row : List Nat) (b e : Nat) : List Nat := (row.drop b).take (e - b)
theorem ends_whole (is : List Item) (u : List Nat) (e : Nat) : Ends is true u 0 e ↔ e = u.length ∧ fits is u := by
  unfold Ends
  constructor
  · rintro ⟨_, h2, h3, h4⟩
    have := h4 rfl
    subst this
    rw [List.drop_zero, Nat.sub_zero, List.take_length] at h3
    exact ⟨rfl, h3⟩
  · rintro ⟨rfl, h⟩
    exact ⟨Nat.zero_le _, Nat.le_refl _, by rw [List.drop_zero, Nat.sub_zero, List.take_length]; exact h, fun _ => rfl⟩
theorem whole_iff (is : List Item) (u : List Nat) : (stretchF true is true u 0).isSome = true ↔ fits is u := by
  have sp := stretchF_spec true is true u 0
  cases q : stretchF true is true u 0 with
  | none =>
    rw [q] at sp
    constructor
    · intro h; cases h
    · intro h; exact (sp 0 u.length (Nat.le_refl _) (fun _ => rfl) ((ends_whole is u u.length).mpr ⟨rfl, h⟩)).elim
  | some be =>
    obtain ⟨b, e⟩ := be
    rw [q] at sp
    have hb := sp.2.1 rfl
    subst hb
    exact ⟨fun _ => ((ends_whole is u e).mp sp.2.2.1).2, fun _ => rfl⟩
theorem ends_betw (is : List Item) (row : List Nat) (b e : Nat) : Ends is false row b e ↔ b ≤ e ∧ e ≤ row.length ∧ fits is (betw row b e) := by
  unfold Ends betw
  constructor
  · rintro ⟨h1, h2, h3, _⟩; exact ⟨h1, h2, h3⟩
  · rintro ⟨h1, h2, h3⟩; exact ⟨h1, h2, h3, fun z => by cases z⟩
theorem none_whole {is : List Item} {row : List Nat} (h : stretchF false is false row 0 = none) {b e : Nat} (h1 : b ≤ e) (h2 : e ≤ row.length) : (stretchF true is true (betw row b e) 0).isSome = false := by
  have sp := stretchF_spec false is false row 0
  rw [h] at sp
  cases q : (stretchF true is true (betw row b e) 0).isSome with
  | false => rfl
  | true => exact (sp b e (Nat.zero_le _) (fun z => by cases z) ((ends_betw is row b e).mpr ⟨h1, h2, (whole_iff is _).mp q⟩)).elim
section
variable {is : List Item} {row : List Nat} {b e : Nat} (h : stretchF false is false row 0 = some (b, e))
include h
theorem told_ends : Ends is false row b e := by
  have sp := stretchF_spec false is false row 0
  rw [h] at sp
  exact sp.2.2.1
theorem told_rng : b ≤ e ∧ e ≤ row.length := ⟨(told_ends h).1, (told_ends h).2.1⟩
theorem told_whole : (stretchF true is true (betw row b e) 0).isSome = true := (whole_iff is _).mpr ((ends_betw is row b e).mp (told_ends h)).2.2
theorem told_longest {e' : Nat} (h1 : e < e') (h2 : e' ≤ row.length) : (stretchF true is true (betw row b e') 0).isSome = false := by
  have sp := stretchF_spec false is false row 0
  rw [h] at sp
  cases q : (stretchF true is true (betw row b e') 0).isSome with
  | false => rfl
  | true =>
    have := sp.2.2.2.1 e' ((ends_betw is row b e').mpr ⟨by have := (told_rng h).1; omega, h2, (whole_iff is _).mp q⟩)
    omega
theorem told_least {b' e' : Nat} (h0 : b' < b) (h1 : b' ≤ e') (h2 : e' ≤ row.length) : (stretchF true is true (betw row b' e') 0).isSome = false := by
  have sp := stretchF_spec false is false row 0
  rw [h] at sp
  cases q : (stretchF true is true (betw row b' e') 0).isSome with
  | false => rfl
  | true => exact (sp.2.2.2.2 b' e' (Nat.zero_le _) h0 (fun z => by cases z) ((ends_betw is row b' e').mpr ⟨h1, h2, (whole_iff is _).mp q⟩)).elim
theorem longer_ends (l r : List Nat) : Ends is false (l ++ row ++ r) (l.length + b) (l.length + e) := by
  have ⟨h1, h2⟩ := told_rng h
  refine (ends_betw ..).mpr ⟨by omega, by simp; omega, ?_⟩
  have e1 : betw (l ++ row ++ r) (l.length + b) (l.length + e) = betw row b e := by
    unfold betw
    rw [← List.drop_drop, List.append_assoc, List.drop_left, List.drop_append_of_le_length (by omega), show l.length + e - (l.length + b) = e - b by omega]
    rw [List.take_append_of_le_length (by rw [List.length_drop]; omega)]
  rw [e1]
  exact ((ends_betw is row b e).mp (told_ends h)).2.2
/-- in a longer row, from its beginning -/
theorem longer_told (l r : List Nat) : ∃ b2 e2, stretchF false is false (l ++ row ++ r) 0 = some (b2, e2) ∧ b2 ≤ e2 ∧ e2 ≤ (l ++ row ++ r).length ∧ b2 ≤ l.length + b ∧ (b2 = l.length + b → l.length + e ≤ e2) := by
  have le := longer_ends h l r
  have sp := stretchF_spec false is false (l ++ row ++ r) 0
  cases q : stretchF false is false (l ++ row ++ r) 0 with
  | none => rw [q] at sp; exact (sp _ _ (Nat.zero_le _) (fun z => by cases z) le).elim
  | some be =>
    obtain ⟨b2, e2⟩ := be
    rw [q] at sp
    obtain ⟨g1, g2, g3, g4, g5⟩ := sp
    refine ⟨b2, e2, rfl, g3.1, g3.2.1, ?_, fun z => g4 _ (z ▸ le)⟩
    by_cases hb : l.length + b < b2
    · exact (g5 _ _ (Nat.zero_le _) hb (fun z => by cases z) le).elim
    · omega
/-- from there on -/
theorem longer_again (l r : List Nat) : ∃ e2, stretchF false is false (l ++ row ++ r) (l.length + b) = some (l.length + b, e2) ∧ l.length + b ≤ e2 ∧ e2 ≤ (l ++ row ++ r).length ∧ l.length + e ≤ e2 := by
  have le := longer_ends h l r
  have sp := stretchF_spec false is false (l ++ row ++ r) (l.length + b)
  cases q : stretchF false is false (l ++ row ++ r) (l.length + b) with
  | none => rw [q] at sp; exact (sp _ _ (Nat.le_refl _) (fun z => by cases z) le).elim
  | some be =>
    obtain ⟨b2, e2⟩ := be
    rw [q] at sp
    obtain ⟨g1, g2, g3, g4, g5⟩ := sp
    have hb : b2 = l.length + b := by
      rcases Nat.lt_or_ge (l.length + b) b2 with z | z
      · exact (g5 _ _ (Nat.le_refl _) z (fun z => by cases z) le).elim
      · omega
    subst hb
    exact ⟨e2, rfl, g3.1, g3.2.1, g4 _ le⟩
end
end Lw
/-! the stretches' defs against the plain law. -/
namespace Lw
open PySem L2 Eng
abbrev itemsD (is : List Item) : D := .lst (is.map Item.D)
theorem let_step (n : Nat) (c0 : D) (p k : Nat) (i : Item) (hk9 : k ≤ 1000) :
    exs n l1_let_by [some (.sh c0), some (.sh (.int p)), some (.sh (.int k)), some (.sh i.D)] = some (.nx [some (.sh c0), some (.sh (.int ((if (p.testBit k && i.skip) = true then orN p (sbit (k + 1)) else p : Nat) : Int))), some (.sh (.int k)), some (.sh i.D)]) := by
  unfold l1_let_by
  have h3 : k + 1 ≤ 1000000 := by omega
  by_cases hk : p.testBit k = true
  · by_cases hs : i.skip = true
    · have hm : i.m = 42 ∨ i.m = 63 := by simpa [Item.skip] using hs
      simp [Item.D, shr_nat, bitq, hk, subOf_one, hm, hs, shl_nat1 h3, bitor]
    · have hm : ¬(i.m = 42 ∨ i.m = 63) := by simpa [Item.skip] using hs
      simp [Item.D, shr_nat, bitq, hk, subOf_one, hm, hs]
  · simp [Item.D, shr_nat, bitq, hk, subOf_one]
theorem let_loop (n : Nat) (c0 : D) : ∀ (is : List Item) (k p : Nat) (x y : Option T), k + is.length ≤ 1000 → ∃ x' y', forGo (asgR (.tp [2, 3])) (exs n l1_let_by) (enF k (is.map Item.D)) [some (.sh c0), some (.sh (.int p)), x, y] = some (.nx [some (.sh c0), some (.sh (.int (letN is k p : Nat))), x', y'])
  | [], k, p, x, y, _ => ⟨x, y, rfl⟩
  | i :: is, k, p, x, y, h => by
    rw [List.length_cons] at h
    obtain ⟨x', y', h1⟩ := let_loop n c0 is (k + 1) (if (p.testBit k && i.skip) = true then orN p (sbit (k + 1)) else p) (some (.sh (.int k))) (some (.sh i.D)) (by omega)
    exact ⟨x', y', (forGo_step rfl (.inl (let_step n c0 p k i (by omega)))).trans h1⟩
theorem let_eq {is : List Item} (p : Nat) (h : is.length ≤ 1000) : F_let_by [itemsD is, .int p] = some (.sh (.int (letN is 0 p : Nat))) := by
  refine runF_rt rfl ?_
  obtain ⟨x, y, h1⟩ := let_loop 100000 (itemsD is) is 0 p none none (by omega)
  unfold b_let_by N_let_by
  simp [enm_eq, h1]
theorem first_eq {is : List Item} (h : is.length ≤ 1000) : F_first_places [itemsD is] = some (.sh (.int (firstN is : Nat))) := by
  refine runF_rt rfl ?_
  have := let_eq 1 h
  unfold b_first_places N_first_places
  simp at this
  simp [this, firstN]
theorem holds_eq (i : Item) (c : Nat) : F_holds [i.D, .str [c]] = some (.sh (.bl (i.holds c))) := by
  refine runF_rt rfl ?_
  unfold b_holds N_holds
  simp [Item.D, subOf_one]
  unfold Item.holds
  cases decide (c ∈ i.s) <;> cases i.o <;> rfl
theorem step_step (n : Nat) (c0 : D) (p k c a : Nat) (i : Item) (hk9 : k ≤ 1000) :
    exs n l1_stepped [some (.sh c0), some (.sh (.int p)), some (.sh (.str [c])), some (.sh (.int a)), some (.sh (.int k)), some (.sh i.D)] =
      some (.nx [some (.sh c0), some (.sh (.int p)), some (.sh (.str [c])), some (.sh (.int ((if (p.testBit k && i.holds c) = true then (if i.m ≠ 42 then orN (if i.loop = true then orN a (sbit k) else a) (sbit (k + 1)) else (if i.loop = true then orN a (sbit k) else a)) else a : Nat) : Int))), some (.sh (.int k)), some (.sh i.D)]) := by
  unfold l1_stepped
  have h3 : k + 1 ≤ 1000000 := by omega
  have h4 : k ≤ 1000000 := by omega
  have hh := holds_eq i c
  unfold Item.D at *
  by_cases hk : p.testBit k = true
  · by_cases hs : i.holds c = true
    · by_cases hl : i.loop = true
      · have hm : i.m = 42 ∨ i.m = 43 := by simpa [Item.loop] using hl
        rcases hm with hm | hm
        · rw [hm] at hh
          simp [shr_nat, bitq, hk, hh, hs, subOf_one, hm, hl, shl_nat1 h3, shl_nat h4, bitor]
        · rw [hm] at hh
          simp [shr_nat, bitq, hk, hh, hs, subOf_one, hm, hl, shl_nat1 h3, shl_nat h4, bitor]
      · have hm : ¬(i.m = 42 ∨ i.m = 43) := by simpa [Item.loop] using hl
        have h42 : ¬i.m = 42 := fun z => hm (.inl z)
        have h43 : ¬i.m = 43 := fun z => hm (.inr z)
        simp [shr_nat, bitq, hk, hh, hs, subOf_one, hl, h42, h43, shl_nat1 h3, shl_nat h4, bitor]
    · simp [shr_nat, bitq, hk, hh, hs]
  · simp [shr_nat, bitq, hk]
theorem step_loop (n : Nat) (c0 : D) (p c : Nat) : ∀ (is : List Item) (k a : Nat) (x y : Option T), k + is.length ≤ 1000 → ∃ x' y', forGo (asgR (.tp [4, 5])) (exs n l1_stepped) (enF k (is.map Item.D)) [some (.sh c0), some (.sh (.int p)), some (.sh (.str [c])), some (.sh (.int a)), x, y] = some (.nx [some (.sh c0), some (.sh (.int p)), some (.sh (.str [c])), some (.sh (.int (stepN is k p c a : Nat))), x', y'])
  | [], k, a, x, y, _ => ⟨x, y, rfl⟩
  | i :: is, k, a, x, y, h => by
    rw [List.length_cons] at h
    obtain ⟨x', y', h1⟩ := step_loop n c0 p c is (k + 1) _ (some (.sh (.int k))) (some (.sh i.D)) (by omega)
    exact ⟨x', y', (forGo_step rfl (.inl (step_step n c0 p k c a i (by omega)))).trans h1⟩
theorem step_eq {is : List Item} (p c : Nat) (h : is.length ≤ 1000) : F_stepped [itemsD is, .int p, .str [c]] = some (.sh (.int (nextN is p c : Nat))) := by
  refine runF_rt rfl ?_
  obtain ⟨x, y, h1⟩ := step_loop 100000 (itemsD is) p c is 0 0 none none (by omega)
  have h2 := let_eq (is := is) (stepN is 0 p c 0) h
  unfold b_stepped N_stepped
  simp at h1 h2
  simp [enm_eq, h1, h2, nextN]
theorem done_eq (is : List Item) (p : Nat) : F_is_done [itemsD is, .int p] = some (.sh (.bl (p.testBit is.length))) := by
  refine runF_rt rfl ?_
  unfold b_is_done N_is_done
  by_cases h : p.testBit is.length = true
  · simp [shr_nat, bitq, h]
  · simp [shr_nat, bitq, h]
def optT : Option Nat → T
  | none => .sh .non
  | some e => .sh (.int e)
abbrev oneD (front : Bool) (is : List Item) (back : Bool) : D := .tup [.bl front, itemsD is, .bl back]
section
variable {n : Nat} {front back : Bool} {is : List Item} {row : List Nat} {b : Nat}
abbrev lastR (front : Bool) (is : List Item) (back : Bool) (row : List Nat) (b p a : Nat) (r : Option Nat) : Rho :=
  [some (.sh (oneD front is back)), some (.sh (.str row)), some (.sh (.int b)), some (.sh (itemsD is)), some (.sh (.int p)), some (.sh (.int a)), some (optT r)]
theorem last_end_step {p a : Nat} {r : Option Nat} (hr : row.length ≤ 1000000) (ha : a = row.length) :
    exs n l1_last_end (lastR front is back row b p a r) = some (.bk (lastR front is back row b p a (if p.testBit is.length = true then some a else r))) := by
  subst ha
  have hr2 : row.length ≤ 16777216 := by omega
  have hd := done_eq is p
  unfold l1_last_end
  by_cases h : p.testBit is.length = true
  · simp [hd, h, hr2, optT]
  · simp [hd, h, hr2]
theorem last_mid_step {p a : Nat} {r : Option Nat} (hr : row.length ≤ 1000000) (ha : a < row.length) (hi : is.length ≤ 1000) :
    exs n l1_last_end (lastR front is back row b p a r) = some (.nx (lastR front is back row b (nextN is p row[a]) (a + 1) (if p.testBit is.length = true ∧ back = false then some a else r))) := by
  have hr2 : row.length ≤ 16777216 := by omega
  have hd := done_eq is p
  have hs := step_eq (is := is) p row[a] hi
  have hne : ¬(a : Int) = row.length := by omega
  have hat := atI_nat (xs := row) ha
  unfold l1_last_end
  by_cases h : p.testBit is.length = true
  · cases back
    · simp [hd, h, hr2, hne, hat, hs, optT]
    · simp [hd, h, hr2, hne, hat, hs, optT]
  · simp [hd, h, hr2, hne, hat, hs, optT]
theorem last_loop (hr : row.length ≤ 1000000) (hi : is.length ≤ 1000) : ∀ (cs : List Nat) (m p a : Nat) (r : Option Nat), row.drop a = cs → a ≤ row.length → cs.length + 2 ≤ m →
    ∃ p' a', whlGo (fun ρ => tst (.cmp .NotEq (.var 4) (.cst (.int 0))) (dl ρ)) (exs n l1_last_end) m (lastR front is back row b p a r) = some (.nx (lastR front is back row b p' a' (lastG is back cs p a r)))
  | [], m + 1, p, a, r, h1, h2, h3 => by
    have ha : a = row.length := by
      have := congrArg List.length h1
      simp at this; omega
    unfold lastG
    by_cases h0 : p = 0
    · rw [if_pos h0]
      exact ⟨p, a, whl_stop (by simp [h0])⟩
    · rw [if_neg h0]
      exact ⟨p, a, whl_bk (by simp [h0]) (last_end_step hr ha)⟩
  | c :: cs, m + 1, p, a, r, h1, h2, h3 => by
    have ha : a < row.length := by
      have := congrArg List.length h1
      simp at this; omega
    have hc : row[a] = c ∧ row.drop (a + 1) = cs := by
      rw [List.drop_eq_getElem_cons ha] at h1
      exact List.cons_eq_cons.mp h1
    unfold lastG
    by_cases h0 : p = 0
    · rw [if_pos h0]
      exact ⟨p, a, whl_stop (by simp [h0])⟩
    · rw [if_neg h0]
      have h4 := last_mid_step (n := n) (front := front) (back := back) (b := b) (p := p) (r := r) hr ha hi
      rw [hc.1] at h4
      obtain ⟨p', a', h5⟩ := last_loop hr hi cs m _ (a + 1) _ hc.2 ha (by simp at h3; omega)
      exact ⟨p', a', (whl_nx (by simp [h0]) (.inl h4)).trans h5⟩
theorem last_eq (hr : row.length ≤ 90000) (hi : is.length ≤ 1000) (hb : b ≤ row.length) : F_last_end [oneD front is back, .str row, .int b] = some (optT (lastF is back row b)) := by
  refine runF_rt rfl ?_
  have h1 := first_eq hi
  obtain ⟨p', a', h2⟩ := last_loop (n := 100000) (front := front) (b := b) (back := back) (row := row) (is := is) (by omega) hi (row.drop b) 100000 (firstN is) b none rfl hb (by simp; omega)
  unfold b_last_end N_last_end
  simp only [lastR, show optT none = T.sh .non from rfl] at h2
  simp at h2
  simp [h1, h2, lastF]
def spanT : Option (Nat × Nat) → T
  | none => .sh .non
  | some (b, e) => .sh (.tup [.int b, .int e])
theorem stretch_step {b : Nat} (c2 c3 : Option T) (x5 : Option T) (hr : row.length ≤ 90000) (hi : is.length ≤ 1000) (hb : b ≤ row.length) :
    exs n l1_stretch [some (.sh (oneD front is back)), some (.sh (.str row)), c2, c3, some (.sh (.int b)), x5] =
      match lastF is back row b with
      | some e => some (.rt (spanT (some (b, e))))
      | none => some (.nx [some (.sh (oneD front is back)), some (.sh (.str row)), c2, c3, some (.sh (.int b)), some (.sh .non)]) := by
  have h := last_eq (front := front) (back := back) hr hi hb
  unfold l1_stretch
  cases q : lastF is back row b with
  | none =>
    rw [q] at h
    simp [optT] at h
    simp [h]
  | some e =>
    rw [q] at h
    simp [optT] at h
    simp [h, spanT]
theorem stretch_loop (c2 c3 : Option T) (hr : row.length ≤ 90000) (hi : is.length ≤ 1000) : ∀ (m b : Nat) (x y : Option T), b + m ≤ row.length + 1 →
    match firstF (lastF is back row) m b with
    | some be => forGo (asgR (.nm 4)) (exs n l1_stretch) ((List.range' b m).map fun k : Nat => D.int k) [some (.sh (oneD front is back)), some (.sh (.str row)), c2, c3, x, y] = some (.rt (spanT (some be)))
    | none => ∃ ρ', forGo (asgR (.nm 4)) (exs n l1_stretch) ((List.range' b m).map fun k : Nat => D.int k) [some (.sh (oneD front is back)), some (.sh (.str row)), c2, c3, x, y] = some (.nx ρ')
  | 0, b, x, y, _ => ⟨_, rfl⟩
  | m + 1, b, x, y, h => by
    have hs := stretch_step (n := n) (front := front) (back := back) c2 c3 y hr hi (b := b) (by omega)
    unfold firstF
    rw [List.range'_succ, List.map_cons]
    cases q : lastF is back row b with
    | some e =>
      rw [q] at hs
      exact forGo_rt rfl hs
    | none =>
      rw [q] at hs
      have ih := stretch_loop c2 c3 hr hi m (b + 1) (some (.sh (.int b))) (some (.sh .non)) (by omega)
      have e1 := forGo_step (asg := asgR (.nm 4)) (body := exs n l1_stretch) (d := .int b) (ds := (List.range' (b + 1) m).map fun k : Nat => D.int k) (ρ := [some (.sh (oneD front is back)), some (.sh (.str row)), c2, c3, x, y]) rfl (.inl hs)
      rw [e1]
      exact ih
theorem rng_nat {b e : Nat} (hb : b ≤ 1000000) (he : e ≤ 1000000) : rngD (b : Int) (e : Int) = some ((List.range' b (e - b)).map fun k : Nat => D.int k) := by
  rw [rng_of (by omega) (by omega), show ((e : Int) - b).toNat = e - b by omega, List.range'_eq_map_range, List.map_map]
  congr 2
theorem rng_nat1 {b : Nat} (hb : b ≤ 1000000) : rngD (b : Int) 1 = some ((List.range' b (1 - b)).map fun k : Nat => D.int k) := rng_nat (e := 1) hb (by decide)
theorem rng_natS {b e : Nat} (hb : b ≤ 1000000) (he : e + 1 ≤ 1000000) : rngD (b : Int) ((e : Int) + 1) = some ((List.range' b (e + 1 - b)).map fun k : Nat => D.int k) := rng_nat (e := e + 1) hb he
theorem stretch_eq (hr : row.length ≤ 90000) (hi : is.length ≤ 1000) (hb : b ≤ row.length + 1) : F_stretch [oneD front is back, .str row, .int b] = some (spanT (stretchF front is back row b)) := by
  have hr2 : row.length ≤ 16777216 := by omega
  refine runF_rt rfl ?_
  unfold b_stretch N_stretch
  unfold stretchF
  cases front with
  | true =>
    have h1 := stretch_loop (n := 100000) (front := true) (back := back) (some (.sh (.int b))) (some (.sh (.int 1))) hr hi (1 - b) b none none (by omega)
    simp only [if_true]
    cases q : firstF (lastF is back row) (1 - b) b with
    | some be =>
      rw [q] at h1
      simp [hr2, rng_nat1 (b := b) (by omega), h1]
    | none =>
      rw [q] at h1
      obtain ⟨ρ', h1⟩ := h1
      simp [hr2, rng_nat1 (b := b) (by omega), h1, spanT]
  | false =>
    have h1 := stretch_loop (n := 100000) (front := false) (back := back) (some (.sh (.int b))) (some (.sh (.int ((row.length : Int) + 1)))) hr hi (row.length + 1 - b) b none none (by omega)
    simp only [Bool.false_eq_true, if_false]
    cases q : firstF (lastF is back row) (row.length + 1 - b) b with
    | some be =>
      rw [q] at h1
      simp [hr2, rng_natS (b := b) (e := row.length) (by omega) (by omega), h1]
    | none =>
      rw [q] at h1
      obtain ⟨ρ', h1⟩ := h1
      simp [hr2, rng_natS (b := b) (e := row.length) (by omega) (by omega), h1, spanT]
theorem found_eq (hr : row.length ≤ 90000) (hi : is.length ≤ 1000) : F_found [oneD front is back, .str row] = some (.sh (.bl (stretchF front is back row 0).isSome)) := by
  have h := stretch_eq (front := front) (back := back) (b := 0) hr hi (by omega)
  refine runF_rt rfl ?_
  unfold b_found N_found
  cases q : stretchF front is back row 0 with
  | none =>
    rw [q] at h
    simp [spanT] at h
    simp [h]
  | some be =>
    obtain ⟨b, e⟩ := be
    rw [q] at h
    simp [spanT] at h
    simp [h]
end
end Lw
/-! signs of the laws. -/
namespace Lw
open PySem L2 Eng
def S94 : List Nat := [32, 33, 34, 35, 36, 38, 39, 40, 41, 42, 43, 44, 45, 46, 47, 48, 49, 50, 51, 52, 53, 54, 55, 56, 57, 58, 59, 60, 61, 62, 63, 64, 65, 66, 67, 68, 69, 70, 71, 72, 73, 74, 75, 76, 77, 78, 79, 80, 81, 82, 83, 84, 85, 86, 87, 88, 89, 90, 91, 92, 93, 94, 95, 96, 97, 98, 99, 100, 101, 102, 103, 104, 105, 106, 107, 108, 109, 110, 111, 112, 113, 114, 115, 116, 117, 118, 119, 120, 121, 122, 123, 124, 125, 126]
theorem signs_eq : F_w_signs [] = some (.sh (.str S94)) := by
  refine runF_rt rfl ?_
  unfold b_w_signs N_w_signs
  simp [S94]
def not3 (x : Nat) : Bool := !decide (x = 93) && (!decide (x = 94) && !decide (x = 47))
def some91 : List Nat := S94.filter not3
theorem some91_len : some91.length = 91 := by decide +kernel
theorem S94_len : S94.length = 94 := by decide +kernel
theorem S94_ok : ∀ c, c ∈ S94 → c < 1114112 ∧ c ≠ 10 := by decide +kernel
theorem mod_rng (i : Int) {k : Int} (h : 0 < k) : 0 ≤ i % k ∧ i % k < k := ⟨Int.emod_nonneg _ (by omega), Int.emod_lt_of_pos _ h⟩
theorem atI_mem {α : Type} {xs : List α} {i : Int} {x : α} (h : atI xs i = some x) : x ∈ xs := by
  unfold atI at h
  cases q : ixN xs.length i with
  | none => rw [q] at h; cases h
  | some k => rw [q] at h; exact List.mem_of_getElem? h
theorem join_signs {α : Type} (h : α → Nat) (xs : List α) : TL.joinL [] (xs.map fun k => [h k]) = xs.map h := by
  have : ∀ rows : List (List Nat), TL.joinL [] rows = rows.flatten := by
    intro rows
    induction rows with
    | nil => rfl
    | cons p rows ih =>
      cases rows with
      | nil => simp [TL.joinL]
      | cons q r =>
        show p ++ ([] ++ TL.joinL [] (q :: r)) = _
        rw [ih]; simp
  rw [this]
  induction xs with
  | nil => rfl
  | cons x xs ih => simp at ih ⊢; exact ih
theorem sum_one {α : Type} (h : α → Nat) (xs : List α) : (xs.map (List.length ∘ fun k => [h k])).sum = xs.length := by
  rw [show (List.length ∘ fun k => [h k]) = fun _ => 1 from rfl, sum_ones]
end Lw
/-! four signs by a cell, items of them (the laws k15 to k18). -/
namespace Lw
open PySem L2 Eng
theorem some91_nodup : some91.Nodup := by decide +kernel
theorem filter_ne_len {l : List Nat} (h : l.Nodup) (x : Nat) : l.length ≤ (l.filter fun y => !decide (y = x)).length + 1 := by
  induction l with
  | nil => simp
  | cons a l ih =>
    have h := List.nodup_cons.mp h
    rw [List.filter_cons]
    by_cases ha : a = x
    · subst ha
      have : l.filter (fun y => !decide (y = a)) = l := List.filter_eq_self.mpr fun y hy => by
        have : y ≠ a := fun z => h.1 (z ▸ hy)
        simp [this]
      simp [this]
    · have := ih h.2
      simp [ha]
      omega
def two (x y c : Nat) : Bool := !decide (c = x) && !decide (c = y)
def left2 (x y : Nat) : List Nat := some91.filter (two x y)
theorem left2_len (x y : Nat) : 89 ≤ (left2 x y).length := by
  have e : left2 x y = (some91.filter fun c => !decide (c = y)).filter fun c => !decide (c = x) := by
    unfold left2; rw [List.filter_filter]; rfl
  rw [e]
  have h1 := filter_ne_len some91_nodup y
  have h2 := filter_ne_len (some91_nodup.filter fun c => !decide (c = y)) x
  rw [some91_len] at h1
  omega
/-- four signs by a cell -/
def x4 (c : Int) : Nat := some91.getD (c % 91).toNat 0
def y4 (c : Int) : Nat := some91.getD ((c % 91 + 1 + c / 91 % 90) % 91).toNat 0
def w4 (c : Int) : Nat := (left2 (x4 c) (y4 c)).getD (c / 8190 % 89).toNat 0
def z4 (c : Int) : Nat := (left2 (x4 c) (y4 c)).getD ((c / 8190 % 89 + 1 + c / 728910 % 88) % 89).toNat 0
abbrev fourD (x y w z : Nat) : D := .lst [.str [x], .str [y], .str [w], .str [z]]
theorem x4_at (c : Int) : atI some91 (c % 91) = some (x4 c) := by
  have h := mod_rng c (k := 91) (by decide)
  exact atI_getD 0 h.1 (by rw [some91_len]; omega)
theorem y4_at (c : Int) : atI some91 ((c % 91 + 1 + c / 91 % 90) % 91) = some (y4 c) := by
  have h := mod_rng (c % 91 + 1 + c / 91 % 90) (k := 91) (by decide)
  exact atI_getD 0 h.1 (by rw [some91_len]; omega)
theorem w4_at (c : Int) : atI (left2 (x4 c) (y4 c)) (c / 8190 % 89) = some (w4 c) := by
  have h := mod_rng (c / 8190) (k := 89) (by decide)
  have := left2_len (x4 c) (y4 c)
  exact atI_getD 0 h.1 (by omega)
theorem z4_at (c : Int) : atI (left2 (x4 c) (y4 c)) ((c / 8190 % 89 + 1 + c / 728910 % 88) % 89) = some (z4 c) := by
  have h := mod_rng (c / 8190 % 89 + 1 + c / 728910 % 88) (k := 89) (by decide)
  have := left2_len (x4 c) (y4 c)
  exact atI_getD 0 h.1 (by omega)
theorem four_eq (c : Int) : F_w_four [.int c] = some (.lst [.sh (.str [x4 c]), .sh (.str [y4 c]), .sh (.str [w4 c]), .sh (.str [z4 c])]) := by
  refine runF_rt rfl ?_
  have hs := signs_eq
  unfold b_w_four N_w_four
  simp [hs]
  rw [lcK_filter (g := fun c : Nat => D.str [c]) (k := fun c => T.sh (.str [c])) (p := not3)]
  · rw [show List.filter not3 S94 = some91 from rfl]
    have hx := x4_at c
    have hy := y4_at c
    have hw := w4_at c
    have hz := z4_at c
    simp
    rw [lcK_filter (g := fun c : Nat => D.str [c]) (k := fun c => T.sh (.str [c])) (p := two (x4 c) (y4 c))]
    · rw [show List.filter (two (x4 c) (y4 c)) some91 = left2 (x4 c) (y4 c) from rfl]
      simp [hx, hy, hw, hz]
    · rw [some91_len]; decide
    · intro x hxx
      by_cases h1 : x = x4 c <;> by_cases h2 : x = y4 c <;> simp [lcF, hx, hy, two, h1, h2] <;> (try subst h1) <;> simp_all
  · rw [S94_len]; decide
  · intro x hx
    simp [lcF, subOf_one, not3]
    split <;> rfl
theorem some91_sub : ∀ x, x ∈ some91 → x ∈ S94 := fun x h => (List.mem_filter.mp h).1
theorem x4_mem (c : Int) : x4 c ∈ S94 := some91_sub _ (atI_mem (x4_at c))
theorem y4_mem (c : Int) : y4 c ∈ S94 := some91_sub _ (atI_mem (y4_at c))
theorem left2_sub {x y : Nat} : ∀ c, c ∈ left2 x y → c ∈ S94 := fun c h => some91_sub _ (List.mem_filter.mp h).1
theorem w4_mem (c : Int) : w4 c ∈ S94 := left2_sub _ (atI_mem (w4_at c))
theorem z4_mem (c : Int) : z4 c ∈ S94 := left2_sub _ (atI_mem (z4_at c))
/-- the far signs -/
def far7 (x y w z c : Nat) : Bool := !decide (c ∈ [93, 94, 47, x, y, w, z])
def farL (x y w z : Nat) : List Nat := S94.filter (far7 x y w z)
theorem S94_nodup' : S94.Nodup := by decide +kernel
theorem far_len (x y w z : Nat) : 87 ≤ (farL x y w z).length := by
  have e : farL x y w z = ((((some91.filter fun c => !decide (c = x)).filter fun c => !decide (c = y)).filter fun c => !decide (c = w)).filter fun c => !decide (c = z)) := by
    unfold farL some91
    rw [List.filter_filter, List.filter_filter, List.filter_filter, List.filter_filter]
    refine List.filter_congr fun c hc => ?_
    unfold far7 not3
    by_cases h1 : c = 93 <;> by_cases h2 : c = 94 <;> by_cases h3 : c = 47 <;> by_cases h4 : c = x <;> by_cases h5 : c = y <;> by_cases h6 : c = w <;> by_cases h7 : c = z <;> simp [h1, h2, h3, h4, h5, h6, h7]
  rw [e]
  have h1 := filter_ne_len some91_nodup x
  have n1 := some91_nodup.filter fun c => !decide (c = x)
  have h2 := filter_ne_len n1 y
  have n2 := n1.filter fun c => !decide (c = y)
  have h3 := filter_ne_len n2 w
  have n3 := n2.filter fun c => !decide (c = w)
  have h4 := filter_ne_len n3 z
  rw [some91_len] at h1
  omega
def farS (x y w z : Nat) (c : Int) (k : Nat) : Nat := (farL x y w z).getD ((c + 7 * (k : Int)) % 87).toNat 0
theorem farS_at (x y w z : Nat) (c : Int) (k : Nat) : atI (farL x y w z) ((c + 7 * (k : Int)) % 87) = some (farS x y w z c k) := by
  have h := mod_rng (c + 7 * (k : Int)) (k := 87) (by decide)
  have := far_len x y w z
  exact atI_getD 0 h.1 (by omega)
theorem farS_mem (x y w z : Nat) (c : Int) (k : Nat) : farS x y w z c k ∈ S94 := (List.mem_filter.mp (atI_mem (farS_at x y w z c k))).1
def base4 (x y : Nat) (c : Int) : List Nat × Bool := [([x], false), ([y], false), ([x, y], false), ([x], true), ([x, y], true), ([], true)].getD (c % 6).toNat ([], true)
def code4 (c : Int) : Nat := [49, 42, 43, 63].getD (c / 6 % 4).toNat 0
def item4 (x y w z : Nat) (c : Int) : Item := { s := if c / 24 % 2 = 1 ∧ c % 6 < 5 then (base4 x y c).1 ++ [w] ++ (List.range 9).map (farS x y w z c) else (base4 x y c).1, o := (base4 x y c).2, m := code4 c }
theorem six (c : Int) : c % 6 = 0 ∨ c % 6 = 1 ∨ c % 6 = 2 ∨ c % 6 = 3 ∨ c % 6 = 4 ∨ c % 6 = 5 := by omega
theorem code4_at (c : Int) : atI [D.str [49], D.str [42], D.str [43], D.str [63]] (c / 6 % 4) = some (.str [code4 c]) := by
  have h := mod_rng (c / 6) (k := 4) (by decide)
  show atI ([49, 42, 43, 63].map fun x : Nat => D.str [x]) _ = _
  rw [atI_mapE, atI_getD 0 h.1 (by simp; omega)]; rfl
theorem code4_four (c : Int) : code4 c = 49 ∨ code4 c = 42 ∨ code4 c = 43 ∨ code4 c = 63 := by
  have : c / 6 % 4 = 0 ∨ c / 6 % 4 = 1 ∨ c / 6 % 4 = 2 ∨ c / 6 % 4 = 3 := by omega
  unfold code4
  rcases this with h | h | h | h <;> rw [h] <;> simp
theorem base4_at (x y : Nat) (c : Int) : atI [D.tup [.str [x], .bl false], D.tup [.str [y], .bl false], D.tup [.str [x, y], .bl false], D.tup [.str [x], .bl true], D.tup [.str [x, y], .bl true], D.tup [.str [], .bl true]] (c % 6) = some (.tup [.str (base4 x y c).1, .bl (base4 x y c).2]) := by
  have h := mod_rng c (k := 6) (by decide)
  show atI ([([x], false), ([y], false), ([x, y], false), ([x], true), ([x, y], true), ([], true)].map fun p : List Nat × Bool => D.tup [.str p.1, .bl p.2]) _ = _
  rw [atI_mapE, atI_getD ([], true) h.1 (by simp; omega)]; rfl
theorem base4_len (x y : Nat) (c : Int) : (base4 x y c).1.length ≤ 2 := by
  unfold base4
  rcases six c with h | h | h | h | h | h <;> rw [h] <;> simp
theorem base4_mem (x y : Nat) (c : Int) : ∀ s, s ∈ (base4 x y c).1 → s = x ∨ s = y := by
  unfold base4
  rcases six c with h | h | h | h | h | h <;> rw [h] <;> simp
theorem far_lc (x y w z : Nat) (c : Int) (x1 x2 x3 x4 x5 x6 x7 x9 x10 : Option D) :
    lcK [10] (.nm 10) .non (.idx (.var 8) (.bin .Mod (.bin .Add (.var 0) (.bin .Mult (.cst (.int 7)) (.var 10))) (.cst (.int 87)))) [some (.int c), x1, x2, x3, x4, x5, x6, x7, some (.lst ((farL x y w z).map fun x => .str [x])), x9, x10] ((List.range 9).map fun i : Nat => D.int i) =
      some (.lst ((List.range 9).map fun k : Nat => T.sh (.str [farS x y w z c k]))) := by
  rw [lcK_map (g := fun i : Nat => D.int (i : Int)) (k := fun k : Nat => T.sh (.str [farS x y w z c k]))]
  · rw [List.length_range]; decide
  · intro k hk
    simp [lcF, farS_at]
theorem item4_eq (c : Int) (x y w z : Nat) : F_w_item [.int c, fourD x y w z] = some (.sh (item4 x y w z c).D) := by
  refine runF_rt rfl ?_
  have hs := signs_eq
  have hb := base4_at x y c
  have hc := code4_at c
  have hl := base4_len x y c
  have hr := rng0 (n := 9) (by decide)
  have hlc := fun x1 x2 x3 x4 x5 x6 x7 x9 x10 => far_lc x y w z c x1 x2 x3 x4 x5 x6 x7 x9 x10
  simp at hr
  unfold b_w_item N_w_item
  have l1 : (base4 x y c).1.length + 1 ≤ 16777216 := by omega
  have l2 : (base4 x y c).1.length + 1 + 9 ≤ 16777216 := by omega
  have l3 : (base4 x y c).1.length + 9 + 1 ≤ 16777216 := by omega
  by_cases h1 : c / 24 % 2 = 1
  · by_cases h2 : c % 6 < 5
    · simp [hb, h1, h2, hs]
      rw [lcK_filter (g := fun c : Nat => D.str [c]) (k := fun c => T.sh (.str [c])) (p := far7 x y w z)]
      · rw [show List.filter (far7 x y w z) S94 = farL x y w z from rfl]
        have l4 : (base4 x y c).1.length ≤ 16777215 := by omega
        simp [hr, hlc, hc, l4, l1, l2, join_signs, sum_one, item4, Item.D, h1, h2]
        try omega
      · rw [S94_len]; decide
      · intro s hs
        unfold far7
        simp [lcF, subOf_one]
        split <;> simp_all
    · simp [hb, h1, h2, hc, item4, Item.D]
  · simp [hb, h1, hc, item4, Item.D]
theorem item4_ok (c : Int) {x y w z : Nat} (hx : x ∈ S94) (hy : y ∈ S94) (hw : w ∈ S94) : okT (item4 x y w z c).s ∧ okT [(item4 x y w z c).m] := by
  have hb := base4_mem x y c
  have hbb : ∀ s, s ∈ (base4 x y c).1 → s < 1114112 := fun s h => by
    rcases hb s h with rfl | rfl
    · exact (S94_ok _ hx).1
    · exact (S94_ok _ hy).1
  refine ⟨?_, ?_⟩
  · unfold item4
    intro s h
    split at h
    · rcases List.mem_append.mp h with h | h
      · rcases List.mem_append.mp h with h | h
        · exact hbb s h
        · rw [List.mem_singleton.mp h]; exact (S94_ok _ hw).1
      · obtain ⟨k, _, rfl⟩ := List.mem_map.mp h
        exact (S94_ok _ (farS_mem ..)).1
    · exact hbb s h
  · show okT [code4 c]
    rcases code4_four c with q | q | q | q <;> rw [q] <;> decide
end Lw
/-! law k16: what is asked of the stretch. -/
namespace Lw
open PySem L2 Eng
def cz (ns : List Int) (k : Nat) : Int := ns.getD k 0
theorem cell_val (ns : List Int) (k : Nat) : F_w_cell_at [.scr ns, .int k] = some (.sh (.int (cz ns k))) := by
  unfold F_w_cell_at cz
  by_cases h : k < ns.length
  · have hg : ns.getD k 0 = ns[k] := by rw [List.getD_eq_getElem?_getD, List.getElem?_eq_getElem h]; rfl
    rw [hg]
    exact runF_rt rfl (by unfold b_w_cell_at N_w_cell_at; simp [h, atI_nat h])
  · have hg : ns.getD k 0 = 0 := by rw [List.getD_eq_getElem?_getD, List.getElem?_eq_none (by omega)]; rfl
    rw [hg]
    exact runF_rt rfl (by unfold b_w_cell_at N_w_cell_at; simp [h])
theorem whole_eq (i : Int) : F_w_whole [.int i] = some (.sh (.bl true)) := by
  refine runF_rt rfl ?_
  unfold b_w_whole N_w_whole
  simp
theorem is_stretch_eq {row : List Nat} {b e : Nat} (hr : row.length ≤ 90000) (h1 : b ≤ e) (h2 : e ≤ row.length) : F_w_is_stretch [.tup [.int b, .int e], .str row] = some (.sh (.bl true)) := by
  have hr2 : row.length ≤ 16777216 := by omega
  refine runF_rt rfl ?_
  unfold b_w_is_stretch N_w_is_stretch
  simp [whole_eq, hr2, h1, h2]
theorem cut_mid {α : Type} (xs : List α) {a b : Nat} (h1 : a ≤ xs.length) (h2 : b ≤ xs.length) : cutL xs (some (a : Int)) (some (b : Int)) = (xs.drop a).take (b - a) := by
  show (xs.drop (HT.sIx xs.length 0 (some (a : Int)))).take (HT.sIx xs.length xs.length (some (b : Int)) - HT.sIx xs.length 0 (some (a : Int))) = _
  rw [HT.sIx_nat, HT.sIx_nat, Nat.min_eq_left h1, Nat.min_eq_left h2]
section
variable {is : List Item} {row : List Nat} (hr : row.length ≤ 90000) (hi : is.length ≤ 1000)
include hr hi
theorem held_eq {b e : Nat} (h1 : b ≤ row.length) (h2 : e ≤ row.length) : F_w_held [.tup [.bl false, .lst (is.map Item.D), .bl false], .str row, .tup [.int b, .int e]] = some (.sh (.bl (stretchF true is true (betw row b e) 0).isSome)) := by
  have hr2 : row.length ≤ 16777216 := by omega
  have hc : cutL row (some (b : Int)) (some (e : Int)) = betw row b e := cut_mid row h1 h2
  have hbl : (betw row b e).length ≤ 90000 := by unfold betw; rw [List.length_take, List.length_drop]; omega
  have hf := found_eq (front := true) (back := true) (is := is) (row := betw row b e) hbl hi
  refine runF_rt rfl ?_
  unfold b_w_held N_w_held
  simp [hr2, hc, hf]
end
abbrev prD (p : Nat × Nat) : D := .tup [.int p.1, .int p.2]
theorem pairs_step (n : Nat) {row : List Nat} {last : Nat} (hr : row.length ≤ 90000) (hl : last ≤ row.length) (c : Int) : ∃ p : Nat × Nat, p.1 ≤ last ∧ p.1 ≤ p.2 ∧ p.2 ≤ row.length ∧ ∀ c0 (ps : List (Nat × Nat)) x5, ps.length ≤ 100 →
    ∃ y5, exs n l1_w_pairs [c0, some (.sh (.str row)), some (.sh (.int last)), some (.lst (ps.map fun p => T.sh (prD p))), some (.sh (.int c)), x5] = some (.nx [c0, some (.sh (.str row)), some (.sh (.int last)), some (.lst ((ps ++ [p]).map fun p => T.sh (prD p))), some (.sh (.int c)), y5]) := by
  have hr2 : row.length ≤ 16777216 := by omega
  have m1 := mod_rng c (k := (last : Int) + 1) (by omega)
  obtain ⟨b, hb⟩ : ∃ b : Nat, c % ((last : Int) + 1) = (b : Int) := ⟨(c % ((last : Int) + 1)).toNat, by omega⟩
  have m2 := mod_rng (c / ((last : Int) + 1)) (k := (row.length : Int) - b + 1) (by omega)
  obtain ⟨d, hd⟩ : ∃ d : Nat, c / ((last : Int) + 1) % ((row.length : Int) - b + 1) = (d : Int) := ⟨(c / ((last : Int) + 1) % ((row.length : Int) - b + 1)).toNat, by omega⟩
  refine ⟨(b, b + d), by omega, by simp, by simp; omega, fun c0 ps x5 hp => ⟨some (.sh (.int b)), ?_⟩⟩
  have p1 : (0 : Int) < (last : Int) + 1 := by omega
  have p2 : (0 : Int) < (last : Int) + 1 ∧ (last : Int) + 1 < 1073741824 := by omega
  have p3 : (0 : Int) < (row.length : Int) - b + 1 := by omega
  have p4 : ps.length < 16777216 := by omega
  unfold l1_w_pairs
  simp [hr2, p1, p2, p3, p4, hb, hd, prD]
theorem pairs_loop (n : Nat) {row : List Nat} {last : Nat} (hr : row.length ≤ 90000) (hl : last ≤ row.length) (c0 : Option T) : ∀ (cs : List Int) (ps : List (Nat × Nat)) (x4 x5 : Option T), ps.length + cs.length ≤ 100 → (∀ p, p ∈ ps → p.1 ≤ last ∧ p.1 ≤ p.2 ∧ p.2 ≤ row.length) →
    ∃ (qs : List (Nat × Nat)) (y4 y5 : Option T), (∀ p, p ∈ qs → p.1 ≤ last ∧ p.1 ≤ p.2 ∧ p.2 ≤ row.length) ∧ qs.length = ps.length + cs.length ∧ forGo (asgR (.nm 4)) (exs n l1_w_pairs) (cs.map D.int) [c0, some (.sh (.str row)), some (.sh (.int last)), some (.lst (ps.map fun p => T.sh (prD p))), x4, x5] =
      some (.nx [c0, some (.sh (.str row)), some (.sh (.int last)), some (.lst (qs.map fun p => T.sh (prD p))), y4, y5])
  | [], ps, x4, x5, _, hp => ⟨ps, x4, x5, hp, rfl, rfl⟩
  | c :: cs, ps, x4, x5, h, hp => by
    obtain ⟨p, k1, k2, k3, k4⟩ := pairs_step n hr hl c
    obtain ⟨z5, hs⟩ := k4 c0 ps x5 (by omega)
    obtain ⟨qs, y4, y5, g1, g2, g3⟩ := pairs_loop n hr hl c0 cs (ps ++ [p]) (some (.sh (.int c))) z5 (by simp at h ⊢; omega) (fun q m => by
      rcases List.mem_append.mp m with m | m
      · exact hp q m
      · rw [List.mem_singleton.mp m]; exact ⟨k1, k2, k3⟩)
    refine ⟨qs, y4, y5, g1, by rw [g2]; simp; omega, ?_⟩
    exact (forGo_step (ρ1 := [c0, some (.sh (.str row)), some (.sh (.int last)), some (.lst (ps.map fun p => T.sh (prD p))), some (.sh (.int c)), x5]) rfl (.inl hs)).trans g3
theorem pairs_eq {row : List Nat} {last : Nat} (hr : row.length ≤ 90000) (hl : last ≤ row.length) {cs : List Int} (hc : cs.length ≤ 64) : ∃ qs : List (Nat × Nat), (∀ p, p ∈ qs → p.1 ≤ last ∧ p.1 ≤ p.2 ∧ p.2 ≤ row.length) ∧ qs.length = cs.length ∧ F_w_pairs [.lst (cs.map .int), .str row, .int last] = some (.lst (qs.map fun p => T.sh (prD p))) := by
  obtain ⟨qs, y4, y5, g1, g2, g3⟩ := pairs_loop 100000 hr hl (some (.sh (.lst (cs.map .int)))) cs [] none none (by simp; omega) (fun p m => by cases m)
  refine ⟨qs, g1, by simpa using g2, runF_rt rfl ?_⟩
  unfold b_w_pairs N_w_pairs
  simp at g3
  simp [g3]
end Lw
/-! law k16: the longer row; the drawn ones. -/
namespace Lw
open PySem L2 Eng
theorem join3 (a b c : Nat) : mtD .join [.str [], .lst [.str [a], .str [b], .str [c]]] = some (.sh (.str [a, b, c])) := by
  have := mt_join [] [[a], [b], [c]]
  simp [TL.joinL] at this
  simpa using this
theorem cut6a {α : Type} (a b c d e f : α) : cutL [a, b, c, d, e, f] none (some 3) = [a, b, c] := rfl
theorem cut6b {α : Type} (a b c d e f : α) : cutL [a, b, c, d, e, f] (some 3) none = [d, e, f] := rfl
theorem longer_eq {is : List Item} {row : List Nat} {b e : Nat} (hr : row.length ≤ 80000) (hi : is.length ≤ 1000) (h : stretchF false is false row 0 = some (b, e)) (a1 a2 a3 a4 a5 a6 : Nat) :
    F_w_longer [.tup [.bl false, .lst (is.map Item.D), .bl false], .str row, .tup [.int b, .int e], .lst [.str [a1], .str [a2], .str [a3], .str [a4], .str [a5], .str [a6]]] = some (.sh (.bl true)) := by
  obtain ⟨hbe, hel⟩ := told_rng h
  obtain ⟨b2, e2, t1, t2, t3, t4, t5⟩ := longer_told h [a1, a2, a3] [a4, a5, a6]
  obtain ⟨e3, s1, s2, s3, s4⟩ := longer_again h [a1, a2, a3] [a4, a5, a6]
  have hl : ([a1, a2, a3] ++ row ++ [a4, a5, a6]).length = row.length + 6 := by simp
  have f1 := stretch_eq (front := false) (back := false) (is := is) (row := [a1, a2, a3] ++ row ++ [a4, a5, a6]) (b := 0) (by rw [hl]; omega) hi (by omega)
  have f2 := stretch_eq (front := false) (back := false) (is := is) (row := [a1, a2, a3] ++ row ++ [a4, a5, a6]) (b := 3 + b) (by rw [hl]; omega) hi (by rw [hl]; omega)
  rw [t1] at f1
  rw [show ([a1, a2, a3] : List Nat).length + b = 3 + b from rfl] at s1 s2 t4 t5
  rw [show ([a1, a2, a3] : List Nat).length + e = 3 + e from rfl] at s4 t5
  rw [s1] at f2
  have g1 := is_stretch_eq (row := [a1, a2, a3] ++ row ++ [a4, a5, a6]) (b := b2) (e := e2) (by rw [hl]; omega) t2 t3
  have g2 := is_stretch_eq (row := [a1, a2, a3] ++ row ++ [a4, a5, a6]) (b := 3 + b) (e := e3) (by rw [hl]; omega) s2 s3
  generalize hL : [a1, a2, a3] ++ row ++ [a4, a5, a6] = L at *
  have hL1 : a1 :: a2 :: a3 :: (row ++ [a4, a5, a6]) = L := by rw [← hL]; simp
  have l1 : 3 + row.length ≤ 16777216 := by omega
  have l2 : 3 + row.length + 3 ≤ 16777216 := by omega
  have l3 : row.length ≤ 16777213 := by omega
  have l4 : row.length ≤ 16777210 := by omega
  have c1 : ¬((3 : Int) + b < b2) := by omega
  have c2 : ∀ (z : (b2 : Int) = 3 + b), ¬((e2 : Int) < 3 + e) := fun z => by have := t5 (by omega); omega
  have c3 : (3 : Int) + e ≤ e3 := by omega
  refine runF_rt rfl ?_
  simp [spanT] at f1 f2 g1 g2
  unfold b_w_longer N_w_longer
  have l5 : row.length ≤ 16777211 := by omega
  have l6 : row.length ≤ 16777212 := by omega
  by_cases z : (b2 : Int) = 3 + b
  · have c4 := c2 z
    have g1' := g1
    rw [z] at f1 g1'
    simp [cut6a, cut6b, join3, l1, l2, l3, l4, l5, l6, hL1, f1, f2, g1', g2, c1, c4, c3]
    try trace_state
  · simp [cut6a, cut6b, join3, l1, l2, l3, l4, l5, l6, hL1, f1, f2, g1, g2, c1, z, c3]
    try trace_state
end Lw
/-! law k16: numbers mixed, items and rows drawn. -/
namespace Lw
open PySem L2 Eng
theorem load_step (n : Nat) (c0 x3 : Option T) {m : Int} (hm : 0 ≤ m ∧ m < 4294967296) (f : Int) : ∃ m' f', (0 ≤ m' ∧ m' < 4294967296) ∧ exs n l1_w_load [c0, some (.sh (.int m)), some (.sh (.int f)), x3] = some (.nx [c0, some (.sh (.int m')), some (.sh (.int f')), x3]) := by
  have h1 := mul_r m (j := 48271) (by decide) (by decide)
  have h2 := mul_r f (j := 2147483587) (by decide) (by decide)
  have hr := mod_rng (m * 48271 + 9973) (k := 2147483629) (by decide)
  generalize hq : (m * 48271 + 9973) % 2147483629 = m' at hr
  have h3 := mul_r m' (j := m') (by omega) (by omega)
  refine ⟨m', f * 2147483587 + m' * m' % 2147483587, ⟨hr.1, by omega⟩, ?_⟩
  unfold l1_w_load
  simp [h1, h2, hq, h3]
theorem load_loop (n : Nat) (c0 : Option T) : ∀ (k : List Nat) (m f : Int) (x3 : Option T), (0 ≤ m ∧ m < 4294967296) → ∃ m' f' y3, forGo (asgR (.nm 3)) (exs n l1_w_load) (k.map fun i : Nat => D.int i) [c0, some (.sh (.int m)), some (.sh (.int f)), x3] = some (.nx [c0, some (.sh (.int m')), some (.sh (.int f')), y3])
  | [], m, f, x3, _ => ⟨m, f, x3, rfl⟩
  | i :: k, m, f, x3, hm => by
    obtain ⟨m1, f1, hm1, hs⟩ := load_step n c0 (some (.sh (.int i))) hm f
    obtain ⟨m', f', y3, ih⟩ := load_loop n c0 k m1 f1 (some (.sh (.int i))) hm1
    exact ⟨m', f', y3, (forGo_step (ρ1 := [c0, some (.sh (.int m)), some (.sh (.int f)), some (.sh (.int i))]) rfl (.inl hs)).trans ih⟩
theorem pow63 : binD .Pow [.int 2, .int 63] = some (.sh (.int 9223372036854775808)) := by
  show (iff ((0 : Int) ≤ 63 ∧ (63 : Int) ≤ 1000000 ∧ (2 : Int).natAbs < 2 ^ 64) (Eng.sc (.int (2 ^ (63 : Int).toNat)))) = _
  unfold Eng.iff
  rw [if_pos ⟨by decide, by decide +kernel, by decide +kernel⟩]
  exact congrArg (fun z : Int => some (T.sh (D.int z))) (by decide +kernel)
theorem load_eq (c : Int) : ∃ n, F_w_load [.int c] = some (.sh (.int n)) := by
  have h1 := mul_r c (j := 48271) (by decide) (by decide)
  have hr := mod_rng (c * 48271 + 11) (k := 2147483647) (by decide)
  generalize hq : (c * 48271 + 11) % 2147483647 = m at hr
  obtain ⟨m', f', y3, hl⟩ := load_loop 100000 (some (.sh (.int c))) (List.range 14) m 0 none ⟨hr.1, by omega⟩
  have h14 := rng0 (n := 14) (by decide)
  simp at h14
  by_cases hb : (9223372036854775808 : Int) ≤ if c < 0 then -c else c
  · refine ⟨c, runF_rt rfl ?_⟩
    unfold b_w_load N_w_load
    simp [pow63, hb]
  · refine ⟨f', runF_rt rfl ?_⟩
    unfold b_w_load N_w_load
    simp [pow63, hb, h1, hq, h14, hl]
end Lw
/-! law k16: an item drawn. -/
namespace Lw
open PySem L2 Eng
@[simp] theorem tr_cons (o : Option U) (ρ : Rh) : tr (o :: ρ) = o.bind U.t :: tr ρ := rfl
abbrev sgU (ls : List Nat) : U := .lst (ls.map fun c => U.sh (.str [c]))
theorem map_erase {α β : Type} (f : α → β) : ∀ (l : List α) (k : Nat), (l.map f).eraseIdx k = (l.eraseIdx k).map f
  | [], _ => rfl
  | a :: l, 0 => rfl
  | a :: l, k + 1 => by rw [List.map_cons, List.eraseIdx_cons_succ, List.eraseIdx_cons_succ, List.map_cons, map_erase f l k]
theorem ib_step (m : Int) {ls s : List Nat} (h0 : ls ≠ []) (h1 : ls.length ≤ 100) (hs : s.length ≤ 100) (x2 x3 x4 x6 x7 : Option U) : ∃ (k : Nat) (c : Nat) (m' : Int), ls[k]? = some c ∧
    sxs [] 100000 l1_w_item_by [some (.sh (.int m)), some (sgU ls), x2, x3, x4, some (.sh (.str s)), x6, x7] = some (.nx [some (.sh (.int m')), some (sgU (ls.eraseIdx k)), x2, x3, x4, some (.sh (.str (s ++ [c]))), x6, x7]) := by
  have hp : 0 < ls.length := List.length_pos_iff.mpr h0
  have hm := mod_rng m (k := (ls.length : Int)) (by omega)
  obtain ⟨k, hk⟩ : ∃ k : Nat, m % (ls.length : Int) = (k : Int) := ⟨(m % (ls.length : Int)).toNat, by omega⟩
  have hkl : k < ls.length := by omega
  have hg : ls[k]? = some ls[k] := List.getElem?_eq_getElem hkl
  have hel : (ls.eraseIdx k).length = ls.length - 1 := List.length_eraseIdx_of_lt hkl
  have hix : ixN ls.length (k : Int) = some k := by unfold ixN; rw [if_pos (by omega), if_pos (by omega)]; rfl
  refine ⟨k, ls[k], m / (((ls.eraseIdx k).length : Int) + 1), hg, ?_⟩
  have p1 : (0 : Int) < ls.length := by omega
  have p2 : ls.length ≤ 16777216 := by omega
  have p3 : s.length + 1 ≤ 16777216 := by omega
  have p4 : (0 : Int) < ((ls.eraseIdx k).length : Int) + 1 ∧ ((ls.eraseIdx k).length : Int) + 1 < 1073741824 := by omega
  have hpop := xv_popi_slot [some (.sh (.int m)), some (sgU ls), x2, x3, x4, some (.sh (.str s)), x6, x7] (i := 1) (a := .pe (.bin .Mod (.var 0) (.bi .len (.cons (.var 1) .nil)))) rfl (us := ls.map fun c => U.sh (.str [c])) rfl
  unfold l1_w_item_by
  simp at hpop
  simp [hpop, hp, p1, p2, p3, p4, hk, hix, hg, map_erase, hkl]
theorem ib_loop (x2 x3 x4 : Option U) : ∀ (ks : List Nat) (m : Int) (ls s : List Nat) (x6 : Option U), ks.length < ls.length → ls.length ≤ 100 → s.length + ks.length ≤ 100 → ∃ (m' : Int) (ls' t : List Nat) (y6 : Option U), t.length = ks.length ∧ (∀ c, c ∈ t → c ∈ ls) ∧
    forX (asgX (.nm 6)) (sxs [] 100000 l1_w_item_by) (ks.map fun i : Nat => D.int i) [some (.sh (.int m)), some (sgU ls), x2, x3, x4, some (.sh (.str s)), x6, none] = some (.nx [some (.sh (.int m')), some (sgU ls'), x2, x3, x4, some (.sh (.str (s ++ t))), y6, none])
  | [], m, ls, s, x6, _, _, _ => ⟨m, ls, [], x6, rfl, (fun _ h => by cases h), by rw [List.append_nil]; rfl⟩
  | i :: ks, m, ls, s, x6, h1, h2, h3 => by
    obtain ⟨k, c, m1, hc, hs⟩ := ib_step m (ls := ls) (s := s) (fun z => by subst z; simp at h1) h2 (by omega) x2 x3 x4 (some (.sh (.int i))) none
    have hkl : k < ls.length := (List.getElem?_eq_some_iff.mp hc).1
    have hel : (ls.eraseIdx k).length = ls.length - 1 := List.length_eraseIdx_of_lt hkl
    obtain ⟨m', ls', t, y6, g1, g2, g3⟩ := ib_loop x2 x3 x4 ks m1 (ls.eraseIdx k) (s ++ [c]) (some (.sh (.int i))) (by rw [hel]; simp at h1; omega) (by omega) (by simp at h3 ⊢; omega)
    refine ⟨m', ls', c :: t, y6, by simp [g1], fun d hd => ?_, ?_⟩
    · rcases List.mem_cons.mp hd with rfl | hd
      · exact List.mem_of_getElem? hc
      · exact List.mem_of_mem_eraseIdx (g2 d hd)
    · rw [List.append_assoc] at g3
      exact (forX_step (ρ1 := [some (.sh (.int m)), some (sgU ls), x2, x3, x4, some (.sh (.str s)), some (.sh (.int i)), none]) rfl (.inl hs)).trans g3
structure OkD (i : Item) : Prop where
  sg : ∀ c, c ∈ i.s → c ∈ S94
  ln : i.s.length ≤ 12
  ne : i.o = false → i.s ≠ []
  mm : i.m = 49 ∨ i.m = 42 ∨ i.m = 43 ∨ i.m = 63
theorem four_at (i : Int) : ∃ m, (m = 49 ∨ m = 42 ∨ m = 43 ∨ m = 63) ∧ atI [D.str [49], D.str [42], D.str [43], D.str [63]] (i % 4) = some (.str [m]) := by
  have : i % 4 = 0 ∨ i % 4 = 1 ∨ i % 4 = 2 ∨ i % 4 = 3 := by omega
  rcases this with h | h | h | h <;> rw [h]
  · exact ⟨49, .inl rfl, by simp⟩
  · exact ⟨42, .inr (.inl rfl), by simp⟩
  · exact ⟨43, .inr (.inr (.inl rfl)), by simp⟩
  · exact ⟨63, .inr (.inr (.inr rfl)), by simp⟩
theorem item_by_eq (n : Int) : ∃ (i : Item) (n' : Int), OkD i ∧ F_w_item_by [.int n] = some (.lst [.tup [.sh (.str i.s), .sh (.bl i.o), .sh (.str [i.m])], .sh (.int n')]) := by
  obtain ⟨mm, hm4, hmm⟩ := four_at (n / 3)
  have hsz := mod_rng (n / 12) (k := 12) (by decide)
  obtain ⟨k, hk⟩ : ∃ k : Nat, 1 + n / 12 % 12 = (k : Int) := ⟨(1 + n / 12 % 12).toNat, by omega⟩
  have h91 : (S94.filter not3).length = 91 := some91_len
  obtain ⟨m', ls', t, y6, g1, g2, g3⟩ := ib_loop (some (.sh (.int (n % 3)))) (some (.sh (.str [mm]))) (some (.sh (.int k))) (List.range k) (n / 144) some91 [] none (by rw [some91_len, List.length_range]; omega) (by rw [some91_len]; decide) (by simp; omega)
  have hr := rng0 (n := (k : Int)) (by omega)
  rw [Int.toNat_natCast] at hr
  have ht : t.length = k := by rw [g1, List.length_range]
  have hs := signs_eq
  have hlc : ∀ δ0 δ1 δ2 δ3 δ4 δ5 δ6, lcK [7] (.nm 7) (.som (.cmp .NotIn (.var 7) (.cst (.str [93, 94, 47])))) (.var 7) [δ0, δ1, δ2, δ3, δ4, δ5, δ6, none] (S94.map fun c => D.str [c]) = some (.lst (some91.map fun c => T.sh (.str [c]))) := by
    intro δ0 δ1 δ2 δ3 δ4 δ5 δ6
    rw [lcK_filter (g := fun c : Nat => D.str [c]) (k := fun c => T.sh (.str [c])) (p := not3)]
    · rfl
    · rw [S94_len]; decide
    · intro x hx
      simp [lcF, subOf_one, not3]
      split <;> rfl
  simp only [sgU] at g3
  have hfin : ∀ (i : Item) (u : U) (ρ : Rh), u = .lst [.tup [.sh (.str i.s), .sh (.bl i.o), .sh (.str [i.m])], .sh (.int m')] → sxs [] 100000 b_w_item_by (begR N_w_item_by [.int n]) = some (.rt u ρ) → F_w_item_by [.int n] = some (.lst [.tup [.sh (.str i.s), .sh (.bl i.o), .sh (.str [i.m])], .sh (.int m')]) := fun i u ρ e h => runXF_rt rfl h (by rw [e]; rfl)
  have hb : begR N_w_item_by [.int n] = [some (.sh (.int n)), none, none, none, none, none, none, none] := rfl
  have hu : (T.u ∘ fun c : Nat => T.sh (.str [c])) = fun c => U.sh (.str [c]) := rfl
  by_cases h2 : n % 3 = 2
  · refine ⟨⟨[], true, mm⟩, m', ⟨(fun c h => by cases h), by simp, (fun z => by cases z), hm4⟩, hfin _ _ [none, some (.lst (ls'.map fun c => U.sh (.str [c]))), some (.sh (.int (n % 3))), none, some (.sh (.int k)), some (.sh (.str ([] ++ t))), y6, none] rfl ?_⟩
    rw [hb]
    unfold b_w_item_by
    simp [h2] at g3
    simp [hs, hlc, hmm, hk, hr, hu, g3, h2]
    try trace_state
  · refine ⟨⟨t, decide (n % 3 = 1), mm⟩, m', ⟨fun c h => (List.mem_filter.mp (g2 c h)).1, (by show t.length ≤ 12; omega), (fun _ z => by have z : t = [] := z; rw [z] at ht; simp at ht; omega), hm4⟩, hfin _ _ [none, some (.lst (ls'.map fun c => U.sh (.str [c]))), some (.sh (.int (n % 3))), none, some (.sh (.int k)), none, y6, none] rfl ?_⟩
    rw [hb]
    unfold b_w_item_by
    simp [h2] at g3
    simp [hs, hlc, hmm, hk, hr, hu, g3, h2]
    try trace_state
end Lw
/-! law k16: items and rows drawn. -/
namespace Lw
open PySem L2 Eng
theorem ibs_loop (n : Nat) (c0 c1 : Option T) : ∀ (ks : List Nat) (is : List Item) (r : Int) (x4 x5 : Option T), (∀ i, i ∈ is → OkD i) → is.length + ks.length ≤ 100 → ∃ (js : List Item) (r' : Int) (y4 y5 : Option T), (∀ i, i ∈ js → OkD i) ∧ js.length = is.length + ks.length ∧
    forGo (asgR (.nm 4)) (exs n l1_w_items_by) (ks.map fun i : Nat => D.int i) [c0, c1, some (.lst (is.map fun i => T.sh i.D)), some (.sh (.int r)), x4, x5] = some (.nx [c0, c1, some (.lst (js.map fun i => T.sh i.D)), some (.sh (.int r')), y4, y5])
  | [], is, r, x4, x5, h, _ => ⟨is, r, x4, x5, h, rfl, rfl⟩
  | k :: ks, is, r, x4, x5, h, hl => by
    obtain ⟨i, r1, hi, he⟩ := item_by_eq r
    obtain ⟨js, r', y4, y5, g1, g2, g3⟩ := ibs_loop n c0 c1 ks (is ++ [i]) r1 (some (.sh (.int k))) (some (.sh i.D)) (fun j m => by
      rcases List.mem_append.mp m with m | m
      · exact h j m
      · rw [List.mem_singleton.mp m]; exact hi) (by simp at hl ⊢; omega)
    refine ⟨js, r', y4, y5, g1, by rw [g2]; simp; omega, (forGo_step (ρ1 := [c0, c1, some (.lst (is.map fun i => T.sh i.D)), some (.sh (.int r)), some (.sh (.int k)), x5]) rfl (.inl ?_)).trans g3⟩
    have p1 : is.length < 16777216 := by simp at hl; omega
    unfold l1_w_items_by
    simp [he, p1, Item.D]
theorem items_by_eq (n : Int) : ∃ is : List Item, (∀ i, i ∈ is → OkD i) ∧ is.length ≤ 8 ∧ F_w_items_by [.int n, .int 8] = some (.lst (is.map fun i => T.sh i.D)) := by
  have hm := mod_rng n (k := 9) (by decide)
  obtain ⟨k, hk⟩ : ∃ k : Nat, n % 9 = (k : Int) := ⟨(n % 9).toNat, by omega⟩
  obtain ⟨js, r', y4, y5, g1, g2, g3⟩ := ibs_loop 100000 (some (.sh (.int n))) (some (.sh (.int 8))) (List.range k) [] (n / 9) none none (fun i m => by cases m) (by simp; omega)
  have hr := rng0 (n := (k : Int)) (by omega)
  rw [Int.toNat_natCast] at hr
  refine ⟨js, g1, by rw [g2]; simp; omega, runF_rt rfl ?_⟩
  unfold b_w_items_by N_w_items_by
  simp at g3
  simp [hk, hr, g3]
theorem rb_loop (n : Nat) (c0 : Option T) {ls : List Nat} (h0 : ls ≠ []) (h1 : ls.length ≤ 1000) : ∀ (ks : List Nat) (row : List Nat) (r : Int) (x4 : Option T), row.length + ks.length ≤ 1000 → ∃ (row' : List Nat) (r' : Int) (y4 : Option T), row'.length = row.length + ks.length ∧
    forGo (asgR (.nm 4)) (exs n l1_w_row_by) (ks.map fun i : Nat => D.int i) [c0, some (.sh (.str ls)), some (.sh (.str row)), some (.sh (.int r)), x4] = some (.nx [c0, some (.sh (.str ls)), some (.sh (.str row')), some (.sh (.int r')), y4])
  | [], row, r, x4, _ => ⟨row, r, x4, rfl, rfl⟩
  | k :: ks, row, r, x4, hl => by
    have hp : 0 < ls.length := List.length_pos_iff.mpr h0
    have hm := mod_rng r (k := (ls.length : Int)) (by omega)
    obtain ⟨q, hq⟩ : ∃ q : Nat, r % (ls.length : Int) = (q : Int) := ⟨(r % (ls.length : Int)).toNat, by omega⟩
    have hql : q < ls.length := by omega
    have hat := atI_nat (xs := ls) hql
    obtain ⟨row', r', y4, g1, g2⟩ := rb_loop n c0 h0 h1 ks (row ++ [ls[q]]) (r / (ls.length : Int)) (some (.sh (.int k))) (by simp at hl ⊢; omega)
    refine ⟨row', r', y4, by rw [g1]; simp; omega, (forGo_step (ρ1 := [c0, some (.sh (.str ls)), some (.sh (.str row)), some (.sh (.int r)), some (.sh (.int k))]) rfl (.inl ?_)).trans g2⟩
    have p1 : ls.length ≤ 16777216 := by omega
    have p2 : row.length + 1 ≤ 16777216 := by simp at hl; omega
    have p3 : (0 : Int) < ls.length := by omega
    have p4 : (ls.length : Int) < 1073741824 := by omega
    have p5 : row.length ≤ 16777215 := by omega
    unfold l1_w_row_by
    simp [p1, p2, p3, p4, p5, hp, hq, hat]
theorem row_by_eq (n : Int) {ls : List Nat} (h0 : ls ≠ []) (h1 : ls.length ≤ 1000) : ∃ row : List Nat, row.length ≤ 12 ∧ F_w_row_by [.int n, .str ls] = some (.sh (.str row)) := by
  have hm := mod_rng n (k := 13) (by decide)
  obtain ⟨k, hk⟩ : ∃ k : Nat, n % 13 = (k : Int) := ⟨(n % 13).toNat, by omega⟩
  obtain ⟨row, r', y4, g1, g2⟩ := rb_loop 100000 (some (.sh (.int n))) h0 h1 (List.range k) [] (n / 13) none (by simp; omega)
  have hr := rng0 (n := (k : Int)) (by omega)
  rw [Int.toNat_natCast] at hr
  refine ⟨row, by rw [g1]; simp; omega, runF_rt rfl ?_⟩
  unfold b_w_row_by N_w_row_by
  simp [hk, hr, g2]
end Lw
/-! law k16: the row made by the items drawn. -/
namespace Lw
open PySem L2 Eng
theorem pig : ∀ (l s : List Nat), l.Nodup → (∀ c, c ∈ l → c ∈ s) → l.length ≤ s.length
  | [], s, _, _ => Nat.zero_le _
  | a :: l, s, h, g => by
    have ha : a ∈ s := g a List.mem_cons_self
    have h := List.nodup_cons.mp h
    have := pig l (s.erase a) h.2 (fun c hc => (List.mem_erase_of_ne (fun z => h.1 (by rw [← z]; exact hc))).mpr (g c (List.mem_cons_of_mem _ hc)))
    rw [List.length_erase_of_mem ha] at this
    have : 0 < s.length := List.length_pos_of_mem ha
    show l.length + 1 ≤ _
    omega
theorem S94_nodup : S94.Nodup := by decide
def fitQ (i : Item) (c : Nat) : Bool := decide (i.s.contains c ≠ i.o)
theorem fitQ_ne {i : Item} (h : OkD i) : S94.filter (fitQ i) ≠ [] := by
  obtain ⟨s, o, m⟩ := i
  intro z
  have z := List.filter_eq_nil_iff.mp z
  cases o
  · cases s with
    | nil => exact h.ne rfl rfl
    | cons c s => exact z c (h.sg c List.mem_cons_self) (by simp [fitQ])
  · have := pig S94 s S94_nodup (fun c hc => by
      have := z c hc
      simp [fitQ] at this
      exact this)
    rw [S94_len] at this
    have := h.ln
    simp only at this
    omega
theorem mb_step (n : Nat) (c0 c3 c5 x7 : Option T) {ls : List Nat} (h0 : ls ≠ []) (h1 : ls.length ≤ 1000) {t4 : T} (h4 : t4 = .lst (ls.map fun c => T.sh (.str [c])) ∨ t4 = .sh (.lst (ls.map fun c => D.str [c]))) (k : Nat) (row : List Nat) (r : Int) (hl : row.length + 1 ≤ 1000) : ∃ c : Nat,
    exs n l1_w_made_by [c0, some (.sh (.int r)), some (.sh (.str row)), c3, some t4, c5, some (.sh (.int k)), x7] = some (.nx [c0, some (.sh (.int (r / (ls.length : Int)))), some (.sh (.str (row ++ [c]))), c3, some (.sh (.lst (ls.map fun c => D.str [c]))), c5, some (.sh (.int k)), x7]) := by
  have hp : 0 < ls.length := List.length_pos_iff.mpr h0
  have hm := mod_rng r (k := (ls.length : Int)) (by omega)
  obtain ⟨q, hq⟩ : ∃ q : Nat, r % (ls.length : Int) = (q : Int) := ⟨(r % (ls.length : Int)).toNat, by omega⟩
  have hql : q < ls.length := by omega
  have hat : atI (ls.map fun c => D.str [c]) (q : Int) = some (D.str [ls[q]]) := by
    rw [atI_nat (by rw [List.length_map]; exact hql), List.getElem_map]
  refine ⟨ls[q], ?_⟩
  have p1 : ls.length ≤ 16777216 := by omega
  have p2 : row.length + 1 ≤ 16777216 := by omega
  have p3 : (0 : Int) < ls.length := by omega
  have p4 : (ls.length : Int) < 1073741824 := by omega
  have p5 : row.length ≤ 16777215 := by omega
  unfold l1_w_made_by
  rcases h4 with rfl | rfl
  · simp [p1, p2, p3, p4, p5, hp, hq, hat, Function.comp_def]
  · simp [p1, p2, p3, p4, p5, hp, hq, hat, Function.comp_def]
theorem mb_in (n : Nat) (c0 c3 c5 x7 : Option T) {ls : List Nat} (h0 : ls ≠ []) (h1 : ls.length ≤ 1000) : ∀ (ks : List Nat) (row : List Nat) (r : Int) (t4 : T) (x6 : Option T), (t4 = .lst (ls.map fun c => T.sh (.str [c])) ∨ t4 = .sh (.lst (ls.map fun c => D.str [c]))) → row.length + ks.length ≤ 1000 → ∃ (row' : List Nat) (r' : Int) (y4 y6 : Option T), row'.length = row.length + ks.length ∧
    forGo (asgR (.nm 6)) (exs n l1_w_made_by) (ks.map fun i : Nat => D.int i) [c0, some (.sh (.int r)), some (.sh (.str row)), c3, some t4, c5, x6, x7] = some (.nx [c0, some (.sh (.int r')), some (.sh (.str row')), c3, y4, c5, y6, x7])
  | [], row, r, t4, x6, _, _ => ⟨row, r, some t4, x6, rfl, rfl⟩
  | k :: ks, row, r, t4, x6, h4, hl => by
    obtain ⟨c, hc⟩ := mb_step n c0 c3 c5 x7 h0 h1 h4 k row r (by simp at hl; omega)
    obtain ⟨row', r', y4, y6, g1, g2⟩ := mb_in n c0 c3 c5 x7 h0 h1 ks (row ++ [c]) (r / (ls.length : Int)) _ (some (.sh (.int k))) (.inr rfl) (by simp at hl ⊢; omega)
    exact ⟨row', r', y4, y6, by rw [g1]; simp; omega, (forGo_step (ρ1 := [c0, some (.sh (.int r)), some (.sh (.str row)), c3, some t4, c5, some (.sh (.int k)), x7]) rfl (.inl hc)).trans g2⟩
theorem mb_item (c0 : Option T) {i : Item} (hi : OkD i) (row : List Nat) (r : Int) (x4 x5 x6 : Option T) (hl : row.length ≤ 900) : ∃ (row' : List Nat) (r' : Int) (y4 y5 y6 : Option T), row'.length ≤ row.length + 5 ∧
    exs 100000 l2_w_made_by [c0, some (.sh (.int r)), some (.sh (.str row)), some (.sh i.D), x4, x5, x6, none] = some (.nx [c0, some (.sh (.int r')), some (.sh (.str row')), some (.sh i.D), y4, y5, y6, none]) := by
  have hne := fitQ_ne hi
  have hfl : (S94.filter (fitQ i)).length ≤ 1000 := Nat.le_trans (List.length_filter_le ..) (by rw [S94_len]; decide)
  have hin := fun k x5 => mb_in 100000 c0 (some (.sh i.D)) x5 none hne hfl (List.range k) row (r / 6) _ x6 (.inl rfl)
  have hs := signs_eq
  have hlc : ∀ δ0 δ1 δ2 δ4 δ5 δ6, lcK [7] (.nm 7) (.som (.cmp .NotEq (.cmp .In (.var 7) (.idx (.var 3) (.cst (.int 0)))) (.idx (.var 3) (.cst (.int 1))))) (.var 7) [δ0, δ1, δ2, some i.D, δ4, δ5, δ6, none] (S94.map fun c => D.str [c]) = some (.lst ((S94.filter (fitQ i)).map fun c => T.sh (.str [c]))) := by
    intro δ0 δ1 δ2 δ4 δ5 δ6
    rw [lcK_filter (g := fun c : Nat => D.str [c]) (k := fun c => T.sh (.str [c])) (p := fitQ i)]
    · rw [S94_len]; decide
    · intro x hx
      obtain ⟨s, o, m⟩ := i
      cases o <;> simp [lcF, subOf_one, fitQ, Item.D] <;> split <;> simp_all
  have hfin : ∀ k : Nat, k ≤ 5 → ∀ x5, ∃ (row' : List Nat) (r' : Int) (y4 y6 : Option T), row'.length ≤ row.length + 5 ∧
      forGo (asgR (.nm 6)) (exs 100000 l1_w_made_by) ((List.range k).map fun i : Nat => D.int i) [c0, some (.sh (.int (r / 6))), some (.sh (.str row)), some (.sh i.D), some (.lst ((S94.filter (fitQ i)).map fun c => T.sh (.str [c]))), x5, x6, none] = some (.nx [c0, some (.sh (.int r')), some (.sh (.str row')), some (.sh i.D), y4, x5, y6, none]) := by
    intro k hk x5
    obtain ⟨row', r', y4, y6, g1, g2⟩ := hin k x5 (by rw [List.length_range]; omega)
    exact ⟨row', r', y4, y6, by rw [g1, List.length_range]; omega, g2⟩
  have hm := mod_rng r (k := 6) (by decide)
  obtain ⟨k, hk⟩ : ∃ k : Nat, r % 6 = (k : Int) := ⟨(r % 6).toNat, by omega⟩
  have hk5 : k ≤ 5 := by omega
  have hr : ∀ k : Nat, k ≤ 5 → rngD 0 (k : Int) = some ((List.range k).map fun i : Nat => D.int i) := fun k h => by
    have := rng0 (n := (k : Int)) (by omega)
    rw [Int.toNat_natCast] at this
    exact this
  obtain ⟨o1, ho⟩ : ∃ o1 : Nat, o1 = 1 := ⟨1, rfl⟩
  have ho1 : rngD 0 1 = some ((List.range o1).map fun i : Nat => D.int i) := by
    have := hr o1 (by omega)
    rw [← this, ho]; rfl
  obtain ⟨s, o, m⟩ := i
  have hm4 := hi.mm
  simp only at hm4
  simp only [Item.D] at hlc hfin ⊢
  rcases hm4 with rfl | rfl | rfl | rfl
  · obtain ⟨row', r', y4, y6, g1, g2⟩ := hfin o1 (by omega) (some (.sh (.int 1)))
    refine ⟨row', r', y4, some (.sh (.int 1)), y6, g1, ?_⟩
    unfold l2_w_made_by
    simp [hs, hlc, hk, ho1, g2]
  · obtain ⟨row', r', y4, y6, g1, g2⟩ := hfin k hk5 (some (.sh (.int k)))
    refine ⟨row', r', y4, some (.sh (.int k)), y6, g1, ?_⟩
    unfold l2_w_made_by
    simp [hs, hlc, hk, hr k hk5, g2]
  · by_cases h0 : k = 0
    · obtain ⟨row', r', y4, y6, g1, g2⟩ := hfin o1 (by omega) (some (.sh (.int 1)))
      refine ⟨row', r', y4, some (.sh (.int 1)), y6, g1, ?_⟩
      unfold l2_w_made_by
      simp [hs, hlc, hk, h0, ho1, g2]
    · obtain ⟨row', r', y4, y6, g1, g2⟩ := hfin k hk5 (some (.sh (.int k)))
      refine ⟨row', r', y4, some (.sh (.int k)), y6, g1, ?_⟩
      unfold l2_w_made_by
      simp [hs, hlc, hk, h0, hr k hk5, g2]
  · obtain ⟨j, hj⟩ : ∃ j : Nat, (k : Int) % 2 = (j : Int) := ⟨k % 2, by omega⟩
    have hj5 : j ≤ 5 := by omega
    obtain ⟨row', r', y4, y6, g1, g2⟩ := hfin j hj5 (some (.sh (.int j)))
    refine ⟨row', r', y4, some (.sh (.int j)), y6, g1, ?_⟩
    unfold l2_w_made_by
    simp [hs, hlc, hk, hj, hr j hj5, g2]
theorem mb_loop (c0 : Option T) : ∀ (is : List Item) (row : List Nat) (r : Int) (x3 x4 x5 x6 : Option T), (∀ i, i ∈ is → OkD i) → row.length + 5 * is.length ≤ 900 → ∃ (row' : List Nat) (r' : Int) (y3 y4 y5 y6 : Option T), row'.length ≤ row.length + 5 * is.length ∧
    forGo (asgR (.nm 3)) (exs 100000 l2_w_made_by) (is.map Item.D) [c0, some (.sh (.int r)), some (.sh (.str row)), x3, x4, x5, x6, none] = some (.nx [c0, some (.sh (.int r')), some (.sh (.str row')), y3, y4, y5, y6, none])
  | [], row, r, x3, x4, x5, x6, _, _ => ⟨row, r, x3, x4, x5, x6, by simp, rfl⟩
  | i :: is, row, r, x3, x4, x5, x6, h, hl => by
    obtain ⟨row1, r1, y4, y5, y6, g1, g2⟩ := mb_item c0 (h i List.mem_cons_self) row r x4 x5 x6 (by omega)
    obtain ⟨row', r', z3, z4, z5, z6, q1, q2⟩ := mb_loop c0 is row1 r1 (some (.sh i.D)) y4 y5 y6 (fun j hj => h j (List.mem_cons_of_mem _ hj)) (by simp at hl; omega)
    exact ⟨row', r', z3, z4, z5, z6, by simp; omega, (forGo_step (ρ1 := [c0, some (.sh (.int r)), some (.sh (.str row)), some (.sh i.D), x4, x5, x6, none]) rfl (.inl g2)).trans q2⟩
theorem made_by_eq {is : List Item} (h : ∀ i, i ∈ is → OkD i) (h8 : is.length ≤ 8) (n : Int) : ∃ row : List Nat, row.length ≤ 40 ∧ F_w_made_by [.lst (is.map Item.D), .int n] = some (.sh (.str row)) := by
  obtain ⟨row, r', y3, y4, y5, y6, g1, g2⟩ := mb_loop (some (.sh (.lst (is.map Item.D)))) is [] n none none none none h (by simp; omega)
  refine ⟨row, by simp at g1; omega, runF_rt rfl ?_⟩
  unfold b_w_made_by N_w_made_by
  simp [g2]
end Lw
/-! law k16: items and a row drawn from the script. -/
namespace Lw
open PySem L2 Eng
theorem join_len : ∀ (xs : List (List Nat)), (TL.joinL [] xs).length = (xs.map List.length).sum
  | [] => rfl
  | [a] => by simp [TL.joinL]
  | a :: b :: xs => by
    have := join_len (b :: xs)
    simp [TL.joinL] at this ⊢
    omega
theorem sum_12 : ∀ (is : List Item), (∀ i, i ∈ is → OkD i) → (is.map (List.length ∘ Item.s)).sum ≤ 12 * is.length
  | [], _ => by simp
  | i :: is, h => by
    have := sum_12 is (fun j hj => h j (List.mem_cons_of_mem _ hj))
    have := (h i List.mem_cons_self).ln
    simp
    omega
theorem drawn_by_eq (ns : List Int) : ∃ (is : List Item) (row : List Nat), (∀ i, i ∈ is → OkD i) ∧ is.length ≤ 8 ∧ row.length ≤ 64 ∧ F_w_drawn_by [.scr ns] = some (.lst [.sh (.lst (is.map Item.D)), .sh (.str row)]) := by
  have c1 : F_w_cell_at [.scr ns, .int 1] = some (.sh (.int (cz ns 1))) := cell_val ns 1
  have c3 : F_w_cell_at [.scr ns, .int 3] = some (.sh (.int (cz ns 3))) := cell_val ns 3
  have c4 : F_w_cell_at [.scr ns, .int 4] = some (.sh (.int (cz ns 4))) := cell_val ns 4
  have c5 : F_w_cell_at [.scr ns, .int 5] = some (.sh (.int (cz ns 5))) := cell_val ns 5
  obtain ⟨n1, l1⟩ := load_eq (cz ns 1)
  obtain ⟨n3, l3⟩ := load_eq (cz ns 3 / 2)
  obtain ⟨n4, l4⟩ := load_eq (cz ns 4 / 2)
  obtain ⟨n5, l5⟩ := load_eq (cz ns 5)
  obtain ⟨is, hi, h8, hF⟩ := items_by_eq n1
  have hs := signs_eq
  have hlc : ∀ δ0 δ1 δ2 δ3 δ4 δ5, lcK [6] (.nm 6) .non (.idx (.var 6) (.cst (.int 0))) [δ0, δ1, δ2, δ3, δ4, δ5, none] (is.map Item.D) = some (.lst (is.map fun i => T.sh (.str i.s))) := by
    intro δ0 δ1 δ2 δ3 δ4 δ5
    refine lcK_map _ (Nat.le_trans (m := 8) h8 (by decide)) fun i _ => ?_
    simp [lcF, Item.D]
  have hsum := sum_12 is hi
  have hjl := join_len (is.map Item.s)
  have hmk : ∀ {ls : List Nat}, ls ≠ [] → ls.length ≤ 1000 → ∃ (l r m : List Nat), l.length ≤ 12 ∧ r.length ≤ 12 ∧ m.length ≤ 40 ∧ F_w_row_by [.int n4, .str ls] = some (.sh (.str l)) ∧ F_w_row_by [.int n5, .str ls] = some (.sh (.str r)) ∧ F_w_made_by [.lst (is.map Item.D), .int n3] = some (.sh (.str m)) := by
    intro ls h0 h1
    obtain ⟨l, g1, g2⟩ := row_by_eq n4 h0 h1
    obtain ⟨r, g3, g4⟩ := row_by_eq n5 h0 h1
    obtain ⟨m, g5, g6⟩ := made_by_eq hi h8 n3
    exact ⟨l, r, m, g1, g3, g5, g2, g4, g6⟩
  by_cases h4 : cz ns 4 % 2 = 0
  · have hjn : (TL.joinL [] (is.map Item.s)).length ≤ 96 := by
      rw [hjl, List.map_map]
      exact Nat.le_trans hsum (by omega)
    have hcs : ((is.map Item.s).map List.length).sum ≤ 96 := by rw [← hjl]; exact hjn
    obtain ⟨l, r, m, b1, b2, b3, e1, e2, e3⟩ := hmk (ls := 97 :: 98 :: TL.joinL [] (is.map Item.s)) (by simp) (by simp; omega)
    by_cases h3 : cz ns 3 % 2 = 0
    · refine ⟨is, l ++ m ++ r, hi, h8, by simp; omega, runF_rt rfl ?_⟩
      have B1 : l.length + m.length ≤ 16777216 := by omega
      have B2 : l.length ≤ 16777216 := by omega
      have B3 : l.length + r.length ≤ 16777216 := by omega
      have B4 : l.length + m.length + r.length ≤ 16777216 := by omega
      have B5 : l.length + (m.length + r.length) ≤ 16777216 := by omega
      have B6 : (is.map (List.length ∘ Item.s)).sum ≤ 16777216 := by omega
      have B7 : 2 + (TL.joinL [] (is.map Item.s)).length ≤ 16777216 := by omega
      have B8 : (TL.joinL [] (is.map Item.s)).length + 2 ≤ 16777216 := by omega
      unfold b_w_drawn_by N_w_drawn_by
      simp [c1, c3, c4, c5, l1, l3, l4, l5, hF, hs, h4, h3, hlc, e1, e2, e3, B1, B2, B3, B4, B5, B6, B7, B8]
    · refine ⟨is, l ++ [] ++ r, hi, h8, by simp; omega, runF_rt rfl ?_⟩
      have B1 : l.length + m.length ≤ 16777216 := by omega
      have B2 : l.length ≤ 16777216 := by omega
      have B3 : l.length + r.length ≤ 16777216 := by omega
      have B4 : l.length + m.length + r.length ≤ 16777216 := by omega
      have B5 : l.length + (m.length + r.length) ≤ 16777216 := by omega
      have B6 : (is.map (List.length ∘ Item.s)).sum ≤ 16777216 := by omega
      have B7 : 2 + (TL.joinL [] (is.map Item.s)).length ≤ 16777216 := by omega
      have B8 : (TL.joinL [] (is.map Item.s)).length + 2 ≤ 16777216 := by omega
      unfold b_w_drawn_by N_w_drawn_by
      simp [c1, c3, c4, c5, l1, l3, l4, l5, hF, hs, h4, h3, hlc, e1, e2, e3, B1, B2, B3, B4, B5, B6, B7, B8]
  · obtain ⟨l, r, m, b1, b2, b3, e1, e2, e3⟩ := hmk (ls := S94) (by simp [S94]) (by rw [S94_len]; decide)
    by_cases h3 : cz ns 3 % 2 = 0
    · refine ⟨is, l ++ m ++ r, hi, h8, by simp; omega, runF_rt rfl ?_⟩
      have B1 : l.length + m.length ≤ 16777216 := by omega
      have B2 : l.length ≤ 16777216 := by omega
      have B3 : l.length + r.length ≤ 16777216 := by omega
      have B4 : l.length + m.length + r.length ≤ 16777216 := by omega
      have B5 : l.length + (m.length + r.length) ≤ 16777216 := by omega
      unfold b_w_drawn_by N_w_drawn_by
      simp [c1, c3, c4, c5, l1, l3, l4, l5, hF, hs, h4, h3, e1, e2, e3, B1, B2, B3, B4, B5]
    · refine ⟨is, l ++ [] ++ r, hi, h8, by simp; omega, runF_rt rfl ?_⟩
      have B1 : l.length + m.length ≤ 16777216 := by omega
      have B2 : l.length ≤ 16777216 := by omega
      have B3 : l.length + r.length ≤ 16777216 := by omega
      have B4 : l.length + m.length + r.length ≤ 16777216 := by omega
      have B5 : l.length + (m.length + r.length) ≤ 16777216 := by omega
      unfold b_w_drawn_by N_w_drawn_by
      simp [c1, c3, c4, c5, l1, l3, l4, l5, hF, hs, h4, h3, e1, e2, e3, B1, B2, B3, B4, B5]
end Lw
/-! law k16: a row made of four signs. -/
namespace Lw
open PySem L2 Eng
theorem left2_nodup (x y : Nat) : (left2 x y).Nodup := some91_nodup.filter _
theorem z4_ne (c : Int) : z4 c ≠ x4 c ∧ z4 c ≠ y4 c ∧ z4 c ≠ w4 c := by
  have hm : z4 c ∈ left2 (x4 c) (y4 c) := atI_mem (z4_at c)
  have h2 := (List.mem_filter.mp hm).2
  unfold two at h2
  simp at h2
  refine ⟨h2.1, h2.2, fun h => ?_⟩
  have hl := left2_len (x4 c) (y4 c)
  have r1 := mod_rng (c / 8190) (k := 89) (by decide)
  have r2 := mod_rng (c / 728910) (k := 88) (by decide)
  have r3 := mod_rng (c / 8190 % 89 + 1 + c / 728910 % 88) (k := 89) (by decide)
  have hn := left2_nodup (x4 c) (y4 c)
  unfold z4 w4 at h
  generalize left2 (x4 c) (y4 c) = l at *
  generalize ha : c / 8190 % 89 = a at *
  generalize hb : c / 728910 % 88 = b at *
  rw [List.getD_eq_getElem?_getD, List.getD_eq_getElem?_getD, List.getElem?_eq_getElem (by omega), List.getElem?_eq_getElem (by omega)] at h
  have := (List.getElem_inj hn).mp h
  omega
theorem four_ne {x y w z : Nat} (h1 : z ≠ x) (h2 : z ≠ y) (h3 : z ≠ w) (c : Int) : [x, y, w, z].filter (fitQ (item4 x y w z c)) ≠ [] := by
  have hf : ∀ k, farS x y w z c k ≠ z := fun k e => by
    have := (List.mem_filter.mp (atI_mem (farS_at x y w z c k))).2
    rw [e] at this
    unfold far7 at this
    simp at this
  intro hz
  have hz := List.filter_eq_nil_iff.mp hz
  have zx := hz x (by simp)
  have zy := hz y (by simp)
  have zz := hz z (by simp)
  unfold fitQ item4 base4 at zx zy zz
  by_cases hh : c / 24 % 2 = 1 ∧ c % 6 < 5
  · simp only [if_pos hh] at zx zy zz
    clear hh
    rcases six c with h | h | h | h | h | h <;> first | (simp [h] at zx; done) | (simp [h] at zy; done) | (simp [h, h1, h2, h3, hf] at zz; done)
  · simp only [if_neg hh] at zx zy zz
    clear hh
    rcases six c with h | h | h | h | h | h <;> first | (simp [h] at zx; done) | (simp [h] at zy; done) | (simp [h, h1, h2, h3, hf] at zz; done)
def cnt4 (m : Nat) (c : Int) : Int := if m = 49 then 1 else if m = 43 ∧ c / 48 % 4 = 0 then 1 else if m = 63 then c / 48 % 4 % 2 else c / 48 % 4
theorem cnt4_rng (m : Nat) (c : Int) : 0 ≤ cnt4 m c ∧ cnt4 m c ≤ 3 := by
  have h := mod_rng (c / 48) (k := 4) (by decide)
  unfold cnt4
  split
  · omega
  · split
    · omega
    · split <;> omega
def sg4 (ls : List Nat) (c : Int) (k : Nat) : Nat := ls.getD ((c / 192 + (k : Int)) % (ls.length : Int)).toNat 0
theorem sg4_at {ls : List Nat} (h0 : ls ≠ []) (c : Int) (k : Nat) : atI ls ((c / 192 + (k : Int)) % (ls.length : Int)) = some (sg4 ls c k) := by
  have hp : 0 < ls.length := List.length_pos_iff.mpr h0
  have h := mod_rng (c / 192 + (k : Int)) (k := (ls.length : Int)) (by omega)
  exact atI_getD 0 h.1 h.2
theorem made4_lc {ls : List Nat} (h0 : ls ≠ []) (c0 c1 x2 x3 x4 x8 x9 : Option D) (c m : Int) (hm : 0 ≤ m ∧ m ≤ 3) :
    lcK [9] (.nm 9) .non (.idx (.var 6) (.bin .Mod (.bin .Add (.bin .FloorDiv (.var 5) (.cst (.int 192))) (.var 9)) (.bi .len (.cons (.var 6) .nil)))) [c0, c1, x2, x3, x4, some (.int c), some (.lst (ls.map fun x => .str [x])), some (.int m), x8, x9] ((List.range m.toNat).map fun i : Nat => D.int i) =
      some (.lst ((List.range m.toNat).map fun k : Nat => T.sh (.str [sg4 ls c k]))) := by
  have hp : 0 < ls.length := List.length_pos_iff.mpr h0
  rw [lcK_map (g := fun i : Nat => D.int (i : Int)) (k := fun k : Nat => T.sh (.str [sg4 ls c k]))]
  · rw [List.length_range]; simp; omega
  · intro k hk
    have h2 := sg4_at h0 c k
    simp [lcF, hp, h2]
theorem made4_step (c0 c1 : Option T) {ls : List Nat} (h4 : ls.length ≤ 4) {i : Item} (h0 : ls.filter (fitQ i) ≠ []) (hm4 : i.m = 49 ∨ i.m = 42 ∨ i.m = 43 ∨ i.m = 63) (acc : List Nat) (ha : acc.length ≤ 1000000) (c : Int) (x6 x7 : Option T) : ∃ (t : List Nat) (y6 y7 : Option T), t.length ≤ 3 ∧
    exs 100000 l1_w_made [c0, c1, some (.sh (.lst (ls.map fun c => D.str [c]))), some (.sh (.str acc)), some (.sh i.D), some (.sh (.int c)), x6, x7, none, none] = some (.nx [c0, c1, some (.sh (.lst (ls.map fun c => D.str [c]))), some (.sh (.str (acc ++ t))), some (.sh i.D), some (.sh (.int c)), y6, y7, none, none]) := by
  have hlc1 : ∀ δ0 δ1 δ2 δ3 δ5 δ6 δ7, lcK [8] (.nm 8) (.som (.cmp .NotEq (.cmp .In (.var 8) (.idx (.var 4) (.cst (.int 0)))) (.idx (.var 4) (.cst (.int 1))))) (.var 8) [δ0, δ1, δ2, δ3, some i.D, δ5, δ6, δ7, none, none] (ls.map fun c => D.str [c]) = some (.lst ((ls.filter (fitQ i)).map fun c => T.sh (.str [c]))) := by
    intro δ0 δ1 δ2 δ3 δ5 δ6 δ7
    rw [lcK_filter (g := fun c : Nat => D.str [c]) (k := fun c => T.sh (.str [c])) (p := fitQ i)]
    · exact Nat.le_trans h4 (by decide)
    · intro x hx
      obtain ⟨s, o, m⟩ := i
      cases o <;> simp [lcF, subOf_one, fitQ, Item.D] <;> split <;> simp_all
  generalize ls.filter (fitQ i) = fs at *
  have hc := cnt4_rng i.m c
  have hk := mod_rng (c / 48) (k := 4) (by decide)
  have hr := rng0 (n := cnt4 i.m c) (by omega)
  have hlc := fun c0 c1 x2 x3 x4 x8 x9 => made4_lc h0 c0 c1 x2 x3 x4 x8 x9 c (cnt4 i.m c) hc
  have hl1 : (cnt4 i.m c).toNat ≤ 16777216 := by omega
  have hl2 : acc.length + (cnt4 i.m c).toNat ≤ 16777216 := by omega
  have hl3 : acc.length ≤ 16777215 := by omega
  have hl4 : acc.length ≤ 16777216 := by omega
  refine ⟨(List.range (cnt4 i.m c).toNat).map fun k : Nat => sg4 fs c k, some (.lst (fs.map fun c => T.sh (.str [c]))), some (.sh (.int (cnt4 i.m c))), by simp; omega, ?_⟩
  unfold l1_w_made
  obtain ⟨s, o, m⟩ := i
  unfold Item.D at *
  simp only at *
  rcases hm4 with rfl | rfl | rfl | rfl
  · simp [cnt4] at hr hlc hl1 hl2
    simp [cnt4, hlc1, hr, hlc, hl1, hl2, hl3, hl4, join_signs, sum_one]
  · simp [cnt4] at hr hlc hl1 hl2
    simp [cnt4, hlc1, hr, hlc, hl1, hl2, hl3, hl4, join_signs, sum_one]
  · by_cases z : c / 48 % 4 = 0
    · simp [cnt4, z] at hr hlc hl1 hl2
      simp [cnt4, z, hlc1, hr, hlc, hl1, hl2, hl3, hl4, join_signs, sum_one]
    · simp [cnt4, z] at hr hlc hl1 hl2
      simp [cnt4, z, hlc1, hr, hlc, hl1, hl2, hl3, hl4, join_signs, sum_one]
  · simp [cnt4] at hr hlc hl1 hl2
    simp [cnt4, hlc1, hr, hlc, hl1, hl2, hl3, hl4, join_signs, sum_one]
end Lw
/-! law k16: a row made of four signs, joined. -/
namespace Lw
open PySem L2 Eng
theorem item4_m (x y w z : Nat) (c : Int) : (item4 x y w z c).m = 49 ∨ (item4 x y w z c).m = 42 ∨ (item4 x y w z c).m = 43 ∨ (item4 x y w z c).m = 63 := code4_four c
theorem made4_loop {x y w z : Nat} (h1 : z ≠ x) (h2 : z ≠ y) (h3 : z ≠ w) (c0 c1 : Option T) : ∀ (cs : List Int) (acc : List Nat) (x4 x5 x6 x7 : Option T), acc.length + 3 * cs.length ≤ 1000 → ∃ (row : List Nat) (y4 y5 y6 y7 : Option T), row.length ≤ acc.length + 3 * cs.length ∧
    forGo (asgR (.tp [4, 5])) (exs 100000 l1_w_made) (List.zipWith (fun x y => D.tup [x, y]) ((cs.map (item4 x y w z)).map Item.D) (cs.map .int)) [c0, c1, some (.sh (fourD x y w z)), some (.sh (.str acc)), x4, x5, x6, x7, none, none] = some (.nx [c0, c1, some (.sh (fourD x y w z)), some (.sh (.str row)), y4, y5, y6, y7, none, none])
  | [], acc, x4, x5, x6, x7, _ => ⟨acc, x4, x5, x6, x7, by simp, rfl⟩
  | c :: cs, acc, x4, x5, x6, x7, hl => by
    obtain ⟨t, y6, y7, g1, g2⟩ := made4_step c0 c1 (ls := [x, y, w, z]) (Nat.le_refl 4) (i := item4 x y w z c) (four_ne h1 h2 h3 c) (item4_m x y w z c) acc (by simp at hl; omega) c x6 x7
    obtain ⟨row, z4, z5, z6, z7, q1, q2⟩ := made4_loop h1 h2 h3 c0 c1 cs (acc ++ t) (some (.sh (item4 x y w z c).D)) (some (.sh (.int c))) y6 y7 (by simp at hl ⊢; omega)
    exact ⟨row, z4, z5, z6, z7, by simp at q1 ⊢; omega, (forGo_step (ρ1 := [c0, c1, some (.sh (fourD x y w z)), some (.sh (.str acc)), some (.sh (item4 x y w z c).D), some (.sh (.int c)), x6, x7, none, none]) rfl (.inl g2)).trans q2⟩
theorem made4_eq {x y w z : Nat} (h1 : z ≠ x) (h2 : z ≠ y) (h3 : z ≠ w) {cs : List Int} (hc : cs.length ≤ 63) : ∃ row : List Nat, row.length ≤ 189 ∧ F_w_made [.lst ((cs.map (item4 x y w z)).map Item.D), .lst (cs.map .int), fourD x y w z] = some (.sh (.str row)) := by
  obtain ⟨row, y4, y5, y6, y7, g1, g2⟩ := made4_loop h1 h2 h3 (some (.sh (.lst ((cs.map (item4 x y w z)).map Item.D)))) (some (.sh (.lst (cs.map .int)))) cs [] none none none none (by simp; omega)
  refine ⟨row, by simp at g1; omega, runF_rt rfl ?_⟩
  unfold b_w_made N_w_made
  simp at g2
  simp [g2]
/-- the six sides -/
theorem sel_eq (x y w z : Nat) (i : Int) : ∃ a : Nat, atI [D.str [x], D.str [y], D.str [w], D.str [z]] (i % 4) = some (.str [a]) := by
  have : i % 4 = 0 ∨ i % 4 = 1 ∨ i % 4 = 2 ∨ i % 4 = 3 := by omega
  rcases this with h | h | h | h <;> rw [h]
  · exact ⟨x, by simp⟩
  · exact ⟨y, by simp⟩
  · exact ⟨w, by simp⟩
  · exact ⟨z, by simp⟩
end Lw
/-! law k16: what the law asks of a pattern and a row. -/
namespace Lw
open PySem L2 Eng
def b_tail : Ss :=
  (.frz 4 (.cons (.set 6 (.tup (.cons (.cst (.bl false)) (.cons (.var 4) (.cons (.cst (.bl false)) .nil))))) (.frz 5 (.frz 6 (.cons (.set 7 (.cal "stretch" F_stretch [(.int 0)] (.cons (.var 6) (.cons (.var 5) .nil)))) (.cons (.ite (.cmp .Is (.var 7) (.cst .non))
  (.frz 5 (.cons (.set 12 (.cal "_law_pairs" F_w_pairs [] (.cons (.slc (.var 0) (.som (.cst (.int 19))) (.som (.cst (.int 39)))) (.cons (.var 5) (.cons (.bi .len (.cons (.var 5) .nil)) .nil))))) (.cons (.ret (.and (.not (.bi .any (.cons (.lc [("_law_pair", 15)] (.nm 15) (.seq (.var 12)) .non (.cal "_law_held" F_w_held [] (.cons (.var 6) (.cons (.var 5) (.cons (.var 15) .nil))))) .nil))) (.one (.cmp .Is (.cal "found" F_found [] (.cons (.var 6) (.cons (.var 5) .nil))) (.cst (.bl false)))))) .nil)))
  .nil) (.cons (.ite (.or (.not (.cal "_law_is_stretch" F_w_is_stretch [] (.cons (.var 7) (.cons (.var 5) .nil)))) (.or (.not (.cal "_law_held" F_w_held [] (.cons (.var 6) (.cons (.var 5) (.cons (.var 7) .nil))))) (.one (.cmp .IsNot (.cal "found" F_found [] (.cons (.var 6) (.cons (.var 5) .nil))) (.cst (.bl true))))))
  (.cons (.ret (.cst (.bl false))) .nil)
  .nil) (.frz 7 (.cons (.setL 8 (.lc [("_law_end", 13)] (.nm 13) (.rng2 (.bin .Add (.idx (.var 7) (.cst (.int 1))) (.cst (.int 1))) (.bin .Add (.bi .len (.cons (.var 5) .nil)) (.cst (.int 1)))) .non (.tup (.cons (.idx (.var 7) (.cst (.int 0))) (.cons (.var 13) .nil))))) (.cons (.ite (.cmp .Gt (.idx (.var 7) (.cst (.int 0))) (.cst (.int 0)))
  (.frz 5 (.frz 8 (.cons (.set 8 (.bin .Add (.var 8) (.cal "_law_pairs" F_w_pairs [] (.cons (.slc (.var 0) (.som (.cst (.int 19))) (.som (.cst (.int 39)))) (.cons (.var 5) (.cons (.bin .Sub (.idx (.var 7) (.cst (.int 0))) (.cst (.int 1))) .nil)))))) .nil)))
  .nil) (.cons (.ite (.bi .any (.cons (.lc [("_law_pair", 15)] (.nm 15) (.seq (.var 8)) .non (.cal "_law_held" F_w_held [] (.cons (.var 6) (.cons (.var 5) (.cons (.var 15) .nil))))) .nil))
  (.cons (.ret (.cst (.bl false))) .nil)
  .nil) (.cons (.set 9 (.cal "_law_cell_at" F_w_cell_at [] (.cons (.var 0) (.cons (.cst (.int 2)) .nil)))) (.frz 2 (.cons (.setL 10 (.lc [("_law_k", 14)] (.nm 14) (.rng1 (.cst (.int 6))) .non (.idx (.var 2) (.bin .Mod (.bin .FloorDiv (.var 9) (.idx (.lst (.cons (.cst (.int 1)) (.cons (.cst (.int 4)) (.cons (.cst (.int 16)) (.cons (.cst (.int 64)) (.cons (.cst (.int 256)) (.cons (.cst (.int 1024)) .nil))))))) (.var 14))) (.cst (.int 4)))))) (.cons (.ret (.cal "_law_longer" F_w_longer [] (.cons (.var 6) (.cons (.var 5) (.cons (.var 7) (.cons (.var 10) .nil)))))) .nil)))))))))))))))
theorem b_law_eq : b_law =
  (.cons (.set 1 (.cal "_law_cell_at" F_w_cell_at [] (.cons (.var 0) (.cons (.cst (.int 0)) .nil)))) (.cons (.set 2 (.cal "_law_four" F_w_four [] (.cons (.cal "_law_cell_at" F_w_cell_at [] (.cons (.var 0) (.cons (.cst (.int 1)) .nil))) .nil))) (.cons (.set 3 (.slc (.var 0) (.som (.cst (.int 3))) (.som (.bin .Add (.cst (.int 3)) (.bin .Mod (.var 1) (.cst (.int 5))))))) (.frz 2 (.frz 3 (.cons (.setL 4 (.lc [("_law_cell", 9)] (.nm 9) (.seq (.var 3)) .non (.cal "_law_item" F_w_item [] (.cons (.var 9) (.cons (.var 2) .nil))))) (.cons (.set 5 (.mth .join (.cst (.str [])) (.cons (.lc [("_law_cell", 9)] (.nm 9) (.seq (.slc (.var 0) (.som (.cst (.int 7))) (.som (.cst (.int 19))))) .non (.idx (.var 2) (.bin .Mod (.var 9) (.cst (.int 4))))) .nil))) (.cons (.ite (.cmp .Eq (.bin .Mod (.bin .FloorDiv (.var 1) (.cst (.int 5))) (.cst (.int 2))) (.cst (.int 1)))
  (.cons (.set 11 (.bin .Mod (.bin .FloorDiv (.var 1) (.cst (.int 10))) (.bin .Add (.bi .len (.cons (.var 5) .nil)) (.cst (.int 1))))) (.frz 2 (.frz 3 (.frz 4 (.frz 5 (.cons (.set 5 (.bin .Add (.bin .Add (.slc (.var 5) .non (.som (.var 11))) (.cal "_law_made" F_w_made [] (.cons (.var 4) (.cons (.var 3) (.cons (.var 2) .nil))))) (.slc (.var 5) (.som (.var 11)) .non))) .nil))))))
  .nil) (.cons (.ite (.cmp .Gt (.bin .Mod (.bin .FloorDiv (.var 1) (.cst (.int 5))) (.cst (.int 4))) (.cst (.int 1)))
  (.cons (.setT [4, 5] (.cal "_law_drawn_by" F_w_drawn_by [] (.cons (.var 0) .nil))) .nil)
  .nil) b_tail))))))))) := rfl
def selN (x y w z : Nat) (i : Int) : Nat := [x, y, w, z].getD (i % 4).toNat 0
theorem selN_at (x y w z : Nat) (i : Int) : atI [D.str [x], D.str [y], D.str [w], D.str [z]] (i % 4) = some (.str [selN x y w z i]) := by
  have h := mod_rng i (k := 4) (by decide)
  show atI ([x, y, w, z].map fun x : Nat => D.str [x]) _ = _
  rw [atI_mapE, atI_getD 0 h.1 (by simp; omega)]; rfl
theorem ds_app : ∀ A B : List T, T.ds (A ++ B) = T.ds A ++ T.ds B
  | [], _ => rfl
  | a :: A, B => congrArg (a.d :: ·) (ds_app A B)
theorem ds_pair (b : Nat) : ∀ R : List Nat, T.ds (R.map fun k : Nat => T.tup [.sh (.int b), .sh (.int k)]) = R.map fun k : Nat => prD (b, k)
  | [] => rfl
  | a :: R => congrArg (prD (b, a) :: ·) (ds_pair b R)
theorem bls_ff {α β : Type} : ∀ (A : List α) (B : List β), blsOf ((A.map fun _ => D.bl false) ++ (B.map fun _ => D.bl false)) = some ((A.map fun _ => false) ++ (B.map fun _ => false))
  | [], B => bls_map (fun _ => false) B
  | _ :: A, B => by rw [List.map_cons, List.cons_append, blsOf, bls_ff A B]; rfl
theorem any_f {α : Type} : ∀ l : List α, (l.any fun _ => false) = false
  | [] => rfl
  | _ :: l => any_f l
theorem bls_rep (b : Bool) : ∀ n : Nat, blsOf (List.replicate n (D.bl b)) = some (List.replicate n b)
  | 0 => rfl
  | n + 1 => by rw [List.replicate_succ, blsOf, bls_rep b n]; rfl
theorem sides_lc (x y w z : Nat) (c : Int) (d0 d1 d3 d4 d5 d6 d7 d8 d10 d11 d12 d13 d14 d15 : Option D) :
    lcK [14] (.nm 14) .non (.idx (.var 2) (.bin .Mod (.bin .FloorDiv (.var 9) (.idx (.lst (.cons (.cst (.int 1)) (.cons (.cst (.int 4)) (.cons (.cst (.int 16)) (.cons (.cst (.int 64)) (.cons (.cst (.int 256)) (.cons (.cst (.int 1024)) .nil))))))) (.var 14))) (.cst (.int 4)))) [d0, d1, some (fourD x y w z), d3, d4, d5, d6, d7, d8, some (.int c), d10, d11, d12, d13, d14, d15] ((List.range 6).map fun i : Nat => D.int i) =
      some (.lst ((List.range 6).map fun k : Nat => T.sh (.str [selN x y w z (c / ([1, 4, 16, 64, 256, 1024].getD k 1 : Int))]))) := by
  rw [lcK_map (g := fun i : Nat => D.int (i : Int)) (k := fun k : Nat => T.sh (.str [selN x y w z (c / ([1, 4, 16, 64, 256, 1024].getD k 1 : Int))]))]
  · rw [List.length_range]; decide
  · intro k hk
    have hk := List.mem_range.mp hk
    have : k = 0 ∨ k = 1 ∨ k = 2 ∨ k = 3 ∨ k = 4 ∨ k = 5 := by omega
    have a4 : atI [D.int 1, D.int 4, D.int 16, D.int 64, D.int 256, D.int 1024] 4 = some (.int 256) := rfl
    have a5 : atI [D.int 1, D.int 4, D.int 16, D.int 64, D.int 256, D.int 1024] 5 = some (.int 1024) := rfl
    rcases this with rfl | rfl | rfl | rfl | rfl | rfl <;> simp [lcF, selN_at, a4, a5]
section
variable {is : List Item} {row : List Nat} (hr : row.length ≤ 1000) (hi : is.length ≤ 1000)
include hr hi
theorem held_lc (d0 d1 d2 d3 d4 d7 d8 d9 d10 d11 d12 d13 d14 d15 : Option D) (ds : List D) (hl : ds.length ≤ 100000) (h : ∀ d, d ∈ ds → ∃ p : Nat × Nat, d = prD p ∧ p.1 ≤ row.length ∧ p.2 ≤ row.length ∧ (stretchF true is true (betw row p.1 p.2) 0).isSome = false) :
    lcK [15] (.nm 15) .non (.cal "_law_held" F_w_held [] (.cons (.var 6) (.cons (.var 5) (.cons (.var 15) .nil)))) [d0, d1, d2, d3, d4, some (.str row), some (.tup [.bl false, .lst (is.map Item.D), .bl false]), d7, d8, d9, d10, d11, d12, d13, d14, d15] ds = some (.lst (ds.map fun _ => T.sh (.bl false))) := by
  have := lcK_map (vs := [15]) (tg := .nm 15) (c := .non) (e := .cal "_law_held" F_w_held [] (.cons (.var 6) (.cons (.var 5) (.cons (.var 15) .nil)))) (δ := [d0, d1, d2, d3, d4, some (.str row), some (.tup [.bl false, .lst (is.map Item.D), .bl false]), d7, d8, d9, d10, d11, d12, d13, d14, d15]) (g := fun d : D => d) (k := fun _ => T.sh (.bl false)) (xs := ds) (Nat.le_trans hl (by decide)) (by
    intro d hd
    obtain ⟨p, rfl, p1, p2, p3⟩ := h d hd
    have hh := held_eq (is := is) (row := row) (by omega) hi p1 p2
    rw [p3] at hh
    simp [lcF, hh, prD])
  rw [List.map_id'] at this
  exact this
theorem tail_none (ns : List Int) (t4 : T) (h4 : t4 = .lst (is.map fun i => T.sh i.D) ∨ t4 = .sh (.lst (is.map Item.D))) (x1 x3 x11 : Option T) (f4 : D) (h : stretchF false is false row 0 = none) :
    exs 100000 b_tail [some (.sh (.scr ns)), x1, some (.sh f4), x3, some t4, some (.sh (.str row)), none, none, none, none, none, x11, none, none, none, none] = some (.rt (.sh (.bl true))) := by
  have hs := stretch_eq (front := false) (back := false) (is := is) (row := row) (b := 0) (by omega) hi (by omega)
  rw [h] at hs
  have hf := found_eq (front := false) (back := false) (is := is) (row := row) (by omega) hi
  rw [h] at hf
  have hcl : (cutL ns (some 19) (some 39)).length ≤ 20 := by
    rw [show cutL ns (some 19) (some 39) = (ns.drop (HT.sIx ns.length 0 (some 19))).take (HT.sIx ns.length ns.length (some 39) - HT.sIx ns.length 0 (some 19)) from rfl]
    have e1 := HT.sIx_nat ns.length 0 19
    have e2 := HT.sIx_nat ns.length ns.length 39
    simp only [List.length_take]
    have e1 : HT.sIx ns.length 0 (some 19) = min 19 ns.length := e1
    have e2 : HT.sIx ns.length ns.length (some 39) = min 39 ns.length := e2
    omega
  generalize hcs : cutL ns (some 19) (some 39) = cs at *
  obtain ⟨qs, g1, g2, g3⟩ := pairs_eq (row := row) (last := row.length) (by omega) (Nat.le_refl _) (cs := cs) (by omega)
  have hlc := fun d0 d1 d2 d3 d4 d7 d8 d9 d10 d11 d12 d13 d14 d15 => held_lc hr hi d0 d1 d2 d3 d4 d7 d8 d9 d10 d11 d12 d13 d14 d15 (qs.map prD) (by simp; omega) (fun d hd => by
    obtain ⟨p, hp, rfl⟩ := List.mem_map.mp hd
    have := g1 p hp
    exact ⟨p, rfl, this.1, this.2.2, none_whole h this.2.1 this.2.2⟩)
  have hr2 : row.length ≤ 16777216 := by omega
  simp [spanT] at hs hf
  simp [Function.comp_def] at hlc
  unfold b_tail
  rcases h4 with rfl | rfl <;> simp [hs, hf, hcs, g3, hlc, hr2, bls_rep, any_f, Function.comp_def]
theorem tail_some (ns : List Int) (t4 : T) (h4 : t4 = .lst (is.map fun i => T.sh i.D) ∨ t4 = .sh (.lst (is.map Item.D))) (x1 x3 x11 : Option T) (x y w z : Nat) {b e : Nat} (h : stretchF false is false row 0 = some (b, e)) :
    exs 100000 b_tail [some (.sh (.scr ns)), x1, some (.sh (fourD x y w z)), x3, some t4, some (.sh (.str row)), none, none, none, none, none, x11, none, none, none, none] = some (.rt (.sh (.bl true))) := by
  obtain ⟨hbe, hel⟩ := told_rng h
  have hs := stretch_eq (front := false) (back := false) (is := is) (row := row) (b := 0) (by omega) hi (by omega)
  rw [h] at hs
  have hf := found_eq (front := false) (back := false) (is := is) (row := row) (by omega) hi
  rw [h] at hf
  have hst := is_stretch_eq (row := row) (b := b) (e := e) (by omega) hbe hel
  have hh := held_eq (is := is) (row := row) (by omega) hi (b := b) (e := e) (by omega) hel
  rw [told_whole h] at hh
  have hcl : (cutL ns (some 19) (some 39)).length ≤ 20 := by
    rw [show cutL ns (some 19) (some 39) = (ns.drop (HT.sIx ns.length 0 (some 19))).take (HT.sIx ns.length ns.length (some 39) - HT.sIx ns.length 0 (some 19)) from rfl]
    have e1 := HT.sIx_nat ns.length 0 19
    have e2 := HT.sIx_nat ns.length ns.length 39
    simp only [List.length_take]
    have e1 : HT.sIx ns.length 0 (some 19) = min 19 ns.length := e1
    have e2 : HT.sIx ns.length ns.length (some 39) = min 39 ns.length := e2
    omega
  generalize hcs : cutL ns (some 19) (some 39) = cs at *
  have hrg := rng_nat (b := e + 1) (e := row.length + 1) (by omega) (by omega)
  have hlc1 : ∀ d0 d1 d2 d3 d4 d5 d6 d8 d9 d10 d11 d12 d13 d14 d15, lcK [13] (.nm 13) .non (.tup (.cons (.idx (.var 7) (.cst (.int 0))) (.cons (.var 13) .nil))) [d0, d1, d2, d3, d4, d5, d6, some (.tup [.int b, .int e]), d8, d9, d10, d11, d12, d13, d14, d15] ((List.range' (e + 1) (row.length + 1 - (e + 1))).map fun k : Nat => D.int k) = some (.lst ((List.range' (e + 1) (row.length + 1 - (e + 1))).map fun k : Nat => T.tup [.sh (.int b), .sh (.int k)])) := by
    intro d0 d1 d2 d3 d4 d5 d6 d8 d9 d10 d11 d12 d13 d14 d15
    refine lcK_map _ (by rw [List.length_range']; exact Nat.le_trans (m := 1001) (by omega) (by decide)) fun k hk => ?_
    simp [lcF, prD]
  have hA : ∀ d, d ∈ ((List.range' (e + 1) (row.length + 1 - (e + 1))).map fun k : Nat => prD (b, k)) → ∃ p : Nat × Nat, d = prD p ∧ p.1 ≤ row.length ∧ p.2 ≤ row.length ∧ (stretchF true is true (betw row p.1 p.2) 0).isSome = false := fun d hd => by
    obtain ⟨k, hk, rfl⟩ := List.mem_map.mp hd
    have hk := List.mem_range'_1.mp hk
    exact ⟨(b, k), rfl, by simp; omega, by simp; omega, told_longest h (by simp; omega) (by simp; omega)⟩
  have hAl : ((List.range' (e + 1) (row.length + 1 - (e + 1))).map fun k : Nat => prD (b, k)).length ≤ 1001 := by simp; omega
  have hAl2 : (List.range' (e + 1) (row.length + 1 - (e + 1))).length ≤ 1001 := by simp; omega
  have hlcA := fun d0 d1 d2 d3 d4 d7 d8 d9 d10 d11 d12 d13 d14 d15 => held_lc hr hi d0 d1 d2 d3 d4 d7 d8 d9 d10 d11 d12 d13 d14 d15 _ (by omega) hA
  have hr2 : row.length ≤ 16777216 := by omega
  have hr3 : row.length ≤ 16777215 := by omega
  have c2 : F_w_cell_at [.scr ns, .int 2] = some (.sh (.int (cz ns 2))) := cell_val ns 2
  have h6 := rng0 (n := 6) (by decide)
  have hsl := fun d0 d1 d3 d4 d5 d6 d7 d8 d10 d11 d12 d13 d14 d15 => sides_lc x y w z (cz ns 2) d0 d1 d3 d4 d5 d6 d7 d8 d10 d11 d12 d13 d14 d15
  have hlg := longer_eq (is := is) (row := row) (by omega) hi h
  rw [show ((6 : Int).toNat) = 6 from rfl] at h6
  generalize hR : List.range' (e + 1) (row.length + 1 - (e + 1)) = R at *
  have hrg : rngD ((e : Int) + 1) ((row.length : Int) + 1) = some (R.map fun k : Nat => D.int k) := hrg
  simp [spanT] at hs hf hst hh
  simp [Function.comp_def] at hlcA
  obtain ⟨a1, a2, a3, a4, a5, a6, ha⟩ : ∃ a1 a2 a3 a4 a5 a6, ((List.range 6).map fun k : Nat => T.sh (.str [selN x y w z (cz ns 2 / ([1, 4, 16, 64, 256, 1024].getD k 1 : Int))])) = [T.sh (.str [a1]), .sh (.str [a2]), .sh (.str [a3]), .sh (.str [a4]), .sh (.str [a5]), .sh (.str [a6])] := ⟨_, _, _, _, _, _, rfl⟩
  rw [ha] at hsl
  have hlg := hlg a1 a2 a3 a4 a5 a6
  have hds := ds_pair b R
  unfold b_tail
  by_cases hb : 0 < b
  · obtain ⟨qs, g1, g2, g3⟩ := pairs_eq (row := row) (last := b - 1) (by omega) (by omega) (cs := cs) (by omega)
    rw [show ((b - 1 : Nat) : Int) = (b : Int) - 1 from by omega] at g3
    have hlcB := fun d0 d1 d2 d3 d4 d7 d8 d9 d10 d11 d12 d13 d14 d15 => held_lc hr hi d0 d1 d2 d3 d4 d7 d8 d9 d10 d11 d12 d13 d14 d15 (R.map (fun k : Nat => prD (b, k)) ++ qs.map prD) (by simp; omega) (fun d hd => by
      rcases List.mem_append.mp hd with hd | hd
      · exact hA d hd
      · obtain ⟨p, hp, rfl⟩ := List.mem_map.mp hd
        have := g1 p hp
        exact ⟨p, rfl, by omega, this.2.2, told_least h (by omega) this.2.1 this.2.2⟩)
    have hl3 : R.length + qs.length ≤ 16777216 := by omega
    rcases h4 with rfl | rfl
    · simp [hs, hf, hst, hh, hcs, hr2, hr3, hrg, hlc1, hlcB, hds, ds_app, bls_ff, g3, hl3, hb, c2, h6, hsl, hlg, bls_rep, any_f, Function.comp_def]
      done
    · simp [hs, hf, hst, hh, hcs, hr2, hr3, hrg, hlc1, hlcB, hds, ds_app, bls_ff, g3, hl3, hb, c2, h6, hsl, hlg, bls_rep, any_f, Function.comp_def]
      done
  · rcases h4 with rfl | rfl
    · simp [hs, hf, hst, hh, hcs, hr2, hr3, hrg, hlc1, hlcA, hds, hb, c2, h6, hsl, hlg, bls_rep, any_f, Function.comp_def]
      done
    · simp [hs, hf, hst, hh, hcs, hr2, hr3, hrg, hlc1, hlcA, hds, hb, c2, h6, hsl, hlg, bls_rep, any_f, Function.comp_def]
      done
end
end Lw
/-! law k16. -/
namespace Lw
open PySem L2 Eng
theorem tail_true {is : List Item} {row : List Nat} (hr : row.length ≤ 1000) (hi : is.length ≤ 1000) (ns : List Int) (t4 : T) (h4 : t4 = .lst (is.map fun i => T.sh i.D) ∨ t4 = .sh (.lst (is.map Item.D))) (x1 x3 x11 : Option T) (x y w z : Nat) :
    exs 100000 b_tail [some (.sh (.scr ns)), x1, some (.sh (fourD x y w z)), x3, some t4, some (.sh (.str row)), none, none, none, none, none, x11, none, none, none, none] = some (.rt (.sh (.bl true))) := by
  cases h : stretchF false is false row 0 with
  | none => exact tail_none hr hi ns t4 h4 x1 x3 x11 _ h
  | some p => exact tail_some hr hi ns t4 h4 x1 x3 x11 x y w z (b := p.1) (e := p.2) h
theorem law_true (ns : List Int) (hl : ns.length ≤ 63) : F_law [.scr ns] = some (.sh (.bl true)) := by
  refine runF_rt rfl ?_
  have q0 : F_w_cell_at [.scr ns, .int 0] = some (.sh (.int (cz ns 0))) := cell_val ns 0
  have q1 : F_w_cell_at [.scr ns, .int 1] = some (.sh (.int (cz ns 1))) := cell_val ns 1
  generalize cz ns 0 = c0 at *
  generalize cz ns 1 = c1 at *
  have h4 := four_eq c1
  obtain ⟨z1, z2, z3⟩ := z4_ne c1
  generalize x4 c1 = x, y4 c1 = y, w4 c1 = w, z4 c1 = z at *
  have a1 := cutL_len ns (some 3) (some (3 + c0 % 5))
  generalize hcs : cutL ns (some 3) (some (3 + c0 % 5)) = cs at *
  have a2 := cutL_len ns (some 7) (some 19)
  generalize hcr : cutL ns (some 7) (some 19) = cr at *
  have hit : ∀ δ0 δ1 δ3 x4 x5 x6 x7 x8 x9 x10 x11 x12 x13 x14 x15, lcK [9] (.nm 9) .non (.cal "_law_item" F_w_item [] (.cons (.var 9) (.cons (.var 2) .nil))) [δ0, δ1, some (fourD x y w z), δ3, x4, x5, x6, x7, x8, x9, x10, x11, x12, x13, x14, x15] (cs.map .int) = some (.lst (cs.map fun c => T.sh (item4 x y w z c).D)) := by
    intro δ0 δ1 δ3 x4 x5 x6 x7 x8 x9 x10 x11 x12 x13 x14 x15
    rw [lcK_map (g := D.int) (k := fun c => T.sh (item4 x y w z c).D)]
    · exact Nat.le_trans (m := 63) (by omega) (by decide)
    · intro x hx
      simp [lcF, item4_eq]
  have hrw : ∀ δ0 δ1 δ3 x4 x5 x6 x7 x8 x9 x10 x11 x12 x13 x14 x15, lcK [9] (.nm 9) .non (.idx (.var 2) (.bin .Mod (.var 9) (.cst (.int 4)))) [δ0, δ1, some (fourD x y w z), δ3, x4, x5, x6, x7, x8, x9, x10, x11, x12, x13, x14, x15] (cr.map .int) = some (.lst (cr.map fun c => T.sh (.str [selN x y w z c]))) := by
    intro δ0 δ1 δ3 x4 x5 x6 x7 x8 x9 x10 x11 x12 x13 x14 x15
    rw [lcK_map (g := D.int) (k := fun c => T.sh (.str [selN x y w z c]))]
    · exact Nat.le_trans (m := 63) (by omega) (by decide)
    · intro c hc
      simp [lcF, selN_at]
  have hcl : cr.length ≤ 16777216 := by omega
  have hcl2 : (0 : Int) < (cr.length : Int) + 1 := by omega
  have hcl3 : (cr.length : Int) + 1 < 1073741824 := by omega
  obtain ⟨m, m1, m2⟩ := made4_eq z1 z2 z3 (cs := cs) (by omega)
  obtain ⟨is, dr, d1, d2, d3, d4⟩ := drawn_by_eq ns
  have td := fun x1 x3 x11 => tail_true (is := is) (row := dr) (by omega) (by omega) ns _ (.inr rfl) x1 x3 x11 x y w z
  have tn := fun x1 x3 x11 => tail_true (is := cs.map (item4 x y w z)) (row := cr.map (selN x y w z)) (by simp; omega) (by simp; omega) ns _ (.inl rfl) x1 x3 x11 x y w z
  have b1 := cutL_len (cr.map (selN x y w z)) none (some (c0 / 10 % ((cr.length : Int) + 1)))
  have b2 := cutL_len (cr.map (selN x y w z)) (some (c0 / 10 % ((cr.length : Int) + 1))) none
  rw [List.length_map] at b1 b2
  have tp := fun x1 x3 x11 => tail_true (is := cs.map (item4 x y w z)) (row := cutL (cr.map (selN x y w z)) none (some (c0 / 10 % ((cr.length : Int) + 1))) ++ m ++ cutL (cr.map (selN x y w z)) (some (c0 / 10 % ((cr.length : Int) + 1))) none) (by simp; omega) (by simp; omega) ns _ (.inr rfl) x1 x3 x11 x y w z
  generalize hL : cutL (cr.map (selN x y w z)) none (some (c0 / 10 % ((cr.length : Int) + 1))) = L at *
  generalize hR : cutL (cr.map (selN x y w z)) (some (c0 / 10 % ((cr.length : Int) + 1))) none = Rr at *
  have e1 : L.length + m.length ≤ 16777216 := by omega
  have e2 : L.length + m.length + Rr.length ≤ 16777216 := by omega
  have e3 : L.length + (m.length + Rr.length) ≤ 16777216 := by omega
  have hsum : ∀ xs : List Int, (xs.map (List.length ∘ fun c => [selN x y w z c])).sum = xs.length := fun xs => sum_one (selN x y w z) xs
  simp only [List.map_map, Function.comp_def, List.append_assoc] at tn tp m2
  rw [b_law_eq]
  unfold N_law
  by_cases p1 : c0 / 5 % 2 = 1
  · by_cases p2 : 1 < c0 / 5 % 4
    · simp [q0, q1, h4, hcs, hcr, hit, hrw, hcl, hcl2, hcl3, hsum, join_signs, p1, p2, hL, hR, m2, e1, e2, e3, d4, td]
      done
    · simp [q0, q1, h4, hcs, hcr, hit, hrw, hcl, hcl2, hcl3, hsum, join_signs, p1, p2, hL, hR, m2, e1, e2, e3, d4, tp]
      done
  · by_cases p2 : 1 < c0 / 5 % 4
    · simp [q0, q1, h4, hcs, hcr, hit, hrw, hcl, hcl2, hcl3, hsum, join_signs, p1, p2, d4, td]
      done
    · simp [q0, q1, h4, hcs, hcr, hit, hrw, hcl, hcl2, hcl3, hsum, join_signs, p1, p2, tn]
      done
end Lw
/-! law_k16_whole_least_and_longest: the defs against the text, the head, the theorem (printed by wip/mk.py). -/
namespace Lw
open PySem PySem.Spec PyProof.Rows L2 Eng
def top (i : Nat) : Stmt := PySem.Challenge.pw_rowblade_k16_whole_least_and_longest.main.body.getD i (.Pass ⟨0, 0, 0, 0⟩)
theorem m_let_by : mSs N_let_by (defScope (top 2)) b_let_by (defBody (top 2)) = true := by decide +kernel
theorem sc_let_by : FnScope N_let_by ["items", "places"] (defScope (top 2)) := ⟨rfl, rfl, rfl, by decide +kernel, rfl, by decide +kernel, by decide +kernel⟩
def d_let_by : He.DefD := ⟨("let_by", none), "let_by", "let_by", defArgs (top 2), defBody (top 2), defScope (top 2), [], []⟩
theorem m_first_places : mSs N_first_places (defScope (top 3)) b_first_places (defBody (top 3)) = true := by decide +kernel
theorem sc_first_places : FnScope N_first_places ["items"] (defScope (top 3)) := ⟨rfl, rfl, rfl, by decide +kernel, rfl, by decide +kernel, by decide +kernel⟩
def d_first_places : He.DefD := ⟨("first_places", none), "first_places", "first_places", defArgs (top 3), defBody (top 3), defScope (top 3), [], []⟩
theorem m_holds : mSs N_holds (defScope (top 1)) b_holds (defBody (top 1)) = true := by decide +kernel
theorem sc_holds : FnScope N_holds ["item", "sign"] (defScope (top 1)) := ⟨rfl, rfl, rfl, by decide +kernel, rfl, by decide +kernel, by decide +kernel⟩
def d_holds : He.DefD := ⟨("holds", none), "holds", "holds", defArgs (top 1), defBody (top 1), defScope (top 1), [], []⟩
theorem m_stepped : mSs N_stepped (defScope (top 4)) b_stepped (defBody (top 4)) = true := by decide +kernel
theorem sc_stepped : FnScope N_stepped ["items", "places", "sign"] (defScope (top 4)) := ⟨rfl, rfl, rfl, by decide +kernel, rfl, by decide +kernel, by decide +kernel⟩
def d_stepped : He.DefD := ⟨("stepped", none), "stepped", "stepped", defArgs (top 4), defBody (top 4), defScope (top 4), [], []⟩
theorem m_is_done : mSs N_is_done (defScope (top 5)) b_is_done (defBody (top 5)) = true := by decide +kernel
theorem sc_is_done : FnScope N_is_done ["items", "places"] (defScope (top 5)) := ⟨rfl, rfl, rfl, by decide +kernel, rfl, by decide +kernel, by decide +kernel⟩
def d_is_done : He.DefD := ⟨("is_done", none), "is_done", "is_done", defArgs (top 5), defBody (top 5), defScope (top 5), [], []⟩
theorem m_last_end : mSs N_last_end (defScope (top 6)) b_last_end (defBody (top 6)) = true := by decide +kernel
theorem sc_last_end : FnScope N_last_end ["one", "row", "begin"] (defScope (top 6)) := ⟨rfl, rfl, rfl, by decide +kernel, rfl, by decide +kernel, by decide +kernel⟩
def d_last_end : He.DefD := ⟨("last_end", none), "last_end", "last_end", defArgs (top 6), defBody (top 6), defScope (top 6), [], []⟩
theorem m_stretch : mSs N_stretch (defScope (top 7)) b_stretch (defBody (top 7)) = true := by decide +kernel
theorem sc_stretch : FnScope N_stretch ["one", "row", "start"] (defScope (top 7)) := ⟨rfl, rfl, rfl, by decide +kernel, rfl, by decide +kernel, by decide +kernel⟩
def d_stretch : He.DefD := ⟨("stretch", none), "stretch", "stretch", defArgs (top 7), defBody (top 7), defScope (top 7), [.int (0)], []⟩
theorem m_found : mSs N_found (defScope (top 8)) b_found (defBody (top 8)) = true := by decide +kernel
theorem sc_found : FnScope N_found ["one", "row"] (defScope (top 8)) := ⟨rfl, rfl, rfl, by decide +kernel, rfl, by decide +kernel, by decide +kernel⟩
def d_found : He.DefD := ⟨("found", none), "found", "found", defArgs (top 8), defBody (top 8), defScope (top 8), [], []⟩
theorem m_w_cell_at : mSs N_w_cell_at (defScope (top 10)) b_w_cell_at (defBody (top 10)) = true := by decide +kernel
theorem sc_w_cell_at : FnScope N_w_cell_at ["_law_script", "_law_k"] (defScope (top 10)) := ⟨rfl, rfl, rfl, by decide +kernel, rfl, by decide +kernel, by decide +kernel⟩
def d_w_cell_at : He.DefD := ⟨("_law_cell_at", none), "_law_cell_at", "_law_cell_at", defArgs (top 10), defBody (top 10), defScope (top 10), [], []⟩
theorem m_w_signs : mSs N_w_signs (defScope (top 11)) b_w_signs (defBody (top 11)) = true := by decide +kernel
theorem sc_w_signs : FnScope N_w_signs [] (defScope (top 11)) := ⟨rfl, rfl, rfl, by decide +kernel, rfl, by decide +kernel, by decide +kernel⟩
def d_w_signs : He.DefD := ⟨("_law_signs", none), "_law_signs", "_law_signs", defArgs (top 11), defBody (top 11), defScope (top 11), [], []⟩
theorem m_w_four : mSs N_w_four (defScope (top 12)) b_w_four (defBody (top 12)) = true := by decide +kernel
theorem sc_w_four : FnScope N_w_four ["_law_cell"] (defScope (top 12)) := ⟨rfl, rfl, rfl, by decide +kernel, rfl, by decide +kernel, by decide +kernel⟩
def d_w_four : He.DefD := ⟨("_law_four", none), "_law_four", "_law_four", defArgs (top 12), defBody (top 12), defScope (top 12), [], []⟩
theorem m_w_item : mSs N_w_item (defScope (top 13)) b_w_item (defBody (top 13)) = true := by decide +kernel
theorem sc_w_item : FnScope N_w_item ["_law_cell", "_law_four_here"] (defScope (top 13)) := ⟨rfl, rfl, rfl, by decide +kernel, rfl, by decide +kernel, by decide +kernel⟩
def d_w_item : He.DefD := ⟨("_law_item", none), "_law_item", "_law_item", defArgs (top 13), defBody (top 13), defScope (top 13), [], []⟩
theorem m_w_load : mSs N_w_load (defScope (top 14)) b_w_load (defBody (top 14)) = true := by decide +kernel
theorem sc_w_load : FnScope N_w_load ["_law_cell"] (defScope (top 14)) := ⟨rfl, rfl, rfl, by decide +kernel, rfl, by decide +kernel, by decide +kernel⟩
def d_w_load : He.DefD := ⟨("_law_load", none), "_law_load", "_law_load", defArgs (top 14), defBody (top 14), defScope (top 14), [], []⟩
theorem m_w_item_by : mSxs N_w_item_by (defScope (top 15)) b_w_item_by (defBody (top 15)) = true := by decide +kernel
theorem sc_w_item_by : FnScope N_w_item_by ["_law_number"] (defScope (top 15)) := ⟨rfl, rfl, rfl, by decide +kernel, rfl, by decide +kernel, by decide +kernel⟩
def d_w_item_by : He.DefD := ⟨("_law_item_by", none), "_law_item_by", "_law_item_by", defArgs (top 15), defBody (top 15), defScope (top 15), [], []⟩
theorem m_w_items_by : mSs N_w_items_by (defScope (top 16)) b_w_items_by (defBody (top 16)) = true := by decide +kernel
theorem sc_w_items_by : FnScope N_w_items_by ["_law_number", "_law_most"] (defScope (top 16)) := ⟨rfl, rfl, rfl, by decide +kernel, rfl, by decide +kernel, by decide +kernel⟩
def d_w_items_by : He.DefD := ⟨("_law_items_by", none), "_law_items_by", "_law_items_by", defArgs (top 16), defBody (top 16), defScope (top 16), [], []⟩
theorem m_w_made_by : mSs N_w_made_by (defScope (top 17)) b_w_made_by (defBody (top 17)) = true := by decide +kernel
theorem sc_w_made_by : FnScope N_w_made_by ["_law_items", "_law_number"] (defScope (top 17)) := ⟨rfl, rfl, rfl, by decide +kernel, rfl, by decide +kernel, by decide +kernel⟩
def d_w_made_by : He.DefD := ⟨("_law_made_by", none), "_law_made_by", "_law_made_by", defArgs (top 17), defBody (top 17), defScope (top 17), [], []⟩
theorem m_w_row_by : mSs N_w_row_by (defScope (top 18)) b_w_row_by (defBody (top 18)) = true := by decide +kernel
theorem sc_w_row_by : FnScope N_w_row_by ["_law_number", "_law_letters"] (defScope (top 18)) := ⟨rfl, rfl, rfl, by decide +kernel, rfl, by decide +kernel, by decide +kernel⟩
def d_w_row_by : He.DefD := ⟨("_law_row_by", none), "_law_row_by", "_law_row_by", defArgs (top 18), defBody (top 18), defScope (top 18), [], []⟩
theorem m_w_drawn_by : mSs N_w_drawn_by (defScope (top 19)) b_w_drawn_by (defBody (top 19)) = true := by decide +kernel
theorem sc_w_drawn_by : FnScope N_w_drawn_by ["_law_script"] (defScope (top 19)) := ⟨rfl, rfl, rfl, by decide +kernel, rfl, by decide +kernel, by decide +kernel⟩
def d_w_drawn_by : He.DefD := ⟨("_law_drawn_by", none), "_law_drawn_by", "_law_drawn_by", defArgs (top 19), defBody (top 19), defScope (top 19), [], []⟩
theorem m_w_made : mSs N_w_made (defScope (top 20)) b_w_made (defBody (top 20)) = true := by decide +kernel
theorem sc_w_made : FnScope N_w_made ["_law_items", "_law_cells", "_law_four_here"] (defScope (top 20)) := ⟨rfl, rfl, rfl, by decide +kernel, rfl, by decide +kernel, by decide +kernel⟩
def d_w_made : He.DefD := ⟨("_law_made", none), "_law_made", "_law_made", defArgs (top 20), defBody (top 20), defScope (top 20), [], []⟩
theorem m_w_whole : mSs N_w_whole (defScope (top 21)) b_w_whole (defBody (top 21)) = true := by decide +kernel
theorem sc_w_whole : FnScope N_w_whole ["_law_told"] (defScope (top 21)) := ⟨rfl, rfl, rfl, by decide +kernel, rfl, by decide +kernel, by decide +kernel⟩
def d_w_whole : He.DefD := ⟨("_law_whole", none), "_law_whole", "_law_whole", defArgs (top 21), defBody (top 21), defScope (top 21), [], []⟩
theorem m_w_is_stretch : mSs N_w_is_stretch (defScope (top 22)) b_w_is_stretch (defBody (top 22)) = true := by decide +kernel
theorem sc_w_is_stretch : FnScope N_w_is_stretch ["_law_told", "_law_row"] (defScope (top 22)) := ⟨rfl, rfl, rfl, by decide +kernel, rfl, by decide +kernel, by decide +kernel⟩
def d_w_is_stretch : He.DefD := ⟨("_law_is_stretch", none), "_law_is_stretch", "_law_is_stretch", defArgs (top 22), defBody (top 22), defScope (top 22), [], []⟩
theorem m_w_held : mSs N_w_held (defScope (top 23)) b_w_held (defBody (top 23)) = true := by decide +kernel
theorem sc_w_held : FnScope N_w_held ["_law_one", "_law_row", "_law_pair"] (defScope (top 23)) := ⟨rfl, rfl, rfl, by decide +kernel, rfl, by decide +kernel, by decide +kernel⟩
def d_w_held : He.DefD := ⟨("_law_held", none), "_law_held", "_law_held", defArgs (top 23), defBody (top 23), defScope (top 23), [], []⟩
theorem m_w_pairs : mSs N_w_pairs (defScope (top 24)) b_w_pairs (defBody (top 24)) = true := by decide +kernel
theorem sc_w_pairs : FnScope N_w_pairs ["_law_cells", "_law_row", "_law_last"] (defScope (top 24)) := ⟨rfl, rfl, rfl, by decide +kernel, rfl, by decide +kernel, by decide +kernel⟩
def d_w_pairs : He.DefD := ⟨("_law_pairs", none), "_law_pairs", "_law_pairs", defArgs (top 24), defBody (top 24), defScope (top 24), [], []⟩
theorem m_w_longer : mSs N_w_longer (defScope (top 25)) b_w_longer (defBody (top 25)) = true := by decide +kernel
theorem sc_w_longer : FnScope N_w_longer ["_law_one", "_law_row", "_law_told", "_law_sides"] (defScope (top 25)) := ⟨rfl, rfl, rfl, by decide +kernel, rfl, by decide +kernel, by decide +kernel⟩
def d_w_longer : He.DefD := ⟨("_law_longer", none), "_law_longer", "_law_longer", defArgs (top 25), defBody (top 25), defScope (top 25), [], []⟩
theorem m_law : mSs N_law (defScope (top 26)) b_law (defBody (top 26)) = true := by decide +kernel
theorem sc_law : FnScope N_law ["_law_script"] (defScope (top 26)) := ⟨rfl, rfl, rfl, by decide +kernel, rfl, by decide +kernel, by decide +kernel⟩
def d_law : He.DefD := ⟨("law", none), "law", "law", defArgs (top 26), defBody (top 26), defScope (top 26), [], []⟩
def fn : List He.DefD := [d_let_by, d_first_places, d_holds, d_stepped, d_is_done, d_last_end, d_stretch, d_found, d_w_cell_at, d_w_signs, d_w_four, d_w_item, d_w_load, d_w_item_by, d_w_items_by, d_w_made_by, d_w_row_by, d_w_drawn_by, d_w_made, d_w_whole, d_w_is_stretch, d_w_held, d_w_pairs, d_w_longer, d_law]
def fa : List He.Fa := [.glo "let_by", .glo "first_places", .glo "holds", .glo "stepped", .glo "is_done", .glo "last_end", .glo "stretch", .glo "found", .glo "_law_cell_at", .glo "_law_signs", .glo "_law_four", .glo "_law_item", .glo "_law_load", .glo "_law_item_by", .glo "_law_items_by", .glo "_law_made_by", .glo "_law_row_by", .glo "_law_drawn_by", .glo "_law_made", .glo "_law_whole", .glo "_law_is_stretch", .glo "_law_held", .glo "_law_pairs", .glo "_law_longer", .glo "law", .free "abs", .free "any", .free "bool", .free "enumerate", .free "int", .free "isinstance", .free "len", .free "range", .free "tuple", .free "zip"]
abbrev R : PySem.W.OpenRow := PySem.W.OpenLaw.row PySem.Challenge.rw_rowblade_k16_whole_least_and_longest
abbrev hk : PySem.W.Hook := He.hookD 4 fa fn
def ob (s : PySem.W.SharedT) : He.AlD := He.obsDG 4 fa fn (HandSHeadRun.getT s)
theorem ob_eq (s : PySem.W.SharedT) : ob s = hk.obs s.abs := He.obsDG_eq (HandSHeadRun.getT_eq s)
def loose : List PySem.Str := ["holds", "let_by", "first_places", "stepped", "is_done", "last_end", "stretch", "found", "_law_cell_at", "_law_signs", "_law_four", "_law_item", "_law_load", "_law_item_by", "_law_items_by", "_law_made_by", "_law_row_by", "_law_drawn_by", "_law_made", "_law_whole", "_law_is_stretch", "_law_held", "_law_pairs", "_law_longer"]
theorem run (w : World) : HandSHeadRun.RunEq R (PySem.W.view R.prog [26]) hk ob 4000 loose w := by
  intro os
  kernel_rfl
def spLaw (K : PySem.W.Frag) : Sp := fun vs H Q _ => ∃ (a : Addr) (ns : List Int), vs = [.ref a] ∧ SqL K H a (ns.map V.int) ∧ ns.length ≤ 63 ∧ ∀ H', Q (.bl true) H'
theorem law_sp {C : Cfg} {vs : List V} {H : Hp} {Q : VK} {E : XK} (h : spLaw C.K vs H Q E) : pureSp C F_law vs H Q E := by
  obtain ⟨a, ns, rfl, hS, hl, q⟩ := h
  exact pure_law C (law_true ns hl) hS q
theorem facts {P : Program} {w : World} {K : PySem.W.Frag} {h : Heap} {mg : Str → Option Value} {f : Addr} (X : K.In h) (G : h.Ns mainGlobals mg) (hfa : mg ("law" : Str) = some (.ref f)) (c : He.SaysD fa fn K) :
    ∃ fd : FuncData, (∀ (s : Shared) (v : Value), BindsTo s fd ⟨[v], []⟩ [("_law_script", v)]) ∧ ∀ base : Heap, K.In base → base.Ns mainGlobals mg → FnOk P w K mg base CX0 7 f fd ["_law_script"] (spLaw K) := by
  obtain ⟨fd_let_by, D_let_by⟩ := c.def_ 0 (d := d_let_by) rfl
  have g_let_by := He.glo_ok X G (c.fact 0 (f := .glo "let_by") rfl)
  obtain ⟨fd_first_places, D_first_places⟩ := c.def_ 1 (d := d_first_places) rfl
  have g_first_places := He.glo_ok X G (c.fact 1 (f := .glo "first_places") rfl)
  obtain ⟨fd_holds, D_holds⟩ := c.def_ 2 (d := d_holds) rfl
  have g_holds := He.glo_ok X G (c.fact 2 (f := .glo "holds") rfl)
  obtain ⟨fd_stepped, D_stepped⟩ := c.def_ 3 (d := d_stepped) rfl
  have g_stepped := He.glo_ok X G (c.fact 3 (f := .glo "stepped") rfl)
  obtain ⟨fd_is_done, D_is_done⟩ := c.def_ 4 (d := d_is_done) rfl
  have g_is_done := He.glo_ok X G (c.fact 4 (f := .glo "is_done") rfl)
  obtain ⟨fd_last_end, D_last_end⟩ := c.def_ 5 (d := d_last_end) rfl
  have g_last_end := He.glo_ok X G (c.fact 5 (f := .glo "last_end") rfl)
  obtain ⟨fd_stretch, D_stretch⟩ := c.def_ 6 (d := d_stretch) rfl
  have g_stretch := He.glo_ok X G (c.fact 6 (f := .glo "stretch") rfl)
  obtain ⟨fd_found, D_found⟩ := c.def_ 7 (d := d_found) rfl
  have g_found := He.glo_ok X G (c.fact 7 (f := .glo "found") rfl)
  obtain ⟨fd_w_cell_at, D_w_cell_at⟩ := c.def_ 8 (d := d_w_cell_at) rfl
  have g_w_cell_at := He.glo_ok X G (c.fact 8 (f := .glo "_law_cell_at") rfl)
  obtain ⟨fd_w_signs, D_w_signs⟩ := c.def_ 9 (d := d_w_signs) rfl
  have g_w_signs := He.glo_ok X G (c.fact 9 (f := .glo "_law_signs") rfl)
  obtain ⟨fd_w_four, D_w_four⟩ := c.def_ 10 (d := d_w_four) rfl
  have g_w_four := He.glo_ok X G (c.fact 10 (f := .glo "_law_four") rfl)
  obtain ⟨fd_w_item, D_w_item⟩ := c.def_ 11 (d := d_w_item) rfl
  have g_w_item := He.glo_ok X G (c.fact 11 (f := .glo "_law_item") rfl)
  obtain ⟨fd_w_load, D_w_load⟩ := c.def_ 12 (d := d_w_load) rfl
  have g_w_load := He.glo_ok X G (c.fact 12 (f := .glo "_law_load") rfl)
  obtain ⟨fd_w_item_by, D_w_item_by⟩ := c.def_ 13 (d := d_w_item_by) rfl
  have g_w_item_by := He.glo_ok X G (c.fact 13 (f := .glo "_law_item_by") rfl)
  obtain ⟨fd_w_items_by, D_w_items_by⟩ := c.def_ 14 (d := d_w_items_by) rfl
  have g_w_items_by := He.glo_ok X G (c.fact 14 (f := .glo "_law_items_by") rfl)
  obtain ⟨fd_w_made_by, D_w_made_by⟩ := c.def_ 15 (d := d_w_made_by) rfl
  have g_w_made_by := He.glo_ok X G (c.fact 15 (f := .glo "_law_made_by") rfl)
  obtain ⟨fd_w_row_by, D_w_row_by⟩ := c.def_ 16 (d := d_w_row_by) rfl
  have g_w_row_by := He.glo_ok X G (c.fact 16 (f := .glo "_law_row_by") rfl)
  obtain ⟨fd_w_drawn_by, D_w_drawn_by⟩ := c.def_ 17 (d := d_w_drawn_by) rfl
  have g_w_drawn_by := He.glo_ok X G (c.fact 17 (f := .glo "_law_drawn_by") rfl)
  obtain ⟨fd_w_made, D_w_made⟩ := c.def_ 18 (d := d_w_made) rfl
  have g_w_made := He.glo_ok X G (c.fact 18 (f := .glo "_law_made") rfl)
  obtain ⟨fd_w_whole, D_w_whole⟩ := c.def_ 19 (d := d_w_whole) rfl
  have g_w_whole := He.glo_ok X G (c.fact 19 (f := .glo "_law_whole") rfl)
  obtain ⟨fd_w_is_stretch, D_w_is_stretch⟩ := c.def_ 20 (d := d_w_is_stretch) rfl
  have g_w_is_stretch := He.glo_ok X G (c.fact 20 (f := .glo "_law_is_stretch") rfl)
  obtain ⟨fd_w_held, D_w_held⟩ := c.def_ 21 (d := d_w_held) rfl
  have g_w_held := He.glo_ok X G (c.fact 21 (f := .glo "_law_held") rfl)
  obtain ⟨fd_w_pairs, D_w_pairs⟩ := c.def_ 22 (d := d_w_pairs) rfl
  have g_w_pairs := He.glo_ok X G (c.fact 22 (f := .glo "_law_pairs") rfl)
  obtain ⟨fd_w_longer, D_w_longer⟩ := c.def_ 23 (d := d_w_longer) rfl
  have g_w_longer := He.glo_ok X G (c.fact 23 (f := .glo "_law_longer") rfl)
  obtain ⟨fd_law, D_law⟩ := c.def_ 24 (d := d_law) rfl
  have g_law := He.glo_ok X G (c.fact 24 (f := .glo "law") rfl)
  have z_abs : mg "abs" = none := He.free_ok X G (c.fact 25 (f := .free "abs") rfl)
  have z_any : mg "any" = none := He.free_ok X G (c.fact 26 (f := .free "any") rfl)
  have z_bool : mg "bool" = none := He.free_ok X G (c.fact 27 (f := .free "bool") rfl)
  have z_enumerate : mg "enumerate" = none := He.free_ok X G (c.fact 28 (f := .free "enumerate") rfl)
  have z_int : mg "int" = none := He.free_ok X G (c.fact 29 (f := .free "int") rfl)
  have z_isinstance : mg "isinstance" = none := He.free_ok X G (c.fact 30 (f := .free "isinstance") rfl)
  have z_len : mg "len" = none := He.free_ok X G (c.fact 31 (f := .free "len") rfl)
  have z_range : mg "range" = none := He.free_ok X G (c.fact 32 (f := .free "range") rfl)
  have z_tuple : mg "tuple" = none := He.free_ok X G (c.fact 33 (f := .free "tuple") rfl)
  have z_zip : mg "zip" = none := He.free_ok X G (c.fact 34 (f := .free "zip") rfl)
  have e := hfa.symm.trans g_law
  cases e
  have b := FunD.bindsA (ps := ["_law_script"]) D_law fun _ _ _ _ _ _ us hl => match us, hl with | [_], _ => rfl
  refine ⟨fd_law, fun s v => b s [v] rfl, fun base _ _ => ?_⟩
  have B_let_by := FunD.bindsN (ps := ["items", "places"]) D_let_by fun _ _ _ _ _ _ us hl => match us, hl with | [_, _], _ => rfl
  have nd_let_by : Ndss ⟨P, w, ⟨K, mg⟩, base, N_let_by, 0⟩ b_let_by := by
    simp [b_let_by, l1_let_by, Ndss, Ndst, Nd, Nds, Ndo, Ndi, NoG, Bi.name, z_enumerate]
  have O_let_by : FnOk P w K mg base CX0 1 _ fd_let_by ["items", "places"] (pureSp ⟨K, mg⟩ F_let_by) := fn_okD (C := ⟨K, mg⟩) (st := top 2) D_let_by sc_let_by m_let_by nd_let_by (fun ds t h => runF_h h)
  have B_first_places := FunD.bindsN (ps := ["items"]) D_first_places fun _ _ _ _ _ _ us hl => match us, hl with | [_], _ => rfl
  have nd_first_places : Ndss ⟨P, w, ⟨K, mg⟩, base, N_first_places, 1⟩ b_first_places := by
    have q0 : CallOk ⟨P, w, ⟨K, mg⟩, base, N_first_places, 1⟩ "let_by" F_let_by [] := FnOk.call O_let_by (by decide) g_let_by D_let_by.kp B_let_by
    simp [b_first_places, Ndss, Ndst, Nd, Nds, Ndo, Ndi, NoG, Bi.name, q0]
  have O_first_places : FnOk P w K mg base CX0 2 _ fd_first_places ["items"] (pureSp ⟨K, mg⟩ F_first_places) := fn_okD (C := ⟨K, mg⟩) (st := top 3) D_first_places sc_first_places m_first_places nd_first_places (fun ds t h => runF_h h)
  have B_holds := FunD.bindsN (ps := ["item", "sign"]) D_holds fun _ _ _ _ _ _ us hl => match us, hl with | [_, _], _ => rfl
  have nd_holds : Ndss ⟨P, w, ⟨K, mg⟩, base, N_holds, 0⟩ b_holds := by
    simp [b_holds, Ndss, Ndst, Nd, Nds, Ndo, Ndi, NoG, Bi.name]
  have O_holds : FnOk P w K mg base CX0 1 _ fd_holds ["item", "sign"] (pureSp ⟨K, mg⟩ F_holds) := fn_okD (C := ⟨K, mg⟩) (st := top 1) D_holds sc_holds m_holds nd_holds (fun ds t h => runF_h h)
  have B_stepped := FunD.bindsN (ps := ["items", "places", "sign"]) D_stepped fun _ _ _ _ _ _ us hl => match us, hl with | [_, _, _], _ => rfl
  have nd_stepped : Ndss ⟨P, w, ⟨K, mg⟩, base, N_stepped, 1⟩ b_stepped := by
    have q0 : CallOk ⟨P, w, ⟨K, mg⟩, base, N_stepped, 1⟩ "holds" F_holds [] := FnOk.call O_holds (by decide) g_holds D_holds.kp B_holds
    have q1 : CallOk ⟨P, w, ⟨K, mg⟩, base, N_stepped, 1⟩ "let_by" F_let_by [] := FnOk.call O_let_by (by decide) g_let_by D_let_by.kp B_let_by
    simp [b_stepped, l1_stepped, Ndss, Ndst, Nd, Nds, Ndo, Ndi, NoG, Bi.name, q0, q1, z_enumerate]
  have O_stepped : FnOk P w K mg base CX0 2 _ fd_stepped ["items", "places", "sign"] (pureSp ⟨K, mg⟩ F_stepped) := fn_okD (C := ⟨K, mg⟩) (st := top 4) D_stepped sc_stepped m_stepped nd_stepped (fun ds t h => runF_h h)
  have B_is_done := FunD.bindsN (ps := ["items", "places"]) D_is_done fun _ _ _ _ _ _ us hl => match us, hl with | [_, _], _ => rfl
  have nd_is_done : Ndss ⟨P, w, ⟨K, mg⟩, base, N_is_done, 0⟩ b_is_done := by
    simp [b_is_done, Ndss, Ndst, Nd, Nds, Ndo, Ndi, NoG, Bi.name, z_len]
  have O_is_done : FnOk P w K mg base CX0 1 _ fd_is_done ["items", "places"] (pureSp ⟨K, mg⟩ F_is_done) := fn_okD (C := ⟨K, mg⟩) (st := top 5) D_is_done sc_is_done m_is_done nd_is_done (fun ds t h => runF_h h)
  have B_last_end := FunD.bindsN (ps := ["one", "row", "begin"]) D_last_end fun _ _ _ _ _ _ us hl => match us, hl with | [_, _, _], _ => rfl
  have nd_last_end : Ndss ⟨P, w, ⟨K, mg⟩, base, N_last_end, 2⟩ b_last_end := by
    have q0 : CallOk ⟨P, w, ⟨K, mg⟩, base, N_last_end, 2⟩ "first_places" F_first_places [] := FnOk.call O_first_places (by decide) g_first_places D_first_places.kp B_first_places
    have q1 : CallOk ⟨P, w, ⟨K, mg⟩, base, N_last_end, 2⟩ "is_done" F_is_done [] := FnOk.call O_is_done (by decide) g_is_done D_is_done.kp B_is_done
    have q2 : CallOk ⟨P, w, ⟨K, mg⟩, base, N_last_end, 2⟩ "stepped" F_stepped [] := FnOk.call O_stepped (by decide) g_stepped D_stepped.kp B_stepped
    simp [b_last_end, l1_last_end, Ndss, Ndst, Nd, Nds, Ndo, Ndi, NoG, Bi.name, q0, q1, q2, z_len]
  have O_last_end : FnOk P w K mg base CX0 3 _ fd_last_end ["one", "row", "begin"] (pureSp ⟨K, mg⟩ F_last_end) := fn_okD (C := ⟨K, mg⟩) (st := top 6) D_last_end sc_last_end m_last_end nd_last_end (fun ds t h => runF_h h)
  have nd_stretch : Ndss ⟨P, w, ⟨K, mg⟩, base, N_stretch, 3⟩ b_stretch := by
    have q0 : CallOk ⟨P, w, ⟨K, mg⟩, base, N_stretch, 3⟩ "last_end" F_last_end [] := FnOk.call O_last_end (by decide) g_last_end D_last_end.kp B_last_end
    simp [b_stretch, l1_stretch, Ndss, Ndst, Nd, Nds, Ndo, Ndi, NoG, Bi.name, q0, z_len, z_range]
  have O_stretch : FnOk P w K mg base CX0 4 _ fd_stretch ["one", "row", "start"] (pureSp ⟨K, mg⟩ F_stretch) := fn_okD (C := ⟨K, mg⟩) (st := top 7) D_stretch sc_stretch m_stretch nd_stretch (fun ds t h => runF_h h)
  have B_found := FunD.bindsN (ps := ["one", "row"]) D_found fun _ _ _ _ _ _ us hl => match us, hl with | [_, _], _ => rfl
  have nd_found : Ndss ⟨P, w, ⟨K, mg⟩, base, N_found, 4⟩ b_found := by
    have q0 : CallOk ⟨P, w, ⟨K, mg⟩, base, N_found, 4⟩ "stretch" F_stretch [(.int (0))] := FnOk.callD O_stretch (by decide) g_stretch D_stretch.kp (FunD.binds1 (ps := ["one", "row", "start"]) D_stretch 2 0 (List.cons_ne_nil _ _) rfl fun _ _ _ _ _ _ _ us its hl hi => match us, its, hl, hi with | [_, _], [_], _, _ => ⟨_, rfl, rfl⟩) (fun _ => .cons (Dat.int (0)) (.nil))
    simp [b_found, Ndss, Ndst, Nd, Nds, Ndo, Ndi, NoG, Bi.name, q0]
  have O_found : FnOk P w K mg base CX0 5 _ fd_found ["one", "row"] (pureSp ⟨K, mg⟩ F_found) := fn_okD (C := ⟨K, mg⟩) (st := top 8) D_found sc_found m_found nd_found (fun ds t h => runF_h h)
  have B_w_cell_at := FunD.bindsN (ps := ["_law_script", "_law_k"]) D_w_cell_at fun _ _ _ _ _ _ us hl => match us, hl with | [_, _], _ => rfl
  have nd_w_cell_at : Ndss ⟨P, w, ⟨K, mg⟩, base, N_w_cell_at, 0⟩ b_w_cell_at := by
    simp [b_w_cell_at, Ndss, Ndst, Nd, Nds, Ndo, Ndi, NoG, Bi.name, z_len]
  have O_w_cell_at : FnOk P w K mg base CX0 1 _ fd_w_cell_at ["_law_script", "_law_k"] (pureSp ⟨K, mg⟩ F_w_cell_at) := fn_okD (C := ⟨K, mg⟩) (st := top 10) D_w_cell_at sc_w_cell_at m_w_cell_at nd_w_cell_at (fun ds t h => runF_h h)
  have B_w_signs := FunD.bindsN (ps := []) D_w_signs fun _ _ _ _ _ _ us hl => match us, hl with | [], _ => rfl
  have nd_w_signs : Ndss ⟨P, w, ⟨K, mg⟩, base, N_w_signs, 0⟩ b_w_signs := by
    simp [b_w_signs, Ndss, Ndst, Nd, Nds, Ndo, Ndi, NoG, Bi.name]
  have O_w_signs : FnOk P w K mg base CX0 1 _ fd_w_signs [] (pureSp ⟨K, mg⟩ F_w_signs) := fn_okD (C := ⟨K, mg⟩) (st := top 11) D_w_signs sc_w_signs m_w_signs nd_w_signs (fun ds t h => runF_h h)
  have B_w_four := FunD.bindsN (ps := ["_law_cell"]) D_w_four fun _ _ _ _ _ _ us hl => match us, hl with | [_], _ => rfl
  have nd_w_four : Ndss ⟨P, w, ⟨K, mg⟩, base, N_w_four, 1⟩ b_w_four := by
    have q0 : CallOk ⟨P, w, ⟨K, mg⟩, base, N_w_four, 1⟩ "_law_signs" F_w_signs [] := FnOk.call O_w_signs (by decide) g_w_signs D_w_signs.kp B_w_signs
    simp [b_w_four, Ndss, Ndst, Nd, Nds, Ndo, Ndi, NoG, Bi.name, q0]
  have O_w_four : FnOk P w K mg base CX0 2 _ fd_w_four ["_law_cell"] (pureSp ⟨K, mg⟩ F_w_four) := fn_okD (C := ⟨K, mg⟩) (st := top 12) D_w_four sc_w_four m_w_four nd_w_four (fun ds t h => runF_h h)
  have B_w_item := FunD.bindsN (ps := ["_law_cell", "_law_four_here"]) D_w_item fun _ _ _ _ _ _ us hl => match us, hl with | [_, _], _ => rfl
  have nd_w_item : Ndss ⟨P, w, ⟨K, mg⟩, base, N_w_item, 1⟩ b_w_item := by
    have q0 : CallOk ⟨P, w, ⟨K, mg⟩, base, N_w_item, 1⟩ "_law_signs" F_w_signs [] := FnOk.call O_w_signs (by decide) g_w_signs D_w_signs.kp B_w_signs
    simp [b_w_item, Ndss, Ndst, Nd, Nds, Ndo, Ndi, NoG, Bi.name, q0, z_range]
  have O_w_item : FnOk P w K mg base CX0 2 _ fd_w_item ["_law_cell", "_law_four_here"] (pureSp ⟨K, mg⟩ F_w_item) := fn_okD (C := ⟨K, mg⟩) (st := top 13) D_w_item sc_w_item m_w_item nd_w_item (fun ds t h => runF_h h)
  have B_w_load := FunD.bindsN (ps := ["_law_cell"]) D_w_load fun _ _ _ _ _ _ us hl => match us, hl with | [_], _ => rfl
  have nd_w_load : Ndss ⟨P, w, ⟨K, mg⟩, base, N_w_load, 0⟩ b_w_load := by
    simp [b_w_load, l1_w_load, Ndss, Ndst, Nd, Nds, Ndo, Ndi, NoG, Bi.name, z_abs, z_range]
  have O_w_load : FnOk P w K mg base CX0 1 _ fd_w_load ["_law_cell"] (pureSp ⟨K, mg⟩ F_w_load) := fn_okD (C := ⟨K, mg⟩) (st := top 14) D_w_load sc_w_load m_w_load nd_w_load (fun ds t h => runF_h h)
  have B_w_item_by := FunD.bindsN (ps := ["_law_number"]) D_w_item_by fun _ _ _ _ _ _ us hl => match us, hl with | [_], _ => rfl
  have nd_w_item_by : NdSxs ⟨P, w, ⟨K, mg⟩, base, N_w_item_by, 1⟩ b_w_item_by := by
    have q0 : CallOk ⟨P, w, ⟨K, mg⟩, base, N_w_item_by, 1⟩ "_law_signs" F_w_signs [] := FnOk.call O_w_signs (by decide) g_w_signs D_w_signs.kp B_w_signs
    simp [b_w_item_by, l1_w_item_by, NdSxs, NdSx, NdX, NdXs, NdXo, NdXI, NdP, Ndss, Ndst, Nd, Nds, Ndo, Ndi, NoG, Bi.name, q0, z_len, z_range]
  have O_w_item_by : FnOk P w K mg base CX0 2 _ fd_w_item_by ["_law_number"] (pureSp ⟨K, mg⟩ F_w_item_by) := fn_okX (C := ⟨K, mg⟩) (st := top 15) D_w_item_by sc_w_item_by m_w_item_by nd_w_item_by (fun ds t h => runXF_h h)
  have B_w_items_by := FunD.bindsN (ps := ["_law_number", "_law_most"]) D_w_items_by fun _ _ _ _ _ _ us hl => match us, hl with | [_, _], _ => rfl
  have nd_w_items_by : Ndss ⟨P, w, ⟨K, mg⟩, base, N_w_items_by, 2⟩ b_w_items_by := by
    have q0 : CallOk ⟨P, w, ⟨K, mg⟩, base, N_w_items_by, 2⟩ "_law_item_by" F_w_item_by [] := FnOk.call O_w_item_by (by decide) g_w_item_by D_w_item_by.kp B_w_item_by
    simp [b_w_items_by, l1_w_items_by, Ndss, Ndst, Nd, Nds, Ndo, Ndi, NoG, Bi.name, q0, z_range]
  have O_w_items_by : FnOk P w K mg base CX0 3 _ fd_w_items_by ["_law_number", "_law_most"] (pureSp ⟨K, mg⟩ F_w_items_by) := fn_okD (C := ⟨K, mg⟩) (st := top 16) D_w_items_by sc_w_items_by m_w_items_by nd_w_items_by (fun ds t h => runF_h h)
  have B_w_made_by := FunD.bindsN (ps := ["_law_items", "_law_number"]) D_w_made_by fun _ _ _ _ _ _ us hl => match us, hl with | [_, _], _ => rfl
  have nd_w_made_by : Ndss ⟨P, w, ⟨K, mg⟩, base, N_w_made_by, 1⟩ b_w_made_by := by
    have q0 : CallOk ⟨P, w, ⟨K, mg⟩, base, N_w_made_by, 1⟩ "_law_signs" F_w_signs [] := FnOk.call O_w_signs (by decide) g_w_signs D_w_signs.kp B_w_signs
    simp [b_w_made_by, l1_w_made_by, l2_w_made_by, Ndss, Ndst, Nd, Nds, Ndo, Ndi, NoG, Bi.name, q0, z_len, z_range]
  have O_w_made_by : FnOk P w K mg base CX0 2 _ fd_w_made_by ["_law_items", "_law_number"] (pureSp ⟨K, mg⟩ F_w_made_by) := fn_okD (C := ⟨K, mg⟩) (st := top 17) D_w_made_by sc_w_made_by m_w_made_by nd_w_made_by (fun ds t h => runF_h h)
  have B_w_row_by := FunD.bindsN (ps := ["_law_number", "_law_letters"]) D_w_row_by fun _ _ _ _ _ _ us hl => match us, hl with | [_, _], _ => rfl
  have nd_w_row_by : Ndss ⟨P, w, ⟨K, mg⟩, base, N_w_row_by, 0⟩ b_w_row_by := by
    simp [b_w_row_by, l1_w_row_by, Ndss, Ndst, Nd, Nds, Ndo, Ndi, NoG, Bi.name, z_len, z_range]
  have O_w_row_by : FnOk P w K mg base CX0 1 _ fd_w_row_by ["_law_number", "_law_letters"] (pureSp ⟨K, mg⟩ F_w_row_by) := fn_okD (C := ⟨K, mg⟩) (st := top 18) D_w_row_by sc_w_row_by m_w_row_by nd_w_row_by (fun ds t h => runF_h h)
  have B_w_drawn_by := FunD.bindsN (ps := ["_law_script"]) D_w_drawn_by fun _ _ _ _ _ _ us hl => match us, hl with | [_], _ => rfl
  have nd_w_drawn_by : Ndss ⟨P, w, ⟨K, mg⟩, base, N_w_drawn_by, 3⟩ b_w_drawn_by := by
    have q0 : CallOk ⟨P, w, ⟨K, mg⟩, base, N_w_drawn_by, 3⟩ "_law_cell_at" F_w_cell_at [] := FnOk.call O_w_cell_at (by decide) g_w_cell_at D_w_cell_at.kp B_w_cell_at
    have q1 : CallOk ⟨P, w, ⟨K, mg⟩, base, N_w_drawn_by, 3⟩ "_law_items_by" F_w_items_by [] := FnOk.call O_w_items_by (by decide) g_w_items_by D_w_items_by.kp B_w_items_by
    have q2 : CallOk ⟨P, w, ⟨K, mg⟩, base, N_w_drawn_by, 3⟩ "_law_load" F_w_load [] := FnOk.call O_w_load (by decide) g_w_load D_w_load.kp B_w_load
    have q3 : CallOk ⟨P, w, ⟨K, mg⟩, base, N_w_drawn_by, 3⟩ "_law_made_by" F_w_made_by [] := FnOk.call O_w_made_by (by decide) g_w_made_by D_w_made_by.kp B_w_made_by
    have q4 : CallOk ⟨P, w, ⟨K, mg⟩, base, N_w_drawn_by, 3⟩ "_law_row_by" F_w_row_by [] := FnOk.call O_w_row_by (by decide) g_w_row_by D_w_row_by.kp B_w_row_by
    have q5 : CallOk ⟨P, w, ⟨K, mg⟩, base, N_w_drawn_by, 3⟩ "_law_signs" F_w_signs [] := FnOk.call O_w_signs (by decide) g_w_signs D_w_signs.kp B_w_signs
    simp [b_w_drawn_by, Ndss, Ndst, Nd, Nds, Ndo, Ndi, NoG, Bi.name, q0, q1, q2, q3, q4, q5]
  have O_w_drawn_by : FnOk P w K mg base CX0 4 _ fd_w_drawn_by ["_law_script"] (pureSp ⟨K, mg⟩ F_w_drawn_by) := fn_okD (C := ⟨K, mg⟩) (st := top 19) D_w_drawn_by sc_w_drawn_by m_w_drawn_by nd_w_drawn_by (fun ds t h => runF_h h)
  have B_w_made := FunD.bindsN (ps := ["_law_items", "_law_cells", "_law_four_here"]) D_w_made fun _ _ _ _ _ _ us hl => match us, hl with | [_, _, _], _ => rfl
  have nd_w_made : Ndss ⟨P, w, ⟨K, mg⟩, base, N_w_made, 0⟩ b_w_made := by
    simp [b_w_made, l1_w_made, Ndss, Ndst, Nd, Nds, Ndo, Ndi, NoG, Bi.name, z_len, z_range, z_zip]
  have O_w_made : FnOk P w K mg base CX0 1 _ fd_w_made ["_law_items", "_law_cells", "_law_four_here"] (pureSp ⟨K, mg⟩ F_w_made) := fn_okD (C := ⟨K, mg⟩) (st := top 20) D_w_made sc_w_made m_w_made nd_w_made (fun ds t h => runF_h h)
  have B_w_whole := FunD.bindsN (ps := ["_law_told"]) D_w_whole fun _ _ _ _ _ _ us hl => match us, hl with | [_], _ => rfl
  have nd_w_whole : Ndss ⟨P, w, ⟨K, mg⟩, base, N_w_whole, 0⟩ b_w_whole := by
    simp [b_w_whole, Ndss, Ndst, Nd, Nds, Ndo, Ndi, NoG, Bi.name, z_bool, z_int, z_isinstance]
  have O_w_whole : FnOk P w K mg base CX0 1 _ fd_w_whole ["_law_told"] (pureSp ⟨K, mg⟩ F_w_whole) := fn_okD (C := ⟨K, mg⟩) (st := top 21) D_w_whole sc_w_whole m_w_whole nd_w_whole (fun ds t h => runF_h h)
  have B_w_is_stretch := FunD.bindsN (ps := ["_law_told", "_law_row"]) D_w_is_stretch fun _ _ _ _ _ _ us hl => match us, hl with | [_, _], _ => rfl
  have nd_w_is_stretch : Ndss ⟨P, w, ⟨K, mg⟩, base, N_w_is_stretch, 1⟩ b_w_is_stretch := by
    have q0 : CallOk ⟨P, w, ⟨K, mg⟩, base, N_w_is_stretch, 1⟩ "_law_whole" F_w_whole [] := FnOk.call O_w_whole (by decide) g_w_whole D_w_whole.kp B_w_whole
    simp [b_w_is_stretch, Ndss, Ndst, Nd, Nds, Ndo, Ndi, NoG, Bi.name, q0, z_isinstance, z_len, z_tuple]
  have O_w_is_stretch : FnOk P w K mg base CX0 2 _ fd_w_is_stretch ["_law_told", "_law_row"] (pureSp ⟨K, mg⟩ F_w_is_stretch) := fn_okD (C := ⟨K, mg⟩) (st := top 22) D_w_is_stretch sc_w_is_stretch m_w_is_stretch nd_w_is_stretch (fun ds t h => runF_h h)
  have B_w_held := FunD.bindsN (ps := ["_law_one", "_law_row", "_law_pair"]) D_w_held fun _ _ _ _ _ _ us hl => match us, hl with | [_, _, _], _ => rfl
  have nd_w_held : Ndss ⟨P, w, ⟨K, mg⟩, base, N_w_held, 5⟩ b_w_held := by
    have q0 : CallOk ⟨P, w, ⟨K, mg⟩, base, N_w_held, 5⟩ "found" F_found [] := FnOk.call O_found (by decide) g_found D_found.kp B_found
    simp [b_w_held, Ndss, Ndst, Nd, Nds, Ndo, Ndi, NoG, Bi.name, q0]
  have O_w_held : FnOk P w K mg base CX0 6 _ fd_w_held ["_law_one", "_law_row", "_law_pair"] (pureSp ⟨K, mg⟩ F_w_held) := fn_okD (C := ⟨K, mg⟩) (st := top 23) D_w_held sc_w_held m_w_held nd_w_held (fun ds t h => runF_h h)
  have B_w_pairs := FunD.bindsN (ps := ["_law_cells", "_law_row", "_law_last"]) D_w_pairs fun _ _ _ _ _ _ us hl => match us, hl with | [_, _, _], _ => rfl
  have nd_w_pairs : Ndss ⟨P, w, ⟨K, mg⟩, base, N_w_pairs, 0⟩ b_w_pairs := by
    simp [b_w_pairs, l1_w_pairs, Ndss, Ndst, Nd, Nds, Ndo, Ndi, NoG, Bi.name, z_len]
  have O_w_pairs : FnOk P w K mg base CX0 1 _ fd_w_pairs ["_law_cells", "_law_row", "_law_last"] (pureSp ⟨K, mg⟩ F_w_pairs) := fn_okD (C := ⟨K, mg⟩) (st := top 24) D_w_pairs sc_w_pairs m_w_pairs nd_w_pairs (fun ds t h => runF_h h)
  have B_w_longer := FunD.bindsN (ps := ["_law_one", "_law_row", "_law_told", "_law_sides"]) D_w_longer fun _ _ _ _ _ _ us hl => match us, hl with | [_, _, _, _], _ => rfl
  have nd_w_longer : Ndss ⟨P, w, ⟨K, mg⟩, base, N_w_longer, 4⟩ b_w_longer := by
    have q0 : CallOk ⟨P, w, ⟨K, mg⟩, base, N_w_longer, 4⟩ "_law_is_stretch" F_w_is_stretch [] := FnOk.call O_w_is_stretch (by decide) g_w_is_stretch D_w_is_stretch.kp B_w_is_stretch
    have q1 : CallOk ⟨P, w, ⟨K, mg⟩, base, N_w_longer, 4⟩ "stretch" F_stretch [(.int (0))] := FnOk.callD O_stretch (by decide) g_stretch D_stretch.kp (FunD.binds1 (ps := ["one", "row", "start"]) D_stretch 2 0 (List.cons_ne_nil _ _) rfl fun _ _ _ _ _ _ _ us its hl hi => match us, its, hl, hi with | [_, _], [_], _, _ => ⟨_, rfl, rfl⟩) (fun _ => .cons (Dat.int (0)) (.nil))
    have q2 : CallOk ⟨P, w, ⟨K, mg⟩, base, N_w_longer, 4⟩ "stretch" F_stretch [] := FnOk.callD O_stretch (by decide) g_stretch D_stretch.kp (FunD.binds1 (ps := ["one", "row", "start"]) D_stretch 3 1 (List.cons_ne_nil _ _) rfl fun _ _ _ _ _ _ _ us its hl hi => match us, its, hl, hi with | [_, _, _], [_], _, _ => ⟨_, rfl, rfl⟩) (fun _ => .nil)
    simp [b_w_longer, Ndss, Ndst, Nd, Nds, Ndo, Ndi, NoG, Bi.name, q0, q1, q2, z_len]
  have O_w_longer : FnOk P w K mg base CX0 5 _ fd_w_longer ["_law_one", "_law_row", "_law_told", "_law_sides"] (pureSp ⟨K, mg⟩ F_w_longer) := fn_okD (C := ⟨K, mg⟩) (st := top 25) D_w_longer sc_w_longer m_w_longer nd_w_longer (fun ds t h => runF_h h)
  have B_law := FunD.bindsN (ps := ["_law_script"]) D_law fun _ _ _ _ _ _ us hl => match us, hl with | [_], _ => rfl
  have nd_law : Ndss ⟨P, w, ⟨K, mg⟩, base, N_law, 6⟩ b_law := by
    have q0 : CallOk ⟨P, w, ⟨K, mg⟩, base, N_law, 6⟩ "_law_cell_at" F_w_cell_at [] := FnOk.call O_w_cell_at (by decide) g_w_cell_at D_w_cell_at.kp B_w_cell_at
    have q1 : CallOk ⟨P, w, ⟨K, mg⟩, base, N_law, 6⟩ "_law_drawn_by" F_w_drawn_by [] := FnOk.call O_w_drawn_by (by decide) g_w_drawn_by D_w_drawn_by.kp B_w_drawn_by
    have q2 : CallOk ⟨P, w, ⟨K, mg⟩, base, N_law, 6⟩ "_law_four" F_w_four [] := FnOk.call O_w_four (by decide) g_w_four D_w_four.kp B_w_four
    have q3 : CallOk ⟨P, w, ⟨K, mg⟩, base, N_law, 6⟩ "_law_held" F_w_held [] := FnOk.call O_w_held (by decide) g_w_held D_w_held.kp B_w_held
    have q4 : CallOk ⟨P, w, ⟨K, mg⟩, base, N_law, 6⟩ "_law_is_stretch" F_w_is_stretch [] := FnOk.call O_w_is_stretch (by decide) g_w_is_stretch D_w_is_stretch.kp B_w_is_stretch
    have q5 : CallOk ⟨P, w, ⟨K, mg⟩, base, N_law, 6⟩ "_law_item" F_w_item [] := FnOk.call O_w_item (by decide) g_w_item D_w_item.kp B_w_item
    have q6 : CallOk ⟨P, w, ⟨K, mg⟩, base, N_law, 6⟩ "_law_longer" F_w_longer [] := FnOk.call O_w_longer (by decide) g_w_longer D_w_longer.kp B_w_longer
    have q7 : CallOk ⟨P, w, ⟨K, mg⟩, base, N_law, 6⟩ "_law_made" F_w_made [] := FnOk.call O_w_made (by decide) g_w_made D_w_made.kp B_w_made
    have q8 : CallOk ⟨P, w, ⟨K, mg⟩, base, N_law, 6⟩ "_law_pairs" F_w_pairs [] := FnOk.call O_w_pairs (by decide) g_w_pairs D_w_pairs.kp B_w_pairs
    have q9 : CallOk ⟨P, w, ⟨K, mg⟩, base, N_law, 6⟩ "found" F_found [] := FnOk.call O_found (by decide) g_found D_found.kp B_found
    have q10 : CallOk ⟨P, w, ⟨K, mg⟩, base, N_law, 6⟩ "stretch" F_stretch [(.int (0))] := FnOk.callD O_stretch (by decide) g_stretch D_stretch.kp (FunD.binds1 (ps := ["one", "row", "start"]) D_stretch 2 0 (List.cons_ne_nil _ _) rfl fun _ _ _ _ _ _ _ us its hl hi => match us, its, hl, hi with | [_, _], [_], _, _ => ⟨_, rfl, rfl⟩) (fun _ => .cons (Dat.int (0)) (.nil))
    simp [b_law, Ndss, Ndst, Nd, Nds, Ndo, Ndi, NoG, Bi.name, q0, q1, q2, q3, q4, q5, q6, q7, q8, q9, q10, z_any, z_len, z_range]
  have O_law : FnOk P w K mg base CX0 7 _ fd_law ["_law_script"] (pureSp ⟨K, mg⟩ F_law) := fn_okD (C := ⟨K, mg⟩) (st := top 26) D_law sc_law m_law nd_law (fun ds t h => runF_h h)
  exact O_law.imp fun vs H Q E h => law_sp (C := ⟨K, mg⟩) h
end Lw
open PySem PySem.W PySem.Calls PyProof.Rows
theorem PySem.Challenge.cw_rowblade_k16_whole_least_and_longest_holds : PySem.Challenge.rw_rowblade_k16_whole_least_and_longest.Holds := by
  w_on; o_law
  refine HandSHeadRun.head_any (r := OpenLaw.row PySem.Challenge.rw_rowblade_k16_whole_least_and_longest) (q := view (OpenLaw.row PySem.Challenge.rw_rowblade_k16_whole_least_and_longest).prog [26]) (H := Lw.hk) (ob := Lw.ob) (M := 4000) (loose := Lw.loose) (d := HandSHeadRun.topDef (OpenLaw.row PySem.Challenge.rw_rowblade_k16_whole_least_and_longest).prog 26) (kwd := []) Lw.ob_eq
    (by kernel_rfl) (fun s => by kernel_rfl) Lw.run (by kernel_rfl) (by kernel_rfl) (by kernel_rfl) (by rfl) (by first | assumption | decide +kernel) (by decide +kernel) ⟨rfl, rfl, rfl, rfl, rfl, by decide +kernel⟩ ?hw ?hc
  case hw => w_witness2
  case hc =>
    refine L2.walk_ofE (l := PySem.Challenge.rw_rowblade_k16_whole_least_and_longest) (n := 63) (k := 7) (x := "_law_script") (CX := L2.CX0) rfl (by decide) (by kernel_rfl) ⟨rfl, by decide, by decide⟩ ?F (fun _ _ _ _ z => z)
    intro w mg fa h Y G hmg0
    obtain ⟨K, KX, c⟩ := Y
    have hmg : mg ("law" : PySem.Str) = some (.ref fa) := by
      have e : (HandSHeadRun.topDef (OpenLaw.row PySem.Challenge.rw_rowblade_k16_whole_least_and_longest).prog 26).name = ("law" : PySem.Str) := by kernel_rfl
      rw [← e]
      exact hmg0
    obtain ⟨fd, hb, hF⟩ := Lw.facts (P := (PySem.Challenge.rw_rowblade_k16_whole_least_and_longest).prog) (w := w) KX G hmg c
    exact ⟨K, fd, Lw.spLaw K, KX, hb, fun H a ns hl _ hS => ⟨a, ns, rfl, hS, hl, fun _ => rfl⟩, hF⟩
