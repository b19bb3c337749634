import PyProof.Rows.All
import HandS.Iter
import HandS.Walk
import KE.GoesEnum
import KE.GoesEnumKw
import KE.GoesZip
import Wide.All
import OpenK.AllK
import Wide.FinOn
import HandS.ForMost
import HandS.IsInst
import HandS.Style
import HandS.StrMore
import HandS.NoneIn
import HandS.Defaults
import HandS.Head0
import HandS.Head1
import HandS.Head2
import HandS.HeadEnd
import HandS.HeadHook1
import HandS.HeadHook2
import PyProof.Rows.StrFirst
import PySem.Challenge.RW_rowblade_k12_patterns_told_and_written
set_option Elab.async false
set_option linter.all false
set_option maxRecDepth 100000
/-! enumerate(a text), enumerate(.., start=k), zip(a list, a text): what is walked. -/
namespace L2
open PySem PySem.Spec PyProof.Rows
/-- the signs of a text, each in a new pair with its number from k on -/
def Ites (k : Int) (x : Str) : It := ⟨fun i _ => i < x.cps.size, fun i H v H' => ∃ T c, v = .ref T ∧ H T = none ∧ H' = upd H T (.tup [.int (k + (i : Nat)), .str ⟨#[c]⟩]) ∧ x.cps[i]? = some c, fun i _ => x.cps.size ≤ i⟩
theorem turn_enumS {P : Program} {w : World} {K : PySem.W.Frag} {elts : List Expr} {kk : Nat} {tpos : Pos} (k0 : Int) (x : Str) (t : Tok) (e it : Addr) :
    Turn P w K (.Tuple elts kk tpos) (Ites k0 x) [e, it] e (fun i h => (∃ old, IsEnum h e it (k0 + ((i : Nat) : Int)) old) ∧ h.IsStrIter it (strIterType x) x t i ∧ e ≠ it ∧ i ≤ x.cps.size) where
  mem := by simp
  obj := fun i h st b hb => by
    obtain ⟨⟨old, he⟩, ⟨o, ho, hc, hd⟩, _⟩ := st
    have e' : b = e ∨ b = it := by simpa using hb
    rcases e' with z | z
    · rw [z]; exact ⟨_, he, fun v q => nomatch q⟩
    · rw [z]; exact ⟨o, ho, fun v q => by rw [hd] at q; cases q⟩
  keep := fun i h h' st k => by
    obtain ⟨⟨old, he⟩, ⟨o, ho, r⟩, hne, hl⟩ := st
    exact ⟨⟨old, k e (by simp) _ he⟩, ⟨o, k it (by simp) o ho, r⟩, hne, hl⟩
  item := by
    intro X hP hw hK hc i pins s σ H E I hf st hg
    subst hP hw hK
    obtain ⟨⟨old, he⟩, hit, hne, _⟩ := st
    have hg : i < x.cps.size := hg
    have hel : e < s.heap.objs.size := Heap.lt_size he
    have hil : it < s.heap.objs.size := by obtain ⟨_, q, _⟩ := hit; exact Heap.lt_size q
    refine wpAny_pyNext_enum_itemC (Draws.text (A := X.A.in1) (I.ok.hd hc) it x t) he hit hg hne (by simpa using hne) fun v h' tk hP ho hit' hT hsz hk => ?_
    obtain ⟨c, u, hcx, rfl⟩ := hP
    refine ⟨_, rfl, wpAny_letOwnedTupleGo_enum (s := { s with heap := h', toks := tk + 1 }) ho fun h'' he' sb => ?_⟩
    have hT2 : h''.get? s.heap.objs.size = some { cls := .type "tuple", data := .seq #[.int (k0 + (i : Int)) tk, .str ⟨#[c]⟩ u] } := (sb.2 _ (Nat.ne_of_gt hel)).trans hT
    have new : ObjOk X.prog X.w (upd H s.heap.objs.size (.tup [.int (k0 + (i : Nat)), .str ⟨#[c]⟩])) h'' s.heap.objs.size (.tup [.int (k0 + (i : Nat)), .str ⟨#[c]⟩]) :=
      ⟨by show 2 ≤ sizeLine; decide, [.int (k0 + (i : Int)) tk, .str ⟨#[c]⟩ u], .cons ⟨_, rfl⟩ (.cons ⟨_, rfl⟩ .nil), ⟨_, hT2, rfl, _, rfl⟩⟩
    have I1 : Inv X pins σ (upd H s.heap.objs.size (.tup [.int (k0 + (i : Nat)), .str ⟨#[c]⟩])) { s with heap := h'', toks := tk + 1 } :=
      I.turnedNew (ch := [e, it]) (fun b ob hb q => (sb.2 b (fun z => hb (by simp [z]))).trans (hk b ob (fun z => hb (by simp [z])) (fun z => hb (by simp [z])) q)) hf (Nat.le_refl _) new
    refine ⟨.ref s.heap.objs.size, _, I1, rfl, ⟨_, c, rfl, I.hok.fresh (Nat.le_refl _), rfl, hcx⟩, ⟨⟨.str ⟨#[c]⟩ u, ?_⟩, ?_, hne, hg⟩, fun b hb => ?_⟩
    · have e1 : k0 + ((i + 1 : Nat) : Int) = k0 + (i : Int) + 1 := by omega
      rw [e1]; exact he'
    · obtain ⟨o, q1, q2⟩ := hit'
      exact ⟨o, (sb.2 it (Ne.symm hne)).trans q1, q2⟩
    · have hb' : b < s.heap.objs.size := by
        have e' : b = e ∨ b = it := by simpa using hb
        rcases e' with z | z
        · rw [z]; exact hel
        · rw [z]; exact hil
      rw [upd_ne (Nat.ne_of_lt hb')]
      exact (hf b hb).1
  done := by
    intro X hP hw hK hc i pins s σ H E I hf st hg
    subst hP hw hK
    obtain ⟨⟨old, he⟩, hit, hne, hle⟩ := st
    have hg : x.cps.size ≤ i := hg
    have : i = x.cps.size := Nat.le_antisymm hle hg
    subst this
    obtain ⟨f0, f1, f2, f3, f4, f5⟩ := hf it (by simp)
    exact wpAny_pyNext_enum_endD (Draws.text (A := X.A.in1) (I.ok.hd hc) it x t) he hit fun h' eb => ⟨rfl, I.turned (t' := s.toks) (fun b o hb q => eb b o hb q) f0 f1 f3 f4 f5⟩
  self := fun A i s Q E st h => let ⟨⟨_, he⟩, _⟩ := st; wpAny_pyIter_enum he h
def iEnumS (ta : TA) : TI := fun σ H R => ta σ H fun vs H1 => ∃ x, vs = [.str x] ∧ R (Ites 0 x) H1
theorem pi_enumS {X : Cx} {e : Expr} {ta : TA} {p pos tpos : Pos} {elts : List Expr} {kk : Nat} (hg : Gl X "enumerate") (hm : X.mg "enumerate" = none) (ha : PA X [e] ta) (hs : starEach [e] X.env = [(false, eval e X.env)] := by rfl) :
    PI X (.Tuple elts kk tpos) (.Call (.Name "enumerate" p) [e] [] pos) (iEnumS ta) := by
  refine ⟨fun pins s σ H R I h => ?_⟩
  refine Call_ (ld_blt I hg hm boot_enumerate (PyProof.Rows.callWith_type1 (thn (ha.run pos pins s σ H _ I h) fun us s1 ⟨vs, H1, I1, r1, q1⟩ => ?_) hs rfl))
  obtain ⟨x, ex, q⟩ := q1
  subst ex
  cases r1 with
  | cons r rr =>
    cases rr
    obtain ⟨t, rfl⟩ := r
    refine call_enumerate_str fun h' he hit hsz hk => wpAny_pyIter_enum he ?_
    have I2 : Inv X pins σ H1 { s1 with heap := h' } := I1.kept (t' := s1.toks) hk
    refine ⟨s1.heap.objs.size + 1, [s1.heap.objs.size + 1, s1.heap.objs.size], _, _, H1, rfl, I2, turn_enumS 0 x t (s1.heap.objs.size + 1) s1.heap.objs.size, ⟨⟨.none, he⟩, hit, Nat.succ_ne_self _, Nat.zero_le _⟩, fun b hb => ?_, q⟩
    have e' : b = s1.heap.objs.size + 1 ∨ b = s1.heap.objs.size := by simpa using hb
    have hle : s1.heap.objs.size ≤ b := by
      rcases e' with z | z
      · rw [z]; exact Nat.le_add_right _ _
      · rw [z]; exact Nat.le_refl _
    exact I1.fpOk hle (I1.hok.fresh hle)
/-- the items of the list at a and the signs of x, in new pairs -/
def Itzs (K : PySem.W.Frag) (a : Addr) (x : Str) : It :=
  ⟨fun i H => ∃ (xs : List V) (u : V), SqL K H a xs ∧ xs[i]? = some u ∧ i < x.cps.size,
    fun i H v H' => ∃ T u c, v = .ref T ∧ H T = none ∧ H' = upd H T (.tup [u, .str ⟨#[c]⟩]) ∧ (∀ xs, SqL K H a xs → xs[i]? = some u) ∧ x.cps[i]? = some c,
    fun i H => ∃ xs : List V, SqL K H a xs ∧ i ≤ xs.length ∧ (i = xs.length ∨ i = x.cps.size)⟩
theorem turn_zipS {P : Program} {w : World} {K : PySem.W.Frag} {elts : List Expr} {kk : Nat} {tpos : Pos} {a z TI TO i1 i2 : Addr} {x : Str} {t : Tok} (S : ZipSep2 z TI TO i1 i2 [i1, a] [i2]) (hne : a ≠ i1) :
    Turn P w K (.Tuple elts kk tpos) (Itzs K a x) [z, TI, TO, i1, i2] z (fun i h => IsZip h z TI TO .none ∧ IsTupOf2 h TI (.ref i1) (.ref i2) ∧ (∃ x y, IsTupOf2 h TO x y) ∧ h.IsListIter i1 a i ∧ h.IsStrIter i2 (strIterType x) x t i ∧ i ≤ x.cps.size) where
  mem := by simp
  obj := fun i h st c hc => by
    obtain ⟨hz, hTI, ⟨x, y, hTO⟩, ⟨o1, e1, _, d1⟩, ⟨o2, e2, _, d2⟩, _⟩ := st
    have e' : c = z ∨ c = TI ∨ c = TO ∨ c = i1 ∨ c = i2 := by simpa using hc
    rcases e' with q | q | q | q | q
    · rw [q]; exact ⟨_, hz, fun v q => nomatch q⟩
    · rw [q]; exact ⟨_, hTI, fun v q => nomatch q⟩
    · rw [q]; exact ⟨_, hTO, fun v q => nomatch q⟩
    · rw [q]; exact ⟨o1, e1, fun v q => by rw [d1] at q; cases q⟩
    · rw [q]; exact ⟨o2, e2, fun v q => by rw [d2] at q; cases q⟩
  keep := fun i h h' st k => by
    obtain ⟨hz, hTI, ⟨x, y, hTO⟩, h1, ⟨o, ho, r⟩, hl⟩ := st
    exact ⟨k z (by simp) _ hz, k TI (by simp) _ hTI, ⟨x, y, k TO (by simp) _ hTO⟩, h1.at fun o q => k i1 (by simp) o q, ⟨o, k i2 (by simp) o ho, r⟩, hl⟩
  item := by
    intro X hP hw hK hc i pins s σ H E I hf st hg
    subst hP hw hK
    obtain ⟨hz, hTI, ⟨x0, y0, hTO⟩, h1, h2, _⟩ := st
    obtain ⟨xs, u0, hqx, hx, hlt⟩ := hg
    obtain ⟨its, rv, p, _⟩ := I.list hqx
    have hln := rv.length
    have hi : i < xs.length := (List.getElem?_eq_some_iff.mp hx).1
    have hzl : z < s.heap.objs.size := Heap.lt_size hz
    refine wpAny_pyNext_zipD2_item S (Draws.list (A := X.A.in1) (I.ok.hd hc) i1 a hne its.toArray) (Draws.text (A := X.A.in1) (I.ok.hd hc) i2 x t) hz hTI hTO ⟨h1, p.isList⟩ h2 (by simp; omega) hlt fun v1 v2 h' tk hv1 hv2 z' TO' h1' h2' hT hsz hk => ?_
    obtain ⟨c, u, hcx, rfl⟩ := hv2
    obtain ⟨v1', hv1', rv1⟩ := rv.get hx
    have : v1 = v1' := by
      have hv1 : its[i]? = some v1 := by simpa using hv1
      rw [hv1'] at hv1; cases hv1; rfl
    subst this
    refine ⟨_, rfl, wpAny_letOwnedTupleGo_zip (s := { s with heap := h', toks := tk }) z' fun h'' z'' sb => ?_⟩
    have hT2 : h''.get? s.heap.objs.size = some { cls := .type "tuple", data := .seq #[v1, .str ⟨#[c]⟩ u] } := (sb.2 _ (Nat.ne_of_gt hzl)).trans hT
    have new : ObjOk X.prog X.w (upd H s.heap.objs.size (.tup [u0, .str ⟨#[c]⟩])) h'' s.heap.objs.size (.tup [u0, .str ⟨#[c]⟩]) :=
      ⟨by show 2 ≤ sizeLine; decide, [v1, .str ⟨#[c]⟩ u], .cons rv1 (.cons ⟨_, rfl⟩ .nil), ⟨_, hT2, rfl, _, rfl⟩⟩
    have I1 : Inv X pins σ (upd H s.heap.objs.size (.tup [u0, .str ⟨#[c]⟩])) { s with heap := h'', toks := tk } :=
      I.turnedNew (ch := [z, TI, TO, i1, i2]) (fun c o hb q => (sb.2 c (fun q' => hb (by simp [q']))).trans (hk c o (fun q' => hb (by simp [q'])) (fun q' => hb (by simp [q'])) (fun q' => hb (by simp [q'])) (fun q' => hb (by simp [q'])) q)) hf (Nat.le_refl _) new
    refine ⟨.ref s.heap.objs.size, _, I1, rfl, ⟨_, u0, c, rfl, I.hok.fresh (Nat.le_refl _), rfl, fun l hl => by rw [I.list_inj hl hqx]; exact hx, hcx⟩, ⟨z'', ?_, ⟨v1, .str ⟨#[c]⟩ u, ?_⟩, ?_, ?_, hlt⟩, fun c hcm => ?_⟩
    · exact (sb.2 _ S.TIz).trans (hk _ _ S.TIz S.TITO S.TIi1 S.TIi2 hTI)
    · exact (sb.2 _ S.TOz).trans TO'
    · exact h1'.1.at fun o q => (sb.2 _ fun e => S.zf1 (e ▸ List.mem_cons_self ..)).trans q
    · obtain ⟨o, q1, q2⟩ := h2'
      exact ⟨o, (sb.2 _ fun e => S.zf2 (e ▸ List.mem_cons_self ..)).trans q1, q2⟩
    · have hlt : c < s.heap.objs.size := by
        have e' : c = z ∨ c = TI ∨ c = TO ∨ c = i1 ∨ c = i2 := by simpa using hcm
        rcases e' with q | q | q | q | q
        · rw [q]; exact hzl
        · rw [q]; exact Heap.lt_size hTI
        · rw [q]; exact Heap.lt_size hTO
        · rw [q]; obtain ⟨_, e1, _⟩ := h1; exact Heap.lt_size e1
        · rw [q]; obtain ⟨_, e2, _⟩ := h2; exact Heap.lt_size e2
      rw [upd_ne (Nat.ne_of_lt hlt)]
      exact (hf c hcm).1
  done := by
    intro X hP hw hK hc i pins s σ H E I hf st hg
    subst hP hw hK
    obtain ⟨hz, hTI, ⟨x0, y0, hTO⟩, h1, h2, hle⟩ := st
    obtain ⟨xs, hqx, hlx, hend⟩ := hg
    obtain ⟨its, rv, p, _⟩ := I.list hqx
    have hln := rv.length
    refine wpAny_pyNext_zipD2_end S (Draws.list (A := X.A.in1) (I.ok.hd hc) i1 a hne its.toArray) (Draws.text (A := X.A.in1) (I.ok.hd hc) i2 x t) hz hTI hTO ⟨h1, p.isList⟩ h2 (by simp; omega) hle (by rcases hend with q | q <;> simp <;> omega) fun h' tk hk => ⟨rfl, I.turnedL (t' := tk) (ch := [z, TI, TO, i1, i2]) (fun c o hb q =>
      hk c o (fun q' => hb (by simp [q'])) (fun q' => hb (by simp [q'])) (fun q' => hb (by simp [q'])) (fun q' => hb (by simp [q'])) q) hf⟩
  self := fun A i s Q E st h => wpAny_pyIter_zip st.1 h
def iZipS (K : PySem.W.Frag) (ta : TA) : TI := fun σ H R => ta σ H fun vs H1 => ∃ a xs x, vs = [.ref a, .str x] ∧ SqL K H1 a xs ∧ R (Itzs K a x) H1
theorem pi_zipS {X : Cx} {e e2 : Expr} {ta : TA} {p pos tpos : Pos} {elts : List Expr} {kk : Nat} (hg : Gl X "zip") (hm : X.mg "zip" = none) (ha : PA X [e, e2] ta)
    (hs : starEach [e, e2] X.env = (false, eval e X.env) :: starEach [e2] X.env := by rfl) (hpl : (backTo pos (starEach [e2] X.env)).any (·.1) = false := by rfl) :
    PI X (.Tuple elts kk tpos) (.Call (.Name "zip" p) [e, e2] [] pos) (iZipS X.K ta) := by
  refine ⟨fun pins s σ H R I h => ?_⟩
  refine Call_ (ld_blt I hg hm PyProof.Rows.boot_zip (PyProof.Rows.callWith_type1 (thn (ha.run pos pins s σ H _ I h) fun us s1 ⟨vs, H1, I1, r1, q1⟩ => ?_) hs hpl))
  obtain ⟨a, xs, x, ex, hqx, q⟩ := q1
  subst ex
  cases r1 with
  | cons r rr =>
    cases rr with
    | cons r' rr =>
      cases rr
      cases r
      obtain ⟨t, rfl⟩ := r'
      obtain ⟨its, rv, p1, _⟩ := I1.list hqx
      have la : a < s1.heap.objs.size := p1.lt
      refine zip_begins2 (begins_list a its.toArray) (begins_text x t) p1.isList trivial fun h' hz hTI hTO h1 h2 hsz hk => wpAny_pyIter_zip hz ?_
      have I2 : Inv X pins σ H1 { s1 with heap := h' } := I1.kept (t' := s1.toks) hk
      have S := zip_sep2 (N := s1.heap.objs.size) (fp1 := [a]) (fp2 := []) (fun b hb => by rw [List.mem_singleton.mp hb]; exact la) (fun b hb => by cases hb)
      refine ⟨s1.heap.objs.size + 4, [s1.heap.objs.size + 4, s1.heap.objs.size + 2, s1.heap.objs.size + 3, s1.heap.objs.size, s1.heap.objs.size + 1], _, _, H1, rfl, I2, turn_zipS (t := t) S (Nat.ne_of_lt la), ⟨hz, hTI, ⟨_, _, hTO⟩, ⟨_, h1, rfl, rfl⟩, ⟨_, h2, rfl, rfl⟩, Nat.zero_le _⟩, fun c hcm => ?_, q⟩
      have e' : c = s1.heap.objs.size + 4 ∨ c = s1.heap.objs.size + 2 ∨ c = s1.heap.objs.size + 3 ∨ c = s1.heap.objs.size ∨ c = s1.heap.objs.size + 1 := by simpa using hcm
      have hle : s1.heap.objs.size ≤ c := by
        rcases e' with z | z | z | z | z
        · rw [z]; exact Nat.le_add_right _ _
        · rw [z]; exact Nat.le_add_right _ _
        · rw [z]; exact Nat.le_add_right _ _
        · rw [z]; exact Nat.le_refl _
        · rw [z]; exact Nat.le_add_right _ _
      exact I1.fpOk hle (I1.hok.fresh hle)
theorem walk_enumS {k : Int} {x : Str} : Walk (Ites k x) x.cps.size (fun _ => True) (fun i H v H' => ∃ T c, v = .ref T ∧ H T = none ∧ H' = upd H T (.tup [.int (k + (i : Nat)), .str ⟨#[c]⟩]) ∧ x.cps[i]? = some c) :=
  ⟨fun _ _ hi _ => hi, fun _ _ => Nat.le_refl _, fun _ _ _ _ _ _ y => y⟩
theorem walk_zipS {K : PySem.W.Frag} {a : Addr} {xs : List V} {x : Str} : Walk (Itzs K a x) (min xs.length x.cps.size) (fun H => SqL K H a xs) (fun i H v H' => ∃ T u c, v = .ref T ∧ H T = none ∧ H' = upd H T (.tup [u, .str ⟨#[c]⟩]) ∧ xs[i]? = some u ∧ x.cps[i]? = some c) := by
  refine ⟨fun i _ hi q => ?_, fun _ q => ⟨xs, q, by omega, by omega⟩, fun i H v H' _ q y => ?_⟩
  · have h1 : i < xs.length := by omega
    exact ⟨xs, xs[i], q, by simp [h1], by omega⟩
  · obtain ⟨T, u, c, h1, h2, h3, h4, h5⟩ := y
    exact ⟨T, u, c, h1, h2, h3, h4 xs q, h5⟩
end L2
/-! Eng A: data, heaps with hidden parts, owned trees. -/
namespace Eng
open PySem L2
inductive D where
  | non | bl (b : Bool) | int (i : Int) | str (s : List Nat)
  | lst (xs : List D) | tup (xs : List D) | scr (ns : List Int)
  | ins (c : Str) (ns : List Str) (xs : List D) | dic (ks : List Key) (xs : List D)
  deriving Inhabited
/-- what a value is, over a heap -/
structure Cfg where
  K : PySem.W.Frag
  mg : Str → Option Value
abbrev sv (s : List Nat) : V := .str ⟨s.toArray⟩
mutual
inductive Dat (C : Cfg) (H : Hp) : V → D → Prop
  | non : Dat C H .non .non
  | bl (b : Bool) : Dat C H (.bl b) (.bl b)
  | int (i : Int) : Dat C H (.int i) (.int i)
  | str (s : List Nat) : Dat C H (sv s) (.str s)
  | scr {a : Addr} {ns : List Int} : SqL C.K H a (ns.map V.int) → Dat C H (.ref a) (.scr ns)
  | lst {a : Addr} {vs : List V} {ds : List D} : H a = some (.lst vs) → Dats C H vs ds → Dat C H (.ref a) (.lst ds)
  | tup {a : Addr} {vs : List V} {ds : List D} : H a = some (.tup vs) → Dats C H vs ds → Dat C H (.ref a) (.tup ds)
  | ins {a A dx : Addr} {c : Str} {ns : List Str} {vs : List V} {ds : List D} : H a = some (.ins A dx (ns.zip vs)) → C.mg c = some (.ref A) → Dats C H vs ds → ns.length = ds.length → Dat C H (.ref a) (.ins c ns ds)
  | dic {a : Addr} {ks : List Key} {vs : List V} {ds : List D} : H a = some (.dK (ks.zip vs)) → Dats C H vs ds → ks.length = ds.length → Dat C H (.ref a) (.dic ks ds)
inductive Dats (C : Cfg) (H : Hp) : List V → List D → Prop
  | nil : Dats C H [] []
  | cons {v : V} {vs : List V} {d : D} {ds : List D} : Dat C H v d → Dats C H vs ds → Dats C H (v :: vs) (d :: ds)
end
section
variable {C : Cfg} {H H' : Hp}
mutual
theorem Dat.mono (e : Same H H') : ∀ {v : V} {d : D}, Dat C H v d → Dat C H' v d
  | _, _, .non => .non
  | _, _, .bl b => .bl b
  | _, _, .int i => .int i
  | _, _, .str s => .str s
  | _, _, .scr h => .scr (e.seq h)
  | _, _, .lst h hs => .lst (e _ _ h) (Dats.mono e hs)
  | _, _, .tup h hs => .tup (e _ _ h) (Dats.mono e hs)
  | _, _, .ins h hm hs hl => .ins (e _ _ h) hm (Dats.mono e hs) hl
  | _, _, .dic h hs hl => .dic (e _ _ h) (Dats.mono e hs) hl
theorem Dats.mono (e : Same H H') : ∀ {vs : List V} {ds : List D}, Dats C H vs ds → Dats C H' vs ds
  | _, _, .nil => .nil
  | _, _, .cons h hs => .cons (Dat.mono e h) (Dats.mono e hs)
end
theorem Dats.length {vs : List V} {ds : List D} (h : Dats C H vs ds) : vs.length = ds.length := by
  induction vs generalizing ds with
  | nil => cases h; rfl
  | cons v vs ih => cases h with | cons h hs => simp [ih hs]
theorem Dats.get {vs : List V} {ds : List D} (h : Dats C H vs ds) {i : Nat} {v : V} (e : vs[i]? = some v) : ∃ d, ds[i]? = some d ∧ Dat C H v d := by
  induction vs generalizing ds i with
  | nil => simp at e
  | cons w vs ih =>
    cases h with
    | cons h hs =>
      cases i with
      | zero => simp at e; subst e; exact ⟨_, rfl, h⟩
      | succ i => simp at e; obtain ⟨d, h1, h2⟩ := ih hs e; exact ⟨d, by simpa using h1, h2⟩
theorem Dats.getD {vs : List V} {ds : List D} (h : Dats C H vs ds) {i : Nat} {d : D} (e : ds[i]? = some d) : ∃ v, vs[i]? = some v ∧ Dat C H v d := by
  have hl := h.length
  have : i < vs.length := by rw [hl]; exact (List.getElem?_eq_some_iff.mp e).1
  obtain ⟨d', h1, h2⟩ := h.get (List.getElem?_eq_getElem this)
  rw [e] at h1; cases h1
  exact ⟨_, List.getElem?_eq_getElem this, h2⟩
theorem Dats.append {vs us : List V} {ds es : List D} (h : Dats C H vs ds) (k : Dats C H us es) : Dats C H (vs ++ us) (ds ++ es) := by
  induction vs generalizing ds with
  | nil => cases h; exact k
  | cons v vs ih => cases h with | cons h hs => exact .cons h (ih hs)
theorem Dats.take {vs : List V} {ds : List D} (n : Nat) (h : Dats C H vs ds) : Dats C H (vs.take n) (ds.take n) := by
  induction vs generalizing ds n with
  | nil => cases h; simp; exact .nil
  | cons v vs ih =>
    cases h with
    | cons h hs =>
      cases n with
      | zero => exact .nil
      | succ n => exact .cons h (ih n hs)
theorem Dats.drop {vs : List V} {ds : List D} (n : Nat) (h : Dats C H vs ds) : Dats C H (vs.drop n) (ds.drop n) := by
  induction vs generalizing ds n with
  | nil => cases h; simp; exact .nil
  | cons v vs ih =>
    cases h with
    | cons h hs =>
      cases n with
      | zero => exact .cons h hs
      | succ n => exact ih n hs
theorem Dats.of_get {vs : List V} {ds : List D} (hl : vs.length = ds.length) (h : ∀ (i : Nat) (v : V) (d : D), vs[i]? = some v → ds[i]? = some d → Dat C H v d) : Dats C H vs ds := by
  induction vs generalizing ds with
  | nil => cases ds with | nil => exact .nil | cons _ _ => simp at hl
  | cons v vs ih =>
    cases ds with
    | nil => simp at hl
    | cons d ds =>
      exact .cons (h 0 v d rfl rfl) (ih (by simpa using hl) fun i v' d' h1 h2 => h (i + 1) v' d' (by simpa using h1) (by simpa using h2))
theorem Dats.ints {ns : List Int} : Dats C H (ns.map V.int) (ns.map D.int) := by
  induction ns with
  | nil => exact .nil
  | cons n ns ih => exact .cons (.int n) ih
theorem Dats.strs {xs : List (List Nat)} : Dats C H (xs.map sv) (xs.map D.str) := by
  induction xs with
  | nil => exact .nil
  | cons n ns ih => exact .cons (.str n) ih
end
/-! ### a heap with a hidden part -/
noncomputable def hid (H : Hp) (Z : Addr → Prop) : Hp := fun a => open Classical in if Z a then none else H a
section
variable {H H' : Hp} {Z Z' : Addr → Prop} {a : Addr} {o : HO}
theorem hid_some : hid H Z a = some o ↔ ¬ Z a ∧ H a = some o := by
  unfold hid
  by_cases h : Z a
  · simp [h]
  · simp [h]
theorem hid_out (h : ¬ Z a) : hid H Z a = H a := by unfold hid; simp [h]
theorem hid_in (h : Z a) : hid H Z a = none := by unfold hid; simp [h]
theorem hid_sub : Same (hid H Z) H := fun b o h => (hid_some.mp h).2
theorem hid_mono (e : Same H H') (k : ∀ a o, H a = some o → Z' a → Z a) : Same (hid H Z) (hid H' Z') := fun b o h => by
  obtain ⟨h1, h2⟩ := hid_some.mp h
  exact hid_some.mpr ⟨fun z => h1 (k b o h2 z), e b o h2⟩
theorem hid_upd (h : Z a) : hid (upd H a o) Z = hid H Z := by
  funext b
  unfold hid
  by_cases hb : Z b
  · simp [hb]
  · have : b ≠ a := fun e => hb (e ▸ h)
    simp [hb, upd_ne this]
theorem Same.upd {p : Addr} (h : H p = none) : Same H (upd H p o) := fun b u e => by
  rw [upd_ne (ne_of_none e h)]; exact e
end
/-! ### owned trees -/
inductive T where
  | sh (d : D)
  | lst (ts : List T) | tup (ts : List T)
  | ins (c : Str) (ns : List Str) (ts : List T) | dic (ks : List Key) (ts : List T)
  deriving Inhabited
mutual
@[simp] def T.d : T → D
  | .sh d => d
  | .lst ts => .lst (T.ds ts)
  | .tup ts => .tup (T.ds ts)
  | .ins c ns ts => .ins c ns (T.ds ts)
  | .dic ks ts => .dic ks (T.ds ts)
@[simp] def T.ds : List T → List D
  | [] => []
  | t :: ts => t.d :: T.ds ts
end
theorem T.ds_eq : ∀ ts : List T, T.ds ts = ts.map T.d
  | [] => rfl
  | t :: ts => by rw [T.ds, T.ds_eq ts]; rfl
theorem T.ds_sh (ds : List D) : T.ds (ds.map T.sh) = ds := by
  rw [T.ds_eq, List.map_map]
  have : T.d ∘ T.sh = id := rfl
  rw [this, List.map_id]
theorem T.ds_append (a b : List T) : T.ds (a ++ b) = T.ds a ++ T.ds b := by rw [T.ds_eq, T.ds_eq, T.ds_eq, List.map_append]
mutual
inductive Own (C : Cfg) (F H : Hp) : V → T → List Addr → Prop
  | sh {v : V} {d : D} : Dat C F v d → Own C F H v (.sh d) []
  | lst {a : Addr} {vs : List V} {ts : List T} {As : List Addr} : H a = some (.lst vs) → Owns C F H vs ts As → Own C F H (.ref a) (.lst ts) (a :: As)
  | tup {a : Addr} {vs : List V} {ts : List T} {As : List Addr} : F a = some (.tup vs) → Owns C F H vs ts As → Own C F H (.ref a) (.tup ts) As
  | ins {a A dx : Addr} {c : Str} {ns : List Str} {vs : List V} {ts : List T} {As : List Addr} : H a = some (.ins A dx (ns.zip vs)) → C.mg c = some (.ref A) → Owns C F H vs ts As → ns.length = ts.length → Own C F H (.ref a) (.ins c ns ts) (a :: As)
  | dic {a : Addr} {ks : List Key} {vs : List V} {ts : List T} {As : List Addr} : H a = some (.dK (ks.zip vs)) → Owns C F H vs ts As → ks.length = ts.length → Own C F H (.ref a) (.dic ks ts) (a :: As)
inductive Owns (C : Cfg) (F H : Hp) : List V → List T → List Addr → Prop
  | nil : Owns C F H [] [] []
  | cons {v : V} {vs : List V} {t : T} {ts : List T} {As Bs : List Addr} : Own C F H v t As → Owns C F H vs ts Bs → Owns C F H (v :: vs) (t :: ts) (As ++ Bs)
end
section
variable {C : Cfg} {F F' H H' : Hp}
mutual
theorem Own.mono (e : Same F F') : ∀ {v : V} {t : T} {As : List Addr}, (∀ a, a ∈ As → H' a = H a) → Own C F H v t As → Own C F' H' v t As
  | _, _, _, _, .sh h => .sh (h.mono e)
  | _, _, _, k, .lst h hs => .lst ((k _ (List.mem_cons_self ..)).trans h) (Owns.mono e (fun a m => k a (List.mem_cons_of_mem _ m)) hs)
  | _, _, _, k, .tup h hs => .tup (e _ _ h) (Owns.mono e k hs)
  | _, _, _, k, .ins h hm hs hl => .ins ((k _ (List.mem_cons_self ..)).trans h) hm (Owns.mono e (fun a m => k a (List.mem_cons_of_mem _ m)) hs) hl
  | _, _, _, k, .dic h hs hl => .dic ((k _ (List.mem_cons_self ..)).trans h) (Owns.mono e (fun a m => k a (List.mem_cons_of_mem _ m)) hs) hl
theorem Owns.mono (e : Same F F') : ∀ {vs : List V} {ts : List T} {As : List Addr}, (∀ a, a ∈ As → H' a = H a) → Owns C F H vs ts As → Owns C F' H' vs ts As
  | _, _, _, _, .nil => .nil
  | _, _, _, k, .cons h hs => .cons (Own.mono e (fun a m => k a (List.mem_append_left _ m)) h) (Owns.mono e (fun a m => k a (List.mem_append_right _ m)) hs)
end
mutual
theorem Own.dat (e : Same F H') : ∀ {v : V} {t : T} {As : List Addr}, (∀ a o, a ∈ As → H a = some o → H' a = some o) → Own C F H v t As → Dat C H' v t.d
  | _, _, _, _, .sh h => h.mono e
  | _, _, _, k, .lst h hs => .lst (k _ _ (List.mem_cons_self ..) h) (Owns.dat e (fun a o m => k a o (List.mem_cons_of_mem _ m)) hs)
  | _, _, _, k, .tup h hs => .tup (e _ _ h) (Owns.dat e k hs)
  | _, _, _, k, .ins h hm hs hl => .ins (k _ _ (List.mem_cons_self ..) h) hm (Owns.dat e (fun a o m => k a o (List.mem_cons_of_mem _ m)) hs) (by rw [hl, T.ds_eq, List.length_map])
  | _, _, _, k, .dic h hs hl => .dic (k _ _ (List.mem_cons_self ..) h) (Owns.dat e (fun a o m => k a o (List.mem_cons_of_mem _ m)) hs) (by rw [hl, T.ds_eq, List.length_map])
theorem Owns.dat (e : Same F H') : ∀ {vs : List V} {ts : List T} {As : List Addr}, (∀ a o, a ∈ As → H a = some o → H' a = some o) → Owns C F H vs ts As → Dats C H' vs (T.ds ts)
  | _, _, _, _, .nil => .nil
  | _, _, _, k, .cons h hs => .cons (Own.dat e (fun a o m => k a o (List.mem_append_left _ m)) h) (Owns.dat e (fun a o m => k a o (List.mem_append_right _ m)) hs)
end
mutual
theorem Own.live : ∀ {v : V} {t : T} {As : List Addr}, Own C F H v t As → ∀ a, a ∈ As → ∃ o, H a = some o
  | _, _, _, .sh _, _, m => by cases m
  | _, _, _, .lst h hs, a, m => by
    rcases List.mem_cons.mp m with rfl | m
    · exact ⟨_, h⟩
    · exact Owns.live hs a m
  | _, _, _, .tup h hs, a, m => Owns.live hs a m
  | _, _, _, .ins h _ hs _, a, m => by
    rcases List.mem_cons.mp m with rfl | m
    · exact ⟨_, h⟩
    · exact Owns.live hs a m
  | _, _, _, .dic h hs _, a, m => by
    rcases List.mem_cons.mp m with rfl | m
    · exact ⟨_, h⟩
    · exact Owns.live hs a m
theorem Owns.live : ∀ {vs : List V} {ts : List T} {As : List Addr}, Owns C F H vs ts As → ∀ a, a ∈ As → ∃ o, H a = some o
  | _, _, _, .nil, _, m => by cases m
  | _, _, _, .cons h hs, a, m => by
    rcases List.mem_append.mp m with m | m
    · exact Own.live h a m
    · exact Owns.live hs a m
end
theorem Owns.length {vs : List V} {ts : List T} {As : List Addr} (h : Owns C F H vs ts As) : vs.length = ts.length := by
  induction vs generalizing ts As with
  | nil => cases h; rfl
  | cons v vs ih => cases h with | cons h hs => simp [ih hs]
theorem Owns.shs {vs : List V} {ds : List D} (h : Dats C F vs ds) : Owns C F H vs (ds.map T.sh) [] := by
  induction vs generalizing ds with
  | nil => cases h; exact .nil
  | cons v vs ih => cases h with | cons h hs => exact .cons (As := []) (.sh h) (ih hs)
theorem Owns.append {vs us : List V} {ts ss : List T} {As Bs : List Addr} (h : Owns C F H vs ts As) (k : Owns C F H us ss Bs) : Owns C F H (vs ++ us) (ts ++ ss) (As ++ Bs) := by
  induction vs generalizing ts As with
  | nil => cases h; exact k
  | cons v vs ih =>
    cases h with
    | cons h hs =>
      rw [List.append_assoc]
      exact .cons h (ih hs)
end
end Eng
/-! Eng B: slots, what an evaluation leaves, promises of pure operations. -/
namespace Eng
open PySem L2
/-- no tuple: what may be hidden -/
def nTup (H : Hp) (a : Addr) : Prop := ∃ o, H a = some o ∧ ∀ xs, o ≠ .tup xs
theorem nTup.mono {H H' : Hp} {a : Addr} (e : Same H H') (h : nTup H a) : nTup H' a := let ⟨o, h1, h2⟩ := h; ⟨o, e _ _ h1, h2⟩
mutual
def noL : D → Bool
  | .non | .bl _ | .int _ | .str _ => true
  | .tup xs => noLs xs
  | .lst _ | .scr _ | .ins .. | .dic .. => false
def noLs : List D → Bool
  | [] => true
  | x :: xs => noL x && noLs xs
end
section
variable {C : Cfg} {H : Hp} {Z : Addr → Prop}
mutual
theorem Dat.hide (z : ∀ a, Z a → nTup H a) : ∀ {v : V} {d : D}, noL d = true → Dat C H v d → Dat C (hid H Z) v d
  | _, _, _, .non => .non
  | _, _, _, .bl b => .bl b
  | _, _, _, .int i => .int i
  | _, _, _, .str s => .str s
  | _, _, n, .scr h => by cases n
  | _, _, n, .lst h hs => by cases n
  | _, _, n, .tup h hs => .tup (hid_some.mpr ⟨fun q => by obtain ⟨o, h1, h2⟩ := z _ q; rw [h] at h1; cases h1; exact h2 _ rfl, h⟩) (Dats.hide z n hs)
  | _, _, n, .ins h hm hs hl => by cases n
  | _, _, n, .dic h hs hl => by cases n
theorem Dats.hide (z : ∀ a, Z a → nTup H a) : ∀ {vs : List V} {ds : List D}, noLs ds = true → Dats C H vs ds → Dats C (hid H Z) vs ds
  | _, _, _, .nil => .nil
  | _, _, n, .cons h hs => by
    have n' := Bool.and_eq_true_iff.mp n
    exact .cons (Dat.hide z n'.1 h) (Dats.hide z n'.2 hs)
end
end
/-! ### what an evaluation leaves -/
def Zp (Z : Addr → Prop) (As : List Addr) : Addr → Prop := fun a => Z a ∨ a ∈ As
structure Post (C : Cfg) (Z : Addr → Prop) (H : Hp) (t : T) (al : Bool) (As : List Addr) (v : V) (H' : Hp) : Prop where
  same : Same H H'
  nd : As.Nodup
  new : ∀ a, a ∈ As → H a = none ∧ nTup H' a
  dat : Dat C H' v t.d
  own : al = true → Own C (hid H' (Zp Z As)) H' v t As
structure Posts (C : Cfg) (Z : Addr → Prop) (H : Hp) (ts : List T) (al : Bool) (As : List Addr) (vs : List V) (H' : Hp) : Prop where
  same : Same H H'
  nd : As.Nodup
  new : ∀ a, a ∈ As → H a = none ∧ nTup H' a
  dat : Dats C H' vs (T.ds ts)
  own : al = true → Owns C (hid H' (Zp Z As)) H' vs ts As
section
variable {C : Cfg} {H H0 H1 H2 H' : Hp} {Z Z' : Addr → Prop} {t : T} {ts : List T} {al al' : Bool} {v : V} {vs : List V} {d : D} {ds : List D} {As Bs : List Addr}
theorem Zp_nil : Zp Z [] = Z := by funext a; simp [Zp]
theorem Zp_app : Zp (Zp Z As) Bs = Zp Z (As ++ Bs) := by funext a; simp [Zp, or_assoc]
theorem Post.back (e : Same H0 H) (h : Post C Z H t al As v H') : Post C Z H0 t al As v H' :=
  ⟨e.trans h.same, h.nd, fun a m => ⟨e.free (h.new a m).1, (h.new a m).2⟩, h.dat, h.own⟩
theorem Posts.back (e : Same H0 H) (h : Posts C Z H ts al As vs H') : Posts C Z H0 ts al As vs H' :=
  ⟨e.trans h.same, h.nd, fun a m => ⟨e.free (h.new a m).1, (h.new a m).2⟩, h.dat, h.own⟩
theorem Post.weak (h : Post C Z H t al As v H') (k : al' = true → al = true) : Post C Z H t al' As v H' := ⟨h.same, h.nd, h.new, h.dat, fun a => h.own (k a)⟩
theorem Post.sh (h : Dat C H v d) (k : al = true → Dat C (hid H Z) v d) : Post C Z H (.sh d) al [] v H :=
  ⟨Same.refl H, List.nodup_nil, (fun _ m => by cases m), h, fun a => by rw [Zp_nil]; exact .sh (k a)⟩
theorem Post.sh' (e : Same H H') (h : Dat C H' v d) (k : al = true → Dat C (hid H' Z) v d) : Post C Z H (.sh d) al [] v H' := (Post.sh h k).back e
/-- a result without lists -/
theorem Post.no (z : ∀ a, Z a → nTup H a) (h : Dat C H v d) (n : noL d = true) : Post C Z H (.sh d) al [] v H := Post.sh h fun _ => h.hide z n
/-- owned parts, let go -/
theorem own_dat {As : List Addr} (hn : ∀ a, a ∈ As → ¬ Z a) (o : Own C (hid H' (Zp Z As)) H' v t As) : Dat C (hid H' Z) v t.d :=
  o.dat (hid_mono (Same.refl _) fun b o _ q => .inl q) fun b o m e => hid_some.mpr ⟨hn b m, e⟩
theorem owns_dat {As : List Addr} (hn : ∀ a, a ∈ As → ¬ Z a) (o : Owns C (hid H' (Zp Z As)) H' vs ts As) : Dats C (hid H' Z) vs (T.ds ts) :=
  o.dat (hid_mono (Same.refl _) fun b o _ q => .inl q) fun b o m e => hid_some.mpr ⟨hn b m, e⟩
theorem Post.nZ (z : ∀ a, Z a → nTup H a) (h : Post C Z H t al As v H') : ∀ a, a ∈ As → ¬ Z a := fun a m q => by
  obtain ⟨o, h1, _⟩ := z a q
  rw [(h.new a m).1] at h1; cases h1
theorem Posts.nZ (z : ∀ a, Z a → nTup H a) (h : Posts C Z H ts al As vs H') : ∀ a, a ∈ As → ¬ Z a := fun a m q => by
  obtain ⟨o, h1, _⟩ := z a q
  rw [(h.new a m).1] at h1; cases h1
theorem Post.dh (z : ∀ a, Z a → nTup H a) (h : Post C Z H t al As v H') (a : al = true) : Dat C (hid H' Z) v t.d := own_dat (h.nZ z) (h.own a)
theorem Post.frz (z : ∀ a, Z a → nTup H a) (h : Post C Z H t al As v H') : Post C Z H (.sh t.d) al [] v H' := Post.sh' h.same h.dat fun a => h.dh z a
theorem Posts.dh (z : ∀ a, Z a → nTup H a) (h : Posts C Z H ts al As vs H') (a : al = true) : Dats C (hid H' Z) vs (T.ds ts) := owns_dat (h.nZ z) (h.own a)
theorem Posts.nil : Posts C Z H [] al [] [] H := ⟨Same.refl H, List.nodup_nil, (fun _ m => by cases m), .nil, fun _ => .nil⟩
theorem Zp_tup (z : ∀ a, Z a → nTup H a) (e : Same H H') (k : ∀ a, a ∈ As → nTup H' a) : ∀ a, Zp Z As a → nTup H' a := fun a q => q.elim (fun q => (z a q).mono e) (k a)
theorem own_step (hB : ∀ a, a ∈ Bs → H1 a = none) (e : Same H1 H2) (o : Own C (hid H1 (Zp Z As)) H1 v t As) : Own C (hid H2 (Zp Z (As ++ Bs))) H2 v t As := by
  refine o.mono (hid_mono e fun a o h q => ?_) fun a m => ?_
  · rcases q with q | q
    · exact .inl q
    · rcases List.mem_append.mp q with q | q
      · exact .inr q
      · rw [hB a q] at h; cases h
  · obtain ⟨o, h⟩ := o.live a m
    rw [h, e _ _ h]
theorem Posts.cons (h : Post C Z H t al As v H1) (k : Posts C (Zp Z As) H1 ts al' Bs vs H2) : Posts C Z H (t :: ts) (al && al') (As ++ Bs) (v :: vs) H2 := by
  refine ⟨h.same.trans k.same, List.nodup_append.mpr ⟨h.nd, k.nd, fun x hx y hy e => ?_⟩, fun a m => ?_, .cons (h.dat.mono k.same) k.dat, fun a => ?_⟩
  · subst e
    obtain ⟨o, q, _⟩ := (h.new x hx).2
    rw [(k.new x hy).1] at q; cases q
  · rcases List.mem_append.mp m with m | m
    · exact ⟨(h.new a m).1, (h.new a m).2.mono k.same⟩
    · exact ⟨h.same.free (k.new a m).1, (k.new a m).2⟩
  · have a := Bool.and_eq_true_iff.mp a
    have k2 := k.own a.2
    rw [Zp_app] at k2
    exact .cons (own_step (fun a m => (k.new a m).1) k.same (h.own a.1)) k2
theorem fresh_nd {p : Addr} (hp : H p = none) : ∀ a, a ∈ [p] → H a = none := fun a m => by
  have : a = p := by simpa using m
  rw [this]; exact hp
/-- a new list, a new tuple of what was reckoned -/
theorem Posts.newL (h : Posts C Z H ts al As vs H1) {p : Addr} (hp : H1 p = none) : Post C Z H (.lst ts) al (p :: As) (.ref p) (upd H1 p (.lst vs)) := by
  have e : Same H1 (upd H1 p (.lst vs)) := Same.upd hp
  have nA : p ∉ As := fun m => by obtain ⟨o, q, _⟩ := (h.new p m).2; rw [hp] at q; cases q
  refine ⟨h.same.trans e, List.nodup_cons.mpr ⟨nA, h.nd⟩, fun a m => ?_, .lst upd_same (h.dat.mono e), fun a => .lst upd_same ?_⟩
  · rcases List.mem_cons.mp m with rfl | m
    · exact ⟨h.same.free hp, _, upd_same, fun _ q => nomatch q⟩
    · exact ⟨(h.new a m).1, (h.new a m).2.mono e⟩
  · refine (h.own a).mono (hid_mono e fun b o q z => ?_) fun b m => upd_ne fun q => nA (q ▸ m)
    rcases z with z | z
    · exact .inl z
    · rcases List.mem_cons.mp z with rfl | z
      · rw [hp] at q; cases q
      · exact .inr z
theorem Posts.newT (z : ∀ a, Z a → nTup H a) (h : Posts C Z H ts al As vs H1) {p : Addr} (hp : H1 p = none) : Post C Z H (.tup ts) al As (.ref p) (upd H1 p (.tup vs)) := by
  have e : Same H1 (upd H1 p (.tup vs)) := Same.upd hp
  have nA : p ∉ As := fun m => by obtain ⟨o, q, _⟩ := (h.new p m).2; rw [hp] at q; cases q
  refine ⟨h.same.trans e, h.nd, fun a m => ⟨(h.new a m).1, (h.new a m).2.mono e⟩, .tup upd_same (h.dat.mono e), fun a => .tup (hid_some.mpr ⟨fun q => ?_, upd_same⟩) ?_⟩
  · rcases q with q | q
    · obtain ⟨o, q1, _⟩ := (z p q).mono h.same; rw [hp] at q1; cases q1
    · exact nA q
  · exact (h.own a).mono (hid_mono e fun b o _ z => z) fun b m => upd_ne fun q => nA (q ▸ m)
/-- a new list of shared data -/
theorem Post.newS (h : Dats C H vs ds) (k : al = true → Dats C (hid H Z) vs ds) {p : Addr} (hp : H p = none) : Post C Z H (.lst (ds.map .sh)) al [p] (.ref p) (upd H p (.lst vs)) := by
  have e : Same H (upd H p (.lst vs)) := Same.upd hp
  refine ⟨e, by simp, fun a m => ?_, .lst upd_same (by rw [T.ds_sh]; exact h.mono e), fun a => .lst upd_same (Owns.shs ((k a).mono (hid_mono e fun b o q z => ?_)))⟩
  · have : a = p := by simpa using m
    subst this
    exact ⟨hp, _, upd_same, fun _ q => nomatch q⟩
  · rcases z with z | z
    · exact z
    · have : b = p := by simpa using z
      subst this
      rw [hp] at q; cases q
/-- a new tuple of shared data -/
theorem Post.newU (z : ∀ a, Z a → nTup H a) (h : Dats C H vs ds) (k : al = true → Dats C (hid H Z) vs ds) {p : Addr} (hp : H p = none) : Post C Z H (.sh (.tup ds)) al [] (.ref p) (upd H p (.tup vs)) := by
  have e : Same H (upd H p (.tup vs)) := Same.upd hp
  refine Post.sh' e (.tup upd_same (h.mono e)) fun a => .tup (hid_some.mpr ⟨fun q => ?_, upd_same⟩) ((k a).mono (hid_mono e fun b o _ z => z))
  obtain ⟨o, q1, _⟩ := z p q; rw [hp] at q1; cases q1
end
/-! ### the promise of a pure operation -/
def rP (C : Cfg) (f : List D → Option T) : List V → Hp → VK → Prop := fun vs H Q => ∃ (ds : List D) (t : T) (Z : Addr → Prop) (al : Bool), Dats C H vs ds ∧ (al = true → Dats C (hid H Z) vs ds) ∧ (∀ a, Z a → nTup H a) ∧ f ds = some t ∧
  ∀ As v H', Post C Z H t al As v H' → Q v H'
def pureSp (C : Cfg) (F : List D → Option T) : Sp := fun vs H Q _ => rP C F vs H Q
theorem rP.imp {C : Cfg} {f g : List D → Option T} {vs : List V} {H : Hp} {Q : VK} (k : ∀ ds t, f ds = some t → g ds = some t) (h : rP C f vs H Q) : rP C g vs H Q := by
  obtain ⟨ds, t, Z, al, h1, h2, h3, h4, h5⟩ := h
  exact ⟨ds, t, Z, al, h1, h2, h3, k ds t h4, h5⟩
/-! ### slots -/
abbrev Rho := List (Option T)
def ZZ (B : Addr → Prop) (AA : Nat → List Addr) : Addr → Prop := fun a => B a ∨ ∃ i, a ∈ AA i
structure Rep (C : Cfg) (H0 : Hp) (B : Addr → Prop) (AA : Nat → List Addr) (H : Hp) (σ : L2.St) (ρ : Rho) : Prop where
  same : Same H0 H
  bs : ∀ a, B a → nTup H a
  new : ∀ i a, a ∈ AA i → H0 a = none ∧ nTup H a ∧ ¬ B a
  nd : ∀ i, (AA i).Nodup
  dj : ∀ i j a, a ∈ AA i → a ∈ AA j → i = j
  slot : ∀ i t, ρ[i]? = some (some t) → ∃ v, σ[i]? = some (some v) ∧ Own C (hid H (ZZ B AA)) H v t (AA i)
  len : ρ.length = σ.length
section
variable {C : Cfg} {H0 H H' : Hp} {B : Addr → Prop} {AA : Nat → List Addr} {σ : L2.St} {ρ : Rho} {As : List Addr}
theorem Rep.z (R : Rep C H0 B AA H σ ρ) : ∀ a, ZZ B AA a → nTup H a := fun a q => q.elim (R.bs a) fun ⟨i, m⟩ => (R.new i a m).2.1
/-- the heap grows; some new nodes are hidden -/
theorem Rep.grow (R : Rep C H0 B AA H σ ρ) (e : Same H H') (k : ∀ a, a ∈ As → H a = none ∧ nTup H' a) : Rep C H0 (Zp B As) AA H' σ ρ := by
  refine ⟨R.same.trans e, fun a q => q.elim (fun q => (R.bs a q).mono e) fun m => (k a m).2, fun i a m => ⟨(R.new i a m).1, (R.new i a m).2.1.mono e, fun q => ?_⟩, R.nd, R.dj, fun i t h => ?_, R.len⟩
  · rcases q with q | q
    · exact (R.new i a m).2.2 q
    · obtain ⟨o, h, _⟩ := (R.new i a m).2.1
      rw [(k a q).1] at h; cases h
  · obtain ⟨v, h1, h2⟩ := R.slot i t h
    refine ⟨v, h1, h2.mono (hid_mono e fun a o h q => ?_) fun a m => ?_⟩
    · rcases q with (q | q) | q
      · exact .inl q
      · rw [(k a q).1] at h; cases h
      · exact .inr q
    · obtain ⟨o, h⟩ := h2.live a m
      rw [h, e _ _ h]
theorem ZZ_Zp : ZZ (Zp B As) AA = Zp (ZZ B AA) As := by
  funext a
  simp only [ZZ, Zp, eq_iff_iff]
  constructor
  · rintro ((h | h) | h)
    · exact .inl (.inl h)
    · exact .inr h
    · exact .inl (.inr h)
  · rintro ((h | h) | h)
    · exact .inl (.inl h)
    · exact .inr h
    · exact .inl (.inr h)
theorem Rep.mono (R : Rep C H0 B AA H σ ρ) (e : Same H H') : Rep C H0 B AA H' σ ρ := by
  have := R.grow (As := []) e fun _ m => by cases m
  rwa [Zp_nil] at this
end
end Eng
/-! Eng C: the pure operations and their rules. -/
namespace Eng
open PySem L2
abbrev SZ : Nat := 16777216
theorem sz_eq : sizeLine = SZ := by decide
abbrev st (s : List Nat) : Str := ⟨s.toArray⟩
theorem st_len (s : List Nat) : (st s).length = s.length := TL.len_tl _
theorem st_app (a b : List Nat) : st a ++ st b = st (a ++ b) := TL.ext_tl (by rw [TL.tl_append])
theorem st_tl (x : Str) : st (TL.tl x) = x := TL.mk_tl x
theorem st_inj {a b : List Nat} (h : st a = st b) : a = b := by
  exact congrArg TL.tl h
abbrev txt (x : Str) : D := .str x.cps.toList
theorem Dat.txt {C : Cfg} {H : Hp} (x : Str) : Dat C H (.str x) (txt x) := by
  have := Dat.str (C := C) (H := H) x.cps.toList
  have e : sv x.cps.toList = V.str x := congrArg V.str (st_tl x)
  rwa [e] at this
section
variable {C : Cfg} {H : Hp} {v x y z : V} {vs : List V} {ds : List D} {d : D}
theorem Dats.one (h : Dats C H [x] ds) : ∃ d, ds = [d] ∧ Dat C H x d := by
  cases h with | cons h hs => cases hs; exact ⟨_, rfl, h⟩
theorem Dats.two (h : Dats C H [x, y] ds) : ∃ d e, ds = [d, e] ∧ Dat C H x d ∧ Dat C H y e := by
  cases h with | cons h hs => obtain ⟨e, rfl, k⟩ := hs.one; exact ⟨_, _, rfl, h, k⟩
theorem Dats.three (h : Dats C H [x, y, z] ds) : ∃ d e f, ds = [d, e, f] ∧ Dat C H x d ∧ Dat C H y e ∧ Dat C H z f := by
  cases h with | cons h hs => obtain ⟨e, f, rfl, k⟩ := hs.two; exact ⟨_, _, _, rfl, h, k⟩
theorem Dat.vint {i : Int} (h : Dat C H v (.int i)) : v = .int i := by cases h; rfl
theorem Dat.vbl {b : Bool} (h : Dat C H v (.bl b)) : v = .bl b := by cases h; rfl
theorem Dat.vstr {s : List Nat} (h : Dat C H v (.str s)) : v = sv s := by cases h; rfl
theorem Dat.vnon (h : Dat C H v .non) : v = .non := by cases h; rfl
end
/-! ### one tool: a rule by cases of the data -/
@[simp] def sc (d : D) : Option T := some (.sh d)
def iff (c : Prop) [Decidable c] (t : Option T) : Option T := if c then t else none
theorem iff_some {c : Prop} [Decidable c] {t : Option T} {u : T} (h : iff c t = some u) : c ∧ t = some u := by
  unfold iff at h
  split at h
  · exact ⟨by assumption, h⟩
  · cases h
theorem iff_pos {c : Prop} [Decidable c] {t : Option T} (h : c) : iff c t = t := by unfold iff; rw [if_pos h]
def strEq : List D → Option (List (List Nat))
  | [] => some []
  | .str s :: r => (strEq r).map (s :: ·)
  | _ => none
def intsOf : List D → Option (List Int)
  | [] => some []
  | .int s :: r => (intsOf r).map (s :: ·)
  | _ => none
def blsOf : List D → Option (List Bool)
  | [] => some []
  | .bl s :: r => (blsOf r).map (s :: ·)
  | _ => none
theorem strEq_map : ∀ xs : List (List Nat), strEq (xs.map .str) = some xs
  | [] => rfl
  | x :: xs => by show (strEq (xs.map .str)).map _ = _; rw [strEq_map xs]; rfl
theorem intsOf_map : ∀ xs : List Int, intsOf (xs.map .int) = some xs
  | [] => rfl
  | x :: xs => by show (intsOf (xs.map .int)).map _ = _; rw [intsOf_map xs]; rfl
theorem blsOf_map : ∀ xs : List Bool, blsOf (xs.map .bl) = some xs
  | [] => rfl
  | x :: xs => by show (blsOf (xs.map .bl)).map _ = _; rw [blsOf_map xs]; rfl
theorem strEq_vals {C : Cfg} {H : Hp} : ∀ {ds : List D} {vs : List V} {ss : List (List Nat)}, Dats C H vs ds → strEq ds = some ss → vs = (ss.map st).map V.str
  | [], _, _, .nil, e => by cases e; rfl
  | .str s :: r, _, ss, .cons h hs, e => by
    rw [h.vstr]
    unfold strEq at e
    cases q : strEq r with
    | none => rw [q] at e; cases e
    | some u => rw [q] at e; cases e; rw [strEq_vals hs q]; rfl
theorem intsOf_vals {C : Cfg} {H : Hp} : ∀ {ds : List D} {vs : List V} {ss : List Int}, Dats C H vs ds → intsOf ds = some ss → vs = ss.map V.int
  | [], _, _, .nil, e => by cases e; rfl
  | .int s :: r, _, ss, .cons h hs, e => by
    rw [h.vint]
    unfold intsOf at e
    cases q : intsOf r with
    | none => rw [q] at e; cases e
    | some u => rw [q] at e; cases e; rw [intsOf_vals hs q]; rfl
theorem blsOf_vals {C : Cfg} {H : Hp} : ∀ {ds : List D} {vs : List V} {ss : List Bool}, Dats C H vs ds → blsOf ds = some ss → vs = ss.map V.bl
  | [], _, _, .nil, e => by cases e; rfl
  | .bl s :: r, _, ss, .cons h hs, e => by
    rw [h.vbl]
    unfold blsOf at e
    cases q : blsOf r with
    | none => rw [q] at e; cases e
    | some u => rw [q] at e; cases e; rw [blsOf_vals hs q]; rfl
/-! ### data for == -/
mutual
def toPy : D → Option PyData
  | .non => some .none
  | .bl b => some (.bool b)
  | .int i => some (.int i)
  | .str s => some (.str (st s))
  | .lst xs => (toPys xs).map .list
  | .tup xs => (toPys xs).map .tuple
  | .scr ns => some (.list (ns.map .int))
  | .ins .. | .dic .. => none
def toPys : List D → Option (List PyData)
  | [] => some []
  | x :: xs => (toPy x).bind fun p => (toPys xs).map (p :: ·)
end
section
variable {C : Cfg} {H : Hp}
theorem dp_ints {K : PySem.W.Frag} : ∀ ns : List Int, DpAll K H (ns.map V.int) (ns.map PyData.int)
  | [] => .nil
  | n :: ns => .cons (.int n) (dp_ints ns)
mutual
theorem Dat.dp : ∀ {v : V} {d : D} {p : PyData}, Dat C H v d → toPy d = some p → Dp C.K H v p
  | _, _, _, .non, e => by cases e; exact .non
  | _, _, _, .bl b, e => by cases e; exact .bl b
  | _, _, _, .int i, e => by cases e; exact .int i
  | _, _, _, .str s, e => by cases e; exact .str _
  | _, _, _, .scr h, e => by cases e; exact .lst h (dp_ints _)
  | _, .lst ds, _, .lst h hs, e => by
    unfold toPy at e
    cases q : toPys ds with
    | none => rw [q] at e; cases e
    | some ps => rw [q] at e; cases e; exact .lst (SqL.of h) (Dats.dp hs q)
  | _, .tup ds, _, .tup h hs, e => by
    unfold toPy at e
    cases q : toPys ds with
    | none => rw [q] at e; cases e
    | some ps => rw [q] at e; cases e; exact .tup (SqT.of h) (Dats.dp hs q)
  | _, _, _, .ins h hm hs hl, e => by cases e
  | _, _, _, .dic h hs hl, e => by cases e
theorem Dats.dp : ∀ {vs : List V} {ds : List D} {ps : List PyData}, Dats C H vs ds → toPys ds = some ps → DpAll C.K H vs ps
  | _, _, _, .nil, e => by cases e; exact .nil
  | _, d :: ds, _, .cons h hs, e => by
    unfold toPys at e
    cases q : toPy d with
    | none => rw [q] at e; cases e
    | some p =>
      rw [q] at e
      cases q2 : toPys ds with
      | none => rw [q2] at e; cases e
      | some ps => rw [q2] at e; cases e; exact .cons (Dat.dp h q) (Dats.dp hs q2)
end
end
/-- == of data; none where the model says nothing -/
def eqD (a b : D) : Option Bool := (toPy a).bind fun p => (toPy b).bind fun q => if SeqAt.shaped p = true ∧ SeqAt.shaped q = true then some (PyData.eqv p q) else none
/-! ### operators -/
def i2 (f : Int → Int → Option T) : List D → Option T := fun xs => match xs with | [.int i, .int j] => f i j | _ => none
def s2 (f : List Nat → List Nat → Option T) : List D → Option T := fun xs => match xs with | [.str i, .str j] => f i j | _ => none
def l2 (f : List D → List D → Option T) : List D → Option T := fun xs => match xs with | [.lst i, .lst j] => f i j | _ => none
def si (f : List Nat → Int → Option T) : List D → Option T := fun xs => match xs with | [.str i, .int j] => f i j | _ => none
def li (f : List D → Int → Option T) : List D → Option T := fun xs => match xs with | [.lst i, .int j] => f i j | _ => none
def i1 (f : Int → Option T) : List D → Option T := fun xs => match xs with | [.int i] => f i | _ => none
def b1 (f : Bool → Option T) : List D → Option T := fun xs => match xs with | [.bl i] => f i | _ => none
def s1 (f : List Nat → Option T) : List D → Option T := fun xs => match xs with | [.str i] => f i | _ => none
def orE (f g : List D → Option T) : List D → Option T := fun xs => match f xs with | some t => some t | none => g xs
section
variable {f : Int → Int → Option T} {xs : List D} {t : T}
theorem i2_inv (h : i2 f xs = some t) : ∃ i j, xs = [.int i, .int j] ∧ f i j = some t := by
  unfold i2 at h; split at h
  · exact ⟨_, _, rfl, h⟩
  · cases h
theorem s2_inv {f : List Nat → List Nat → Option T} (h : s2 f xs = some t) : ∃ i j, xs = [.str i, .str j] ∧ f i j = some t := by
  unfold s2 at h; split at h
  · exact ⟨_, _, rfl, h⟩
  · cases h
theorem l2_inv {f : List D → List D → Option T} (h : l2 f xs = some t) : ∃ i j, xs = [.lst i, .lst j] ∧ f i j = some t := by
  unfold l2 at h; split at h
  · exact ⟨_, _, rfl, h⟩
  · cases h
theorem si_inv {f : List Nat → Int → Option T} (h : si f xs = some t) : ∃ i j, xs = [.str i, .int j] ∧ f i j = some t := by
  unfold si at h; split at h
  · exact ⟨_, _, rfl, h⟩
  · cases h
theorem li_inv {f : List D → Int → Option T} (h : li f xs = some t) : ∃ i j, xs = [.lst i, .int j] ∧ f i j = some t := by
  unfold li at h; split at h
  · exact ⟨_, _, rfl, h⟩
  · cases h
theorem i1_inv {f : Int → Option T} (h : i1 f xs = some t) : ∃ i, xs = [.int i] ∧ f i = some t := by
  unfold i1 at h; split at h
  · exact ⟨_, rfl, h⟩
  · cases h
theorem b1_inv {f : Bool → Option T} (h : b1 f xs = some t) : ∃ i, xs = [.bl i] ∧ f i = some t := by
  unfold b1 at h; split at h
  · exact ⟨_, rfl, h⟩
  · cases h
theorem s1_inv {f : List Nat → Option T} (h : s1 f xs = some t) : ∃ i, xs = [.str i] ∧ f i = some t := by
  unfold s1 at h; split at h
  · exact ⟨_, rfl, h⟩
  · cases h
theorem orE_inv {f g : List D → Option T} (h : orE f g xs = some t) : f xs = some t ∨ g xs = some t := by
  unfold orE at h; split at h
  · rename_i q; cases h; exact .inl q
  · exact .inr h
end
def mulStr (a : List Nat) (k : Int) : List Nat := (List.replicate k.toNat a).flatten
def addD : List D → Option T :=
  orE (i2 fun i j => sc (.int (i + j))) (orE (s2 fun a b => iff (a.length + b.length ≤ SZ) (sc (.str (a ++ b)))) (l2 fun a b => iff (a.length + b.length ≤ SZ) (some (.lst ((a ++ b).map .sh)))))
def mulD : List D → Option T :=
  orE (i2 fun i j => iff ((-(2 ^ 64) < i ∧ i < 2 ^ 64) ∨ (-(2 ^ 64) < j ∧ j < 2 ^ 64)) (sc (.int (i * j))))
    (orE (si fun a k => iff (-(2 ^ 63) < k ∧ k < 2 ^ 63 ∧ a.length * k.toNat ≤ SZ) (sc (.str (mulStr a k)))) (li fun a k => iff (-(2 ^ 63) ≤ k ∧ k < 2 ^ 63 ∧ a.length * k.toNat ≤ SZ) (some (.lst ((List.replicate k.toNat a).flatten.map .sh)))))
def binD (op : Operator) : List D → Option T :=
  match op with
  | .Add => addD
  | .Mult => mulD
  | .Sub => i2 fun i j => sc (.int (i - j))
  | .Mod => i2 fun i j => iff (0 < j) (sc (.int (i % j)))
  | .FloorDiv => i2 fun i j => iff (0 < j ∧ j < 1073741824) (sc (.int (i / j)))
  | .Pow => i2 fun i j => iff (0 ≤ j ∧ j ≤ 1000000 ∧ i.natAbs < 2 ^ 64) (sc (.int (i ^ j.toNat)))
  | .LShift => i2 fun i j => iff (0 ≤ j ∧ j ≤ 1000000 ∧ i.natAbs < 2 ^ 64) (sc (.int (i * 2 ^ j.toNat)))
  | .RShift => i2 fun i j => iff (0 ≤ j) (sc (.int (i / 2 ^ j.toNat)))
  | .BitAnd => i2 fun i j => sc (.int (Builtin.bitAnd i j))
  | .BitOr => i2 fun i j => sc (.int (Builtin.bitOr i j))
  | _ => fun _ => none
theorem OpR.imp {X : Cx} {f : Value → Value → Sem Value} {r r' : R2} (h : OpR X f r) (k : ∀ x y H Q, r' x y H Q → r x y H Q) : OpR X f r' :=
  fun pins s σ H x y v u Q I rx ry q => h pins s σ H x y v u Q I rx ry (k _ _ _ _ q)
section
variable {X : Cx} {C : Cfg} {H : Hp}
theorem rP.orE {f g : List D → Option T} {vs : List V} {Q : VK} (h : rP C (orE f g) vs H Q) : rP C f vs H Q ∨ rP C g vs H Q := by
  obtain ⟨ds, t, Z, al, h1, h2, h3, h4, h5⟩ := h
  rcases orE_inv h4 with q | q
  · exact .inl ⟨ds, t, Z, al, h1, h2, h3, q, h5⟩
  · exact .inr ⟨ds, t, Z, al, h1, h2, h3, q, h5⟩
theorem OpR.orE {f : Value → Value → Sem Value} {g g' : List D → Option T} (h : OpR X f (fun x y H Q => rP C g [x, y] H Q)) (h' : OpR X f (fun x y H Q => rP C g' [x, y] H Q)) : OpR X f (fun x y H Q => rP C (orE g g') [x, y] H Q) :=
  OpR.imp (h.or h') fun _ _ _ _ q => q.orE
/-- a result without new objects -/
theorem rP.sc {f : List D → Option T} {vs : List V} {Q : VK} (h : rP C f vs H Q) : ∃ ds t, Dats C H vs ds ∧ f ds = some t ∧ ∀ v g, t = .sh g → noL g = true → Dat C H v g → Q v H := by
  obtain ⟨ds, t, Z, al, h1, h2, h3, h4, h5⟩ := h
  exact ⟨ds, t, h1, h4, fun v g e n hd => by subst e; exact h5 _ _ _ (Post.no h3 hd n)⟩
/-- a new list of what was there -/
theorem rP.newL {f : List D → Option T} {vs : List V} {Q : VK} (h : rP C f vs H Q) : ∃ ds t, Dats C H vs ds ∧ f ds = some t ∧
    ∀ us gs, t = .lst (gs.map .sh) → (∀ H', Same H' H → Dats C H' vs ds → Dats C H' us gs) → ∀ p, H p = none → Q (.ref p) (upd H p (.lst us)) := by
  obtain ⟨ds, t, Z, al, h1, h2, h3, h4, h5⟩ := h
  exact ⟨ds, t, h1, h4, fun us gs e k p hp => by subst e; exact h5 _ _ _ (Post.newS (k _ (Same.refl _) h1) (fun a => k _ hid_sub (h2 a)) hp)⟩
theorem op_i2 {f : Value → Value → Sem Value} {c : Int → Int → Prop} {g : Int → Int → Int} {ff : Int → Int → Option T} (h : OpR X f (rI c fun i j => .int (g i j))) (hf : ∀ i j t, ff i j = some t → c i j ∧ t = .sh (.int (g i j))) :
    OpR X f (fun x y H Q => rP C (i2 ff) [x, y] H Q) := OpR.imp h fun x y H Q q => by
  obtain ⟨ds, t, h1, h2, h3⟩ := q.sc
  obtain ⟨i, j, rfl, e⟩ := i2_inv h2
  obtain ⟨d, e', e2, k1, k2⟩ := h1.two
  cases e2
  obtain ⟨c1, rfl⟩ := hf i j t e
  exact ⟨i, j, k1.vint, k2.vint, c1, h3 _ _ rfl rfl (.int _)⟩
theorem op_i20 {f : Value → Value → Sem Value} {g : Int → Int → Int} {ff : Int → Int → Option T} (h : OpR X f (rI0 fun i j => .int (g i j))) (hf : ∀ i j t, ff i j = some t → t = .sh (.int (g i j))) :
    OpR X f (fun x y H Q => rP C (i2 ff) [x, y] H Q) := OpR.imp h fun x y H Q q => by
  obtain ⟨ds, t, h1, h2, h3⟩ := q.sc
  obtain ⟨i, j, rfl, e⟩ := i2_inv h2
  obtain ⟨d, e', e2, k1, k2⟩ := h1.two
  cases e2
  have := hf i j t e
  subst this
  exact ⟨i, j, k1.vint, k2.vint, h3 _ _ rfl rfl (.int _)⟩
theorem op_i2b {f : Value → Value → Sem Value} {g : Int → Int → Bool} {ff : Int → Int → Option T} (h : OpR X f (rI0 fun i j => .bl (g i j))) (hf : ∀ i j t, ff i j = some t → t = .sh (.bl (g i j))) :
    OpR X f (fun x y H Q => rP C (i2 ff) [x, y] H Q) := OpR.imp h fun x y H Q q => by
  obtain ⟨ds, t, h1, h2, h3⟩ := q.sc
  obtain ⟨i, j, rfl, e⟩ := i2_inv h2
  obtain ⟨d, e', e2, k1, k2⟩ := h1.two
  cases e2
  have := hf i j t e
  subst this
  exact ⟨i, j, k1.vint, k2.vint, h3 _ _ rfl rfl (.bl _)⟩
theorem op_none {f : Value → Value → Sem Value} : OpR X f (fun x y H Q => rP C (fun _ => none) [x, y] H Q) := fun pins s σ H x y v u Q I rx ry q => by
  obtain ⟨ds, t, h1, h2, h3⟩ := q.sc
  cases h2
theorem sc_inj {d : D} {t : T} (h : sc d = some t) : t = .sh d := (Option.some.inj h).symm
theorem mul_str_ok : OpR X (binaryOp .Mult) (fun x y H Q => ∃ (a : List Nat) (k : Int), x = sv a ∧ y = .int k ∧ -(2 ^ 63) < k ∧ k < 2 ^ 63 ∧ a.length * k.toNat ≤ SZ ∧ Q (sv (mulStr a k)) H) := by
  intro pins s σ H x y v u Q I rx ry h
  obtain ⟨a, k, rfl, rfl, k1, k2, k3, q⟩ := h
  obtain ⟨t, rfl⟩ := rx
  obtain ⟨t', rfl⟩ := ry
  have hlen : (st a).length = a.length := st_len a
  refine P.mul_str ?_ (fun h1 h2 => ?_) (fun h1 h2 => ?_) ?_
  · rw [decide_eq_false (by omega), decide_eq_false (by omega)]; rfl
  · rw [hlen]
    have hk : 0 < k := by omega
    have h5 : ¬ (a.length == 0) = true := fun z => by rw [hlen, z] at h2; simp at h2
    have h6 : 0 < a.length := by
      rcases Nat.eq_zero_or_pos a.length with z | z
      · rw [z] at h5; simp at h5
      · exact z
    intro h7
    have h8 : ((2 : Int) ^ 63 - 1) / k * k ≤ 2 ^ 63 - 1 := Int.ediv_mul_le _ (by omega)
    have h9 : (a.length : Int) * k ≤ SZ := by
      have : ((a.length * k.toNat : Nat) : Int) ≤ SZ := by exact_mod_cast k3
      rw [Int.natCast_mul, Int.toNat_of_nonneg (by omega)] at this
      exact this
    have h10 : ((2 : Int) ^ 63 - 1) < ((2 ^ 63 - 1) / k + 1) * k := Int.lt_ediv_add_one_mul_self _ hk
    have h11 : ((2 ^ 63 - 1) / k + 1) * k ≤ (a.length : Int) * k := Int.mul_le_mul_of_nonneg_right (by omega) (by omega)
    have : (SZ : Int) = 16777216 := rfl
    omega
  · rw [hlen]
    show decide (a.length * k.toNat > sizeLine) = false
    rw [sz_eq]
    exact decide_eq_false (by omega)
  · have fl : ∀ (m : Nat) (acc : Array Nat), (List.replicate m (st a).cps).foldl (· ++ ·) acc = (acc.toList ++ (List.replicate m a).flatten).toArray := by
      intro m
      induction m with
      | zero => intro acc; simp
      | succ m ih =>
        intro acc
        rw [List.replicate_succ, List.foldl_cons, ih, List.replicate_succ, List.flatten_cons]
        simp
    by_cases h1 : k < 1
    · rw [if_pos h1]
      have e : mulStr a k = [] := by unfold mulStr; rw [show k.toNat = 0 by omega]; rfl
      rw [e] at q
      exact ⟨by decide, sv [], H, I.tok _, ⟨_, rfl⟩, q⟩
    · rw [if_neg h1]
      by_cases h2 : (k == 1 || (st a).length == 0) = true
      · rw [if_pos h2]
        have e : mulStr a k = a := by
          unfold mulStr
          rcases Bool.or_eq_true_iff.mp h2 with z | z
          · rw [show k = 1 by simpa using z]; simp
          · rw [hlen] at z
            have : a = [] := by
              cases a with
              | nil => rfl
              | cons _ _ => simp at z
            subst this; simp
        rw [e] at q
        exact ⟨sv a, H, I, ⟨_, rfl⟩, q⟩
      · rw [if_neg h2, fl]
        have e : (⟨(#[].toList ++ (List.replicate k.toNat a).flatten).toArray⟩ : Str) = st (mulStr a k) := by simp [mulStr]
        rw [e]
        refine ⟨?_, sv (mulStr a k), H, I.tok _, ⟨_, rfl⟩, q⟩
        rw [st_len, sz_eq]
        have : (mulStr a k).length = a.length * k.toNat := by
          unfold mulStr
          rw [List.length_flatten]
          simp [Nat.mul_comm]
        omega
theorem iff_inv {c : Prop} [Decidable c] {d : D} {t : T} (h : iff c (sc d) = some t) : c ∧ t = .sh d := ⟨(iff_some h).1, sc_inj (iff_some h).2⟩
theorem op_addStr : OpR X (binaryOp .Add) (fun x y H Q => rP C (s2 fun a b => iff (a.length + b.length ≤ SZ) (sc (.str (a ++ b)))) [x, y] H Q) := OpR.imp op_add_str fun x y H Q q => by
  obtain ⟨ds, t, h1, h2, h3⟩ := q.sc
  obtain ⟨i, j, rfl, e⟩ := s2_inv h2
  obtain ⟨d, e', e2, k1, k2⟩ := h1.two
  cases e2
  obtain ⟨c1, rfl⟩ := iff_inv e
  refine ⟨st i, st j, k1.vstr, k2.vstr, by rw [st_len, st_len, sz_eq]; exact c1, ?_⟩
  rw [st_app]
  exact h3 _ _ rfl rfl (.str _)
theorem Dat.vlst {H : Hp} {v : V} {ds : List D} (h : Dat C H v (.lst ds)) : ∃ a vs, v = .ref a ∧ H a = some (.lst vs) ∧ Dats C H vs ds := by
  cases h with | lst h hs => exact ⟨_, _, rfl, h, hs⟩
theorem Dat.at {H H' : Hp} {a : Addr} {vs : List V} {ds : List D} (h : Dat C H' (.ref a) (.lst ds)) (s : Same H' H) (e : H a = some (.lst vs)) : Dats C H' vs ds := by
  cases h with
  | lst h hs =>
    have := s _ _ h
    rw [e] at this; cases this
    exact hs
theorem op_addLst : OpR X (binaryOp .Add) (fun x y H Q => rP C (l2 fun a b => iff (a.length + b.length ≤ SZ) (some (.lst ((a ++ b).map .sh)))) [x, y] H Q) := OpR.imp op_cat fun x y H Q q => by
  obtain ⟨ds, t, h1, h2, h3⟩ := q.newL
  obtain ⟨i, j, rfl, e⟩ := l2_inv h2
  obtain ⟨d, e', e2, k1, k2⟩ := h1.two
  cases e2
  obtain ⟨c1, e⟩ := iff_some e
  have e := Option.some.inj e
  obtain ⟨a, vs, rfl, ha, hv⟩ := k1.vlst
  obtain ⟨b, us, rfl, hb, hu⟩ := k2.vlst
  refine ⟨a, b, vs, us, rfl, rfl, ha, hb, by rw [hv.length, hu.length, sz_eq]; exact c1, h3 (vs ++ us) (i ++ j) e.symm fun H' s q => ?_⟩
  obtain ⟨d, e', e2, k1, k2⟩ := q.two
  cases e2
  exact (k1.at s ha).append (k2.at s hb)
theorem op_repLst : OpR X (binaryOp .Mult) (fun x y H Q => rP C (li fun a k => iff (-(2 ^ 63) ≤ k ∧ k < 2 ^ 63 ∧ a.length * k.toNat ≤ SZ) (some (.lst ((List.replicate k.toNat a).flatten.map .sh)))) [x, y] H Q) := OpR.imp op_rep fun x y H Q q => by
  obtain ⟨ds, t, h1, h2, h3⟩ := q.newL
  obtain ⟨i, j, rfl, e⟩ := li_inv h2
  obtain ⟨d, e', e2, k1, k2⟩ := h1.two
  cases e2
  obtain ⟨c1, e⟩ := iff_some e
  have e := Option.some.inj e
  obtain ⟨a, vs, rfl, ha, hv⟩ := k1.vlst
  refine ⟨a, j, vs, rfl, k2.vint, ha, c1.1, c1.2.1, by rw [hv.length, sz_eq]; exact c1.2.2, h3 _ (List.replicate j.toNat i).flatten e.symm fun H' s q => ?_⟩
  obtain ⟨d, e', e2, k1, k2⟩ := q.two
  cases e2
  have := k1.at s ha
  generalize j.toNat = n
  induction n with
  | zero => exact .nil
  | succ n ih => rw [List.replicate_succ, List.replicate_succ, List.flatten_cons, List.flatten_cons]; exact this.append ih
theorem bin_ok : ∀ op : Operator, OpR X (binaryOp op) (fun x y H Q => rP C (binD op) [x, y] H Q)
  | .Add => OpR.orE (op_i20 op_add fun _ _ _ e => sc_inj e) (OpR.orE op_addStr op_addLst)
  | .Mult => OpR.orE (op_i2 op_mul fun _ _ _ e => ⟨(iff_some e).1, sc_inj (iff_some e).2⟩) (OpR.orE (OpR.imp mul_str_ok fun x y H Q q => by
      obtain ⟨ds, t, h1, h2, h3⟩ := q.sc
      obtain ⟨i, j, rfl, e⟩ := si_inv h2
      obtain ⟨d, e', e2, k1, k2⟩ := h1.two
      cases e2
      obtain ⟨c1, rfl⟩ := iff_inv e
      exact ⟨i, j, k1.vstr, k2.vint, c1.1, c1.2.1, c1.2.2, h3 _ _ rfl rfl (.str _)⟩) op_repLst)
  | .Sub => op_i20 op_sub fun _ _ _ e => sc_inj e
  | .Mod => op_i2 op_mod fun _ _ _ e => iff_inv e
  | .FloorDiv => op_i2 op_fdiv fun _ _ _ e => ⟨(iff_some e).1, sc_inj (iff_some e).2⟩
  | .Pow => op_i2 op_pow fun _ _ _ e => ⟨(iff_some e).1, sc_inj (iff_some e).2⟩
  | .LShift => op_i2 op_shl fun _ _ _ e => ⟨(iff_some e).1, sc_inj (iff_some e).2⟩
  | .RShift => op_i2 op_shr fun _ _ _ e => iff_inv e
  | .BitAnd => op_i20 op_and fun _ _ _ e => sc_inj e
  | .BitOr => op_i20 op_or fun _ _ _ e => sc_inj e
  | .MatMult | .Div | .BitXor => op_none
/-! ### augmented: ints, texts, bits -/
def augD (op : Operator) : List D → Option T :=
  match op with
  | .Add => orE (i2 fun i j => sc (.int (i + j))) (s2 fun a b => iff (a.length + b.length ≤ SZ) (sc (.str (a ++ b))))
  | .Sub => i2 fun i j => sc (.int (i - j))
  | .BitOr => i2 fun i j => sc (.int (Builtin.bitOr i j))
  | _ => fun _ => none
theorem aug_ok : ∀ op : Operator, OpR X (inplaceOp op) (fun x y H Q => rP C (augD op) [x, y] H Q)
  | .Add => OpR.orE (op_i20 iop_add fun _ _ _ e => sc_inj e) (OpR.imp iop_add_str fun x y H Q q => by
      obtain ⟨ds, t, h1, h2, h3⟩ := q.sc
      obtain ⟨i, j, rfl, e⟩ := s2_inv h2
      obtain ⟨d, e', e2, k1, k2⟩ := h1.two
      cases e2
      obtain ⟨c1, rfl⟩ := iff_inv e
      refine ⟨st i, st j, k1.vstr, k2.vstr, by rw [st_len, st_len, sz_eq]; exact c1, ?_⟩
      rw [st_app]
      exact h3 _ _ rfl rfl (.str _))
  | .Sub => op_i20 iop_sub fun _ _ _ e => sc_inj e
  | .BitOr => op_i20 iop_or fun _ _ _ e => sc_inj e
  | .Mult | .Mod | .FloorDiv | .Pow | .LShift | .RShift | .BitAnd | .MatMult | .Div | .BitXor => op_none
/-! ### comparisons -/
@[simp] def isN : D → Bool
  | .non => true
  | _ => false
@[simp] def flatD : D → Bool
  | .non | .bl _ | .int _ | .str _ => true
  | _ => false
def eqF : D → D → Bool
  | .non, .non => true
  | .bl a, .bl b => a == b
  | .bl a, .int b => (if a then 1 else 0) == b
  | .int a, .bl b => a == (if b then 1 else 0)
  | .int a, .int b => a == b
  | .str a, .str b => a == b
  | _, _ => false
def inF (x : D) (xs : List D) : Bool := xs.any fun y => eqF y x
/-- one text in another: where it first stands -/
def subOf (a b : List Nat) : Bool := !(Builtin.Str.occurrences (st b) (st a) 0 b.length 1).isEmpty
def inD (neg : Bool) : List D → Option T := fun xs => match xs with
  | [.str a, .str b] => sc (.bl (if neg then !subOf a b else subOf a b))
  | [x, .lst ys] => iff (flatD x = true ∧ ys.all flatD = true) (sc (.bl (if neg then !inF x ys else inF x ys)))
  | [x, .tup ys] => iff (flatD x = true ∧ ys.all flatD = true) (sc (.bl (if neg then !inF x ys else inF x ys)))
  | _ => none
def isD (neg : Bool) : List D → Option T := fun xs => match xs with
  | [.bl a, .bl b] => sc (.bl (if neg then !decide (a = b) else decide (a = b)))
  | [x, .non] => sc (.bl (if neg then !isN x else isN x))
  | _ => none
def eqT (neg : Bool) : List D → Option T := fun xs => match xs with
  | [a, b] => (eqD a b).map fun r => .sh (.bl (if neg then !r else r))
  | _ => none
def cmpD (op : CmpOp) : List D → Option T :=
  match op with
  | .Eq => orE (s2 fun a b => sc (.bl (decide (a = b)))) (eqT false)
  | .NotEq => orE (s2 fun a b => sc (.bl (!decide (a = b)))) (eqT true)
  | .Lt => i2 fun i j => sc (.bl (decide (i < j)))
  | .LtE => i2 fun i j => sc (.bl (decide (i ≤ j)))
  | .Gt => i2 fun i j => sc (.bl (decide (j < i)))
  | .GtE => i2 fun i j => sc (.bl (decide (j ≤ i)))
  | .In => inD false
  | .NotIn => inD true
  | .Is => isD false
  | .IsNot => isD true
theorem beq_st (s t : List Nat) : ((st s : Str) == st t) = (s == t) := by
  by_cases hst : s = t
  · subst hst; simp
  · have : ¬ st s = st t := fun q => hst (st_inj q)
    rw [beq_eq_false_iff_ne.mpr this, beq_eq_false_iff_ne.mpr hst]
theorem eqF_V {C : Cfg} {H : Hp} {x y : V} {d e : D} (h : Dat C H x d) (k : Dat C H y e) (f : flatD d = true) (g : flatD e = true) : flatV x = true ∧ flatV y = true ∧ eqV x y = eqF d e := by
  cases h <;> first | exact absurd f Bool.false_ne_true | (cases k <;> first | exact absurd g Bool.false_ne_true | exact ⟨rfl, rfl, rfl⟩ | exact ⟨rfl, rfl, beq_st _ _⟩)
theorem inF_V {C : Cfg} {H : Hp} {x : V} {d : D} (h : Dat C H x d) (f : flatD d = true) : ∀ {vs : List V} {ds : List D}, Dats C H vs ds → ds.all flatD = true → vs.all flatV = true ∧ inV x vs = inF d ds
  | [], [], .nil, _ => ⟨rfl, rfl⟩
  | v :: vs, e :: ds, .cons k ks, g => by
    rw [List.all_cons, Bool.and_eq_true] at g
    obtain ⟨h1, h2, h3⟩ := eqF_V k h g.1 f
    obtain ⟨i1, i2⟩ := inF_V h f ks g.2
    refine ⟨by rw [List.all_cons, h1, i1]; rfl, ?_⟩
    show (eqV v x || inV x vs) = (eqF e d || inF d ds)
    rw [h3, i2]
theorem Dat.flat {C : Cfg} {H : Hp} {x : V} {d : D} (h : Dat C H x d) (f : flatD d = true) : flatV x = true := by cases h <;> first | exact absurd f Bool.false_ne_true | rfl
theorem inS_ok {neg : Bool} {op : CmpOp} (h : OpR X (compareOp op) (fun x y H Q => ∃ i j, x = .str i ∧ y = .str j ∧ Q (.bl (if neg then !(!(Builtin.Str.occurrences j i 0 j.length 1).isEmpty) else !(Builtin.Str.occurrences j i 0 j.length 1).isEmpty)) H))
    (h' : OpR X (compareOp op) (rIn X.K neg)) (hK : X.K = C.K) : OpR X (compareOp op) (fun x y H Q => rP C (inD neg) [x, y] H Q) := OpR.imp (h.or h') fun x y H Q q => by
  obtain ⟨ds, t, h1, h2, h3⟩ := q.sc
  obtain ⟨d, e, rfl, k1, k2⟩ := h1.two
  unfold inD at h2
  split at h2
  · rename_i a b q
    cases q
    have := sc_inj h2
    subst this
    refine .inl ⟨st a, st b, k1.vstr, k2.vstr, ?_⟩
    have := h3 _ _ rfl rfl (Dat.bl (C := C) (H := H) (if neg then !subOf a b else subOf a b))
    unfold subOf at this
    rw [st_len]
    exact this
  · rename_i ys q
    cases q
    obtain ⟨c1, rfl⟩ := iff_inv h2
    obtain ⟨a, vs, rfl, ha, hv⟩ := k2.vlst
    obtain ⟨i1, i2⟩ := inF_V k1 c1.1 hv c1.2
    refine .inr ⟨a, vs, rfl, .inl (SqL.of ha), k1.flat c1.1, i1, ?_⟩
    rw [i2]
    exact h3 _ _ rfl rfl (.bl _)
  · rename_i ys q
    cases q
    obtain ⟨c1, rfl⟩ := iff_inv h2
    cases k2 with
    | tup ha hv =>
      obtain ⟨i1, i2⟩ := inF_V k1 c1.1 hv c1.2
      refine .inr ⟨_, _, rfl, .inr (SqT.of ha), k1.flat c1.1, i1, ?_⟩
      rw [i2]
      exact h3 _ _ rfl rfl (.bl _)
  · cases h2
theorem isN_V {C : Cfg} {H : Hp} {x : V} {d : D} (h : Dat C H x d) : decide (x = .non) = isN d := by cases h <;> first | rfl | exact decide_eq_false (fun q => nomatch q)
theorem is_ok {neg : Bool} {op : CmpOp} (h : OpR X (compareOp op) (fun x y H Q => ∃ a b : Bool, x = .bl a ∧ y = .bl b ∧ Q (.bl (if neg then !decide (a = b) else decide (a = b))) H))
    (h' : OpR X (compareOp op) (fun x y H Q => y = .non ∧ Q (.bl (if neg then !decide (x = .non) else decide (x = .non))) H)) : OpR X (compareOp op) (fun x y H Q => rP C (isD neg) [x, y] H Q) := OpR.imp (h.or h') fun x y H Q q => by
  obtain ⟨ds, t, h1, h2, h3⟩ := q.sc
  obtain ⟨d, e, rfl, k1, k2⟩ := h1.two
  unfold isD at h2
  split at h2
  · rename_i a b q
    cases q
    have := sc_inj h2
    subst this
    exact .inl ⟨a, b, k1.vbl, k2.vbl, h3 _ _ rfl rfl (.bl _)⟩
  · rename_i q
    cases q
    have := sc_inj h2
    subst this
    refine .inr ⟨k2.vnon, ?_⟩
    rw [isN_V k1]
    exact h3 _ _ rfl rfl (.bl _)
  · cases h2
theorem dec_st (a b : List Nat) : decide (sv a = sv b) = decide (a = b) := by
  by_cases h : a = b
  · subst h; simp
  · have : ¬ sv a = sv b := fun q => h (st_inj (V.str.inj q))
    rw [decide_eq_false h, decide_eq_false this]
theorem eq_ok {neg : Bool} {op : CmpOp} (h : OpR X (compareOp op) (fun x y H Q => scal x y = true ∧ Q (.bl (if neg then !decide (x = y) else decide (x = y))) H))
    (h' : OpR X (compareOp op) (fun x y H Q => ∃ d e, Dp X.K H x d ∧ Dp X.K H y e ∧ SeqAt.shaped d = true ∧ SeqAt.shaped e = true ∧ Q (.bl (if neg then !PyData.eqv d e else PyData.eqv d e)) H)) (hK : X.K = C.K) :
    OpR X (compareOp op) (fun x y H Q => rP C (orE (s2 fun a b => sc (.bl (if neg then !decide (a = b) else decide (a = b)))) (eqT neg)) [x, y] H Q) :=
  OpR.orE (OpR.imp h fun x y H Q q => by
    obtain ⟨ds, t, h1, h2, h3⟩ := q.sc
    obtain ⟨i, j, rfl, e⟩ := s2_inv h2
    obtain ⟨d, e', e2, k1, k2⟩ := h1.two
    cases e2
    have := sc_inj e
    subst this
    have e1 := k1.vstr
    have e2 := k2.vstr
    subst e1; subst e2
    refine ⟨rfl, ?_⟩
    rw [dec_st]
    exact h3 _ _ rfl rfl (.bl _)) (OpR.imp h' fun x y H Q q => by
    obtain ⟨ds, t, h1, h2, h3⟩ := q.sc
    obtain ⟨d, e, rfl, k1, k2⟩ := h1.two
    unfold eqT eqD at h2
    simp only [] at h2
    cases q1 : toPy d with
    | none => rw [q1] at h2; cases h2
    | some p1 =>
      cases q2 : toPy e with
      | none => rw [q1, q2] at h2; cases h2
      | some p2 =>
        rw [q1, q2] at h2
        simp only [Option.bind_some] at h2
        by_cases hs : SeqAt.shaped p1 = true ∧ SeqAt.shaped p2 = true
        · rw [if_pos hs] at h2
          have := (Option.some.inj h2).symm
          subst this
          refine ⟨p1, p2, ?_, ?_, hs.1, hs.2, h3 _ _ rfl rfl (.bl _)⟩
          · rw [hK]; exact k1.dp q1
          · rw [hK]; exact k2.dp q2
        · rw [if_neg hs] at h2; cases h2)
theorem cmp_ok (hu : X.A.units + 64 < cLine) (hK : X.K = C.K) : ∀ op : CmpOp, OpR X (compareOp op) (fun x y H Q => rP C (cmpD op) [x, y] H Q)
  | .Eq => eq_ok (neg := false) op_eq (op_eqD hu) hK
  | .NotEq => eq_ok (neg := true) op_ne (op_neD hu) hK
  | .Lt => op_i2b op_lt fun _ _ _ e => sc_inj e
  | .LtE => op_i2b op_le fun _ _ _ e => sc_inj e
  | .Gt => op_i2b op_gt fun _ _ _ e => sc_inj e
  | .GtE => op_i2b op_ge fun _ _ _ e => sc_inj e
  | .In => inS_ok (neg := false) op_in_str op_in_seq hK
  | .NotIn => inS_ok (neg := true) op_notIn_str op_notIn_seq hK
  | .Is => is_ok (neg := false) op_isBl op_isN
  | .IsNot => is_ok (neg := true) op_notBl op_notN
/-! ### truth -/
def truD : D → Option Bool
  | .non => some false
  | .bl b => some b
  | .int i => some (i != 0)
  | .str s => if s.length ≤ SZ then some ((s.length : Int) != 0) else none
  | .lst xs => some (!xs.isEmpty)
  | .tup xs => some (!xs.isEmpty)
  | _ => none
theorem empty_V {C : Cfg} {H : Hp} {vs : List V} {ds : List D} (h : Dats C H vs ds) : vs.isEmpty = ds.isEmpty := by cases h <;> rfl
theorem tru_V {K : PySem.W.Frag} {H : Hp} {x : V} {d : D} {k : Bool} (h : Dat C H x d) (e : truD d = some k) : TruV K x H k := by
  cases h with
  | non => cases e; rfl
  | bl b => cases e; rfl
  | int i => cases e; rfl
  | str s =>
    have e : (if s.length ≤ SZ then some ((s.length : Int) != 0) else none) = some k := e
    split at e
    · cases e
      exact ⟨by rw [st_len, sz_eq]; assumption, by rw [st_len]⟩
    · cases e
  | lst h hs => cases e; exact .inl ⟨_, SqL.of h, by rw [empty_V hs]⟩
  | tup h hs => cases e; exact .inr (.inl ⟨_, SqT.of h, by rw [empty_V hs]⟩)
  | scr h => cases e
  | ins h hm hs hl => cases e
  | dic h hs hl => cases e
end
end Eng
/-! Eng D: built-in functions, methods of texts. -/
namespace Eng
open PySem L2
theorem CallR.imp {X : Cx} {f : Value} {r r' : List V → Hp → VK → Prop} (h : CallR X f r) (k : ∀ xs H Q, r' xs H Q → r xs H Q) : CallR X f r' :=
  fun pins s σ H xs us Q I rs q => h pins s σ H xs us Q I rs (k _ _ _ q)
theorem CallR.orE {X : Cx} {C : Cfg} {f : Value} {g g' : List D → Option T} (h : CallR X f (fun xs H Q => rP C g xs H Q)) (h' : CallR X f (fun xs H Q => rP C g' xs H Q)) : CallR X f (fun xs H Q => rP C (orE g g') xs H Q) :=
  CallR.imp (CallR.or h h') fun _ _ _ q => q.orE
theorem MtR.imp {X : Cx} {id : String} {r r' : V → List V → Hp → VK → Prop} (h : MtR X id r) (k : ∀ x xs H Q, r' x xs H Q → r x xs H Q) : MtR X id r' :=
  fun pins s σ H x xs v us Q I rx rs q => h pins s σ H x xs v us Q I rx rs (k _ _ _ _ q)
theorem MtR.orE {X : Cx} {C : Cfg} {id : String} {g g' : List D → Option T} (h : MtR X id (fun x xs H Q => rP C g (x :: xs) H Q)) (h' : MtR X id (fun x xs H Q => rP C g' (x :: xs) H Q)) : MtR X id (fun x xs H Q => rP C (orE g g') (x :: xs) H Q) :=
  MtR.imp (MtR.or h h') fun _ _ _ _ q => q.orE
inductive Bi where
  | len | int | str | list | tuple | sum | any | all | max | min | abs
  deriving DecidableEq
def Bi.name : Bi → Str
  | .len => "len" | .int => "int" | .str => "str" | .list => "list" | .tuple => "tuple" | .sum => "sum" | .any => "any" | .all => "all" | .max => "max" | .min => "min" | .abs => "abs"
def Bi.val : Bi → Value
  | .len => .builtin "len" | .int => .type "int" | .str => .type "str" | .list => .type "list" | .tuple => .type "tuple" | .sum => .builtin "sum" | .any => .builtin "any" | .all => .builtin "all"
  | .max => .builtin "max" | .min => .builtin "min" | .abs => .builtin "abs"
def lenD : List D → Option T := fun xs => match xs with
  | [.str s] => iff (s.length ≤ SZ) (sc (.int s.length))
  | [.lst s] => sc (.int s.length)
  | [.tup s] => sc (.int s.length)
  | [.scr s] => sc (.int s.length)
  | _ => none
def biD (b : Bi) : List D → Option T :=
  match b with
  | .len => lenD
  | .int => orE (i1 fun i => sc (.int i)) (orE (b1 fun b => sc (.int (if b then 1 else 0))) (s1 fun s => match intText? (st s) with | some n => iff (s.length ≤ 640) (sc (.int n)) | none => none))
  | .str => i1 fun i => iff (i.natAbs.log2 < 1920) (sc (txt (Str.ofString (toString i))))
  | .list => fun xs => match xs with
    | [.lst s] => some (.lst (s.map .sh))
    | [.tup s] => some (.lst (s.map .sh))
    | [.scr s] => some (.lst ((s.map .int).map .sh))
    | _ => none
  | .tuple => fun xs => match xs with
    | [.lst s] => some (.sh (.tup s))
    | [.tup s] => some (.sh (.tup s))
    | _ => none
  | .sum => fun xs => match xs with
    | [.lst s] => (intsOf s).map fun ns => .sh (.int ns.sum)
    | _ => none
  | .any => fun xs => match xs with
    | [.lst s] => (blsOf s).map fun ns => .sh (.bl (ns.any id))
    | _ => none
  | .all => fun xs => match xs with
    | [.lst s] => (blsOf s).map fun ns => .sh (.bl (ns.all id))
    | _ => none
  | .max => i2 fun i j => sc (.int (if j > i then j else i))
  | .min => i2 fun i j => sc (.int (if j < i then j else i))
  | .abs => i1 fun i => sc (.int (if i < 0 then -i else i))
section
variable {X : Cx} {C : Cfg} {H : Hp}
theorem Dat.vscr {H : Hp} {v : V} {ns : List Int} (h : Dat C H v (.scr ns)) : ∃ a, v = .ref a ∧ SqL C.K H a (ns.map V.int) := by
  cases h with | scr h => exact ⟨_, rfl, h⟩
theorem Dat.vtup {H : Hp} {v : V} {ds : List D} (h : Dat C H v (.tup ds)) : ∃ a vs, v = .ref a ∧ H a = some (.tup vs) ∧ Dats C H vs ds := by
  cases h with | tup h hs => exact ⟨_, _, rfl, h, hs⟩
theorem Dat.atT {H H' : Hp} {a : Addr} {vs : List V} {ds : List D} (h : Dat C H' (.ref a) (.tup ds)) (s : Same H' H) (e : H a = some (.tup vs)) : Dats C H' vs ds := by
  cases h with
  | tup h hs =>
    have := s _ _ h
    rw [e] at this; cases this
    exact hs
theorem len_ok (hK : X.K = C.K) : CallR X (.builtin "len") (fun xs H Q => rP C lenD xs H Q) := CallR.imp call_len fun xs H Q q => by
  obtain ⟨ds, t, h1, h2, h3⟩ := q.sc
  unfold lenD at h2
  split at h2
  · rename_i s
    obtain ⟨c1, rfl⟩ := iff_inv h2
    cases h1 with
    | cons k ks =>
      cases ks
      refine ⟨_, s.length, rfl, ?_, h3 _ _ rfl rfl (.int _)⟩
      rw [k.vstr]
      exact ⟨by rw [st_len, sz_eq]; exact c1, (st_len s).symm⟩
  · rename_i s
    have := sc_inj h2; subst this
    cases h1 with
    | cons k ks =>
      cases ks
      obtain ⟨a, vs, rfl, ha, hv⟩ := k.vlst
      exact ⟨_, s.length, rfl, .inl ⟨vs, SqL.of ha, hv.length.symm⟩, h3 _ _ rfl rfl (.int _)⟩
  · rename_i s
    have := sc_inj h2; subst this
    cases h1 with
    | cons k ks =>
      cases ks
      obtain ⟨a, vs, rfl, ha, hv⟩ := k.vtup
      exact ⟨_, s.length, rfl, .inr ⟨vs, SqT.of ha, hv.length.symm⟩, h3 _ _ rfl rfl (.int _)⟩
  · rename_i s
    have := sc_inj h2; subst this
    cases h1 with
    | cons k ks =>
      cases ks
      obtain ⟨a, rfl, ha⟩ := k.vscr
      exact ⟨_, s.length, rfl, .inl ⟨_, by rw [hK]; exact ha, by rw [List.length_map]⟩, h3 _ _ rfl rfl (.int _)⟩
  · cases h2
theorem list_ok (hK : X.K = C.K) : CallR X (.type "list") (fun xs H Q => rP C (biD .list) xs H Q) := CallR.imp call_list_of fun xs H Q q => by
  obtain ⟨ds, t, h1, h2, h3⟩ := q.newL
  simp only [biD] at h2
  split at h2
  · rename_i s
    have := (Option.some.inj h2).symm
    subst this
    cases h1 with
    | cons k ks =>
      cases ks
      obtain ⟨a, vs, rfl, ha, hv⟩ := k.vlst
      exact ⟨a, vs, rfl, .inl (SqL.of ha), h3 vs s rfl fun H' e q => by cases q with | cons q _ => exact q.at e ha⟩
  · rename_i s
    have := (Option.some.inj h2).symm
    subst this
    cases h1 with
    | cons k ks =>
      cases ks
      obtain ⟨a, vs, rfl, ha, hv⟩ := k.vtup
      exact ⟨a, vs, rfl, .inr (SqT.of ha), h3 vs s rfl fun H' e q => by cases q with | cons q _ => exact q.atT e ha⟩
  · rename_i s
    have := (Option.some.inj h2).symm
    subst this
    cases h1 with
    | cons k ks =>
      cases ks
      obtain ⟨a, rfl, ha⟩ := k.vscr
      exact ⟨a, _, rfl, .inl (by rw [hK]; exact ha), h3 _ _ rfl fun H' e q => Dats.ints⟩
  · cases h2
theorem tuple_ok : CallR X (.type "tuple") (fun xs H Q => rP C (biD .tuple) xs H Q) := CallR.imp call_tuple_of fun xs H Q q => by
  obtain ⟨ds, t, Z, al, h1, h2, h3, h4, h5⟩ := q
  simp only [biD] at h4
  split at h4
  · rename_i s
    have := (Option.some.inj h4).symm
    subst this
    cases h1 with
    | cons k ks =>
      cases ks
      obtain ⟨a, vs, rfl, ha, hv⟩ := k.vlst
      exact ⟨a, vs, rfl, .inl ⟨SqL.of ha, fun p hp => h5 _ _ _ (Post.newU h3 hv (fun e => by cases h2 e with | cons q _ => exact q.at hid_sub ha) hp)⟩⟩
  · rename_i s
    have := (Option.some.inj h4).symm
    subst this
    cases h1 with
    | cons k ks =>
      cases ks
      obtain ⟨a, vs, rfl, ha, hv⟩ := id k.vtup
      exact ⟨a, vs, rfl, .inr ⟨SqT.of ha, h5 _ _ _ (Post.sh k fun e => by cases h2 e with | cons q _ => exact q)⟩⟩
  · cases h4
theorem int_ok : CallR X (.type "int") (fun xs H Q => rP C (biD .int) xs H Q) := CallR.orE (CallR.imp call_int1 fun xs H Q q => by
    obtain ⟨ds, t, h1, h2, h3⟩ := q.sc
    obtain ⟨i, rfl, e⟩ := i1_inv h2
    have := sc_inj e; subst this
    cases h1 with | cons k ks => cases ks; exact .inl ⟨i, by rw [k.vint], h3 _ _ rfl rfl (.int _)⟩)
  (CallR.orE (CallR.imp call_int1 fun xs H Q q => by
    obtain ⟨ds, t, h1, h2, h3⟩ := q.sc
    obtain ⟨i, rfl, e⟩ := b1_inv h2
    have := sc_inj e; subst this
    cases h1 with | cons k ks => cases ks; exact .inr ⟨i, by rw [k.vbl], h3 _ _ rfl rfl (.int _)⟩)
  (CallR.imp call_int_str fun xs H Q q => by
    obtain ⟨ds, t, h1, h2, h3⟩ := q.sc
    obtain ⟨i, rfl, e⟩ := s1_inv h2
    split at e
    · rename_i n hn
      obtain ⟨c1, rfl⟩ := iff_inv e
      cases h1 with | cons k ks => cases ks; exact ⟨st i, n, by rw [k.vstr], hn, by rw [st_len]; exact c1, h3 _ _ rfl rfl (.int _)⟩
    · cases e))
theorem str_ok : CallR X (.type "str") (fun xs H Q => rP C (biD .str) xs H Q) := CallR.imp call_str_int fun xs H Q q => by
  obtain ⟨ds, t, h1, h2, h3⟩ := q.sc
  obtain ⟨i, rfl, e⟩ := i1_inv h2
  obtain ⟨c1, rfl⟩ := iff_inv e
  cases h1 with | cons k ks => cases ks; exact ⟨i, by rw [k.vint], c1, h3 _ _ rfl rfl (.txt _)⟩
theorem map_inv {α β : Type} {o : Option α} {f : α → β} {b : β} (h : o.map f = some b) : ∃ a, o = some a ∧ f a = b := by
  cases o with
  | none => cases h
  | some a => exact ⟨a, rfl, Option.some.inj h⟩
theorem sum_ok (hc : X.calm = true) : CallR X (.builtin "sum") (fun xs H Q => rP C (biD .sum) xs H Q) := CallR.imp (cr_sum hc) fun xs H Q q => by
  obtain ⟨ds, t, h1, h2, h3⟩ := q.sc
  simp only [biD] at h2
  split at h2
  · rename_i s
    obtain ⟨ns, e, rfl⟩ := map_inv h2
    cases h1 with
    | cons k ks =>
      cases ks
      obtain ⟨a, vs, rfl, ha, hv⟩ := k.vlst
      have := intsOf_vals hv e
      subst this
      exact ⟨a, ns, rfl, SqL.of ha, h3 _ _ rfl rfl (.int _)⟩
  · cases h2
theorem any_ok (hc : X.calm = true) : CallR X (.builtin "any") (fun xs H Q => rP C (biD .any) xs H Q) := CallR.imp (cr_any hc) fun xs H Q q => by
  obtain ⟨ds, t, h1, h2, h3⟩ := q.sc
  simp only [biD] at h2
  split at h2
  · rename_i s
    obtain ⟨ns, e, rfl⟩ := map_inv h2
    cases h1 with
    | cons k ks =>
      cases ks
      obtain ⟨a, vs, rfl, ha, hv⟩ := k.vlst
      have := blsOf_vals hv e
      subst this
      exact ⟨a, ns, rfl, SqL.of ha, h3 _ _ rfl rfl (.bl _)⟩
  · cases h2
theorem all_ok (hc : X.calm = true) : CallR X (.builtin "all") (fun xs H Q => rP C (biD .all) xs H Q) := CallR.imp (cr_all hc) fun xs H Q q => by
  obtain ⟨ds, t, h1, h2, h3⟩ := q.sc
  simp only [biD] at h2
  split at h2
  · rename_i s
    obtain ⟨ns, e, rfl⟩ := map_inv h2
    cases h1 with
    | cons k ks =>
      cases ks
      obtain ⟨a, vs, rfl, ha, hv⟩ := k.vlst
      have := blsOf_vals hv e
      subst this
      exact ⟨a, ns, rfl, SqL.of ha, h3 _ _ rfl rfl (.bl _)⟩
  · cases h2
theorem max_ok (hc : X.calm = true) : CallR X (.builtin "max") (fun xs H Q => rP C (biD .max) xs H Q) := CallR.imp (call_max2 hc) fun xs H Q q => by
  obtain ⟨ds, t, h1, h2, h3⟩ := q.sc
  obtain ⟨i, j, rfl, e⟩ := i2_inv h2
  have := sc_inj e; subst this
  cases h1 with | cons k ks => cases ks with | cons k2 ks => cases ks; exact ⟨i, j, by rw [k.vint, k2.vint], h3 _ _ rfl rfl (.int _)⟩
theorem min_ok (hc : X.calm = true) : CallR X (.builtin "min") (fun xs H Q => rP C (biD .min) xs H Q) := CallR.imp (call_min2 hc) fun xs H Q q => by
  obtain ⟨ds, t, h1, h2, h3⟩ := q.sc
  obtain ⟨i, j, rfl, e⟩ := i2_inv h2
  have := sc_inj e; subst this
  cases h1 with | cons k ks => cases ks with | cons k2 ks => cases ks; exact ⟨i, j, by rw [k.vint, k2.vint], h3 _ _ rfl rfl (.int _)⟩
theorem abs_ok : CallR X (.builtin "abs") (fun xs H Q => rP C (biD .abs) xs H Q) := CallR.imp call_abs fun xs H Q q => by
  obtain ⟨ds, t, h1, h2, h3⟩ := q.sc
  obtain ⟨i, rfl, e⟩ := i1_inv h2
  have := sc_inj e; subst this
  cases h1 with | cons k ks => cases ks; exact ⟨i, by rw [k.vint], h3 _ _ rfl rfl (.int _)⟩
theorem bi_ok (hc : X.calm = true) (hK : X.K = C.K) : ∀ b : Bi, CallR X b.val (fun xs H Q => rP C (biD b) xs H Q)
  | .len => len_ok hK
  | .int => int_ok
  | .str => str_ok
  | .list => list_ok hK
  | .tuple => tuple_ok
  | .sum => sum_ok hc
  | .any => any_ok hc
  | .all => all_ok hc
  | .max => max_ok hc
  | .min => min_ok hc
  | .abs => abs_ok
end
/-! ### methods of texts -/
inductive Mt where
  | split | join | startswith | endswith | find | find3 | strip | rstrip | partition | count
  deriving DecidableEq
def Mt.name : Mt → Str
  | .split => "split" | .join => "join" | .startswith => "startswith" | .endswith => "endswith" | .find => "find" | .find3 => "find" | .strip => "strip" | .rstrip => "rstrip" | .partition => "partition" | .count => "count"
def Mt.id : Mt → String
  | .split => "str.split" | .join => "str.join" | .startswith => "str.startswith" | .endswith => "str.endswith" | .find => "str.find" | .find3 => "str.find" | .strip => "str.strip" | .rstrip => "str.rstrip" | .partition => "str.partition" | .count => "str.count"
def splitD (a b : List Nat) : List (List Nat) := TL.spl b 0 [] a
def partD (a b : List Nat) : List Nat × List Nat × List Nat := match TL.par b [] a with | some (x, y) => (x, b, y) | none => (a, [], [])
def mtD (m : Mt) : List D → Option T :=
  match m with
  | .split => s2 fun a b => iff (b ≠ [] ∧ b.all (· < 256) = true ∧ a.length + 2 ≤ SZ) (some (.lst (((splitD a b).map D.str).map .sh)))
  | .join => fun xs => match xs with
    | [.str a, .lst ys] => match strEq ys with
      | some ss => iff ((ss.map List.length).sum + ss.length * a.length ≤ SZ) (sc (.str (TL.joinL a ss)))
      | none => none
    | _ => none
  | .startswith => s2 fun a b => sc (.bl (Txt.startswith (st a) (st b)))
  | .endswith => s2 fun a b => sc (.bl (Txt.endswith (st a) (st b)))
  | .find => s2 fun a b => sc (.int (Txt.find (st a) (st b)))
  | .find3 => fun xs => match xs with
    | [.str a, .str b, .int i] => sc (.int (Txt.find3 (st a) (st b) i))
    | _ => none
  | .strip => s2 fun a b => iff (a.length ≤ SZ) (sc (txt (Txt.stripChars (st a) (st b))))
  | .rstrip => s2 fun a b => iff (a.length ≤ SZ) (sc (txt (Txt.rstripChars (st a) (st b))))
  | .partition => s2 fun a b => iff (b ≠ [] ∧ a.length ≤ SZ) (sc (.tup [.str (partD a b).1, .str (partD a b).2.1, .str (partD a b).2.2]))
  | .count => s2 fun a b => sc (.int (Txt.count (st a) (st b)))
section
variable {X : Cx} {C : Cfg} {H : Hp}
theorem mt_s2 {id : String} {g : Str → Str → D} {ff : List Nat → List Nat → Option T} {gv : Str → Str → V} {cd : Str → Str → Prop} (h : MtR X id (fun x xs H Q => ∃ a b, x = .str a ∧ xs = [.str b] ∧ cd a b ∧ Q (gv a b) H))
    (hf : ∀ a b t, ff a b = some t → cd (st a) (st b) ∧ t = .sh (g (st a) (st b))) (hd : ∀ a b (H : Hp), Dat C H (gv a b) (g a b)) (hn : ∀ a b, noL (g a b) = true) : MtR X id (fun x xs H Q => rP C (s2 ff) (x :: xs) H Q) := MtR.imp h fun x xs H Q q => by
  obtain ⟨ds, t, h1, h2, h3⟩ := q.sc
  obtain ⟨i, j, rfl, e⟩ := s2_inv h2
  obtain ⟨c1, rfl⟩ := hf i j t e
  cases h1 with
  | cons k ks =>
    cases ks with
    | cons k2 ks =>
      cases ks
      exact ⟨st i, st j, k.vstr, by rw [k2.vstr], c1, h3 _ _ rfl (hn _ _) (hd _ _ _)⟩
theorem mt_s2' {id : String} {g : Str → Str → D} {ff : List Nat → List Nat → Option T} {gv : Str → Str → V} (h : MtR X id (fun x xs H Q => ∃ a b, x = .str a ∧ xs = [.str b] ∧ Q (gv a b) H))
    (hf : ∀ a b t, ff a b = some t → t = .sh (g (st a) (st b))) (hd : ∀ a b (H : Hp), Dat C H (gv a b) (g a b)) (hn : ∀ a b, noL (g a b) = true) : MtR X id (fun x xs H Q => rP C (s2 ff) (x :: xs) H Q) :=
  mt_s2 (cd := fun _ _ => True) (MtR.imp h fun x xs H Q ⟨a, b, h1, h2, _, h3⟩ => ⟨a, b, h1, h2, h3⟩) (fun a b t e => ⟨trivial, hf a b t e⟩) hd hn
theorem split_ok : MtR X "str.split" (fun x xs H Q => rP C (mtD .split) (x :: xs) H Q) := MtR.imp mt_split fun x xs H Q q => by
  obtain ⟨ds, t, h1, h2, h3⟩ := q.newL
  obtain ⟨a, b, rfl, e⟩ := s2_inv h2
  obtain ⟨c1, e⟩ := iff_some e
  have := (Option.some.inj e).symm
  subst this
  cases h1 with
  | cons k ks =>
    cases ks with
    | cons k2 ks =>
      cases ks
      have hs : Txt.split (st a) (st b) = (splitD a b).map st := TL.map_tl_inj (by
        rw [TL.split_spl (st a) (st b) c1.1 (TL.kind_ok (by simpa using c1.2.1)), List.map_map]
        show TL.spl b 0 [] a = _
        have : TL.tl ∘ st = id := rfl
        rw [this, List.map_id]; rfl)
      refine ⟨st a, st b, k.vstr, by rw [k2.vstr], ?_, by rw [st_len, sz_eq]; exact c1.2.2, fun p hp => ?_⟩
      · rw [st_len]
        cases b with
        | nil => exact absurd rfl c1.1
        | cons _ _ => rfl
      · rw [hs, List.map_map]
        exact h3 ((splitD a b).map (V.str ∘ st)) _ rfl (fun H' e q => Dats.strs) p hp
theorem sum_len (ss : List (List Nat)) : ((ss.map st).map (·.length)).sum = (ss.map List.length).sum := by
  rw [List.map_map]
  exact congrArg List.sum (List.map_congr_left fun s _ => st_len s)
theorem join_ok : MtR X "str.join" (fun x xs H Q => rP C (mtD .join) (x :: xs) H Q) := MtR.imp mt_join fun x xs H Q q => by
  obtain ⟨ds, t, h1, h2, h3⟩ := q.sc
  simp only [mtD] at h2
  split at h2
  · rename_i a ys
    split at h2
    · rename_i ss hs
      obtain ⟨c1, rfl⟩ := iff_inv h2
      cases h1 with
      | cons k ks =>
        cases ks with
        | cons k2 ks =>
          cases ks
          obtain ⟨p, vs, rfl, ha, hv⟩ := k2.vlst
          have := strEq_vals hv hs
          subst this
          refine ⟨st a, p, ss.map st, k.vstr, rfl, .inl (SqL.of ha), ?_, ?_⟩
          · rw [sum_len, List.length_map, st_len]; exact c1
          · have : Txt.join (st a) (ss.map st) = st (TL.joinL a ss) := TL.ext_tl (by
              rw [TL.join_eq, TL.tl_join, List.map_map]
              have : TL.tl ∘ st = id := rfl
              rw [this, List.map_id])
            rw [this]
            exact h3 _ _ rfl rfl (.str _)
    · cases h2
  · cases h2
theorem partition_ok : MtR X "str.partition" (fun x xs H Q => rP C (mtD .partition) (x :: xs) H Q) := MtR.imp mt_partition fun x xs H Q q => by
  obtain ⟨ds, t, Z, al, h1, h2, h3, h4, h5⟩ := q
  obtain ⟨a, b, rfl, e⟩ := s2_inv h4
  obtain ⟨c1, rfl⟩ := iff_inv e
  cases h1 with
  | cons k ks =>
    cases ks with
    | cons k2 ks =>
      cases ks
      refine ⟨st a, st b, k.vstr, by rw [k2.vstr], ?_, by rw [st_len, sz_eq]; exact c1.2, fun p hp => ?_⟩
      · rw [st_len]
        cases b with
        | nil => exact absurd rfl c1.1
        | cons _ _ => rfl
      · have hpar := TL.partition_par (st a) (st b) c1.1
        have e3 : Txt.partition (st a) (st b) = (st (partD a b).1, st (partD a b).2.1, st (partD a b).2.2) := by
          rw [hpar]
          show (match TL.par b [] a with | some (x, y) => (st x, st b, st y) | none => (st a, Str.empty, Str.empty)) = _
          unfold partD
          split
          · rfl
          · rfl
        rw [e3]
        have hv : ∀ H' : Hp, Dats C H' [sv (partD a b).1, sv (partD a b).2.1, sv (partD a b).2.2] [.str (partD a b).1, .str (partD a b).2.1, .str (partD a b).2.2] := fun H' => .cons (.str _) (.cons (.str _) (.cons (.str _) .nil))
        exact h5 _ _ _ (Post.newU h3 (hv H) (fun _ => hv _) hp)
theorem find3_ok : MtR X "str.find" (fun x xs H Q => rP C (mtD .find3) (x :: xs) H Q) := MtR.imp mt_find3 fun x xs H Q q => by
  obtain ⟨ds, t, h1, h2, h3⟩ := q.sc
  simp only [mtD] at h2
  split at h2
  · rename_i a b i
    have := sc_inj h2; subst this
    cases h1 with
    | cons k ks => cases ks with | cons k2 ks => cases ks with | cons k3 ks => cases ks; exact ⟨st a, st b, i, k.vstr, by rw [k2.vstr, k3.vint], h3 _ _ rfl rfl (.int _)⟩
  · cases h2
theorem mt_ok : ∀ m : Mt, MtR X m.id (fun x xs H Q => rP C (mtD m) (x :: xs) H Q)
  | .split => split_ok
  | .join => join_ok
  | .startswith => mt_s2' (g := fun a b => .bl (Txt.startswith a b)) mt_startswith (fun a b t e => sc_inj e) (fun _ _ _ => .bl _) fun _ _ => rfl
  | .endswith => mt_s2' (g := fun a b => .bl (Txt.endswith a b)) mt_endswith (fun a b t e => sc_inj e) (fun _ _ _ => .bl _) fun _ _ => rfl
  | .find => mt_s2' (g := fun a b => .int (Txt.find a b)) mt_find (fun a b t e => sc_inj e) (fun _ _ _ => .int _) fun _ _ => rfl
  | .find3 => find3_ok
  | .strip => mt_s2 (cd := fun a _ => a.length ≤ sizeLine) (g := fun a b => txt (Txt.stripChars a b)) mt_stripChars (fun a b t e => ⟨by rw [st_len, sz_eq]; exact (iff_inv e).1, (iff_inv e).2⟩) (fun _ _ _ => .txt _) fun _ _ => rfl
  | .rstrip => mt_s2 (cd := fun a _ => a.length ≤ sizeLine) (g := fun a b => txt (Txt.rstripChars a b)) mt_rstripChars (fun a b t e => ⟨by rw [st_len, sz_eq]; exact (iff_inv e).1, (iff_inv e).2⟩) (fun _ _ _ => .txt _) fun _ _ => rfl
  | .partition => partition_ok
  | .count => mt_s2' (g := fun a b => .int (Txt.count a b)) mt_count (fun a b t e => sc_inj e) (fun _ _ _ => .int _) fun _ _ => rfl
theorem mt_slot : ∀ m : Mt, Slot "str" m.name m.id ∧ typeOf (.builtin m.id) = pure (.type "method_descriptor")
  | .split => ⟨F.slot_str_split, F.type_str_split⟩
  | .join => ⟨F.slot_str_join, F.type_str_join⟩
  | .startswith => ⟨F.slot_str_startswith, F.type_str_startswith⟩
  | .endswith => ⟨F.slot_str_endswith, F.type_str_endswith⟩
  | .find => ⟨F.slot_str_find, F.type_str_find⟩
  | .find3 => ⟨F.slot_str_find, F.type_str_find⟩
  | .strip => ⟨F.slot_str_strip, F.type_str_strip⟩
  | .rstrip => ⟨F.slot_str_rstrip, F.type_str_rstrip⟩
  | .partition => ⟨F.slot_str_partition, F.type_str_partition⟩
  | .count => ⟨F.slot_str_count, F.type_str_count⟩
theorem mtD_str {m : Mt} {ds : List D} {t : T} (h : mtD m ds = some t) : ∃ s r, ds = .str s :: r := by
  cases m <;> simp only [mtD] at h
  all_goals first
    | (obtain ⟨a, b, rfl, _⟩ := s2_inv h; exact ⟨_, _, rfl⟩)
    | (split at h
       · exact ⟨_, _, rfl⟩
       · cases h)
end
end Eng
/-! Eng E: the language of expressions: what it reckons, and which text it is. -/
namespace Eng
open PySem L2
inductive Tg where
  | nm (i : Nat) | tp (is : List Nat)
mutual
inductive E where
  | var (i : Nat) | cst (d : D) | glb (x : Str) (d : D)
  | bin (op : Operator) (a b : E) | neg (a : E)
  | cmp (op : CmpOp) (a b : E) | chn (op1 op2 : CmpOp) (a b c : E)
  | and (a b : E) | or (a b : E) | one (a : E) | not (a : E)
  | ife (c a b : E)
  | tup (es : Es) | lst (es : Es)
  | idx (a b : E) | slc (a : E) (lo hi : Eo) | fld (a : E) (f : Str) (cs : List Str)
  | cal (f : Str) (F : List D → Option T) (dds : List D) (es : Es)
  | bi (b : Bi) (es : Es) | mth (m : Mt) (a : E) (es : Es)
  | lc (own : List (Str × Nat)) (tg : Tg) (it : I) (c : Eo) (e : E)
  | isi (a : E) (x : Str) (t : String)
inductive Es where
  | nil | cons (e : E) (es : Es)
inductive Eo where
  | non | som (e : E)
inductive I where
  | seq (e : E) | rng1 (e : E) | rng2 (a b : E) | rngd (a b c : E) | enm (e : E) | zip (a b : E)
end
/-! ### data slots -/
abbrev Dl := List (Option D)
def dl (ρ : Rho) : Dl := ρ.map (Option.map T.d)
mutual
@[simp] def T.own : T → Bool
  | .sh _ => false
  | .tup ts => T.owns ts
  | _ => true
@[simp] def T.owns : List T → Bool
  | [] => false
  | t :: ts => t.own || T.owns ts
end
def ow (ρ : Rho) (i : Nat) : Bool := match ρ[i]? with
  | some (some t) => t.own
  | _ => false
@[simp] def wipeD {α : Type} (δ : List (Option α)) : List Nat → List (Option α)
  | [] => δ
  | v :: vs => (wipeD δ vs).set v none
@[simp] def setAll : List Nat → List D → Dl → Option Dl
  | [], [], δ => some δ
  | i :: is, d :: ds, δ => setAll is ds (δ.set i (some d))
  | _, _, _ => none
@[simp] def asgD : Tg → D → Dl → Option Dl
  | .nm i, d, δ => some (δ.set i (some d))
  | .tp is, .tup ds, δ => setAll is ds δ
  | .tp is, .lst ds, δ => setAll is ds δ
  | .tp _, _, _ => none
/-! ### what an expression is worth -/
def idxD : List D → Option T := fun xs => match xs with
  | [.lst ys, .int i] => (atI ys i).map .sh
  | [.tup ys, .int i] => (atI ys i).map .sh
  | [.scr ns, .int i] => (atI ns i).map fun n => .sh (.int n)
  | [.str s, .int i] => iff (s.length ≤ SZ) ((atI s i).map fun c => .sh (.str [c]))
  | _ => none
def cutL {α : Type} (xs : List α) (lo hi : Option Int) : List α := (xs.drop (HT.sIx xs.length 0 lo)).take (HT.sIx xs.length xs.length hi - HT.sIx xs.length 0 lo)
def slcD (lo hi : Option Int) : List D → Option T := fun xs => match xs with
  | [.lst ys] => some (.lst ((cutL ys lo hi).map .sh))
  | [.scr ns] => some (.lst (((cutL ns lo hi).map D.int).map .sh))
  | [.str s] => iff (s.length ≤ SZ) (sc (.str (cutL s lo hi)))
  | _ => none
def fldD (f : Str) (cs : List Str) : D → Option T
  | .ins c ns xs => if cs.contains c then ((ns.zip xs).lookup f).map .sh else none
  | _ => none
def blD : D → Option Bool
  | .bl b => some b
  | _ => none
def tyD : D → Option String
  | .non => some "NoneType" | .bl _ => some "bool" | .int _ => some "int" | .str _ => some "str" | .lst _ => some "list" | .tup _ => some "tuple" | .dic .. => some "dict"
  | _ => none
def itemsD : D → Option (List D)
  | .lst ys => some ys
  | .tup ys => some ys
  | .scr ns => some (ns.map .int)
  | .str s => some (s.map fun c => .str [c])
  | _ => none
def rngD (lo n : Int) : Option (List D) := if -(2 ^ 62) ≤ lo ∧ lo < 2 ^ 62 ∧ -(2 ^ 62) ≤ n ∧ n < 2 ^ 62 then some ((List.range (n - lo).toNat).map fun (i : Nat) => .int (lo + i)) else none
/-- range(lo, n, -1) -/
def rgdD (lo n : Int) : Option (List D) := if -(2 ^ 62) ≤ lo ∧ lo < 2 ^ 62 ∧ -(2 ^ 62) ≤ n ∧ n < 2 ^ 62 then some ((List.range (lo - n).toNat).map fun (i : Nat) => .int (lo - i)) else none
def rgdK : D → D → D → Option (List D)
  | .int l, .int n, .int k => if k = -1 then rgdD l n else none
  | _, _, _ => none
def enmD : D → Option (List D)
  | .lst ys => some (ys.mapIdx fun i y => .tup [.int i, y])
  | .str s => some (s.mapIdx fun i c => .tup [.int i, .str [c]])
  | _ => none
def zipD : D → D → Option (List D)
  | .lst xs, .lst ys => some (List.zipWith (fun x y => .tup [x, y]) xs ys)
  | .lst xs, .str s => some (List.zipWith (fun x c => .tup [x, .str [c]]) xs s)
  | _, _ => none
/-- a comprehension's turns: f tells whether an item is kept, and what of it -/
@[simp] def lcGo (f : D → Option (Option T)) : List D → Option (List T)
  | [] => some []
  | d :: ds => (f d).bind fun o => (lcGo f ds).map fun ts => match o with
    | some t => t :: ts
    | none => ts
mutual
def ev : E → Dl → Option T
  | .var i, δ => match δ[i]? with
    | some (some d) => some (.sh d)
    | _ => none
  | .cst d, _ => some (.sh d)
  | .glb _ d, _ => some (.sh d)
  | .bin op a b, δ => (ev a δ).bind fun x => (ev b δ).bind fun y => binD op [x.d, y.d]
  | .neg a, δ => (ev a δ).bind fun x => i1 (fun i => sc (.int (-i))) [x.d]
  | .cmp op a b, δ => (ev a δ).bind fun x => (ev b δ).bind fun y => cmpD op [x.d, y.d]
  | .chn op1 op2 a b c, δ => (ev a δ).bind fun x => (ev b δ).bind fun y => (cmpD op1 [x.d, y.d]).bind fun r => (blD r.d).bind fun k =>
    if k then (ev c δ).bind fun z => cmpD op2 [y.d, z.d] else sc (.bl false)
  | .and a b, δ => (ev a δ).bind fun x => (blD x.d).bind fun k => if k then (ev b δ).bind fun y => (blD y.d).bind fun k' => sc (.bl k') else sc (.bl false)
  | .or a b, δ => (ev a δ).bind fun x => (blD x.d).bind fun k => if k then sc (.bl true) else (ev b δ).bind fun y => (blD y.d).bind fun k' => sc (.bl k')
  | .one a, δ => ev a δ
  | .not a, δ => (ev a δ).bind fun x => (blD x.d).bind fun k => sc (.bl (!k))
  | .ife c a b, δ => (tst c δ).bind fun k => if k then ev a δ else ev b δ
  | .tup es, δ => (evs es δ).bind fun ts => if ts.length ≤ SZ then some (.tup ts) else none
  | .lst es, δ => (evs es δ).bind fun ts => if ts.length ≤ SZ then some (.lst ts) else none
  | .idx a b, δ => (ev a δ).bind fun x => (ev b δ).bind fun y => idxD [x.d, y.d]
  | .slc a lo hi, δ => (ev a δ).bind fun x => (evo lo δ).bind fun l => (evo hi δ).bind fun h => slcD l h [x.d]
  | .fld a f cs, δ => (ev a δ).bind fun x => fldD f cs x.d
  | .cal _ F dds es, δ => (evs es δ).bind fun ts => F (T.ds ts ++ dds)
  | .bi b es, δ => (evs es δ).bind fun ts => biD b (T.ds ts)
  | .mth m a es, δ => (ev a δ).bind fun x => (evs es δ).bind fun ts => mtD m (x.d :: T.ds ts)
  | .lc own tg it c e, δ => (evi it δ).bind fun ds => if ds.length ≤ SZ then
      (lcGo (fun d => (asgD tg d (wipeD δ (own.map (·.2)))).bind fun δ' => (tsto c δ').bind fun k => if k then (ev e δ').map some else some none) ds).map .lst else none
  | .isi a _ t, δ => (ev a δ).bind fun x => (tyD x.d).bind fun s => (kitB s t).bind fun k => sc (.bl k)
def evs : Es → Dl → Option (List T)
  | .nil, _ => some []
  | .cons e es, δ => (ev e δ).bind fun t => (evs es δ).map fun ts => t :: ts
def evo : Eo → Dl → Option (Option Int)
  | .non, _ => some none
  | .som e, δ => (ev e δ).bind fun t => match t.d with
    | .int i => some (some i)
    | _ => none
def evi : I → Dl → Option (List D)
  | .seq e, δ => (ev e δ).bind fun t => itemsD t.d
  | .rng1 e, δ => (ev e δ).bind fun t => match t.d with
    | .int n => rngD 0 n
    | _ => none
  | .rng2 a b, δ => (ev a δ).bind fun t => (ev b δ).bind fun u => match t.d, u.d with
    | .int l, .int n => rngD l n
    | _, _ => none
  | .rngd a b c, δ => (ev a δ).bind fun t => (ev b δ).bind fun u => (ev c δ).bind fun v => rgdK t.d u.d v.d
  | .enm e, δ => (ev e δ).bind fun t => enmD t.d
  | .zip a b, δ => (ev a δ).bind fun t => (ev b δ).bind fun u => zipD t.d u.d
/-- as a test -/
def tst : E → Dl → Option Bool
  | .and a b, δ => (tst a δ).bind fun k => if k then tst b δ else some false
  | .or a b, δ => (tst a δ).bind fun k => if k then some true else tst b δ
  | .one a, δ => tst a δ
  | .not a, δ => (tst a δ).map fun k => !k
  | .cmp op a b, δ => (ev a δ).bind fun x => (ev b δ).bind fun y => (cmpD op [x.d, y.d]).bind fun r => blD r.d
  | .chn op1 op2 a b c, δ => (ev a δ).bind fun x => (ev b δ).bind fun y => (cmpD op1 [x.d, y.d]).bind fun r => (blD r.d).bind fun k =>
    if k then (ev c δ).bind fun z => (cmpD op2 [y.d, z.d]).bind fun r => blD r.d else some false
  | .var i, δ => match δ[i]? with
    | some (some d) => truD d
    | _ => none
  | .cst d, _ => truD d
  | .idx a b, δ => (ev a δ).bind fun x => (ev b δ).bind fun y => (idxD [x.d, y.d]).bind fun r => truD r.d
  | .fld a f cs, δ => (ev a δ).bind fun x => (fldD f cs x.d).bind fun r => truD r.d
  | .cal _ F dds es, δ => (evs es δ).bind fun ts => (F (T.ds ts ++ dds)).bind fun r => truD r.d
  | .bi b es, δ => (evs es δ).bind fun ts => (biD b (T.ds ts)).bind fun r => truD r.d
  | .mth m a es, δ => (ev a δ).bind fun x => (evs es δ).bind fun ts => (mtD m (x.d :: T.ds ts)).bind fun r => truD r.d
  | .isi a _ t, δ => (ev a δ).bind fun x => (tyD x.d).bind fun s => kitB s t
  | _, _ => none
@[simp] def tsto : Eo → Dl → Option Bool
  | .non, _ => some true
  | .som e, δ => tst e δ
end
/-! ### the names whose things the worth may hold -/
@[simp] def Bi.sca : Bi → Bool
  | .list | .tuple => false
  | _ => true
@[simp] def Mt.sca : Mt → Bool
  | .split | .partition => false
  | _ => true
@[simp] def opSca : Operator → Bool
  | .Add | .Mult => false
  | _ => true
mutual
@[simp] def avs : E → List Nat
  | .var i => [i]
  | .bin op a b => if opSca op then [] else avs a ++ avs b
  | .one a => avs a
  | .ife _ a b => avs a ++ avs b
  | .tup es => avss es
  | .lst es => avss es
  | .idx a _ => avs a
  | .slc a _ _ => avs a
  | .fld a _ _ => avs a
  | .cal _ _ _ es => avss es
  | .bi b es => if b.sca then [] else avss es
  | .mth m a es => if m.sca then [] else avs a ++ avss es
  | .lc _ _ it _ e => avi it ++ avs e
  | _ => []
@[simp] def avss : Es → List Nat
  | .nil => []
  | .cons e es => avs e ++ avss es
@[simp] def avi : I → List Nat
  | .seq e => avs e
  | .enm e => avs e
  | .zip a b => avs a ++ avs b
  | _ => []
end
def sal (vs : List Nat) (o : Nat → Bool) : Bool := vs.all fun i => !o i
/-! ### which text it is -/
def visB (sc : Scope) (x : Str) : Bool := match sc.names.lookup x with
  | some .local => true
  | some .cell => true
  | some .free => true
  | _ => false
def locB (sc : Scope) (x : Str) : Bool := match sc.names.lookup x with
  | some .local => true
  | some .cell => true
  | _ => false
def glB (sc : Scope) (x : Str) : Bool := match sc.names.lookup x with
  | some .globalImplicit => true
  | _ => false
def nmB (x : Str) : Bool := !(x == ("__debug__" : Str)) && !(x == ("__classdict__" : Str)) && !decide (x = ("__name__" : Str))
def mC : D → Const → Bool
  | .non, .none => true
  | .bl b, .bool c => b == c
  | .int i, .int j => i == j
  | .str s, .str x => decide (x = st s)
  | _, _ => false
/-- what a method is asked of: not super() -/
def baseB : Expr → Bool
  | .Call (.Name _ _) [] [] _ => false
  | _ => true
def mNms (N : List Str) (sc : Scope) : List Nat → List Expr → Bool
  | [], [] => true
  | i :: is, .Name x _ :: es => decide (N[i]? = some x) && locB sc x && mNms N sc is es
  | _, _ => false
def mTg (N : List Str) (sc : Scope) : Tg → Expr → Bool
  | .nm i, .Name x _ => decide (N[i]? = some x) && locB sc x
  | .tp is, .Tuple es _ _ => mNms N sc is es
  | _, _ => false
@[simp] def Tg.ix : Tg → List Nat
  | .nm i => [i]
  | .tp is => is
def isiB (t : String) : Bool := t == "int" || t == "str" || t == "list" || t == "tuple" || t == "bool" || t == "dict"
def isTup : Expr → Bool
  | .Tuple _ _ _ => true
  | _ => false
mutual
def mE (N : List Str) (sc : Scope) : E → Expr → Bool
  | .var i, e' => match e' with
    | .Name x _ => decide (N[i]? = some x) && visB sc x && nmB x
    | _ => false
  | .cst d, e' => match e' with
    | .Constant c _ _ => mC d c
    | _ => false
  | .glb x _, e' => match e' with
    | .Name y _ => decide (x = y) && glB sc x && nmB x
    | _ => false
  | .bin op a b, e' => match e' with
    | .BinOp a' op' b' _ => decide (op = op') && mE N sc a a' && mE N sc b b'
    | _ => false
  | .neg a, e' => match e' with
    | .UnaryOp .USub a' _ => mE N sc a a'
    | _ => false
  | .cmp op a b, e' => match e' with
    | .Compare a' [op'] [b'] _ => decide (op = op') && mE N sc a a' && mE N sc b b'
    | _ => false
  | .chn op1 op2 a b c, e' => match e' with
    | .Compare a' [o1, o2] [b', c'] _ => decide (op1 = o1) && decide (op2 = o2) && mE N sc a a' && mE N sc b b' && mE N sc c c'
    | _ => false
  | .and a b, e' => match e' with
    | .BoolOp .And (a' :: b' :: r) p => mE N sc a a' && mE N sc b (.BoolOp .And (b' :: r) p)
    | _ => false
  | .or a b, e' => match e' with
    | .BoolOp .Or (a' :: b' :: r) p => mE N sc a a' && mE N sc b (.BoolOp .Or (b' :: r) p)
    | _ => false
  | .one a, e' => match e' with
    | .BoolOp _ [a'] _ => mE N sc a a'
    | _ => false
  | .not a, e' => match e' with
    | .UnaryOp .Not a' _ => mE N sc a a'
    | _ => false
  | .ife c a b, e' => match e' with
    | .IfExp c' a' b' _ => mE N sc c c' && mE N sc a a' && mE N sc b b'
    | _ => false
  | .tup es, e' => match e' with
    | .Tuple es' _ _ => mEs N sc es es'
    | _ => false
  | .lst es, e' => match e' with
    | .List es' _ => mEs N sc es es'
    | _ => false
  | .idx a b, e' => match e' with
    | .Subscript a' b' _ => mE N sc a a' && mE N sc b b'
    | _ => false
  | .slc a lo hi, e' => match e' with
    | .Subscript a' (.Slice lo' hi' none _) _ => mE N sc a a' && mEo N sc lo lo' && mEo N sc hi hi'
    | _ => false
  | .fld a f _, e' => match e' with
    | .Attribute a' f' _ => decide (f = f') && baseB a' && mE N sc a a'
    | _ => false
  | .cal f _ _ es, e' => match e' with
    | .Call (.Name f' _) es' [] _ => decide (f = f') && glB sc f && nmB f && mEs N sc es es'
    | _ => false
  | .bi b es, e' => match e' with
    | .Call (.Name f' _) (a' :: es') [] _ => decide (b.name = f') && glB sc b.name && nmB b.name && mEs N sc es (a' :: es')
    | _ => false
  | .mth m a es, e' => match e' with
    | .Call (.Attribute o n ap) (a' :: es') [] cp => decide (m.name = n) && baseB o && (ap.endLine == cp.line) && decide (es'.length < 20) && mE N sc a o && mEs N sc es (a' :: es')
    | _ => false
  | .lc own tg it c e, e' => match e' with
    | .ListComp elt [⟨tgt, iter, ifs, isa⟩] scope _ => decide (isa = 0) && blkC N sc scope own && mTg N scope tg tgt && (tg.ix.all fun i => (own.map (·.2)).contains i) && mI N sc it tgt iter && mIfs N scope c ifs && mE N scope e elt
    | _ => false
  | .isi a x t, e' => match e' with
    | .Call (.Name f _) [a', .Name y _] [] _ => decide (f = ("isinstance" : Str)) && glB sc f && decide (x = y) && glB sc y && nmB y && isiB t && decide (x = Str.ofString t) && mE N sc a a'
    | _ => false
def mEs (N : List Str) (sc : Scope) : Es → List Expr → Bool
  | .nil, es' => match es' with
    | [] => true
    | _ => false
  | .cons e es, es' => match es' with
    | e' :: r => mE N sc e e' && mEs N sc es r
    | _ => false
def mEo (N : List Str) (sc : Scope) : Eo → Option Expr → Bool
  | .non, o => match o with
    | none => true
    | _ => false
  | .som e, o => match o with
    | some e' => mE N sc e e'
    | _ => false
def mIfs (N : List Str) (sc : Scope) : Eo → List Expr → Bool
  | .non, o => match o with
    | [] => true
    | _ => false
  | .som e, o => match o with
    | [e'] => mE N sc e e'
    | _ => false
def mI (N : List Str) (sc : Scope) : I → Expr → Expr → Bool
  | .seq e, _, e' => mE N sc e e'
  | .rng1 e, _, e' => match e' with
    | .Call (.Name f _) [a] [] _ => decide (f = ("range" : Str)) && glB sc f && mE N sc e a
    | _ => false
  | .rng2 e1 e2, _, e' => match e' with
    | .Call (.Name f _) [a, b] [] _ => decide (f = ("range" : Str)) && glB sc f && mE N sc e1 a && mE N sc e2 b
    | _ => false
  | .rngd e1 e2 e3, _, e' => match e' with
    | .Call (.Name f _) [a, b, c] [] _ => decide (f = ("range" : Str)) && glB sc f && mE N sc e1 a && mE N sc e2 b && mE N sc e3 c
    | _ => false
  | .enm e, tg, e' => match e' with
    | .Call (.Name f _) [a] [] _ => decide (f = ("enumerate" : Str)) && glB sc f && isTup tg && mE N sc e a
    | _ => false
  | .zip e1 e2, tg, e' => match e' with
    | .Call (.Name f _) [a, b] [] _ => decide (f = ("zip" : Str)) && glB sc f && isTup tg && mE N sc e1 a && mE N sc e2 b
    | _ => false
end
end Eng
/-! Eng F: the rules' frame: what a place in the text is, what the slots do. -/
namespace Eng
open PySem L2
structure GC where
  P : Program
  w : World
  C : Cfg
  base : Heap
  N : List Str
  k : Nat
/-- a def that is called: its promise is F -/
def CallOk (G : GC) (f : Str) (F : List D → Option T) (dds : List D) : Prop :=
  ∃ (fa : Addr) (fd : FuncData) (ps : List Str) (dvs : List V) (ds : List Value), G.C.mg f = some (.ref fa) ∧ PySem.W.keepIn G.C.K (.ref fa) = true ∧
    FnOk G.P G.w G.C.K G.C.mg G.base CX0 G.k fa fd ps (pureSp G.C F) ∧ Binds G.C.K fd ps ds ∧ Vals dvs ds ∧ ∀ H, Dats G.C H dvs dds
def FldOk (G : GC) (f : Str) (c : Str) : Prop := ∀ A, G.C.mg c = some (.ref A) → Cls G.C.K A ∧ NoAttr G.C.K A f
def GlbOk (G : GC) (x : Str) (d : D) : Prop := ∃ (u : Value) (v : V), G.C.mg x = some u ∧ RelV v u ∧ ∀ H, Dat G.C H v d
def NoG (G : GC) (x : Str) : Prop := G.C.mg x = none
mutual
def Nd (G : GC) : E → Prop
  | .glb x d => GlbOk G x d
  | .bin _ a b => Nd G a ∧ Nd G b
  | .neg a => Nd G a
  | .cmp _ a b => Nd G a ∧ Nd G b
  | .chn _ _ a b c => Nd G a ∧ Nd G b ∧ Nd G c
  | .and a b => Nd G a ∧ Nd G b
  | .or a b => Nd G a ∧ Nd G b
  | .one a => Nd G a
  | .not a => Nd G a
  | .ife c a b => Nd G c ∧ Nd G a ∧ Nd G b
  | .tup es => Nds G es
  | .lst es => Nds G es
  | .idx a b => Nd G a ∧ Nd G b
  | .slc a lo hi => Nd G a ∧ Ndo G lo ∧ Ndo G hi
  | .fld a f cs => Nd G a ∧ ∀ c, c ∈ cs → FldOk G f c
  | .cal f F dds es => CallOk G f F dds ∧ Nds G es
  | .bi b es => NoG G b.name ∧ Nds G es
  | .mth _ a es => Nd G a ∧ Nds G es
  | .lc _ _ it c e => Ndi G it ∧ Ndo G c ∧ Nd G e
  | .isi a x _ => NoG G "isinstance" ∧ NoG G x ∧ Nd G a
  | _ => True
def Nds (G : GC) : Es → Prop
  | .nil => True
  | .cons e es => Nd G e ∧ Nds G es
def Ndo (G : GC) : Eo → Prop
  | .non => True
  | .som e => Nd G e
def Ndi (G : GC) : I → Prop
  | .seq e => Nd G e
  | .rng1 e => NoG G "range" ∧ Nd G e
  | .rng2 a b => NoG G "range" ∧ Nd G a ∧ Nd G b
  | .rngd a b c => NoG G "range" ∧ Nd G a ∧ Nd G b ∧ Nd G c
  | .enm e => NoG G "enumerate" ∧ Nd G e
  | .zip a b => NoG G "zip" ∧ Nd G a ∧ Nd G b
end
/-- a place in the text: a def's body, a comprehension's block -/
structure Good (G : GC) (sc : Scope) (X : Cx) : Prop where
  prog : X.prog = G.P
  w : X.w = G.w
  K : X.K = G.C.K
  mg : X.mg = G.C.mg
  base : X.base = G.base
  N : X.N = G.N
  nd : G.N.Nodup
  calm : X.calm = true
  room : Room G.k X.A
  kind : X.env.scope.kind = .function
  vis : ∀ x, visB sc x = true → Vis X.env.scope x
  gl : ∀ x, glB sc x = true → Gl X x
  loc : ∀ x, locB sc x = true → Loc X.env.scope x ∧ (X.fn x = true ∨ X.env.scope.names.lookup x = some .local)
  fr : ∀ x, sc.names.lookup x = some .cell ∨ sc.names.lookup x = some .free → X.env.scope.names.lookup x = some .cell ∨ X.env.scope.names.lookup x = some .free
theorem lookup_relabel_keep {env : Env} : ∀ {names : List (Str × NameKind)} {x : Str} {k : NameKind}, k ≠ .free → names.lookup x = some k →
    (names.map fun (n, k) => if (k == NameKind.free && env.scope.kind == .function && env.kindOf n == some .cell) then (n, NameKind.cell) else (n, k)).lookup x = some k
  | [], _, _, _, h => by simp at h
  | (n, k₀) :: r, x, k, hk, h => by
    have ih := @lookup_relabel_keep env r x k hk
    show List.lookup x ((if (k₀ == NameKind.free && env.scope.kind == .function && env.kindOf n == some .cell) = true then (n, NameKind.cell) else (n, k₀)) :: (r.map _)) = some k
    cases hx : x == n with
    | true =>
      simp only [List.lookup_cons, hx] at h
      cases h
      have : ¬ (k₀ == NameKind.free && env.scope.kind == .function && env.kindOf n == some .cell) = true := by
        intro z
        have z := (Bool.and_eq_true_iff.mp (Bool.and_eq_true_iff.mp z).1).1
        exact hk (by cases k₀ <;> first | rfl | cases z)
      rw [if_neg this]
      simp [List.lookup_cons, hx]
    | false =>
      simp only [List.lookup_cons, hx] at h
      split
      · simp only [List.lookup_cons, hx]; exact ih h
      · simp only [List.lookup_cons, hx]; exact ih h
theorem lookup_relabel_free {env : Env} : ∀ {names : List (Str × NameKind)} {x : Str}, names.lookup x = some .free →
    (names.map fun (n, k) => if (k == NameKind.free && env.scope.kind == .function && env.kindOf n == some .cell) then (n, NameKind.cell) else (n, k)).lookup x = some .free ∨
    (names.map fun (n, k) => if (k == NameKind.free && env.scope.kind == .function && env.kindOf n == some .cell) then (n, NameKind.cell) else (n, k)).lookup x = some .cell
  | [], _, h => by simp at h
  | (n, k₀) :: r, x, h => by
    have ih := @lookup_relabel_free env r x
    show List.lookup x ((if (k₀ == NameKind.free && env.scope.kind == .function && env.kindOf n == some .cell) = true then (n, NameKind.cell) else (n, k₀)) :: (r.map _)) = some .free ∨
      List.lookup x ((if (k₀ == NameKind.free && env.scope.kind == .function && env.kindOf n == some .cell) = true then (n, NameKind.cell) else (n, k₀)) :: (r.map _)) = some .cell
    cases hx : x == n with
    | true =>
      simp only [List.lookup_cons, hx] at h
      cases h
      split
      · right; simp [List.lookup_cons, hx]
      · left; simp [List.lookup_cons, hx]
    | false =>
      simp only [List.lookup_cons, hx] at h
      split
      · simp only [List.lookup_cons, hx]; exact ih h
      · simp only [List.lookup_cons, hx]; exact ih h
theorem Good.blk {G : GC} {sc scope : Scope} {X : Cx} (g : Good G sc X) (hk : scope.kind = .function) (s : Shared) (H : Hp) (c : Addr) (cl : List (Str × Addr)) (fp : List Addr) :
    Good G scope (X.blk s H scope (compEnvC scope cl c X.env) fp) where
  prog := g.prog
  w := g.w
  K := g.K
  mg := g.mg
  base := g.base
  N := g.N
  nd := g.nd
  calm := g.calm
  room := g.room
  kind := hk
  vis := fun x h => by
    unfold visB at h
    split at h
    · rename_i q; exact .inl (lookup_relabel_keep (by decide) q)
    · rename_i q; exact .inr (.inl (lookup_relabel_keep (by decide) q))
    · rename_i q
      rcases lookup_relabel_free (env := X.env) q with z | z
      · exact .inr (.inr z)
      · exact .inr (.inl z)
    · cases h
  gl := fun x h => by
    unfold glB at h
    split at h
    · rename_i q; exact lookup_relabel_keep (env := X.env) (by decide) q
    · cases h
  loc := fun x h => by
    unfold locB at h
    split at h
    · rename_i q; exact ⟨.inl (lookup_relabel_keep (by decide) q), .inr (lookup_relabel_keep (by decide) q)⟩
    · rename_i q; exact ⟨.inr (lookup_relabel_keep (by decide) q), .inl (by show (scope.names.lookup x == some .cell) = true; rw [q]; rfl)⟩
    · cases h
  fr := fun x h => by
    rcases h with q | q
    · exact .inl (lookup_relabel_keep (env := X.env) (by decide) q)
    · exact (lookup_relabel_free (env := X.env) q).symm
theorem Good.blkOk {G : GC} {sc scope : Scope} {X : Cx} {own : List (Str × Nat)} (g : Good G sc X) (ok : BlkOk G.N sc scope own) : BlkOk X.N X.env.scope scope own :=
  ⟨ok.kind, ok.uniq, by rw [g.N]; exact ok.ix, fun y m q => g.fr _ (ok.free y m q), by rw [g.N]; exact ok.own⟩
/-! ### the slots -/
section
variable {C : Cfg} {H0 H H' : Hp} {B : Addr → Prop} {AA : Nat → List Addr} {σ : L2.St} {ρ : Rho} {As : List Addr} {v : V} {t : T} {d : D} {i : Nat}
def frzR (ρ : Rho) : Rho := ρ.map (Option.map fun t => .sh t.d)
theorem dl_frz : dl (frzR ρ) = dl ρ := by
  unfold dl frzR
  rw [List.map_map]
  refine List.map_congr_left fun o _ => ?_
  cases o <;> rfl
theorem ow_frz : ow (frzR ρ) = fun _ => false := by
  funext i
  unfold ow frzR
  rw [List.getElem?_map]
  cases ρ[i]? with
  | none => rfl
  | some o => cases o <;> rfl
theorem sal_no (vs : List Nat) : sal vs (fun _ => false) = true := by unfold sal; simp
theorem dl_get : (dl ρ)[i]? = some (some d) ↔ ∃ t, ρ[i]? = some (some t) ∧ t.d = d := by
  unfold dl
  rw [List.getElem?_map]
  cases h : ρ[i]? with
  | none => simp
  | some o => cases o <;> simp
abbrev no : Nat → List Addr := fun _ => []
theorem ZZ_no : ZZ B no = B := by
  funext a
  simp [ZZ]
theorem Rep.frz (R : Rep C H0 B AA H σ ρ) : Rep C H0 B no H σ (frzR ρ) := by
  refine ⟨R.same, R.bs, (fun i a m => by cases m), (fun _ => List.nodup_nil), (fun i j a m => by cases m), fun i t h => ?_, by unfold frzR; rw [List.length_map]; exact R.len⟩
  unfold frzR at h
  rw [List.getElem?_map] at h
  cases q : ρ[i]? with
  | none => rw [q] at h; cases h
  | some o =>
    cases o with
    | none => rw [q] at h; cases h
    | some u =>
      rw [q] at h
      have h := Option.some.inj (Option.some.inj h)
      subst h
      obtain ⟨v, h1, h2⟩ := R.slot i u q
      refine ⟨v, h1, .sh ?_⟩
      rw [ZZ_no]
      exact h2.dat (hid_mono (Same.refl _) fun a o _ z => .inl z) fun a o m e => hid_some.mpr ⟨fun z => (R.new i a m).2.2 z, e⟩
/-- as data, from the whole heap -/
theorem Rep.dat (R : Rep C H0 B AA H σ ρ) (h : (dl ρ)[i]? = some (some d)) : ∃ v, σ[i]? = some (some v) ∧ Dat C H v d := by
  obtain ⟨t, h1, rfl⟩ := dl_get.mp h
  obtain ⟨v, h2, h3⟩ := R.slot i t h1
  exact ⟨v, h2, h3.dat hid_sub fun _ _ _ e => e⟩
mutual
theorem own_shd {F H : Hp} : ∀ {v : V} {t : T} {As : List Addr}, Own C F H v t As → t.own = false → Dat C F v t.d ∧ As = []
  | _, _, _, .sh h, _ => ⟨h, rfl⟩
  | _, _, _, .lst h hs, o => by cases o
  | _, _, _, .tup h hs, o => let ⟨k1, k2⟩ := owns_shd hs o; ⟨.tup h k1, k2⟩
  | _, _, _, .ins h hm hs hl, o => by cases o
  | _, _, _, .dic h hs hl, o => by cases o
theorem owns_shd {F H : Hp} : ∀ {vs : List V} {ts : List T} {As : List Addr}, Owns C F H vs ts As → T.owns ts = false → Dats C F vs (T.ds ts) ∧ As = []
  | _, _, _, .nil, _ => ⟨.nil, rfl⟩
  | _, _, _, .cons h hs, o => by
    have o := Bool.or_eq_false_iff.mp o
    obtain ⟨k1, k2⟩ := own_shd h o.1
    obtain ⟨k3, k4⟩ := owns_shd hs o.2
    exact ⟨.cons k1 k3, by rw [k2, k4]; rfl⟩
end
/-- as data, apart from what is owned -/
theorem Rep.datS (R : Rep C H0 B AA H σ ρ) (h : (dl ρ)[i]? = some (some d)) (o : ow ρ i = false) : ∃ v, σ[i]? = some (some v) ∧ Dat C (hid H (ZZ B AA)) v d := by
  obtain ⟨t, h1, rfl⟩ := dl_get.mp h
  obtain ⟨v, h2, h3⟩ := R.slot i t h1
  refine ⟨v, h2, ?_⟩
  unfold ow at o
  rw [h1] at o
  exact (own_shd h3 o).1
def upA (AA : Nat → List Addr) (i : Nat) (As : List Addr) : Nat → List Addr := fun j => if j = i then As else AA j
theorem upA_same : upA AA i As i = As := by simp [upA]
theorem upA_ne {j : Nat} (h : j ≠ i) : upA AA i As j = AA j := by simp [upA, h]
theorem ZZ_upA : ∀ a, ZZ B (upA AA i As) a → Zp (ZZ B AA) As a := fun a q => by
  rcases q with q | ⟨j, m⟩
  · exact .inl (.inl q)
  · by_cases h : j = i
    · subst h; rw [upA_same] at m; exact .inr m
    · rw [upA_ne h] at m; exact .inl (.inr ⟨j, m⟩)
/-- a slot is stored: an owned tree of new nodes, which the other slots do not see -/
theorem Rep.store (R : Rep C H0 (Zp B As) AA H σ ρ) (nd : As.Nodup) (new : ∀ a, a ∈ As → H0 a = none ∧ ¬ B a) (o : Own C (hid H (Zp (ZZ B AA) As)) H v t As) :
    Rep C H0 B (upA AA i As) H (σ.set i (some v)) (ρ.set i (some t)) := by
  have sub : Same (hid H (Zp (ZZ B AA) As)) (hid H (ZZ B (upA AA i As))) := hid_mono (Same.refl _) fun a _ _ q => ZZ_upA a q
  refine ⟨R.same, fun a q => R.bs a (.inl q), fun j a m => ?_, fun j => ?_, fun j l a m n => ?_, fun j u h => ?_, by rw [List.length_set, List.length_set]; exact R.len⟩
  · by_cases h : j = i
    · subst h; rw [upA_same] at m; exact ⟨(new a m).1, R.bs a (.inr m), (new a m).2⟩
    · rw [upA_ne h] at m; have := R.new j a m; exact ⟨this.1, this.2.1, fun q => this.2.2 (.inl q)⟩
  · by_cases h : j = i
    · subst h; rw [upA_same]; exact nd
    · rw [upA_ne h]; exact R.nd j
  · by_cases hj : j = i
    · by_cases hl : l = i
      · rw [hj, hl]
      · subst hj; rw [upA_same] at m; rw [upA_ne hl] at n; exact absurd (.inr m) (R.new l a n).2.2
    · rw [upA_ne hj] at m
      by_cases hl : l = i
      · subst hl; rw [upA_same] at n; exact absurd (.inr n) (R.new j a m).2.2
      · rw [upA_ne hl] at n; exact R.dj j l a m n
  · by_cases hj : i = j
    · subst hj
      have hi : i < ρ.length := by
        have := (List.getElem?_eq_some_iff.mp h).1
        rwa [List.length_set] at this
      rw [List.getElem?_set_self hi] at h
      cases h
      refine ⟨v, List.getElem?_set_self (by rw [← R.len]; exact hi), ?_⟩
      rw [upA_same]
      exact o.mono sub fun _ _ => rfl
    · rw [List.getElem?_set_ne hj] at h
      obtain ⟨u', h1, h2⟩ := R.slot j u h
      refine ⟨u', by rw [List.getElem?_set_ne hj]; exact h1, ?_⟩
      rw [upA_ne (fun q => hj q.symm)]
      rw [ZZ_Zp] at h2
      exact h2.mono sub fun _ _ => rfl
/-- shared data is stored -/
theorem Rep.storeS (R : Rep C H0 B AA H σ ρ) (h : Dat C (hid H (ZZ B AA)) v d) : Rep C H0 B (upA AA i []) H (σ.set i (some v)) (ρ.set i (some (.sh d))) :=
  Rep.store (As := []) (by rw [Zp_nil]; exact R) List.nodup_nil (fun _ m => by cases m) (by rw [Zp_nil]; exact .sh h)
/-- a slot is forgotten -/
theorem Rep.forget (R : Rep C H0 B AA H σ ρ) : Rep C H0 B AA H (σ.set i none) (ρ.set i none) := by
  refine ⟨R.same, R.bs, R.new, R.nd, R.dj, fun j u h => ?_, by rw [List.length_set, List.length_set]; exact R.len⟩
  by_cases hj : i = j
  · subst hj
    have hi : i < ρ.length := by
      have := (List.getElem?_eq_some_iff.mp h).1
      rwa [List.length_set] at this
    rw [List.getElem?_set_self hi] at h
    cases h
  · rw [List.getElem?_set_ne hj] at h
    obtain ⟨u', h1, h2⟩ := R.slot j u h
    exact ⟨u', by rw [List.getElem?_set_ne hj]; exact h1, h2⟩
theorem Rep.wipe (R : Rep C H0 B AA H σ ρ) : ∀ vs : List Nat, Rep C H0 B AA H (L2.wipe σ vs) (wipeD ρ vs)
  | [] => R
  | v :: vs => (Rep.wipe R vs).forget
theorem dl_set : dl (ρ.set i (some t)) = (dl ρ).set i (some t.d) := by unfold dl; rw [List.map_set]; rfl
theorem dl_forget : dl (ρ.set i none) = (dl ρ).set i none := by unfold dl; rw [List.map_set]; rfl
theorem dl_wipe : ∀ vs : List Nat, dl (wipeD ρ vs) = wipeD (dl ρ) vs
  | [] => rfl
  | v :: vs => by show dl ((wipeD ρ vs).set v none) = _; rw [dl_forget, dl_wipe vs]; rfl
theorem ow_set_sh {j : Nat} (h : ow (ρ.set i (some (.sh d))) j = true) : ow ρ j = true := by
  unfold ow at h ⊢
  by_cases hj : i = j
  · subst hj
    by_cases hi : i < ρ.length
    · rw [List.getElem?_set_self hi] at h; cases h
    · rw [List.getElem?_eq_none (by rw [List.length_set]; omega)] at h; cases h
  · rw [List.getElem?_set_ne hj] at h; exact h
theorem ow_forget {j : Nat} (h : ow (ρ.set i none) j = true) : ow ρ j = true := by
  unfold ow at h ⊢
  by_cases hj : i = j
  · subst hj
    by_cases hi : i < ρ.length
    · rw [List.getElem?_set_self hi] at h; cases h
    · rw [List.getElem?_eq_none (by rw [List.length_set]; omega)] at h; cases h
  · rw [List.getElem?_set_ne hj] at h; exact h
theorem ow_wipe {j : Nat} : ∀ {vs : List Nat}, ow (wipeD ρ vs) j = true → ow ρ j = true
  | [], h => h
  | v :: vs, h => ow_wipe (ow_forget h)
theorem sal_mono {vs : List Nat} {o o' : Nat → Bool} (k : ∀ i, o' i = true → o i = true) (h : sal vs o = true) : sal vs o' = true := by
  unfold sal at h ⊢
  rw [List.all_eq_true] at h ⊢
  intro i m
  have := h i m
  cases q : o' i with
  | false => rfl
  | true => rw [k i q] at this; exact this
theorem sal_app {vs us : List Nat} {o : Nat → Bool} : sal (vs ++ us) o = true ↔ sal vs o = true ∧ sal us o = true := by
  unfold sal
  rw [List.all_append, Bool.and_eq_true]
end
end Eng
/-! Eng G: readings of expressions; each rule by its parts. -/
namespace Eng
open PySem L2
def tE (C : Cfg) (e : E) : TE := fun σ H Q => ∃ (H0 : Hp) (B : Addr → Prop) (AA : Nat → List Addr) (ρ : Rho) (t : T), Rep C H0 B AA H σ ρ ∧ ev e (dl ρ) = some t ∧ sal (avs e) (ow ρ) = true ∧
  ∀ As v H', Post C (ZZ B AA) H t true As v H' → Q v H'
def tA (C : Cfg) (es : Es) : TA := fun σ H Q => ∃ (H0 : Hp) (B : Addr → Prop) (AA : Nat → List Addr) (ρ : Rho) (ts : List T), Rep C H0 B AA H σ ρ ∧ evs es (dl ρ) = some ts ∧ sal (avss es) (ow ρ) = true ∧
  ∀ As vs H', Posts C (ZZ B AA) H ts true As vs H' → Q vs H'
def tO (C : Cfg) (o : Eo) : TO := fun σ H Q => ∃ (H0 : Hp) (B : Addr → Prop) (AA : Nat → List Addr) (ρ : Rho) (l : Option Int), Rep C H0 B AA H σ ρ ∧ evo o (dl ρ) = some l ∧ ∀ H', Same H H' → Q l H'
def tT (C : Cfg) (e : E) : TT := fun σ H Q => ∃ (H0 : Hp) (B : Addr → Prop) (AA : Nat → List Addr) (ρ : Rho) (b : Bool), Rep C H0 B AA H σ ρ ∧ tst e (dl ρ) = some b ∧ ∀ H', Same H H' → Q b H'
def tTo (C : Cfg) (o : Eo) : TT := fun σ H Q => ∃ (H0 : Hp) (B : Addr → Prop) (AA : Nat → List Addr) (ρ : Rho) (b : Bool), Rep C H0 B AA H σ ρ ∧ tsto o (dl ρ) = some b ∧ ∀ H', Same H H' → Q b H'
/-- what is walked: the items, while F stands -/
def WalkD (C : Cfg) (F : Hp) (J : It) (ds : List D) : Prop := ∃ (W : Hp → Prop) (Y : Nat → Hp → V → Hp → Prop), Walk J ds.length W Y ∧ (∀ H, Same F H → W H) ∧
  ∀ (i : Nat) (d : D) (H2 : Hp) (x : V) (H3 : Hp), ds[i]? = some d → Same F H2 → Y i H2 x H3 → Same H2 H3 ∧ ∀ Z : Addr → Prop, (∀ a, Z a → nTup H2 a) → Same F (hid H2 Z) → Dat C (hid H3 Z) x d
def tI (C : Cfg) (it : I) : TI := fun σ H R => ∃ (H0 : Hp) (B : Addr → Prop) (AA : Nat → List Addr) (ρ : Rho) (ds : List D), Rep C H0 B AA H σ ρ ∧ evi it (dl ρ) = some ds ∧ sal (avi it) (ow ρ) = true ∧
  ∀ J H1, Same H H1 → WalkD C (hid H1 (ZZ B AA)) J ds → R J H1
theorem _root_.L2.PE.imp {X : Cx} {e : Expr} {t t' : TE} (h : PE X e t) (k : ∀ σ H Q, t' σ H Q → t σ H Q) : PE X e t' := ⟨fun pins s σ H Q I q => h.run pins s σ H Q I (k _ _ _ q)⟩
theorem _root_.L2.PT.imp {X : Cx} {e : Expr} {t t' : TT} (h : PT X e t) (k : ∀ σ H Q, t' σ H Q → t σ H Q) : PT X e t' := ⟨fun pins s σ H Q I q => h.run pins s σ H Q I (k _ _ _ q)⟩
theorem _root_.L2.PW.imp {X : Cx} {e : Expr} {t t' : TT} (h : PW X e t) (k : ∀ σ H Q, t' σ H Q → t σ H Q) : PW X e t' := ⟨fun wh pins s σ H Q I q => h.run wh pins s σ H Q I (k _ _ _ q)⟩
theorem _root_.L2.PA.imp {X : Cx} {e : List Expr} {t t' : TA} (h : PA X e t) (k : ∀ σ H Q, t' σ H Q → t σ H Q) : PA X e t' := ⟨fun pos pins s σ H Q I q => h.run pos pins s σ H Q I (k _ _ _ q)⟩
theorem _root_.L2.PO.imp {X : Cx} {e : Option Expr} {t t' : TO} (h : PO X e t) (k : ∀ σ H Q, t' σ H Q → t σ H Q) : PO X e t' := ⟨fun pins s σ H Q I q => h.run pins s σ H Q I (k _ _ _ q)⟩
theorem _root_.L2.PI.imp {X : Cx} {tg e : Expr} {t t' : TI} (h : PI X tg e t) (k : ∀ σ H Q, t' σ H Q → t σ H Q) : PI X tg e t' := ⟨fun pins s σ H R I q => h.run pins s σ H R I (k _ _ _ q)⟩
theorem _root_.L2.PI.or {X : Cx} {tg e : Expr} {t t' : TI} (h : PI X tg e t) (h' : PI X tg e t') : PI X tg e (fun σ H R => t σ H R ∨ t' σ H R) := ⟨fun pins s σ H R I q => q.elim (h.run pins s σ H R I) (h'.run pins s σ H R I)⟩
theorem bnd {α β : Type} {o : Option α} {f : α → Option β} {b : β} (h : o.bind f = some b) : ∃ a, o = some a ∧ f a = some b := by
  cases o with
  | none => cases h
  | some a => exact ⟨a, rfl, h⟩
section
variable {C : Cfg} {H0 H H1 H' : Hp} {B : Addr → Prop} {AA : Nat → List Addr} {σ : L2.St} {ρ : Rho} {As : List Addr} {x y t : T} {v w : V} {d : D} {a b e : E} {es : Es} {ts : List T} {f : List D → Option T} {Z : Addr → Prop}
/-- a part, read -/
theorem tE_of {Q : VK} (R : Rep C H0 B AA H σ ρ) (h : ev e (dl ρ) = some t) (s : sal (avs e) (ow ρ) = true) (q : ∀ As v H', Post C (ZZ B AA) H t true As v H' → Q v H') : tE C e σ H Q := ⟨H0, B, AA, ρ, t, R, h, s, q⟩
theorem tE_frz {Q : VK} (R : Rep C H0 B AA H σ ρ) (h : ev e (dl ρ) = some t) (q : ∀ As v H', Post C (ZZ B no) H t true As v H' → Q v H') : tE C e σ H Q :=
  ⟨H0, B, no, frzR ρ, t, R.frz, by rw [dl_frz]; exact h, by rw [ow_frz]; exact sal_no _, q⟩
/-- a result without lists, from a reading with all let go -/
theorem fin_no {Z' : Addr → Prop} (R : Rep C H0 B AA H σ ρ) (e : Same H H1) (p : Post C Z' H1 t true As v H') (hd : t = .sh d) (n : noL d = true) : Post C (ZZ B AA) H t true [] v H' := by
  subst hd
  exact Post.sh' (e.trans p.same) p.dat fun _ => p.dat.hide (fun a q => (R.z a q).mono (e.trans p.same)) n
theorem rP_of {vs : List V} {Q : VK} (z : ∀ a, Z a → nTup H a) (ps : Posts C Z H ts true As vs H1) (h : f (T.ds ts) = some t) (q : ∀ Bs v H', Post C Z H1 t true Bs v H' → Q v H') : rP C f vs H1 Q :=
  ⟨T.ds ts, t, Z, true, ps.dat, fun a => ps.dh z a, fun a q => (z a q).mono ps.same, h, q⟩
def two (ta tb : TE) (G : V → V → Hp → Prop) : L2.St → Hp → Prop := fun σ H => ta σ H fun x H1 => tb σ H1 fun y H2 => G x y H2
/-- two parts, then the promise of the operation -/
theorem two_of {G : V → V → Hp → Prop} (R : Rep C H0 B AA H σ ρ) (h1 : ev a (dl ρ) = some x) (h2 : ev b (dl ρ) = some y) (s1 : sal (avs a) (ow ρ) = true) (s2 : sal (avs b) (ow ρ) = true)
    (q : ∀ As v w H2, Posts C (ZZ B AA) H [x, y] true As [v, w] H2 → G v w H2) : two (tE C a) (tE C b) G σ H :=
  tE_of R h1 s1 fun As v H1 p => tE_of (R.grow p.same p.new) h2 s2 fun Bs w H2 p2 => q _ v w H2 (Posts.cons p (Posts.cons (by rw [ZZ_Zp] at p2; exact p2) Posts.nil))
theorem two_frz {G : V → V → Hp → Prop} (R : Rep C H0 B AA H σ ρ) (h1 : ev a (dl ρ) = some x) (h2 : ev b (dl ρ) = some y)
    (q : ∀ As v w H2, Posts C (ZZ B no) H [x, y] true As [v, w] H2 → G v w H2) : two (tE C a) (tE C b) G σ H :=
  two_of (C := C) R.frz (by rw [dl_frz]; exact h1) (by rw [dl_frz]; exact h2) (by rw [ow_frz]; exact sal_no _) (by rw [ow_frz]; exact sal_no _) q
theorem op_of {Q : VK} (R : Rep C H0 B AA H σ ρ) (h1 : ev a (dl ρ) = some x) (h2 : ev b (dl ρ) = some y) (hf : f [x.d, y.d] = some t)
    (rel : (sal (avs a) (ow ρ) = true ∧ sal (avs b) (ow ρ) = true) ∨ ∃ d, t = .sh d ∧ noL d = true) (q : ∀ As v H', Post C (ZZ B AA) H t true As v H' → Q v H') :
    tOp (fun x y H Q => rP C f [x, y] H Q) (tE C a) (tE C b) σ H Q := by
  rcases rel with ⟨s1, s2⟩ | ⟨d, hd, n⟩
  · exact two_of R h1 h2 s1 s2 fun As v w H2 ps => rP_of R.z ps hf fun Bs u H' p => q Bs u H' (p.back ps.same)
  · exact two_frz R h1 h2 fun As v w H2 ps => rP_of R.frz.z ps hf fun Bs u H' p => q [] u H' (fin_no R ps.same p hd n)
theorem tA_of {Q : List V → Hp → Prop} (R : Rep C H0 B AA H σ ρ) (h : evs es (dl ρ) = some ts) (s : sal (avss es) (ow ρ) = true) (q : ∀ As vs H', Posts C (ZZ B AA) H ts true As vs H' → Q vs H') : tA C es σ H Q := ⟨H0, B, AA, ρ, ts, R, h, s, q⟩
theorem tA_frz {Q : List V → Hp → Prop} (R : Rep C H0 B AA H σ ρ) (h : evs es (dl ρ) = some ts) (q : ∀ As vs H', Posts C (ZZ B no) H ts true As vs H' → Q vs H') : tA C es σ H Q :=
  ⟨H0, B, no, frzR ρ, ts, R.frz, by rw [dl_frz]; exact h, by rw [ow_frz]; exact sal_no _, q⟩
/-- an argument list, then the promise of what is called -/
theorem args_of {Q : VK} (R : Rep C H0 B AA H σ ρ) (h : evs es (dl ρ) = some ts) (hf : f (T.ds ts) = some t) (rel : sal (avss es) (ow ρ) = true ∨ ∃ d, t = .sh d ∧ noL d = true)
    (q : ∀ As v H', Post C (ZZ B AA) H t true As v H' → Q v H') : tCB (fun vs H Q => rP C f vs H Q) (tA C es) σ H Q := by
  rcases rel with s | ⟨d, hd, n⟩
  · exact tA_of R h s fun As vs H2 ps => rP_of R.z ps hf fun Bs u H' p => q Bs u H' (p.back ps.same)
  · exact tA_frz R h fun As vs H2 ps => rP_of R.frz.z ps hf fun Bs u H' p => q [] u H' (fin_no R ps.same p hd n)
end
/-! ### which results have no lists -/
theorem i2_no {f : Int → Int → Option T} {xs : List D} {t : T} (hf : ∀ i j t, f i j = some t → ∃ d, t = .sh d ∧ noL d = true) (h : i2 f xs = some t) : ∃ d, t = .sh d ∧ noL d = true := by
  obtain ⟨i, j, _, e⟩ := i2_inv h
  exact hf i j t e
theorem s2_no {f : List Nat → List Nat → Option T} {xs : List D} {t : T} (hf : ∀ i j t, f i j = some t → ∃ d, t = .sh d ∧ noL d = true) (h : s2 f xs = some t) : ∃ d, t = .sh d ∧ noL d = true := by
  obtain ⟨i, j, _, e⟩ := s2_inv h
  exact hf i j t e
theorem binD_no {op : Operator} (h : opSca op = true) {xs : List D} {t : T} (e : binD op xs = some t) : ∃ d, t = .sh d ∧ noL d = true := by
  cases op <;> first
    | (exact absurd h (by decide))
    | (cases e; done)
    | (exact i2_no (fun i j t e => ⟨_, sc_inj e, rfl⟩) e)
    | (exact i2_no (fun i j t e => ⟨_, (iff_inv e).2, rfl⟩) e)
theorem cmpD_no {op : CmpOp} {xs : List D} {t : T} (e : cmpD op xs = some t) : ∃ b, t = .sh (.bl b) := by
  have e2 : ∀ neg, orE (s2 fun a b => sc (.bl (if neg then !decide (a = b) else decide (a = b)))) (eqT neg) xs = some t → ∃ b, t = .sh (.bl b) := fun neg e => by
    rcases orE_inv e with e | e
    · obtain ⟨i, j, _, e⟩ := s2_inv e
      exact ⟨_, sc_inj e⟩
    · unfold eqT at e
      split at e
      · obtain ⟨b, _, e⟩ := map_inv e
        exact ⟨_, e.symm⟩
      · cases e
  have e3 : ∀ neg, inD neg xs = some t → ∃ b, t = .sh (.bl b) := fun neg e => by
    unfold inD at e
    split at e
    · exact ⟨_, sc_inj e⟩
    · exact ⟨_, (iff_inv e).2⟩
    · exact ⟨_, (iff_inv e).2⟩
    · cases e
  have e4 : ∀ neg, isD neg xs = some t → ∃ b, t = .sh (.bl b) := fun neg e => by
    unfold isD at e
    split at e
    · exact ⟨_, sc_inj e⟩
    · exact ⟨_, sc_inj e⟩
    · cases e
  cases op with
  | Eq => exact e2 false e
  | NotEq => exact e2 true e
  | Lt => obtain ⟨i, j, _, e⟩ := i2_inv e; exact ⟨_, sc_inj e⟩
  | LtE => obtain ⟨i, j, _, e⟩ := i2_inv e; exact ⟨_, sc_inj e⟩
  | Gt => obtain ⟨i, j, _, e⟩ := i2_inv e; exact ⟨_, sc_inj e⟩
  | GtE => obtain ⟨i, j, _, e⟩ := i2_inv e; exact ⟨_, sc_inj e⟩
  | Is => exact e4 false e
  | IsNot => exact e4 true e
  | In => exact e3 false e
  | NotIn => exact e3 true e
theorem biD_no {b : Bi} (h : b.sca = true) {xs : List D} {t : T} (e : biD b xs = some t) : ∃ d, t = .sh d ∧ noL d = true := by
  cases b with
  | list => cases h
  | tuple => cases h
  | len =>
    have e : lenD xs = some t := e
    unfold lenD at e
    split at e
    · exact ⟨_, (iff_inv e).2, rfl⟩
    · exact ⟨_, sc_inj e, rfl⟩
    · exact ⟨_, sc_inj e, rfl⟩
    · exact ⟨_, sc_inj e, rfl⟩
    · cases e
  | int =>
    rcases orE_inv e with e | e
    · obtain ⟨i, _, e⟩ := i1_inv e; exact ⟨_, sc_inj e, rfl⟩
    · rcases orE_inv e with e | e
      · obtain ⟨i, _, e⟩ := b1_inv e; exact ⟨_, sc_inj e, rfl⟩
      · obtain ⟨i, _, e⟩ := s1_inv e
        split at e
        · exact ⟨_, (iff_inv e).2, rfl⟩
        · cases e
  | str => obtain ⟨i, _, e⟩ := i1_inv e; exact ⟨_, (iff_inv e).2, rfl⟩
  | sum =>
    simp only [biD] at e
    split at e
    · obtain ⟨_, _, rfl⟩ := map_inv e
      exact ⟨_, rfl, rfl⟩
    · cases e
  | any =>
    simp only [biD] at e
    split at e
    · obtain ⟨_, _, rfl⟩ := map_inv e
      exact ⟨_, rfl, rfl⟩
    · cases e
  | all =>
    simp only [biD] at e
    split at e
    · obtain ⟨_, _, rfl⟩ := map_inv e
      exact ⟨_, rfl, rfl⟩
    · cases e
  | max => obtain ⟨i, j, _, e⟩ := i2_inv e; exact ⟨_, sc_inj e, rfl⟩
  | min => obtain ⟨i, j, _, e⟩ := i2_inv e; exact ⟨_, sc_inj e, rfl⟩
  | abs => obtain ⟨i, _, e⟩ := i1_inv e; exact ⟨_, sc_inj e, rfl⟩
theorem mtD_no {m : Mt} (h : m.sca = true) {xs : List D} {t : T} (e : mtD m xs = some t) : ∃ d, t = .sh d ∧ noL d = true := by
  cases m with
  | split => cases h
  | partition => cases h
  | join =>
    simp only [mtD] at e
    split at e
    · split at e
      · exact ⟨_, (iff_inv e).2, rfl⟩
      · cases e
    · cases e
  | startswith => exact s2_no (fun i j t e => ⟨_, sc_inj e, rfl⟩) e
  | endswith => exact s2_no (fun i j t e => ⟨_, sc_inj e, rfl⟩) e
  | find => exact s2_no (fun i j t e => ⟨_, sc_inj e, rfl⟩) e
  | find3 =>
    simp only [mtD] at e
    split at e
    · exact ⟨_, sc_inj e, rfl⟩
    · cases e
  | strip => exact s2_no (fun i j t e => ⟨_, (iff_inv e).2, rfl⟩) e
  | rstrip => exact s2_no (fun i j t e => ⟨_, (iff_inv e).2, rfl⟩) e
  | count => exact s2_no (fun i j t e => ⟨_, sc_inj e, rfl⟩) e
end Eng
/-! Eng H: which text an expression is: the plain facts of the text's form. -/
namespace Eng
open PySem L2
/-- no star, slice, set, comprehension of another kind -/
def nice : Expr → Bool
  | .Starred .. | .Slice .. | .Set .. | .SetComp .. | .DictComp .. => false
  | _ => true
theorem mE_nice {N : List Str} {sc : Scope} {e : E} {e' : Expr} (h : mE N sc e e' = true) : nice e' = true := by
  cases e' <;> first
    | rfl
    | (cases e <;> (unfold mE at h; first | (exact absurd h Bool.false_ne_true) | (split at h <;> first | (exact absurd h Bool.false_ne_true) | (rename_i q; cases q; done) | cases h)))
theorem mEs_nice {N : List Str} {sc : Scope} : ∀ {es : Es} {es' : List Expr}, mEs N sc es es' = true → es'.all nice = true
  | .nil, [], _ => rfl
  | .nil, _ :: _, h => by unfold mEs at h; cases h
  | .cons e es, [], h => by unfold mEs at h; cases h
  | .cons e es, a :: r, h => by
    unfold mEs at h
    have h := Bool.and_eq_true_iff.mp h
    rw [List.all_cons, mE_nice h.1, mEs_nice h.2]; rfl
section
variable {env : Env} {e : Expr} {es : List Expr} {pos : Pos}
theorem star_cons (h : nice e = true) : starEach (e :: es) env = (false, eval e env) :: starEach es env := by
  cases e <;> first | rfl | (exact absurd h Bool.false_ne_true)
theorem star_all : ∀ {es : List Expr}, es.all nice = true → ∀ x ∈ starEach es env, x.1 = false
  | [], _, x, m => by unfold starEach at m; cases m
  | e :: es, h, x, m => by
    rw [List.all_cons, Bool.and_eq_true] at h
    rw [star_cons h.1] at m
    rcases List.mem_cons.mp m with rfl | m
    · rfl
    · exact star_all h.2 x m
theorem star_any (h : es.all nice = true) : (backTo pos (starEach es env)).any (·.1) = false := by
  unfold backTo
  rw [List.any_map, List.any_eq_false]
  intro x m
  show ¬ x.1 = true
  rw [star_all h x m]; exact Bool.false_ne_true
theorem star_few (h : es.all nice = true) : (backTo pos (starEach es env)).all (fun x => !x.1) = true := by
  unfold backTo
  rw [List.all_map, List.all_eq_true]
  intro x m
  show (!x.1) = true
  rw [star_all h x m]; rfl
theorem base_ok {f : Str} {w : Sem Value} (h : baseB e = true) : attributeBase e f env w = w := by
  unfold attributeBase
  split
  · exact absurd h Bool.false_ne_true
  · rfl
theorem ix_plain (h : nice e = true) : PlainIx e := by
  intro o i
  cases e <;> first | rfl | (exact absurd h Bool.false_ne_true)
theorem set_plain (h : nice e = true) (x : Value) : foldedSetIterable e env x = pure x := by
  cases e <;> first | rfl | (exact absurd h Bool.false_ne_true)
theorem mark_plain {op : CmpOp} (h : nice e = true) : behindInMarks op e = false := by
  cases e <;> first | rfl | (exact absurd h Bool.false_ne_true)
theorem last_plain {o1 o2 : CmpOp} {b : Expr} (h : nice e = true) : lastMarks [o1, o2] [b, e] = false := by
  show lastMarks [o2] [e] = false
  exact mark_plain h
/-- what is tested by its worth -/
def plainT : Expr → Bool
  | .Name .. | .Call .. | .Subscript .. | .Attribute .. | .Constant .. => true
  | _ => false
theorem tru_plain (h : plainT e = true) (whole : Sem Value) : isTrue e env whole = (do let v ← whole; standAt e.pos; holding [v] (truthy v)) := by
  cases e <;> first | (exact absurd h Bool.false_ne_true) | rfl
end
theorem and3 {a b c : Bool} (h : (a && b && c) = true) : a = true ∧ b = true ∧ c = true := by
  have h := Bool.and_eq_true_iff.mp h
  have h1 := Bool.and_eq_true_iff.mp h.1
  exact ⟨h1.1, h1.2, h.2⟩
theorem nmB_inv {x : Str} (h : nmB x = true) : (x == ("__debug__" : Str)) = false ∧ (x == ("__classdict__" : Str)) = false ∧ x ≠ "__name__" := by
  unfold nmB at h
  obtain ⟨h1, h2, h3⟩ := and3 h
  refine ⟨by simpa using h1, by simpa using h2, by simpa using h3⟩
end Eng
/-! Eng I: expressions are what they reckon: one lemma a form. -/
namespace Eng
open PySem L2
def SoE (G : GC) (sc : Scope) (X : Cx) (e : E) (e' : Expr) : Prop := PE X e' (tE G.C e) ∧ PT X e' (tT G.C e) ∧ ∀ op vs p, e' = .BoolOp op vs p → PW X e' (tT G.C e)
section
variable {G : GC} {sc : Scope} {X : Cx} {e a b c : E} {e' a' b' c' : Expr} {pos p : Pos}
theorem pt_no (h : ∀ δ, tst e δ = none) : PT X e' (tT G.C e) := ⟨fun pins s σ H Q I q => by
  obtain ⟨H0, B, AA, ρ, k, R, q, _⟩ := q
  rw [h] at q; cases q⟩
theorem pw_no (h : ∀ δ, tst e δ = none) : PW X e' (tT G.C e) := ⟨fun wh pins s σ H Q I q => by
  obtain ⟨H0, B, AA, ρ, k, R, q, _⟩ := q
  rw [h] at q; cases q⟩
/-- a value's truth -/
theorem pt_val (g : Good G sc X) (hp : PE X e' (tE G.C e)) (hn : plainT e' = true) (ht : ∀ δ k, tst e δ = some k → ∃ t, ev e δ = some t ∧ truD t.d = some k) : PT X e' (tT G.C e) :=
  (pt_truth hp (tru_plain hn)).imp fun σ H Q q => by
    obtain ⟨H0, B, AA, ρ, k, R, q, kk⟩ := q
    obtain ⟨t, h1, h2⟩ := ht _ _ q
    exact tE_frz R h1 fun As v H' p => ⟨k, tru_V p.dat h2, kk _ p.same⟩
theorem so_val (g : Good G sc X) (hp : PE X e' (tE G.C e)) (hn : plainT e' = true) (ht : ∀ δ k, tst e δ = some k → ∃ t, ev e δ = some t ∧ truD t.d = some k) : SoE G sc X e e' :=
  ⟨hp, pt_val g hp hn ht, fun op vs p q => by subst q; cases hn⟩
theorem so_no (hp : PE X e' (tE G.C e)) (ht : ∀ δ, tst e δ = none) : SoE G sc X e e' := ⟨hp, pt_no ht, fun _ _ _ _ => pw_no ht⟩
theorem so_var {i : Nat} {x : Str} (g : Good G sc X) (hN : G.N[i]? = some x) (hv : visB sc x = true) (hn : nmB x = true) : SoE G sc X (.var i) (.Name x pos) := by
  obtain ⟨n1, n2, n3⟩ := nmB_inv hn
  refine so_val g ((pe_var (i := i) (by rw [g.N]; exact hN) (g.vis x hv) n1 n2).imp fun σ H Q q => ?_) rfl fun δ k h => ?_
  · obtain ⟨H0, B, AA, ρ, t, R, h, s, q⟩ := q
    simp only [ev] at h
    split at h
    · rename_i d hd
      cases h
      obtain ⟨v, h1, h2⟩ := R.datS hd (by
        have s : ((!ow ρ i) && true) = true := s
        rw [Bool.and_true] at s
        simpa using s)
      exact ⟨v, h1, q [] v H (Post.sh (h2.mono hid_sub) fun _ => h2)⟩
    · cases h
  · unfold tst at h
    split at h
    · rename_i d hd
      exact ⟨.sh d, by unfold ev; rw [hd], h⟩
    · cases h
theorem so_cst {d : D} {cc : Const} {j : Nat} (g : Good G sc X) (hc : mC d cc = true) : SoE G sc X (.cst d) (.Constant cc j pos) := by
  have key : ∀ v : V, PE X (.Constant cc j pos) (tC v) → (∀ H, Dat G.C H v d) → PE X (.Constant cc j pos) (tE G.C (.cst d)) := fun v hp hd => hp.imp fun σ H Q q => by
    obtain ⟨H0, B, AA, ρ, t, R, h, s, q⟩ := q
    cases h
    exact q [] v H (Post.sh (hd H) fun _ => hd _)
  have hp : PE X (.Constant cc j pos) (tE G.C (.cst d)) := by
    cases d <;> cases cc <;> first
      | (exact absurd hc Bool.false_ne_true)
      | (exact key _ pe_non fun _ => .non)
      | skip
    · have := eq_of_beq hc; subst this; exact key _ pe_bl fun _ => .bl _
    · have := eq_of_beq hc; subst this; exact key _ pe_int fun _ => .int _
    · have : _ = _ := of_decide_eq_true hc
      subst this; exact key _ pe_str fun _ => .str _
  exact so_val g hp rfl fun δ k h => ⟨.sh d, rfl, by unfold tst at h; exact h⟩
theorem so_glb {x : Str} {d : D} (g : Good G sc X) (hl : glB sc x = true) (hn : nmB x = true) (n : GlbOk G x d) : SoE G sc X (.glb x d) (.Name x pos) := by
  obtain ⟨u, v, hm, r, hd⟩ := n
  refine so_no ((pe_glob (g.gl x hl) (by rw [g.mg]; exact hm) r (nmB_inv hn).1).imp fun σ H Q q => ?_) fun δ => by unfold tst; rfl
  obtain ⟨H0, B, AA, ρ, t, R, h, s, q⟩ := q
  cases h
  exact q [] v H (Post.sh (hd H) fun _ => hd _)
theorem so_bin {op : Operator} (ha : SoE G sc X a a') (hb : SoE G sc X b b') : SoE G sc X (.bin op a b) (.BinOp a' op b' pos) := by
  refine so_no ((pe_op (bin_ok (C := G.C) op) ha.1 hb.1).imp fun σ H Q q => ?_) fun δ => by unfold tst; rfl
  obtain ⟨H0, B, AA, ρ, t, R, h, s, q⟩ := q
  unfold ev at h
  obtain ⟨x, h1, h⟩ := bnd h
  obtain ⟨y, h2, h⟩ := bnd h
  refine op_of R h1 h2 h ?_ q
  unfold avs at s
  by_cases ho : opSca op = true
  · exact .inr (binD_no ho h)
  · rw [if_neg ho] at s
    exact .inl (sal_app.mp s)
theorem so_neg (ha : SoE G sc X a a') : SoE G sc X (.neg a) (.UnaryOp .USub a' pos) := by
  refine ⟨(pe_un un_neg ha.1).imp fun σ H Q q => ?_, pt_no fun δ => by unfold tst; rfl, fun _ _ _ q => nomatch q⟩
  obtain ⟨H0, B, AA, ρ, t, R, h, s, q⟩ := q
  unfold ev at h
  obtain ⟨x, h1, h⟩ := bnd h
  obtain ⟨i, e1, h⟩ := i1_inv h
  have := sc_inj h; subst this
  refine tE_frz R h1 fun As v H' p => ⟨i, ?_, q [] _ H' (Post.sh' p.same (.int _) fun _ => .int _)⟩
  have := p.dat
  have e1 : x.d = .int i := (List.cons.inj e1).1
  rw [e1] at this
  exact this.vint
theorem so_cmp {op : CmpOp} (g : Good G sc X) (ha : SoE G sc X a a') (hb : SoE G sc X b b') (nb : nice b' = true) : SoE G sc X (.cmp op a b) (.Compare a' [op] [b'] pos) := by
  have hc := cmp_ok (X := X) (C := G.C) g.room.units g.K op
  refine ⟨(pe_cmpR hc ha.1 hb.1 (mark_plain nb)).imp fun σ H Q q => ?_, (pt_cmpR hc ha.1 hb.1 (mark_plain nb)).imp fun σ H Q q => ?_, fun _ _ _ q => nomatch q⟩
  · obtain ⟨H0, B, AA, ρ, t, R, h, s, q⟩ := q
    unfold ev at h
    obtain ⟨x, h1, h⟩ := bnd h
    obtain ⟨y, h2, h⟩ := bnd h
    obtain ⟨k, rfl⟩ := cmpD_no h
    exact op_of R h1 h2 h (.inr ⟨_, rfl, rfl⟩) q
  · obtain ⟨H0, B, AA, ρ, k, R, h, q⟩ := q
    unfold tst at h
    obtain ⟨x, h1, h⟩ := bnd h
    obtain ⟨y, h2, h⟩ := bnd h
    obtain ⟨t, h3, h⟩ := bnd h
    obtain ⟨k', rfl⟩ := cmpD_no h3
    have h : some k' = some k := h
    cases h
    exact op_of R h1 h2 h3 (.inr ⟨_, rfl, rfl⟩) fun As v H' p => ⟨k, p.dat.vbl, q _ p.same⟩
theorem so_chn {o1 o2 : CmpOp} (g : Good G sc X) (ha : SoE G sc X a a') (hb : SoE G sc X b b') (hc : SoE G sc X c c') (nc : nice c' = true) : SoE G sc X (.chn o1 o2 a b c) (.Compare a' [o1, o2] [b', c'] pos) := by
  have h1 := cmp_ok (X := X) (C := G.C) g.room.units g.K o1
  have h2 := cmp_ok (X := X) (C := G.C) g.room.units g.K o2
  have key : ∀ (σ : L2.St) (H : Hp) (Q : VK) (H0 : Hp) (B : Addr → Prop) (AA : Nat → List Addr) (ρ : Rho) (x y r : T) (k : Bool), Rep G.C H0 B AA H σ ρ → ev a (dl ρ) = some x → ev b (dl ρ) = some y → cmpD o1 [x.d, y.d] = some r → blD r.d = some k →
      (k = false → ∀ H', Same H H' → Q (.bl false) H') → (k = true → ∃ z r2, ev c (dl ρ) = some z ∧ cmpD o2 [y.d, z.d] = some r2 ∧ ∀ k' H', r2 = .sh (.bl k') → Same H H' → Q (.bl k') H') →
      tChain (fun x y H Q => rP G.C (cmpD o1) [x, y] H Q) (fun x y H Q => rP G.C (cmpD o2) [x, y] H Q) (tE G.C a) (tE G.C b) (tE G.C c) σ H Q := by
    intro σ H Q H0 B AA ρ x y r k R e1 e2 e3 e4 q0 q1
    refine two_frz (G := fun v w H2 => rP G.C (cmpD o1) [v, w] H2 fun z H3 => ∃ k, z = .bl k ∧ (if k = true then tE G.C c σ H3 fun w' H4 => rP G.C (cmpD o2) [w, w'] H4 Q else Q (.bl false) H3)) R e1 e2 fun As v w H2 ps => ?_
    refine rP_of R.frz.z ps e3 fun Bs u H3 p3 => ?_
    obtain ⟨kk, rfl⟩ := cmpD_no e3
    cases e4
    refine ⟨k, p3.dat.vbl, ?_⟩
    cases k with
    | false => exact q0 rfl H3 (ps.same.trans p3.same)
    | true =>
      obtain ⟨z, r2, e5, e6, q1⟩ := q1 rfl
      have R2 := R.frz.mono (ps.same.trans p3.same)
      refine tE_frz R2 (by rw [dl_frz]; exact e5) fun Cs w' H4 p4 => ?_
      have hw : Dat G.C H4 w y.d := by
        have := ps.dat
        cases this with | cons _ h => cases h with | cons h _ => exact h.mono (p3.same.trans p4.same)
      have ps2 : Posts G.C (fun _ => False) H4 [.sh y.d, .sh z.d] true [] [w, w'] H4 := by
        have n0 : hid H4 (fun _ => False) = H4 := by funext a; exact hid_out fun z => z
        refine Posts.cons (As := []) (al := true) (al' := true) (Post.sh hw fun _ => by rw [n0]; exact hw) (Posts.cons (As := []) (al := true) (al' := true) (Bs := []) (Post.sh p4.dat fun _ => ?_) Posts.nil)
        rw [Zp_nil, n0]; exact p4.dat
      refine rP_of (fun _ z => z.elim) ps2 e6 fun Ds u' H5 p5 => ?_
      obtain ⟨k', rfl⟩ := cmpD_no e6
      have := p5.dat.vbl
      rw [this]
      exact q1 k' H5 rfl (ps.same.trans (p3.same.trans (p4.same.trans p5.same)))
  refine ⟨(pe_chain h1 h2 ha.1 hb.1 hc.1 (last_plain nc)).imp fun σ H Q q => ?_, (pt_chain h1 h2 ha.1 hb.1 hc.1 (last_plain nc)).imp fun σ H Q q => ?_, fun _ _ _ q => nomatch q⟩
  · obtain ⟨H0, B, AA, ρ, t, R, h, s, q⟩ := q
    unfold ev at h
    obtain ⟨x, e1, h⟩ := bnd h
    obtain ⟨y, e2, h⟩ := bnd h
    obtain ⟨r, e3, h⟩ := bnd h
    obtain ⟨k, e4, h⟩ := bnd h
    refine key σ H Q H0 B AA ρ x y r k R e1 e2 e3 e4 (fun hk H' s => ?_) fun hk => ?_
    · subst hk
      have := sc_inj (show Eng.sc (.bl false) = some t from h); subst this
      exact q [] _ H' (Post.sh' s (.bl _) fun _ => .bl _)
    · subst hk
      obtain ⟨z, e5, h⟩ := bnd (show ((ev c (dl ρ)).bind fun z => cmpD o2 [y.d, z.d]) = some t from h)
      refine ⟨z, t, e5, h, fun k' H' ht s => ?_⟩
      subst ht
      exact q [] _ H' (Post.sh' s (.bl _) fun _ => .bl _)
  · obtain ⟨H0, B, AA, ρ, kk, R, h, q⟩ := q
    unfold tst at h
    obtain ⟨x, e1, h⟩ := bnd h
    obtain ⟨y, e2, h⟩ := bnd h
    obtain ⟨r, e3, h⟩ := bnd h
    obtain ⟨k, e4, h⟩ := bnd h
    refine key σ H _ H0 B AA ρ x y r k R e1 e2 e3 e4 (fun hk H' s => ?_) fun hk => ?_
    · subst hk
      have h : some false = some kk := h
      cases h
      exact ⟨false, rfl, q _ s⟩
    · subst hk
      obtain ⟨z, e5, h⟩ := bnd (show ((ev c (dl ρ)).bind fun z => (cmpD o2 [y.d, z.d]).bind fun r => blD r.d) = some kk from h)
      obtain ⟨r2, e6, h⟩ := bnd h
      refine ⟨z, r2, e5, e6, fun k' H' ht s => ?_⟩
      subst ht
      have h : some k' = some kk := h
      cases h
      exact ⟨_, rfl, q _ s⟩
theorem bl_of {x : T} {k : Bool} {H : Hp} {v : V} (h : blD x.d = some k) (d : Dat G.C H v x.d) : v = .bl k := by
  cases q : x.d with
  | bl b => rw [q] at h d; cases h; exact d.vbl
  | non => rw [q] at h; cases h
  | int _ => rw [q] at h; cases h
  | str _ => rw [q] at h; cases h
  | lst _ => rw [q] at h; cases h
  | tup _ => rw [q] at h; cases h
  | scr _ => rw [q] at h; cases h
  | ins _ _ _ => rw [q] at h; cases h
  | dic _ _ => rw [q] at h; cases h
theorem so_and {r : List Expr} (ha : SoE G sc X a a') (hb : SoE G sc X b (.BoolOp .And (b' :: r) pos)) : SoE G sc X (.and a b) (.BoolOp .And (a' :: b' :: r) pos) := by
  have hw : PW X (.BoolOp .And (a' :: b' :: r) pos) (tT G.C (.and a b)) := (pw_and ha.2.1 (hb.2.2 _ _ _ rfl)).imp fun σ H Q q => by
    obtain ⟨H0, B, AA, ρ, k, R, h, q⟩ := q
    unfold tst at h
    obtain ⟨k1, e1, h⟩ := bnd h
    refine ⟨H0, B, AA, ρ, k1, R, e1, fun H1 s1 => ?_⟩
    cases k1 with
    | true => exact ⟨H0, B, AA, ρ, k, R.mono s1, h, fun H2 s2 => q _ (s1.trans s2)⟩
    | false => cases h; exact q _ s1
  refine ⟨(pe_and ha.1 hb.1).imp fun σ H Q q => ?_, hw.pt, fun _ _ _ _ => hw⟩
  obtain ⟨H0, B, AA, ρ, t, R, h, s, q⟩ := q
  unfold ev at h
  obtain ⟨x, e1, h⟩ := bnd h
  obtain ⟨k, e2, h⟩ := bnd h
  refine tE_frz R e1 fun As v H1 p => ⟨k, bl_of e2 p.dat, ?_⟩
  cases k with
  | false =>
    have := sc_inj (show Eng.sc (.bl false) = some t from h); subst this
    exact q [] _ H1 (Post.sh' p.same (.bl _) fun _ => .bl _)
  | true =>
    obtain ⟨y, e3, h⟩ := bnd (show ((ev b (dl ρ)).bind fun y => (blD y.d).bind fun k' => Eng.sc (.bl k')) = some t from h)
    obtain ⟨k', e4, h⟩ := bnd h
    have := sc_inj h; subst this
    refine tE_frz (R.mono p.same) e3 fun Bs w H2 p2 => ?_
    have := bl_of e4 p2.dat
    subst this
    exact q [] _ H2 (Post.sh' (p.same.trans p2.same) (.bl _) fun _ => .bl _)
theorem so_or {r : List Expr} (ha : SoE G sc X a a') (hb : SoE G sc X b (.BoolOp .Or (b' :: r) pos)) : SoE G sc X (.or a b) (.BoolOp .Or (a' :: b' :: r) pos) := by
  have hw : PW X (.BoolOp .Or (a' :: b' :: r) pos) (tT G.C (.or a b)) := (pw_or ha.2.1 (hb.2.2 _ _ _ rfl)).imp fun σ H Q q => by
    obtain ⟨H0, B, AA, ρ, k, R, h, q⟩ := q
    unfold tst at h
    obtain ⟨k1, e1, h⟩ := bnd h
    refine ⟨H0, B, AA, ρ, k1, R, e1, fun H1 s1 => ?_⟩
    cases k1 with
    | false => exact ⟨H0, B, AA, ρ, k, R.mono s1, h, fun H2 s2 => q _ (s1.trans s2)⟩
    | true => cases h; exact q _ s1
  refine ⟨(pe_or ha.1 hb.1).imp fun σ H Q q => ?_, hw.pt, fun _ _ _ _ => hw⟩
  obtain ⟨H0, B, AA, ρ, t, R, h, s, q⟩ := q
  unfold ev at h
  obtain ⟨x, e1, h⟩ := bnd h
  obtain ⟨k, e2, h⟩ := bnd h
  refine tE_frz R e1 fun As v H1 p => ⟨k, bl_of e2 p.dat, ?_⟩
  cases k with
  | true =>
    have := sc_inj (show Eng.sc (.bl true) = some t from h); subst this
    exact q [] _ H1 (Post.sh' p.same (.bl _) fun _ => .bl _)
  | false =>
    obtain ⟨y, e3, h⟩ := bnd (show ((ev b (dl ρ)).bind fun y => (blD y.d).bind fun k' => Eng.sc (.bl k')) = some t from h)
    obtain ⟨k', e4, h⟩ := bnd h
    have := sc_inj h; subst this
    refine tE_frz (R.mono p.same) e3 fun Bs w H2 p2 => ?_
    have := bl_of e4 p2.dat
    subst this
    exact q [] _ H2 (Post.sh' (p.same.trans p2.same) (.bl _) fun _ => .bl _)
theorem so_one {op : BoolOp} (ha : SoE G sc X a a') : SoE G sc X (.one a) (.BoolOp op [a'] pos) := by
  have hw : PW X (.BoolOp op [a'] pos) (tT G.C (.one a)) := by
    cases op with
    | And => exact (pw_and1 ha.2.1).imp fun σ H Q q => q
    | Or => exact (pw_or1 ha.2.1).imp fun σ H Q q => q
  exact ⟨(pe_one ha.1).imp fun σ H Q q => q, hw.pt, fun _ _ _ _ => hw⟩
theorem so_not (ha : SoE G sc X a a') : SoE G sc X (.not a) (.UnaryOp .Not a' pos) := by
  refine ⟨(pe_not ha.1).imp fun σ H Q q => ?_, (pt_not ha.2.1).imp fun σ H Q q => ?_, fun _ _ _ q => nomatch q⟩
  · obtain ⟨H0, B, AA, ρ, t, R, h, s, q⟩ := q
    unfold ev at h
    obtain ⟨x, e1, h⟩ := bnd h
    obtain ⟨k, e2, h⟩ := bnd h
    have := sc_inj h; subst this
    exact tE_frz R e1 fun As v H1 p => ⟨k, bl_of e2 p.dat, q [] _ H1 (Post.sh' p.same (.bl _) fun _ => .bl _)⟩
  · obtain ⟨H0, B, AA, ρ, k, R, h, q⟩ := q
    unfold tst at h
    obtain ⟨k', h', rfl⟩ := map_inv h
    exact ⟨H0, B, AA, ρ, k', R, h', q⟩
theorem so_ife (hc : SoE G sc X c c') (ha : SoE G sc X a a') (hb : SoE G sc X b b') : SoE G sc X (.ife c a b) (.IfExp c' a' b' pos) := by
  refine so_no ((pe_ifExp hc.2.1 ha.1 hb.1).imp fun σ H Q q => ?_) fun δ => by unfold tst; rfl
  obtain ⟨H0, B, AA, ρ, t, R, h, s, q⟩ := q
  unfold ev at h
  obtain ⟨k, e1, h⟩ := bnd h
  unfold avs at s
  have s := sal_app.mp s
  refine ⟨H0, B, AA, ρ, k, R, e1, fun H1 s1 => ?_⟩
  cases k with
  | true => exact tE_of (R.mono s1) h s.1 fun As v H2 p => q As v H2 (p.back s1)
  | false => exact tE_of (R.mono s1) h s.2 fun As v H2 p => q As v H2 (p.back s1)
end
end Eng
/-! Eng J: displays, subscripts, calls. -/
namespace Eng
open PySem L2
theorem Post.later {C : Cfg} {Z : Addr → Prop} {H H1 H3 : Hp} {t : T} {al : Bool} {As : List Addr} {v : V} (p : Post C Z H t al As v H1) (e : Same H1 H3) : Post C Z H t al As v H3 :=
  ⟨p.same.trans e, p.nd, fun a m => ⟨(p.new a m).1, (p.new a m).2.mono e⟩, p.dat.mono e, fun q => (p.own q).mono (hid_mono e fun _ _ _ z => z) fun a m => by obtain ⟨o, h⟩ := (p.own q).live a m; rw [h, e _ _ h]⟩
section
variable {G : GC} {sc : Scope} {X : Cx} {e a b c : E} {e' a' b' c' : Expr} {pos p : Pos} {es : Es} {es' : List Expr}
theorem sa_nil : PA X [] (tA G.C .nil) := pa_nil.imp fun σ H Q q => by
  obtain ⟨H0, B, AA, ρ, ts, R, h, s, q⟩ := q
  unfold evs at h
  cases h
  exact q [] [] H Posts.nil
theorem sa_cons (ha : PE X e' (tE G.C e)) (hs : PA X es' (tA G.C es)) (n : nice e' = true) : PA X (e' :: es') (tA G.C (.cons e es)) := (pa_cons ha hs (star_cons n)).imp fun σ H Q q => by
  obtain ⟨H0, B, AA, ρ, ts, R, h, s, q⟩ := q
  unfold evs at h
  obtain ⟨t, h1, h⟩ := bnd h
  obtain ⟨us, h2, rfl⟩ := map_inv h
  unfold avss at s
  have s := sal_app.mp s
  refine tE_of R h1 s.1 fun As v H1 p => ?_
  refine tA_of (R.grow p.same p.new) h2 s.2 fun Bs vs H2 ps => ?_
  rw [ZZ_Zp] at ps
  exact q _ _ H2 (Posts.cons p ps)
theorem so_tup {k : Nat} (hs : PA X es' (tA G.C es)) : SoE G sc X (.tup es) (.Tuple es' k pos) := by
  refine so_no ((pe_tup hs).imp fun σ H Q q => ?_) fun δ => by unfold tst; rfl
  obtain ⟨H0, B, AA, ρ, t, R, h, s, q⟩ := q
  unfold ev at h
  obtain ⟨ts, h1, h⟩ := bnd h
  split at h
  · rename_i hl
    cases h
    refine tA_of R h1 s fun As vs H1 ps => ⟨?_, fun p hp => q As _ _ (ps.newT R.z hp)⟩
    rw [ps.dat.length, T.ds_eq, List.length_map, sz_eq]; exact hl
  · cases h
theorem so_lst (hs : PA X es' (tA G.C es)) : SoE G sc X (.lst es) (.List es' pos) := by
  refine so_no ((pe_lst hs).imp fun σ H Q q => ?_) fun δ => by unfold tst; rfl
  obtain ⟨H0, B, AA, ρ, t, R, h, s, q⟩ := q
  unfold ev at h
  obtain ⟨ts, h1, h⟩ := bnd h
  split at h
  · rename_i hl
    cases h
    refine tA_of R h1 s fun As vs H1 ps => ⟨?_, fun p hp => q _ _ _ (ps.newL hp)⟩
    rw [ps.dat.length, T.ds_eq, List.length_map, sz_eq]; exact hl
  · cases h
/-! ### subscripts -/
theorem _root_.L2.IxR.imp {r r' : R2} (h : IxR X r) (k : ∀ x y H Q, r' x y H Q → r x y H Q) : IxR X r' :=
  fun value slice pins s σ H x y v u Q I rx ry q hs => h value slice pins s σ H x y v u Q I rx ry (k _ _ _ _ q) hs
theorem atI_map {α β : Type} {f : α → β} {xs : List α} {i : Int} {y : β} (h : atI (xs.map f) i = some y) : ∃ x, atI xs i = some x ∧ f x = y := by
  unfold atI at h ⊢
  rw [List.length_map] at h
  obtain ⟨j, h1, h2⟩ := bnd h
  rw [h1]
  rw [List.getElem?_map] at h2
  exact map_inv h2
theorem atI_D {C : Cfg} {H : Hp} {vs : List V} {ds : List D} {i : Int} {d : D} (h : Dats C H vs ds) (e : atI ds i = some d) : ∃ v, atI vs i = some v ∧ Dat C H v d := by
  unfold atI at e ⊢
  obtain ⟨j, h1, h2⟩ := bnd e
  rw [h.length, h1]
  exact h.getD h2
theorem ix_ok (hK : X.K = G.C.K) : IxR X (fun x y H Q => rP G.C idxD [x, y] H Q) := (ix_seq (X := X)).imp fun x y H Q q => by
  obtain ⟨ds, t, Z, al, h1, h2, h3, h4, h5⟩ := q
  obtain ⟨d, e, rfl, k1, k2⟩ := h1.two
  have k3 : al = true → Dat G.C (hid H Z) x d := fun q => by cases h2 q with | cons h _ => exact h
  unfold idxD at h4
  split at h4
  · rename_i ys i q
    cases q
    obtain ⟨d, e, rfl⟩ := map_inv h4
    obtain ⟨a, vs, rfl, ha, hv⟩ := k1.vlst
    obtain ⟨v, e1, hd⟩ := atI_D hv e
    refine .inl ⟨a, vs, i, v, rfl, k2.vint, SqL.of ha, e1, h5 [] v H (Post.sh hd fun q => ?_)⟩
    obtain ⟨v', e2, hd'⟩ := atI_D ((k3 q).at hid_sub ha) e
    rw [e1] at e2; cases e2; exact hd'
  · rename_i ys i q
    cases q
    obtain ⟨d, e, rfl⟩ := map_inv h4
    obtain ⟨a, vs, rfl, ha, hv⟩ := k1.vtup
    obtain ⟨v, e1, hd⟩ := atI_D hv e
    refine .inr (.inl ⟨a, vs, i, v, rfl, k2.vint, SqT.of ha, e1, h5 [] v H (Post.sh hd fun q => ?_)⟩)
    obtain ⟨v', e2, hd'⟩ := atI_D ((k3 q).atT hid_sub ha) e
    rw [e1] at e2; cases e2; exact hd'
  · rename_i ns i q
    cases q
    obtain ⟨n, e, rfl⟩ := map_inv h4
    obtain ⟨a, rfl, ha⟩ := k1.vscr
    refine .inl ⟨a, ns.map V.int, i, .int n, rfl, k2.vint, by rw [hK]; exact ha, ?_, h5 [] _ H (Post.sh (.int n) fun q => .int n)⟩
    unfold atI at e ⊢
    obtain ⟨j, e1, e2⟩ := bnd e
    rw [List.length_map, e1]
    show (ns.map V.int)[j]? = _
    rw [List.getElem?_map, e2]; rfl
  · rename_i s i q
    cases q
    obtain ⟨c1, h4⟩ := iff_some h4
    obtain ⟨c, e, rfl⟩ := map_inv h4
    exact .inr (.inr ⟨st s, i, c, k1.vstr, k2.vint, by rw [st_len, sz_eq]; exact c1, e, h5 [] _ H (Post.sh (.str [c]) fun q => .str [c])⟩)
  · cases h4
theorem so_idx (g : Good G sc X) (ha : SoE G sc X a a') (hb : SoE G sc X b b') (nb : nice b' = true) : SoE G sc X (.idx a b) (.Subscript a' b' pos) := by
  have key : ∀ (σ : L2.St) (H : Hp) (Q : VK) (H0 : Hp) (B : Addr → Prop) (AA : Nat → List Addr) (ρ : Rho) (x y t : T), Rep G.C H0 B AA H σ ρ → ev a (dl ρ) = some x → ev b (dl ρ) = some y → idxD [x.d, y.d] = some t → sal (avs a) (ow ρ) = true →
      (∀ As v H', Post G.C (ZZ B AA) H t true As v H' → Q v H') → tOp (fun x y H Q => rP G.C idxD [x, y] H Q) (tE G.C a) (tE G.C b) σ H Q := by
    intro σ H Q H0 B AA ρ x y t R h1 h2 h s q
    -- the index is an int: it is read with all let go
    obtain ⟨i, hi⟩ : ∃ i, y.d = .int i := by
      unfold idxD at h
      split at h
      · rename_i q; exact ⟨_, (List.cons.inj (List.cons.inj q).2).1⟩
      · rename_i q; exact ⟨_, (List.cons.inj (List.cons.inj q).2).1⟩
      · rename_i q; exact ⟨_, (List.cons.inj (List.cons.inj q).2).1⟩
      · rename_i q; exact ⟨_, (List.cons.inj (List.cons.inj q).2).1⟩
      · cases h
    refine tE_of R h1 s fun As v H1 p => ?_
    refine tE_frz (R.mono p.same) h2 fun Bs w H2 p2 => ?_
    have hw : Post G.C (Zp (ZZ B AA) As) H1 (.sh y.d) true [] w H2 := by
      have := p2.dat
      rw [hi] at this ⊢
      have hv := this.vint
      subst hv
      exact Post.sh' p2.same (.int i) fun _ => .int i
    exact rP_of R.z (Posts.cons p (Posts.cons hw Posts.nil)) h fun Bs u H' p3 => q Bs u H' (p3.back (p.same.trans p2.same))
  refine so_val g ((pe_ix (ix_ok g.K) ha.1 hb.1 (ix_plain nb)).imp fun σ H Q q => ?_) rfl fun δ k h => ?_
  · obtain ⟨H0, B, AA, ρ, t, R, h, s, q⟩ := q
    unfold ev at h
    obtain ⟨x, h1, h⟩ := bnd h
    obtain ⟨y, h2, h⟩ := bnd h
    exact key σ H Q H0 B AA ρ x y t R h1 h2 h s q
  · unfold tst at h
    obtain ⟨x, h1, h⟩ := bnd h
    obtain ⟨y, h2, h⟩ := bnd h
    obtain ⟨r, h3, h⟩ := bnd h
    exact ⟨r, by unfold ev; rw [h1, h2]; exact h3, h⟩
/-! ### slices -/
theorem _root_.L2.SlR.imp {r r' : V → Option Int → Option Int → Hp → VK → Prop} (h : SlR X r) (k : ∀ x l u H Q, r' x l u H Q → r x l u H Q) : SlR X r' :=
  fun pins s σ H x v vl vu lo hi sl Q I rx hs pl pu q => h pins s σ H x v vl vu lo hi sl Q I rx hs pl pu (k _ _ _ _ _ q)
theorem cutL_D {C : Cfg} {H : Hp} {vs : List V} {ds : List D} {lo hi : Option Int} (h : Dats C H vs ds) : Dats C H (cutV vs lo hi) (cutL ds lo hi) := by
  unfold cutV cutL
  rw [h.length]
  exact (h.drop _).take _
theorem sl_ok (hK : X.K = G.C.K) : SlR X (fun x lo hi H Q => rP G.C (slcD lo hi) [x] H Q) := (SlR.or (sl_list (X := X)) (sl_str (X := X))).imp fun x lo hi H Q q => by
  obtain ⟨ds, t, Z, al, h1, h2, h3, h4, h5⟩ := q
  obtain ⟨d, rfl, k1⟩ := h1.one
  have k3 : al = true → Dat G.C (hid H Z) x d := fun q => by cases h2 q with | cons h _ => exact h
  unfold slcD at h4
  split at h4
  · rename_i ys q
    cases q
    cases h4
    obtain ⟨a, vs, rfl, ha, hv⟩ := k1.vlst
    exact .inl ⟨a, vs, rfl, SqL.of ha, fun p hp => h5 _ _ _ (Post.newS (cutL_D hv) (fun q => cutL_D ((k3 q).at hid_sub ha)) hp)⟩
  · rename_i ns q
    cases q
    cases h4
    obtain ⟨a, rfl, ha⟩ := k1.vscr
    refine .inl ⟨a, ns.map V.int, rfl, by rw [hK]; exact ha, fun p hp => ?_⟩
    have e : cutV (ns.map V.int) lo hi = (cutL ns lo hi).map V.int := by
      unfold cutV cutL
      rw [List.length_map, List.map_take, List.map_drop]
    rw [e]
    exact h5 _ _ _ (Post.newS Dats.ints (fun q => Dats.ints) hp)
  · rename_i s q
    cases q
    obtain ⟨c1, rfl⟩ := iff_inv h4
    refine .inr ⟨st s, k1.vstr, by rw [st_len, sz_eq]; exact c1, ?_⟩
    have e : cutS (st s) lo hi = st (cutL s lo hi) := by
      unfold cutS cutL
      rw [st_len]
    rw [e]
    exact h5 [] _ H (Post.sh (.str _) fun q => .str _)
  · cases h4
theorem spo_non : PO X none (tO G.C .non) := po_none.imp fun σ H Q q => by
  obtain ⟨H0, B, AA, ρ, l, R, h, q⟩ := q
  unfold evo at h
  cases h
  exact q H (Same.refl H)
theorem spo_som (ha : PE X e' (tE G.C e)) : PO X (some e') (tO G.C (.som e)) := (po_some ha).imp fun σ H Q q => by
  obtain ⟨H0, B, AA, ρ, l, R, h, q⟩ := q
  unfold evo at h
  obtain ⟨t, h1, h⟩ := bnd h
  split at h
  · rename_i i hi
    cases h
    refine tE_frz R h1 fun As v H1 p => ⟨i, ?_, q _ p.same⟩
    have := p.dat
    rw [hi] at this
    exact this.vint
  · cases h
theorem so_slc {lo hi : Eo} {lo' hi' : Option Expr} {p2 : Pos} (g : Good G sc X) (ha : SoE G sc X a a') (hl : PO X lo' (tO G.C lo)) (hh : PO X hi' (tO G.C hi)) : SoE G sc X (.slc a lo hi) (.Subscript a' (.Slice lo' hi' none p2) pos) := by
  refine so_no ((pe_slice (sl_ok g.K) ha.1 hl hh).imp fun σ H Q q => ?_) fun δ => by unfold tst; rfl
  obtain ⟨H0, B, AA, ρ, t, R, h, s, q⟩ := q
  unfold ev at h
  obtain ⟨x, h1, h⟩ := bnd h
  obtain ⟨l, h2, h⟩ := bnd h
  obtain ⟨u, h3, h⟩ := bnd h
  refine tE_of R h1 s fun As v H1 p => ?_
  refine ⟨H0, B, AA, ρ, l, R.mono p.same, h2, fun H2 s2 => ⟨H0, B, AA, ρ, u, R.mono (p.same.trans s2), h3, fun H3 s3 => ?_⟩⟩
  have e : Same H1 H3 := s2.trans s3
  have ps : Posts G.C (ZZ B AA) H [x] true As [v] H3 := by
    have := Posts.cons (p.later e) (Posts.nil (C := G.C) (H := H3) (Z := Zp (ZZ B AA) As) (al := true))
    rw [List.append_nil] at this
    exact this
  exact rP_of R.z ps h fun Bs w H' p3 => q Bs w H' (p3.back (p.same.trans e))
/-! ### fields -/
theorem zip_lookup {C : Cfg} {H : Hp} {f : Str} : ∀ {ns : List Str} {vs : List V} {ds : List D} {d : D}, Dats C H vs ds → (ns.zip ds).lookup f = some d → ∃ v, (ns.zip vs).lookup f = some v ∧ Dat C H v d
  | [], _, _, _, _, h => by simp at h
  | n :: ns, _, _, _, .nil, h => by simp at h
  | n :: ns, v :: vs, d' :: ds, d, .cons hd hs, h => by
    simp only [List.zip_cons_cons, List.lookup_cons] at h ⊢
    split
    · rename_i q
      rw [q] at h
      cases h
      exact ⟨v, rfl, hd⟩
    · rename_i q
      rw [q] at h
      exact zip_lookup hs h
theorem so_fld {f : Str} {cs : List Str} (g : Good G sc X) (ha : SoE G sc X a a') (hb : baseB a' = true) (hn : ∀ c, c ∈ cs → FldOk G f c) : SoE G sc X (.fld a f cs) (.Attribute a' f pos) := by
  refine so_val g ((pe_fld ha.1 (base_ok hb)).imp fun σ H Q q => ?_) rfl fun δ k h => ?_
  · obtain ⟨H0, B, AA, ρ, t, R, h, s, q⟩ := q
    unfold ev at h
    obtain ⟨x, h1, h⟩ := bnd h
    refine tE_of R h1 s fun As v H1 p => ?_
    have pd := p.dat
    have pd' := p.dh R.z rfl
    cases hx : x.d with
    | ins c ns xs =>
      rw [hx] at h pd pd'
      simp only [fldD] at h
      split at h
      · rename_i hc
        obtain ⟨d, hd, rfl⟩ := map_inv h
        cases pd with
        | ins ho hm hv hl =>
          obtain ⟨w, e1, e2⟩ := zip_lookup hv hd
          obtain ⟨k1, k2⟩ := hn c (by simpa using hc) _ hm
          refine ⟨_, _, _, _, w, rfl, ho, by rw [g.K]; exact k1, by rw [g.K]; exact k2, e1, q [] w H1 (Post.sh' p.same e2 fun _ => ?_)⟩
          cases pd' with
          | ins ho' hm' hv' hl' =>
            have := hid_sub _ _ ho'
            rw [ho] at this
            have e3 := (HO.ins.inj (Option.some.inj this)).2.2
            obtain ⟨w', e4, e5⟩ := zip_lookup hv' hd
            rw [← e3, e1] at e4
            cases e4
            exact e5
      · cases h
    | _ => rw [hx] at h; simp only [fldD] at h; cases h
  · unfold tst at h
    obtain ⟨x, h1, h⟩ := bnd h
    obtain ⟨r, h3, h⟩ := bnd h
    exact ⟨r, by unfold ev; rw [h1]; exact h3, h⟩
/-! ### calls -/
theorem so_bi (bb : Bi) {es' : List Expr} (g : Good G sc X) (hl : glB sc bb.name = true) (hn : nmB bb.name = true) (hs : PA X (a' :: es') (tA G.C es)) (n : (a' :: es').all nice = true) (hm : NoG G bb.name) : SoE G sc X (.bi bb es) (.Call (.Name bb.name p) (a' :: es') [] pos) := by
  obtain ⟨n1, n2, n3⟩ := nmB_inv hn
  have n' := n
  rw [List.all_cons, Bool.and_eq_true] at n'
  have hm : X.mg bb.name = none := by rw [g.mg]; exact hm
  have hc := bi_ok (C := G.C) g.calm g.K bb
  have hp : PE X (.Call (.Name bb.name p) (a' :: es') [] pos) (tCB (fun vs H Q => rP G.C (biD bb) vs H Q) (tA G.C es)) := by
    cases bb
    case len => exact pe_callB hc (g.gl _ hl) hm (by decide +kernel) hs n3 n1 (star_cons n'.1) (star_any n'.2)
    case sum => exact pe_callB hc (g.gl _ hl) hm (by decide +kernel) hs n3 n1 (star_cons n'.1) (star_any n'.2)
    case any => exact pe_callB hc (g.gl _ hl) hm (by decide +kernel) hs n3 n1 (star_cons n'.1) (star_any n'.2)
    case all => exact pe_callB hc (g.gl _ hl) hm (by decide +kernel) hs n3 n1 (star_cons n'.1) (star_any n'.2)
    case max => exact pe_callB hc (g.gl _ hl) hm (by decide +kernel) hs n3 n1 (star_cons n'.1) (star_any n'.2)
    case min => exact pe_callB hc (g.gl _ hl) hm (by decide +kernel) hs n3 n1 (star_cons n'.1) (star_any n'.2)
    case abs => exact pe_callB hc (g.gl _ hl) hm (by decide +kernel) hs n3 n1 (star_cons n'.1) (star_any n'.2)
    case int => exact pe_callTy hc (g.gl _ hl) hm (by decide +kernel) hs n3 n1 (star_cons n'.1) (star_any n'.2)
    case str => exact pe_callTy hc (g.gl _ hl) hm (by decide +kernel) hs n3 n1 (star_cons n'.1) (star_any n'.2)
    case list => exact pe_callTy hc (g.gl _ hl) hm (by decide +kernel) hs n3 n1 (star_cons n'.1) (star_any n'.2)
    case tuple => exact pe_callTy hc (g.gl _ hl) hm (by decide +kernel) hs n3 n1 (star_cons n'.1) (star_any n'.2)
  refine so_val g (hp.imp fun σ H Q q => ?_) rfl fun δ k h => ?_
  · obtain ⟨H0, B, AA, ρ, t, R, h, s, q⟩ := q
    unfold ev at h
    obtain ⟨ts, h1, h⟩ := bnd h
    refine args_of R h1 h ?_ q
    unfold avs at s
    by_cases ho : bb.sca = true
    · exact .inr (biD_no ho h)
    · rw [if_neg ho] at s
      exact .inl s
  · unfold tst at h
    obtain ⟨ts, h1, h⟩ := bnd h
    obtain ⟨r, h3, h⟩ := bnd h
    exact ⟨r, by unfold ev; rw [h1]; exact h3, h⟩
theorem so_cal {f : Str} {F : List D → Option T} {dds : List D} {es' : List Expr} (g : Good G sc X) (hl : glB sc f = true) (hn : nmB f = true) (hs : PA X es' (tA G.C es)) (n : es'.all nice = true) (hz : es' = [] → es = .nil) (hm : CallOk G f F dds) : SoE G sc X (.cal f F dds es) (.Call (.Name f p) es' [] pos) := by
  obtain ⟨n1, n2, n3⟩ := nmB_inv hn
  obtain ⟨fa, fd, ps, dvs, ds, c1, c2, c3, c4, c5, c6⟩ := hm
  have F1 : FnOk X.prog X.w X.K X.mg X.base CX0 G.k fa fd ps (pureSp G.C F) := by rw [g.prog, g.w, g.K, g.mg, g.base]; exact c3
  have hp : PE X (.Call (.Name f p) es' [] pos) (tCall (pureSp G.C F) dvs E0 (tA G.C es)) := by
    cases es' with
    | nil =>
      refine (pe_call0 F1 g.room (g.gl f hl) (by rw [g.mg]; exact c1) (by rw [g.K]; exact c2) (by rw [g.K]; exact c4) c5 pass0 n1).imp fun σ H Q q => ?_
      obtain ⟨H0, B, AA, ρ, ts, R, h, s, q⟩ := q
      have := hz rfl
      subst this
      unfold evs at h
      cases h
      exact q [] [] H Posts.nil
    | cons e' r =>
      have n' := n
      rw [List.all_cons, Bool.and_eq_true] at n'
      exact pe_call F1 g.room (g.gl f hl) (by rw [g.mg]; exact c1) (by rw [g.K]; exact c2) (by rw [g.K]; exact c4) c5 pass0 hs n1 (star_cons n'.1) (star_any n'.2)
  refine so_val g (hp.imp fun σ H Q q => ?_) rfl fun δ k h => ?_
  · obtain ⟨H0, B, AA, ρ, t, R, h, s, q⟩ := q
    unfold ev at h
    obtain ⟨ts, h1, h⟩ := bnd h
    refine tA_of R h1 s fun As vs H1 ps => ?_
    refine ⟨T.ds ts ++ dds, t, ZZ B AA, true, ps.dat.append (c6 _), fun q => (ps.dh R.z q).append (c6 _), fun a q => (R.z a q).mono ps.same, h, fun Bs v H' p => q Bs v H' (p.back ps.same)⟩
  · unfold tst at h
    obtain ⟨ts, h1, h⟩ := bnd h
    obtain ⟨r, h3, h⟩ := bnd h
    exact ⟨r, by unfold ev; rw [h1]; exact h3, h⟩
theorem so_mth (m : Mt) {o : Expr} {ap : Pos} {es' : List Expr} (g : Good G sc X) (ha : SoE G sc X a o) (hb : baseB o = true) (hline : (ap.endLine == pos.line) = true) (hlen : es'.length < 20) (hs : PA X (a' :: es') (tA G.C es)) (n : (a' :: es').all nice = true) :
    SoE G sc X (.mth m a es) (.Call (.Attribute o m.name ap) (a' :: es') [] pos) := by
  have n' := n
  rw [List.all_cons, Bool.and_eq_true] at n'
  have hp := pe_bm (cpos := pos) F.plainAttrs_str (mt_slot m).1 (mt_slot m).2 (mt_ok (C := G.C) (X := X) m) ha.1 hs (base_ok hb) (by
    rw [star_few n]
    have : decide ((a' :: es').length + ([] : List Keyword).length + (if ([] : List Keyword).isEmpty then 0 else 1) < 30) = true := decide_eq_true (by simp only [List.length_cons, List.length_nil]; simp; omega)
    rw [this]; rfl) hline (star_cons n'.1) (star_any n'.2)
  refine so_val g (hp.imp fun σ H Q q => ?_) rfl fun δ k h => ?_
  · obtain ⟨H0, B, AA, ρ, t, R, h, s, q⟩ := q
    unfold ev at h
    obtain ⟨x, h1, h⟩ := bnd h
    obtain ⟨ts, h2, h⟩ := bnd h
    obtain ⟨ss, r, e1⟩ := mtD_str h
    have hx := (List.cons.inj e1).1
    unfold avs at s
    by_cases ho : m.sca = true
    · obtain ⟨d, hd, nd⟩ := mtD_no ho h
      refine tE_frz R h1 fun As v H1 p => ⟨?_, ?_⟩
      · have := p.dat
        rw [hx] at this
        rw [this.vstr]; rfl
      · refine tA_of (R.frz.grow p.same p.new) (by rw [dl_frz]; exact h2) (by rw [ow_frz]; exact sal_no _) fun Bs vs H2 ps => ?_
        rw [ZZ_Zp] at ps
        exact rP_of R.frz.z (Posts.cons p ps) h fun Cs u H' p3 => q [] u H' (fin_no R (p.same.trans ps.same) p3 hd nd)
    · rw [if_neg ho] at s
      have s := sal_app.mp s
      refine tE_of R h1 s.1 fun As v H1 p => ⟨?_, ?_⟩
      · have := p.dat
        rw [hx] at this
        rw [this.vstr]; rfl
      · refine tA_of (R.grow p.same p.new) h2 s.2 fun Bs vs H2 ps => ?_
        rw [ZZ_Zp] at ps
        exact rP_of R.z (Posts.cons p ps) h fun Cs u H' p3 => q Cs u H' (p3.back (p.same.trans ps.same))
  · unfold tst at h
    obtain ⟨x, h1, h⟩ := bnd h
    obtain ⟨ts, h2, h⟩ := bnd h
    obtain ⟨r, h3, h⟩ := bnd h
    exact ⟨r, by unfold ev; rw [h1, h2]; exact h3, h⟩
theorem ty_of {K : PySem.W.Frag} {C : Cfg} {H : Hp} {v : V} {d : D} {s : String} (h : Dat C H v d) (e : tyD d = some s) : TyX K H v (.type s) := by
  cases h with
  | non => cases e; exact .base .non
  | bl b => cases e; exact .base (.bl _)
  | int b => cases e; exact .base (.int _)
  | str b => cases e; exact .base (.str _)
  | lst h hs => cases e; exact .base (.lst h)
  | tup h hs => cases e; exact .base (.tup h)
  | dic h hs hl => cases e; exact .base (.dK h)
  | scr h => cases e
  | ins h hm hs hl => cases e
theorem so_isi {x : Str} {t : String} {p2 : Pos} (g : Good G sc X) (hl : glB sc "isinstance" = true) (hl2 : glB sc x = true) (hn : nmB x = true) (hx : x = Str.ofString t) (ha : SoE G sc X a a') (n : nice a' = true) (hm : NoG G "isinstance") (hm2 : NoG G x) (hv : bootBuiltins x = some (.type t)) :
    SoE G sc X (.isi a x t) (.Call (.Name "isinstance" p) [a', .Name x p2] [] pos) := by
  obtain ⟨n1, n2, n3⟩ := nmB_inv hn
  have ht : PE X (.Name x p2) (tC (.ty t)) := pe_bltn (g.gl x hl2) (by rw [g.mg]; exact hm2) hv rfl n3 n1
  have hp := pe_callB (pos := pos) (p := p) (call_isi (X := X)) (g.gl _ hl) (by rw [g.mg]; exact hm) PyProof.Rows.boot_isinstance (pa_cons ha.1 (pa_cons ht pa_nil rfl) (star_cons n)) (by decide) (by decide) (star_cons n) rfl
  have key : ∀ (σ : L2.St) (H : Hp) (Q : VK) (H0 : Hp) (B : Addr → Prop) (AA : Nat → List Addr) (ρ : Rho) (y : T) (s : String) (k : Bool), Rep G.C H0 B AA H σ ρ → ev a (dl ρ) = some y → tyD y.d = some s → kitB s t = some k →
      (∀ H', Same H H' → Q (.bl k) H') → tCB (rIsi X.K) (tCons (tE G.C a) (tCons (tC (.ty t)) tNil)) σ H Q := by
    intro σ H Q H0 B AA ρ y s k R h1 h2 h3 q
    exact tE_frz R h1 fun As v H1 p => ⟨v, .ty t, .type s, .type t, k, rfl, .ty t, ty_of p.dat h2, kit_ty h3, q _ p.same⟩
  refine so_val g (hp.imp fun σ H Q q => ?_) rfl fun δ k h => ?_
  · obtain ⟨H0, B, AA, ρ, t, R, h, s, q⟩ := q
    unfold ev at h
    obtain ⟨y, h1, h⟩ := bnd h
    obtain ⟨s, h2, h⟩ := bnd h
    obtain ⟨k, h3, h⟩ := bnd h
    have := sc_inj h; subst this
    exact key σ H Q H0 B AA ρ y s k R h1 h2 h3 fun H' e => q [] _ H' (Post.sh' e (.bl _) fun _ => .bl _)
  · unfold tst at h
    obtain ⟨y, h1, h⟩ := bnd h
    obtain ⟨s, h2, h3⟩ := bnd h
    exact ⟨.sh (.bl k), by unfold ev; rw [h1]; show ((tyD y.d).bind _) = _; rw [h2]; show ((kitB s t).bind _) = _; rw [h3]; rfl, rfl⟩
end
end Eng
/-! Eng K: what is walked; comprehensions. -/
namespace Eng
open PySem L2
section
variable {C : Cfg} {F : Hp} {vs us : List V} {ds es : List D} {a b : Addr} {K : PySem.W.Frag}
theorem wd_list (ha : F a = some (.lst vs)) (h : Dats C F vs ds) : WalkD C F (Itl K a) ds := by
  refine ⟨_, _, by rw [← h.length]; exact walk_list (K := K) (a := a) (xs := vs), fun H e => SqL.of (e _ _ ha), fun i d H2 x H3 hd e y => ?_⟩
  obtain ⟨rfl, hx⟩ := y
  refine ⟨Same.refl _, fun Z z k => ?_⟩
  obtain ⟨v, h1, h2⟩ := h.getD hd
  rw [hx] at h1; cases h1
  exact h2.mono k
theorem wd_tup (ha : F a = some (.tup vs)) (h : Dats C F vs ds) : WalkD C F (Itt K a) ds := by
  refine ⟨_, _, by rw [← h.length]; exact walk_tup (K := K) (a := a) (xs := vs), fun H e => SqT.of (e _ _ ha), fun i d H2 x H3 hd e y => ?_⟩
  obtain ⟨rfl, hx⟩ := y
  refine ⟨Same.refl _, fun Z z k => ?_⟩
  obtain ⟨v, h1, h2⟩ := h.getD hd
  rw [hx] at h1; cases h1
  exact h2.mono k
theorem wd_scr {ns : List Int} (ha : SqL K F a (ns.map V.int)) : WalkD C F (Itl K a) (ns.map D.int) := by
  refine ⟨_, _, by rw [List.length_map, ← List.length_map (f := V.int)]; exact walk_list (K := K) (a := a) (xs := ns.map V.int), fun H e => e.seq ha, fun i d H2 x H3 hd e y => ?_⟩
  obtain ⟨rfl, hx⟩ := y
  refine ⟨Same.refl _, fun Z z k => ?_⟩
  rw [List.getElem?_map] at hd hx
  obtain ⟨n, h1, rfl⟩ := map_inv hd
  rw [h1] at hx; cases hx
  exact .int _
theorem wd_str (s : List Nat) : WalkD C F (Its (st s)) (s.map fun c => .str [c]) := by
  refine ⟨_, _, by rw [List.length_map]; exact walk_str (z := st s), fun H e => trivial, fun i d H2 x H3 hd e y => ?_⟩
  obtain ⟨rfl, c, hc, rfl⟩ := y
  refine ⟨Same.refl _, fun Z z k => ?_⟩
  rw [List.getElem?_map] at hd
  obtain ⟨n, h1, rfl⟩ := map_inv hd
  have hc : s[i]? = some c := by simpa using hc
  rw [h1] at hc; cases hc
  exact .str _
theorem wd_rng (lo : Int) (n : Nat) : WalkD C F (Itr lo n) ((List.range n).map fun (i : Nat) => .int (lo + i)) := by
  refine ⟨_, _, by rw [List.length_map, List.length_range]; exact walk_range (lo := lo) (n := n), fun H e => trivial, fun i d H2 x H3 hd e y => ?_⟩
  obtain ⟨rfl, rfl⟩ := y
  refine ⟨Same.refl _, fun Z z k => ?_⟩
  rw [List.getElem?_map] at hd
  obtain ⟨j, h1, rfl⟩ := map_inv hd
  have hj : i < (List.range n).length := (List.getElem?_eq_some_iff.mp h1).1
  rw [List.getElem?_eq_getElem hj] at h1
  simp at h1
  subst h1
  exact .int _
theorem pair_dat {H2 H3 : Hp} {T : Addr} {x y : V} {d e : D} {Z : Addr → Prop} (z : ∀ a, Z a → nTup H2 a) (hT : H2 T = none) (e3 : H3 = upd H2 T (.tup [x, y])) (hx : Dat C (hid H2 Z) x d) (hy : Dat C (hid H2 Z) y e) : Dat C (hid H3 Z) (.ref T) (.tup [d, e]) := by
  subst e3
  have s : Same (hid H2 Z) (hid (upd H2 T (.tup [x, y])) Z) := hid_mono (Same.upd hT) fun _ _ _ q => q
  refine .tup (hid_some.mpr ⟨fun q => ?_, upd_same⟩) (.cons (hx.mono s) (.cons (hy.mono s) .nil))
  obtain ⟨o, h, _⟩ := z T q
  rw [hT] at h; cases h
theorem wd_enm (ha : F a = some (.lst vs)) (h : Dats C F vs ds) : WalkD C F (Ite K a) (ds.mapIdx fun i y => .tup [.int i, y]) := by
  refine ⟨_, _, by rw [List.length_mapIdx, ← h.length]; exact walk_enum (K := K) (a := a) (xs := vs), fun H e => SqL.of (e _ _ ha), fun i d H2 x H3 hd e y => ?_⟩
  obtain ⟨T, u, w, rfl, hT, e3, h1, h2⟩ := y
  cases h1
  rw [List.getElem?_mapIdx] at hd
  obtain ⟨d', hd', rfl⟩ := map_inv hd
  obtain ⟨w', h3, h4⟩ := h.getD hd'
  have h2 : vs[i]? = some w := h2
  rw [h2] at h3; cases h3
  exact ⟨by rw [e3]; exact Same.upd hT, fun Z z k => pair_dat z hT e3 (.int _) (h4.mono k)⟩
theorem wd_zip (ha : F a = some (.lst vs)) (h : Dats C F vs ds) (hb : F b = some (.lst us)) (h' : Dats C F us es) : WalkD C F (Itz K a b) (List.zipWith (fun x y => .tup [x, y]) ds es) := by
  refine ⟨fun H => SqL K H a vs ∧ SqL K H b us, _, by rw [List.length_zipWith, ← h.length, ← h'.length]; exact walk_zip (K := K) (a := a) (b := b) (xs := vs) (ys := us) rfl, fun H e => ⟨SqL.of (e _ _ ha), SqL.of (e _ _ hb)⟩, fun i d H2 x H3 hd e y => ?_⟩
  obtain ⟨T, u, w, rfl, hT, e3, h1, h2⟩ := y
  rw [List.getElem?_zipWith] at hd
  obtain ⟨d1, q1, k1⟩ := h.get h1
  obtain ⟨d2, q2, k2⟩ := h'.get h2
  rw [q1, q2] at hd
  cases hd
  exact ⟨by rw [e3]; exact Same.upd hT, fun Z z k => pair_dat z hT e3 (k1.mono k) (k2.mono k)⟩
theorem wd_enmS (s : List Nat) : WalkD C F (Ites 0 (st s)) (s.mapIdx fun i c => .tup [.int i, .str [c]]) := by
  refine ⟨_, _, by rw [List.length_mapIdx]; exact walk_enumS (k := 0) (x := st s), fun H e => trivial, fun i d H2 x H3 hd e y => ?_⟩
  obtain ⟨T, c, rfl, hT, e3, hc⟩ := y
  have hc : s[i]? = some c := by simpa using hc
  rw [List.getElem?_mapIdx, hc] at hd
  cases hd
  rw [Int.zero_add] at e3
  exact ⟨by rw [e3]; exact Same.upd hT, fun Z z k => pair_dat z hT e3 (.int _) (.str _)⟩
theorem wd_zipS (ha : F a = some (.lst vs)) (h : Dats C F vs ds) (s : List Nat) : WalkD C F (Itzs K a (st s)) (List.zipWith (fun x c => .tup [x, .str [c]]) ds s) := by
  refine ⟨fun H => SqL K H a vs, _, by rw [List.length_zipWith, ← h.length]; exact walk_zipS (K := K) (a := a) (xs := vs) (x := st s), fun H e => SqL.of (e _ _ ha), fun i d H2 x H3 hd e y => ?_⟩
  obtain ⟨T, u, c, rfl, hT, e3, h1, hc⟩ := y
  have hc : s[i]? = some c := by simpa using hc
  rw [List.getElem?_zipWith] at hd
  obtain ⟨d1, q1, k1⟩ := h.get h1
  rw [q1, hc] at hd
  cases hd
  exact ⟨by rw [e3]; exact Same.upd hT, fun Z z k => pair_dat z hT e3 (k1.mono k) (.str _)⟩
end
section
variable {G : GC} {sc : Scope} {X : Cx} {e a b c : E} {e' a' b' c' tg : Expr} {pos p : Pos}
theorem si_seq (g : Good G sc X) (ha : PE X e' (tE G.C e)) : PI X tg e' (tI G.C (.seq e)) := (PI.or (pi_list ha) (PI.or (pi_tup ha) (pi_str ha))).imp fun σ H R q => by
  obtain ⟨H0, B, AA, ρ, ds, Rp, h, s, q⟩ := q
  unfold evi at h
  obtain ⟨t, h1, h⟩ := bnd h
  have key : ∀ {Q : VK}, (∀ v H', Same H H' → Dat G.C H' v t.d → Dat G.C (hid H' (ZZ B AA)) v t.d → Q v H') → tE G.C e σ H Q := fun k => tE_of Rp h1 s fun As v H' p => k v H' p.same p.dat (p.dh Rp.z rfl)
  cases ht : t.d with
  | lst ys =>
    rw [ht] at h; cases h
    refine .inl (key fun v H1 e d d' => ?_)
    rw [ht] at d d'
    obtain ⟨a, vs, rfl, h2, h3⟩ := d'.vlst
    exact ⟨a, rfl, ⟨vs, SqL.of (hid_sub _ _ h2)⟩, q _ _ e (wd_list h2 h3)⟩
  | tup ys =>
    rw [ht] at h; cases h
    refine .inr (.inl (key fun v H1 e d d' => ?_))
    rw [ht] at d d'
    obtain ⟨a, vs, rfl, h2, h3⟩ := d'.vtup
    exact ⟨a, rfl, ⟨vs, SqT.of (hid_sub _ _ h2)⟩, q _ _ e (wd_tup h2 h3)⟩
  | scr ns =>
    rw [ht] at h; cases h
    refine .inl (key fun v H1 e d d' => ?_)
    rw [ht] at d d'
    obtain ⟨a, rfl, h2⟩ := d'.vscr
    have h2 : SqL X.K (hid H1 (ZZ B AA)) a (ns.map V.int) := by rw [g.K]; exact h2
    exact ⟨a, rfl, ⟨_, hid_sub.seq h2⟩, q _ _ e (wd_scr h2)⟩
  | str cs =>
    rw [ht] at h; cases h
    refine .inr (.inr (key fun v H1 e d d' => ?_))
    rw [ht] at d d'
    exact ⟨st cs, d.vstr, q _ _ e (wd_str cs)⟩
  | _ => rw [ht] at h; cases h
theorem rngD_inv {lo n : Int} {ds : List D} (h : rngD lo n = some ds) : (-(2 ^ 62) ≤ lo ∧ lo < 2 ^ 62 ∧ -(2 ^ 62) ≤ n ∧ n < 2 ^ 62) ∧ ds = ((List.range (n - lo).toNat).map fun (i : Nat) => .int (lo + i)) := by
  unfold rngD at h
  split at h
  · cases h; exact ⟨by assumption, rfl⟩
  · cases h
theorem si_rng1 (g : Good G sc X) (hl : glB sc "range" = true) (hm : NoG G "range") (ha : PE X a' (tE G.C a)) (n : nice a' = true) : PI X tg (.Call (.Name "range" p) [a'] [] pos) (tI G.C (.rng1 a)) :=
  (pi_range1 (g.gl _ hl) (by rw [g.mg]; exact hm) (pa_cons ha pa_nil (star_cons n)) (star_cons n)).imp fun σ H R q => by
    obtain ⟨H0, B, AA, ρ, ds, Rp, h, s, q⟩ := q
    unfold evi at h
    obtain ⟨t, h1, h⟩ := bnd h
    split at h
    · rename_i n hn
      obtain ⟨c1, rfl⟩ := rngD_inv h
      refine tE_frz Rp h1 fun As v H1 p => ⟨n, ?_, c1.2.2.1, c1.2.2.2, q _ _ p.same ?_⟩
      · have := p.dat; rw [hn] at this; rw [this.vint]
      · have := wd_rng (C := G.C) (F := hid H1 (ZZ B AA)) 0 n.toNat
        rw [Int.sub_zero]
        exact this
    · cases h
theorem si_rng2 (g : Good G sc X) (hl : glB sc "range" = true) (hm : NoG G "range") (ha : PE X a' (tE G.C a)) (hb : PE X b' (tE G.C b)) (n : nice a' = true) (n2 : nice b' = true) : PI X tg (.Call (.Name "range" p) [a', b'] [] pos) (tI G.C (.rng2 a b)) :=
  (pi_range2 (g.gl _ hl) (by rw [g.mg]; exact hm) (pa_cons ha (pa_cons hb pa_nil (star_cons n2)) (star_cons n)) (by rw [star_cons n, star_cons n2]; rfl) (by rw [star_cons n2]; rfl)).imp fun σ H R q => by
    obtain ⟨H0, B, AA, ρ, ds, Rp, h, s, q⟩ := q
    unfold evi at h
    obtain ⟨t, h1, h⟩ := bnd h
    obtain ⟨u, h2, h⟩ := bnd h
    split at h
    · rename_i l n hl hn
      obtain ⟨c1, rfl⟩ := rngD_inv h
      refine tE_frz Rp h1 fun As v H1 p => tE_frz (Rp.mono p.same) h2 fun Bs w H2 p2 => ⟨l, n, ?_, c1, q _ _ (p.same.trans p2.same) (wd_rng l _)⟩
      have d1 := p.dat; rw [hl] at d1
      have d2 := p2.dat; rw [hn] at d2
      rw [d1.vint, d2.vint]
    · cases h
theorem rgdD_inv {lo n : Int} {ds : List D} (h : rgdD lo n = some ds) : (-(2 ^ 62) ≤ lo ∧ lo < 2 ^ 62 ∧ -(2 ^ 62) ≤ n ∧ n < 2 ^ 62) ∧ ds = ((List.range (lo - n).toNat).map fun (i : Nat) => .int (lo - i)) := by
  unfold rgdD at h
  split at h
  · cases h; exact ⟨by assumption, rfl⟩
  · cases h
theorem wd_rgd {C : Cfg} {F : Hp} (lo : Int) (n : Nat) : WalkD C F (Itc lo (-1) n) ((List.range n).map fun (i : Nat) => .int (lo - i)) := by
  refine ⟨_, _, by rw [List.length_map, List.length_range]; exact walk_rangeC (lo := lo) (c := -1) (n := n), fun H e => trivial, fun i d H2 x H3 hd e y => ?_⟩
  obtain ⟨rfl, rfl⟩ := y
  refine ⟨Same.refl _, fun Z z k => ?_⟩
  rw [List.getElem?_map] at hd
  obtain ⟨j, h1, rfl⟩ := map_inv hd
  have hj : i < (List.range n).length := (List.getElem?_eq_some_iff.mp h1).1
  rw [List.getElem?_eq_getElem hj] at h1
  simp at h1
  subst h1
  show Dat C _ (.int (lo + ((i : Nat) : Int) * -1)) _
  rw [show lo + ((i : Nat) : Int) * -1 = lo - i by omega]
  exact .int _
theorem si_rngd (g : Good G sc X) (hl : glB sc "range" = true) (hm : NoG G "range") {c' : Expr} {c : E} (ha : PE X a' (tE G.C a)) (hb : PE X b' (tE G.C b)) (hc : PE X c' (tE G.C c)) (n : nice a' = true) (n2 : nice b' = true) (n3 : nice c' = true) : PI X tg (.Call (.Name "range" p) [a', b', c'] [] pos) (tI G.C (.rngd a b c)) :=
  (pi_range3 (g.gl _ hl) (by rw [g.mg]; exact hm) (pa_cons ha (pa_cons hb (pa_cons hc pa_nil (star_cons n3)) (star_cons n2)) (star_cons n)) (star_cons n) (by rw [star_cons n2, star_cons n3]; rfl)).imp fun σ H R q => by
    obtain ⟨H0, B, AA, ρ, ds, Rp, h, s, q⟩ := q
    unfold evi at h
    obtain ⟨t, h1, h⟩ := bnd h
    obtain ⟨u, h2, h⟩ := bnd h
    obtain ⟨v, h3, h⟩ := bnd h
    unfold rgdK at h
    split at h
    · rename_i l n k hl hn hk
      split at h
      · rename_i hk1
        obtain ⟨c1, rfl⟩ := rgdD_inv h
        refine tE_frz Rp h1 fun As v1 H1 p => tE_frz (Rp.mono p.same) h2 fun Bs w H2 p2 => tE_frz ((Rp.mono p.same).mono p2.same) h3 fun Cs w3 H3 p3 => ⟨l, n, k, (l - n).toNat, ?_, ?_, q _ _ ((p.same.trans p2.same).trans p3.same) ?_⟩
        · have d1 := p.dat; rw [hl] at d1
          have d2 := p2.dat; rw [hn] at d2
          have d3 := p3.dat; rw [hk] at d3
          rw [d1.vint, d2.vint, d3.vint]
        · rw [hk1]; exact RgC.neg c1.1 c1.2.1 c1.2.2.1 c1.2.2.2
        · rw [hk1]; exact wd_rgd l _
      · cases h
    · cases h
theorem si_enm {elts : List Expr} {kk : Nat} {tp : Pos} (g : Good G sc X) (hl : glB sc "enumerate" = true) (hm : NoG G "enumerate") (ha : PE X a' (tE G.C a)) (n : nice a' = true) : PI X (.Tuple elts kk tp) (.Call (.Name "enumerate" p) [a'] [] pos) (tI G.C (.enm a)) :=
  (PI.or (pi_enum (g.gl _ hl) (by rw [g.mg]; exact hm) (pa_cons ha pa_nil (star_cons n)) (star_cons n)) (pi_enumS (g.gl _ hl) (by rw [g.mg]; exact hm) (pa_cons ha pa_nil (star_cons n)) (star_cons n))).imp fun σ H R q => by
    obtain ⟨H0, B, AA, ρ, ds, Rp, h, s, q⟩ := q
    unfold evi at h
    obtain ⟨t, h1, h⟩ := bnd h
    cases ht : t.d with
    | lst ys =>
      rw [ht] at h; cases h
      refine .inl (tE_of Rp h1 s fun As v H1 p => ?_)
      have d := p.dh Rp.z rfl
      rw [ht] at d
      obtain ⟨a, vs, rfl, h2, h3⟩ := d.vlst
      exact ⟨a, vs, rfl, SqL.of (hid_sub _ _ h2), q _ _ p.same (wd_enm h2 h3)⟩
    | str cs =>
      rw [ht] at h; cases h
      refine .inr (tE_of Rp h1 s fun As v H1 p => ?_)
      have d := p.dh Rp.z rfl
      rw [ht] at d
      have := d.vstr
      subst this
      exact ⟨_, rfl, q _ _ p.same (wd_enmS _)⟩
    | _ => rw [ht] at h; cases h
theorem si_zip {elts : List Expr} {kk : Nat} {tp : Pos} (g : Good G sc X) (hl : glB sc "zip" = true) (hm : NoG G "zip") (ha : PE X a' (tE G.C a)) (hb : PE X b' (tE G.C b)) (n : nice a' = true) (n2 : nice b' = true) :
    PI X (.Tuple elts kk tp) (.Call (.Name "zip" p) [a', b'] [] pos) (tI G.C (.zip a b)) :=
  (PI.or (pi_zip (g.gl _ hl) (by rw [g.mg]; exact hm) (pa_cons ha (pa_cons hb pa_nil (star_cons n2)) (star_cons n)) (star_cons n) (by rw [star_cons n2]; rfl)) (pi_zipS (g.gl _ hl) (by rw [g.mg]; exact hm) (pa_cons ha (pa_cons hb pa_nil (star_cons n2)) (star_cons n)) (star_cons n) (by rw [star_cons n2]; rfl))).imp fun σ H R q => by
    obtain ⟨H0, B, AA, ρ, ds, Rp, h, s, q⟩ := q
    unfold evi at h
    obtain ⟨t, h1, h⟩ := bnd h
    obtain ⟨u, h2, h⟩ := bnd h
    have s := sal_app.mp s
    cases ht : t.d with
    | lst xs =>
      cases hu : u.d with
      | lst ys =>
        rw [ht, hu] at h; cases h
        refine .inl (tE_of Rp h1 s.1 fun As v H1 p => tE_of (Rp.mono p.same) h2 s.2 fun Bs w H2 p2 => ?_)
        have d1 := (p.later p2.same).dh Rp.z rfl
        have d2 := p2.dh (Rp.mono p.same).z rfl
        rw [ht] at d1
        rw [hu] at d2
        obtain ⟨a, vs, rfl, q1, q2⟩ := d1.vlst
        obtain ⟨b, us, rfl, q3, q4⟩ := d2.vlst
        exact ⟨a, b, vs, us, rfl, SqL.of (hid_sub _ _ q1), SqL.of (hid_sub _ _ q3), q _ _ (p.same.trans p2.same) (wd_zip q1 q2 q3 q4)⟩
      | str ys =>
        rw [ht, hu] at h; cases h
        refine .inr (tE_of Rp h1 s.1 fun As v H1 p => tE_of (Rp.mono p.same) h2 s.2 fun Bs w H2 p2 => ?_)
        have d1 := (p.later p2.same).dh Rp.z rfl
        have d2 := p2.dat
        rw [ht] at d1
        rw [hu] at d2
        obtain ⟨a, vs, rfl, q1, q2⟩ := d1.vlst
        have := d2.vstr
        subst this
        exact ⟨a, vs, _, rfl, SqL.of (hid_sub _ _ q1), q _ _ (p.same.trans p2.same) (wd_zipS q1 q2 _)⟩
      | _ => rw [ht, hu] at h; cases h
    | _ => rw [ht] at h; cases h
end
end Eng
/-! Eng L: targets, comprehensions, and the whole of the expressions. -/
namespace Eng
open PySem L2
@[simp] def setAllR : List Nat → List D → Rho → Option Rho
  | [], [], ρ => some ρ
  | i :: is, d :: ds, ρ => setAllR is ds (ρ.set i (some (.sh d)))
  | _, _, _ => none
@[simp] def asgR : Tg → D → Rho → Option Rho
  | .nm i, d, ρ => some (ρ.set i (some (.sh d)))
  | .tp is, .tup ds, ρ => setAllR is ds ρ
  | .tp is, .lst ds, ρ => setAllR is ds ρ
  | .tp _, _, _ => none
theorem setAllR_dl : ∀ {is : List Nat} {ds : List D} {ρ : Rho} {δ : Dl}, setAll is ds (dl ρ) = some δ → ∃ ρ', setAllR is ds ρ = some ρ' ∧ dl ρ' = δ
  | [], [], ρ, δ, h => by cases h; exact ⟨ρ, rfl, rfl⟩
  | i :: is, d :: ds, ρ, δ, h => by
    have h : setAll is ds ((dl ρ).set i (some d)) = some δ := h
    have e : (dl ρ).set i (some d) = dl (ρ.set i (some (.sh d))) := (dl_set (t := .sh d)).symm
    rw [e] at h
    exact setAllR_dl (is := is) (ds := ds) (ρ := ρ.set i (some (.sh d))) h
  | [], _ :: _, _, _, h => by cases h
  | _ :: _, [], _, _, h => by cases h
theorem asgR_dl {tg : Tg} {d : D} {ρ : Rho} {δ : Dl} (h : asgD tg d (dl ρ) = some δ) : ∃ ρ', asgR tg d ρ = some ρ' ∧ dl ρ' = δ := by
  cases tg with
  | nm i => cases h; exact ⟨_, rfl, dl_set⟩
  | tp is =>
    cases d with
    | tup ds => exact setAllR_dl h
    | lst ds => exact setAllR_dl h
    | _ => cases h
theorem setAllR_ow : ∀ {is : List Nat} {ds : List D} {ρ ρ' : Rho} {j : Nat}, setAllR is ds ρ = some ρ' → ow ρ' j = true → ow ρ j = true
  | [], [], ρ, _, _, h, o => by cases h; exact o
  | i :: is, d :: ds, ρ, _, _, h, o => ow_set_sh (setAllR_ow (ρ := ρ.set i (some (.sh d))) h o)
  | [], _ :: _, _, _, _, h, _ => by cases h
  | _ :: _, [], _, _, _, h, _ => by cases h
theorem asgR_ow {tg : Tg} {d : D} {ρ ρ' : Rho} {j : Nat} (h : asgR tg d ρ = some ρ') (o : ow ρ' j = true) : ow ρ j = true := by
  cases tg with
  | nm i => cases h; exact ow_set_sh o
  | tp is =>
    cases d with
    | tup ds => exact setAllR_ow h o
    | lst ds => exact setAllR_ow h o
    | _ => cases h
theorem wipe_set {σ : L2.St} {i : Nat} {x : Option V} : ∀ {vs : List Nat}, i ∈ vs → L2.wipe (σ.set i x) vs = L2.wipe σ vs
  | v :: vs, h => by
    show (L2.wipe (σ.set i x) vs).set v none = (L2.wipe σ vs).set v none
    by_cases hi : i ∈ vs
    · rw [wipe_set hi]
    · have hv : i = v := by
        rcases List.mem_cons.mp h with e | e
        · exact e
        · exact absurd e hi
      subst hv
      have : ∀ {us : List Nat}, i ∉ us → L2.wipe (σ.set i x) us = (L2.wipe σ us).set i x := by
        intro us
        induction us with
        | nil => intro _; rfl
        | cons u us ih =>
          intro hu
          have hu1 : i ≠ u := fun e => hu (by rw [e]; exact List.mem_cons_self ..)
          show (L2.wipe (σ.set i x) us).set u none = ((L2.wipe σ us).set u none).set i x
          rw [ih (fun m => hu (List.mem_cons_of_mem _ m)), List.set_comm _ _ hu1]
      rw [this hi, List.set_set]
theorem wipe_wipe {σ : L2.St} {vs : List Nat} : ∀ {us : List Nat}, (∀ i, i ∈ us → i ∈ vs) → L2.wipe (L2.wipe σ us) vs = L2.wipe σ vs
  | [], _ => rfl
  | u :: us, h => by
    show L2.wipe ((L2.wipe σ us).set u none) vs = _
    rw [wipe_set (h u (List.mem_cons_self ..)), wipe_wipe fun i m => h i (List.mem_cons_of_mem _ m)]
def tGs (C : Cfg) (is : List Nat) : TGs := fun vs σ H Q => ∃ (H0 : Hp) (B : Addr → Prop) (AA : Nat → List Addr) (ρ ρ' : Rho) (ds : List D), Rep C H0 B AA H σ ρ ∧ Dats C (hid H (ZZ B AA)) vs ds ∧ setAllR is ds ρ = some ρ' ∧
  ∀ AA' σ', Rep C H0 B AA' H σ' ρ' → (∀ a, ZZ B AA' a → ZZ B AA a) → ((∀ i, i ∈ is → AA i = []) → AA' = AA) → (∀ us : List Nat, (∀ i, i ∈ is → i ∈ us) → L2.wipe σ' us = L2.wipe σ us) → Q σ' H
def tG (C : Cfg) (tg : Tg) : TG := fun v σ H Q => ∃ (H0 : Hp) (B : Addr → Prop) (AA : Nat → List Addr) (ρ ρ' : Rho) (d : D), Rep C H0 B AA H σ ρ ∧ Dat C (hid H (ZZ B AA)) v d ∧ asgR tg d ρ = some ρ' ∧
  ∀ AA' σ', Rep C H0 B AA' H σ' ρ' → (∀ a, ZZ B AA' a → ZZ B AA a) → ((∀ i, i ∈ tg.ix → AA i = []) → AA' = AA) → (∀ us : List Nat, (∀ i, i ∈ tg.ix → i ∈ us) → L2.wipe σ' us = L2.wipe σ us) → Q σ' H
theorem upA_nil {AA : Nat → List Addr} {i : Nat} (h : AA i = []) : upA AA i [] = AA := by
  funext j
  by_cases hj : j = i
  · subst hj; rw [upA_same, h]
  · rw [upA_ne hj]
theorem ZZ_sub {B : Addr → Prop} {AA : Nat → List Addr} {i : Nat} : ∀ a, ZZ B (upA AA i []) a → ZZ B AA a := fun a q => (ZZ_upA a q).elim id fun m => by cases m
section
variable {G : GC} {sc : Scope} {X : Cx} {pos : Pos}
theorem pg_nm {i : Nat} {x : Str} (g : Good G sc X) (hN : G.N[i]? = some x) (hl : locB sc x = true) : PG X (.Name x pos) (gName i) :=
  pg_name (by rw [g.N]; exact g.nd) (by rw [g.N]; exact hN) (g.loc x hl).1 (g.loc x hl).2
theorem sg_nms (g : Good G sc X) : ∀ {is : List Nat} {es : List Expr}, mNms G.N sc is es = true → PGs X es (tGs G.C is) ∧ (assignEach es X.env).length = is.length ∧ (assignEach es X.env).findIdx? (·.1) = none
  | [], [], _ => by
    refine ⟨⟨fun pins s σ H vs us Q I r q => pgs_nil.run pins s σ H vs us Q I r ?_⟩, rfl, rfl⟩
    obtain ⟨H0, B, AA, ρ, ρ', ds, R, hd, h, q⟩ := q
    cases ds with
    | cons d ds => cases h
    | nil =>
      cases h
      cases hd
      exact ⟨rfl, q AA σ R (fun _ z => z) (fun _ => rfl) fun _ _ => rfl⟩
  | i :: is, e :: es, h => by
    unfold mNms at h
    split at h
    · rename_i q1 q2; cases q1
    · rename_i i' is' x p es' q1 q2
      cases q1; cases q2
      have h := Bool.and_eq_true_iff.mp h
      have h' := Bool.and_eq_true_iff.mp h.1
      obtain ⟨k1, k2, k3⟩ := sg_nms g h.2
      refine ⟨⟨fun pins s σ H vs us Q I r q => (pgs_cons (pg_nm g (of_decide_eq_true h'.1) h'.2) k1).run pins s σ H vs us Q I r ?_⟩, congrArg (· + 1) k2, ?_⟩
      · obtain ⟨H0, B, AA, ρ, ρ', ds, R, hd, h, q⟩ := q
        cases ds with
        | nil => cases h
        | cons d ds =>
          cases hd with
          | cons hd hds =>
            refine ⟨_, _, rfl, H0, B, upA AA i [], _, ρ', ds, R.storeS (i := i) hd, hds.mono (hid_mono (Same.refl _) fun a _ _ z => ZZ_sub a z), h, fun AA' σ' R' z1 z2 z3 => ?_⟩
            refine q AA' σ' R' (fun a z => ZZ_sub a (z1 a z)) (fun k => ?_) fun us k => ?_
            · have e0 := upA_nil (k i (List.mem_cons_self ..))
              rw [e0] at z2
              exact z2 fun j m => k j (List.mem_cons_of_mem _ m)
            · rw [z3 us fun j m => k j (List.mem_cons_of_mem _ m), wipe_set (k i (List.mem_cons_self ..))]
      · show ((false, assign (.Name x p) X.env) :: assignEach es X.env).findIdx? (·.1) = none
        rw [List.findIdx?_cons, k3]; rfl
    · cases h
  | [], _ :: _, h => by cases h
  | _ :: _, [], h => by cases h
theorem sg (g : Good G sc X) {tg : Tg} {e : Expr} (h : mTg G.N sc tg e = true) : PG X e (tG G.C tg) := by
  unfold mTg at h
  split at h
  · rename_i i x p
    have h := Bool.and_eq_true_iff.mp h
    refine ⟨fun pins s σ H v u Q I r q => (pg_nm g (of_decide_eq_true h.1) h.2).run pins s σ H v u Q I r ?_⟩
    obtain ⟨H0, B, AA, ρ, ρ', d, R, hd, h, q⟩ := q
    cases h
    exact q _ _ (R.storeS (i := i) hd) ZZ_sub (fun k => upA_nil (k i (List.mem_singleton.mpr rfl))) fun us k => wipe_set (k i (List.mem_singleton.mpr rfl))
  · rename_i is es k p
    obtain ⟨k1, k2, k3⟩ := sg_nms g h
    refine ⟨fun pins s σ H v u Q I r q => ?_⟩
    have hl : ∀ {is : List Nat} {ds : List D} {ρ ρ' : Rho}, setAllR is ds ρ = some ρ' → ds.length = is.length := by
      intro is
      induction is with
      | nil => intro ds ρ ρ' h; cases ds with | nil => rfl | cons _ _ => cases h
      | cons i is ih => intro ds ρ ρ' h; cases ds with | nil => cases h | cons _ _ => exact congrArg (· + 1) (ih h)
    obtain ⟨H0, B, AA, ρ, ρ', d, R, hd, h, q⟩ := q
    cases d with
    | tup ds =>
      refine (pg_tup g.calm k1 k2 k3).run pins s σ H v u Q I r ?_
      obtain ⟨a, xs, rfl, ha, hv⟩ := hd.vtup
      exact ⟨a, xs, rfl, SqT.of (hid_sub _ _ ha), by rw [hv.length]; exact hl h, H0, B, AA, ρ, ρ', ds, R, hv, h, q⟩
    | lst ds =>
      refine (pg_unl g.calm k1 k2 k3).run pins s σ H v u Q I r ?_
      obtain ⟨a, xs, rfl, ha, hv⟩ := hd.vlst
      exact ⟨a, xs, rfl, SqL.of (hid_sub _ _ ha), by rw [hv.length]; exact hl h, H0, B, AA, ρ, ρ', ds, R, hv, h, q⟩
    | _ => cases h
  · cases h
/-! ### comprehensions -/
theorem Rep.forgetB {C : Cfg} {H0 H : Hp} {B : Addr → Prop} {AA : Nat → List Addr} {σ : L2.St} {ρ : Rho} {i : Nat} (R : Rep C H0 B AA H σ ρ) : Rep C H0 (Zp B (AA i)) (upA AA i []) H (σ.set i none) (ρ.set i none) ∧ ZZ (Zp B (AA i)) (upA AA i []) = ZZ B AA := by
  have hz : ZZ (Zp B (AA i)) (upA AA i []) = ZZ B AA := by
    funext a
    refine propext ⟨fun q => ?_, fun q => ?_⟩
    · rcases q with (q | q) | ⟨j, q⟩
      · exact .inl q
      · exact .inr ⟨i, q⟩
      · by_cases hj : j = i
        · subst hj; rw [upA_same] at q; cases q
        · rw [upA_ne hj] at q; exact .inr ⟨j, q⟩
    · rcases q with q | ⟨j, q⟩
      · exact .inl (.inl q)
      · by_cases hj : j = i
        · subst hj; exact .inl (.inr q)
        · exact .inr ⟨j, by rw [upA_ne hj]; exact q⟩
  refine ⟨⟨R.same, fun a q => q.elim (R.bs a) fun m => (R.new i a m).2.1, fun j a m => ?_, fun j => ?_, fun j l a m n => ?_, fun j t h => ?_, by rw [List.length_set, List.length_set]; exact R.len⟩, hz⟩
  · by_cases hj : j = i
    · subst hj; rw [upA_same] at m; cases m
    · rw [upA_ne hj] at m
      obtain ⟨k1, k2, k3⟩ := R.new j a m
      exact ⟨k1, k2, fun q => q.elim k3 fun n => hj (R.dj j i a m n)⟩
  · by_cases hj : j = i
    · subst hj; rw [upA_same]; exact List.nodup_nil
    · rw [upA_ne hj]; exact R.nd j
  · by_cases hj : j = i
    · subst hj; rw [upA_same] at m; cases m
    · by_cases hl : l = i
      · subst hl; rw [upA_same] at n; cases n
      · rw [upA_ne hj] at m; rw [upA_ne hl] at n; exact R.dj j l a m n
  · by_cases hj : i = j
    · subst hj
      have hi : i < ρ.length := by
        have := (List.getElem?_eq_some_iff.mp h).1
        rwa [List.length_set] at this
      rw [List.getElem?_set_self hi] at h
      cases h
    · rw [List.getElem?_set_ne hj] at h
      obtain ⟨u', h1, h2⟩ := R.slot j t h
      exact ⟨u', by rw [List.getElem?_set_ne hj]; exact h1, by rw [hz, upA_ne (fun q => hj q.symm)]; exact h2⟩
theorem Rep.wipeB {C : Cfg} {H0 H : Hp} {σ : L2.St} {ρ : Rho} : ∀ (vs : List Nat) {B : Addr → Prop} {AA : Nat → List Addr}, Rep C H0 B AA H σ ρ →
    ∃ B' AA', Rep C H0 B' AA' H (L2.wipe σ vs) (wipeD ρ vs) ∧ ZZ B' AA' = ZZ B AA ∧ ∀ i, i ∈ vs → AA' i = []
  | [], B, AA, R => ⟨B, AA, R, rfl, fun _ m => by cases m⟩
  | v :: vs, B, AA, R => by
    obtain ⟨B', AA', R', z, k⟩ := Rep.wipeB vs R
    obtain ⟨R2, z2⟩ := R'.forgetB (i := v)
    refine ⟨_, _, R2, z2.trans z, fun i m => ?_⟩
    by_cases h : i = v
    · subst h; exact upA_same
    · rw [upA_ne h]
      rcases List.mem_cons.mp m with e | m
      · exact absurd e h
      · exact k i m
theorem lcGo_cons {f : D → Option (Option T)} {d : D} {ds : List D} {ts : List T} (h : lcGo f (d :: ds) = some ts) : ∃ o us, f d = some o ∧ lcGo f ds = some us ∧ ts = (match o with | some t => t :: us | none => us) := by
  unfold lcGo at h
  obtain ⟨o, h1, h⟩ := bnd h
  obtain ⟨us, h2, h⟩ := map_inv h
  exact ⟨o, us, h1, h2, by cases o <;> exact h.symm⟩
theorem lc_read {own : List (Str × Nat)} {tg : Tg} {it : I} {c : Eo} {e : E} (hx : ∀ i, i ∈ tg.ix → i ∈ own.map (·.2)) {σ : L2.St} {H : Hp} {Q : VK} (q : tE G.C (.lc own tg it c e) σ H Q) :
    tLc (tI G.C it) (tG G.C tg) (tTo G.C c) (tE G.C e) (own.map (·.2)) σ H Q := by
  obtain ⟨H0, B, AA, ρ, t, R, h, s, q⟩ := q
  unfold ev at h
  obtain ⟨ds, h1, h⟩ := bnd h
  split at h
  · rename_i hlen
    obtain ⟨ts, hts, rfl⟩ := map_inv h
    unfold avs at s
    have s := sal_app.mp s
    refine ⟨H0, B, AA, ρ, ds, R, h1, s.1, fun J H1 e1 wd => ?_⟩
    intro Dd hD
    obtain ⟨W, Y, walk, hW, hY⟩ := wd
    generalize hvs : own.map (·.2) = vs at *
    generalize hf : (fun d => (asgD tg d (wipeD (dl ρ) vs)).bind fun δ' => (tsto c δ').bind fun k => if k = true then (ev e δ').map some else some none) = f at *
    have hF : ∀ d o, f d = some o → ∃ δ' k, asgD tg d (wipeD (dl ρ) vs) = some δ' ∧ tsto c δ' = some k ∧ (k = true → ∃ t, ev e δ' = some t ∧ o = some t) ∧ (k = false → o = none) := by
      intro d o h
      subst hf
      obtain ⟨δ', h1, h⟩ := bnd h
      obtain ⟨k, h2, h⟩ := bnd h
      refine ⟨δ', k, h1, h2, fun hk => ?_, fun hk => ?_⟩
      · subst hk
        obtain ⟨t, h3, h4⟩ := map_inv (show (ev e δ').map some = some o from h)
        exact ⟨t, h3, h4.symm⟩
      · subst hk
        have h : some none = some o := h
        cases h; rfl
    refine lc_it walk (fun i H2 => ∃ (vsA : List V) (ts1 rest : List T) (As : List Addr), Same H1 H2 ∧ H2 Dd = some (.lst vsA) ∧ lcGo f (ds.drop i) = some rest ∧ ts = ts1 ++ rest ∧ vsA.length ≤ i ∧ As.Nodup ∧
      (∀ a, a ∈ As → H1 a = none ∧ nTup H2 a ∧ a ≠ Dd) ∧ Owns G.C (hid H2 (Zp (Zp (ZZ B AA) [Dd]) As)) H2 vsA ts1 As) ?_ ?_ ?_ ?_
    · exact ⟨[], [], ts, [], Same.upd hD, upd_same, hts, rfl, Nat.le_refl _, List.nodup_nil, (fun _ m => by cases m), .nil⟩
    · rintro i H2 hi ⟨vsA, ts1, rest, As, sm, _⟩
      exact hW H2 (hid_sub.trans sm)
    · rintro i x H2 H3 hlt ⟨vsA, ts1, rest, As, sm, hDd, hgo, hts1, hl, nd, nw, ow1⟩ y
      have hd : ds[i]? = some ds[i] := List.getElem?_eq_getElem hlt
      generalize ds[i] = d at hd
      have hdrop : ds.drop i = d :: ds.drop (i + 1) := by
        have hlt' : i < ds.length := hlt
        rw [List.drop_eq_getElem_cons hlt']
        rw [List.getElem?_eq_getElem hlt'] at hd
        rw [Option.some.inj hd]
      rw [hdrop] at hgo
      obtain ⟨o, rest', ho, hgo', hrest⟩ := lcGo_cons hgo
      obtain ⟨sm3, hdat⟩ := hY i d H2 x H3 hd (hid_sub.trans sm) y
      obtain ⟨δ', k, ha, hk, hkt, hkf⟩ := hF d o ho
      -- the block's slots
      have newA : ∀ a, a ∈ Dd :: As → H a = none ∧ nTup H3 a := fun a m => by
        rcases List.mem_cons.mp m with rfl | m
        · exact ⟨e1.free hD, _, sm3 _ _ hDd, fun _ z => nomatch z⟩
        · exact ⟨e1.free (nw a m).1, (nw a m).2.1.mono sm3⟩
      have Rg := R.grow (As := Dd :: As) (e1.trans (sm.trans sm3)) newA
      obtain ⟨Bw, AAw, Rw, zw, kw⟩ := Rg.wipeB vs
      rw [ZZ_Zp] at zw
      have dat3 : Dat G.C (hid H3 (ZZ Bw AAw)) x d := by
        rw [zw]
        refine hdat _ (fun a z => ?_) (hid_mono sm fun a u hu z => ?_)
        · rcases z with z | z
          · exact (R.z a z).mono (e1.trans sm)
          · rcases List.mem_cons.mp z with rfl | m
            · exact ⟨_, hDd, fun _ z => nomatch z⟩
            · exact (nw a m).2.1
        · rcases z with z | z
          · exact z
          · rcases List.mem_cons.mp z with rfl | m
            · rw [hD] at hu; cases hu
            · rw [(nw a m).1] at hu; cases hu
      rw [← dl_wipe] at ha
      obtain ⟨ρ', hasg, hdl⟩ := asgR_dl ha
      refine ⟨H0, Bw, AAw, wipeD ρ vs, ρ', d, Rw, dat3, hasg, fun AA' σ' R' z1 z2 z3 => ⟨?_, ?_⟩⟩
      · rw [z3 vs hx, wipe_wipe fun _ m => m]
      · have e2 : AA' = AAw := z2 fun i m => kw i (hx i m)
        subst e2
        refine ⟨H0, Bw, AA', ρ', k, R', by rw [hdl]; exact hk, fun H5 s5 => ?_⟩
        have keepOwn : ∀ H6, Same H2 H6 → ∀ (Bs : List Addr), (∀ a, a ∈ Bs → H2 a = none) → ∀ (w : HO), Owns G.C (hid (upd H6 Dd w) (Zp (Zp (ZZ B AA) [Dd]) (As ++ Bs))) (upd H6 Dd w) vsA ts1 As := fun H6 s26 Bs hB w => by
          refine ow1.mono (fun a u hu => ?_) fun a m => ?_
          · obtain ⟨q1, q2⟩ := hid_some.mp hu
            have hne : a ≠ Dd := fun z => q1 (.inl (.inr (by rw [z]; exact List.mem_singleton.mpr rfl)))
            refine hid_some.mpr ⟨fun z => ?_, by rw [upd_ne hne]; exact s26 _ _ q2⟩
            rcases z with z | z
            · exact q1 (.inl z)
            · rcases List.mem_append.mp z with z | z
              · exact q1 (.inr z)
              · rw [hB a z] at q2; cases q2
          · rw [upd_ne (nw a m).2.2]
            obtain ⟨u, hu, _⟩ := (nw a m).2.1
            rw [hu, s26 _ _ hu]
        cases k with
        | true =>
          obtain ⟨tt, hev, rfl⟩ := hkt rfl
          have sal' : sal (avs e) (Eng.ow ρ') = true := sal_mono (fun j hj => ow_wipe (asgR_ow hasg hj)) s.2
          refine tE_of (R'.mono s5) (by rw [hdl]; exact hev) sal' fun Bs yv H6 p => ?_
          have s26 : Same H2 H6 := sm3.trans (s5.trans p.same)
          have hB5 : ∀ a, a ∈ Bs → H2 a = none := fun a m => (sm3.trans s5).free (p.new a m).1
          refine ⟨vsA, s26 _ _ hDd, by rw [sz_eq]; have : i < ds.length := hlt; omega, vsA ++ [yv], ts1 ++ [tt], rest', As ++ Bs, ?_, upd_same, hgo', by rw [hts1, hrest, List.append_assoc]; rfl, by rw [List.length_append]; simp; omega, ?_, fun a m => ?_, ?_⟩
          · exact fun a u hu => by rw [upd_ne (ne_of_none hu hD)]; exact (sm.trans s26) a u hu
          · refine List.nodup_append.mpr ⟨nd, p.nd, fun a ha b hb e => ?_⟩
            subst e
            obtain ⟨u, hu, _⟩ := (nw a ha).2.1
            rw [hB5 a hb] at hu; cases hu
          · rcases List.mem_append.mp m with m | m
            · refine ⟨(nw a m).1, ?_, (nw a m).2.2⟩
              obtain ⟨u, hu, hn⟩ := (nw a m).2.1
              exact ⟨u, by rw [upd_ne (nw a m).2.2]; exact s26 _ _ hu, hn⟩
            · have hne : a ≠ Dd := fun z => by have := hB5 a m; rw [z, hDd] at this; cases this
              refine ⟨sm.free (hB5 a m), ?_, hne⟩
              obtain ⟨u, hu, hn⟩ := (p.new a m).2
              exact ⟨u, by rw [upd_ne hne]; exact hu, hn⟩
          · have o1 := keepOwn H6 s26 Bs hB5 (.lst (vsA ++ [yv]))
            have o2 := p.own rfl
            rw [zw] at o2
            have hne : ∀ a, a ∈ Bs → a ≠ Dd := fun a m z => by have := hB5 a m; rw [z, hDd] at this; cases this
            have o3 : Own G.C (hid (upd H6 Dd (.lst (vsA ++ [yv]))) (Zp (Zp (ZZ B AA) [Dd]) (As ++ Bs))) (upd H6 Dd (.lst (vsA ++ [yv]))) yv tt Bs := by
              refine o2.mono (fun a u hu => ?_) fun a m => upd_ne (hne a m)
              obtain ⟨q1, q2⟩ := hid_some.mp hu
              have hne2 : a ≠ Dd := fun z => q1 (.inl (.inr (by rw [z]; exact List.mem_cons_self ..)))
              refine hid_some.mpr ⟨fun z => ?_, by rw [upd_ne hne2]; exact q2⟩
              rcases z with (z | z) | z
              · exact q1 (.inl (.inl z))
              · exact hne2 (List.mem_singleton.mp z)
              · rcases List.mem_append.mp z with z | z
                · exact q1 (.inl (.inr (List.mem_cons_of_mem _ z)))
                · exact q1 (.inr z)
            have := Owns.append o1 (Owns.cons o3 .nil)
            rw [List.append_nil] at this
            exact this
        | false =>
          have := hkf rfl
          subst this
          have s25 : Same H2 H5 := sm3.trans s5
          refine ⟨vsA, ts1, rest', As, sm.trans s25, s25 _ _ hDd, hgo', by rw [hts1, hrest], by omega, nd, fun a m => ⟨(nw a m).1, (nw a m).2.1.mono s25, (nw a m).2.2⟩, ?_⟩
          refine ow1.mono (hid_mono s25 fun _ _ _ z => z) fun a m => ?_
          obtain ⟨u, hu, _⟩ := (nw a m).2.1
          rw [hu, s25 _ _ hu]
    · rintro H2 ⟨vsA, ts1, rest, As, sm, hDd, hgo, hts1, hl, nd, nw, ow1⟩
      rw [List.drop_length] at hgo
      cases hgo
      rw [List.append_nil] at hts1
      subst hts1
      have ow2 : Owns G.C (hid H2 (Zp (ZZ B AA) (Dd :: As))) H2 vsA ts As := by
        rw [Zp_app] at ow1
        exact ow1
      have hnA : Dd ∉ As := fun m => (nw Dd m).2.2 rfl
      have o : Own G.C (hid H2 (Zp (ZZ B AA) (Dd :: As))) H2 (.ref Dd) (.lst ts) (Dd :: As) := .lst hDd ow2
      refine q (Dd :: As) (.ref Dd) H2 ⟨e1.trans sm, List.nodup_cons.mpr ⟨hnA, nd⟩, fun a m => ?_, o.dat hid_sub fun _ _ _ z => z, fun _ => o⟩
      rcases List.mem_cons.mp m with rfl | m
      · exact ⟨e1.free hD, _, hDd, fun _ z => nomatch z⟩
      · exact ⟨e1.free (nw a m).1, (nw a m).2.1⟩
  · cases h
theorem so_lc {own : List (Str × Nat)} {tg : Tg} {it : I} {c : Eo} {e : E} {elt tgt iter : Expr} {ifs : List Expr} {scope : Scope} (g : Good G sc X) (ok : BlkOk X.N X.env.scope scope own) (hx : ∀ i, i ∈ tg.ix → i ∈ own.map (·.2)) (nI : nice iter = true)
    (hi : PI X tgt iter (tI G.C it)) (hg : ∀ X', Good G scope X' → PG X' tgt (tG G.C tg)) (ht : ∀ X', Good G scope X' → PTs X' ifs (tTo G.C c)) (he : ∀ X', Good G scope X' → PE X' elt (tE G.C e)) :
    SoE G sc X (.lc own tg it c e) (.ListComp elt [⟨tgt, iter, ifs, 0⟩] scope pos) := by
  refine so_no ((pe_lc g.calm (by rw [g.N]; exact g.nd) hi ok (fun s H C cl fp => hg _ (g.blk ok.kind s H C cl fp)) (fun s H C cl fp => ht _ (g.blk ok.kind s H C cl fp)) (fun s H C cl fp => he _ (g.blk ok.kind s H C cl fp)) (set_plain nI)).imp fun σ H Q q => lc_read hx q) fun δ => by unfold tst; rfl
end
end Eng
/-! Eng M: the whole of the expressions. -/
namespace Eng
open PySem L2
theorem _root_.L2.PTs.imp {X : Cx} {e : List Expr} {t t' : TT} (h : PTs X e t) (k : ∀ σ H Q, t' σ H Q → t σ H Q) : PTs X e t' := ⟨fun pins s σ H Q I q => h.run pins s σ H Q I (k _ _ _ q)⟩
theorem isi_boot {t : String} {x : Str} (h : isiB t = true) (e : x = Str.ofString t) : bootBuiltins x = some (.type t) := by
  subst e
  unfold isiB at h
  simp only [Bool.or_eq_true, beq_iff_eq] at h
  rcases h with ((((rfl | rfl) | rfl) | rfl) | rfl) | rfl <;> decide +kernel
theorem mI_nice {N : List Str} {sc : Scope} {it : I} {tg e : Expr} (h : mI N sc it tg e = true) : nice e = true := by
  cases it with
  | seq e => unfold mI at h; exact mE_nice h
  | _ =>
    unfold mI at h
    split at h
    · rfl
    · cases h
variable {G : GC}
mutual
theorem soE : ∀ (e : E) {sc : Scope} {X : Cx} {e' : Expr}, Good G sc X → mE G.N sc e e' = true → Nd G e → SoE G sc X e e'
  | .var i, sc, X, e', g, m, n => by
    unfold mE at m
    split at m
    · obtain ⟨m1, m2, m3⟩ := and3 m
      exact so_var g (of_decide_eq_true m1) m2 m3
    · cases m
  | .cst d, sc, X, e', g, m, n => by
    unfold mE at m
    split at m
    · exact so_cst g m
    · cases m
  | .glb x d, sc, X, e', g, m, n => by
    unfold mE at m
    split at m
    · obtain ⟨m1, m2, m3⟩ := and3 m
      have := of_decide_eq_true m1
      subst this
      exact so_glb g m2 m3 n
    · cases m
  | .bin op a b, sc, X, e', g, m, n => by
    unfold mE at m
    split at m
    · obtain ⟨m1, m2, m3⟩ := and3 m
      have := of_decide_eq_true m1
      subst this
      exact so_bin (soE a g m2 n.1) (soE b g m3 n.2)
    · cases m
  | .neg a, sc, X, e', g, m, n => by
    unfold mE at m
    split at m
    · exact so_neg (soE a g m n)
    · cases m
  | .cmp op a b, sc, X, e', g, m, n => by
    unfold mE at m
    split at m
    · obtain ⟨m1, m2, m3⟩ := and3 m
      have := of_decide_eq_true m1
      subst this
      exact so_cmp g (soE a g m2 n.1) (soE b g m3 n.2) (mE_nice m3)
    · cases m
  | .chn o1 o2 a b c, sc, X, e', g, m, n => by
    unfold mE at m
    split at m
    · obtain ⟨m1, m2, m3⟩ := and3 m
      obtain ⟨m4, m5, m6⟩ := and3 m1
      have := of_decide_eq_true m4
      subst this
      have := of_decide_eq_true m5
      subst this
      exact so_chn g (soE a g m6 n.1) (soE b g m2 n.2.1) (soE c g m3 n.2.2) (mE_nice m3)
    · cases m
  | .and a b, sc, X, e', g, m, n => by
    unfold mE at m
    split at m
    · have m := Bool.and_eq_true_iff.mp m
      exact so_and (soE a g m.1 n.1) (soE b g m.2 n.2)
    · cases m
  | .or a b, sc, X, e', g, m, n => by
    unfold mE at m
    split at m
    · have m := Bool.and_eq_true_iff.mp m
      exact so_or (soE a g m.1 n.1) (soE b g m.2 n.2)
    · cases m
  | .one a, sc, X, e', g, m, n => by
    unfold mE at m
    split at m
    · exact so_one (soE a g m n)
    · cases m
  | .not a, sc, X, e', g, m, n => by
    unfold mE at m
    split at m
    · exact so_not (soE a g m n)
    · cases m
  | .ife c a b, sc, X, e', g, m, n => by
    unfold mE at m
    split at m
    · obtain ⟨m1, m2, m3⟩ := and3 m
      exact so_ife (soE c g m1 n.1) (soE a g m2 n.2.1) (soE b g m3 n.2.2)
    · cases m
  | .tup es, sc, X, e', g, m, n => by
    unfold mE at m
    split at m
    · exact so_tup (soEs es g m n)
    · cases m
  | .lst es, sc, X, e', g, m, n => by
    unfold mE at m
    split at m
    · exact so_lst (soEs es g m n)
    · cases m
  | .idx a b, sc, X, e', g, m, n => by
    unfold mE at m
    split at m
    · have m := Bool.and_eq_true_iff.mp m
      exact so_idx g (soE a g m.1 n.1) (soE b g m.2 n.2) (mE_nice m.2)
    · cases m
  | .slc a lo hi, sc, X, e', g, m, n => by
    unfold mE at m
    split at m
    · obtain ⟨m1, m2, m3⟩ := and3 m
      exact so_slc g (soE a g m1 n.1) (soEo lo g m2 n.2.1) (soEo hi g m3 n.2.2)
    · cases m
  | .fld a f cs, sc, X, e', g, m, n => by
    unfold mE at m
    split at m
    · obtain ⟨m1, m2, m3⟩ := and3 m
      have := of_decide_eq_true m1
      subst this
      exact so_fld g (soE a g m3 n.1) m2 n.2
    · cases m
  | .cal f F dds es, sc, X, e', g, m, n => by
    unfold mE at m
    split at m
    · obtain ⟨m1, m2, m3⟩ := and3 m
      have m1 := Bool.and_eq_true_iff.mp m1
      have := of_decide_eq_true m1.1
      subst this
      refine so_cal g m1.2 m2 (soEs es g m3 n.2) (mEs_nice m3) (fun z => ?_) n.1
      subst z
      cases es with
      | nil => rfl
      | cons _ _ => unfold mEs at m3; cases m3
    · cases m
  | .bi b es, sc, X, e', g, m, n => by
    unfold mE at m
    split at m
    · obtain ⟨m1, m2, m3⟩ := and3 m
      have m1 := Bool.and_eq_true_iff.mp m1
      have := of_decide_eq_true m1.1
      subst this
      exact so_bi b g m1.2 m2 (soEs es g m3 n.2) (mEs_nice m3) n.1
    · cases m
  | .mth mm a es, sc, X, e', g, m, n => by
    unfold mE at m
    split at m
    · obtain ⟨m1, m2, m3⟩ := and3 m
      obtain ⟨m4, m5, m6⟩ := and3 m1
      have m4 := Bool.and_eq_true_iff.mp m4
      have := of_decide_eq_true m4.1
      subst this
      exact so_mth mm g (soE a g m2 n.1) m4.2 m5 (of_decide_eq_true m6) (soEs es g m3 n.2) (mEs_nice m3)
    · cases m
  | .lc own tg it c e, sc, X, e', g, m, n => by
    unfold mE at m
    split at m
    · obtain ⟨m1, m2, m3⟩ := and3 m
      obtain ⟨m4, m5, m6⟩ := and3 m1
      obtain ⟨m7, m8, m9⟩ := and3 m4
      have := of_decide_eq_true m7
      subst this
      have ok := blkOk_by m8
      rename_i elt tgt iter ifs scope p
      exact so_lc g (g.blkOk ok) (fun i h => by simpa using (List.all_eq_true.mp m5) i h) (mI_nice m6) (soI it g m6 n.1) (fun X' g' => sg g' m9) (fun X' g' => soIf c g' m2 n.2.1) (fun X' g' => (soE e g' m3 n.2.2).1)
    · cases m
  | .isi a x t, sc, X, e', g, m, n => by
    unfold mE at m
    split at m
    · obtain ⟨m1, m2, m3⟩ := and3 m
      obtain ⟨m4, m5, m6⟩ := and3 m1
      obtain ⟨m7, m8, m9⟩ := and3 m4
      have m7 := Bool.and_eq_true_iff.mp m7
      have e1 := of_decide_eq_true m7.1
      subst e1
      have e2 := of_decide_eq_true m8
      subst e2
      have e3 := of_decide_eq_true m2
      exact so_isi g m7.2 m9 m5 e3 (soE a g m3 n.2.2) (mE_nice m3) n.1 n.2.1 (isi_boot m6 e3)
    · cases m
theorem soEs : ∀ (es : Es) {sc : Scope} {X : Cx} {es' : List Expr}, Good G sc X → mEs G.N sc es es' = true → Nds G es → PA X es' (tA G.C es)
  | .nil, sc, X, [], g, m, n => sa_nil
  | .nil, sc, X, _ :: _, g, m, n => by unfold mEs at m; cases m
  | .cons e es, sc, X, [], g, m, n => by unfold mEs at m; cases m
  | .cons e es, sc, X, e' :: es', g, m, n => by
    unfold mEs at m
    have m := Bool.and_eq_true_iff.mp m
    exact sa_cons (soE e g m.1 n.1).1 (soEs es g m.2 n.2) (mE_nice m.1)
theorem soEo : ∀ (o : Eo) {sc : Scope} {X : Cx} {o' : Option Expr}, Good G sc X → mEo G.N sc o o' = true → Ndo G o → PO X o' (tO G.C o)
  | .non, sc, X, none, g, m, n => spo_non
  | .non, sc, X, some _, g, m, n => by unfold mEo at m; cases m
  | .som e, sc, X, none, g, m, n => by unfold mEo at m; cases m
  | .som e, sc, X, some e', g, m, n => by
    unfold mEo at m
    exact spo_som (soE e g m n).1
theorem soIf : ∀ (o : Eo) {sc : Scope} {X : Cx} {ifs : List Expr}, Good G sc X → mIfs G.N sc o ifs = true → Ndo G o → PTs X ifs (tTo G.C o)
  | .non, sc, X, [], g, m, n => pts_nil.imp fun σ H Q q => by
    obtain ⟨H0, B, AA, ρ, k, R, h, q⟩ := q
    unfold tsto at h
    cases h
    exact q H (Same.refl H)
  | .non, sc, X, _ :: _, g, m, n => by unfold mIfs at m; cases m
  | .som e, sc, X, [], g, m, n => by unfold mIfs at m; cases m
  | .som e, sc, X, _ :: _ :: _, g, m, n => by unfold mIfs at m; cases m
  | .som e, sc, X, [e'], g, m, n => by
    unfold mIfs at m
    exact (pts_one (soE e g m n).2.1).imp fun σ H Q q => by
      obtain ⟨H0, B, AA, ρ, k, R, h, q⟩ := q
      unfold tsto at h
      exact ⟨H0, B, AA, ρ, k, R, h, q⟩
theorem soI : ∀ (it : I) {sc : Scope} {X : Cx} {tg e' : Expr}, Good G sc X → mI G.N sc it tg e' = true → Ndi G it → PI X tg e' (tI G.C it)
  | .seq e, sc, X, tg, e', g, m, n => by
    unfold mI at m
    exact si_seq g (soE e g m n).1
  | .rng1 e, sc, X, tg, e', g, m, n => by
    unfold mI at m
    split at m
    · obtain ⟨m1, m2, m3⟩ := and3 m
      have := of_decide_eq_true m1
      subst this
      exact si_rng1 g m2 n.1 (soE e g m3 n.2).1 (mE_nice m3)
    · cases m
  | .rng2 a b, sc, X, tg, e', g, m, n => by
    unfold mI at m
    split at m
    · obtain ⟨m1, m2, m3⟩ := and3 m
      have m1 := Bool.and_eq_true_iff.mp m1
      have := of_decide_eq_true m1.1
      subst this
      exact si_rng2 g m1.2 n.1 (soE a g m2 n.2.1).1 (soE b g m3 n.2.2).1 (mE_nice m2) (mE_nice m3)
    · cases m
  | .rngd a b c, sc, X, tg, e', g, m, n => by
    unfold mI at m
    split at m
    · obtain ⟨m1, m2, m3⟩ := and3 m
      obtain ⟨m4, m5, m6⟩ := and3 m1
      have := of_decide_eq_true m4
      subst this
      exact si_rngd g m5 n.1 (soE a g m6 n.2.1).1 (soE b g m2 n.2.2.1).1 (soE c g m3 n.2.2.2).1 (mE_nice m6) (mE_nice m2) (mE_nice m3)
    · cases m
  | .enm e, sc, X, tg, e', g, m, n => by
    unfold mI at m
    split at m
    · obtain ⟨m1, m2, m3⟩ := and3 m
      have m1 := Bool.and_eq_true_iff.mp m1
      have := of_decide_eq_true m1.1
      subst this
      cases tg <;> first
        | (exact absurd m2 Bool.false_ne_true)
        | exact si_enm g m1.2 n.1 (soE e g m3 n.2).1 (mE_nice m3)
    · cases m
  | .zip a b, sc, X, tg, e', g, m, n => by
    unfold mI at m
    split at m
    · obtain ⟨m1, m2, m3⟩ := and3 m
      obtain ⟨m4, m5, m6⟩ := and3 m1
      have := of_decide_eq_true m4
      subst this
      cases tg <;> first
        | (exact absurd m6 Bool.false_ne_true)
        | exact si_zip g m5 n.1 (soE a g m2 n.2.1).1 (soE b g m3 n.2.2).1 (mE_nice m2) (mE_nice m3)
    · cases m
end
end Eng
/-! Eng N: statements: what they do, and which text they are. -/
namespace Eng
open PySem L2
mutual
inductive S where
  | set (i : Nat) (e : E) | setL (i : Nat) (e : E) | setT (is : List Nat) (e : E) | aug (i : Nat) (op : Operator) (e : E)
  | app (i : Nat) (e : E) | setX (i : Nat) (k e : E) | pop (i : Nat)
  | ret (e : E) | retO (i : Nat) | retT (es : Es) | retN | exp (e : E)
  | poke (i j : Nat) (e : E) | pokeR (i j : Nat)
  | ite (c : E) (a b : Ss) | for (tg : Tg) (it : I) (b : Ss) | whl (c : E) (b : Ss)
  | brk | cnt | pas | nev
inductive Ss where
  | nil | cons (s : S) (ss : Ss) | frz (i : Nat) (ss : Ss)
end
inductive Out where
  | nx (ρ : Rho) | rt (t : T) | bk (ρ : Rho) | ct (ρ : Rho)
@[simp] def T.nf (t : T) : T := if t.own then t else .sh t.d
/-- what is laid in a slot -/
def stT (e : E) (ρ : Rho) : Option T := (ev e (dl ρ)).bind fun t => if sal (avs e) (ow ρ) then some t.nf else if noL t.d then some (.sh t.d) else none
def forGo (asg : D → Rho → Option Rho) (body : Rho → Option Out) : List D → Rho → Option Out
  | [], ρ => some (.nx ρ)
  | d :: ds, ρ => (asg d ρ).bind fun ρ1 => (body ρ1).bind fun o => match o with
    | .nx ρ2 => forGo asg body ds ρ2
    | .ct ρ2 => forGo asg body ds ρ2
    | .bk ρ2 => some (.nx ρ2)
    | .rt t => some (.rt t)
def whlGo (test : Rho → Option Bool) (body : Rho → Option Out) : Nat → Rho → Option Out
  | 0, _ => none
  | n + 1, ρ => (test ρ).bind fun b => if b then (body ρ).bind fun o => match o with
    | .nx ρ2 => whlGo test body n ρ2
    | .ct ρ2 => whlGo test body n ρ2
    | .bk ρ2 => some (.nx ρ2)
    | .rt t => some (.rt t)
  else some (.nx ρ)
/-- a tuple that is handed back: names hand over what they own -/
@[simp] def evM : Es → Rho → Option (List T)
  | .nil, _ => some []
  | .cons e es, ρ => match e with
    | .var i => (match ρ[i]? with
      | some (some t) => (evM es ρ).map fun ts => t :: ts
      | _ => none)
    | e => if sal (avs e) (ow ρ) then (ev e (dl ρ)).bind fun t => (evM es ρ).map fun ts => t :: ts else none
@[simp] def mvs : Es → List Nat
  | .nil => []
  | .cons e es => match e with
    | .var i => i :: mvs es
    | _ => mvs es
@[simp] def tupAt (ρ : Rho) (i j : Nat) : Option (List T) := match ρ[i]? with
  | some (some (.tup ts)) => (match ts[j]? with
    | some (.lst us) => some us
    | _ => none)
  | _ => none
@[simp] def tupPut (ρ : Rho) (i j : Nat) (us : List T) : Rho := match ρ[i]? with
  | some (some (.tup ts)) => ρ.set i (some (.tup (ts.set j (.lst us))))
  | _ => ρ
@[simp] def frz1 (i : Nat) (ρ : Rho) : Rho := match ρ[i]? with
  | some (some t) => ρ.set i (some (.sh t.d))
  | _ => ρ
@[simp] def lstAt (ρ : Rho) (i : Nat) : Option (List T) := match ρ[i]? with
  | some (some (.lst ts)) => some ts
  | _ => none
mutual
def ex (n : Nat) : S → Rho → Option Out
  | .set i e, ρ => (stT e ρ).map fun t => .nx (ρ.set i (some t))
  | .setL i e, ρ => (stT e ρ).map fun t => .nx (ρ.set i (some t))
  | .setT is e, ρ => (ev e (dl ρ)).bind fun t => if sal (avs e) (ow ρ) || noL t.d then (asgR (.tp is) t.d ρ).map .nx else none
  | .aug i op e, ρ => match (dl ρ)[i]? with
    | some (some d) => (ev e (dl ρ)).bind fun t => (augD op [d, t.d]).map fun u => .nx (ρ.set i (some (.sh u.d)))
    | _ => none
  | .app i e, ρ => (lstAt ρ i).bind fun ts => (stT e ρ).bind fun t => if ts.length < SZ then some (.nx (ρ.set i (some (.lst (ts ++ [t]))))) else none
  | .setX i k e, ρ => (lstAt ρ i).bind fun ts => (stT e ρ).bind fun t => (ev k (dl ρ)).bind fun x => match x.d with
    | .int j => (ixN ts.length j).bind fun m => if t.own then none else some (.nx (ρ.set i (some (.lst (ts.set m t)))))
    | _ => none
  | .pop i, ρ => (lstAt ρ i).bind fun ts => match ts.getLast? with
    | some t => if t.own then none else some (.nx (ρ.set i (some (.lst ts.dropLast))))
    | none => none
  | .ret e, ρ => (ev e (dl ρ)).map .rt
  | .retO i, ρ => match ρ[i]? with
    | some (some t) => some (.rt t)
    | _ => none
  | .retN, _ => some (.rt (.sh .non))
  | .retT es, ρ => if (mvs es).Nodup then (evM es ρ).bind fun ts => if ts.length ≤ SZ then some (.rt (T.tup ts).nf) else none else none
  | .poke i j e, ρ => (tupAt ρ i j).bind fun us => (stT e ρ).bind fun t => if us.length < SZ ∧ T.owns us = false ∧ t.own = false then some (.nx (tupPut ρ i j (us ++ [t]))) else none
  | .pokeR i j, ρ => (tupAt ρ i j).bind fun us => if T.owns us = false then some (.nx (tupPut ρ i j us.reverse)) else none
  | .exp e, ρ => (ev e (dl ρ)).map fun _ => .nx ρ
  | .ite c a b, ρ => (tst c (dl ρ)).bind fun k => if k then exs n a ρ else exs n b ρ
  | .for tg it b, ρ => (evi it (dl ρ)).bind fun ds => if sal (avi it) (ow ρ) then forGo (asgR tg) (exs n b) ds ρ else none
  | .whl c b, ρ => whlGo (fun ρ => tst c (dl ρ)) (exs n b) n ρ
  | .brk, ρ => some (.bk ρ)
  | .cnt, ρ => some (.ct ρ)
  | .pas, ρ => some (.nx ρ)
  | .nev, _ => none
def exs (n : Nat) : Ss → Rho → Option Out
  | .nil, ρ => some (.nx ρ)
  | .cons s ss, ρ => (ex n s ρ).bind fun o => match o with
    | .nx ρ' => exs n ss ρ'
    | .rt t => some (.rt t)
    | .bk ρ' => some (.bk ρ')
    | .ct ρ' => some (.ct ρ')
  | .frz i ss, ρ => exs n ss (frz1 i ρ)
end
/-! ### which text it is -/
def notComp : Expr → Bool
  | .ListComp .. => false
  | _ => true
def notTup : Expr → Bool
  | .Tuple .. => false
  | _ => true
def isLoc (sc : Scope) (x : Str) : Bool := match sc.names.lookup x with
  | some .local => true
  | _ => false
mutual
def mS (N : List Str) (sc : Scope) : S → Stmt → Bool
  | .set i e, s' => match s' with
    | .Assign [.Name x _] e' _ => decide (N[i]? = some x) && locB sc x && mE N sc e e' && (notComp e' || !isLoc sc x)
    | _ => false
  | .setL i e, s' => match s' with
    | .Assign [.Name x px] (.ListComp elt gs scope p) sp => decide (N[i]? = some x) && isLoc sc x && mE N sc e (.ListComp elt gs scope p) && (px.line == p.line) && !(scope.names.any fun (n, k) => n == x && (k == .local || k == .cell))
    | _ => false
  | .setT is e, s' => match s' with
    | .Assign [.Tuple es k p] e' _ => mTg N sc (.tp is) (.Tuple es k p) && mE N sc e e' && notTup e'
    | _ => false
  | .aug i op e, s' => match s' with
    | .AugAssign (.Name x _) op' e' _ => decide (op = op') && decide (N[i]? = some x) && locB sc x && mE N sc e e'
    | _ => false
  | .app i e, s' => match s' with
    | .Expr (.Call (.Attribute (.Name x p) m ap) [e'] [] cp) _ => decide (m = ("append" : Str)) && decide (N[i]? = some x) && visB sc x && nmB x && (ap.endLine == cp.line) && mE N sc e e'
    | _ => false
  | .setX i k e, s' => match s' with
    | .Assign [.Subscript (.Name x _) k' _] e' _ => decide (N[i]? = some x) && visB sc x && nmB x && mE N sc k k' && mE N sc e e' && notComp e'
    | _ => false
  | .pop i, s' => match s' with
    | .Expr (.Call (.Attribute (.Name x p) m ap) [] [] cp) _ => decide (m = ("pop" : Str)) && decide (N[i]? = some x) && visB sc x && nmB x && (ap.endLine == cp.line)
    | _ => false
  | .ret e, s' => match s' with
    | .Return (some e') _ => mE N sc e e'
    | _ => false
  | .retO i, s' => match s' with
    | .Return (some (.Name x _)) _ => decide (N[i]? = some x) && visB sc x && nmB x
    | _ => false
  | .retN, s' => match s' with
    | .Return none _ => true
    | _ => false
  | .retT es, s' => match s' with
    | .Return (some (.Tuple es' _ _)) _ => mEs N sc es es'
    | _ => false
  | .poke i j e, s' => match s' with
    | .Expr (.Call (.Attribute (.Subscript (.Name x _) (.Constant (.int k) _ _) _) m ap) [e'] [] cp) _ => decide (m = ("append" : Str)) && decide (k = (j : Int)) && decide (N[i]? = some x) && visB sc x && nmB x && (ap.endLine == cp.line) && mE N sc e e'
    | _ => false
  | .pokeR i j, s' => match s' with
    | .Expr (.Call (.Attribute (.Subscript (.Name x _) (.Constant (.int k) _ _) _) m ap) [] [] cp) _ => decide (m = ("reverse" : Str)) && decide (k = (j : Int)) && decide (N[i]? = some x) && visB sc x && nmB x && (ap.endLine == cp.line)
    | _ => false
  | .exp e, s' => match s' with
    | .Expr e' _ => mE N sc e e' && notComp e'
    | _ => false
  | .ite c a b, s' => match s' with
    | .If c' a' b' _ => mE N sc c c' && mSs N sc a a' && mSs N sc b b'
    | _ => false
  | .for tg it b, s' => match s' with
    | .For tg' it' b' [] _ => mTg N sc tg tg' && mI N sc it tg' it' && mSs N sc b b'
    | _ => false
  | .whl c b, s' => match s' with
    | .While c' b' [] _ => mE N sc c c' && mSs N sc b b'
    | _ => false
  | .brk, s' => match s' with
    | .Break _ => true
    | _ => false
  | .cnt, s' => match s' with
    | .Continue _ => true
    | _ => false
  | .pas, s' => match s' with
    | .Pass _ => true
    | _ => false
  | .nev, _ => true
def mSs (N : List Str) (sc : Scope) : Ss → List Stmt → Bool
  | .nil, ss' => match ss' with
    | [] => true
    | _ => false
  | .cons s ss, ss' => match ss' with
    | s' :: r => mS N sc s s' && mSs N sc ss r
    | _ => false
  | .frz _ ss, ss' => mSs N sc ss ss'
end
mutual
def Ndst (G : GC) : S → Prop
  | .set _ e => Nd G e
  | .setL _ e => Nd G e
  | .setT _ e => Nd G e
  | .aug _ _ e => Nd G e
  | .app _ e => Nd G e
  | .setX _ k e => Nd G k ∧ Nd G e
  | .ret e => Nd G e
  | .exp e => Nd G e
  | .retT es => Nds G es
  | .poke _ _ e => Nd G e
  | .ite c a b => Nd G c ∧ Ndss G a ∧ Ndss G b
  | .for _ it b => Ndi G it ∧ Ndss G b
  | .whl c b => Nd G c ∧ Ndss G b
  | _ => True
def Ndss (G : GC) : Ss → Prop
  | .nil => True
  | .cons s ss => Ndst G s ∧ Ndss G ss
  | .frz _ ss => Ndss G ss
end
end Eng
/-! Eng O: statements keep their word. -/
namespace Eng
open PySem L2
structure GoodS (G : GC) (sc : Scope) (X : Cx) : Prop extends Good G sc X where
  scope : X.env.scope = sc
  pass : PassesOwn (model X.prog X.w) X.A X.env X.xe
/-- what is wanted behind a statement, by how it ended -/
def Fin (C : Cfg) (H0 : Hp) (B : Addr → Prop) (F : Hp) (D : Ends) : Out → Prop
  | .nx ρ => ∀ σ' H' AA', Rep C H0 B AA' H' σ' ρ → Same F (hid H' (ZZ B AA')) → D.nx σ' H'
  | .bk ρ => ∀ σ' H' AA', Rep C H0 B AA' H' σ' ρ → Same F (hid H' (ZZ B AA')) → D.bk σ' H'
  | .ct ρ => ∀ σ' H' AA', Rep C H0 B AA' H' σ' ρ → Same F (hid H' (ZZ B AA')) → D.ct σ' H'
  | .rt t => ∀ As v H', Post C B H0 t true As v H' → D.rt v H'
theorem Fin.imp {C : Cfg} {H0 : Hp} {B : Addr → Prop} {F F' : Hp} {D : Ends} {o : Out} (e : Same F F') (h : Fin C H0 B F D o) : Fin C H0 B F' D o := by
  cases o with
  | nx ρ => exact fun σ' H' AA' R s => h σ' H' AA' R (e.trans s)
  | bk ρ => exact fun σ' H' AA' R s => h σ' H' AA' R (e.trans s)
  | ct ρ => exact fun σ' H' AA' R s => h σ' H' AA' R (e.trans s)
  | rt t => exact h
def tS (C : Cfg) (s : S) : TS := fun D σ H => ∃ (H0 : Hp) (B : Addr → Prop) (AA : Nat → List Addr) (ρ : Rho) (n : Nat) (o : Out), Rep C H0 B AA H σ ρ ∧ ex n s ρ = some o ∧ Fin C H0 B (hid H (ZZ B AA)) D o
def tSs (C : Cfg) (s : Ss) : TS := fun D σ H => ∃ (H0 : Hp) (B : Addr → Prop) (AA : Nat → List Addr) (ρ : Rho) (n : Nat) (o : Out), Rep C H0 B AA H σ ρ ∧ exs n s ρ = some o ∧ Fin C H0 B (hid H (ZZ B AA)) D o
theorem _root_.L2.PS.imp {X : Cx} {s : Stmt} {t t' : TS} (h : PS X s t) (k : ∀ D σ H, t' D σ H → t D σ H) : PS X s t' := ⟨fun pins s σ H D I q => h.run pins s σ H D I (k _ _ _ q)⟩
theorem _root_.L2.PSs.imp {X : Cx} {s : List Stmt} {t t' : TS} (h : PSs X s t) (k : ∀ D σ H, t' D σ H → t D σ H) : PSs X s t' := ⟨fun pins s σ H D I q => h.run pins s σ H D I (k _ _ _ q)⟩
section
variable {C : Cfg} {H0 H H1 : Hp} {B : Addr → Prop} {AA : Nat → List Addr} {σ : L2.St} {ρ : Rho} {As : List Addr} {t : T} {e : E} {v : V} {i : Nat}
/-- a value for a slot, read -/
theorem stT_read {Q : VK} (R : Rep C H0 B AA H σ ρ) (h : stT e ρ = some t) (q : ∀ As v H', Post C (ZZ B AA) H t true As v H' → Q v H') : tE C e σ H Q := by
  unfold stT at h
  obtain ⟨u, h1, h⟩ := bnd h
  split at h
  · rename_i s
    have := (Option.some.inj h).symm
    subst this
    refine tE_of R h1 s fun As v H' p => q As v H' ?_
    unfold T.nf
    by_cases ho : u.own = true
    · rw [if_pos ho]; exact p
    · rw [if_neg ho]
      have ho : u.own = false := by simpa using ho
      obtain ⟨k1, k2⟩ := own_shd (p.own rfl) ho
      subst k2
      exact Post.mk p.same p.nd p.new p.dat fun _ => .sh k1
  · split at h
    · rename_i n
      have := (Option.some.inj h).symm
      subst this
      exact tE_frz R h1 fun As v H' p => q [] v H' (Post.sh' p.same p.dat fun _ => p.dat.hide (fun a z => (R.z a z).mono p.same) n)
    · cases h
theorem store_fro (R : Rep C H0 B AA H σ ρ) (p : Post C (ZZ B AA) H t true As v H1) : Same (hid H (ZZ B AA)) (hid H1 (ZZ B (upA AA i As))) :=
  hid_mono p.same fun a o h z => (ZZ_upA a z).elim id fun m => by rw [(p.new a m).1] at h; cases h
theorem Rep.put (R : Rep C H0 B AA H σ ρ) (p : Post C (ZZ B AA) H t true As v H1) : Rep C H0 B (upA AA i As) H1 (σ.set i (some v)) (ρ.set i (some t)) :=
  Rep.store (R.grow p.same p.new) p.nd (fun a m => ⟨R.same.free (p.new a m).1, fun b => by obtain ⟨o, h, _⟩ := R.bs a b; rw [(p.new a m).1] at h; cases h⟩) (p.own rfl)
end
section
variable {G : GC} {sc : Scope} {X : Cx} {e k' c : E} {e' c' : Expr} {i : Nat} {x : Str} {pos p px : Pos} {st : Stmt} {a b ss : Ss} {a' b' : List Stmt} {s : S}
theorem ss_set (g : GoodS G sc X) (hN : G.N[i]? = some x) (hl : locB sc x = true) (he : PE X e' (tE G.C e)) (hs : swapsWith e' (some (.Name x px)) pos.line X.env = pure false) : PS X (.Assign [.Name x px] e' pos) (tS G.C (.set i e)) :=
  (ps_set (by rw [g.N]; exact g.nd) (by rw [g.N]; exact hN) (g.loc x hl).1 he hs (g.loc x hl).2).imp fun D σ H q => by
    obtain ⟨H0, B, AA, ρ, n, o, R, h, q⟩ := q
    unfold ex at h
    obtain ⟨t, h1, rfl⟩ := map_inv h
    exact stT_read R h1 fun As v H1 p => q _ _ _ (R.put p) (store_fro R p)
theorem ss_setL {own : List (Str × Nat)} {tg : Tg} {it : I} {cc : Eo} {elt tgt iter : Expr} {ifs : List Expr} {scope : Scope} (g : GoodS G sc X) (hN : G.N[i]? = some x) (hl : isLoc sc x = true) (ok : BlkOk X.N X.env.scope scope own) (hx : ∀ i, i ∈ tg.ix → i ∈ own.map (·.2)) (nI : nice iter = true)
    (hi : PI X tgt iter (tI G.C it)) (hg : ∀ X', Good G scope X' → PG X' tgt (tG G.C tg)) (ht : ∀ X', Good G scope X' → PTs X' ifs (tTo G.C cc)) (he : ∀ X', Good G scope X' → PE X' elt (tE G.C e))
    (hp : (px.line == p.line) = true) (ha : (scope.names.any fun (n, k) => n == x && (k == .local || k == .cell)) = false) :
    PS X (.Assign [.Name x px] (.ListComp elt [⟨tgt, iter, ifs, 0⟩] scope p) pos) (tS G.C (.setL i (.lc own tg it cc e))) := by
  have hloc : X.env.scope.names.lookup x = some .local := by
    rw [g.scope]
    unfold isLoc at hl
    split at hl
    · assumption
    · cases hl
  refine (ps_setLc g.calm (by rw [g.N]; exact g.nd) (by rw [g.N]; exact hN) hloc (sw_true g.kind hloc hp ha) hi ok (fun s H C cl fp => hg _ (g.blk ok.kind s H C cl fp)) (fun s H C cl fp => ht _ (g.blk ok.kind s H C cl fp)) (fun s H C cl fp => he _ (g.blk ok.kind s H C cl fp)) (set_plain nI)).imp fun D σ H q => ?_
  obtain ⟨H0, B, AA, ρ, n, o, R, h, q⟩ := q
  unfold ex at h
  obtain ⟨t, h1, rfl⟩ := map_inv h
  exact lc_read hx (stT_read R h1 fun As v H1 p => q _ _ _ (R.put p) (store_fro R p))
theorem sw_plain {t : Option Expr} {l : Nat} {env : Env} (n : nice e' = true) (h : notComp e' = true) : swapsWith e' t l env = pure false := by
  cases e' <;> first | rfl | (exact absurd h Bool.false_ne_true) | (exact absurd n Bool.false_ne_true)
theorem sw_cell {l : Nat} {env : Env} (n : nice e' = true) (h : env.scope.names.lookup x ≠ some .local) : swapsWith e' (some (.Name x px)) l env = pure false := by
  have hk : (env.kindOf x == some .local) = false := by
    cases q : (env.kindOf x == some NameKind.local) with
    | false => rfl
    | true => exact absurd (show env.scope.names.lookup x = some .local from eq_of_beq q) h
  cases e' <;> first
    | rfl
    | (exact absurd n Bool.false_ne_true)
    | (unfold swapsWith; dsimp only; rw [hk]; simp)
theorem ss_setT {is : List Nat} {es : List Expr} {k : Nat} (g : GoodS G sc X) (ht : mTg G.N sc (.tp is) (.Tuple es k p) = true) (he : PE X e' (tE G.C e)) (n : nice e' = true) (nt : notTup e' = true) : PS X (.Assign [.Tuple es k p] e' pos) (tS G.C (.setT is e)) := by
  have hs : swapsWithSole [.Tuple es k p] e' pos.line X.env = pure false := by
    show swapsWith e' (some (.Tuple es k p)) pos.line X.env = pure false
    cases e' <;> first | rfl | (exact absurd n Bool.false_ne_true)
  have hw : swappedStores [.Tuple es k p] e' X.env = pure none := by
    cases e' <;> first | rfl | (exact absurd nt Bool.false_ne_true)
  refine (ps_asg he (sg g.toGood ht) hs hw rfl).imp fun D σ H q => ?_
  obtain ⟨H0, B, AA, ρ, n, o, R, h, q⟩ := q
  unfold ex at h
  obtain ⟨t, h1, h⟩ := bnd h
  split at h
  · rename_i hs
    obtain ⟨ρ', h2, rfl⟩ := map_inv h
    have key : tE G.C e σ H fun v H1 => Same H H1 ∧ Dat G.C (hid H1 (ZZ B AA)) v t.d := by
      by_cases s : sal (avs e) (ow ρ) = true
      · exact tE_of R h1 s fun As v H1 p => ⟨p.same, p.dh R.z rfl⟩
      · have nl : noL t.d = true := by
          rcases Bool.or_eq_true_iff.mp hs with z | z
          · exact absurd z s
          · exact z
        exact tE_frz R h1 fun As v H1 p => ⟨p.same, p.dat.hide (fun a z => (R.z a z).mono p.same) nl⟩
    obtain ⟨H0', B', AA', ρ'', t', R', e1, e2, e3⟩ := key
    refine ⟨H0', B', AA', ρ'', t', R', e1, e2, fun As v H1 p => ?_⟩
    obtain ⟨k1, k2⟩ := e3 As v H1 p
    exact ⟨H0, B, AA, ρ, ρ', t.d, R.mono k1, k2, h2, fun AA2 σ2 R2 z1 _ _ => q _ _ _ R2 (hid_mono k1 fun a _ _ z => z1 a z)⟩
  · cases h
theorem ss_aug {op : Operator} (g : GoodS G sc X) (hN : G.N[i]? = some x) (hl : locB sc x = true) (he : PE X e' (tE G.C e)) : PS X (.AugAssign (.Name x px) op e' pos) (tS G.C (.aug i op e)) :=
  (ps_aug (by rw [g.N]; exact g.nd) (by rw [g.N]; exact hN) (g.loc x hl).1 he (aug_ok (X := X) (C := G.C) op) (g.loc x hl).2).imp fun D σ H q => by
    obtain ⟨H0, B, AA, ρ, n, o, R, h, q⟩ := q
    unfold ex at h
    split at h
    · rename_i d hd
      obtain ⟨t, h1, h⟩ := bnd h
      obtain ⟨u, h2, rfl⟩ := map_inv h
      obtain ⟨v0, k1, k2⟩ := R.dat hd
      refine ⟨v0, k1, tE_frz R h1 fun As v H1 p => ?_⟩
      have nu : ∃ d, u = .sh d ∧ noL d = true := by
        unfold augD at h2
        split at h2
        · rcases orE_inv h2 with e | e
          · obtain ⟨_, _, _, e⟩ := i2_inv e; exact ⟨_, sc_inj e, rfl⟩
          · obtain ⟨_, _, _, e⟩ := s2_inv e; exact ⟨_, (iff_inv e).2, rfl⟩
        · obtain ⟨_, _, _, e⟩ := i2_inv h2; exact ⟨_, sc_inj e, rfl⟩
        · obtain ⟨_, _, _, e⟩ := i2_inv h2; exact ⟨_, sc_inj e, rfl⟩
        · cases h2
      obtain ⟨d', rfl, nd⟩ := nu
      refine ⟨[d, t.d], .sh d', fun _ => False, true, .cons (k2.mono p.same) (.cons p.dat .nil), fun _ => ?_, fun _ z => z.elim, h2, fun Bs w H2 p2 => ?_⟩
      · have n0 : hid H1 (fun _ => False) = H1 := by funext a; exact hid_out fun z => z
        rw [n0]; exact .cons (k2.mono p.same) (.cons p.dat .nil)
      · have e := p.same.trans p2.same
        have p3 : Post G.C (ZZ B AA) H (.sh d') true [] w H2 := Post.sh' e p2.dat fun _ => p2.dat.hide (fun a z => (R.z a z).mono e) nd
        exact q _ _ _ (R.put p3) (store_fro R p3)
    · cases h
/-- a name's owned list -/
theorem own_at {C : Cfg} {H0 H : Hp} {B : Addr → Prop} {AA : Nat → List Addr} {σ : L2.St} {ρ : Rho} {ts : List T} (R : Rep C H0 B AA H σ ρ) (h : lstAt ρ i = some ts) :
    ∃ a vs As, σ[i]? = some (some (.ref a)) ∧ AA i = a :: As ∧ H a = some (.lst vs) ∧ Owns C (hid H (ZZ B AA)) H vs ts As := by
  unfold lstAt at h
  split at h
  · rename_i ts' hh
    cases h
    obtain ⟨v, h1, h2⟩ := R.slot i _ hh
    generalize hA : AA i = As at h2
    cases h2 with
    | lst ha hs => exact ⟨_, _, _, h1, rfl, ha, hs⟩
  · cases h
theorem mem_lst {α : Type} {l : List α} {a : α} {As : List α} (h : l = a :: As) : a ∈ l := by rw [h]; exact List.mem_cons_self ..
/-- the owned list at i is rewritten -/
theorem Rep.rew {C : Cfg} {H0 H1 : Hp} {B : Addr → Prop} {AA : Nat → List Addr} {σ : L2.St} {ρ : Rho} {ts' : List T} {a : Addr} {vs : List V} {As As' Bs : List Addr} (R : Rep C H0 (Zp B Bs) AA H1 σ ρ) (hA : AA i = a :: As) (ha : ∃ us, H1 a = some (.lst us))
    (hv : σ[i]? = some (some (.ref a))) (nd : (a :: As').Nodup) (sub : ∀ b, b ∈ As' → b ∈ As ∨ (b ∈ Bs ∧ H0 b = none ∧ ¬ B b)) (ow : Owns C (hid H1 (ZZ (Zp B Bs) AA)) H1 vs ts' As') :
    Rep C H0 B (upA AA i (a :: As')) (upd H1 a (.lst vs)) σ (ρ.set i (some (.lst ts'))) ∧ (∀ b, ZZ B (upA AA i (a :: As')) b → ZZ (Zp B Bs) AA b) := by
  obtain ⟨us, ha⟩ := ha
  have hz : ∀ b, ZZ B (upA AA i (a :: As')) b → ZZ (Zp B Bs) AA b := fun b q => by
    rcases q with q | ⟨j, q⟩
    · exact .inl (.inl q)
    · by_cases hj : j = i
      · subst hj
        rw [upA_same] at q
        rcases List.mem_cons.mp q with rfl | q
        · exact .inr ⟨j, mem_lst hA⟩
        · rcases sub b q with m | m
          · exact .inr ⟨j, by rw [hA]; exact List.mem_cons_of_mem _ m⟩
          · exact .inl (.inr m.1)
      · rw [upA_ne hj] at q; exact .inr ⟨j, q⟩
  have haZ : ZZ (Zp B Bs) AA a := .inr ⟨i, mem_lst hA⟩
  have hF : ∀ o, hid (upd H1 a o) (ZZ (Zp B Bs) AA) = hid H1 (ZZ (Zp B Bs) AA) := fun o => hid_upd haZ
  have subF : Same (hid H1 (ZZ (Zp B Bs) AA)) (hid (upd H1 a (.lst vs)) (ZZ B (upA AA i (a :: As')))) := by
    rw [← hF (.lst vs)]
    exact hid_mono (Same.refl _) fun b _ _ q => hz b q
  have live : ∀ b, nTup H1 b → nTup (upd H1 a (.lst vs)) b := fun b ⟨o, h1, h2⟩ => by
    by_cases hb : b = a
    · subst hb; exact ⟨_, upd_same, fun _ q => nomatch q⟩
    · exact ⟨o, by rw [upd_ne hb]; exact h1, h2⟩
  have h0a : H0 a = none := (R.new i a (mem_lst hA)).1
  refine ⟨⟨fun b o e => ?_, fun b q => live b (R.bs b (.inl q)), fun j b m => ?_, fun j => ?_, fun j l b m n => ?_, fun j t h => ?_, by rw [List.length_set]; exact R.len⟩, hz⟩
  · rw [upd_ne (ne_of_none e h0a)]; exact R.same b o e
  · by_cases hj : j = i
    · subst hj
      rw [upA_same] at m
      rcases List.mem_cons.mp m with rfl | m
      · obtain ⟨k1, k2, k3⟩ := R.new j b (mem_lst hA)
        exact ⟨k1, live b k2, fun q => k3 (.inl q)⟩
      · rcases sub b m with q | q
        · obtain ⟨k1, k2, k3⟩ := R.new j b (by rw [hA]; exact List.mem_cons_of_mem _ q)
          exact ⟨k1, live b k2, fun q => k3 (.inl q)⟩
        · exact ⟨q.2.1, live b (R.bs b (.inr q.1)), q.2.2⟩
    · rw [upA_ne hj] at m
      obtain ⟨k1, k2, k3⟩ := R.new j b m
      exact ⟨k1, live b k2, fun q => k3 (.inl q)⟩
  · by_cases hj : j = i
    · subst hj; rw [upA_same]; exact nd
    · rw [upA_ne hj]; exact R.nd j
  · have key : ∀ l c, l ≠ i → c ∈ AA l → c ∈ a :: As' → False := fun l c hl hc hm => by
      rcases List.mem_cons.mp hm with hm | hm
      · exact hl (R.dj l i c hc (by rw [hm]; exact mem_lst hA))
      · rcases sub c hm with q | q
        · exact hl (R.dj l i c hc (by rw [hA]; exact List.mem_cons_of_mem _ q))
        · exact (R.new l c hc).2.2 (.inr q.1)
    by_cases hj : j = i
    · by_cases hl : l = i
      · rw [hj, hl]
      · subst hj; rw [upA_same] at m; rw [upA_ne hl] at n; exact (key l b hl n m).elim
    · rw [upA_ne hj] at m
      by_cases hl : l = i
      · subst hl; rw [upA_same] at n; exact (key j b hj m n).elim
      · rw [upA_ne hl] at n; exact R.dj j l b m n
  · by_cases hj : i = j
    · subst hj
      have hi : i < ρ.length := by
        have := (List.getElem?_eq_some_iff.mp h).1
        rwa [List.length_set] at this
      rw [List.getElem?_set_self hi] at h
      cases h
      refine ⟨.ref a, hv, ?_⟩
      rw [upA_same]
      exact .lst upd_same (ow.mono subF fun b m => upd_ne fun q => (List.nodup_cons.mp nd).1 (q ▸ m))
    · rw [List.getElem?_set_ne hj] at h
      obtain ⟨u', h1, h2⟩ := R.slot j t h
      refine ⟨u', h1, ?_⟩
      rw [upA_ne (fun q => hj q.symm)]
      refine h2.mono subF fun b m => upd_ne fun q => ?_
      subst q
      exact hj (R.dj i j b (mem_lst hA) m)
theorem owns_up {C : Cfg} {H H1 : Hp} {Z : Addr → Prop} {vs : List V} {ts : List T} {As Bs : List Addr} (e : Same H H1) (hB : ∀ a, a ∈ Bs → H a = none) (o : Owns C (hid H Z) H vs ts As) : Owns C (hid H1 (Zp Z Bs)) H1 vs ts As :=
  o.mono (hid_mono e fun a u h z => z.elim id fun m => by rw [hB a m] at h; cases h) fun a m => by obtain ⟨u, h⟩ := o.live a m; rw [h, e _ _ h]
theorem ss_app {ap cp : Pos} (g : GoodS G sc X) (hN : G.N[i]? = some x) (hv : visB sc x = true) (hn : nmB x = true) (hline : (ap.endLine == cp.line) = true) (he : PE X e' (tE G.C e)) (n : nice e' = true) :
    PS X (.Expr (.Call (.Attribute (.Name x px) "append" ap) [e'] [] cp) pos) (tS G.C (.app i e)) := by
  obtain ⟨n1, n2, n3⟩ := nmB_inv hn
  have hx : PE X (.Name x px) (tVar i) := pe_var (by rw [g.N]; exact hN) (g.vis x hv) n1 n2
  have hp := pe_bm (cpos := cp) F.plainAttrs_list F.slot_list_append F.type_list_append (mt_append (X := X)) hx (pa_cons he pa_nil (star_cons n)) rfl (by rw [star_cons n]; rfl) hline (star_cons n) rfl
  refine (ps_expr hp rfl).imp fun D σ H q => ?_
  obtain ⟨H0, B, AA, ρ, nn, o, R, h, q⟩ := q
  unfold ex at h
  obtain ⟨ts, h1, h⟩ := bnd h
  obtain ⟨t, h2, h⟩ := bnd h
  split at h
  · rename_i hlt
    cases h
    obtain ⟨a, vs, As, k1, k2, k3, k4⟩ := own_at R h1
    refine ⟨_, k1, .inl ⟨rfl, vs, SqL.of k3⟩, stT_read R h2 fun Bs v H1 p => ?_⟩
    refine ⟨a, vs, v, rfl, rfl, p.same _ _ k3, by rw [k4.length, sz_eq]; exact hlt, ?_⟩
    have Rg := R.grow p.same p.new
    have ow1 := owns_up p.same (fun a m => (p.new a m).1) k4
    have ow2 := Owns.append ow1 (Owns.cons (p.own rfl) .nil)
    rw [List.append_nil] at ow2
    have live : ∀ b, b ∈ a :: As → H b ≠ none := fun b m z => by
      obtain ⟨o, h, _⟩ := (R.new i b (by rw [k2]; exact m)).2.1
      rw [z] at h; cases h
    have nd : (a :: (As ++ Bs)).Nodup := by
      have := R.nd i
      rw [k2] at this
      rw [← List.cons_append]
      exact List.nodup_append.mpr ⟨this, p.nd, fun b m c m2 e => live b m (by rw [e]; exact (p.new c m2).1)⟩
    obtain ⟨R2, hz⟩ := Rep.rew (i := i) Rg k2 ⟨_, p.same _ _ k3⟩ k1 nd (fun b m => (List.mem_append.mp m).elim .inl fun m => .inr ⟨m, R.same.free (p.new b m).1, fun z => by obtain ⟨o, h, _⟩ := R.bs b z; rw [(p.new b m).1] at h; cases h⟩)
      (by rw [ZZ_Zp]; exact ow2)
    refine q _ _ _ R2 fun b u hb => ?_
    obtain ⟨q1, q2⟩ := hid_some.mp hb
    have hne : b ≠ a := fun z => q1 (.inr ⟨i, by rw [k2, z]; exact List.mem_cons_self ..⟩)
    refine hid_some.mpr ⟨fun z => ?_, by rw [upd_ne hne]; exact p.same _ _ q2⟩
    have z2 := hz b z
    rw [ZZ_Zp] at z2
    rcases z2 with z2 | z2
    · exact q1 z2
    · rw [(p.new b z2).1] at q2; cases q2
  · cases h
end
end Eng
/-! Eng P: the rest of the statements, and a def's promise. -/
namespace Eng
open PySem L2
section
variable {G : GC} {sc : Scope} {X : Cx} {e k c : E} {e' k' c' : Expr} {i : Nat} {x : Str} {pos p px : Pos} {st : Stmt} {a b ss : Ss} {a' b' : List Stmt} {s : S}
theorem owns_one {C : Cfg} {F H : Hp} {vs : List V} {ts : List T} {As : List Addr} {n : Nat} (h : Owns C F H vs ts As) : ∀ {v : V} {t : T}, Own C F H v t [] → ∃ Bs, Owns C F H (vs.set n v) (ts.set n t) Bs ∧ Bs.Sublist As := by
  intro v t o
  induction vs generalizing ts As n with
  | nil => cases h; exact ⟨[], .nil, List.Sublist.refl _⟩
  | cons w vs ih =>
    cases h with
    | cons h hs =>
      cases n with
      | zero => exact ⟨_, .cons o hs, List.sublist_append_right _ _⟩
      | succ n =>
        obtain ⟨Bs, h1, h2⟩ := ih hs (n := n)
        exact ⟨_, .cons h h1, List.Sublist.append (List.Sublist.refl _) h2⟩
theorem ss_setX (g : GoodS G sc X) (hN : G.N[i]? = some x) (hv : visB sc x = true) (hn : nmB x = true) (he : PE X e' (tE G.C e)) (hk : PE X k' (tE G.C k)) (n : nice e' = true) (nc : notComp e' = true) (nk : nice k' = true) :
    PS X (.Assign [.Subscript (.Name x px) k' p] e' pos) (tS G.C (.setX i k e)) := by
  obtain ⟨n1, n2, n3⟩ := nmB_inv hn
  have hx : PE X (.Name x px) (tVar i) := pe_var (by rw [g.N]; exact hN) (g.vis x hv) n1 n2
  have hs : swapsWithSole [.Subscript (.Name x px) k' p] e' pos.line X.env = pure false := by
    show swapsWith e' (some (.Subscript (.Name x px) k' p)) pos.line X.env = pure false
    exact sw_plain n nc
  refine (ps_asg he (pg_sub hx hk set_list fun v => by cases k' <;> first | rfl | (exact absurd nk Bool.false_ne_true)) hs (by cases e' <;> rfl) rfl).imp fun D σ H q => ?_
  obtain ⟨H0, B, AA, ρ, nn, o, R, h, q⟩ := q
  unfold ex at h
  obtain ⟨ts, h1, h⟩ := bnd h
  obtain ⟨t, h2, h⟩ := bnd h
  obtain ⟨y, h3, h⟩ := bnd h
  split at h
  · rename_i j hj
    obtain ⟨m, h4, h⟩ := bnd h
    split at h
    · cases h
    rename_i hown
    cases h
    obtain ⟨a, vs, As, k1, k2, k3, k4⟩ := own_at R h1
    have hown : t.own = false := by simpa using hown
    refine stT_read R h2 fun Bs v H1 p => ?_
    obtain ⟨d1, d2⟩ := own_shd (p.own rfl) hown
    subst d2
    refine ⟨.ref a, k1, tE_frz (R.mono p.same) h3 fun Cs w H2 p2 => ?_⟩
    have e2 : Same H H2 := p.same.trans p2.same
    have hw := p2.dat
    rw [hj] at hw
    have hw := hw.vint
    subst hw
    refine ⟨a, vs, j, m, rfl, rfl, e2 _ _ k3, by rw [k4.length]; exact h4, ?_⟩
    have R2 := R.mono e2
    have ow1 : Owns G.C (hid H2 (ZZ B AA)) H2 vs ts As := by
      have := owns_up (Bs := []) e2 (fun _ m => by cases m) k4
      rw [Zp_nil] at this; exact this
    rw [Zp_nil] at d1
    have d3 : Own G.C (hid H2 (ZZ B AA)) H2 v t [] := by
      have := (p.own rfl).mono (F' := hid H2 (ZZ B AA)) (H' := H2) (by rw [Zp_nil]; exact hid_mono p2.same fun _ _ _ z => z) fun _ m => by cases m
      exact this
    obtain ⟨Ds, o1, o2⟩ := owns_one ow1 d3 (n := m)
    have nd : (a :: Ds).Nodup := by
      have := R.nd i
      rw [k2] at this
      exact this.sublist (o2.cons₂ a)
    obtain ⟨R3, hz⟩ := Rep.rew (i := i) (Bs := []) (by rw [Zp_nil]; exact R2) k2 ⟨_, e2 _ _ k3⟩ k1 nd (fun b m => .inl (o2.subset m)) (by rw [Zp_nil]; exact o1)
    refine q _ _ _ R3 fun b u hb => ?_
    obtain ⟨q1, q2⟩ := hid_some.mp hb
    have hne : b ≠ a := fun z => q1 (.inr ⟨i, by rw [k2, z]; exact List.mem_cons_self ..⟩)
    refine hid_some.mpr ⟨fun z => ?_, by rw [upd_ne hne]; exact e2 _ _ q2⟩
    have z2 := hz b z
    rw [Zp_nil] at z2
    exact q1 z2
  · cases h
theorem owns_pop {C : Cfg} {F H : Hp} : ∀ {vs : List V} {ts : List T} {As : List Addr}, Owns C F H vs ts As → ∃ Bs, Owns C F H vs.dropLast ts.dropLast Bs ∧ Bs.Sublist As
  | _, _, _, .nil => ⟨[], .nil, List.Sublist.refl _⟩
  | [_], [_], _, .cons h hs => by cases hs; exact ⟨[], .nil, List.nil_sublist _⟩
  | _ :: w :: vs, _ :: u :: ts, _, .cons h hs => by
    obtain ⟨Bs, h1, h2⟩ := owns_pop hs
    exact ⟨_, .cons h h1, List.Sublist.append (List.Sublist.refl _) h2⟩
  | [_], _ :: _ :: _, _, .cons h hs => by cases hs
  | _ :: _ :: _, [_], _, .cons h hs => by cases hs
theorem ss_pop {ap cp : Pos} (g : GoodS G sc X) (hN : G.N[i]? = some x) (hv : visB sc x = true) (hn : nmB x = true) (hline : (ap.endLine == cp.line) = true) :
    PS X (.Expr (.Call (.Attribute (.Name x px) "pop" ap) [] [] cp) pos) (tS G.C (.pop i)) := by
  obtain ⟨n1, n2, n3⟩ := nmB_inv hn
  have hx : PE X (.Name x px) (tVar i) := pe_var (by rw [g.N]; exact hN) (g.vis x hv) n1 n2
  have hp := pe_bm0 (cpos := cp) (apos := ap) F.plainAttrs_list F.slot_list_pop F.type_list_pop (mt_pop (X := X)) hx rfl hline
  refine (ps_expr hp rfl).imp fun D σ H q => ?_
  obtain ⟨H0, B, AA, ρ, nn, o, R, h, q⟩ := q
  unfold ex at h
  obtain ⟨ts, h1, h⟩ := bnd h
  split at h
  · rename_i t ht
    split at h
    · cases h
    cases h
    obtain ⟨a, vs, As, k1, k2, k3, k4⟩ := own_at R h1
    have hne : vs ≠ [] := fun z => by
      subst z
      cases k4
      cases ht
    refine ⟨_, k1, .inl ⟨rfl, vs, SqL.of k3⟩, a, vs, vs.getLast hne, rfl, rfl, k3, by rw [← List.getLast?_eq_getElem?, List.getLast?_eq_some_getLast hne], ?_⟩
    obtain ⟨Bs, o1, o2⟩ := owns_pop k4
    have nd : (a :: Bs).Nodup := by
      have := R.nd i
      rw [k2] at this
      exact this.sublist (o2.cons₂ a)
    obtain ⟨R2, hz⟩ := Rep.rew (i := i) (Bs := []) (by rw [Zp_nil]; exact R) k2 ⟨_, k3⟩ k1 nd (fun b m => .inl (o2.subset m)) (by rw [Zp_nil]; exact o1)
    refine q _ _ _ R2 fun b u hb => ?_
    obtain ⟨q1, q2⟩ := hid_some.mp hb
    have hne : b ≠ a := fun z => q1 (.inr ⟨i, by rw [k2, z]; exact List.mem_cons_self ..⟩)
    refine hid_some.mpr ⟨fun z => ?_, by rw [upd_ne hne]; exact q2⟩
    have z2 := hz b z
    rw [Zp_nil] at z2
    exact q1 z2
  · cases h
theorem ss_ret (g : GoodS G sc X) (he : PE X e' (tE G.C e)) : PS X (.Return (some e') pos) (tS G.C (.ret e)) := (ps_ret he).imp fun D σ H q => by
  obtain ⟨H0, B, AA, ρ, n, o, R, h, q⟩ := q
  unfold ex at h
  obtain ⟨t, h1, rfl⟩ := map_inv h
  exact tE_frz R h1 fun As v H1 p => q As v H1 (by rw [ZZ_no] at p; exact p.back R.same)
theorem ss_retO (g : GoodS G sc X) (hN : G.N[i]? = some x) (hv : visB sc x = true) (hn : nmB x = true) : PS X (.Return (some (.Name x px)) pos) (tS G.C (.retO i)) := by
  obtain ⟨n1, n2, n3⟩ := nmB_inv hn
  have hx : PE X (.Name x px) (tVar i) := pe_var (by rw [g.N]; exact hN) (g.vis x hv) n1 n2
  refine (ps_ret hx).imp fun D σ H q => ?_
  obtain ⟨H0, B, AA, ρ, n, o, R, h, q⟩ := q
  unfold ex at h
  split at h
  · rename_i t ht
    cases h
    obtain ⟨v, h1, h2⟩ := R.slot i t ht
    refine ⟨v, h1, q (AA i) v H ⟨R.same, R.nd i, fun a m => ⟨(R.new i a m).1, (R.new i a m).2.1⟩, h2.dat hid_sub fun _ _ _ z => z, fun _ => h2.mono (hid_mono (Same.refl _) fun a _ _ z => ?_) fun _ _ => rfl⟩⟩
    rcases z with z | z
    · exact .inl z
    · exact .inr ⟨i, z⟩
  · cases h
theorem ss_retN (g : GoodS G sc X) : PS X (.Return none pos) (tS G.C .retN) := ps_retN.imp fun D σ H q => by
  obtain ⟨H0, B, AA, ρ, n, o, R, h, q⟩ := q
  unfold ex at h
  cases h
  exact q [] .non H (Post.sh' R.same .non fun _ => .non)
theorem ss_exp (g : GoodS G sc X) (he : PE X e' (tE G.C e)) (n : nice e' = true) (nc : notComp e' = true) : PS X (.Expr e' pos) (tS G.C (.exp e)) := (ps_expr he (sw_plain n nc)).imp fun D σ H q => by
  obtain ⟨H0, B, AA, ρ, n, o, R, h, q⟩ := q
  unfold ex at h
  obtain ⟨t, h1, rfl⟩ := map_inv h
  exact tE_frz R h1 fun As v H1 p => q _ _ _ (R.mono p.same) (hid_mono p.same fun _ _ _ z => z)
theorem ss_ite (hc : PT X c' (tT G.C c)) (ha : PSs X a' (tSs G.C a)) (hb : PSs X b' (tSs G.C b)) : PS X (.If c' a' b' pos) (tS G.C (.ite c a b)) := (ps_if hc ha hb).imp fun D σ H q => by
  obtain ⟨H0, B, AA, ρ, n, o, R, h, q⟩ := q
  unfold ex at h
  obtain ⟨kk, h1, h⟩ := bnd h
  refine ⟨H0, B, AA, ρ, kk, R, h1, fun H1 s1 => ?_⟩
  have q' := q.imp (hid_mono s1 (Z := ZZ B AA) fun _ _ _ z => z)
  cases kk with
  | true => exact ⟨H0, B, AA, ρ, n, o, R.mono s1, h, q'⟩
  | false => exact ⟨H0, B, AA, ρ, n, o, R.mono s1, h, q'⟩
/-! ### a tuple handed back -/
def tM (C : Cfg) (es : Es) : TA := fun σ H Q => ∃ (H0 : Hp) (B : Addr → Prop) (Fs : List Addr) (AA : Nat → List Addr) (ρ : Rho) (ts : List T), Rep C H0 (Zp B Fs) AA H σ ρ ∧ evM es ρ = some ts ∧ (mvs es).Nodup ∧
  ∀ As vs H', Same H H' → As.Nodup → (∀ a, a ∈ As → ((∃ i, i ∈ mvs es ∧ a ∈ AA i) ∨ H a = none) ∧ nTup H' a) → Owns C (hid H' (Zp (ZZ (Zp B Fs) AA) As)) H' vs ts As → Q vs H'
theorem sm_cons {es : Es} {es' : List Expr} (g : Good G sc X) (hm : mE G.N sc e e' = true) (nd : Nd G e) (hs : PA X es' (tM G.C es)) : PA X (e' :: es') (tM G.C (.cons e es)) := by
  have hn := mE_nice hm
  by_cases hv : ∃ i, e = .var i
  · obtain ⟨i, rfl⟩ := hv
    unfold mE at hm
    split at hm
    · rename_i x p
      obtain ⟨m1, m2, m3⟩ := and3 hm
      obtain ⟨n1, n2, n3⟩ := nmB_inv m3
      have hx : PE X (.Name x p) (tVar i) := pe_var (by rw [g.N]; exact of_decide_eq_true m1) (g.vis x m2) n1 n2
      refine (pa_cons hx hs rfl).imp fun σ H Q q => ?_
      obtain ⟨H0, B, Fs, AA, ρ, ts, R, h, n, q⟩ := q
      unfold evM at h
      simp only [] at h
      split at h
      · rename_i t ht
        obtain ⟨us, h2, rfl⟩ := map_inv h
        obtain ⟨v, k1, k2⟩ := R.slot i t ht
        have n : (i :: mvs es).Nodup := n
        have n' := List.nodup_cons.mp n
        have fresh : ∀ {b : Addr} {As : List Addr} {H' : Hp}, (∀ a, a ∈ As → ((∃ i, i ∈ mvs es ∧ a ∈ AA i) ∨ H a = none) ∧ nTup H' a) → H b ≠ none → b ∈ As → ∃ j, j ∈ mvs es ∧ b ∈ AA j := fun k hb m => by
          rcases (k _ m).1 with z | z
          · exact z
          · exact absurd z hb
        refine ⟨v, k1, H0, B, Fs, AA, ρ, us, R, h2, n'.2, fun As vs H' s d k o => q (AA i ++ As) (v :: vs) H' s ?_ ?_ ?_⟩
        · refine List.nodup_append.mpr ⟨R.nd i, d, fun a ha b hb e => ?_⟩
          subst e
          have hl : H a ≠ none := fun z => by obtain ⟨o, h, _⟩ := (R.new i a ha).2.1; rw [z] at h; cases h
          obtain ⟨j, j1, j2⟩ := fresh k hl hb
          have := R.dj i j a ha j2
          subst this
          exact n'.1 j1
        · intro a m
          rcases List.mem_append.mp m with m | m
          · exact ⟨.inl ⟨i, List.mem_cons_self .., m⟩, (R.new i a m).2.1.mono s⟩
          · refine ⟨?_, (k a m).2⟩
            rcases (k a m).1 with ⟨j, j1, j2⟩ | z
            · exact .inl ⟨j, List.mem_cons_of_mem _ j1, j2⟩
            · exact .inr z
        · refine .cons (k2.mono (hid_mono s fun a o h z => ?_) fun a m => ?_) (o.mono (hid_mono (Same.refl _) fun a _ _ z => ?_) fun _ _ => rfl)
          · rcases z with z | z
            · exact z
            · rcases List.mem_append.mp z with z | z
              · exact .inr ⟨i, z⟩
              · obtain ⟨j, _, j2⟩ := fresh k (by rw [h]; exact fun z => nomatch z) z
                exact .inr ⟨j, j2⟩
          · obtain ⟨o, h⟩ := k2.live a m
            rw [h, s _ _ h]
          · rcases z with z | z
            · exact .inl z
            · rcases List.mem_append.mp z with z | z
              · exact .inl (.inr ⟨i, z⟩)
              · exact .inr z
      · cases h
    · cases hm
  · refine (pa_cons (soE e g hm nd).1 hs (star_cons hn)).imp fun σ H Q q => ?_
    obtain ⟨H0, B, Fs, AA, ρ, ts, R, h, n, q⟩ := q
    have hev : evM (.cons e es) ρ = if sal (avs e) (ow ρ) then (ev e (dl ρ)).bind fun t => (evM es ρ).map fun ts => t :: ts else none := by
      cases e <;> first | rfl | exact absurd ⟨_, rfl⟩ hv
    have hmv : mvs (.cons e es) = mvs es := by
      cases e <;> first | rfl | exact absurd ⟨_, rfl⟩ hv
    rw [hev] at h
    rw [hmv] at n q
    split at h
    · rename_i hs
      obtain ⟨t, h1, h⟩ := bnd h
      obtain ⟨us, h2, rfl⟩ := map_inv h
      refine tE_of R h1 hs fun Bs v H1 p => ?_
      have hz : Zp (Zp B Fs) Bs = Zp B (Fs ++ Bs) := Zp_app
      refine ⟨H0, B, Fs ++ Bs, AA, ρ, us, by rw [← hz]; exact R.grow p.same p.new, h2, n, fun As vs H' s d k o => q (Bs ++ As) (v :: vs) H' (p.same.trans s) ?_ ?_ ?_⟩
      · refine List.nodup_append.mpr ⟨p.nd, d, fun a ha b hb e => ?_⟩
        subst e
        rcases (k a hb).1 with ⟨j, _, j2⟩ | z
        · obtain ⟨o, h, _⟩ := (R.new j a j2).2.1
          rw [(p.new a ha).1] at h; cases h
        · obtain ⟨o, h, _⟩ := (p.new a ha).2
          rw [z] at h; cases h
      · intro a m
        rcases List.mem_append.mp m with m | m
        · exact ⟨.inr (p.new a m).1, (p.new a m).2.mono s⟩
        · refine ⟨?_, (k a m).2⟩
          rcases (k a m).1 with z | z
          · exact .inl z
          · exact .inr (p.same.free z)
      · rw [← hz, ZZ_Zp, Zp_app] at o
        refine .cons ((p.own rfl).mono (hid_mono s fun a o h z => ?_) fun a m => ?_) o
        · rcases z with z | z
          · exact .inl z
          · rcases List.mem_append.mp z with z | z
            · exact .inr z
            · rcases (k a z).1 with ⟨j, _, j2⟩ | w
              · exact .inl (.inr ⟨j, j2⟩)
              · rw [w] at h; cases h
        · obtain ⟨o, h⟩ := (p.own rfl).live a m
          rw [h, s _ _ h]
    · cases h
theorem sm_all (g : Good G sc X) : ∀ {es : Es} {es' : List Expr}, mEs G.N sc es es' = true → Nds G es → PA X es' (tM G.C es)
  | .nil, [], m, n => pa_nil.imp fun σ H Q q => by
    obtain ⟨H0, B, Fs, AA, ρ, ts, R, h, n, q⟩ := q
    cases h
    exact q [] [] H (Same.refl H) List.nodup_nil (fun _ m => by cases m) .nil
  | .nil, _ :: _, m, n => by unfold mEs at m; cases m
  | .cons e es, [], m, n => by unfold mEs at m; cases m
  | .cons e es, e' :: es', m, n => by
    unfold mEs at m
    have m := Bool.and_eq_true_iff.mp m
    exact sm_cons g m.1 n.1 (sm_all g m.2 n.2)
theorem ss_retT {es : Es} {es' : List Expr} {kk : Nat} (g : GoodS G sc X) (hs : PA X es' (tM G.C es)) : PS X (.Return (some (.Tuple es' kk p)) pos) (tS G.C (.retT es)) := (ps_ret (pe_tup hs)).imp fun D σ H q => by
  obtain ⟨H0, B, AA, ρ, n, o, R, h, q⟩ := q
  unfold ex at h
  split at h
  · rename_i hnd
    obtain ⟨ts, h1, h⟩ := bnd h
    split at h
    · rename_i hl
      cases h
      refine ⟨H0, B, [], AA, ρ, ts, by rw [Zp_nil]; exact R, h1, hnd, fun As vs H1 s d k o => ?_⟩
      rw [Zp_nil] at o
      refine ⟨by rw [o.length, sz_eq]; exact hl, fun p hp => ?_⟩
      have e1 : Same H1 (upd H1 p (.tup vs)) := Same.upd hp
      have nA : p ∉ As := fun m => by obtain ⟨o, h, _⟩ := (k p m).2; rw [hp] at h; cases h
      have o2 : Own G.C (hid (upd H1 p (.tup vs)) (Zp B As)) (upd H1 p (.tup vs)) (.ref p) (.tup ts) As := by
        refine .tup (hid_some.mpr ⟨fun z => ?_, upd_same⟩) (o.mono (hid_mono e1 fun a o h z => ?_) fun a m => upd_ne fun z => nA (z ▸ m))
        · rcases z with z | z
          · obtain ⟨o, h, _⟩ := (R.bs p z).mono s; rw [hp] at h; cases h
          · exact nA z
        · rcases z with z | z
          · exact .inl (.inl z)
          · exact .inr z
      have hp2 : Post G.C B H0 (.tup ts) true As (.ref p) (upd H1 p (.tup vs)) := by
        refine ⟨R.same.trans (s.trans e1), d, fun a m => ⟨?_, (k a m).2.mono e1⟩, o2.dat hid_sub fun _ _ _ z => z, fun _ => o2⟩
        rcases (k a m).1 with ⟨j, _, j2⟩ | z
        · exact (R.new j a j2).1
        · exact R.same.free z
      unfold T.nf at q
      by_cases ho : (T.tup ts).own = true
      · rw [if_pos ho] at q; exact q _ _ _ hp2
      · rw [if_neg ho] at q
        have ho : (T.tup ts).own = false := by simpa using ho
        obtain ⟨k1, k2⟩ := own_shd o2 ho
        subst k2
        exact q [] _ _ ⟨hp2.same, hp2.nd, hp2.new, hp2.dat, fun _ => .sh k1⟩
    · cases h
  · cases h
/-! ### a list within a tuple, changed; the tuple is then let go -/
theorem Rep.hit {C : Cfg} {H0 H : Hp} {B : Addr → Prop} {AA : Nat → List Addr} {σ : L2.St} {ρ : Rho} {a : Addr} {o : HO} (R : Rep C H0 B AA H σ ρ) (ha : a ∈ AA i) (ho : ∀ xs, o ≠ .tup xs) : Rep C H0 B AA (upd H a o) σ (ρ.set i none) := by
  have haZ : ZZ B AA a := .inr ⟨i, ha⟩
  have live : ∀ b, nTup H b → nTup (upd H a o) b := fun b ⟨u, h1, h2⟩ => by
    by_cases hb : b = a
    · subst hb; exact ⟨_, upd_same, ho⟩
    · exact ⟨u, by rw [upd_ne hb]; exact h1, h2⟩
  refine ⟨fun b u e => ?_, fun b q => live b (R.bs b q), fun j b m => ⟨(R.new j b m).1, live b (R.new j b m).2.1, (R.new j b m).2.2⟩, R.nd, R.dj, fun j t h => ?_, by rw [List.length_set]; exact R.len⟩
  · rw [upd_ne (ne_of_none e (R.new i a ha).1)]; exact R.same b u e
  · by_cases hj : i = j
    · subst hj
      have hi : i < ρ.length := by
        have := (List.getElem?_eq_some_iff.mp h).1
        rwa [List.length_set] at this
      rw [List.getElem?_set_self hi] at h
      cases h
    · rw [List.getElem?_set_ne hj] at h
      obtain ⟨u', h1, h2⟩ := R.slot j t h
      exact ⟨u', h1, by rw [hid_upd haZ]; exact h2.mono (Same.refl _) fun b m => upd_ne fun q => hj (R.dj i j a ha (q ▸ m))⟩
theorem owns_get {C : Cfg} {F H : Hp} : ∀ {vs : List V} {ts : List T} {As : List Addr} {j : Nat} {t : T}, Owns C F H vs ts As → ts[j]? = some t → ∃ v Bs, vs[j]? = some v ∧ Own C F H v t Bs ∧ ∀ a, a ∈ Bs → a ∈ As
  | _, _, _, j, t, .nil, h => by simp at h
  | _, _, _, 0, t, .cons ho hs, h => by simp at h; subst h; exact ⟨_, _, rfl, ho, fun a m => List.mem_append_left _ m⟩
  | _, _, _, j + 1, t, .cons ho hs, h => by
    obtain ⟨v, Bs, h1, h2, h3⟩ := owns_get hs (by simpa using h)
    exact ⟨v, Bs, by simpa using h1, h2, fun a m => List.mem_append_right _ (h3 a m)⟩
theorem tup_at {C : Cfg} {H0 H : Hp} {B : Addr → Prop} {AA : Nat → List Addr} {σ : L2.St} {ρ : Rho} {j : Nat} {us : List T} (R : Rep C H0 B AA H σ ρ) (h : tupAt ρ i j = some us) :
    ∃ p xs a ws, σ[i]? = some (some (.ref p)) ∧ H p = some (.tup xs) ∧ xs[j]? = some (.ref a) ∧ H a = some (.lst ws) ∧ ws.length = us.length ∧ a ∈ AA i := by
  unfold tupAt at h
  split at h
  · rename_i ts ht
    split at h
    · rename_i us' hu
      cases h
      obtain ⟨v, k1, k2⟩ := R.slot i _ ht
      generalize hA : AA i = As at k2
      cases k2 with
      | tup hp hs =>
        obtain ⟨w, Bs, h1, h2, h3⟩ := owns_get hs hu
        cases h2 with
        | lst ha hw => exact ⟨_, _, _, _, k1, hid_sub _ _ hp, h1, ha, hw.length, h3 _ (List.mem_cons_self ..)⟩
    · cases h
  · cases h
theorem Rep.hitT {C : Cfg} {H0 H : Hp} {B : Addr → Prop} {AA : Nat → List Addr} {σ : L2.St} {ρ : Rho} {a : Addr} {o : HO} {v : V} {t' : T} (R : Rep C H0 B AA H σ ρ) (ha : a ∈ AA i) (ho : ∀ xs, o ≠ .tup xs) (hv : σ[i]? = some (some v)) (how : Own C (hid (upd H a o) (ZZ B AA)) (upd H a o) v t' (AA i)) : Rep C H0 B AA (upd H a o) σ (ρ.set i (some t')) := by
  have R2 := R.hit (o := o) ha ho
  refine ⟨R2.same, R2.bs, R2.new, R2.nd, R2.dj, fun j t h => ?_, by rw [List.length_set]; exact R.len⟩
  by_cases hj : i = j
  · subst hj
    have hi : i < ρ.length := by
      have := (List.getElem?_eq_some_iff.mp h).1
      rwa [List.length_set] at this
    rw [List.getElem?_set_self hi] at h
    cases h
    exact ⟨v, hv, how⟩
  · rw [List.getElem?_set_ne hj] at h
    exact R2.slot j t (by rw [List.getElem?_set_ne hj]; exact h)
theorem owns_nil {C : Cfg} {F H : Hp} : ∀ {vs : List V} {us : List T} {As : List Addr}, Owns C F H vs us As → T.owns us = false → As = []
  | _, _, _, .nil, _ => rfl
  | _, _, _, .cons h hs, o => by
    have o := Bool.or_eq_false_iff.mp (show (_ || _) = false from o)
    rw [(own_shd h o.1).2, owns_nil hs o.2]; rfl
theorem owns_rev {C : Cfg} {F H : Hp} : ∀ {vs : List V} {us : List T}, Owns C F H vs us [] → Owns C F H vs.reverse us.reverse [] := by
  have key : ∀ {vs : List V} {us : List T} {As : List Addr}, Owns C F H vs us As → As = [] → Owns C F H vs.reverse us.reverse [] := by
    intro vs us As h
    induction vs generalizing us As with
    | nil => cases h; intro _; exact .nil
    | cons v vs ih =>
      cases h with
      | @cons _ _ u us A1 B1 h hs =>
        intro e
        obtain ⟨e1, e2⟩ := List.append_eq_nil_iff.mp e
        subst e1
        rw [List.reverse_cons, List.reverse_cons]
        have := Owns.append (ih hs e2) (Owns.cons h .nil)
        simpa using this
  intro vs us h
  exact key h rfl
theorem owns_lst {C : Cfg} {F H : Hp} : ∀ {vs : List V} {ts : List T} {As : List Addr} {j : Nat} {us : List T}, Owns C F H vs ts As → As.Nodup → ts[j]? = some (.lst us) → T.owns us = false → ∃ a ws, vs[j]? = some (.ref a) ∧ H a = some (.lst ws) ∧ a ∈ As ∧ Owns C F H ws us [] ∧
    ∀ {F' H' : Hp} {ws' : List V} {us' : List T}, Same F F' → (∀ b, b ∈ As → b ≠ a → H' b = H b) → H' a = some (.lst ws') → Owns C F' H' ws' us' [] → Owns C F' H' vs (ts.set j (.lst us')) As
  | _, _, _, j, us, .nil, _, h, _ => by simp at h
  | _, _, _, 0, us, .cons (vs := vs) (ts := ts) (Bs := Bs) ho hs, nd, h, o => by
    simp at h
    subst h
    cases ho with
    | @lst a ws _ As1 ha hw =>
      have e := owns_nil hw o
      subst e
      refine ⟨a, ws, rfl, ha, List.mem_append_left _ (List.mem_cons_self ..), hw, fun s k h' o' => ?_⟩
      refine .cons (.lst h' o') (hs.mono s fun b m => k b (List.mem_append_right _ m) fun z => ?_)
      exact (List.nodup_append.mp nd).2.2 a (List.mem_cons_self ..) b m z.symm
  | _, _, _, j + 1, us, .cons (As := As) ho hs, nd, h, o => by
    have nd' := List.nodup_append.mp nd
    obtain ⟨a, ws, h1, h2, h3, h4, h5⟩ := owns_lst hs nd'.2.1 (by simpa using h) o
    refine ⟨a, ws, by simpa using h1, h2, List.mem_append_right _ h3, h4, fun s k h' o' => ?_⟩
    exact .cons (ho.mono s fun b m => k b (List.mem_append_left _ m) fun z => nd'.2.2 b m a h3 z) (h5 s (fun b m n => k b (List.mem_append_right _ m) n) h' o')
theorem tup_lst {C : Cfg} {H0 H : Hp} {B : Addr → Prop} {AA : Nat → List Addr} {σ : L2.St} {ρ : Rho} {j : Nat} {us : List T} (R : Rep C H0 B AA H σ ρ) (h : tupAt ρ i j = some us) (o : T.owns us = false) :
    ∃ p xs a ws, σ[i]? = some (some (.ref p)) ∧ H p = some (.tup xs) ∧ xs[j]? = some (.ref a) ∧ H a = some (.lst ws) ∧ ws.length = us.length ∧ a ∈ AA i ∧ Owns C (hid H (ZZ B AA)) H ws us [] ∧
      ∀ {H1 : Hp} {ws' : List V} {us' : List T}, Rep C H0 B AA H1 σ ρ → Same H H1 → Owns C (hid H1 (ZZ B AA)) (upd H1 a (.lst ws')) ws' us' [] → Rep C H0 B AA (upd H1 a (.lst ws')) σ (tupPut ρ i j us') := by
  unfold tupAt at h
  split at h
  · rename_i ts ht
    split at h
    · rename_i us' hu
      cases h
      obtain ⟨v, k1, k2⟩ := R.slot i _ ht
      have nd := R.nd i
      have kk := k2
      generalize hA : AA i = As at k2 nd
      cases k2 with
      | @tup p xs _ As1 hp hs =>
        obtain ⟨a, ws, h1, h2, h3, h4, h5⟩ := owns_lst hs nd hu o
        refine ⟨p, xs, a, ws, k1, hid_sub _ _ hp, h1, h2, h4.length, h3, h4, fun {H1 ws' us'} R1 s ho => ?_⟩
        have haZ : ZZ B AA a := .inr ⟨i, by rw [hA]; exact h3⟩
        unfold tupPut
        rw [ht]
        refine R1.hitT (by rw [hA]; exact h3) (fun _ z => nomatch z) k1 ?_
        rw [hA]
        have sm : Same (hid H (ZZ B AA)) (hid H1 (ZZ B AA)) := hid_mono s fun _ _ _ z => z
        rw [hid_upd haZ]
        refine .tup (sm _ _ hp) (h5 sm (fun b m n => ?_) upd_same ho)
        obtain ⟨w, hw⟩ := hs.live b m
        rw [upd_ne n, hw, s _ _ hw]
    · cases h
  · cases h
theorem ss_poke {ap cp p2 p3 : Pos} {j kk : Nat} (g : GoodS G sc X) (hN : G.N[i]? = some x) (hv : visB sc x = true) (hn : nmB x = true) (hline : (ap.endLine == cp.line) = true) (he : PE X e' (tE G.C e)) (n : nice e' = true) :
    PS X (.Expr (.Call (.Attribute (.Subscript (.Name x px) (.Constant (.int (j : Int)) kk p2) p3) "append" ap) [e'] [] cp) pos) (tS G.C (.poke i j e)) := by
  obtain ⟨n1, n2, n3⟩ := nmB_inv hn
  have hx : PE X (.Name x px) (tVar i) := pe_var (by rw [g.N]; exact hN) (g.vis x hv) n1 n2
  have hp := pe_bm (cpos := cp) F.plainAttrs_list F.slot_list_append F.type_list_append (mt_append (X := X)) (pe_ix (pos := p3) ix_tup hx (pe_int (i := (j : Int)) (j := kk) (pos := p2)) fun _ _ => rfl) (pa_cons he pa_nil (star_cons n)) rfl (by rw [star_cons n]; rfl) hline (star_cons n) rfl
  refine (ps_expr hp rfl).imp fun D σ H q => ?_
  obtain ⟨H0, B, AA, ρ, nn, o, R, h, q⟩ := q
  unfold ex at h
  obtain ⟨us, h1, h⟩ := bnd h
  obtain ⟨t, h2, h⟩ := bnd h
  split at h
  · rename_i hc
    obtain ⟨hlt, ho, hto⟩ := hc
    cases h
    obtain ⟨p, xs, a, ws, k1, k2, k3, k4, k5, k6, k7, k8⟩ := tup_lst R h1 ho
    refine ⟨_, k1, p, xs, j, .ref a, rfl, rfl, SqT.of k2, atI_nat k3, .inl ⟨rfl, ws, SqL.of k4⟩, stT_read R h2 fun Bs v H1 pp => ?_⟩
    refine ⟨a, ws, v, rfl, rfl, pp.same _ _ k4, by rw [k5, sz_eq]; exact hlt, ?_⟩
    obtain ⟨d1, d2⟩ := own_shd (pp.own rfl) hto
    subst d2
    have sm : Same (hid H (ZZ B AA)) (hid H1 (ZZ B AA)) := hid_mono pp.same fun _ _ _ z => z
    have o1 : Owns G.C (hid H1 (ZZ B AA)) (upd H1 a (.lst (ws ++ [v]))) ws us [] := k7.mono sm fun _ m => by cases m
    have o2 : Own G.C (hid H1 (ZZ B AA)) (upd H1 a (.lst (ws ++ [v]))) v t [] := (pp.own rfl).mono (by rw [Zp_nil]; exact Same.refl _) fun _ m => by cases m
    have o3 := Owns.append o1 (Owns.cons o2 .nil)
    refine q _ _ _ (k8 (R.mono pp.same) pp.same (by simpa using o3)) ?_
    rw [hid_upd (.inr ⟨i, k6⟩)]
    exact sm
  · cases h
theorem ss_pokeR {ap cp p2 p3 : Pos} {j kk : Nat} (g : GoodS G sc X) (hN : G.N[i]? = some x) (hv : visB sc x = true) (hn : nmB x = true) (hline : (ap.endLine == cp.line) = true) :
    PS X (.Expr (.Call (.Attribute (.Subscript (.Name x px) (.Constant (.int (j : Int)) kk p2) p3) "reverse" ap) [] [] cp) pos) (tS G.C (.pokeR i j)) := by
  obtain ⟨n1, n2, n3⟩ := nmB_inv hn
  have hx : PE X (.Name x px) (tVar i) := pe_var (by rw [g.N]; exact hN) (g.vis x hv) n1 n2
  have hp := pe_bm0 (cpos := cp) (apos := ap) F.plainAttrs_list F.slot_list_reverse F.type_list_reverse (mt_reverse (X := X)) (pe_ix (pos := p3) ix_tup hx (pe_int (i := (j : Int)) (j := kk) (pos := p2)) fun _ _ => rfl) rfl hline
  refine (ps_expr hp rfl).imp fun D σ H q => ?_
  obtain ⟨H0, B, AA, ρ, nn, o, R, h, q⟩ := q
  unfold ex at h
  obtain ⟨us, h1, h⟩ := bnd h
  split at h
  · rename_i ho
    cases h
    obtain ⟨p, xs, a, ws, k1, k2, k3, k4, k5, k6, k7, k8⟩ := tup_lst R h1 ho
    refine ⟨_, k1, p, xs, j, .ref a, rfl, rfl, SqT.of k2, atI_nat k3, .inl ⟨rfl, ws, SqL.of k4⟩, a, ws, rfl, rfl, k4, ?_⟩
    refine q _ _ _ (k8 R (Same.refl _) (owns_rev (k7.mono (Same.refl _) fun _ m => by cases m))) ?_
    rw [hid_upd (.inr ⟨i, k6⟩)]
    exact Same.refl _
  · cases h
theorem ss_brk : PS X (.Break pos) (tS G.C .brk) := ps_break.imp fun D σ H q => by
  obtain ⟨H0, B, AA, ρ, n, o, R, h, q⟩ := q
  unfold ex at h
  cases h
  exact q _ _ _ R (Same.refl _)
theorem ss_cnt : PS X (.Continue pos) (tS G.C .cnt) := ps_continue.imp fun D σ H q => by
  obtain ⟨H0, B, AA, ρ, n, o, R, h, q⟩ := q
  unfold ex at h
  cases h
  exact q _ _ _ R (Same.refl _)
theorem ss_pas : PS X (.Pass pos) (tS G.C .pas) := ps_pass.imp fun D σ H q => by
  obtain ⟨H0, B, AA, ρ, n, o, R, h, q⟩ := q
  unfold ex at h
  cases h
  exact q _ _ _ R (Same.refl _)
theorem ss_nev : PS X st (tS G.C .nev) := ps_never.imp fun D σ H q => by
  obtain ⟨H0, B, AA, ρ, n, o, R, h, q⟩ := q
  unfold ex at h
  cases h
theorem ss_whl (g : GoodS G sc X) (hc : PT X c' (tT G.C c)) (hb : PSs X b' (tSs G.C b)) : PS X (.While c' b' [] pos) (tS G.C (.whl c b)) := (ps_while g.pass hc hb).imp fun D σ H q => by
  obtain ⟨H0, B, AA, ρ, n, o, R, h, q⟩ := q
  unfold ex at h
  refine ⟨fun m σ H1 => ∃ AA' ρ', Rep G.C H0 B AA' H1 σ ρ' ∧ Same (hid H (ZZ B AA)) (hid H1 (ZZ B AA')) ∧ whlGo (fun ρ => tst c (dl ρ)) (exs n b) m ρ' = some o, ⟨n, AA, ρ, R, Same.refl _, h⟩, ?_⟩
  rintro m σ1 H1 ⟨AA1, ρ1, R1, f1, h1⟩
  cases m with
  | zero => cases h1
  | succ m =>
    unfold whlGo at h1
    obtain ⟨kk, h2, h1⟩ := bnd h1
    refine ⟨H0, B, AA1, ρ1, kk, R1, h2, fun H2 s2 => ?_⟩
    have f2 : Same (hid H (ZZ B AA)) (hid H2 (ZZ B AA1)) := f1.trans (hid_mono s2 fun _ _ _ z => z)
    cases kk with
    | false =>
      have h1 : some (Out.nx ρ1) = some o := h1
      cases h1
      exact q _ _ _ (R1.mono s2) f2
    | true =>
      refine ⟨fun σ' H' => ∃ AA' ρ', Rep G.C H0 B AA' H' σ' ρ' ∧ Same (hid H (ZZ B AA)) (hid H' (ZZ B AA')) ∧ whlGo (fun ρ => tst c (dl ρ)) (exs n b) m ρ' = some o, fun σ' H' w => ⟨m, by omega, w⟩, ?_⟩
      obtain ⟨o1, h3, h1⟩ := bnd (show ((exs n b ρ1).bind _) = some o from h1)
      refine ⟨H0, B, AA1, ρ1, n, o1, R1.mono s2, h3, ?_⟩
      cases o1 with
      | nx ρ2 => exact fun σ' H' AA' R' f' => ⟨AA', ρ2, R', f2.trans f', h1⟩
      | ct ρ2 => exact fun σ' H' AA' R' f' => ⟨AA', ρ2, R', f2.trans f', h1⟩
      | bk ρ2 =>
        have h1 : some (Out.nx ρ2) = some o := h1
        cases h1
        exact fun σ' H' AA' R' f' => q _ _ _ R' (f2.trans f')
      | rt t =>
        have h1 : some (Out.rt t) = some o := h1
        cases h1
        exact q
theorem ss_for {tg : Tg} {it : I} {tg' it' : Expr} (g : GoodS G sc X) (hg : PG X tg' (tG G.C tg)) (hi : PI X tg' it' (tI G.C it)) (n : nice it' = true) (hb : PSs X b' (tSs G.C b)) : PS X (.For tg' it' b' [] pos) (tS G.C (.for tg it b)) :=
  (ps_for g.pass g.calm hi hg hb (set_plain n)).imp fun D σ H q => by
    obtain ⟨H0, B, AA, ρ, n, o, R, h, q⟩ := q
    unfold ex at h
    obtain ⟨ds, h1, h⟩ := bnd h
    split at h
    · rename_i hs
      refine ⟨H0, B, AA, ρ, ds, R, h1, hs, fun J H1 e1 wd => ?_⟩
      obtain ⟨W, Y, walk, hW, hY⟩ := wd
      have f1 : Same (hid H (ZZ B AA)) (hid H1 (ZZ B AA)) := hid_mono e1 fun _ _ _ z => z
      refine for_it walk (fun i σ' H' => ∃ AA' ρ', Rep G.C H0 B AA' H' σ' ρ' ∧ Same (hid H1 (ZZ B AA)) (hid H' (ZZ B AA')) ∧ forGo (asgR tg) (exs n b) (ds.drop i) ρ' = some o) ⟨AA, ρ, R.mono e1, Same.refl _, h⟩ ?_ ?_ ?_
      · rintro i σ' H' _ ⟨AA', ρ', R', f', _⟩
        exact hW H' (f'.trans hid_sub)
      · rintro i x σ2 H2 H3 hlt ⟨AA2, ρ2, R2, f2, h2⟩ y
        have hlt' : i < ds.length := hlt
        rw [List.drop_eq_getElem_cons hlt'] at h2
        have hd : ds[i]? = some ds[i] := List.getElem?_eq_getElem hlt'
        unfold forGo at h2
        obtain ⟨ρ3, h3, h2⟩ := bnd h2
        obtain ⟨o1, h4, h2⟩ := bnd h2
        obtain ⟨s3, hdat⟩ := hY i _ H2 x H3 hd (f2.trans hid_sub) y
        refine ⟨H0, B, AA2, ρ2, ρ3, _, R2.mono s3, hdat (ZZ B AA2) R2.z f2, h3, fun AA3 σ3 R3 z1 _ _ => ?_⟩
        have f3 : Same (hid H1 (ZZ B AA)) (hid H3 (ZZ B AA3)) := f2.trans (hid_mono s3 fun a _ _ z => z1 a z)
        refine ⟨H0, B, AA3, ρ3, n, o1, R3, h4, ?_⟩
        cases o1 with
        | nx ρ4 => exact fun σ' H' AA' R' f' => ⟨AA', ρ4, R', f3.trans f', h2⟩
        | ct ρ4 => exact fun σ' H' AA' R' f' => ⟨AA', ρ4, R', f3.trans f', h2⟩
        | bk ρ4 =>
          have h2 : some (Out.nx ρ4) = some o := h2
          cases h2
          exact fun σ' H' AA' R' f' => q _ _ _ R' (f1.trans (f3.trans f'))
        | rt t =>
          have h2 : some (Out.rt t) = some o := h2
          cases h2
          exact q
      · rintro σ' H' ⟨AA', ρ', R', f', h2⟩
        rw [List.drop_length] at h2
        have h2 : some (Out.nx ρ') = some o := h2
        cases h2
        exact q _ _ _ R' (f1.trans f')
    · cases h
theorem sss_nil : PSs X [] (tSs G.C .nil) := pss_nil.imp fun D σ H q => by
  obtain ⟨H0, B, AA, ρ, n, o, R, h, q⟩ := q
  unfold exs at h
  cases h
  exact q _ _ _ R (Same.refl _)
theorem sss_cons (h1 : PS X st (tS G.C s)) (h2 : PSs X a' (tSs G.C ss)) : PSs X (st :: a') (tSs G.C (.cons s ss)) := (pss_cons h1 h2).imp fun D σ H q => by
  obtain ⟨H0, B, AA, ρ, n, o, R, h, q⟩ := q
  unfold exs at h
  obtain ⟨o1, h1, h⟩ := bnd h
  refine ⟨H0, B, AA, ρ, n, o1, R, h1, ?_⟩
  cases o1 with
  | nx ρ1 => exact fun σ' H' AA' R' f' => ⟨H0, B, AA', ρ1, n, o, R', h, q.imp f'⟩
  | rt t =>
    have h : some (Out.rt t) = some o := h
    cases h
    exact q
  | bk ρ1 =>
    have h : some (Out.bk ρ1) = some o := h
    cases h
    exact q
  | ct ρ1 =>
    have h : some (Out.ct ρ1) = some o := h
    cases h
    exact q
theorem Rep.frz1 {C : Cfg} {H0 H : Hp} {B : Addr → Prop} {AA : Nat → List Addr} {σ : L2.St} {ρ : Rho} (R : Rep C H0 B AA H σ ρ) : ∃ AA', Rep C H0 B AA' H σ (frz1 i ρ) ∧ ∀ a, ZZ B AA' a → ZZ B AA a := by
  unfold Eng.frz1
  split
  · rename_i t ht
    refine ⟨upA AA i [], ?_, ZZ_sub⟩
    obtain ⟨v, h1, h2⟩ := R.slot i t ht
    have hd : Dat C (hid H (ZZ B (upA AA i []))) v t.d := h2.dat (hid_mono (Same.refl _) fun a _ _ z => ZZ_sub a z) fun a o m e => hid_some.mpr ⟨fun z => by
      rcases z with z | ⟨j, z⟩
      · exact (R.new i a m).2.2 z
      · by_cases hj : j = i
        · subst hj; rw [upA_same] at z; cases z
        · rw [upA_ne hj] at z; exact hj (R.dj j i a z m), e⟩
    have sub : Same (hid H (ZZ B AA)) (hid H (ZZ B (upA AA i []))) := hid_mono (Same.refl _) fun a _ _ z => ZZ_sub a z
    refine ⟨R.same, R.bs, fun j a m => ?_, fun j => ?_, fun j l a m n => ?_, fun j u h => ?_, by rw [List.length_set]; exact R.len⟩
    · by_cases hj : j = i
      · subst hj; rw [upA_same] at m; cases m
      · rw [upA_ne hj] at m; exact R.new j a m
    · by_cases hj : j = i
      · subst hj; rw [upA_same]; exact List.nodup_nil
      · rw [upA_ne hj]; exact R.nd j
    · by_cases hj : j = i
      · subst hj; rw [upA_same] at m; cases m
      · by_cases hl : l = i
        · subst hl; rw [upA_same] at n; cases n
        · rw [upA_ne hj] at m; rw [upA_ne hl] at n; exact R.dj j l a m n
    · by_cases hj : i = j
      · subst hj
        have hi : i < ρ.length := by
          have := (List.getElem?_eq_some_iff.mp h).1
          rwa [List.length_set] at this
        rw [List.getElem?_set_self hi] at h
        cases h
        refine ⟨v, h1, ?_⟩
        rw [upA_same]
        exact .sh hd
      · rw [List.getElem?_set_ne hj] at h
        obtain ⟨u', k1, k2⟩ := R.slot j u h
        exact ⟨u', k1, by rw [upA_ne (fun q => hj q.symm)]; exact k2.mono sub fun _ _ => rfl⟩
  · exact ⟨AA, R, fun _ z => z⟩
theorem sss_frz (h2 : PSs X a' (tSs G.C ss)) : PSs X a' (tSs G.C (.frz i ss)) := h2.imp fun D σ H q => by
  obtain ⟨H0, B, AA, ρ, n, o, R, h, q⟩ := q
  unfold exs at h
  obtain ⟨AA', R', z⟩ := R.frz1 (i := i)
  exact ⟨H0, B, AA', _, n, o, R', h, q.imp (hid_mono (Same.refl _) fun a _ _ m => z a m)⟩
end
variable {G : GC}
mutual
theorem soS : ∀ (s : S) {sc : Scope} {X : Cx} {s' : Stmt}, GoodS G sc X → mS G.N sc s s' = true → Ndst G s → PS X s' (tS G.C s)
  | .set i e, sc, X, s', g, m, n => by
    unfold mS at m
    split at m
    · rename_i x px e' pos
      obtain ⟨m1, m2, m3⟩ := and3 m
      have m1 := Bool.and_eq_true_iff.mp m1
      refine ss_set g (of_decide_eq_true m1.1) m1.2 (soE e g.toGood m2 n).1 ?_
      rcases Bool.or_eq_true_iff.mp m3 with z | z
      · exact sw_plain (mE_nice m2) z
      · refine sw_cell (mE_nice m2) fun q => ?_
        rw [g.scope] at q
        unfold isLoc at z
        rw [q] at z
        cases z
    · cases m
  | .setL i e, sc, X, s', g, m, n => by
    unfold mS at m
    split at m
    · rename_i x px elt gs scope p sp
      obtain ⟨m1, m2, m3⟩ := and3 m
      obtain ⟨m4, m5, m6⟩ := and3 m1
      cases e with
      | lc own tg it c e =>
        unfold mE at m6
        split at m6
        · rename_i elt' tgt iter ifs isa scope' p' q
          cases q
          obtain ⟨k1, k2, k3⟩ := and3 m6
          obtain ⟨k4, k5, k6⟩ := and3 k1
          obtain ⟨k7, k8, k9⟩ := and3 k4
          have := of_decide_eq_true k7
          subst this
          exact ss_setL g (of_decide_eq_true m4) m5 (g.blkOk (blkOk_by k8)) (fun i h => by simpa using (List.all_eq_true.mp k5) i h) (mI_nice k6) (soI it g.toGood k6 n.1) (fun X' g' => sg g' k9) (fun X' g' => soIf c g' k2 n.2.1) (fun X' g' => (soE e g' k3 n.2.2).1) m2 (by simpa using m3)
        · cases m6
      | _ =>
        unfold mE at m6
        first
          | (exact absurd m6 Bool.false_ne_true)
          | (split at m6 <;> first | (rename_i q; cases q; done) | cases m6)
    · cases m
  | .setT is e, sc, X, s', g, m, n => by
    unfold mS at m
    split at m
    · obtain ⟨m1, m2, m3⟩ := and3 m
      exact ss_setT g m1 (soE e g.toGood m2 n).1 (mE_nice m2) m3
    · cases m
  | .aug i op e, sc, X, s', g, m, n => by
    unfold mS at m
    split at m
    · obtain ⟨m1, m2, m3⟩ := and3 m
      have m1 := Bool.and_eq_true_iff.mp m1
      have := of_decide_eq_true m1.1
      subst this
      exact ss_aug g (of_decide_eq_true m1.2) m2 (soE e g.toGood m3 n).1
    · cases m
  | .app i e, sc, X, s', g, m, n => by
    unfold mS at m
    split at m
    · obtain ⟨m1, m2, m3⟩ := and3 m
      obtain ⟨m4, m5, m6⟩ := and3 m1
      have m4 := Bool.and_eq_true_iff.mp m4
      have := of_decide_eq_true m4.1
      subst this
      exact ss_app g (of_decide_eq_true m4.2) m5 m6 m2 (soE e g.toGood m3 n).1 (mE_nice m3)
    · cases m
  | .setX i k e, sc, X, s', g, m, n => by
    unfold mS at m
    split at m
    · obtain ⟨m1, m2, m3⟩ := and3 m
      obtain ⟨m4, m5, m6⟩ := and3 m1
      have m4 := Bool.and_eq_true_iff.mp m4
      exact ss_setX g (of_decide_eq_true m4.1) m4.2 m5 (soE e g.toGood m2 n.2).1 (soE k g.toGood m6 n.1).1 (mE_nice m2) m3 (mE_nice m6)
    · cases m
  | .pop i, sc, X, s', g, m, n => by
    unfold mS at m
    split at m
    · obtain ⟨m1, m2, m3⟩ := and3 m
      obtain ⟨m4, m5, m6⟩ := and3 m1
      have := of_decide_eq_true m4
      subst this
      exact ss_pop g (of_decide_eq_true m5) m6 m2 m3
    · cases m
  | .ret e, sc, X, s', g, m, n => by
    unfold mS at m
    split at m
    · exact ss_ret g (soE e g.toGood m n).1
    · cases m
  | .retO i, sc, X, s', g, m, n => by
    unfold mS at m
    split at m
    · obtain ⟨m1, m2, m3⟩ := and3 m
      exact ss_retO g (of_decide_eq_true m1) m2 m3
    · cases m
  | .retT es, sc, X, s', g, m, n => by
    unfold mS at m
    split at m
    · exact ss_retT g (sm_all g.toGood m n)
    · cases m
  | .poke i j e, sc, X, s', g, m, n => by
    unfold mS at m
    split at m
    · obtain ⟨m1, m2, m3⟩ := and3 m
      obtain ⟨m4, m5, m6⟩ := and3 m1
      obtain ⟨m7, m8, m9⟩ := and3 m4
      have := of_decide_eq_true m7
      subst this
      have := of_decide_eq_true m8
      subst this
      exact ss_poke g (of_decide_eq_true m9) m5 m6 m2 (soE e g.toGood m3 n).1 (mE_nice m3)
    · cases m
  | .pokeR i j, sc, X, s', g, m, n => by
    unfold mS at m
    split at m
    · obtain ⟨m1, m2, m3⟩ := and3 m
      obtain ⟨m4, m5, m6⟩ := and3 m1
      have m4 := Bool.and_eq_true_iff.mp m4
      have := of_decide_eq_true m4.1
      subst this
      have := of_decide_eq_true m4.2
      subst this
      exact ss_pokeR g (of_decide_eq_true m5) m6 m2 m3
    · cases m
  | .retN, sc, X, s', g, m, n => by
    unfold mS at m
    split at m
    · exact ss_retN g
    · cases m
  | .exp e, sc, X, s', g, m, n => by
    unfold mS at m
    split at m
    · have m := Bool.and_eq_true_iff.mp m
      exact ss_exp g (soE e g.toGood m.1 n).1 (mE_nice m.1) m.2
    · cases m
  | .ite c a b, sc, X, s', g, m, n => by
    unfold mS at m
    split at m
    · obtain ⟨m1, m2, m3⟩ := and3 m
      exact ss_ite (soE c g.toGood m1 n.1).2.1 (soSs a g m2 n.2.1) (soSs b g m3 n.2.2)
    · cases m
  | .for tg it b, sc, X, s', g, m, n => by
    unfold mS at m
    split at m
    · obtain ⟨m1, m2, m3⟩ := and3 m
      exact ss_for g (sg g.toGood m1) (soI it g.toGood m2 n.1) (mI_nice m2) (soSs b g m3 n.2)
    · cases m
  | .whl c b, sc, X, s', g, m, n => by
    unfold mS at m
    split at m
    · have m := Bool.and_eq_true_iff.mp m
      exact ss_whl g (soE c g.toGood m.1 n.1).2.1 (soSs b g m.2 n.2)
    · cases m
  | .brk, sc, X, s', g, m, n => by
    unfold mS at m
    split at m
    · exact ss_brk
    · cases m
  | .cnt, sc, X, s', g, m, n => by
    unfold mS at m
    split at m
    · exact ss_cnt
    · cases m
  | .pas, sc, X, s', g, m, n => by
    unfold mS at m
    split at m
    · exact ss_pas
    · cases m
  | .nev, sc, X, s', g, m, n => ss_nev
theorem soSs : ∀ (s : Ss) {sc : Scope} {X : Cx} {s' : List Stmt}, GoodS G sc X → mSs G.N sc s s' = true → Ndss G s → PSs X s' (tSs G.C s)
  | .nil, sc, X, [], g, m, n => sss_nil
  | .nil, sc, X, _ :: _, g, m, n => by unfold mSs at m; cases m
  | .cons s ss, sc, X, [], g, m, n => by unfold mSs at m; cases m
  | .cons s ss, sc, X, s' :: r, g, m, n => by
    unfold mSs at m
    have m := Bool.and_eq_true_iff.mp m
    exact sss_cons (soS s g m.1 n.1) (soSs ss g m.2 n.2)
  | .frz i ss, sc, X, s', g, m, n => by
    unfold mSs at m
    exact sss_frz (soSs ss g m n)
end
/-! ### a def's promise -/
def runD (n : Nat) (N : List Str) (body : Ss) (ds : List D) : Option T := match exs n body (ds.map (fun d => some (.sh d)) ++ List.replicate (N.length - ds.length) none) with
  | some (.rt t) => some t
  | some (.nx _) => some (.sh .non)
  | _ => none
theorem start_get {vs : List V} {N : List Str} {i : Nat} {v : V} (h : vs[i]? = some v) : (L2.start N vs)[i]? = some (some v) := by
  unfold L2.start
  rw [List.getElem?_append_left (by rw [List.length_map]; exact (List.getElem?_eq_some_iff.mp h).1), List.getElem?_map, h]; rfl
theorem rep_start {C : Cfg} {H : Hp} {B : Addr → Prop} {vs : List V} {ds : List D} {N : List Str} (b : ∀ a, B a → nTup H a) (h : Dats C (hid H B) vs ds) :
    Rep C H B no H (L2.start N vs) (ds.map (fun d => some (.sh d)) ++ List.replicate (N.length - ds.length) none) := by
  refine ⟨Same.refl H, b, (fun _ _ m => by cases m), (fun _ => List.nodup_nil), (fun _ _ _ m => by cases m), fun i t hi => ?_, by unfold L2.start; simp [h.length]⟩
  by_cases hl : i < ds.length
  · rw [List.getElem?_append_left (by rw [List.length_map]; exact hl), List.getElem?_map] at hi
    have hd : ds[i]? = some ds[i] := List.getElem?_eq_getElem hl
    rw [hd] at hi
    cases hi
    obtain ⟨v, h1, h2⟩ := h.getD hd
    exact ⟨v, start_get h1, by rw [ZZ_no]; exact .sh h2⟩
  · rw [List.getElem?_append_right (by rw [List.length_map]; omega)] at hi
    rw [List.getElem?_replicate] at hi
    split at hi <;> cases hi
/-- a def's body under the words' reckoning -/
theorem fn_body {P : Program} {w : World} {C : Cfg} {base : Heap} {qual : Str} {scope : Scope} {bd : List Stmt} {f : Addr} {N ps : List Str} {k : Nat} {body : Ss} {F : List D → Option T}
    (S : FnScope N ps scope) (hm : mSs N scope body bd = true) (nd : Ndss ⟨P, w, C, base, N, k⟩ body)
    (hF : ∀ ds t, F ds = some t → ds.length = ps.length ∧ ∃ n, runD n N body ds = some t) {cdv : Value} {A : Around} {outer : List Env} {s : Shared} {H : Hp} {vs : List V} {Q : VK} {E : XK}
    (hr : Room k (A.deeper (PyProof.Rows.envOfC qual scope s.heap.objs.size f cdv))) (h : pureSp C F vs H Q E) :
    ∃ t, PSs (cxOf CX0 P w C.K C.mg base N qual scope f cdv A outer s H E).nox bd t ∧ t { nx := fun _ H' => Q .non H', rt := Q } (L2.start N vs) H := by
  · have g : GoodS ⟨P, w, C, base, N, k⟩ scope (cxOf CX0 P w C.K C.mg base N qual scope f cdv A outer s H E).nox :=
      { prog := rfl, w := rfl, K := rfl, mg := rfl, base := rfl, N := rfl, nd := S.nd, calm := rfl, room := hr, kind := S.kind
        vis := fun x h => by
          unfold visB at h
          split at h
          · rename_i q; exact .inl q
          · rename_i q; exact .inr (.inl q)
          · rename_i q; exact .inr (.inr q)
          · cases h
        gl := fun x h => by
          unfold glB at h
          split at h
          · rename_i q; exact q
          · cases h
        loc := fun x h => by
          unfold locB at h
          split at h
          · rename_i q; exact ⟨.inl q, .inl rfl⟩
          · rename_i q; exact ⟨.inr q, .inl rfl⟩
          · cases h
        fr := fun x h => h
        scope := rfl
        pass := PassesOwn.never }
    refine ⟨_, soSs body g hm nd, ?_⟩
    obtain ⟨ds, t, Z, al, h1, h2, h3, h4, h5⟩ := h
    obtain ⟨hl, n, hrun⟩ := hF ds t h4
    -- with the hidden part, or with none
    have key : ∀ B : Addr → Prop, (∀ a, B a → nTup H a) → Dats C (hid H B) vs ds → (∀ As v H', Post C B H t true As v H' → Q v H') → tSs C body { nx := fun _ H' => Q .non H', rt := Q } (L2.start N vs) H := by
      intro B hB hd q
      have R := rep_start (N := N) hB hd
      unfold runD at hrun
      split at hrun
      · rename_i t' ht
        cases hrun
        exact ⟨H, B, no, _, n, _, R, ht, q⟩
      · rename_i ρ' ht
        cases hrun
        exact ⟨H, B, no, _, n, _, R, ht, fun σ' H' AA' R' _ => q [] .non H' (Post.sh' R'.same .non fun _ => .non)⟩
      · cases hrun
    cases al with
    | true => exact key Z h3 (h2 rfl) h5
    | false =>
      have n0 : hid H (fun _ => False) = H := by funext a; exact hid_out fun z => z
      refine key (fun _ => False) (fun _ z => z.elim) (by rw [n0]; exact h1) fun As v H' p => h5 As v H' ⟨p.same, p.nd, p.new, p.dat, fun z => by cases z⟩
/-- THE RULE for a def: its body is this text, and it reckons F -/
theorem fn_ok {P : Program} {w : World} {C : Cfg} {base : Heap} {x qual : Str} {st : Stmt} {f : Addr} {fd : FuncData} {N ps : List Str} {k : Nat} {body : Ss} {F : List D → Option T}
    (Fn : Fun C.K x qual st f fd) (S : FnScope N ps (defScope st)) (hm : mSs N (defScope st) body (defBody st) = true) (nd : Ndss ⟨P, w, C, base, N, k⟩ body)
    (hF : ∀ ds t, F ds = some t → ds.length = ps.length ∧ ∃ n, runD n N body ds = some t) : FnOk P w C.K C.mg base CX0 (k + 1) f fd ps (pureSp C F) := by
  refine Fn.ok S (fun vs H Q E h => ?_) fun cdv A outer s H vs Q E hr h => ?_
  · obtain ⟨ds, t, Z, al, h1, h2, h3, h4, h5⟩ := h
    rw [h1.length]; exact (hF ds t h4).1
  · exact fn_body S hm nd hF hr h
end Eng
/-! Eng Q: how the words reckon (rules for simp), loops by a word, defs with defaults. -/
namespace Eng
open PySem L2
@[simp] theorem dl_nil : dl [] = [] := rfl
@[simp] theorem dl_cons_some (t : T) (ρ : Rho) : dl (some t :: ρ) = some t.d :: dl ρ := rfl
@[simp] theorem dl_cons_none (ρ : Rho) : dl (none :: ρ) = none :: dl ρ := rfl
@[simp] theorem dl_cons (o : Option T) (ρ : Rho) : dl (o :: ρ) = o.map T.d :: dl ρ := rfl
@[simp] theorem sal_nil (o : Nat → Bool) : sal [] o = true := rfl
@[simp] theorem sal_cons (i : Nat) (is : List Nat) (o : Nat → Bool) : sal (i :: is) o = (!o i && sal is o) := rfl
@[simp] theorem ow_0 (t : T) (ρ : Rho) : ow (some t :: ρ) 0 = t.own := rfl
@[simp] theorem ow_0n (ρ : Rho) : ow (none :: ρ) 0 = false := rfl
@[simp] theorem ow_s (o : Option T) (ρ : Rho) (i : Nat) : ow (o :: ρ) (i + 1) = ow ρ i := by unfold ow; rw [List.getElem?_cons_succ]
@[simp] theorem add_int (i j : Int) : binD .Add [.int i, .int j] = some (.sh (.int (i + j))) := rfl
@[simp] theorem add_str (a b : List Nat) : binD .Add [.str a, .str b] = if a.length + b.length ≤ SZ then some (.sh (.str (a ++ b))) else none := by
  show orE _ _ _ = _
  unfold orE
  show (match (if a.length + b.length ≤ SZ then some (T.sh (.str (a ++ b))) else none : Option T) with | some t => some t | none => none) = _
  split <;> split <;> simp_all
@[simp] theorem add_lst (a b : List D) : binD .Add [.lst a, .lst b] = if a.length + b.length ≤ SZ then some (.lst ((a ++ b).map .sh)) else none := rfl
@[simp] theorem mul_r (i : Int) {j : Int} (h1 : -18446744073709551616 < j) (h2 : j < 18446744073709551616) : binD .Mult [.int i, .int j] = some (.sh (.int (i * j))) := by
  show orE _ _ _ = _
  unfold orE
  show (match (if (-(2 ^ 64) < i ∧ i < 2 ^ 64) ∨ (-(2 ^ 64) < j ∧ j < 2 ^ 64) then some (T.sh (.int (i * j))) else none : Option T) with | some t => some t | none => _) = _
  rw [if_pos (.inr ⟨by omega, by omega⟩)]
@[simp] theorem mul_l {i : Int} (j : Int) (h1 : -18446744073709551616 < i) (h2 : i < 18446744073709551616) : binD .Mult [.int i, .int j] = some (.sh (.int (i * j))) := by
  show orE _ _ _ = _
  unfold orE
  show (match (if (-(2 ^ 64) < i ∧ i < 2 ^ 64) ∨ (-(2 ^ 64) < j ∧ j < 2 ^ 64) then some (T.sh (.int (i * j))) else none : Option T) with | some t => some t | none => _) = _
  rw [if_pos (.inl ⟨by omega, by omega⟩)]
theorem mul_str (a : List Nat) {k : Int} (h1 : -9223372036854775808 < k) (h2 : k < 9223372036854775808) (h3 : a.length * k.toNat ≤ 16777216) : binD .Mult [.str a, .int k] = some (.sh (.str (mulStr a k))) := by
  show orE _ _ _ = _
  unfold orE
  show (match (if -(2 ^ 63) < k ∧ k < 2 ^ 63 ∧ a.length * k.toNat ≤ SZ then some (T.sh (.str (mulStr a k))) else none : Option T) with | some t => some t | none => _) = _
  rw [if_pos ⟨by omega, by omega, h3⟩]
theorem mul_lst (a : List D) {k : Int} (h1 : -9223372036854775808 ≤ k) (h2 : k < 9223372036854775808) (h3 : a.length * k.toNat ≤ 16777216) : binD .Mult [.lst a, .int k] = some (.lst ((List.replicate k.toNat a).flatten.map .sh)) := by
  show (if -(2 ^ 63) ≤ k ∧ k < 2 ^ 63 ∧ a.length * k.toNat ≤ SZ then some (T.lst ((List.replicate k.toNat a).flatten.map .sh)) else none) = _
  rw [if_pos ⟨by omega, by omega, h3⟩]
@[simp] theorem sub_int (i j : Int) : binD .Sub [.int i, .int j] = some (.sh (.int (i - j))) := rfl
@[simp] theorem mod_int (i j : Int) : binD .Mod [.int i, .int j] = if 0 < j then some (.sh (.int (i % j))) else none := rfl
@[simp] theorem fdiv_int (i j : Int) : binD .FloorDiv [.int i, .int j] = if 0 < j ∧ j < 1073741824 then some (.sh (.int (i / j))) else none := rfl
theorem nab1 : ((1 : Int).natAbs < 2 ^ 64) = True := eq_true (by decide +kernel)
theorem shl_1 (j : Int) : binD .LShift [.int 1, .int j] = if 0 ≤ j ∧ j ≤ 1000000 then some (.sh (.int (2 ^ j.toNat))) else none := by
  show (iff (0 ≤ j ∧ j ≤ 1000000 ∧ (1 : Int).natAbs < 2 ^ 64) (Eng.sc (.int (1 * 2 ^ j.toNat)))) = _
  unfold Eng.iff
  by_cases h : 0 ≤ j ∧ j ≤ 1000000
  · rw [if_pos h, if_pos ⟨h.1, h.2, of_eq_true nab1⟩, Int.one_mul]; rfl
  · rw [if_neg h, if_neg fun z => h ⟨z.1, z.2.1⟩]
theorem shr_int (i j : Int) : binD .RShift [.int i, .int j] = if 0 ≤ j then some (.sh (.int (i / 2 ^ j.toNat))) else none := rfl
@[simp] theorem band_int (i j : Int) : binD .BitAnd [.int i, .int j] = some (.sh (.int (Builtin.bitAnd i j))) := rfl
@[simp] theorem bor_int (i j : Int) : binD .BitOr [.int i, .int j] = some (.sh (.int (Builtin.bitOr i j))) := rfl
@[simp] theorem aug_add_int (i j : Int) : augD .Add [.int i, .int j] = some (.sh (.int (i + j))) := rfl
@[simp] theorem aug_add_str (a b : List Nat) : augD .Add [.str a, .str b] = if a.length + b.length ≤ SZ then some (.sh (.str (a ++ b))) else none := rfl
@[simp] theorem aug_sub_int (i j : Int) : augD .Sub [.int i, .int j] = some (.sh (.int (i - j))) := rfl
@[simp] theorem aug_or_int (i j : Int) : augD .BitOr [.int i, .int j] = some (.sh (.int (Builtin.bitOr i j))) := rfl
def negK (d : D) : Option T := i1 (fun i => Eng.sc (.int (-i))) [d]
@[simp] theorem negK_int (i : Int) : negK (.int i) = some (.sh (.int (-i))) := rfl
/-! ### comparisons, truths -/
theorem eqD_int (i j : Int) : eqD (.int i) (.int j) = some (decide (i = j)) := by
  have : eqD (.int i) (.int j) = some (i == j) := by simp [eqD, toPy, SeqAt.shaped, PyData.canLay0, PyData.depth, PyData.eqv]
  rw [this]; exact congrArg some (Bool.eq_iff_iff.mpr (by simp))
theorem eqD_bl (i j : Bool) : eqD (.bl i) (.bl j) = some (decide (i = j)) := by
  have : eqD (.bl i) (.bl j) = some (i == j) := by simp [eqD, toPy, SeqAt.shaped, PyData.canLay0, PyData.depth, PyData.eqv]
  rw [this]; exact congrArg some (Bool.eq_iff_iff.mpr (by simp))
def eqO (o : Option Bool) : Option T := o.map fun r => .sh (.bl r)
def neO (o : Option Bool) : Option T := o.map fun r => .sh (.bl (!r))
@[simp] theorem eq_str (a b : List Nat) : cmpD .Eq [.str a, .str b] = some (.sh (.bl (decide (a = b)))) := rfl
@[simp] theorem ne_str (a b : List Nat) : cmpD .NotEq [.str a, .str b] = some (.sh (.bl (!decide (a = b)))) := rfl
@[simp] theorem eq_int (i j : Int) : cmpD .Eq [.int i, .int j] = some (.sh (.bl (decide (i = j)))) := by
  show eqO (eqD (.int i) (.int j)) = _
  rw [eqD_int]; rfl
@[simp] theorem ne_int (i j : Int) : cmpD .NotEq [.int i, .int j] = some (.sh (.bl (!decide (i = j)))) := by
  show neO (eqD (.int i) (.int j)) = _
  rw [eqD_int]; rfl
@[simp] theorem eq_bl (i j : Bool) : cmpD .Eq [.bl i, .bl j] = some (.sh (.bl (decide (i = j)))) := by
  show eqO (eqD (.bl i) (.bl j)) = _
  rw [eqD_bl]; rfl
@[simp] theorem ne_bl (i j : Bool) : cmpD .NotEq [.bl i, .bl j] = some (.sh (.bl (!decide (i = j)))) := by
  show neO (eqD (.bl i) (.bl j)) = _
  rw [eqD_bl]; rfl
@[simp] theorem eqO_some (b : Bool) : eqO (some b) = some (.sh (.bl b)) := rfl
@[simp] theorem neO_some (b : Bool) : neO (some b) = some (.sh (.bl (!b))) := rfl
@[simp] theorem eq_lst (a : List D) (b : D) : cmpD .Eq [.lst a, b] = eqO (eqD (.lst a) b) := rfl
@[simp] theorem ne_lst (a : List D) (b : D) : cmpD .NotEq [.lst a, b] = neO (eqD (.lst a) b) := rfl
@[simp] theorem eq_tup (a : List D) (b : D) : cmpD .Eq [.tup a, b] = eqO (eqD (.tup a) b) := rfl
@[simp] theorem ne_tup (a : List D) (b : D) : cmpD .NotEq [.tup a, b] = neO (eqD (.tup a) b) := rfl
@[simp] theorem eq_non (b : D) : cmpD .Eq [.non, b] = eqO (eqD .non b) := rfl
@[simp] theorem ne_non (b : D) : cmpD .NotEq [.non, b] = neO (eqD .non b) := rfl
@[simp] theorem eq_strnon (a : List Nat) : cmpD .Eq [.str a, .non] = eqO (eqD (.str a) .non) := rfl
@[simp] theorem ne_strnon (a : List Nat) : cmpD .NotEq [.str a, .non] = neO (eqD (.str a) .non) := rfl
@[simp] theorem lt_int (i j : Int) : cmpD .Lt [.int i, .int j] = some (.sh (.bl (decide (i < j)))) := rfl
@[simp] theorem le_int (i j : Int) : cmpD .LtE [.int i, .int j] = some (.sh (.bl (decide (i ≤ j)))) := rfl
@[simp] theorem gt_int (i j : Int) : cmpD .Gt [.int i, .int j] = some (.sh (.bl (decide (j < i)))) := rfl
@[simp] theorem ge_int (i j : Int) : cmpD .GtE [.int i, .int j] = some (.sh (.bl (decide (j ≤ i)))) := rfl
@[simp] theorem in_str (a b : List Nat) : cmpD .In [.str a, .str b] = some (.sh (.bl (subOf a b))) := rfl
@[simp] theorem nin_str (a b : List Nat) : cmpD .NotIn [.str a, .str b] = some (.sh (.bl (!subOf a b))) := rfl
theorem in_lst {x : D} {ys : List D} (h1 : flatD x = true) (h2 : ys.all flatD = true) : cmpD .In [x, .lst ys] = some (.sh (.bl (inF x ys))) := by
  have : cmpD .In [x, .lst ys] = Eng.iff (flatD x = true ∧ ys.all flatD = true) (some (.sh (.bl (inF x ys)))) := by cases x <;> rfl
  rw [this]; unfold Eng.iff; rw [if_pos ⟨h1, h2⟩]
theorem nin_lst {x : D} {ys : List D} (h1 : flatD x = true) (h2 : ys.all flatD = true) : cmpD .NotIn [x, .lst ys] = some (.sh (.bl (!inF x ys))) := by
  have : cmpD .NotIn [x, .lst ys] = Eng.iff (flatD x = true ∧ ys.all flatD = true) (some (.sh (.bl (!inF x ys)))) := by cases x <;> rfl
  rw [this]; unfold Eng.iff; rw [if_pos ⟨h1, h2⟩]
theorem in_tup {x : D} {ys : List D} (h1 : flatD x = true) (h2 : ys.all flatD = true) : cmpD .In [x, .tup ys] = some (.sh (.bl (inF x ys))) := by
  have : cmpD .In [x, .tup ys] = Eng.iff (flatD x = true ∧ ys.all flatD = true) (some (.sh (.bl (inF x ys)))) := by cases x <;> rfl
  rw [this]; unfold Eng.iff; rw [if_pos ⟨h1, h2⟩]
@[simp] theorem is_bl (a b : Bool) : cmpD .Is [.bl a, .bl b] = some (.sh (.bl (decide (a = b)))) := rfl
@[simp] theorem isnot_bl (a b : Bool) : cmpD .IsNot [.bl a, .bl b] = some (.sh (.bl (!decide (a = b)))) := rfl
@[simp] theorem is_non (a : D) : cmpD .Is [a, .non] = some (.sh (.bl (isN a))) := by cases a <;> rfl
@[simp] theorem isnot_non (a : D) : cmpD .IsNot [a, .non] = some (.sh (.bl (!isN a))) := by cases a <;> rfl
@[simp] theorem blD_bl (b : Bool) : blD (.bl b) = some b := rfl
@[simp] theorem tru_non : truD .non = some false := rfl
@[simp] theorem tru_bl (b : Bool) : truD (.bl b) = some b := rfl
@[simp] theorem tru_int (i : Int) : truD (.int i) = some (i != 0) := rfl
@[simp] theorem tru_str (s : List Nat) : truD (.str s) = if s.length ≤ SZ then some (s.length != 0) else none := by
  show (if s.length ≤ SZ then _ else none) = _
  split
  · congr 1; exact Bool.eq_iff_iff.mpr (by simp)
  · rfl
@[simp] theorem tru_lst (s : List D) : truD (.lst s) = some !s.isEmpty := rfl
@[simp] theorem tru_tup (s : List D) : truD (.tup s) = some !s.isEmpty := rfl
@[simp] theorem ty_non : tyD .non = some "NoneType" := rfl
@[simp] theorem ty_bl (b : Bool) : tyD (.bl b) = some "bool" := rfl
@[simp] theorem ty_int (b : Int) : tyD (.int b) = some "int" := rfl
@[simp] theorem ty_str (b : List Nat) : tyD (.str b) = some "str" := rfl
@[simp] theorem ty_lst (b : List D) : tyD (.lst b) = some "list" := rfl
@[simp] theorem ty_tup (b : List D) : tyD (.tup b) = some "tuple" := rfl
@[simp] theorem it_lst (b : List D) : itemsD (.lst b) = some b := rfl
@[simp] theorem it_tup (b : List D) : itemsD (.tup b) = some b := rfl
@[simp] theorem it_scr (b : List Int) : itemsD (.scr b) = some (b.map .int) := rfl
@[simp] theorem it_str (b : List Nat) : itemsD (.str b) = some (b.map fun c => .str [c]) := rfl
@[simp] theorem enm_lst (ys : List D) : enmD (.lst ys) = some (ys.mapIdx fun i y => .tup [.int i, y]) := rfl
@[simp] theorem enm_str (s : List Nat) : enmD (.str s) = some (s.mapIdx fun i c => .tup [.int i, .str [c]]) := rfl
@[simp] theorem zip_ls (xs : List D) (s : List Nat) : zipD (.lst xs) (.str s) = some (List.zipWith (fun x c => .tup [x, .str [c]]) xs s) := rfl
@[simp] theorem zip_lst (xs ys : List D) : zipD (.lst xs) (.lst ys) = some (List.zipWith (fun x y => .tup [x, y]) xs ys) := rfl
/-- Option.bind and Option.map under names that the kernel need not unfold -/
def _root_.Option.ob {α β : Type} (o : Option α) (f : α → Option β) : Option β := o.bind f
def _root_.Option.om {α β : Type} (o : Option α) (f : α → β) : Option β := o.map f
@[simp] theorem ob_some {α β : Type} (a : α) (f : α → Option β) : (some a).ob f = f a := by unfold Option.ob; exact Option.bind_some ..
@[simp] theorem ob_none {α β : Type} (f : α → Option β) : (none : Option α).ob f = none := by unfold Option.ob; exact Option.bind_none ..
@[simp] theorem om_some {α β : Type} (a : α) (f : α → β) : (some a).om f = some (f a) := by unfold Option.om; exact Option.map_some ..
@[simp] theorem om_none {α β : Type} (f : α → β) : (none : Option α).om f = none := by unfold Option.om; exact Option.map_none ..
/-! ### expressions, form by form -/
section
variable (δ : Dl)
@[simp] theorem ev_var (i : Nat) : ev (.var i) δ = match δ[i]? with | some (some d) => some (.sh d) | _ => none := by unfold ev; rfl
@[simp] theorem ev_cst (d : D) : ev (.cst d) δ = some (.sh d) := by unfold ev; rfl
@[simp] theorem ev_glb (x : Str) (d : D) : ev (.glb x d) δ = some (.sh d) := by unfold ev; rfl
@[simp] theorem ev_bin (op : Operator) (a b : E) : ev (.bin op a b) δ = (ev a δ).ob fun x => (ev b δ).ob fun y => binD op [x.d, y.d] := by
  conv => lhs; unfold ev
  all_goals rfl
@[simp] theorem ev_neg (a : E) : ev (.neg a) δ = (ev a δ).ob fun x => negK x.d := by
  conv => lhs; unfold ev
  all_goals rfl
@[simp] theorem ev_cmp (op : CmpOp) (a b : E) : ev (.cmp op a b) δ = (ev a δ).ob fun x => (ev b δ).ob fun y => cmpD op [x.d, y.d] := by
  conv => lhs; unfold ev
  all_goals rfl
@[simp] theorem ev_chn (o1 o2 : CmpOp) (a b c : E) : ev (.chn o1 o2 a b c) δ = (ev a δ).ob fun x => (ev b δ).ob fun y => (cmpD o1 [x.d, y.d]).ob fun r => (blD r.d).ob fun k => if k then (ev c δ).ob fun z => cmpD o2 [y.d, z.d] else Eng.sc (.bl false) := by
  conv => lhs; unfold ev
  all_goals rfl
def andK (b : E) (δ : Dl) (k : Bool) : Option T := if k then (ev b δ).ob fun y => (blD y.d).ob fun k' => Eng.sc (.bl k') else Eng.sc (.bl false)
def orK (b : E) (δ : Dl) (k : Bool) : Option T := if k then Eng.sc (.bl true) else (ev b δ).ob fun y => (blD y.d).ob fun k' => Eng.sc (.bl k')
@[simp] theorem ev_and (a b : E) : ev (.and a b) δ = (ev a δ).ob fun x => (blD x.d).ob (andK b δ) := by
  conv => lhs; unfold ev
  all_goals rfl
@[simp] theorem ev_or (a b : E) : ev (.or a b) δ = (ev a δ).ob fun x => (blD x.d).ob (orK b δ) := by
  conv => lhs; unfold ev
  all_goals rfl
@[simp] theorem andK_f (b : E) : andK b δ false = some (.sh (.bl false)) := rfl
@[simp] theorem andK_t (b : E) : andK b δ true = (ev b δ).ob fun y => (blD y.d).ob fun k' => Eng.sc (.bl k') := rfl
@[simp] theorem orK_t (b : E) : orK b δ true = some (.sh (.bl true)) := rfl
@[simp] theorem orK_f (b : E) : orK b δ false = (ev b δ).ob fun y => (blD y.d).ob fun k' => Eng.sc (.bl k') := rfl
@[simp] theorem ev_one (a : E) : ev (.one a) δ = ev a δ := by
  conv => lhs; unfold ev
  all_goals rfl
@[simp] theorem ev_not (a : E) : ev (.not a) δ = (ev a δ).ob fun x => (blD x.d).ob fun k => Eng.sc (.bl (!k)) := by
  conv => lhs; unfold ev
  all_goals rfl
def ifK (a b : E) (δ : Dl) (k : Bool) : Option T := if k then ev a δ else ev b δ
@[simp] theorem ev_ife (c a b : E) : ev (.ife c a b) δ = (tst c δ).ob (ifK a b δ) := by
  conv => lhs; unfold ev
  all_goals rfl
@[simp] theorem ifK_t (a b : E) : ifK a b δ true = ev a δ := rfl
@[simp] theorem ifK_f (a b : E) : ifK a b δ false = ev b δ := rfl
@[simp] theorem ev_tup (es : Es) : ev (.tup es) δ = (evs es δ).ob fun ts => if ts.length ≤ SZ then some (.tup ts) else none := by
  conv => lhs; unfold ev
  all_goals rfl
@[simp] theorem ev_lst (es : Es) : ev (.lst es) δ = (evs es δ).ob fun ts => if ts.length ≤ SZ then some (.lst ts) else none := by
  conv => lhs; unfold ev
  all_goals rfl
@[simp] theorem ev_idx (a b : E) : ev (.idx a b) δ = (ev a δ).ob fun x => (ev b δ).ob fun y => idxD [x.d, y.d] := by
  conv => lhs; unfold ev
  all_goals rfl
@[simp] theorem ev_slc (a : E) (lo hi : Eo) : ev (.slc a lo hi) δ = (ev a δ).ob fun x => (evo lo δ).ob fun l => (evo hi δ).ob fun h => slcD l h [x.d] := by
  conv => lhs; unfold ev
  all_goals rfl
@[simp] theorem ev_fld (a : E) (f : Str) (cs : List Str) : ev (.fld a f cs) δ = (ev a δ).ob fun x => fldD f cs x.d := by
  conv => lhs; unfold ev
  all_goals rfl
@[simp] theorem ev_cal (f : Str) (F : List D → Option T) (dds : List D) (es : Es) : ev (.cal f F dds es) δ = (evs es δ).ob fun ts => F (T.ds ts ++ dds) := by
  conv => lhs; unfold ev
  all_goals rfl
@[simp] theorem ev_bi (b : Bi) (es : Es) : ev (.bi b es) δ = (evs es δ).ob fun ts => biD b (T.ds ts) := by
  conv => lhs; unfold ev
  all_goals rfl
@[simp] theorem ev_mth (m : Mt) (a : E) (es : Es) : ev (.mth m a es) δ = (ev a δ).ob fun x => (evs es δ).ob fun ts => mtD m (x.d :: T.ds ts) := by
  conv => lhs; unfold ev
  all_goals rfl
@[simp] theorem ev_isi (a : E) (x : Str) (t : String) : ev (.isi a x t) δ = (ev a δ).ob fun x => (tyD x.d).ob fun s => (kitB s t).ob fun k => Eng.sc (.bl k) := by
  conv => lhs; unfold ev
  all_goals rfl
/-- one turn of a comprehension -/
def lcF (vs : List Nat) (tg : Tg) (c : Eo) (e : E) (δ : Dl) (d : D) : Option (Option T) := (asgD tg d (wipeD δ vs)).ob fun δ' => (tsto c δ').ob fun k => if k then (ev e δ').om some else some none
def lcK (vs : List Nat) (tg : Tg) (c : Eo) (e : E) (δ : Dl) (ds : List D) : Option T := if ds.length ≤ SZ then (lcGo (lcF vs tg c e δ) ds).om .lst else none
@[simp] theorem ev_lc (own : List (Str × Nat)) (tg : Tg) (it : I) (c : Eo) (e : E) : ev (.lc own tg it c e) δ = (evi it δ).ob (lcK (own.map (·.2)) tg c e δ) := by
  conv => lhs; unfold ev
  all_goals rfl
theorem lcK_map {vs : List Nat} {tg : Tg} {c : Eo} {e : E} {α : Type} {g : α → D} {k : α → T} {xs : List α} (hl : xs.length ≤ SZ) (h : ∀ x, x ∈ xs → lcF vs tg c e δ (g x) = some (some (k x))) : lcK vs tg c e δ (xs.map g) = some (.lst (xs.map k)) := by
  have key : ∀ ys : List α, (∀ x, x ∈ ys → lcF vs tg c e δ (g x) = some (some (k x))) → lcGo (lcF vs tg c e δ) (ys.map g) = some (ys.map k) := by
    intro ys
    induction ys with
    | nil => intro _; rfl
    | cons y ys ih => intro h; rw [List.map_cons, lcGo, h y (List.mem_cons_self ..), ih fun z m => h z (List.mem_cons_of_mem _ m)]; rfl
  unfold lcK
  rw [if_pos (by rw [List.length_map]; exact hl), key xs h]; rfl
theorem lcK_filter {vs : List Nat} {tg : Tg} {c : Eo} {e : E} {α : Type} {g : α → D} {k : α → T} {p : α → Bool} {xs : List α} (hl : xs.length ≤ SZ) (h : ∀ x, x ∈ xs → lcF vs tg c e δ (g x) = some (if p x then some (k x) else none)) :
    lcK vs tg c e δ (xs.map g) = some (.lst ((xs.filter p).map k)) := by
  have key : ∀ ys : List α, (∀ x, x ∈ ys → lcF vs tg c e δ (g x) = some (if p x then some (k x) else none)) → lcGo (lcF vs tg c e δ) (ys.map g) = some ((ys.filter p).map k) := by
    intro ys
    induction ys with
    | nil => intro _; rfl
    | cons y ys ih =>
      intro h
      rw [List.map_cons, lcGo, h y (List.mem_cons_self ..), ih fun z m => h z (List.mem_cons_of_mem _ m)]
      cases q : p y <;> simp [q]
  unfold lcK
  rw [if_pos (by rw [List.length_map]; exact hl), key xs h]; rfl
def tandK (b : E) (δ : Dl) (k : Bool) : Option Bool := if k then tst b δ else some false
def torK (b : E) (δ : Dl) (k : Bool) : Option Bool := if k then some true else tst b δ
@[simp] theorem tst_and (a b : E) : tst (.and a b) δ = (tst a δ).ob (tandK b δ) := by
  conv => lhs; unfold tst
  all_goals rfl
@[simp] theorem tst_or (a b : E) : tst (.or a b) δ = (tst a δ).ob (torK b δ) := by
  conv => lhs; unfold tst
  all_goals rfl
@[simp] theorem tandK_t (b : E) : tandK b δ true = tst b δ := rfl
@[simp] theorem tandK_f (b : E) : tandK b δ false = some false := rfl
@[simp] theorem torK_t (b : E) : torK b δ true = some true := rfl
@[simp] theorem torK_f (b : E) : torK b δ false = tst b δ := rfl
@[simp] theorem tst_one (a : E) : tst (.one a) δ = tst a δ := by
  conv => lhs; unfold tst
  all_goals rfl
@[simp] theorem tst_not (a : E) : tst (.not a) δ = (tst a δ).om fun k => !k := by
  conv => lhs; unfold tst
  all_goals rfl
@[simp] theorem tst_cmp (op : CmpOp) (a b : E) : tst (.cmp op a b) δ = (ev a δ).ob fun x => (ev b δ).ob fun y => (cmpD op [x.d, y.d]).ob fun r => blD r.d := by
  conv => lhs; unfold tst
  all_goals rfl
@[simp] theorem tst_chn (o1 o2 : CmpOp) (a b c : E) : tst (.chn o1 o2 a b c) δ = (ev a δ).ob fun x => (ev b δ).ob fun y => (cmpD o1 [x.d, y.d]).ob fun r => (blD r.d).ob fun k => if k then (ev c δ).ob fun z => (cmpD o2 [y.d, z.d]).ob fun r => blD r.d else some false := by
  conv => lhs; unfold tst
  all_goals rfl
@[simp] theorem tst_var (i : Nat) : tst (.var i) δ = match δ[i]? with | some (some d) => truD d | _ => none := by unfold tst; rfl
@[simp] theorem tst_cst (d : D) : tst (.cst d) δ = truD d := by unfold tst; rfl
@[simp] theorem tst_idx (a b : E) : tst (.idx a b) δ = (ev a δ).ob fun x => (ev b δ).ob fun y => (idxD [x.d, y.d]).ob fun r => truD r.d := by
  conv => lhs; unfold tst
  all_goals rfl
@[simp] theorem tst_fld (a : E) (f : Str) (cs : List Str) : tst (.fld a f cs) δ = (ev a δ).ob fun x => (fldD f cs x.d).ob fun r => truD r.d := by
  conv => lhs; unfold tst
  all_goals rfl
@[simp] theorem tst_cal (f : Str) (F : List D → Option T) (dds : List D) (es : Es) : tst (.cal f F dds es) δ = (evs es δ).ob fun ts => (F (T.ds ts ++ dds)).ob fun r => truD r.d := by
  conv => lhs; unfold tst
  all_goals rfl
@[simp] theorem tst_bi (b : Bi) (es : Es) : tst (.bi b es) δ = (evs es δ).ob fun ts => (biD b (T.ds ts)).ob fun r => truD r.d := by
  conv => lhs; unfold tst
  all_goals rfl
@[simp] theorem tst_mth (m : Mt) (a : E) (es : Es) : tst (.mth m a es) δ = (ev a δ).ob fun x => (evs es δ).ob fun ts => (mtD m (x.d :: T.ds ts)).ob fun r => truD r.d := by
  conv => lhs; unfold tst
  all_goals rfl
@[simp] theorem tst_isi (a : E) (x : Str) (t : String) : tst (.isi a x t) δ = (ev a δ).ob fun x => (tyD x.d).ob fun s => kitB s t := by
  conv => lhs; unfold tst
  all_goals rfl
end
section
variable (δ : Dl)
@[simp] theorem evs_nil : evs .nil δ = some [] := by unfold evs; rfl
@[simp] theorem evs_cons (e : E) (es : Es) : evs (.cons e es) δ = (ev e δ).ob fun t => (evs es δ).om fun ts => t :: ts := by
  conv => lhs; unfold evs
  all_goals rfl
def ioK : D → Option (Option Int)
  | .int i => some (some i)
  | _ => none
@[simp] theorem ioK_int (i : Int) : ioK (.int i) = some (some i) := rfl
@[simp] theorem evo_non : evo .non δ = some none := by unfold evo; rfl
@[simp] theorem evo_som (e : E) : evo (.som e) δ = (ev e δ).ob fun t => ioK t.d := by
  conv => lhs; unfold evo
  all_goals rfl
def rgK : D → Option (List D)
  | .int n => rngD 0 n
  | _ => none
def rgK2 : D → D → Option (List D)
  | .int l, .int n => rngD l n
  | _, _ => none
@[simp] theorem rgK_int (n : Int) : rgK (.int n) = rngD 0 n := rfl
@[simp] theorem rgK2_int (l n : Int) : rgK2 (.int l) (.int n) = rngD l n := rfl
@[simp] theorem evi_seq (e : E) : evi (.seq e) δ = (ev e δ).ob fun t => itemsD t.d := by
  conv => lhs; unfold evi
  all_goals rfl
@[simp] theorem evi_rng1 (e : E) : evi (.rng1 e) δ = (ev e δ).ob fun t => rgK t.d := by
  conv => lhs; unfold evi
  all_goals rfl
@[simp] theorem evi_rng2 (a b : E) : evi (.rng2 a b) δ = (ev a δ).ob fun t => (ev b δ).ob fun u => rgK2 t.d u.d := by
  conv => lhs; unfold evi
  all_goals rfl
@[simp] theorem rgdK_m1 (l n : Int) : rgdK (.int l) (.int n) (.int (-1)) = rgdD l n := rfl
@[simp] theorem evi_rngd (a b c : E) : evi (.rngd a b c) δ = (ev a δ).ob fun t => (ev b δ).ob fun u => (ev c δ).ob fun v => rgdK t.d u.d v.d := by
  conv => lhs; unfold evi
  all_goals rfl
@[simp] theorem evi_enm (e : E) : evi (.enm e) δ = (ev e δ).ob fun t => enmD t.d := by
  conv => lhs; unfold evi
  all_goals rfl
@[simp] theorem evi_zip (a b : E) : evi (.zip a b) δ = (ev a δ).ob fun t => (ev b δ).ob fun u => zipD t.d u.d := by
  conv => lhs; unfold evi
  all_goals rfl
end
def stK (s : Bool) (t : T) : Option T := if s then some t.nf else if noL t.d then some (.sh t.d) else none
@[simp] theorem stK_t (t : T) : stK true t = some t.nf := rfl
@[simp] theorem stK_f (t : T) : stK false t = if noL t.d then some (.sh t.d) else none := rfl
@[simp] theorem stT_eq (e : E) (ρ : Rho) : stT e ρ = (ev e (dl ρ)).ob (stK (sal (avs e) (ow ρ))) := by
  conv => lhs; unfold stT
  all_goals rfl
/-! ### statements, form by form -/
section
variable (n : Nat) (ρ : Rho)
/-- what follows a statement -/
def cont (n : Nat) (ss : Ss) : Out → Option Out
  | .nx ρ' => exs n ss ρ'
  | .rt t => some (.rt t)
  | .bk ρ' => some (.bk ρ')
  | .ct ρ' => some (.ct ρ')
def iteK (n : Nat) (a b : Ss) (ρ : Rho) (k : Bool) : Option Out := if k then exs n a ρ else exs n b ρ
def forK (n : Nat) (tg : Tg) (b : Ss) (ρ : Rho) (s : Bool) (ds : List D) : Option Out := if s then forGo (asgR tg) (exs n b) ds ρ else none
@[simp] theorem exs_nil : exs n .nil ρ = some (.nx ρ) := by unfold exs; rfl
@[simp] theorem exs_frz (i : Nat) (ss : Ss) : exs n (.frz i ss) ρ = exs n ss (frz1 i ρ) := by
  conv => lhs; unfold exs
  all_goals rfl
@[simp] theorem exs_cons (s : S) (ss : Ss) : exs n (.cons s ss) ρ = (ex n s ρ).ob (cont n ss) := by
  conv => lhs; unfold exs
  cases h : ex n s ρ with
  | none => rfl
  | some o => cases o <;> rfl
@[simp] theorem cont_nx (ss : Ss) : cont n ss (.nx ρ) = exs n ss ρ := rfl
@[simp] theorem cont_rt (ss : Ss) (t : T) : cont n ss (.rt t) = some (.rt t) := rfl
@[simp] theorem cont_bk (ss : Ss) : cont n ss (.bk ρ) = some (.bk ρ) := rfl
@[simp] theorem cont_ct (ss : Ss) : cont n ss (.ct ρ) = some (.ct ρ) := rfl
@[simp] theorem ex_ite (c : E) (a b : Ss) : ex n (.ite c a b) ρ = (tst c (dl ρ)).ob (iteK n a b ρ) := by
  conv => lhs; unfold ex
  all_goals rfl
@[simp] theorem iteK_t (a b : Ss) : iteK n a b ρ true = exs n a ρ := rfl
@[simp] theorem iteK_f (a b : Ss) : iteK n a b ρ false = exs n b ρ := rfl
@[simp] theorem ex_set (i : Nat) (e : E) : ex n (.set i e) ρ = (stT e ρ).om fun t => .nx (ρ.set i (some t)) := by
  conv => lhs; unfold ex
  all_goals rfl
@[simp] theorem ex_setL (i : Nat) (e : E) : ex n (.setL i e) ρ = (stT e ρ).om fun t => .nx (ρ.set i (some t)) := by
  conv => lhs; unfold ex
  all_goals rfl
@[simp] theorem ex_setT (is : List Nat) (e : E) : ex n (.setT is e) ρ = (ev e (dl ρ)).ob fun t => if sal (avs e) (ow ρ) || noL t.d then (asgR (.tp is) t.d ρ).om .nx else none := by
  conv => lhs; unfold ex
  all_goals rfl
def augK (op : Operator) (e : E) (i : Nat) (ρ : Rho) : Option (Option D) → Option Out
  | some (some d) => (ev e (dl ρ)).ob fun t => (augD op [d, t.d]).om fun u => .nx (ρ.set i (some (.sh u.d)))
  | _ => none
@[simp] theorem augK_some (op : Operator) (e : E) (i : Nat) (d : D) : augK op e i ρ (some (some d)) = (ev e (dl ρ)).ob fun t => (augD op [d, t.d]).om fun u => .nx (ρ.set i (some (.sh u.d))) := rfl
@[simp] theorem ex_aug (i : Nat) (op : Operator) (e : E) : ex n (.aug i op e) ρ = augK op e i ρ (dl ρ)[i]? := by
  conv => lhs; unfold ex
  all_goals rfl
def sxK (ρ : Rho) (i : Nat) (ts : List T) (t : T) : D → Option Out
  | .int j => (ixN ts.length j).ob fun m => if t.own then none else some (.nx (ρ.set i (some (.lst (ts.set m t)))))
  | _ => none
@[simp] theorem sxK_int (i : Nat) (ts : List T) (t : T) (j : Int) : sxK ρ i ts t (.int j) = (ixN ts.length j).ob fun m => if t.own then none else some (.nx (ρ.set i (some (.lst (ts.set m t))))) := rfl
@[simp] theorem ex_app (i : Nat) (e : E) : ex n (.app i e) ρ = (lstAt ρ i).ob fun ts => (stT e ρ).ob fun t => if ts.length < SZ then some (.nx (ρ.set i (some (.lst (ts ++ [t]))))) else none := by
  conv => lhs; unfold ex
  all_goals rfl
@[simp] theorem ex_setX (i : Nat) (k e : E) : ex n (.setX i k e) ρ = (lstAt ρ i).ob fun ts => (stT e ρ).ob fun t => (ev k (dl ρ)).ob fun x => sxK ρ i ts t x.d := by
  conv => lhs; unfold ex
  all_goals rfl
@[simp] theorem ex_pop (i : Nat) : ex n (.pop i) ρ = (lstAt ρ i).ob fun ts => match ts.getLast? with | some t => if t.own then none else some (.nx (ρ.set i (some (.lst ts.dropLast)))) | none => none := by
  conv => lhs; unfold ex
  all_goals rfl
@[simp] theorem ex_ret (e : E) : ex n (.ret e) ρ = (ev e (dl ρ)).om .rt := by
  conv => lhs; unfold ex
  all_goals rfl
@[simp] theorem ex_retO (i : Nat) : ex n (.retO i) ρ = match ρ[i]? with | some (some t) => some (.rt t) | _ => none := by
  conv => lhs; unfold ex
  all_goals rfl
@[simp] theorem ex_retN : ex n .retN ρ = some (.rt (.sh .non)) := by unfold ex; rfl
@[simp] theorem ex_retT (es : Es) : ex n (.retT es) ρ = if (mvs es).Nodup then (evM es ρ).ob fun ts => if ts.length ≤ SZ then some (.rt (T.tup ts).nf) else none else none := by
  conv => lhs; unfold ex
  all_goals rfl
@[simp] theorem ex_poke (i j : Nat) (e : E) : ex n (.poke i j e) ρ = (tupAt ρ i j).ob fun us => (stT e ρ).ob fun t => if us.length < SZ ∧ T.owns us = false ∧ t.own = false then some (.nx (tupPut ρ i j (us ++ [t]))) else none := by
  conv => lhs; unfold ex
  all_goals rfl
@[simp] theorem ex_pokeR (i j : Nat) : ex n (.pokeR i j) ρ = (tupAt ρ i j).ob fun us => if T.owns us = false then some (.nx (tupPut ρ i j us.reverse)) else none := by
  conv => lhs; unfold ex
  all_goals rfl
@[simp] theorem ex_exp (e : E) : ex n (.exp e) ρ = (ev e (dl ρ)).om fun _ => .nx ρ := by
  conv => lhs; unfold ex
  all_goals rfl
@[simp] theorem ex_for (tg : Tg) (it : I) (b : Ss) : ex n (.for tg it b) ρ = (evi it (dl ρ)).ob (forK n tg b ρ (sal (avi it) (ow ρ))) := by
  conv => lhs; unfold ex
  all_goals rfl
@[simp] theorem forK_t (tg : Tg) (b : Ss) (ds : List D) : forK n tg b ρ true ds = forGo (asgR tg) (exs n b) ds ρ := rfl
@[simp] theorem ex_whl (c : E) (b : Ss) : ex n (.whl c b) ρ = whlGo (fun ρ => tst c (dl ρ)) (exs n b) n ρ := by
  conv => lhs; unfold ex
  all_goals rfl
@[simp] theorem ex_brk : ex n .brk ρ = some (.bk ρ) := by unfold ex; rfl
@[simp] theorem ex_cnt : ex n .cnt ρ = some (.ct ρ) := by unfold ex; rfl
@[simp] theorem ex_pas : ex n .pas ρ = some (.nx ρ) := by unfold ex; rfl
end
@[simp] theorem SZ_eq : SZ = 16777216 := rfl
theorem runD_rt {n : Nat} {N : List Str} {b : Ss} {ds : List D} {t : T} (h : exs n b (ds.map (fun d => some (.sh d)) ++ List.replicate (N.length - ds.length) none) = some (.rt t)) : runD n N b ds = some t := by unfold runD; rw [h]
/-! ### built-ins, methods, by data -/
@[simp] theorem bi_len_str (s : List Nat) : biD .len [.str s] = if s.length ≤ SZ then some (.sh (.int s.length)) else none := rfl
@[simp] theorem bi_len_lst (s : List D) : biD .len [.lst s] = some (.sh (.int s.length)) := rfl
@[simp] theorem bi_len_tup (s : List D) : biD .len [.tup s] = some (.sh (.int s.length)) := rfl
@[simp] theorem bi_len_scr (s : List Int) : biD .len [.scr s] = some (.sh (.int s.length)) := rfl
@[simp] theorem bi_int_bl (b : Bool) : biD .int [.bl b] = some (.sh (.int (if b then 1 else 0))) := rfl
@[simp] theorem bi_int_int (i : Int) : biD .int [.int i] = some (.sh (.int i)) := rfl
@[simp] theorem bi_list_lst (s : List D) : biD .list [.lst s] = some (.lst (s.map .sh)) := rfl
@[simp] theorem bi_list_tup (s : List D) : biD .list [.tup s] = some (.lst (s.map .sh)) := rfl
@[simp] theorem bi_tuple_lst (s : List D) : biD .tuple [.lst s] = some (.sh (.tup s)) := rfl
@[simp] theorem bi_all (s : List D) : biD .all [.lst s] = (blsOf s).map fun ns => .sh (.bl (ns.all id)) := rfl
@[simp] theorem bi_any (s : List D) : biD .any [.lst s] = (blsOf s).map fun ns => .sh (.bl (ns.any id)) := rfl
@[simp] theorem bi_sum (s : List D) : biD .sum [.lst s] = (intsOf s).map fun ns => .sh (.int ns.sum) := rfl
@[simp] theorem bi_max (i j : Int) : biD .max [.int i, .int j] = some (.sh (.int (if j > i then j else i))) := rfl
@[simp] theorem bi_min (i j : Int) : biD .min [.int i, .int j] = some (.sh (.int (if j < i then j else i))) := rfl
@[simp] theorem bi_abs (i : Int) : biD .abs [.int i] = some (.sh (.int (if i < 0 then -i else i))) := rfl
@[simp] theorem mt_split (a b : List Nat) : mtD .split [.str a, .str b] = if b ≠ [] ∧ b.all (· < 256) = true ∧ a.length + 2 ≤ SZ then some (.lst (((splitD a b).map D.str).map .sh)) else none := rfl
@[simp] theorem mt_join (a : List Nat) (ss : List (List Nat)) : mtD .join [.str a, .lst (ss.map .str)] = if (ss.map List.length).sum + ss.length * a.length ≤ SZ then some (.sh (.str (TL.joinL a ss))) else none := by
  show (match strEq (ss.map .str) with | some ss => iff ((ss.map List.length).sum + ss.length * a.length ≤ SZ) (Eng.sc (.str (TL.joinL a ss))) | none => none) = _
  rw [strEq_map]; rfl
@[simp] theorem mt_join0 (a : List Nat) : mtD .join [.str a, .lst []] = some (.sh (.str [])) := (mt_join a []).trans (by simp [TL.joinL])
@[simp] theorem mt_join1 (a b : List Nat) : mtD .join [.str a, .lst [.str b]] = if b.length + a.length ≤ SZ then some (.sh (.str b)) else none := (mt_join a [b]).trans (by simp [TL.joinL])
@[simp] theorem mt_startswith (a b : List Nat) : mtD .startswith [.str a, .str b] = some (.sh (.bl (Txt.startswith (st a) (st b)))) := rfl
@[simp] theorem mt_endswith (a b : List Nat) : mtD .endswith [.str a, .str b] = some (.sh (.bl (Txt.endswith (st a) (st b)))) := rfl
@[simp] theorem mt_find (a b : List Nat) : mtD .find [.str a, .str b] = some (.sh (.int (Txt.find (st a) (st b)))) := rfl
@[simp] theorem mt_find3 (a b : List Nat) (i : Int) : mtD .find3 [.str a, .str b, .int i] = some (.sh (.int (Txt.find3 (st a) (st b) i))) := rfl
@[simp] theorem mt_strip (a b : List Nat) : mtD .strip [.str a, .str b] = if a.length ≤ SZ then some (.sh (txt (Txt.stripChars (st a) (st b)))) else none := rfl
@[simp] theorem mt_partition (a b : List Nat) : mtD .partition [.str a, .str b] = if b ≠ [] ∧ a.length ≤ SZ then some (.sh (.tup [.str (partD a b).1, .str (partD a b).2.1, .str (partD a b).2.2])) else none := rfl
@[simp] theorem idx_lst (ys : List D) (i : Int) : idxD [.lst ys, .int i] = (atI ys i).map .sh := rfl
@[simp] theorem idx_tup (ys : List D) (i : Int) : idxD [.tup ys, .int i] = (atI ys i).map .sh := rfl
@[simp] theorem idx_scr (ys : List Int) (i : Int) : idxD [.scr ys, .int i] = (atI ys i).map fun n => .sh (.int n) := rfl
@[simp] theorem idx_str (ys : List Nat) (i : Int) : idxD [.str ys, .int i] = if ys.length ≤ SZ then (atI ys i).map fun c => .sh (.str [c]) else none := rfl
@[simp] theorem slc_lst (ys : List D) (l h : Option Int) : slcD l h [.lst ys] = some (.lst ((cutL ys l h).map .sh)) := rfl
@[simp] theorem slc_scr (ys : List Int) (l h : Option Int) : slcD l h [.scr ys] = some (.lst (((cutL ys l h).map D.int).map .sh)) := rfl
@[simp] theorem slc_str (ys : List Nat) (l h : Option Int) : slcD l h [.str ys] = if ys.length ≤ SZ then some (.sh (.str (cutL ys l h))) else none := rfl
@[simp] theorem ds_sh (xs : List D) : T.ds (xs.map .sh) = xs := T.ds_sh xs
@[simp] theorem ds_shs {α : Type} (f : α → D) (xs : List α) : T.ds (xs.map (T.sh ∘ f)) = xs.map f := by rw [← List.map_map]; exact T.ds_sh _
@[simp] theorem ds_shf {α : Type} (f : α → D) (xs : List α) : T.ds (xs.map fun x => T.sh (f x)) = xs.map f := ds_shs f xs
@[simp] theorem mt_join_map {α : Type} (a : List Nat) (f : α → List Nat) (xs : List α) : mtD .join [.str a, .lst (xs.map fun x => D.str (f x))] = if ((xs.map f).map List.length).sum + (xs.map f).length * a.length ≤ SZ then some (.sh (.str (TL.joinL a (xs.map f)))) else none := by
  have := mt_join a (xs.map f)
  rwa [List.map_map] at this
@[simp] theorem owns_sh {α : Type} (f : α → D) (xs : List α) : T.owns (xs.map (T.sh ∘ f)) = false := by
  induction xs with
  | nil => rfl
  | cons x xs ih => rw [List.map_cons, T.owns, ih]; rfl
@[simp] theorem owns_shf {α : Type} (f : α → D) (xs : List α) : T.owns (xs.map fun x => T.sh (f x)) = false := owns_sh f xs
@[simp] theorem bls_map {α : Type} (f : α → Bool) : ∀ xs : List α, blsOf (xs.map fun x => D.bl (f x)) = some (xs.map f)
  | [] => rfl
  | x :: xs => by rw [List.map_cons, blsOf, bls_map f xs]; rfl
@[simp] theorem ints_map {α : Type} (f : α → Int) : ∀ xs : List α, intsOf (xs.map fun x => D.int (f x)) = some (xs.map f)
  | [] => rfl
  | x :: xs => by rw [List.map_cons, intsOf, ints_map f xs]; rfl
@[simp] theorem ints_map0 (xs : List Int) : intsOf (xs.map D.int) = some xs := (ints_map id xs).trans (by simp)
/-! ### == -/
@[simp] theorem kit_NoneType_int : kitB "NoneType" "int" = some false := by decide +kernel
@[simp] theorem kit_NoneType_str : kitB "NoneType" "str" = some false := by decide +kernel
@[simp] theorem kit_NoneType_list : kitB "NoneType" "list" = some false := by decide +kernel
@[simp] theorem kit_NoneType_tuple : kitB "NoneType" "tuple" = some false := by decide +kernel
@[simp] theorem kit_NoneType_bool : kitB "NoneType" "bool" = some false := by decide +kernel
@[simp] theorem kit_NoneType_dict : kitB "NoneType" "dict" = some false := by decide +kernel
@[simp] theorem kit_bool_int : kitB "bool" "int" = some true := by decide +kernel
@[simp] theorem kit_bool_str : kitB "bool" "str" = some false := by decide +kernel
@[simp] theorem kit_bool_list : kitB "bool" "list" = some false := by decide +kernel
@[simp] theorem kit_bool_tuple : kitB "bool" "tuple" = some false := by decide +kernel
@[simp] theorem kit_bool_bool : kitB "bool" "bool" = some true := by decide +kernel
@[simp] theorem kit_bool_dict : kitB "bool" "dict" = some false := by decide +kernel
@[simp] theorem kit_int_int : kitB "int" "int" = some true := by decide +kernel
@[simp] theorem kit_int_str : kitB "int" "str" = some false := by decide +kernel
@[simp] theorem kit_int_list : kitB "int" "list" = some false := by decide +kernel
@[simp] theorem kit_int_tuple : kitB "int" "tuple" = some false := by decide +kernel
@[simp] theorem kit_int_bool : kitB "int" "bool" = some false := by decide +kernel
@[simp] theorem kit_int_dict : kitB "int" "dict" = some false := by decide +kernel
@[simp] theorem kit_str_int : kitB "str" "int" = some false := by decide +kernel
@[simp] theorem kit_str_str : kitB "str" "str" = some true := by decide +kernel
@[simp] theorem kit_str_list : kitB "str" "list" = some false := by decide +kernel
@[simp] theorem kit_str_tuple : kitB "str" "tuple" = some false := by decide +kernel
@[simp] theorem kit_str_bool : kitB "str" "bool" = some false := by decide +kernel
@[simp] theorem kit_str_dict : kitB "str" "dict" = some false := by decide +kernel
@[simp] theorem kit_list_int : kitB "list" "int" = some false := by decide +kernel
@[simp] theorem kit_list_str : kitB "list" "str" = some false := by decide +kernel
@[simp] theorem kit_list_list : kitB "list" "list" = some true := by decide +kernel
@[simp] theorem kit_list_tuple : kitB "list" "tuple" = some false := by decide +kernel
@[simp] theorem kit_list_bool : kitB "list" "bool" = some false := by decide +kernel
@[simp] theorem kit_list_dict : kitB "list" "dict" = some false := by decide +kernel
@[simp] theorem kit_tuple_int : kitB "tuple" "int" = some false := by decide +kernel
@[simp] theorem kit_tuple_str : kitB "tuple" "str" = some false := by decide +kernel
@[simp] theorem kit_tuple_list : kitB "tuple" "list" = some false := by decide +kernel
@[simp] theorem kit_tuple_tuple : kitB "tuple" "tuple" = some true := by decide +kernel
@[simp] theorem kit_tuple_bool : kitB "tuple" "bool" = some false := by decide +kernel
@[simp] theorem kit_tuple_dict : kitB "tuple" "dict" = some false := by decide +kernel
@[simp] theorem kit_dict_int : kitB "dict" "int" = some false := by decide +kernel
@[simp] theorem kit_dict_str : kitB "dict" "str" = some false := by decide +kernel
@[simp] theorem kit_dict_list : kitB "dict" "list" = some false := by decide +kernel
@[simp] theorem kit_dict_tuple : kitB "dict" "tuple" = some false := by decide +kernel
@[simp] theorem kit_dict_bool : kitB "dict" "bool" = some false := by decide +kernel
@[simp] theorem kit_dict_dict : kitB "dict" "dict" = some true := by decide +kernel
theorem atI_some {α : Type} {xs : List α} {i : Int} {x : α} (h0 : 0 ≤ i) (h : xs[i.toNat]? = some x) : atI xs i = some x := by
  have hl := (List.getElem?_eq_some_iff.mp h).1
  unfold atI ixN
  rw [if_pos h0, if_pos (by omega)]
  exact h
@[simp] theorem atI_c0 {α : Type} (a : α) (xs : List α) : atI (a :: xs) 0 = some a := atI_some (by decide) rfl
@[simp] theorem atI_c1 {α : Type} (a b : α) (xs : List α) : atI (a :: b :: xs) 1 = some b := atI_some (by decide) rfl
@[simp] theorem atI_c2 {α : Type} (a b c : α) (xs : List α) : atI (a :: b :: c :: xs) 2 = some c := atI_some (by decide) rfl
@[simp] theorem atI_c3 {α : Type} (a b c d : α) (xs : List α) : atI (a :: b :: c :: d :: xs) 3 = some d := atI_some (by decide) rfl
theorem sum_ones {α : Type} : ∀ l : List α, (l.map fun _ => 1).sum = l.length
  | [] => rfl
  | _ :: l => by rw [List.map_cons, List.sum_cons, sum_ones l, List.length_cons]; omega
/-! ### loops by a word -/
theorem forGo_inv {asg : D → Rho → Option Rho} {body : Rho → Option Out} (P : Nat → Rho → Prop) : ∀ {ds : List D} {ρ : Rho} (k : Nat), P k ρ →
    (∀ i d ρ, ds[i]? = some d → P (k + i) ρ → ∃ ρ1 ρ2, asg d ρ = some ρ1 ∧ (body ρ1 = some (.nx ρ2) ∨ body ρ1 = some (.ct ρ2)) ∧ P (k + i + 1) ρ2) → ∃ ρ', forGo asg body ds ρ = some (.nx ρ') ∧ P (k + ds.length) ρ'
  | [], ρ, k, h0, hs => ⟨ρ, rfl, h0⟩
  | d :: ds, ρ, k, h0, hs => by
    obtain ⟨ρ1, ρ2, h1, h2, h3⟩ := hs 0 d ρ rfl h0
    obtain ⟨ρ', h4, h5⟩ := forGo_inv P (ds := ds) (ρ := ρ2) (k + 1) h3 fun i e ρ he hp => by
      have := hs (i + 1) e ρ he (by rw [show k + (i + 1) = k + 1 + i by omega]; exact hp)
      rwa [show k + (i + 1) + 1 = k + 1 + i + 1 by omega] at this
    refine ⟨ρ', ?_, by rw [List.length_cons, show k + (ds.length + 1) = k + 1 + ds.length by omega]; exact h5⟩
    unfold forGo
    rw [h1]
    rcases h2 with h2 | h2
    · show ((body ρ1).bind _) = _
      rw [h2]; exact h4
    · show ((body ρ1).bind _) = _
      rw [h2]; exact h4
/-! ### defs -/
theorem FnOk.call {P : Program} {w : World} {C : Cfg} {base : Heap} {N : List Str} {k j : Nat} {f : Str} {fa : Addr} {fd : FuncData} {ps : List Str} {F : List D → Option T} (G : FnOk P w C.K C.mg base CX0 j fa fd ps (pureSp C F)) (hj : j ≤ k)
    (hm : C.mg f = some (.ref fa)) (kp : PySem.W.keepIn C.K (.ref fa) = true) (b : Binds C.K fd ps []) : CallOk ⟨P, w, C, base, N, k⟩ f F [] :=
  ⟨fa, fd, ps, [], [], hm, kp, G.mono hj, b, .nil, fun _ => .nil⟩
theorem FnOk.callD {P : Program} {w : World} {C : Cfg} {base : Heap} {N : List Str} {k j : Nat} {f : Str} {fa : Addr} {fd : FuncData} {ps : List Str} {F : List D → Option T} {dvs : List V} {dds : List D} (G : FnOk P w C.K C.mg base CX0 j fa fd ps (pureSp C F)) (hj : j ≤ k)
    (hm : C.mg f = some (.ref fa)) (kp : PySem.W.keepIn C.K (.ref fa) = true) (b : ∃ ds, Vals dvs ds ∧ Binds C.K fd ps ds) (hd : ∀ H, Dats C H dvs dds) : CallOk ⟨P, w, C, base, N, k⟩ f F dds := by
  obtain ⟨ds, h1, h2⟩ := b
  exact ⟨fa, fd, ps, dvs, ds, hm, kp, G.mono hj, h2, h1, hd⟩
end Eng
/-! Eng R: == of data by kinds, defs as runs of their words, the rule for a def with defaults. -/
namespace Eng
open PySem L2
/-! ### a def reckons what its words reckon -/
def runF (m n : Nat) (N : List Str) (b : Ss) (ds : List D) : Option T := if ds.length = m then runD n N b ds else none
theorem runF_h {m n : Nat} {N : List Str} {b : Ss} {ds : List D} {t : T} (h : runF m n N b ds = some t) : ds.length = m ∧ ∃ n, runD n N b ds = some t := by
  unfold runF at h
  split at h
  · rename_i e; exact ⟨e, n, h⟩
  · cases h
theorem runF_rt {m n : Nat} {N : List Str} {b : Ss} {ds : List D} {t : T} (hl : ds.length = m) (h : exs n b (ds.map (fun d => some (.sh d)) ++ List.replicate (N.length - ds.length) none) = some (.rt t)) : runF m n N b ds = some t := by
  unfold runF; rw [if_pos hl]; exact runD_rt h
theorem runF_nx {m n : Nat} {N : List Str} {b : Ss} {ds : List D} {ρ : Rho} (hl : ds.length = m) (h : exs n b (ds.map (fun d => some (.sh d)) ++ List.replicate (N.length - ds.length) none) = some (.nx ρ)) : runF m n N b ds = some (.sh .non) := by
  unfold runF runD; rw [if_pos hl, h]
/-! ### == -/
structure EqIs (a b : D) (r : Bool) (n : Nat) : Prop where
  ex : ∃ p q, toPy a = some p ∧ toPy b = some q ∧ p.canLay0 = true ∧ q.canLay0 = true ∧ p.depth ≤ n ∧ q.depth ≤ n ∧ PyData.eqv p q = r
theorem EqIs.eqD {a b : D} {r : Bool} {n : Nat} (h : EqIs a b r n) (hn : n ≤ 64 := by decide) : Eng.eqD a b = some r := by
  obtain ⟨p, q, h1, h2, h3, h4, h5, h6, h7⟩ := h.ex
  unfold Eng.eqD
  rw [h1, h2]
  show (if SeqAt.shaped p = true ∧ SeqAt.shaped q = true then some (PyData.eqv p q) else none) = _
  rw [if_pos, h7]
  unfold SeqAt.shaped
  exact ⟨by rw [h3]; exact decide_eq_true (by omega), by rw [h4]; exact decide_eq_true (by omega)⟩
theorem EqIs.mono {a b : D} {r : Bool} {n m : Nat} (h : EqIs a b r n) (hn : n ≤ m) : EqIs a b r m := by
  obtain ⟨p, q, h1, h2, h3, h4, h5, h6, h7⟩ := h.ex
  exact ⟨p, q, h1, h2, h3, h4, by omega, by omega, h7⟩
/-- all codes are signs' -/
def okT (s : List Nat) : Prop := ∀ c, c ∈ s → c < 1114112
instance (s : List Nat) : Decidable (okT s) := by unfold okT; infer_instance
@[simp] theorem okT_nil : okT [] := fun c m => by cases m
@[simp] theorem okT_cons (c : Nat) (s : List Nat) : okT (c :: s) ↔ c < 1114112 ∧ okT s := by unfold okT; simp
@[simp] theorem okT_append (s t : List Nat) : okT (s ++ t) ↔ okT s ∧ okT t := by
  unfold okT
  simp only [List.mem_append]
  exact ⟨fun h => ⟨fun c m => h c (.inl m), fun c m => h c (.inr m)⟩, fun h c m => m.elim (h.1 c) (h.2 c)⟩
theorem okT_strOk {s : List Nat} (h : okT s) : PySem.PyData.strOk (st s) = true := by
  unfold PySem.PyData.strOk
  have : (st s).cps = s.toArray := rfl
  rw [this]
  simpa [okT] using h
theorem eqIs_str {s t : List Nat} (hs : okT s) (ht : okT t) : EqIs (.str s) (.str t) (decide (s = t)) 0 := by
  refine ⟨_, _, rfl, rfl, ?_, ?_, ?_, ?_, ?_⟩
  · unfold PyData.canLay0; exact okT_strOk hs
  · unfold PyData.canLay0; exact okT_strOk ht
  · unfold PyData.depth; exact Nat.le_refl _
  · unfold PyData.depth; exact Nat.le_refl _
  · unfold PyData.eqv; rw [beq_st]; exact Bool.eq_iff_iff.mpr (by simp)
theorem eqIs_int (i j : Int) : EqIs (.int i) (.int j) (decide (i = j)) 0 :=
  ⟨_, _, rfl, rfl, by simp [PyData.canLay0], by simp [PyData.canLay0], by simp [PyData.depth], by simp [PyData.depth], by unfold PyData.eqv; exact Bool.eq_iff_iff.mpr (by simp)⟩
theorem eqIs_bl (i j : Bool) : EqIs (.bl i) (.bl j) (i == j) 0 :=
  ⟨_, _, rfl, rfl, by simp [PyData.canLay0], by simp [PyData.canLay0], by simp [PyData.depth], by simp [PyData.depth], by unfold PyData.eqv; rfl⟩
theorem eqIs_non : EqIs .non .non true 0 :=
  ⟨_, _, rfl, rfl, by simp [PyData.canLay0], by simp [PyData.canLay0], by simp [PyData.depth], by simp [PyData.depth], by unfold PyData.eqv; rfl⟩
/-- none of one kind is one of another -/
theorem eqIs_non_str {t : List Nat} (ht : okT t) : EqIs .non (.str t) false 0 :=
  ⟨_, _, rfl, rfl, by simp [PyData.canLay0], by unfold PyData.canLay0; exact okT_strOk ht, by simp [PyData.depth], by simp [PyData.depth], by unfold PyData.eqv; rfl⟩
/-- lists against each other, cell by cell -/
inductive EqAll : List D → List D → Bool → Nat → Prop
  | nil {n : Nat} : EqAll [] [] true n
  | cons {a b : D} {as bs : List D} {r r' : Bool} {n : Nat} : EqIs a b r n → EqAll as bs r' n → EqAll (a :: as) (b :: bs) (r && r') n
  | left {a b : D} {as : List D} {n : Nat} {r r' : Bool} {cs : List D} : EqIs a b r n → EqAll as cs r' n → EqAll (a :: as) [] false n
  | right {a b : D} {as : List D} {n : Nat} {r r' : Bool} {cs : List D} : EqIs a b r n → EqAll as cs r' n → EqAll [] (a :: as) false n
theorem EqAll.ex {as bs : List D} {r : Bool} {n : Nat} (h : EqAll as bs r n) : ∃ p q, toPys as = some p ∧ toPys bs = some q ∧ PyData.canLayAll0 p = true ∧ PyData.canLayAll0 q = true ∧ PyData.depthAll p ≤ n ∧ PyData.depthAll q ≤ n ∧ PyData.eqvAll p q = r := by
  induction h with
  | nil => exact ⟨[], [], rfl, rfl, rfl, rfl, by simp [PyData.depthAll], by simp [PyData.depthAll], by simp [PyData.eqvAll]⟩
  | cons h _ ih =>
    obtain ⟨p, q, h1, h2, h3, h4, h5, h6, h7⟩ := h.ex
    obtain ⟨ps, qs, i1, i2, i3, i4, i5, i6, i7⟩ := ih
    exact ⟨p :: ps, q :: qs, by simp [toPys, h1, i1], by simp [toPys, h2, i2], by simp [PyData.canLayAll0, h3, i3], by simp [PyData.canLayAll0, h4, i4], by simp [PyData.depthAll]; omega, by simp [PyData.depthAll]; omega, by simp [PyData.eqvAll, h7, i7]⟩
  | left h _ ih =>
    obtain ⟨p, q, h1, h2, h3, h4, h5, h6, h7⟩ := h.ex
    obtain ⟨ps, qs, i1, i2, i3, i4, i5, i6, i7⟩ := ih
    exact ⟨p :: ps, [], by simp [toPys, h1, i1], rfl, by simp [PyData.canLayAll0, h3, i3], rfl, by simp [PyData.depthAll]; omega, by simp [PyData.depthAll], by simp [PyData.eqvAll]⟩
  | right h _ ih =>
    obtain ⟨p, q, h1, h2, h3, h4, h5, h6, h7⟩ := h.ex
    obtain ⟨ps, qs, i1, i2, i3, i4, i5, i6, i7⟩ := ih
    exact ⟨[], p :: ps, rfl, by simp [toPys, h1, i1], rfl, by simp [PyData.canLayAll0, h3, i3], by simp [PyData.depthAll], by simp [PyData.depthAll]; omega, by simp [PyData.eqvAll]⟩
theorem EqAll.lst {as bs : List D} {r : Bool} {n : Nat} (h : EqAll as bs r n) : EqIs (.lst as) (.lst bs) r (n + 1) := by
  obtain ⟨p, q, h1, h2, h3, h4, h5, h6, h7⟩ := h.ex
  exact ⟨_, _, by unfold toPy; rw [h1]; rfl, by unfold toPy; rw [h2]; rfl, by unfold PyData.canLay0; exact h3, by unfold PyData.canLay0; exact h4, by unfold PyData.depth; omega, by unfold PyData.depth; omega, by unfold PyData.eqv; exact h7⟩
theorem EqAll.tup {as bs : List D} {r : Bool} {n : Nat} (h : EqAll as bs r n) : EqIs (.tup as) (.tup bs) r (n + 1) := by
  obtain ⟨p, q, h1, h2, h3, h4, h5, h6, h7⟩ := h.ex
  exact ⟨_, _, by unfold toPy; rw [h1]; rfl, by unfold toPy; rw [h2]; rfl, by unfold PyData.canLay0; exact h3, by unfold PyData.canLay0; exact h4, by unfold PyData.depth; omega, by unfold PyData.depth; omega, by unfold PyData.eqv; exact h7⟩
/-- words for a kind of data: == tells them apart -/
structure Enc {α : Type} [DecidableEq α] (f : α → D) (ok : α → Prop) (n : Nat) : Prop where
  h : ∀ x y, ok x → ok y → EqIs (f x) (f y) (decide (x = y)) n
theorem enc_str : Enc D.str okT 0 := ⟨fun _ _ h1 h2 => eqIs_str h1 h2⟩
theorem enc_int : Enc D.int (fun _ => True) 0 := ⟨fun _ _ _ _ => eqIs_int _ _⟩
theorem enc_bl : Enc D.bl (fun _ => True) 0 := ⟨fun a b _ _ => by
  have := eqIs_bl a b
  rwa [show (a == b) = decide (a = b) by cases a <;> cases b <;> rfl] at this⟩
theorem Enc.self {α : Type} [DecidableEq α] {f : α → D} {ok : α → Prop} {n : Nat} (E : Enc f ok n) : ∀ {xs : List α}, (∀ x, x ∈ xs → ok x) → ∃ r, EqAll (xs.map f) (xs.map f) r n
  | [], _ => ⟨_, .nil⟩
  | x :: xs, hx => by
    obtain ⟨r, h⟩ := E.self (xs := xs) fun z m => hx z (List.mem_cons_of_mem _ m)
    exact ⟨_, .cons (E.h x x (hx x (List.mem_cons_self ..)) (hx x (List.mem_cons_self ..))) h⟩
theorem Enc.all {α : Type} [DecidableEq α] {f : α → D} {ok : α → Prop} {n : Nat} (E : Enc f ok n) : ∀ {xs ys : List α}, (∀ x, x ∈ xs → ok x) → (∀ y, y ∈ ys → ok y) → EqAll (xs.map f) (ys.map f) (decide (xs = ys)) n
  | [], [], _, _ => .nil
  | x :: xs, [], hx, _ => by
    obtain ⟨r, h⟩ := E.self (xs := xs) fun z m => hx z (List.mem_cons_of_mem _ m)
    exact .left (E.h x x (hx x (List.mem_cons_self ..)) (hx x (List.mem_cons_self ..))) h
  | [], x :: xs, _, hx => by
    obtain ⟨r, h⟩ := E.self (xs := xs) fun z m => hx z (List.mem_cons_of_mem _ m)
    exact .right (E.h x x (hx x (List.mem_cons_self ..)) (hx x (List.mem_cons_self ..))) h
  | x :: xs, y :: ys, hx, hy => by
    have h1 := E.h x y (hx x (List.mem_cons_self ..)) (hy y (List.mem_cons_self ..))
    have h2 := E.all (xs := xs) (ys := ys) (fun z m => hx z (List.mem_cons_of_mem _ m)) fun z m => hy z (List.mem_cons_of_mem _ m)
    have := EqAll.cons h1 h2
    have e : (decide (x :: xs = y :: ys)) = (decide (x = y) && decide (xs = ys)) := Bool.eq_iff_iff.mpr (by simp)
    rw [e]; exact this
theorem Enc.lst {α : Type} [DecidableEq α] {f : α → D} {ok : α → Prop} {n : Nat} (E : Enc f ok n) : Enc (fun xs : List α => D.lst (xs.map f)) (fun xs => ∀ x, x ∈ xs → ok x) (n + 1) := ⟨fun _ _ h1 h2 => (E.all h1 h2).lst⟩
theorem Enc.tupl {α : Type} [DecidableEq α] {f : α → D} {ok : α → Prop} {n : Nat} (E : Enc f ok n) : Enc (fun xs : List α => D.tup (xs.map f)) (fun xs => ∀ x, x ∈ xs → ok x) (n + 1) := ⟨fun _ _ h1 h2 => (E.all h1 h2).tup⟩
theorem Enc.pair {α β : Type} [DecidableEq α] [DecidableEq β] {f : α → D} {g : β → D} {ok : α → Prop} {ok' : β → Prop} {n m : Nat} (E : Enc f ok n) (E' : Enc g ok' m) : Enc (fun x : α × β => D.tup [f x.1, g x.2]) (fun x => ok x.1 ∧ ok' x.2) (max n m + 1) := ⟨fun x y h1 h2 => by
  have := (EqAll.cons ((E.h x.1 y.1 h1.1 h2.1).mono (Nat.le_max_left n m)) (.cons ((E'.h x.2 y.2 h1.2 h2.2).mono (Nat.le_max_right n m)) .nil)).tup
  rwa [show (decide (x.1 = y.1) && (decide (x.2 = y.2) && true)) = decide (x = y) from Bool.eq_iff_iff.mpr (by simp [Prod.ext_iff])] at this⟩
theorem Enc.eqD {α : Type} [DecidableEq α] {f : α → D} {ok : α → Prop} {n : Nat} (E : Enc f ok n) (hn : n ≤ 64 := by decide) {x y : α} (hx : ok x) (hy : ok y) : Eng.eqD (f x) (f y) = some (decide (x = y)) := (E.h x y hx hy).eqD hn
theorem eqD_strs {a b : List (List Nat)} (ha : ∀ x, x ∈ a → okT x) (hb : ∀ x, x ∈ b → okT x) : Eng.eqD (.lst (a.map .str)) (.lst (b.map .str)) = some (decide (a = b)) := (enc_str.lst).eqD (by decide) ha hb
theorem eqD_strs_nil {a : List (List Nat)} (ha : ∀ x, x ∈ a → okT x) : Eng.eqD (.lst (a.map .str)) (.lst []) = some (decide (a = [])) := eqD_strs (b := []) ha fun x m => by cases m
@[simp] theorem eqD_nil_nil : Eng.eqD (.lst []) (.lst []) = some true := eqD_strs (a := []) (b := []) (fun x m => by cases m) fun x m => by cases m
theorem eqD_ints {a b : List Int} : Eng.eqD (.lst (a.map .int)) (.lst (b.map .int)) = some (decide (a = b)) := (enc_int.lst).eqD (by decide) (fun _ _ => trivial) fun _ _ => trivial
theorem eqD_ints_nil {a : List Int} : Eng.eqD (.lst (a.map .int)) (.lst []) = some (decide (a = [])) := eqD_ints (b := [])
theorem atI_nat {α : Type} {xs : List α} {i : Nat} (h : i < xs.length) : atI xs (i : Int) = some xs[i] := atI_some (by omega) (by rw [Int.toNat_natCast]; exact List.getElem?_eq_getElem h)
theorem atI_neg1 {α : Type} (xs : List α) (h : xs ≠ []) : atI xs (-1) = some (xs.getLast h) := by
  unfold atI ixN
  have : 0 < xs.length := List.length_pos_iff.mpr h
  rw [if_neg (by omega), if_pos (by omega)]
  show xs[(-1 + (xs.length : Int)).toNat]? = _
  rw [show (-1 + (xs.length : Int)).toNat = xs.length - 1 by omega, ← List.getLast?_eq_getElem?, List.getLast?_eq_some_getLast h]
theorem rng_of {lo n : Int} (h1 : -(2 ^ 62) ≤ lo ∧ lo < 2 ^ 62) (h2 : -(2 ^ 62) ≤ n ∧ n < 2 ^ 62) : rngD lo n = some ((List.range (n - lo).toNat).map fun i : Nat => D.int (lo + i)) := by
  unfold rngD; rw [if_pos ⟨h1.1, h1.2, h2.1, h2.2⟩]
theorem rng0 {n : Int} (h : -(2 ^ 62) ≤ n ∧ n < 2 ^ 62) : rngD 0 n = some ((List.range n.toNat).map fun i : Nat => D.int i) := by
  rw [rng_of (by decide) h, Int.sub_zero]; simp
theorem cutL_len {α : Type} (xs : List α) (lo hi : Option Int) : (cutL xs lo hi).length ≤ xs.length := by
  unfold cutL; simp only [List.length_take, List.length_drop]; omega
theorem cutL_mem {α : Type} {xs : List α} {lo hi : Option Int} {x : α} (h : x ∈ cutL xs lo hi) : x ∈ xs := List.drop_subset _ _ (List.take_subset _ _ h)
@[simp] theorem atI_mapE {α β : Type} (f : α → β) (xs : List α) (i : Int) : atI (xs.map f) i = (atI xs i).map f := by
  unfold atI
  rw [List.length_map]
  cases ixN xs.length i <;> simp
theorem atI_getD {α : Type} {xs : List α} {i : Int} (d : α) (h0 : 0 ≤ i) (h1 : i < xs.length) : atI xs i = some (xs.getD i.toNat d) := by
  refine atI_some h0 ?_
  rw [List.getD_eq_getElem?_getD, List.getElem?_eq_getElem (by omega)]; rfl
/-! ### bits -/
def sbit (k : Nat) : Nat := 1 <<< k
def shrN (p k : Nat) : Nat := p >>> k
def orN (a b : Nat) : Nat := a ||| b
theorem shl_nat {k : Nat} (h : k ≤ 1000000) : binD .LShift [.int 1, .int (k : Int)] = some (.sh (.int (sbit k : Int))) := by
  rw [shl_1, if_pos ⟨Int.natCast_nonneg _, by omega⟩, Int.toNat_natCast]
  unfold sbit
  rw [Nat.one_shiftLeft, Int.natCast_pow]; rfl
theorem shl_nat1 {k : Nat} (h : k + 1 ≤ 1000000) : binD .LShift [.int 1, .int ((k : Int) + 1)] = some (.sh (.int (sbit (k + 1) : Int))) := shl_nat (k := k + 1) h
theorem shr_nat (p k : Nat) : binD .RShift [.int p, .int (k : Int)] = some (.sh (.int (shrN p k : Int))) := by
  rw [shr_int, if_pos (Int.natCast_nonneg _), Int.toNat_natCast]
  unfold shrN
  rw [Nat.shiftRight_eq_div_pow]
  congr 3
  all_goals (push_cast; rfl)
theorem bitq (p k : Nat) : Builtin.bitAnd (shrN p k : Int) 1 = if p.testBit k = true then 1 else 0 := by
  unfold Builtin.bitAnd
  rw [decide_eq_true (Int.natCast_nonneg _), decide_eq_true (by decide)]
  show (((((p >>> k : Nat) : Int).toNat &&& (1 : Int).toNat : Nat)) : Int) = _
  rw [Int.toNat_natCast, show (1 : Int).toNat = 1 from rfl, Nat.and_one_is_mod, Nat.testBit_eq_decide_div_mod_eq, Nat.shiftRight_eq_div_pow]
  by_cases h : p / 2 ^ k % 2 = 1
  · simp [h]
  · have : p / 2 ^ k % 2 = 0 := by omega
    simp [this]
theorem bitor (a b : Nat) : Builtin.bitOr (a : Int) (b : Int) = (orN a b : Int) := by
  unfold orN Builtin.bitOr Builtin.bitAnd Builtin.bitNot
  rw [decide_eq_false (by omega), decide_eq_false (by omega)]
  show -(-(((-(-(a : Int) - 1) - 1).toNat ||| (-(-(b : Int) - 1) - 1).toNat : Nat) : Int) - 1) - 1 = _
  rw [show (-(-(a : Int) - 1) - 1).toNat = a by omega, show (-(-(b : Int) - 1) - 1).toNat = b by omega]; omega
/-- numbered from k -/
def enF : Nat → List D → List D
  | _, [] => []
  | k, y :: ys => .tup [.int k, y] :: enF (k + 1) ys
theorem enF_eq : ∀ (k : Nat) (ys : List D), ys.mapIdx (fun i y => D.tup [.int ((k + i : Nat) : Int), y]) = enF k ys
  | k, [] => rfl
  | k, y :: ys => by
    rw [List.mapIdx_cons]
    unfold enF
    rw [← enF_eq (k + 1) ys]
    have : (fun i y => D.tup [D.int ((k + 1 + i : Nat) : Int), y]) = fun i y => D.tup [D.int ((k + (i + 1) : Nat) : Int), y] := by
      funext i y; rw [show k + 1 + i = k + (i + 1) by omega]
    rw [this]; rfl
theorem enm_eq (ys : List D) : ys.mapIdx (fun i y => D.tup [.int (i : Int), y]) = enF 0 ys := by
  rw [← enF_eq 0 ys]
  have : (fun (i : Nat) (y : D) => D.tup [D.int (i : Int), y]) = fun i y => D.tup [D.int ((0 + i : Nat) : Int), y] := by
    funext i y; rw [Nat.zero_add]
  rw [this]
/-! ### loops that fold -/
theorem forGo_step {asg : D → Rho → Option Rho} {body : Rho → Option Out} {d : D} {ds : List D} {ρ ρ1 ρ2 : Rho} (h1 : asg d ρ = some ρ1) (h2 : body ρ1 = some (.nx ρ2) ∨ body ρ1 = some (.ct ρ2)) : forGo asg body (d :: ds) ρ = forGo asg body ds ρ2 := by
  conv => lhs; unfold forGo
  rw [h1]
  rcases h2 with h2 | h2
  · show ((body ρ1).bind _) = _
    rw [h2]; rfl
  · show ((body ρ1).bind _) = _
    rw [h2]; rfl
theorem forGo_fold {α σ : Type} {g : α → D} {asg : D → Rho → Option Rho} {body : Rho → Option Out} (f : σ → α → σ) (R : σ → List α → Rho → Prop)
    (step : ∀ s x xs ρ, R s (x :: xs) ρ → ∃ ρ1 ρ2, asg (g x) ρ = some ρ1 ∧ (body ρ1 = some (.nx ρ2) ∨ body ρ1 = some (.ct ρ2)) ∧ R (f s x) xs ρ2) : ∀ (xs : List α) (s : σ) (ρ : Rho), R s xs ρ → ∃ ρ', forGo asg body (xs.map g) ρ = some (.nx ρ') ∧ R (xs.foldl f s) [] ρ'
  | [], s, ρ, h => ⟨ρ, by unfold forGo; rfl, h⟩
  | x :: xs, s, ρ, h => by
    obtain ⟨ρ1, ρ2, h1, h2, h3⟩ := step s x xs ρ h
    obtain ⟨ρ', h4, h5⟩ := forGo_fold f R step xs (f s x) ρ2 h3
    exact ⟨ρ', by rw [List.map_cons, forGo_step h1 h2, h4], h5⟩
theorem foldl_app {α β : Type} (h : α → List β) : ∀ (xs : List α) (acc : List β), xs.foldl (fun s x => s ++ h x) acc = acc ++ (xs.map h).flatten
  | [], acc => by simp
  | x :: xs, acc => by rw [List.foldl_cons, foldl_app h xs]; simp
theorem foldl_app1 {α β : Type} (h : α → β) : ∀ (xs : List α) (acc : List β), xs.foldl (fun s x => s ++ [h x]) acc = acc ++ xs.map h
  | [], acc => by simp
  | x :: xs, acc => by rw [List.foldl_cons, foldl_app1 h xs]; simp
theorem whl_stop {test : Rho → Option Bool} {body : Rho → Option Out} {n : Nat} {ρ : Rho} (h : test ρ = some false) : whlGo test body (n + 1) ρ = some (.nx ρ) := by
  unfold whlGo; rw [h]; rfl
theorem whl_nx {test : Rho → Option Bool} {body : Rho → Option Out} {n : Nat} {ρ ρ2 : Rho} (h : test ρ = some true) (h2 : body ρ = some (.nx ρ2) ∨ body ρ = some (.ct ρ2)) : whlGo test body (n + 1) ρ = whlGo test body n ρ2 := by
  conv => lhs; unfold whlGo
  rw [h]
  show ((body ρ).bind _) = _
  rcases h2 with h2 | h2 <;> rw [h2] <;> rfl
theorem whl_bk {test : Rho → Option Bool} {body : Rho → Option Out} {n : Nat} {ρ ρ2 : Rho} (h : test ρ = some true) (h2 : body ρ = some (.bk ρ2)) : whlGo test body (n + 1) ρ = some (.nx ρ2) := by
  unfold whlGo
  rw [h]
  show ((body ρ).bind _) = _
  rw [h2]; rfl
theorem whl_rt {test : Rho → Option Bool} {body : Rho → Option Out} {n : Nat} {ρ : Rho} {t : T} (h : test ρ = some true) (h2 : body ρ = some (.rt t)) : whlGo test body (n + 1) ρ = some (.rt t) := by
  unfold whlGo
  rw [h]
  show ((body ρ).bind _) = _
  rw [h2]; rfl
theorem forGo_rt {asg : D → Rho → Option Rho} {body : Rho → Option Out} {d : D} {ds : List D} {ρ ρ1 : Rho} {t : T} (h1 : asg d ρ = some ρ1) (h2 : body ρ1 = some (.rt t)) : forGo asg body (d :: ds) ρ = some (.rt t) := by
  conv => lhs; unfold forGo
  rw [h1]
  show ((body ρ1).bind _) = _
  rw [h2]; rfl
/-! ### a sign in a text -/
theorem subOf_one (c : Nat) (s : List Nat) : subOf [c] s = decide (c ∈ s) := (PySem.StrLaws.found_one (st s) c).trans (by rw [show (st s).cps.toList = s from List.toList_toArray])
/-! ### the rule for a def (FunD) -/
theorem fn_okD {P : Program} {w : World} {C : Cfg} {base : Heap} {x qual : Str} {st : Stmt} {dvs : List V} {f : Addr} {fd : FuncData} {N ps : List Str} {k : Nat} {body : Ss} {F : List D → Option T}
    (Fn : FunD C.K x qual (defArgs st) (defBody st) (defScope st) dvs [] f fd) (S : FnScope N ps (defScope st)) (hm : mSs N (defScope st) body (defBody st) = true) (nd : Ndss ⟨P, w, C, base, N, k⟩ body)
    (hF : ∀ ds t, F ds = some t → ds.length = ps.length ∧ ∃ n, runD n N body ds = some t) : FnOk P w C.K C.mg base CX0 (k + 1) f fd ps (pureSp C F) := by
  refine Fn.ok S (fun vs H Q E h => ?_) fun cdv A outer s H vs Q E hr h => ?_
  · obtain ⟨ds, t, Z, al, h1, h2, h3, h4, h5⟩ := h
    rw [h1.length]; exact (hF ds t h4).1
  · obtain ⟨t, h1, h2⟩ := fn_body (outer := outer) S hm nd hF hr h
    exact ⟨t, h1.nox, h2⟩
theorem bindsF {K : PySem.W.Frag} {x qual : Str} {params : Arguments} {body : List Stmt} {scope : Scope} {dvs : List V} {kws : List (Str × V)} {f : Addr} {fd : FuncData} {ps : List Str} (F : FunD K x qual params body scope dvs kws f fd)
    (h : ∀ (dV kV doc pm : Value) (an : Option Addr) (cdv ct : Value) (us : List Value), us.length = ps.length → bindArgs (PySem.W.fnOf x qual params body scope dV kV doc pm an cdv ct) ⟨us, []⟩ = pure (ps.zip us)) : Binds K fd ps [] := by
  obtain ⟨oc, od, dV, kV, doc, pm, an, cdv, ct, osl, rfl, lk, hcd, hD, hK⟩ := F.ex
  exact .all (h dV kV doc pm an cdv ct)
theorem pure_law (C : Cfg) {F : List D → Option T} {ns : List Int} (h : F [.scr ns] = some (.sh (.bl true))) {a : Addr} {H : Hp} {Q : VK} {E : XK} (hS : SqL C.K H a (ns.map V.int)) (q : ∀ H', Q (.bl true) H') : pureSp C F [.ref a] H Q E := by
  have n0 : hid H (fun _ => False) = H := by funext a; exact hid_out fun z => z
  refine ⟨[.scr ns], .sh (.bl true), fun _ => False, false, .cons (.scr hS) .nil, (fun _ => by rw [n0]; exact .cons (.scr hS) .nil), (fun _ z => z.elim), h, fun As v H' p => ?_⟩
  have := p.dat
  cases this
  exact q _
theorem glb_int {C : Cfg} {P : Program} {w : World} {base : Heap} {N : List Str} {k : Nat} {x : Str} {i : Int} (h : ∃ t, C.mg x = some (.int i t)) : GlbOk ⟨P, w, C, base, N, k⟩ x (.int i) := by
  obtain ⟨t, h⟩ := h
  exact ⟨_, .int i, h, ⟨t, rfl⟩, fun _ => .int i⟩
theorem glb_str {C : Cfg} {P : Program} {w : World} {base : Heap} {N : List Str} {k : Nat} {x : Str} {s : List Nat} {z : Str} (h : ∃ t, C.mg x = some (.str z t)) (e : z = st s) : GlbOk ⟨P, w, C, base, N, k⟩ x (.str s) := by
  obtain ⟨t, h⟩ := h
  subst e
  exact ⟨_, sv s, h, ⟨t, rfl⟩, fun _ => .str s⟩
end Eng
/-! law_k12_patterns_told_and_written: the words of its defs (printed by wip/mk.py). -/
namespace Lw
open PySem L2 Eng
abbrev G_ALL_SIGNS : D := .str [32, 33, 34, 35, 36, 38, 39, 40, 41, 42, 43, 44, 45, 46, 47, 48, 49, 50, 51, 52, 53, 54, 55, 56, 57, 58, 59, 60, 61, 62, 63, 64, 65, 66, 67, 68, 69, 70, 71, 72, 73, 74, 75, 76, 77, 78, 79, 80, 81, 82, 83, 84, 85, 86, 87, 88, 89, 90, 91, 92, 93, 94, 95, 96, 97, 98, 99, 100, 101, 102, 103, 104, 105, 106, 107, 108, 109, 110, 111, 112, 113, 114, 115, 116, 117, 118, 119, 120, 121, 122, 123, 124, 125, 126]
abbrev G_MOST_ITEMS : D := .int (8)
abbrev G_MOST_SIGNS : D := .int (12)
abbrev G_NOT_PLAIN : D := .str [94, 36, 46, 91, 93, 42, 43, 63, 47]
def N_is_plain : List Str := ["signs"]
def b_is_plain : Ss :=
  (.cons (.ret (.and (.cmp .Eq (.bi .len (.cons (.var 0) .nil)) (.cst (.int 1))) (.one (.cmp .NotIn (.var 0) (.glb "NOT_PLAIN" G_NOT_PLAIN))))) .nil)
def F_is_plain : List D → Option T := runF 1 100000 N_is_plain b_is_plain
def N_set_at : List Str := ["text", "place", "end", "signs", "others", "at", "sign"]
def l1_set_at : Ss :=
  (.cons (.ite (.or (.cmp .In (.var 6) (.cst (.str [94, 47]))) (.one (.cmp .In (.var 6) (.slc (.var 3) .non (.som (.var 5))))))
  (.cons .nev .nil)
  .nil) .nil)
def b_set_at : Ss :=
  (.cons (.set 2 (.mth .find3 (.var 0) (.cons (.cst (.str [93])) (.cons (.var 1) .nil)))) (.cons (.ite (.cmp .Lt (.var 2) (.cst (.int 0)))
  (.cons .nev .nil)
  .nil) (.cons (.set 3 (.slc (.var 0) (.som (.bin .Add (.var 1) (.cst (.int 1)))) (.som (.var 2)))) (.cons (.set 4 (.mth .startswith (.var 3) (.cons (.cst (.str [94])) .nil))) (.cons (.ite (.var 4)
  (.frz 3 (.cons (.set 3 (.slc (.var 3) (.som (.cst (.int 1))) .non)) .nil))
  .nil) (.cons (.ite (.or (.cmp .Eq (.var 3) (.cst (.str []))) (.or (.cmp .Gt (.bi .len (.cons (.var 3) .nil)) (.glb "MOST_SIGNS" G_MOST_SIGNS)) (.one (.and (.not (.var 4)) (.one (.cal "is_plain" F_is_plain [] (.cons (.var 3) .nil)))))))
  (.cons .nev .nil)
  .nil) (.frz 3 (.cons (.for (.tp [5, 6]) (.enm (.var 3))
  l1_set_at) (.cons (.retT (.cons (.var 3) (.cons (.var 4) (.cons (.bin .Add (.var 2) (.cst (.int 1))) .nil)))) .nil)))))))))
def F_set_at : List D → Option T := runF 2 100000 N_set_at b_set_at
def N_item_at : List Str := ["text", "place", "sign"]
def b_item_at : Ss :=
  (.cons (.set 2 (.idx (.var 0) (.var 1))) (.cons (.ite (.cmp .Eq (.var 2) (.cst (.str [46])))
  (.cons (.retT (.cons (.cst (.str [])) (.cons (.cst (.bl true)) (.cons (.bin .Add (.var 1) (.cst (.int 1))) .nil)))) .nil)
  .nil) (.cons (.ite (.cmp .Eq (.var 2) (.cst (.str [91])))
  (.cons (.ret (.cal "set_at" F_set_at [] (.cons (.var 0) (.cons (.var 1) .nil)))) .nil)
  .nil) (.cons (.ite (.not (.cal "is_plain" F_is_plain [] (.cons (.var 2) .nil)))
  (.cons .nev .nil)
  .nil) (.cons (.retT (.cons (.var 2) (.cons (.cst (.bl false)) (.cons (.bin .Add (.var 1) (.cst (.int 1))) .nil)))) .nil)))))
def F_item_at : List D → Option T := runF 2 100000 N_item_at b_item_at
def N_pattern : List Str := ["text", "front", "place", "items", "many", "signs", "others", "sign"]
def l1_pattern : Ss :=
  (.frz 2 (.cons (.setT [5, 6, 2] (.cal "item_at" F_item_at [] (.cons (.var 0) (.cons (.var 2) .nil)))) (.cons (.set 4 (.cst (.str [49]))) (.cons (.ite (.and (.cmp .Lt (.var 2) (.bi .len (.cons (.var 0) .nil))) (.one (.cmp .In (.idx (.var 0) (.var 2)) (.cst (.str [42, 43, 63])))))
  (.cons (.set 4 (.idx (.var 0) (.var 2))) (.cons (.aug 2 .Add (.cst (.int 1))) .nil))
  .nil) (.frz 4 (.cons (.app 3 (.tup (.cons (.var 5) (.cons (.var 6) (.cons (.var 4) .nil))))) .nil))))))
def b_pattern : Ss :=
  (.cons (.ite (.or (.not (.isi (.var 0) "str" "str")) (.one (.cmp .NotEq (.lc [("sign", 7)] (.nm 7) (.seq (.var 0)) (.som (.cmp .NotIn (.var 7) (.glb "ALL_SIGNS" G_ALL_SIGNS))) (.var 7)) (.lst .nil))))
  (.cons .nev .nil)
  .nil) (.cons (.set 1 (.mth .startswith (.var 0) (.cons (.cst (.str [94])) .nil))) (.cons (.set 2 (.bi .int (.cons (.var 1) .nil))) (.cons (.set 3 (.lst .nil)) (.cons (.whl (.and (.cmp .Lt (.var 2) (.bi .len (.cons (.var 0) .nil))) (.one (.cmp .NotEq (.slc (.var 0) (.som (.var 2)) .non) (.cst (.str [36])))))
  l1_pattern) (.cons (.ite (.cmp .Gt (.bi .len (.cons (.var 3) .nil)) (.glb "MOST_ITEMS" G_MOST_ITEMS))
  (.cons .nev .nil)
  .nil) (.cons (.retT (.cons (.var 1) (.cons (.var 3) (.cons (.cmp .Lt (.var 2) (.bi .len (.cons (.var 0) .nil))) .nil)))) .nil)))))))
def F_pattern : List D → Option T := runF 1 100000 N_pattern b_pattern
def N_item_written : List Str := ["item", "text", "signs", "others", "many"]
def b_item_written : Ss :=
  (.cons (.setT [2, 3, 4] (.var 0)) (.cons (.set 1 (.var 2)) (.cons (.ite (.and (.var 3) (.one (.cmp .Eq (.var 2) (.cst (.str [])))))
  (.cons (.set 1 (.cst (.str [46]))) .nil)
  (.cons (.ite (.var 3)
  (.cons (.set 1 (.bin .Add (.bin .Add (.cst (.str [91, 94])) (.var 2)) (.cst (.str [93])))) .nil)
  (.cons (.ite (.not (.cal "is_plain" F_is_plain [] (.cons (.var 2) .nil)))
  (.cons (.set 1 (.bin .Add (.bin .Add (.cst (.str [91])) (.var 2)) (.cst (.str [93])))) .nil)
  .nil) .nil)) .nil)) (.cons (.ite (.cmp .Eq (.var 4) (.cst (.str [49])))
  (.cons (.retO 1) .nil)
  .nil) (.cons (.ret (.bin .Add (.var 1) (.var 4))) .nil)))))
def F_item_written : List D → Option T := runF 1 100000 N_item_written b_item_written
def N_written : List Str := ["one", "text", "front", "items", "back", "item"]
def b_written : Ss :=
  (.cons (.setT [2, 3, 4] (.var 0)) (.cons (.set 1 (.mth .join (.cst (.str [])) (.cons (.lc [("item", 5)] (.nm 5) (.seq (.var 3)) .non (.cal "item_written" F_item_written [] (.cons (.var 5) .nil))) .nil))) (.cons (.ite (.var 2)
  (.frz 1 (.cons (.set 1 (.bin .Add (.cst (.str [94])) (.var 1))) .nil))
  .nil) (.cons (.ite (.var 4)
  (.frz 1 (.cons (.set 1 (.bin .Add (.var 1) (.cst (.str [36])))) .nil))
  .nil) (.cons (.retO 1) .nil)))))
def F_written : List D → Option T := runF 1 100000 N_written b_written
def N_w_cell_at : List Str := ["_law_script", "_law_k"]
def b_w_cell_at : Ss :=
  (.cons (.ite (.cmp .Lt (.var 1) (.bi .len (.cons (.var 0) .nil)))
  (.cons (.ret (.idx (.var 0) (.var 1))) .nil)
  .nil) (.cons (.ret (.cst (.int 0))) .nil))
def F_w_cell_at : List D → Option T := runF 2 100000 N_w_cell_at b_w_cell_at
def N_w_signs : List Str := ["_law_some"]
def b_w_signs : Ss :=
  (.cons (.set 0 (.cst (.str [32, 33, 34, 35, 36, 38, 39, 40, 41, 42, 43, 44, 45, 46, 47, 48, 49, 50, 51, 52, 53, 54, 55, 56, 57, 58, 59, 60, 61, 62, 63, 64, 65, 66, 67, 68, 69, 70, 71, 72, 73, 74, 75, 76, 77, 78, 79, 80, 81, 82, 83, 84, 85, 86, 87, 88, 89, 90, 91, 92, 93, 94, 95, 96]))) (.cons (.ret (.bin .Add (.var 0) (.cst (.str [97, 98, 99, 100, 101, 102, 103, 104, 105, 106, 107, 108, 109, 110, 111, 112, 113, 114, 115, 116, 117, 118, 119, 120, 121, 122, 123, 124, 125, 126])))) .nil))
def F_w_signs : List D → Option T := runF 0 100000 N_w_signs b_w_signs
def N_w_item : List Str := ["_law_cell", "_law_some", "_law_number", "_law_many", "_law_step", "_law_signs_here", "_law_others", "_law_sign", "_law_k"]
def b_w_item : Ss :=
  (.cons (.set 1 (.lc [("_law_sign", 7)] (.nm 7) (.seq (.cal "_law_signs" F_w_signs [] .nil)) (.som (.cmp .NotIn (.var 7) (.cst (.str [93, 94, 47])))) (.var 7))) (.cons (.set 2 (.bin .Mod (.bin .Mult (.var 0) (.cst (.int 48271))) (.cst (.int 2147483647)))) (.cons (.set 3 (.cst (.int 1))) (.cons (.ite (.cmp .Gt (.bin .Mod (.var 0) (.cst (.int 5))) (.cst (.int 2)))
  (.cons (.set 3 (.bin .Add (.cst (.int 1)) (.bin .Mod (.bin .FloorDiv (.var 2) (.cst (.int 91))) (.cst (.int 12))))) .nil)
  .nil) (.cons (.set 4 (.idx (.lst (.cons (.cst (.int 1)) (.cons (.cst (.int 2)) (.cons (.cst (.int 5)) (.cons (.cst (.int 23)) .nil))))) (.bin .Mod (.bin .FloorDiv (.var 2) (.cst (.int 1092))) (.cst (.int 4))))) (.cons (.set 5 (.mth .join (.cst (.str [])) (.cons (.lc [("_law_k", 8)] (.nm 8) (.rng1 (.var 3)) .non (.idx (.var 1) (.bin .Mod (.bin .Add (.var 2) (.bin .Mult (.var 4) (.var 8))) (.cst (.int 91))))) .nil))) (.cons (.set 6 (.cmp .Eq (.bin .Mod (.var 0) (.cst (.int 5))) (.cst (.int 4)))) (.cons (.ite (.cmp .Eq (.bin .Mod (.var 0) (.cst (.int 5))) (.cst (.int 2)))
  (.cons (.set 5 (.cst (.str []))) (.cons (.set 6 (.cst (.bl true))) .nil))
  .nil) (.cons (.retT (.cons (.var 5) (.cons (.var 6) (.cons (.idx (.lst (.cons (.cst (.str [49])) (.cons (.cst (.str [42])) (.cons (.cst (.str [43])) (.cons (.cst (.str [63])) .nil))))) (.bin .Mod (.bin .FloorDiv (.var 0) (.cst (.int 5))) (.cst (.int 4)))) .nil)))) .nil)))))))))
def F_w_item : List D → Option T := runF 1 100000 N_w_item b_w_item
def N_w_item_text : List Str := ["_law_item_here", "_law_text_here", "_law_signs_here", "_law_others", "_law_many"]
def b_w_item_text : Ss :=
  (.cons (.setT [2, 3, 4] (.var 0)) (.cons (.set 1 (.bin .Add (.bin .Add (.cst (.str [91])) (.var 2)) (.cst (.str [93])))) (.cons (.ite (.var 3)
  (.cons (.set 1 (.bin .Add (.bin .Add (.cst (.str [91, 94])) (.var 2)) (.cst (.str [93])))) .nil)
  .nil) (.cons (.ite (.and (.var 3) (.one (.cmp .Eq (.var 2) (.cst (.str [])))))
  (.cons (.set 1 (.cst (.str [46]))) .nil)
  .nil) (.cons (.ite (.and (.not (.var 3)) (.and (.cmp .Eq (.bi .len (.cons (.var 2) .nil)) (.cst (.int 1))) (.one (.cmp .NotIn (.var 2) (.cst (.str [94, 36, 46, 91, 93, 42, 43, 63, 47]))))))
  (.cons (.set 1 (.var 2)) .nil)
  .nil) (.cons (.ret (.bin .Add (.var 1) (.mth .strip (.var 4) (.cons (.cst (.str [49])) .nil)))) .nil))))))
def F_w_item_text : List D → Option T := runF 1 100000 N_w_item_text b_w_item_text
def N_w_text : List Str := ["_law_one", "_law_text_here", "_law_item_here"]
def b_w_text : Ss :=
  (.cons (.set 1 (.mth .join (.cst (.str [])) (.cons (.lc [("_law_item_here", 2)] (.nm 2) (.seq (.idx (.var 0) (.cst (.int 1)))) .non (.cal "_law_item_text" F_w_item_text [] (.cons (.var 2) .nil))) .nil))) (.cons (.ite (.idx (.var 0) (.cst (.int 0)))
  (.frz 1 (.cons (.set 1 (.bin .Add (.cst (.str [94])) (.var 1))) .nil))
  .nil) (.cons (.ite (.idx (.var 0) (.cst (.int 2)))
  (.frz 1 (.cons (.set 1 (.bin .Add (.var 1) (.cst (.str [36])))) .nil))
  .nil) (.cons (.retO 1) .nil))))
def F_w_text : List D → Option T := runF 1 100000 N_w_text b_w_text
def N_w_alike : List Str := ["_law_told", "_law_due", "_law_item_here"]
def l1_w_alike : Ss :=
  (.cons (.ite (.or (.not (.isi (.var 2) "tuple" "tuple")) (.or (.cmp .NotEq (.bi .len (.cons (.var 2) .nil)) (.cst (.int 3))) (.one (.not (.isi (.idx (.var 2) (.cst (.int 1))) "bool" "bool")))))
  (.cons (.ret (.cst (.bl false))) .nil)
  .nil) (.cons (.ite (.or (.not (.isi (.idx (.var 2) (.cst (.int 0))) "str" "str")) (.one (.not (.isi (.idx (.var 2) (.cst (.int 2))) "str" "str"))))
  (.cons (.ret (.cst (.bl false))) .nil)
  .nil) .nil))
def b_w_alike : Ss :=
  (.cons (.ite (.or (.not (.isi (.var 0) "tuple" "tuple")) (.or (.cmp .NotEq (.bi .len (.cons (.var 0) .nil)) (.cst (.int 3))) (.or (.not (.isi (.idx (.var 0) (.cst (.int 0))) "bool" "bool")) (.one (.not (.isi (.idx (.var 0) (.cst (.int 2))) "bool" "bool"))))))
  (.cons (.ret (.cst (.bl false))) .nil)
  .nil) (.cons (.ite (.not (.isi (.idx (.var 0) (.cst (.int 1))) "list" "list"))
  (.cons (.ret (.cst (.bl false))) .nil)
  .nil) (.cons (.for (.nm 2) (.seq (.idx (.var 0) (.cst (.int 1))))
  l1_w_alike) (.cons (.ret (.cmp .Eq (.var 0) (.var 1))) .nil))))
def F_w_alike : List D → Option T := runF 2 100000 N_w_alike b_w_alike
def N_law : List Str := ["_law_script", "_law_first", "_law_items", "_law_due", "_law_text_here", "_law_told", "_law_handed", "_law_line", "_law_cell"]
def b_law : Ss :=
  (.cons (.set 1 (.cal "_law_cell_at" F_w_cell_at [] (.cons (.var 0) (.cons (.cst (.int 0)) .nil)))) (.cons (.setL 2 (.lc [("_law_cell", 8)] (.nm 8) (.seq (.slc (.var 0) (.som (.cst (.int 1))) (.som (.bin .Add (.cst (.int 1)) (.bin .Mod (.var 1) (.cst (.int 9))))))) .non (.cal "_law_item" F_w_item [] (.cons (.var 8) .nil)))) (.frz 2 (.cons (.set 3 (.tup (.cons (.cmp .Eq (.bin .Mod (.bin .FloorDiv (.var 1) (.cst (.int 9))) (.cst (.int 2))) (.cst (.int 1))) (.cons (.var 2) (.cons (.cmp .Eq (.bin .Mod (.bin .FloorDiv (.var 1) (.cst (.int 18))) (.cst (.int 2))) (.cst (.int 1))) .nil))))) (.frz 3 (.cons (.set 4 (.cal "_law_text" F_w_text [] (.cons (.var 3) .nil))) (.frz 4 (.cons (.set 5 (.cal "pattern" F_pattern [] (.cons (.var 4) .nil))) (.cons (.ite (.not (.cal "_law_alike" F_w_alike [] (.cons (.var 5) (.cons (.var 3) .nil))))
  (.cons (.ret (.cst (.bl false))) .nil)
  .nil) (.cons (.poke 5 1 (.tup (.cons (.cst (.str [97])) (.cons (.cst (.bl false)) (.cons (.cst (.str [49])) .nil))))) (.cons (.pokeR 5 1) (.cons (.ite (.not (.cal "_law_alike" F_w_alike [] (.cons (.cal "pattern" F_pattern [] (.cons (.var 4) .nil)) (.cons (.var 3) .nil))))
  (.cons (.ret (.cst (.bl false))) .nil)
  .nil) (.frz 2 (.frz 3 (.cons (.set 6 (.tup (.cons (.idx (.var 3) (.cst (.int 0))) (.cons (.bi .list (.cons (.var 2) .nil)) (.cons (.idx (.var 3) (.cst (.int 2))) .nil))))) (.frz 6 (.cons (.set 7 (.cal "written" F_written [] (.cons (.var 6) .nil))) (.cons (.ret (.and (.isi (.var 7) "str" "str") (.and (.cmp .Eq (.var 7) (.var 4)) (.and (.cmp .Eq (.var 6) (.var 3)) (.one (.cmp .Eq (.cal "written" F_written [] (.cons (.cal "pattern" F_pattern [] (.cons (.var 4) .nil)) .nil)) (.var 4))))))) .nil))))))))))))))))))
def F_law : List D → Option T := runF 1 100000 N_law b_law
end Lw
/-! patterns of items: what fits, and the sets of places. -/
namespace Lw
open PySem L2 Eng
/-- signs, all but these?, how often (the code of 1 * + ?) -/
structure Item where
  s : List Nat
  o : Bool
  m : Nat
deriving DecidableEq
namespace Item
def D (i : Item) : Eng.D := .tup [.str i.s, .bl i.o, .str [i.m]]
def holds (i : Item) (c : Nat) : Bool := decide (c ∈ i.s) != i.o
def skip (i : Item) : Bool := i.m == 42 || i.m == 63
def loop (i : Item) : Bool := i.m == 42 || i.m == 43
def ok (i : Item) : Prop := okT i.s ∧ i.s.length ≤ 100 ∧ (i.m = 49 ∨ i.m = 42 ∨ i.m = 43 ∨ i.m = 63)
/-- one item by itself -/
def one (i : Item) (u : List Nat) : Prop := (∀ c, c ∈ u → i.holds c = true) ∧ (i.skip = true ∨ u ≠ []) ∧ (i.loop = true ∨ u.length ≤ 1)
end Item
/-- items one behind the other -/
def fits : List Item → List Nat → Prop
  | [], w => w = []
  | i :: is, w => ∃ u v, w = u ++ v ∧ i.one u ∧ fits is v
theorem fits_append : ∀ {as bs : List Item} {w : List Nat}, fits (as ++ bs) w ↔ ∃ u v, w = u ++ v ∧ fits as u ∧ fits bs v
  | [], bs, w => ⟨fun h => ⟨[], w, rfl, rfl, h⟩, fun ⟨u, v, h1, h2, h3⟩ => by cases h2; subst h1; exact h3⟩
  | a :: as, bs, w => by
    constructor
    · rintro ⟨u, v, rfl, h1, h2⟩
      obtain ⟨u', v', rfl, h3, h4⟩ := fits_append.mp h2
      exact ⟨u ++ u', v', (List.append_assoc ..).symm, ⟨u, u', rfl, h1, h3⟩, h4⟩
    · rintro ⟨u, v, rfl, ⟨u1, u2, rfl, h1, h2⟩, h3⟩
      exact ⟨u1, u2 ++ v, (List.append_assoc ..), h1, fits_append.mpr ⟨u2, v, rfl, h2, h3⟩⟩
theorem fits_snoc {as : List Item} {i : Item} {w : List Nat} : fits (as ++ [i]) w ↔ ∃ u v, w = u ++ v ∧ fits as u ∧ i.one v := by
  rw [fits_append]
  constructor
  · rintro ⟨u, v, rfl, h1, u2, v2, rfl, h2, h3⟩
    cases h3
    exact ⟨u, u2, by simp, h1, h2⟩
  · rintro ⟨u, v, rfl, h1, h2⟩
    exact ⟨u, v, rfl, h1, v, [], by simp, h2, rfl⟩
/-- as the sets of places are reckoned -/
def letN : List Item → Nat → Nat → Nat
  | [], _, p => p
  | i :: is, k, p => letN is (k + 1) (if (p.testBit k && i.skip) = true then orN p (sbit (k + 1)) else p)
def stepN : List Item → Nat → Nat → Nat → Nat → Nat
  | [], _, _, _, a => a
  | i :: is, k, p, c, a => stepN is (k + 1) p c (if (p.testBit k && i.holds c) = true then
      (if i.m ≠ 42 then orN (if i.loop = true then orN a (sbit k) else a) (sbit (k + 1)) else (if i.loop = true then orN a (sbit k) else a)) else a)
def firstN (is : List Item) : Nat := letN is 0 1
def nextN (is : List Item) (p c : Nat) : Nat := letN is 0 (stepN is 0 p c 0)
def runN (is : List Item) (w : List Nat) : Nat := w.foldl (nextN is) (firstN is)
theorem one_bit (j : Nat) : (1 : Nat).testBit j = decide (j = 0) := by
  cases j with
  | zero => rfl
  | succ j => rw [Nat.testBit_succ]; simp
theorem orN_bit (a b j : Nat) : (orN a b).testBit j = (a.testBit j || b.testBit j) := Nat.testBit_or ..
theorem bit1 (k j : Nat) : (sbit k).testBit j = decide (j = k) := by
  unfold sbit
  rw [Nat.testBit_shiftLeft]
  by_cases h : j = k
  · subst h; simp
  · by_cases h2 : k ≤ j
    · have : j - k ≠ 0 := by omega
      simp [h, h2, one_bit]; omega
    · simp [h2, h]
/-- the closure, bit by bit -/
def clo (is : List Item) (P : Nat → Prop) : Nat → Prop
  | 0 => P 0
  | k + 1 => P (k + 1) ∨ (clo is P k ∧ ∃ i, is[k]? = some i ∧ i.skip = true)
theorem letN_bit : ∀ (is : List Item) (as : List Item) (p q : Nat), (∀ j, p.testBit j = true ↔ (if j ≤ as.length then clo (as ++ is) (fun k => q.testBit k = true) j else q.testBit j = true)) →
    ∀ j, (letN is as.length p).testBit j = true ↔ clo (as ++ is) (fun k => q.testBit k = true) j
  | [], as, p, q, h, j => by
    unfold letN
    rw [h j]
    split
    · exact Iff.rfl
    · rename_i hj
      obtain ⟨k, rfl⟩ : ∃ k, j = k + 1 := ⟨j - 1, by omega⟩
      unfold clo
      constructor
      · exact .inl
      · rintro (h1 | ⟨_, i, h2, _⟩)
        · exact h1
        · rw [List.append_nil, List.getElem?_eq_none (by omega)] at h2; cases h2
  | i :: is, as, p, q, h, j => by
    unfold letN
    have e : as ++ i :: is = (as ++ [i]) ++ is := by simp
    rw [e]
    have el : as.length + 1 = (as ++ [i]).length := by simp
    have hk := h as.length
    rw [if_pos (Nat.le_refl _)] at hk
    have hi : (as ++ i :: is)[as.length]? = some i := by simp
    rw [show letN is (as.length + 1) = letN is (as ++ [i]).length by rw [el]]
    refine letN_bit is (as ++ [i]) _ q (fun j => ?_) j
    rw [← e, List.length_append, List.length_singleton]
    by_cases c : (p.testBit as.length && i.skip) = true
    · rw [if_pos c, orN_bit, bit1, Bool.or_eq_true, decide_eq_true_eq, h j]
      rw [Bool.and_eq_true] at c
      by_cases hj : j ≤ as.length
      · rw [if_pos hj, if_pos (by omega)]
        exact ⟨fun z => z.elim id (fun z => by omega), .inl⟩
      · rw [if_neg hj]
        by_cases hj2 : j = as.length + 1
        · subst hj2
          rw [if_pos (Nat.le_refl _)]
          exact ⟨fun _ => .inr ⟨hk.mp c.1, i, hi, c.2⟩, fun _ => .inr rfl⟩
        · rw [if_neg (by omega)]
          exact ⟨fun z => z.elim id (fun z => absurd z hj2), .inl⟩
    · rw [if_neg c, h j]
      rw [Bool.and_eq_true] at c
      by_cases hj : j ≤ as.length
      · rw [if_pos hj, if_pos (by omega)]
      · rw [if_neg hj]
        by_cases hj2 : j = as.length + 1
        · subst hj2
          rw [if_pos (Nat.le_refl _)]
          constructor
          · exact .inl
          · rintro (z | ⟨z1, i', z2, z3⟩)
            · exact z
            · rw [hi] at z2; cases z2
              exact absurd ⟨hk.mpr z1, z3⟩ c
        · rw [if_neg (by omega)]
theorem let_bit (is : List Item) (q j : Nat) : (letN is 0 q).testBit j = true ↔ clo is (fun k => q.testBit k = true) j := by
  refine letN_bit is [] q q (fun j => ?_) j
  split
  · rename_i h
    have : j = 0 := by simpa using h
    subst this
    exact Iff.rfl
  · exact Iff.rfl
/-- a step ahead of the closure, bit by bit -/
def raw (is : List Item) (p c k : Nat) : Prop := (p.testBit k = true ∧ ∃ i, is[k]? = some i ∧ i.holds c = true ∧ i.loop = true) ∨ ∃ j i, k = j + 1 ∧ p.testBit j = true ∧ is[j]? = some i ∧ i.holds c = true ∧ i.m ≠ 42
theorem stepN_bit : ∀ (is as : List Item) (p c a : Nat), (∀ j, a.testBit j = true ↔ raw as p c j) → ∀ j, (stepN is as.length p c a).testBit j = true ↔ raw (as ++ is) p c j
  | [], as, p, c, a, h, j => by unfold stepN; rw [List.append_nil]; exact h j
  | i :: is, as, p, c, a, h, j => by
    unfold stepN
    have e : as ++ i :: is = (as ++ [i]) ++ is := by simp
    rw [e, show as.length + 1 = (as ++ [i]).length by simp]
    refine stepN_bit is (as ++ [i]) p c _ (fun j => ?_) j
    have hlen : (as ++ [i]).length = as.length + 1 := by simp
    -- a cell more
    have hg : ∀ (k : Nat) (x : Item), (as ++ [i])[k]? = some x ↔ as[k]? = some x ∨ (k = as.length ∧ i = x) := by
      intro k x
      by_cases hk : k < as.length
      · rw [List.getElem?_append_left hk]
        exact ⟨.inl, fun z => z.elim id fun z => by omega⟩
      · by_cases hk2 : k = as.length
        · subst hk2
          simp
        · rw [List.getElem?_eq_none (by simp; omega), List.getElem?_eq_none (by omega)]
          simp; omega
    have hr : raw (as ++ [i]) p c j ↔ raw as p c j ∨ (p.testBit as.length = true ∧ i.holds c = true ∧ ((j = as.length ∧ i.loop = true) ∨ (j = as.length + 1 ∧ i.m ≠ 42))) := by
      unfold raw
      constructor
      · rintro (⟨h1, x, h2, h3, h4⟩ | ⟨k, x, rfl, h1, h2, h3, h4⟩)
        · rcases (hg j x).mp h2 with h2 | ⟨rfl, rfl⟩
          · exact .inl (.inl ⟨h1, x, h2, h3, h4⟩)
          · exact .inr ⟨h1, h3, .inl ⟨rfl, h4⟩⟩
        · rcases (hg k x).mp h2 with h2 | ⟨rfl, rfl⟩
          · exact .inl (.inr ⟨k, x, rfl, h1, h2, h3, h4⟩)
          · exact .inr ⟨h1, h3, .inr ⟨rfl, h4⟩⟩
      · rintro ((⟨h1, x, h2, h3, h4⟩ | ⟨k, x, rfl, h1, h2, h3, h4⟩) | ⟨h1, h2, (⟨rfl, h3⟩ | ⟨rfl, h3⟩)⟩)
        · exact .inl ⟨h1, x, (hg _ _).mpr (.inl h2), h3, h4⟩
        · exact .inr ⟨k, x, rfl, h1, (hg _ _).mpr (.inl h2), h3, h4⟩
        · exact .inl ⟨h1, i, (hg _ _).mpr (.inr ⟨rfl, rfl⟩), h2, h3⟩
        · exact .inr ⟨_, i, rfl, h1, (hg _ _).mpr (.inr ⟨rfl, rfl⟩), h2, h3⟩
    rw [hr, ← h j]
    by_cases q : (p.testBit as.length && i.holds c) = true
    · rw [if_pos q]
      rw [Bool.and_eq_true] at q
      by_cases q1 : i.m ≠ 42 <;> by_cases q2 : i.loop = true <;> simp [q1, q2, q.1, q.2, orN_bit, bit1]
      constructor
      · rintro ((z | z) | z)
        · exact .inl z
        · exact .inr (.inl z)
        · exact .inr (.inr z)
      · rintro (z | z | z)
        · exact .inl (.inl z)
        · exact .inl (.inr z)
        · exact .inr z
    · rw [if_neg q]
      rw [Bool.and_eq_true] at q
      exact ⟨.inl, fun z => z.elim id fun z => absurd ⟨z.1, z.2.1⟩ q⟩
theorem step_bit (is : List Item) (p c j : Nat) : (stepN is 0 p c 0).testBit j = true ↔ raw is p c j := by
  refine stepN_bit is [] p c 0 (fun j => ?_) j
  rw [Nat.zero_testBit]
  constructor
  · intro z; cases z
  · rintro (⟨_, i, h, _⟩ | ⟨k, i, _, _, h, _⟩) <;> simp at h
theorem next_bit (is : List Item) (p c j : Nat) : (nextN is p c).testBit j = true ↔ clo is (raw is p c) j := by
  unfold nextN
  rw [let_bit]
  have : (fun k => (stepN is 0 p c 0).testBit k = true) = raw is p c := by funext k; exact propext (step_bit is p c k)
  rw [this]
/-- a place is reached by signs -/
def Reach (is : List Item) (w : List Nat) (k : Nat) : Prop := k ≤ is.length ∧ ∃ u v, w = u ++ v ∧ fits (is.take k) u ∧ (v = [] ∨ ∃ i, is[k]? = some i ∧ i.loop = true ∧ ∀ c, c ∈ v → i.holds c = true)
theorem take_snoc {α : Type} {is : List α} {k : Nat} {i : α} (h : is[k]? = some i) : is.take (k + 1) = is.take k ++ [i] := by rw [List.take_succ, h]; rfl
theorem reach_end {is : List Item} {w : List Nat} : Reach is w is.length ↔ fits is w := by
  constructor
  · rintro ⟨_, u, v, rfl, h1, (rfl | ⟨i, h2, _⟩)⟩
    · rwa [List.take_length, ← List.append_nil u] at h1
    · rw [List.getElem?_eq_none (Nat.le_refl _)] at h2; cases h2
  · intro h
    exact ⟨Nat.le_refl _, w, [], by simp, by rwa [List.take_length], .inl rfl⟩
theorem fits_nil_reach {is : List Item} : ∀ k, Reach is [] k ↔ clo is (fun j => j = 0) k
  | 0 => by
    constructor
    · intro _; rfl
    · intro _; exact ⟨Nat.zero_le _, [], [], rfl, rfl, .inl rfl⟩
  | k + 1 => by
    have ih := fits_nil_reach (is := is) k
    unfold clo
    constructor
    · rintro ⟨hk, u, v, e, h1, _⟩
      have eu : u = [] := (List.append_eq_nil_iff.mp e.symm).1
      subst eu
      have hi : is[k]? = some is[k] := List.getElem?_eq_getElem (by omega)
      rw [take_snoc hi, fits_snoc] at h1
      obtain ⟨u1, v1, e1, h2, h3⟩ := h1
      obtain ⟨rfl, rfl⟩ := List.append_eq_nil_iff.mp e1.symm
      refine .inr ⟨ih.mp ⟨by omega, [], [], rfl, h2, .inl rfl⟩, is[k], hi, ?_⟩
      exact h3.2.1.elim id fun z => absurd rfl z
    · rintro (h | ⟨h1, i, h2, h3⟩)
      · cases h
      · obtain ⟨hk, u, v, e, h4, _⟩ := ih.mpr h1
        obtain ⟨rfl, rfl⟩ := List.append_eq_nil_iff.mp e.symm
        have hl := (List.getElem?_eq_some_iff.mp h2).1
        refine ⟨by omega, [], [], rfl, ?_, .inl rfl⟩
        rw [take_snoc h2, fits_snoc]
        exact ⟨[], [], rfl, h4, (fun c m => by cases m), .inl h3, .inr (Nat.zero_le _)⟩
theorem snoc_cases {α : Type} (v : List α) : v = [] ∨ ∃ v' c, v = v' ++ [c] := by
  rcases List.eq_nil_or_concat v with h | ⟨v', c, h⟩
  · exact .inl h
  · exact .inr ⟨v', c, by rw [h, List.concat_eq_append]⟩
theorem snoc_inj {α : Type} {w v : List α} {c d : α} (h : w ++ [c] = v ++ [d]) : w = v ∧ c = d := by
  have := List.append_inj' h rfl
  exact ⟨this.1, by simpa using this.2⟩
theorem reach_next {is : List Item} {w : List Nat} {c : Nat} {p : Nat} (hp : ∀ j, p.testBit j = true ↔ Reach is w j) : ∀ k, Reach is (w ++ [c]) k ↔ clo is (raw is p c) k
  | 0 => by
    unfold clo raw
    constructor
    · rintro ⟨hk, u, v, e, h1, h2⟩
      cases h1
      rw [List.nil_append] at e
      subst e
      rcases h2 with h2 | ⟨i, h2, h3, h4⟩
      · simp at h2
      · exact .inl ⟨(hp 0).mpr ⟨hk, [], w, rfl, rfl, .inr ⟨i, h2, h3, fun d m => h4 d (by simp [m])⟩⟩, i, h2, h4 c (by simp), h3⟩
    · rintro (⟨h1, i, h2, h3, h4⟩ | ⟨j, i, z, _⟩)
      · obtain ⟨hk, u, v, rfl, h5, h6⟩ := (hp 0).mp h1
        refine ⟨hk, u, v ++ [c], by simp, h5, .inr ⟨i, h2, h4, fun d m => ?_⟩⟩
        rcases List.mem_append.mp m with m | m
        · rcases h6 with rfl | ⟨i', h7, _, h8⟩
          · cases m
          · rw [h2] at h7; cases h7; exact h8 d m
        · rw [List.mem_singleton.mp m]; exact h3
      · cases z
  | k + 1 => by
    have ih := reach_next hp (c := c) k
    unfold clo
    constructor
    · rintro ⟨hk, u, v, e, h1, h2⟩
      rcases snoc_cases v with rfl | ⟨v', d, rfl⟩
      · rw [List.append_nil] at e
        subst e
        have hi : is[k]? = some is[k] := List.getElem?_eq_getElem (by omega)
        rw [take_snoc hi, fits_snoc] at h1
        obtain ⟨u1, v1, e1, h3, h4⟩ := h1
        rcases snoc_cases v1 with rfl | ⟨v2, d, rfl⟩
        · rw [List.append_nil] at e1
          subst e1
          exact .inr ⟨ih.mp ⟨by omega, w ++ [c], [], by simp, h3, .inl rfl⟩, _, hi, h4.2.1.elim id fun z => absurd rfl z⟩
        · rw [← List.append_assoc] at e1
          obtain ⟨rfl, rfl⟩ := snoc_inj e1
          have hc : is[k].holds c = true := h4.1 c (by simp)
          have hv : ∀ x, x ∈ v2 → is[k].holds x = true := fun x m => h4.1 x (by simp [m])
          by_cases hm : is[k].m = 42
          · refine .inr ⟨ih.mp ⟨by omega, u1, v2 ++ [c], by simp, h3, .inr ⟨_, hi, by simp [Item.loop, hm], h4.1⟩⟩, _, hi, by simp [Item.skip, hm]⟩
          · refine .inl (.inr ⟨k, is[k], rfl, (hp k).mpr ⟨by omega, u1, v2, rfl, h3, ?_⟩, hi, hc, hm⟩)
            by_cases hl : is[k].loop = true
            · exact .inr ⟨_, hi, hl, hv⟩
            · refine .inl ?_
              have := h4.2.2.elim (fun z => absurd z hl) id
              simp at this
              exact this
      · rw [← List.append_assoc] at e
        obtain ⟨rfl, rfl⟩ := snoc_inj e
        rcases h2 with h2 | ⟨i, h2, h3, h4⟩
        · simp at h2
        · exact .inl (.inl ⟨(hp _).mpr ⟨hk, u, v', rfl, h1, .inr ⟨i, h2, h3, fun x m => h4 x (by simp [m])⟩⟩, i, h2, h4 c (by simp), h3⟩)
    · rintro ((⟨h1, i, h2, h3, h4⟩ | ⟨j, i, ej, h1, h2, h3, h4⟩) | ⟨h1, i, h2, h3⟩)
      · obtain ⟨hk, u, v, rfl, h5, h6⟩ := (hp _).mp h1
        refine ⟨hk, u, v ++ [c], by simp, h5, .inr ⟨i, h2, h4, fun d m => ?_⟩⟩
        rcases List.mem_append.mp m with m | m
        · rcases h6 with rfl | ⟨i', h7, _, h8⟩
          · cases m
          · rw [h2] at h7; cases h7; exact h8 d m
        · rw [List.mem_singleton.mp m]; exact h3
      · have ej : k = j := by omega
        subst ej
        obtain ⟨hk, u, v, rfl, h5, h6⟩ := (hp _).mp h1
        have hl := (List.getElem?_eq_some_iff.mp h2).1
        refine ⟨by omega, u ++ v ++ [c], [], by simp, ?_, .inl rfl⟩
        rw [take_snoc h2, fits_snoc]
        refine ⟨u, v ++ [c], by simp, h5, fun d m => ?_, .inr (by simp), ?_⟩
        · rcases List.mem_append.mp m with m | m
          · rcases h6 with rfl | ⟨i', h7, _, h8⟩
            · cases m
            · rw [h2] at h7; cases h7; exact h8 d m
          · rw [List.mem_singleton.mp m]; exact h3
        · rcases h6 with rfl | ⟨i', h7, h8, _⟩
          · exact .inr (by simp)
          · rw [h2] at h7; cases h7; exact .inl h8
      · obtain ⟨hk, u, v, e, h5, h6⟩ := ih.mpr h1
        have hl := (List.getElem?_eq_some_iff.mp h2).1
        refine ⟨by omega, w ++ [c], [], by simp, ?_, .inl rfl⟩
        rw [take_snoc h2, fits_snoc]
        refine ⟨u, v, e, h5, ?_, .inl h3, ?_⟩
        · rcases h6 with rfl | ⟨i', h7, _, h8⟩
          · intro d m; cases m
          · rw [h2] at h7; cases h7; exact h8
        · rcases h6 with rfl | ⟨i', h7, h8, _⟩
          · exact .inr (by simp)
          · rw [h2] at h7; cases h7; exact .inl h8
theorem run_bit_n (is : List Item) : ∀ (n : Nat) (w : List Nat), w.length = n → ∀ k : Nat, (runN is w).testBit k = true ↔ Reach is w k
  | 0, w, h, k => by
    have : w = [] := List.length_eq_zero_iff.mp h
    subst this
    rw [fits_nil_reach]
    show (letN is 0 1).testBit k = true ↔ _
    rw [let_bit]
    have : (fun k => (1 : Nat).testBit k = true) = fun j => j = 0 := by
      funext j; exact propext (by rw [one_bit]; simp)
    rw [this]
  | n + 1, w, h, k => by
    rcases snoc_cases w with rfl | ⟨v, c, rfl⟩
    · cases h
    · have ih := run_bit_n is n v (by simpa using h)
      rw [reach_next ih]
      unfold runN
      rw [List.foldl_append]
      exact next_bit is _ c k
theorem run_bit (is : List Item) (w : List Nat) (k : Nat) : (runN is w).testBit k = true ↔ Reach is w k := run_bit_n is _ w rfl k
theorem run_done (is : List Item) (w : List Nat) : (runN is w).testBit is.length = true ↔ fits is w := (run_bit is w _).trans reach_end
theorem run_snoc (is : List Item) (w : List Nat) (c : Nat) : runN is (w ++ [c]) = nextN is (runN is w) c := by unfold runN; rw [List.foldl_append]; rfl
theorem next_zero (is : List Item) (c : Nat) : nextN is 0 c = 0 := by
  apply Nat.eq_of_testBit_eq
  intro j
  rw [Nat.zero_testBit, ← Bool.not_eq_true, next_bit]
  induction j with
  | zero =>
    unfold clo raw
    rintro (⟨h, _⟩ | ⟨_, _, _, h, _⟩) <;> simp at h
  | succ j ih =>
    unfold clo
    rintro ((⟨h, _⟩ | ⟨_, _, _, h, _⟩) | ⟨h, _⟩)
    · simp at h
    · simp at h
    · exact ih h
theorem run_zero (is : List Item) {w : List Nat} (h : runN is w = 0) : ∀ v, runN is (w ++ v) = 0 := by
  intro v
  induction v generalizing w with
  | nil => simpa using h
  | cons c v ih =>
    have : w ++ c :: v = (w ++ [c]) ++ v := by simp
    rw [this]
    exact ih (by rw [run_snoc, h, next_zero])
/-! ### the stretch -/
/-- e is an end of a stretch that begins at b -/
def Ends (is : List Item) (back : Bool) (row : List Nat) (b e : Nat) : Prop := b ≤ e ∧ e ≤ row.length ∧ fits is ((row.drop b).take (e - b)) ∧ (back = true → e = row.length)
/-- the last end, by going through the rest of the row -/
def lastG (is : List Item) (back : Bool) : List Nat → Nat → Nat → Option Nat → Option Nat
  | [], p, a, r => if p = 0 then r else if p.testBit is.length = true then some a else r
  | c :: cs, p, a, r => if p = 0 then r else lastG is back cs (nextN is p c) (a + 1) (if p.testBit is.length = true ∧ back = false then some a else r)
def lastF (is : List Item) (back : Bool) (row : List Nat) (b : Nat) : Option Nat := lastG is back (row.drop b) (firstN is) b none
/-- r is the greatest end -/
def Last (E : Nat → Prop) (r : Option Nat) : Prop := match r with
  | none => ∀ e, ¬E e
  | some e => E e ∧ ∀ e', E e' → e' ≤ e
theorem lastG_spec (is : List Item) (back : Bool) (row : List Nat) (b : Nat) : ∀ (cs w : List Nat) (a : Nat) (r : Option Nat), row.drop b = w ++ cs → a = b + w.length → a ≤ row.length → Last (fun e => Ends is back row b e ∧ e < a) r →
    Last (Ends is back row b) (lastG is back cs (runN is w) a r)
  | cs, w, a, r, h1, h2, h3, h4 => by
    have hlen : row.length = a + cs.length := by
      have := congrArg List.length h1
      rw [List.length_drop, List.length_append] at this; omega
    have hend : ∀ e, a ≤ e → e ≤ row.length → (Ends is back row b e ↔ fits is (w ++ cs.take (e - a)) ∧ (back = true → e = row.length)) := by
      intro e he hr
      unfold Ends
      rw [h1, List.take_append]
      have e1 : List.take (e - b) w = w := List.take_of_length_le (by omega)
      rw [e1, show e - b - w.length = e - a by omega]
      exact ⟨fun z => ⟨z.2.2.1, z.2.2.2⟩, fun z => ⟨by omega, hr, z.1, z.2⟩⟩
    -- nothing farther on where no place is left
    by_cases h0 : runN is w = 0
    · have hno : ∀ e, a ≤ e → e ≤ row.length → ¬Ends is back row b e := by
        intro e he hr z
        have := (hend e he hr).mp z
        have k := (run_done is _).mpr this.1
        rw [run_zero is h0] at k
        rw [Nat.zero_testBit] at k; cases k
      have key : Last (Ends is back row b) r := by
        cases r with
        | none =>
          intro e z
          by_cases he : e < a
          · exact h4 e ⟨z, he⟩
          · exact hno e (by omega) z.2.1 z
        | some e0 =>
          refine ⟨h4.1.1, fun e z => ?_⟩
          by_cases he : e < a
          · exact h4.2 e ⟨z, he⟩
          · exact absurd z (hno e (by omega) z.2.1)
      cases cs with
      | nil => unfold lastG; rw [if_pos h0]; exact key
      | cons c cs => unfold lastG; rw [if_pos h0]; exact key
    · cases cs with
      | nil =>
        unfold lastG
        rw [if_neg h0]
        have hal : a = row.length := by simp at hlen; omega
        have hE : Ends is back row b a ↔ (runN is w).testBit is.length = true := by
          rw [hend a (Nat.le_refl _) h3, run_done]
          simp [hal]
        split
        · rename_i q
          exact ⟨hE.mpr q, fun e z => by have := z.2.1; omega⟩
        · rename_i q
          cases r with
          | none =>
            intro e z
            by_cases he : e < a
            · exact h4 e ⟨z, he⟩
            · have : e = a := by have := z.2.1; omega
              subst this; exact q (hE.mp z)
          | some e0 =>
            refine ⟨h4.1.1, fun e z => ?_⟩
            by_cases he : e < a
            · exact h4.2 e ⟨z, he⟩
            · have : e = a := by have := z.2.1; omega
              subst this; exact absurd (hE.mp z) q
      | cons c cs =>
        unfold lastG
        rw [if_neg h0]
        have hal : a < row.length := by simp at hlen; omega
        have hE : Ends is back row b a ↔ ((runN is w).testBit is.length = true ∧ back = false) := by
          rw [hend a (Nat.le_refl _) h3, run_done]
          simp only [Nat.sub_self, List.take_zero, List.append_nil]
          refine and_congr Iff.rfl ?_
          cases back
          · simp
          · simp; omega
        rw [← run_snoc]
        refine lastG_spec is back row b cs (w ++ [c]) (a + 1) _ (by rw [h1]; simp) (by simp; omega) hal ?_
        split
        · rename_i q
          exact ⟨⟨hE.mpr q, by omega⟩, fun e z => by have := z.2; omega⟩
        · rename_i q
          cases r with
          | none =>
            rintro e ⟨z, he⟩
            by_cases he2 : e < a
            · exact h4 e ⟨z, he2⟩
            · have : e = a := by omega
              subst this; exact q (hE.mp z)
          | some e0 =>
            refine ⟨⟨h4.1.1, by have := h4.1.2; omega⟩, fun e z => ?_⟩
            by_cases he2 : e < a
            · exact h4.2 e ⟨z.1, he2⟩
            · have : e = a := by omega
              subst this; exact absurd (hE.mp z.1) q
termination_by cs => cs.length
theorem lastF_spec (is : List Item) (back : Bool) (row : List Nat) {b : Nat} (hb : b ≤ row.length) : Last (Ends is back row b) (lastF is back row b) :=
  lastG_spec is back row b (row.drop b) [] b none rfl rfl hb fun e z => by have := z.1.1; have := z.2; omega
/-- the least beginning among so many from here on -/
def firstF (f : Nat → Option Nat) : Nat → Nat → Option (Nat × Nat)
  | 0, _ => none
  | n + 1, b => match f b with
    | some e => some (b, e)
    | none => firstF f n (b + 1)
def stretchF (front : Bool) (is : List Item) (back : Bool) (row : List Nat) (start : Nat) : Option (Nat × Nat) := firstF (lastF is back row) ((if front then 1 else row.length + 1) - start) start
theorem firstF_spec (f : Nat → Option Nat) : ∀ (n b : Nat), match firstF f n b with
    | none => ∀ k, b ≤ k → k < b + n → f k = none
    | some (k, e) => b ≤ k ∧ k < b + n ∧ f k = some e ∧ ∀ j, b ≤ j → j < k → f j = none
  | 0, b => by unfold firstF; intro k h1 h2; omega
  | n + 1, b => by
    unfold firstF
    cases q : f b with
    | some e => exact ⟨Nat.le_refl _, by omega, q, fun j h1 h2 => by omega⟩
    | none =>
      have ih := firstF_spec f n (b + 1)
      show (match firstF f n (b + 1) with | none => _ | some (k, e) => _ : Prop)
      cases q2 : firstF f n (b + 1) with
      | none =>
        rw [q2] at ih
        intro k h1 h2
        by_cases hk : k = b
        · subst hk; exact q
        · exact ih k (by omega) (by omega)
      | some ke =>
        obtain ⟨k, e⟩ := ke
        rw [q2] at ih
        refine ⟨by have := ih.1; omega, by have := ih.2.1; omega, ih.2.2.1, fun j h1 h2 => ?_⟩
        by_cases hk : j = b
        · subst hk; exact q
        · exact ih.2.2.2 j (by omega) h2
/-- the stretch told, by what fits -/
theorem stretchF_spec (front : Bool) (is : List Item) (back : Bool) (row : List Nat) (start : Nat) : match stretchF front is back row start with
    | none => ∀ b e, start ≤ b → (front = true → b = 0) → ¬Ends is back row b e
    | some (b, e) => start ≤ b ∧ (front = true → b = 0) ∧ Ends is back row b e ∧ (∀ e', Ends is back row b e' → e' ≤ e) ∧ ∀ b' e', start ≤ b' → b' < b → (front = true → b' = 0) → ¬Ends is back row b' e' := by
  have h := firstF_spec (lastF is back row) ((if front then 1 else row.length + 1) - start) start
  unfold stretchF
  cases q : firstF (lastF is back row) ((if front then 1 else row.length + 1) - start) start with
  | none =>
    rw [q] at h
    intro b e h1 h2 z
    have hb : b ≤ row.length := Nat.le_trans z.1 z.2.1
    have := h b h1 (by
      cases front with
      | true => have := h2 rfl; subst this; simp; omega
      | false => simp; omega)
    have s := lastF_spec is back row hb
    rw [this] at s
    exact s e z
  | some ke =>
    obtain ⟨k, e⟩ := ke
    rw [q] at h
    obtain ⟨h1, h2, h3, h4⟩ := h
    have hk : k ≤ row.length ∧ (front = true → k = 0) := by
      cases front with
      | true => simp at h2; exact ⟨by omega, fun _ => by omega⟩
      | false => simp at h2; exact ⟨by omega, fun z => by cases z⟩
    have s := lastF_spec is back row hk.1
    rw [h3] at s
    refine ⟨h1, hk.2, s.1, s.2, fun b' e' g1 g2 g3 z => ?_⟩
    have hb : b' ≤ row.length := by omega
    have s' := lastF_spec is back row hb
    rw [h4 b' g1 g2] at s'
    exact s' e' z
end Lw
/-! a word of plain signs: where it stands in a row. -/
namespace Lw
open PySem L2 Eng
/-- w stands in the row at i -/
def AtW (row w : List Nat) (i : Nat) : Prop := i + w.length ≤ row.length ∧ (row.drop i).take w.length = w
theorem at_iff (row w : List Nat) (i : Nat) : StrLaws.At (st row) (st w) (st row).length i ↔ AtW row w i := by
  unfold StrLaws.At AtW
  rw [StrLaws.subAt_eq, st_len, st_len]
  simp
theorem find3_spec (row w : List Nat) {s : Nat} (h : s ≤ row.length) : (Txt.find3 (st row) (st w) (s : Int) = -1 ∧ ∀ i, s ≤ i → ¬AtW row w i) ∨ ∃ i : Nat, Txt.find3 (st row) (st w) (s : Int) = i ∧ s ≤ i ∧ AtW row w i ∧ ∀ k, s ≤ k → k < i → ¬AtW row w k := by
  have hf : fromIndex (st row).length (s : Int) = s := by unfold fromIndex; omega
  unfold Txt.find3
  rw [hf, StrLaws.occ_eq]
  rcases StrLaws.occ_first (st row) (st w) (st row).length 1 (Nat.le_refl 1) (List.range' s ((st row).length + 1 - s)) s (fun i hi => (List.mem_range'_1.mp hi).1) with ⟨h0, hn⟩ | ⟨pre, a, post, e, h0, ha, hn⟩
  · rw [h0]
    refine .inl ⟨rfl, fun i hi z => ?_⟩
    refine hn i (List.mem_range'_1.mpr ⟨hi, ?_⟩) ((at_iff row w i).mpr z)
    rw [st_len]; have := z.1; omega
  · generalize (forIn (List.range' s ((st row).length + 1 - s)) ((#[] : Array Nat), s) (StrLaws.occBody (st row) (st w) (st row).length 1)).run.fst = A at h0
    obtain ⟨A⟩ := A
    cases A with
    | nil => simp at h0
    | cons x xs =>
      simp at h0
      subst h0
      refine .inr ⟨x, rfl, ?_, (at_iff row w x).mp ha, fun k h1 h2 z => ?_⟩
      · have : x ∈ List.range' s ((st row).length + 1 - s) := by rw [e]; simp
        exact (List.mem_range'_1.mp this).1
      · have hk : k ∈ List.range' s ((st row).length + 1 - s) := List.mem_range'_1.mpr ⟨h1, by rw [st_len]; have := z.1; omega⟩
        rw [e] at hk
        have hp : (List.range' s ((st row).length + 1 - s)).Pairwise (· < ·) := List.pairwise_lt_range'
        rw [e] at hp
        rcases List.mem_append.mp hk with m | m
        · exact hn k m ((at_iff row w k).mpr z)
        · rcases List.mem_cons.mp m with m | m
          · omega
          · have := (List.pairwise_append.mp hp).2.1
            have := (List.pairwise_cons.mp this).1 k m
            omega
theorem starts_iff (row w : List Nat) : Txt.startswith (st row) (st w) = true ↔ AtW row w 0 := by
  unfold Txt.startswith AtW
  rw [StrLaws.subAt_eq, st_len, st_len]
  simp
theorem ends_iff (row w : List Nat) : Txt.endswith (st row) (st w) = true ↔ w.length ≤ row.length ∧ AtW row w (row.length - w.length) := by
  unfold Txt.endswith AtW
  rw [StrLaws.subAt_eq, st_len, st_len]
  simp
  intro h _
  omega
/-- the items of a word -/
def wi (c : Nat) : Item := ⟨[c], false, 49⟩
def wis (w : List Nat) : List Item := w.map wi
theorem one_wi (c : Nat) (u : List Nat) : (wi c).one u ↔ u = [c] := by
  unfold Item.one wi Item.holds Item.skip Item.loop
  constructor
  · rintro ⟨h1, h2, h3⟩
    cases u with
    | nil => simp at h2
    | cons a u =>
      cases u with
      | nil => have := h1 a (by simp); simp at this; rw [this]
      | cons b u => simp at h3
  · rintro rfl
    simp
theorem fits_word : ∀ (w u : List Nat), fits (wis w) u ↔ u = w
  | [], u => Iff.rfl
  | c :: w, u => by
    show (∃ a b, u = a ++ b ∧ (wi c).one a ∧ fits (wis w) b) ↔ _
    constructor
    · rintro ⟨a, b, rfl, h1, h2⟩
      rw [(one_wi c a).mp h1, (fits_word w b).mp h2]; rfl
    · rintro rfl
      exact ⟨[c], w, rfl, (one_wi c _).mpr rfl, (fits_word w w).mpr rfl⟩
theorem ends_word (w : List Nat) (back : Bool) (row : List Nat) (b e : Nat) : Ends (wis w) back row b e ↔ AtW row w b ∧ e = b + w.length ∧ (back = true → e = row.length) := by
  unfold Ends AtW
  rw [fits_word]
  constructor
  · rintro ⟨h1, h2, h3, h4⟩
    have hl : e - b = w.length := by
      have := congrArg List.length h3
      simp at this; omega
    rw [hl] at h3
    exact ⟨⟨by omega, h3⟩, by omega, h4⟩
  · rintro ⟨⟨h1, h2⟩, rfl, h4⟩
    refine ⟨by omega, h1, ?_, h4⟩
    rw [show b + w.length - b = w.length by omega]; exact h2
/-- what is told, by where the word stands -/
theorem told_some {front back : Bool} {w row : List Nat} {s b : Nat} (h1 : s ≤ b) (h2 : front = true → b = 0) (h3 : AtW row w b) (h4 : back = true → b + w.length = row.length) (h5 : back = false → ∀ k, s ≤ k → k < b → (front = true → k = 0) → ¬AtW row w k) :
    stretchF front (wis w) back row s = some (b, b + w.length) := by
  have sp := stretchF_spec front (wis w) back row s
  cases q : stretchF front (wis w) back row s with
  | none =>
    rw [q] at sp
    exact (sp b (b + w.length) h1 h2 ((ends_word ..).mpr ⟨h3, rfl, h4⟩)).elim
  | some be =>
    obtain ⟨b', e'⟩ := be
    rw [q] at sp
    obtain ⟨g1, g2, g3, g4, g5⟩ := sp
    obtain ⟨k1, k2, k3⟩ := (ends_word ..).mp g3
    have : b' = b := by
      rcases Nat.lt_trichotomy b' b with h | h | h
      · cases back with
        | true => have := k3 rfl; have := h4 rfl; omega
        | false => exact (h5 rfl b' g1 h g2 k1).elim
      · exact h
      · exact (g5 b (b + w.length) h1 h h2 ((ends_word ..).mpr ⟨h3, rfl, h4⟩)).elim
    subst this
    rw [k2]
theorem told_none {front back : Bool} {w row : List Nat} {s : Nat} (h : ∀ b, s ≤ b → (front = true → b = 0) → AtW row w b → (back = true → b + w.length = row.length) → False) : stretchF front (wis w) back row s = none := by
  have sp := stretchF_spec front (wis w) back row s
  cases q : stretchF front (wis w) back row s with
  | none => rfl
  | some be =>
    obtain ⟨b', e'⟩ := be
    rw [q] at sp
    obtain ⟨g1, g2, g3, g4, g5⟩ := sp
    obtain ⟨k1, k2, k3⟩ := (ends_word ..).mp g3
    exact (h b' g1 g2 k1 fun z => by have := k3 z; omega).elim
end Lw
/-! the laws' items by cells. -/
namespace Lw
open PySem L2 Eng
def S94 : List Nat := [32, 33, 34, 35, 36, 38, 39, 40, 41, 42, 43, 44, 45, 46, 47, 48, 49, 50, 51, 52, 53, 54, 55, 56, 57, 58, 59, 60, 61, 62, 63, 64, 65, 66, 67, 68, 69, 70, 71, 72, 73, 74, 75, 76, 77, 78, 79, 80, 81, 82, 83, 84, 85, 86, 87, 88, 89, 90, 91, 92, 93, 94, 95, 96, 97, 98, 99, 100, 101, 102, 103, 104, 105, 106, 107, 108, 109, 110, 111, 112, 113, 114, 115, 116, 117, 118, 119, 120, 121, 122, 123, 124, 125, 126]
theorem signs_eq : F_w_signs [] = some (.sh (.str S94)) := by
  refine runF_rt rfl ?_
  unfold b_w_signs N_w_signs
  simp [S94]
def not3 (x : Nat) : Bool := !decide (x = 93) && (!decide (x = 94) && !decide (x = 47))
def some91 : List Nat := S94.filter not3
theorem some91_len : some91.length = 91 := by decide +kernel
theorem S94_len : S94.length = 94 := by decide +kernel
theorem S94_ok : ∀ c, c ∈ S94 → c < 1114112 ∧ c ≠ 10 := by decide +kernel
def sgn91 (i : Int) : Nat := some91.getD (i % 91).toNat 0
theorem mod_rng (i : Int) {k : Int} (h : 0 < k) : 0 ≤ i % k ∧ i % k < k := ⟨Int.emod_nonneg _ (by omega), Int.emod_lt_of_pos _ h⟩
theorem sgn91_at (i : Int) : atI some91 (i % 91) = some (sgn91 i) := by
  have h := mod_rng i (k := 91) (by decide)
  exact atI_getD 0 h.1 (by rw [some91_len]; omega)
theorem atI_mem {α : Type} {xs : List α} {i : Int} {x : α} (h : atI xs i = some x) : x ∈ xs := by
  unfold atI at h
  cases q : ixN xs.length i with
  | none => rw [q] at h; cases h
  | some k => rw [q] at h; exact List.mem_of_getElem? h
theorem sgn91_mem (i : Int) : sgn91 i ∈ S94 := (List.mem_filter.mp (atI_mem (sgn91_at i))).1
def numF (c : Int) : Int := c * 48271 % 2147483647
def stpF (n : Int) : Int := [1, 2, 5, 23].getD (n / 1092 % 4).toNat 0
theorem stp_at (n : Int) : atI [D.int 1, D.int 2, D.int 5, D.int 23] (n / 1092 % 4) = some (.int (stpF n)) := by
  have h := mod_rng (n / 1092) (k := 4) (by decide)
  show atI ([(1 : Int), 2, 5, 23].map D.int) _ = _
  rw [atI_mapE, atI_getD 0 h.1 (by simp; omega)]; rfl
def codeF (c : Int) : Nat := [49, 42, 43, 63].getD (c / 5 % 4).toNat 0
theorem code_at (c : Int) : atI [D.str [49], D.str [42], D.str [43], D.str [63]] (c / 5 % 4) = some (.str [codeF c]) := by
  have h := mod_rng (c / 5) (k := 4) (by decide)
  show atI ([49, 42, 43, 63].map fun x : Nat => D.str [x]) _ = _
  rw [atI_mapE, atI_getD 0 h.1 (by simp; omega)]; rfl
theorem code_four (c : Int) : codeF c = 49 ∨ codeF c = 42 ∨ codeF c = 43 ∨ codeF c = 63 := by
  have h := mod_rng (c / 5) (k := 4) (by decide)
  unfold codeF
  have : c / 5 % 4 = 0 ∨ c / 5 % 4 = 1 ∨ c / 5 % 4 = 2 ∨ c / 5 % 4 = 3 := by omega
  rcases this with h | h | h | h <;> rw [h] <;> simp
def mnyF (c : Int) : Int := if 2 < c % 5 then 1 + numF c / 91 % 12 else 1
theorem mny_rng (c : Int) : 1 ≤ mnyF c ∧ mnyF c ≤ 12 := by
  have h := mod_rng (numF c / 91) (k := 12) (by decide)
  unfold mnyF; split <;> omega
def sgnsF (c : Int) : List Nat := (List.range (mnyF c).toNat).map fun k : Nat => sgn91 (numF c + stpF (numF c) * (k : Int))
def itemF (c : Int) : Item := { s := if c % 5 = 2 then [] else sgnsF c, o := decide (c % 5 = 4) || decide (c % 5 = 2), m := codeF c }
theorem sgns_lc (c N m st : Int) (hm : 1 ≤ m ∧ m ≤ 12) (x6 x7 x8 x9 : Option D) :
    lcK [8] (.nm 8) .non (.idx (.var 1) (.bin .Mod (.bin .Add (.var 2) (.bin .Mult (.var 4) (.var 8))) (.cst (.int 91)))) [some (.int c), some (.lst (some91.map fun x => .str [x])), some (.int N), some (.int m), some (.int st), x6, x7, x8, x9] ((List.range m.toNat).map fun i : Nat => D.int i) =
      some (.lst ((List.range m.toNat).map fun i : Nat => T.sh (.str [sgn91 (N + st * (i : Int))]))) := by
  rw [lcK_map (g := fun i : Nat => D.int (i : Int)) (k := fun i : Nat => T.sh (.str [sgn91 (N + st * (i : Int))]))]
  · rw [List.length_range]; simp; omega
  · intro i hi
    have hi : i < m.toNat := List.mem_range.mp hi
    have h1 := mul_r st (j := (i : Int)) (by omega) (by omega)
    simp [lcF, h1, sgn91_at]
theorem join_signs {α : Type} (h : α → Nat) (xs : List α) : TL.joinL [] (xs.map fun k => [h k]) = xs.map h := by
  have : ∀ rows : List (List Nat), TL.joinL [] rows = rows.flatten := by
    intro rows
    induction rows with
    | nil => rfl
    | cons p rows ih =>
      cases rows with
      | nil => simp [TL.joinL]
      | cons q r =>
        show p ++ ([] ++ TL.joinL [] (q :: r)) = _
        rw [ih]; simp
  rw [this]
  induction xs with
  | nil => rfl
  | cons x xs ih => simp at ih ⊢; exact ih
theorem sum_one {α : Type} (h : α → Nat) (xs : List α) : (xs.map (List.length ∘ fun k => [h k])).sum = xs.length := by
  rw [show (List.length ∘ fun k => [h k]) = fun _ => 1 from rfl, sum_ones]
theorem item_eq (c : Int) : F_w_item [.int c] = some (.sh (itemF c).D) := by
  refine runF_rt rfl ?_
  have hm := mny_rng c
  have hs := signs_eq
  have h4 := code_at c
  have hj : (mnyF c).toNat ≤ 16777216 := by omega
  have hr := rng0 (n := mnyF c) (by omega)
  have hst := stp_at (numF c)
  have hlc := fun x6 x7 x8 x9 => sgns_lc c (numF c) (mnyF c) (stpF (numF c)) hm x6 x7 x8 x9
  have hn : c * 48271 % 2147483647 = numF c := rfl
  unfold b_w_item N_w_item
  simp [hs]
  rw [lcK_filter (g := fun c : Nat => D.str [c]) (k := fun c => T.sh (.str [c])) (p := not3)]
  · rw [show List.filter not3 S94 = some91 from rfl]
    by_cases h1 : 2 < c % 5
    · have h2 : ¬c % 5 = 2 := by omega
      have hmy : 1 + numF c / 91 % 12 = mnyF c := by unfold mnyF; rw [if_pos h1]
      simp [hn, h1, h2, hst, hmy, hr, hlc, join_signs, sum_one, hj, h4, itemF, Item.D, sgnsF]
    · have hmy : (1 : Int) = mnyF c := by unfold mnyF; rw [if_neg h1]
      rw [← hmy] at hr hlc hj
      have h3 : ¬c % 5 = 4 := by omega
      simp at hlc hr
      by_cases h2 : c % 5 = 2
      · simp [hn, h1, h2, hst, hr, hlc, h4, itemF, Item.D]
      · simp [hn, h1, h2, h3, hst, hr, hlc, h4, itemF, Item.D, sgnsF, ← hmy]
  · rw [S94_len]; decide
  · intro x hx
    simp [lcF, subOf_one, not3]
    split <;> rfl
end Lw
/-! patterns read: the defs. -/
namespace Lw
open PySem L2 Eng
def NP : List Nat := [94, 36, 46, 91, 93, 42, 43, 63, 47]
def plainS : List Nat → Bool
  | [c] => !decide (c ∈ NP)
  | _ => false
def coreI (i : Item) : List Nat := if i.o = true ∧ i.s = [] then [46] else if i.o = true then 91 :: 94 :: (i.s ++ [93]) else if plainS i.s = true then i.s else 91 :: (i.s ++ [93])
def itxt (i : Item) : List Nat := coreI i ++ (if i.m = 49 then [] else [i.m])
structure OkI (i : Item) : Prop where
  sg : ∀ c, c ∈ i.s → c ∈ some91
  nd : i.s.Nodup
  ln : i.s.length ≤ 12
  ne : i.s = [] → i.o = true
  mm : i.m = 49 ∨ i.m = 42 ∨ i.m = 43 ∨ i.m = 63
theorem some91_ok : ∀ c, c ∈ some91 → c ∈ S94 ∧ c ≠ 93 ∧ c ≠ 94 ∧ c ≠ 47 := by decide +kernel
theorem cut_from {α : Type} (xs : List α) (k : Nat) : cutL xs (some (k : Int)) none = xs.drop k := by
  show (xs.drop (HT.sIx xs.length 0 (some (k : Int)))).take (HT.sIx xs.length xs.length none - HT.sIx xs.length 0 (some (k : Int))) = _
  rw [HT.sIx_nat, HT.sIx_none]
  by_cases h : k ≤ xs.length
  · rw [Nat.min_eq_left h, List.take_of_length_le (by rw [List.length_drop]; omega)]
  · rw [Nat.min_eq_right (by omega), List.drop_of_length_le (by omega), List.drop_of_length_le (l := xs) (i := k) (by omega)]; simp
theorem cut_mid {α : Type} (xs : List α) {a b : Nat} (h1 : a ≤ xs.length) (h2 : b ≤ xs.length) : cutL xs (some (a : Int)) (some (b : Int)) = (xs.drop a).take (b - a) := by
  show (xs.drop (HT.sIx xs.length 0 (some (a : Int)))).take (HT.sIx xs.length xs.length (some (b : Int)) - HT.sIx xs.length 0 (some (a : Int))) = _
  rw [HT.sIx_nat, HT.sIx_nat, Nat.min_eq_left h1, Nat.min_eq_left h2]
theorem cut_to {α : Type} (xs : List α) {b : Nat} (h2 : b ≤ xs.length) : cutL xs none (some (b : Int)) = xs.take b := by
  show (xs.drop (HT.sIx xs.length 0 none)).take (HT.sIx xs.length xs.length (some (b : Int)) - HT.sIx xs.length 0 none) = _
  rw [HT.sIx_nat, HT.sIx_none, Nat.min_eq_left h2]; simp
theorem is_plain_eq {s : List Nat} (h : s.length ≤ 100) : F_is_plain [.str s] = some (.sh (.bl (plainS s))) := by
  have hl : s.length ≤ 16777216 := by omega
  refine runF_rt rfl ?_
  unfold b_is_plain N_is_plain
  match s, hl with
  | [], _ => simp [plainS]
  | [c], _ =>
    have hG : G_NOT_PLAIN = .str NP := rfl
    simp [hG, subOf_one, plainS]
  | a :: b :: r, hl =>
    have h2 : ¬((r.length : Int) + 1 + 1 = 1) := by omega
    simp at hl
    simp [plainS, hl, h2]
theorem en_str (s : List Nat) : (s.mapIdx fun i c => D.tup [.int (i : Nat), .str [c]]) = enF 0 (s.map fun c => D.str [c]) := by
  rw [← enm_eq]
  have : ∀ (r : List Nat) (f : Nat → D → D), r.mapIdx (fun i c => f i (.str [c])) = (r.map fun c => D.str [c]).mapIdx f := by
    intro r
    induction r with
    | nil => intro f; rfl
    | cons c r ih =>
      intro f
      rw [List.map_cons, List.mapIdx_cons, List.mapIdx_cons]
      exact congrArg _ (ih fun i d => f (i + 1) d)
  exact this s fun i y => .tup [.int (i : Nat), y]
theorem set_loop (n : Nat) (c0 c1 c2 c4 : Option T) {s : List Nat} (hl : s.length ≤ 100) (hs : ∀ c, c ∈ s → c ∈ some91) (nd : s.Nodup) : ∀ (r : List Nat) (k : Nat) (x5 x6 : Option T), s.drop k = r → k ≤ s.length →
    ∃ ρ', forGo (asgR (.tp [5, 6])) (exs n l1_set_at) (enF k (r.map fun c => D.str [c])) [c0, c1, c2, some (.sh (.str s)), c4, x5, x6] = some (.nx ([c0, c1, c2, some (.sh (.str s)), c4] ++ ρ'))
  | [], k, x5, x6, _, _ => ⟨[x5, x6], rfl⟩
  | c :: r, k, x5, x6, h, hk => by
    have hlt : k < s.length := by
      have := congrArg List.length h
      simp at this; omega
    have hd : s[k] = c ∧ s.drop (k + 1) = r := by
      rw [List.drop_eq_getElem_cons hlt] at h
      exact List.cons_eq_cons.mp h
    obtain ⟨ρ', ih⟩ := set_loop n c0 c1 c2 c4 hl hs nd r (k + 1) (some (.sh (.int k))) (some (.sh (.str [c]))) hd.2 hlt
    refine ⟨ρ', (forGo_step (ρ1 := [c0, c1, c2, some (.sh (.str s)), c4, some (.sh (.int k)), some (.sh (.str [c]))]) rfl (.inl ?_)).trans ih⟩
    have hcm : c ∈ s := by rw [← hd.1]; exact List.getElem_mem _
    obtain ⟨q0, q1, q2, q3⟩ := some91_ok c (hs c hcm)
    have hnt : c ∉ s.take k := by
      intro z
      have e : s = s.take k ++ (c :: r) := by rw [← h]; exact (List.take_append_drop k s).symm
      rw [e] at nd
      exact (List.nodup_append.mp nd).2.2 c z c (List.mem_cons_self ..) rfl
    have hl2 : s.length ≤ 16777216 := by omega
    unfold l1_set_at
    simp [subOf_one, q2, q3, hl2, cut_to s (Nat.le_of_lt hlt), hnt]
/-- the place of a sign -/
theorem find_at {text : List Nat} {p e c : Nat} (h1 : p ≤ e) (h2 : text[e]? = some c) (h3 : ∀ k, p ≤ k → k < e → text[k]? ≠ some c) : Txt.find3 (st text) (st [c]) (p : Int) = e := by
  have hl : e < text.length := (List.getElem?_eq_some_iff.mp h2).1
  have ha : ∀ i, AtW text [c] i ↔ text[i]? = some c := by
    intro i
    unfold AtW
    constructor
    · rintro ⟨g1, g2⟩
      have := congrArg (fun l => l[0]?) g2
      simpa using this
    · intro h
      have hi : i < text.length := (List.getElem?_eq_some_iff.mp h).1
      refine ⟨by simp; omega, ?_⟩
      rw [List.drop_eq_getElem_cons hi]
      have : text[i] = c := (List.getElem?_eq_some_iff.mp h).2
      simp [this]
  rcases find3_spec text [c] (s := p) (by omega) with ⟨_, hn⟩ | ⟨i, g1, g2, g3, g4⟩
  · exact (hn e h1 ((ha e).mpr h2)).elim
  · rw [g1]
    have : i = e := by
      rcases Nat.lt_trichotomy i e with h | h | h
      · exact (h3 i g2 h ((ha i).mp g3)).elim
      · exact h
      · exact (g4 e h1 h ((ha e).mpr h2)).elim
    rw [this]
theorem starts_94 (x : List Nat) : Txt.startswith (st x) (st [94]) = decide (x.head? = some 94) := by
  have := starts_iff x [94]
  have h2 : AtW x [94] 0 ↔ x.head? = some 94 := by
    unfold AtW
    cases x <;> simp
  rw [h2] at this
  by_cases h : x.head? = some 94
  · rw [this.mpr h]; simp [h]
  · cases q : Txt.startswith (st x) (st [94]) with
    | true => exact (h (this.mp q)).elim
    | false => simp [h]
theorem set_at_eq {text rest s : List Nat} {o : Bool} {p : Nat} (hl : text.length ≤ 1000) (ht : text.drop p = 91 :: ((if o then [94] else []) ++ s) ++ 93 :: rest) (hs : ∀ c, c ∈ s → c ∈ some91) (nd : s.Nodup) (hln : s.length ≤ 12) (hne : s ≠ []) (hpl : o = false → plainS s = false) :
    F_set_at [.str text, .int p] = some (.sh (.tup [.str s, .bl o, .int ((p + 2 + (if o then 1 else 0) + s.length : Nat) : Int)])) := by
  generalize hX : (if o then [94] else []) ++ s = X at ht
  have hXl : X.length = (if o then 1 else 0) + s.length := by rw [← hX]; cases o <;> simp <;> omega
  have hX93 : ∀ c, c ∈ X → c ≠ 93 := by
    intro c hc
    rw [← hX] at hc
    rcases List.mem_append.mp hc with hc | hc
    · cases o
      · cases hc
      · simp at hc; rw [hc]; decide
    · exact (some91_ok c (hs c hc)).2.1
  have hat : ∀ m, text[p + m]? = (91 :: X ++ 93 :: rest)[m]? := fun m => by
    have := congrArg (fun l => l[m]?) ht
    simp only [List.getElem?_drop] at this
    exact this
  have hlen := congrArg List.length ht
  simp at hlen
  have hf : Txt.find3 (st text) (st [93]) (p : Int) = ((p + 1 + X.length : Nat) : Int) := by
    refine find_at (by omega) ?_ fun k g1 g2 => ?_
    · rw [show p + 1 + X.length = p + (1 + X.length) by omega, hat]
      rw [List.getElem?_append_right (by simp; omega)]
      simp
      rw [show 1 + X.length - (X.length + 1) = 0 by omega]; rfl
    · obtain ⟨m, rfl⟩ : ∃ m, k = p + m := ⟨k - p, by omega⟩
      rw [hat, List.getElem?_append_left (by simp; omega)]
      intro z
      have := List.mem_of_getElem? z
      rcases List.mem_cons.mp this with h | h
      · cases h
      · exact hX93 93 h rfl
  have hd1 : text.drop (p + 1) = X ++ 93 :: rest := by
    rw [← List.drop_drop, ht]; rfl
  have hc : cutL text (some ((p : Int) + 1)) (some ((p : Int) + 1 + X.length)) = X := by
    have := cut_mid text (a := p + 1) (b := p + 1 + X.length) (by omega) (by omega)
    rw [hd1] at this
    rw [show p + 1 + X.length - (p + 1) = X.length by omega, List.take_left' rfl] at this
    exact this
  have hl2 : text.length ≤ 16777216 := by omega
  have hneg : ¬((p : Int) + 1 + X.length < 0) := by omega
  have hsl : s.length ≤ 16777216 := by omega
  have hXl2 : X.length ≤ 16777216 := by rw [hXl]; split <;> omega
  have h12 : ¬((12 : Int) < s.length) := by omega
  have hip := is_plain_eq (s := s) (by omega)
  have hst : Txt.startswith (st X) (st [94]) = o := by
    rw [starts_94, ← hX]
    cases o
    · cases s with
      | nil => rfl
      | cons c r => have := (some91_ok c (hs c (by simp))).2.2.1; simp [this]
    · rfl
  obtain ⟨ρ', hloop⟩ := set_loop 100000 (some (.sh (.str text))) (some (.sh (.int p))) (some (.sh (.int ((p : Int) + 1 + X.length)))) (some (.sh (.bl o))) (s := s) (by omega) hs nd s 0 none none rfl (Nat.zero_le _)
  refine runF_rt rfl ?_
  unfold b_set_at N_set_at
  cases o with
  | true =>
    have hX1 : X = 94 :: s := hX.symm
    have hx : cutL X (some 1) none = s := by rw [hX1]; exact cut_from (94 :: s) 1
    simp [hf, hneg, hc, hl2, hst, hx, hXl2, hne, hsl, h12, G_MOST_SIGNS, en_str, hloop]
    simp at hXl
    omega
  | false =>
    have hX1 : X = s := hX.symm
    subst hX1
    have hpl' := hpl rfl
    rw [hpl'] at hip
    simp [hf, hneg, hc, hl2, hst, hXl2, hne, hsl, h12, hip, G_MOST_SIGNS, en_str, hloop]
    omega
theorem core_len (i : Item) (h : OkI i) : (coreI i).length ≤ 15 := by
  have := h.ln
  unfold coreI
  split
  · simp
  · split
    · simp; omega
    · split
      · omega
      · simp; omega
theorem item_at_eq {text rest : List Nat} {p : Nat} {i : Item} (hi : OkI i) (hl : text.length ≤ 1000) (ht : text.drop p = coreI i ++ rest) : F_item_at [.str text, .int p] = some (.sh (.tup [.str i.s, .bl i.o, .int ((p + (coreI i).length : Nat) : Int)])) := by
  have hl2 : text.length ≤ 16777216 := by omega
  have hat0 : ∀ c r, text.drop p = c :: r → atI text (p : Int) = some c := fun c r h => atI_some (by omega) (by
    have := congrArg (fun l => l[0]?) h
    simpa using this)
  obtain ⟨s, o, m⟩ := i
  have hs := hi.sg
  have hn := hi.nd
  have hln := hi.ln
  have hne := hi.ne
  simp only at hs hn hln hne
  unfold coreI at ht ⊢
  simp only at ht ⊢
  refine runF_rt rfl ?_
  unfold b_item_at N_item_at
  by_cases h1 : o = true ∧ s = []
  · obtain ⟨rfl, rfl⟩ := h1
    simp at ht
    simp [hat0 _ _ ht, hl2]
  · rw [if_neg h1] at ht ⊢
    by_cases h2 : o = true
    · subst h2
      rw [if_pos rfl] at ht ⊢
      have hsn : s ≠ [] := fun z => h1 ⟨rfl, z⟩
      have hh := hat0 91 (94 :: (s ++ [93]) ++ rest) (by rw [ht]; rfl)
      have := set_at_eq (o := true) (rest := rest) hl (by rw [ht]; simp) hs hn hln hsn (fun z => by cases z)
      simp at this
      simp [hh, hl2, this]
      omega
    · have h2 : o = false := by simpa using h2
      subst h2
      have hsn : s ≠ [] := fun z => by have := hne z; cases this
      rw [if_neg (by decide)] at ht ⊢
      by_cases h3 : plainS s = true
      · rw [if_pos h3] at ht ⊢
        match s, h3, ht with
        | [c], h3, ht =>
          have hip := is_plain_eq (s := [c]) (by simp)
          rw [h3] at hip
          have hc : c ∉ NP := by simpa [plainS] using h3
          have c1 : c ≠ 46 := fun z => hc (by rw [z]; decide)
          have c2 : c ≠ 91 := fun z => hc (by rw [z]; decide)
          simp [hat0 c rest ht, hl2, c1, c2, hip]
      · rw [if_neg h3] at ht ⊢
        have hh := hat0 91 (s ++ [93] ++ rest) (by rw [ht]; rfl)
        have := set_at_eq (o := false) (rest := rest) hl (by rw [ht]; simp) hs hn hln hsn (fun _ => by simpa using h3)
        simp at this
        simp [hh, hl2, this]
        omega
abbrev itsT (is : List Item) : T := .lst (is.map fun i => T.sh i.D)
theorem pat_step (n : Nat) {text rest : List Nat} {is : List Item} {i : Item} {p : Nat} (x1 x4 x5 x6 x7 : Option T) (hi : OkI i) (hl : text.length ≤ 1000) (ht : text.drop p = itxt i ++ rest) (hr : ∀ d r, rest = d :: r → d ≠ 42 ∧ d ≠ 43 ∧ d ≠ 63) (hw : is.length ≤ 100) :
    ∃ x4' x5' x6', exs n l1_pattern [some (.sh (.str text)), x1, some (.sh (.int p)), some (itsT is), x4, x5, x6, x7] =
      some (.nx [some (.sh (.str text)), x1, some (.sh (.int ((p + (itxt i).length : Nat) : Int))), some (itsT (is ++ [i])), x4', x5', x6', x7]) := by
  have ht2 := ht
  unfold itxt at ht2
  rw [List.append_assoc] at ht2
  have h1 := item_at_eq hi hl ht2
  generalize hc : (coreI i).length = c at h1
  have hd : text.drop (p + c) = (if i.m = 49 then [] else [i.m]) ++ rest := by
    rw [← List.drop_drop, ht2, ← hc, List.drop_left]
  have hlen := congrArg List.length hd
  have hl2 : text.length ≤ 16777216 := by omega
  have hw2 : is.length < 16777216 := by omega
  have hil : (itxt i).length = c + (if i.m = 49 then 0 else 1) := by unfold itxt; rw [List.length_append, hc]; split <;> rfl
  rw [hil]
  have hat : ∀ a r, text.drop (p + c) = a :: r → atI text ((p : Int) + c) = some a := fun a r h => atI_some (by omega) (by
    have := congrArg (fun l => l[0]?) h
    simp at this
    rw [show ((p : Int) + c).toNat = p + c by omega]; exact this)
  obtain ⟨s, o, m⟩ := i
  have hmm := hi.mm
  simp only at hmm hd
  unfold l1_pattern
  by_cases hm : m = 49
  · subst hm
    simp at hd hlen
    refine ⟨some (.sh (.str [49])), some (.sh (.str s)), some (.sh (.bl o)), ?_⟩
    cases hrest : rest with
    | nil =>
      subst hrest
      have h2 : ¬((p : Int) + c < text.length) := by simp at hlen; omega
      simp at h1
      simp [h1, hl2, h2, Item.D, hw2]
    | cons d r =>
      obtain ⟨k1, k2, k3⟩ := hr d r hrest
      subst hrest
      have h2 : ((p : Int) + c < text.length) := by simp at hlen; omega
      simp at h1
      simp [h1, hl2, h2, Item.D, hw2, hat d r hd, subOf_one, k1, k2, k3]
  · rw [if_neg hm] at hd hlen
    refine ⟨some (.sh (.str [m])), some (.sh (.str s)), some (.sh (.bl o)), ?_⟩
    have h2 : ((p : Int) + c < text.length) := by simp at hlen; omega
    have hm3 : m = 42 ∨ m = 43 ∨ m = 63 := by omega
    have hh := hat m rest (by rw [hd]; rfl)
    simp at h1
    rcases hm3 with rfl | rfl | rfl <;> simp [h1, hl2, h2, Item.D, hw2, hh, subOf_one] <;> omega
theorem core_head (i : Item) (h : OkI i) : ∃ d r, coreI i = d :: r ∧ d ≠ 42 ∧ d ≠ 43 ∧ d ≠ 63 ∧ d ≠ 36 ∧ d ≠ 94 := by
  obtain ⟨s, o, m⟩ := i
  have hs := h.sg
  have hne := h.ne
  simp only at hs hne
  unfold coreI
  simp only
  split
  · exact ⟨46, [], rfl, by decide⟩
  · rename_i h1
    split
    · exact ⟨91, _, rfl, by decide⟩
    · split
      · rename_i h2 h3
        match s, h3 with
        | [c], h3 =>
          have hc : c ∉ NP := by simpa [plainS] using h3
          refine ⟨c, [], rfl, fun z => hc (by rw [z]; decide), fun z => hc (by rw [z]; decide), fun z => hc (by rw [z]; decide), fun z => hc (by rw [z]; decide), fun z => hc (by rw [z]; decide)⟩
      · exact ⟨91, _, rfl, by decide⟩
theorem itxt_head (i : Item) (h : OkI i) : ∃ d r, itxt i = d :: r ∧ d ≠ 42 ∧ d ≠ 43 ∧ d ≠ 63 ∧ d ≠ 36 ∧ d ≠ 94 := by
  obtain ⟨d, r, e, k⟩ := core_head i h
  exact ⟨d, r ++ (if i.m = 49 then [] else [i.m]), by unfold itxt; rw [e]; rfl, k⟩
theorem itxt_len (i : Item) (h : OkI i) : (itxt i).length ≤ 16 := by
  have := core_len i h
  unfold itxt
  rw [List.length_append]
  split <;> simp <;> omega
abbrev patTest : Rho → Option Bool := fun ρ => tst (.and (.cmp .Lt (.var 2) (.bi .len (.cons (.var 0) .nil))) (.one (.cmp .NotEq (.slc (.var 0) (.som (.var 2)) .non) (.cst (.str [36]))))) (dl ρ)
def txts (is : List Item) : List Nat := (is.map itxt).flatten
theorem pat_loop (n : Nat) {text suf : List Nat} (hsuf : suf = [] ∨ suf = [36]) (hl : text.length ≤ 1000) (x1 x7 : Option T) : ∀ (is vs : List Item) (p m : Nat) (x4 x5 x6 : Option T), text.drop p = txts is ++ suf → p ≤ text.length → (∀ i, i ∈ is → OkI i) → vs.length + is.length ≤ 100 → is.length + 1 ≤ m →
    ∃ x4' x5' x6', whlGo patTest (exs n l1_pattern) m [some (.sh (.str text)), x1, some (.sh (.int p)), some (itsT vs), x4, x5, x6, x7] = some (.nx [some (.sh (.str text)), x1, some (.sh (.int ((p + (txts is).length : Nat) : Int))), some (itsT (vs ++ is)), x4', x5', x6', x7])
  | [], vs, p, m + 1, x4, x5, x6, ht, hp, hw, hv, hm => by
    have hl2 : text.length ≤ 16777216 := by omega
    refine ⟨x4, x5, x6, ?_⟩
    rw [whl_stop, List.append_nil]
    · rfl
    · have hlen := congrArg List.length ht
      rcases hsuf with rfl | rfl
      · have h1 : ¬((p : Int) < text.length) := by simp [txts] at hlen; omega
        simp [hl2, h1]
      · have h1 : ((p : Int) < text.length) := by simp [txts] at hlen; omega
        have ht : text.drop p = [36] := ht
        simp [hl2, h1, cut_from, ht]
  | i :: is, vs, p, m + 1, x4, x5, x6, ht, hp, hw, hv, hm => by
    have hl2 : text.length ≤ 16777216 := by omega
    have hi := hw i (List.mem_cons_self ..)
    have ht' : text.drop p = itxt i ++ (txts is ++ suf) := by rw [ht]; unfold txts; rw [List.map_cons, List.flatten_cons, List.append_assoc]
    obtain ⟨d, r, e1, k1, k2, k3, k4, k5⟩ := itxt_head i hi
    have hlen := congrArg List.length ht'
    have hplt : p < text.length := by rw [e1] at hlen; simp at hlen; omega
    have ht2 : text.drop (p + (itxt i).length) = txts is ++ suf := by rw [← List.drop_drop, ht', List.drop_left]
    have hr : ∀ d r, txts is ++ suf = d :: r → d ≠ 42 ∧ d ≠ 43 ∧ d ≠ 63 := fun d r e => by
      cases is with
      | nil =>
        rcases hsuf with rfl | rfl
        · cases e
        · cases e; decide
      | cons a is =>
        obtain ⟨d', r', e', g1, g2, g3, _⟩ := itxt_head a (hw a (by simp))
        unfold txts at e
        rw [List.map_cons, List.flatten_cons, e'] at e
        cases e
        exact ⟨g1, g2, g3⟩
    obtain ⟨z4, z5, z6, hstep⟩ := pat_step n (rest := txts is ++ suf) (is := vs) x1 x4 x5 x6 x7 hi hl ht' hr (by simp at hv; omega)
    obtain ⟨y4, y5, y6, ih⟩ := pat_loop n hsuf hl x1 x7 is (vs ++ [i]) (p + (itxt i).length) m z4 z5 z6 ht2 (by simp at hlen; omega) (fun d hd => hw d (List.mem_cons_of_mem _ hd)) (by simp at hv ⊢; omega) (by simp at hm ⊢; omega)
    refine ⟨y4, y5, y6, ?_⟩
    rw [whl_nx (ρ2 := _) ?_ (.inl hstep), ih]
    · have e : p + (itxt i).length + (txts is).length = p + (txts (i :: is)).length := by unfold txts; rw [List.map_cons, List.flatten_cons, List.length_append]; omega
      rw [e, List.append_assoc]; rfl
    · have h1 : ((p : Int) < text.length) := by omega
      have hne : text.drop p ≠ [36] := by
        rw [ht', e1]
        intro z
        exact k4 (List.cons_eq_cons.mp z).1
      simp [hl2, h1, cut_from, hne]
end Lw
/-! patterns read: the whole. -/
namespace Lw
open PySem L2 Eng
theorem eq_nil : eqD (.lst []) (.lst []) = some true := by decide +kernel
theorem txts_len : ∀ (is : List Item), (∀ i, i ∈ is → OkI i) → (txts is).length ≤ 16 * is.length
  | [], _ => by simp [txts]
  | i :: is, h => by
    have h1 := itxt_len i (h i (List.mem_cons_self ..))
    have h2 := txts_len is fun j m => h j (List.mem_cons_of_mem _ m)
    unfold txts at h2 ⊢
    rw [List.map_cons, List.flatten_cons, List.length_append, List.length_cons]
    omega
theorem itxt_mem (i : Item) (h : OkI i) : ∀ c, c ∈ itxt i → c ∈ S94 := by
  have hs : ∀ c, c ∈ i.s → c ∈ S94 := fun c m => (some91_ok c (h.sg c m)).1
  have hm : i.m ∈ S94 := by rcases h.mm with z | z | z | z <;> rw [z] <;> decide
  intro c hc
  unfold itxt at hc
  rcases List.mem_append.mp hc with hc | hc
  · unfold coreI at hc
    split at hc
    · simp at hc; rw [hc]; decide
    · split at hc
      · simp at hc
        rcases hc with z | z | z | z
        · rw [z]; decide
        · rw [z]; decide
        · exact hs c z
        · rw [z]; decide
      · split at hc
        · exact hs c hc
        · simp at hc
          rcases hc with z | z | z
          · rw [z]; decide
          · exact hs c z
          · rw [z]; decide
  · split at hc
    · cases hc
    · simp at hc; rw [hc]; exact hm
def textI (front rear : Bool) (is : List Item) : List Nat := (if front then [94] else []) ++ txts is ++ (if rear then [36] else [])
theorem pattern_eq (front rear : Bool) {is : List Item} (hw : ∀ i, i ∈ is → OkI i) (hil : is.length ≤ 8) : F_pattern [.str (textI front rear is)] = some (.tup [.sh (.bl front), itsT is, .sh (.bl rear)]) := by
  have hl := txts_len is hw
  generalize hwd : txts is = w at hl
  generalize ht : textI front rear is = text
  unfold textI at ht
  rw [hwd] at ht
  have hw1 : ∀ c, c ∈ w → c ∈ S94 := by
    intro c hc
    rw [← hwd] at hc
    unfold txts at hc
    obtain ⟨l, hl1, hl2⟩ := List.mem_flatten.mp hc
    obtain ⟨i, hi, rfl⟩ := List.mem_map.mp hl1
    exact itxt_mem i (hw i hi) c hl2
  have hw94 : w.head? ≠ some 94 := by
    rw [← hwd]
    cases is with
    | nil => simp [txts]
    | cons i is =>
      obtain ⟨d, r, e, _, _, _, _, k⟩ := itxt_head i (hw i (by simp))
      unfold txts
      rw [List.map_cons, List.flatten_cons, e]
      simp [k]
  have htl : text.length = (if front then 1 else 0) + w.length + (if rear then 1 else 0) := by
    rw [← ht]
    cases front <;> cases rear <;> simp <;> omega
  have htl2 : text.length ≤ 1000 := by rw [htl]; split <;> split <;> omega
  have hl2 : text.length ≤ 16777216 := by omega
  have hall : ∀ c, c ∈ text → c ∈ S94 := by
    intro c hc
    rw [← ht] at hc
    rcases List.mem_append.mp hc with hc | hc
    · rcases List.mem_append.mp hc with hc | hc
      · cases front
        · cases hc
        · simp at hc; rw [hc]; decide +kernel
      · exact hw1 c hc
    · cases rear
      · cases hc
      · simp at hc; rw [hc]; decide +kernel
  have hst : Txt.startswith (st text) (st [94]) = front := by
    have := starts_iff text [94]
    have h2 : AtW text [94] 0 ↔ front = true := by
      unfold AtW
      rw [← ht]
      cases front
      · simp
        cases w with
        | nil => cases rear <;> simp
        | cons a w => simp at hw94; simp [hw94]
      · simp
    rw [h2] at this
    cases front <;> simp_all
  refine runF_rt rfl ?_
  obtain ⟨x4, x5, x6, hloop⟩ := pat_loop 100000 (text := text) (suf := if rear then [36] else []) (by cases rear <;> simp) htl2 (some (.sh (.bl front))) none is [] (if front then 1 else 0) 100000 none none none (by rw [← ht, hwd]; cases front <;> simp) (by rw [htl]; omega) hw (by simp; omega) (by omega)
  have hle : ((if front then 1 else 0 : Nat) : Int) = if front then 1 else 0 := by cases front <;> rfl
  rw [List.nil_append, hwd] at hloop
  rw [hle] at hloop
  unfold b_pattern N_pattern
  simp [hl2, hst]
  rw [lcK_filter (g := fun c => D.str [c]) (k := fun c => T.sh (.str [c])) (p := fun _ => false)]
  · have hfil : List.filter (fun _ => false) text = [] := by simp
    rw [hfil]
    have h8 : ¬((8 : Int) < is.length) := by omega
    unfold patTest itsT at hloop
    have hwl : w.length ≤ 16777216 := by omega
    have hw2 : w.length ≤ 16777215 := by omega
    have hw3 : 1 + w.length ≤ 16777216 := by omega
    have hw4 : 1 + w.length ≤ 16777215 := by omega
    have hw5 : (w.length : Int) < w.length + 1 := by omega
    have hw6 : (1 + w.length : Int) < 1 + w.length + 1 := by omega
    cases front <;> cases rear <;> simp at hloop htl <;> simp [eq_nil, hst, hl2, hloop, G_MOST_ITEMS, h8, htl, itsT, hwl, T.owns, T.own, hw2, hw3, hw4, hw5, hw6]
  · rw [SZ_eq]; omega
  · intro c hc
    have := hall c hc
    have hG : G_ALL_SIGNS = .str S94 := rfl
    simp [lcF, subOf_one, hG, this]
end Lw
/-! patterns written. -/
namespace Lw
open PySem L2 Eng
theorem some91_inj : ∀ a : Fin 91, ∀ b : Fin 91, some91.getD a.val 0 = some91.getD b.val 0 → a = b := by decide +kernel
theorem sgn91_inj {i j : Int} (h : sgn91 i = sgn91 j) : i % 91 = j % 91 := by
  have h1 := mod_rng i (k := 91) (by decide)
  have h2 := mod_rng j (k := 91) (by decide)
  unfold sgn91 at h
  have := some91_inj ⟨(i % 91).toNat, by omega⟩ ⟨(j % 91).toNat, by omega⟩ h
  have := congrArg Fin.val this
  simp at this
  omega
theorem stpF_four (n : Int) : stpF n = 1 ∨ stpF n = 2 ∨ stpF n = 5 ∨ stpF n = 23 := by
  have h := mod_rng (n / 1092) (k := 4) (by decide)
  unfold stpF
  have : n / 1092 % 4 = 0 ∨ n / 1092 % 4 = 1 ∨ n / 1092 % 4 = 2 ∨ n / 1092 % 4 = 3 := by omega
  rcases this with h | h | h | h <;> rw [h] <;> simp
theorem sgnsF_nd (c : Int) : (sgnsF c).Nodup := by
  have hm := mny_rng c
  unfold sgnsF
  refine List.pairwise_map.mpr (List.Pairwise.imp_of_mem (fun {a b} ha hb hab z => ?_) (List.nodup_range))
  have ha := List.mem_range.mp ha
  have hb := List.mem_range.mp hb
  have e := sgn91_inj z
  rcases stpF_four (numF c) with h | h | h | h <;> rw [h] at e <;> exact hab (by omega)
theorem itemF_ok (c : Int) : OkI (itemF c) := by
  have hm := mny_rng c
  refine ⟨fun x hx => ?_, ?_, ?_, fun h => ?_, code_four c⟩
  · unfold itemF at hx
    simp only at hx
    split at hx
    · cases hx
    · unfold sgnsF at hx
      obtain ⟨k, _, rfl⟩ := List.mem_map.mp hx
      exact atI_mem (sgn91_at _)
  · unfold itemF
    simp only
    split
    · exact List.nodup_nil
    · exact sgnsF_nd c
  · unfold itemF
    simp only
    split
    · simp
    · unfold sgnsF; rw [List.length_map, List.length_range]; omega
  · unfold itemF at h ⊢
    simp only at h ⊢
    split at h
    · rename_i h2; simp [h2]
    · have := congrArg List.length h
      unfold sgnsF at this
      rw [List.length_map, List.length_range] at this
      simp at this; omega
theorem strip49 : Eng.txt (Txt.stripChars (st [49]) (st [49])) = .str [] := congrArg D.str (show _ = _ from by decide +kernel)
theorem strip42 : Eng.txt (Txt.stripChars (st [42]) (st [49])) = .str [42] := congrArg D.str (show _ = _ from by decide +kernel)
theorem strip43 : Eng.txt (Txt.stripChars (st [43]) (st [49])) = .str [43] := congrArg D.str (show _ = _ from by decide +kernel)
theorem strip63 : Eng.txt (Txt.stripChars (st [63]) (st [49])) = .str [63] := congrArg D.str (show _ = _ from by decide +kernel)
theorem iw_eq {i : Item} (hi : OkI i) : F_item_written [i.D] = some (.sh (.str (itxt i))) := by
  obtain ⟨s, o, m⟩ := i
  have hln := hi.ln
  have hmm := hi.mm
  simp only at hln hmm
  have hip := is_plain_eq (s := s) (by omega)
  have l1 : s.length ≤ 16777216 := by omega
  have l2 : 2 + s.length ≤ 16777216 := by omega
  have l3 : 1 + s.length ≤ 16777216 := by omega
  have l4 : s.length + 1 ≤ 16777216 := by omega
  have l5 : s.length ≤ 16777215 := by omega
  have l6 : s.length ≤ 16777214 := by omega
  have l7 : s.length ≤ 16777213 := by omega
  have l8 : s.length ≤ 16777212 := by omega
  refine runF_rt rfl ?_
  unfold b_item_written N_item_written itxt coreI
  simp only [Item.D]
  by_cases h1 : s = []
  · subst h1
    cases o <;> rcases hmm with rfl | rfl | rfl | rfl <;> simp [hip, plainS]
  · cases o
    · cases hp : plainS s <;> rw [hp] at hip <;> rcases hmm with rfl | rfl | rfl | rfl <;> simp [hip, h1, hp, l1, l2, l3, l4, l5, l6, l7, l8]
    · rcases hmm with rfl | rfl | rfl | rfl <;> simp [h1, l1, l2, l3, l4, l5, l6, l7, l8]
theorem wt_eq {i : Item} (hi : OkI i) : F_w_item_text [i.D] = some (.sh (.str (itxt i))) := by
  obtain ⟨s, o, m⟩ := i
  have hln := hi.ln
  have hmm := hi.mm
  simp only at hln hmm
  have l1 : s.length ≤ 16777216 := by omega
  have l2 : 2 + s.length ≤ 16777216 := by omega
  have l3 : 1 + s.length ≤ 16777216 := by omega
  have l4 : s.length + 1 ≤ 16777216 := by omega
  have l5 : s.length ≤ 16777215 := by omega
  have l6 : s.length ≤ 16777214 := by omega
  have l7 : s.length ≤ 16777213 := by omega
  have l8 : s.length ≤ 16777212 := by omega
  refine runF_rt rfl ?_
  unfold b_w_item_text N_w_item_text itxt coreI
  simp only [Item.D]
  match s, hln, l1, l2, l3, l4, l5, l6, l7, l8 with
  | [], _, _, _, _, _, _, _, _, _ =>
    cases o <;> rcases hmm with rfl | rfl | rfl | rfl <;> simp [plainS, strip49, strip42, strip43, strip63]
  | [c], _, _, _, _, _, _, _, _, _ =>
    by_cases hp : c ∈ NP
    · have hp2 := hp
      simp [NP] at hp2
      cases o <;> rcases hmm with rfl | rfl | rfl | rfl <;> simp [plainS, hp, hp2, subOf_one, strip49, strip42, strip43, strip63]
    · have hp2 := hp
      simp [NP] at hp2
      cases o <;> rcases hmm with rfl | rfl | rfl | rfl <;> simp [plainS, hp, hp2, subOf_one, strip49, strip42, strip43, strip63]
  | a :: b :: r, hln, l1, l2, l3, l4, l5, l6, l7, l8 =>
    have h2 : ¬((r.length : Int) + 1 + 1 = 1) := by omega
    simp at l1 l2 l3 l4 l5 l6 l7 l8 hln
    cases o <;> rcases hmm with rfl | rfl | rfl | rfl <;> simp [plainS, h2, l1, l2, l3, l4, l5, l6, l7, l8, strip49, strip42, strip43, strip63]
end Lw
/-! law k12. -/
namespace Lw
open PySem L2 Eng
theorem join_nil' : ∀ rows : List (List Nat), TL.joinL [] rows = rows.flatten := by
  intro rows
  induction rows with
  | nil => rfl
  | cons p rows ih =>
    cases rows with
    | nil => simp [TL.joinL]
    | cons q r =>
      show p ++ ([] ++ TL.joinL [] (q :: r)) = _
      rw [ih]; simp
theorem join_txts (is : List Item) : TL.joinL [] (is.map itxt) = txts is := join_nil' _
theorem sum_txts {is : List Item} (h : ∀ i, i ∈ is → OkI i) (hl : is.length ≤ 8) : (is.map (List.length ∘ itxt)).sum ≤ 16777216 := by
  have : ∀ (is : List Item), (is.map (List.length ∘ itxt)).sum = (txts is).length := by
    intro is
    induction is with
    | nil => rfl
    | cons i is ih => rw [List.map_cons, List.sum_cons, ih]; unfold txts; rw [List.map_cons, List.flatten_cons, List.length_append]; rfl
  rw [this]
  have := txts_len is h
  omega
section
variable {is : List Item} (hw : ∀ i, i ∈ is → OkI i) (hl : is.length ≤ 8) (front rear : Bool)
include hw hl
theorem written_eq : F_written [.tup [.bl front, .lst (is.map Item.D), .bl rear]] = some (.sh (.str (textI front rear is))) := by
  have h1 := txts_len is hw
  have h2 := sum_txts hw hl
  have l1 : 1 + (txts is).length ≤ 16777216 := by omega
  have l2 : (txts is).length + 1 ≤ 16777216 := by omega
  have l3 : (txts is).length ≤ 16777215 := by omega
  have l4 : (txts is).length ≤ 16777214 := by omega
  have hlc : ∀ δ0 δ1 δ2 δ3 δ4, lcK [5] (.nm 5) .non (.cal "item_written" F_item_written [] (.cons (.var 5) .nil)) [δ0, δ1, δ2, δ3, δ4, none] (is.map Item.D) = some (.lst (is.map fun i => T.sh (.str (itxt i)))) := by
    intro δ0 δ1 δ2 δ3 δ4
    rw [lcK_map (g := Item.D) (k := fun i => T.sh (.str (itxt i)))]
    · simp; omega
    · intro i hi
      simp [lcF, iw_eq (hw i hi)]
  refine runF_rt rfl ?_
  unfold b_written N_written textI
  cases front <;> cases rear <;> simp [hlc, h2, join_txts, l1, l2, l3, l4]
theorem wtext_eq : F_w_text [.tup [.bl front, .lst (is.map Item.D), .bl rear]] = some (.sh (.str (textI front rear is))) := by
  have h1 := txts_len is hw
  have h2 := sum_txts hw hl
  have l1 : 1 + (txts is).length ≤ 16777216 := by omega
  have l2 : (txts is).length + 1 ≤ 16777216 := by omega
  have l3 : (txts is).length ≤ 16777215 := by omega
  have l4 : (txts is).length ≤ 16777214 := by omega
  have hlc : ∀ δ0 δ1, lcK [2] (.nm 2) .non (.cal "_law_item_text" F_w_item_text [] (.cons (.var 2) .nil)) [δ0, δ1, none] (is.map Item.D) = some (.lst (is.map fun i => T.sh (.str (itxt i)))) := by
    intro δ0 δ1
    rw [lcK_map (g := Item.D) (k := fun i => T.sh (.str (itxt i)))]
    · simp; omega
    · intro i hi
      simp [lcF, wt_eq (hw i hi)]
  refine runF_rt rfl ?_
  unfold b_w_text N_w_text textI
  cases front <;> cases rear <;> simp [hlc, h2, join_txts, l1, l2, l3, l4]
omit hl
theorem items_ok : ∀ i, i ∈ is → okT i.s ∧ okT [i.m] := by
  intro i hi
  have k := hw i hi
  refine ⟨fun c hc => (S94_ok c (some91_ok c (k.sg c hc)).1).1, ?_⟩
  rcases k.mm with z | z | z | z <;> rw [z] <;> simp
omit hw
theorem enc_item : Enc Item.D (fun i => okT i.s ∧ okT [i.m]) 1 := ⟨fun x y h1 h2 => by
  have := (EqAll.cons (eqIs_str h1.1 h2.1) (.cons (eqIs_bl x.o y.o) (.cons (eqIs_str h1.2 h2.2) .nil))).tup
  have e : (decide (x.s = y.s) && ((x.o == y.o) && (decide ([x.m] = [y.m]) && true))) = decide (x = y) := Bool.eq_iff_iff.mpr (by
    cases x; cases y; simp)
  rw [e] at this
  exact this⟩
include hw
theorem one_eq : eqD (.tup [.bl front, .lst (is.map Item.D), .bl rear]) (.tup [.bl front, .lst (is.map Item.D), .bl rear]) = some true := by
  have e := (EqAll.cons ((eqIs_bl front front).mono (m := 2) (by decide)) (.cons ((enc_item.lst).h is is (items_ok hw) (items_ok hw)) (.cons ((eqIs_bl rear rear).mono (m := 2) (by decide)) .nil))).tup
  have := e.eqD (by decide)
  simpa using this
end
theorem alike_loop (n : Nat) (c0 c1 : Option T) : ∀ (is : List Item) (x2 : Option T), ∃ y2, forGo (asgR (.nm 2)) (exs n l1_w_alike) (is.map Item.D) [c0, c1, x2] = some (.nx [c0, c1, y2])
  | [], x2 => ⟨_, rfl⟩
  | i :: is, x2 => by
    obtain ⟨ρ', ih⟩ := alike_loop n c0 c1 is (some (.sh i.D))
    refine ⟨ρ', (forGo_step (ρ1 := [c0, c1, some (.sh i.D)]) rfl (.inl ?_)).trans ih⟩
    unfold l1_w_alike
    simp [Item.D]
theorem alike_eq {is : List Item} (hw : ∀ i, i ∈ is → OkI i) (front rear : Bool) : F_w_alike [.tup [.bl front, .lst (is.map Item.D), .bl rear], .tup [.bl front, .lst (is.map Item.D), .bl rear]] = some (.sh (.bl true)) := by
  obtain ⟨ρ', h⟩ := alike_loop 100000 (some (.sh (.tup [.bl front, .lst (is.map Item.D), .bl rear]))) (some (.sh (.tup [.bl front, .lst (is.map Item.D), .bl rear]))) is none
  refine runF_rt rfl ?_
  unfold b_w_alike N_w_alike
  simp [h, one_eq hw]
theorem cut_1 (ns : List Int) {k : Nat} (hk : k ≤ 8) : (cutL ns (some 1) (some (1 + (k : Int)))).length ≤ 8 := by
  show (List.take _ _).length ≤ 8
  rw [List.length_take]
  have e1 : HT.sIx ns.length 0 (some 1) = min 1 ns.length := HT.sIx_nat _ _ 1
  have e2 : HT.sIx ns.length ns.length (some (1 + (k : Int))) = min (1 + k) ns.length := HT.sIx_nat _ _ (1 + k)
  rw [e1, e2]
  omega
theorem cell_eq (ns : List Int) (k : Nat) : ∃ c, F_w_cell_at [.scr ns, .int k] = some (.sh (.int c)) := by
  unfold F_w_cell_at
  by_cases h : k < ns.length
  · exact ⟨ns[k], runF_rt rfl (by unfold b_w_cell_at N_w_cell_at; simp [h, atI_nat h])⟩
  · exact ⟨0, runF_rt rfl (by unfold b_w_cell_at N_w_cell_at; simp [h])⟩
theorem law_true (ns : List Int) (hl : ns.length ≤ 63) : F_law [.scr ns] = some (.sh (.bl true)) := by
  refine runF_rt rfl ?_
  obtain ⟨c0, h0⟩ := cell_eq ns 0
  simp at h0
  have hm := mod_rng c0 (k := 9) (by decide)
  obtain ⟨k, hk⟩ : ∃ k : Nat, c0 % 9 = (k : Int) := ⟨(c0 % 9).toNat, by omega⟩
  have hcl := cut_1 ns (k := k) (by omega)
  generalize hcs : cutL ns (some 1) (some (1 + (k : Int))) = cs at hcl
  have hlc : ∀ δ0 δ1 δ2 δ3 δ4 δ5 δ6 δ7, lcK [8] (.nm 8) .non (.cal "_law_item" F_w_item [] (.cons (.var 8) .nil)) [δ0, δ1, δ2, δ3, δ4, δ5, δ6, δ7, none] (cs.map .int) = some (.lst ((cs.map itemF).map fun i => T.sh i.D)) := by
    intro δ0 δ1 δ2 δ3 δ4 δ5 δ6 δ7
    rw [lcK_map (g := D.int) (k := fun c => T.sh (itemF c).D)]
    · rw [List.map_map]; rfl
    · rw [SZ_eq]; omega
    · intro c hc
      simp [lcF, item_eq]
  have hw : ∀ i, i ∈ cs.map itemF → OkI i := fun i hi => by
    obtain ⟨c, _, rfl⟩ := List.mem_map.mp hi
    exact itemF_ok c
  have hil : (cs.map itemF).length ≤ 8 := by rw [List.length_map]; exact hcl
  generalize hfr : (decide (c0 / 9 % 2 = 1)) = front
  generalize hre : (decide (c0 / 18 % 2 = 1)) = rear
  generalize cs.map itemF = is at *
  have t1 := written_eq hw hil front rear
  have t2 := wtext_eq hw hil front rear
  have t3 := pattern_eq front rear hw hil
  have t4 := alike_eq hw front rear
  have t5 := one_eq hw front rear
  have t6 : T.owns (is.map fun i => T.sh i.D) = false := owns_shf _ _
  have l1 : is.length < 16777216 := by omega
  have l2 : is.length ≤ 16777216 := by omega
  have t7 : T.owns ((is.map fun i => T.sh i.D) ++ [T.sh (D.tup [D.str [97], D.bl false, D.str [49]])]) = false := by
    have := owns_shf (fun d : D => d) (is.map Item.D ++ [D.tup [D.str [97], D.bl false, D.str [49]]])
    rw [List.map_append, List.map_map] at this
    exact this
  unfold b_law N_law
  simp [h0, hk, hcs, hlc, hfr, hre, t1, t2, t3, t4, t5, t6, t7, l1, l2, T.owns, T.own]
end Lw
/-! law_k12_patterns_told_and_written: the defs against the text, the head, the theorem (printed by wip/mk.py). -/
namespace Lw
open PySem PySem.Spec PyProof.Rows L2 Eng
def top (i : Nat) : Stmt := PySem.Challenge.pw_rowblade_k12_patterns_told_and_written.main.body.getD i (.Pass ⟨0, 0, 0, 0⟩)
theorem m_is_plain : mSs N_is_plain (defScope (top 8)) b_is_plain (defBody (top 8)) = true := by decide +kernel
theorem sc_is_plain : FnScope N_is_plain ["signs"] (defScope (top 8)) := ⟨rfl, rfl, rfl, by decide +kernel, rfl, by decide +kernel, by decide +kernel⟩
def d_is_plain : He.DefD := ⟨("is_plain", none), "is_plain", "is_plain", defArgs (top 8), defBody (top 8), defScope (top 8), [], []⟩
theorem m_set_at : mSs N_set_at (defScope (top 9)) b_set_at (defBody (top 9)) = true := by decide +kernel
theorem sc_set_at : FnScope N_set_at ["text", "place"] (defScope (top 9)) := ⟨rfl, rfl, rfl, by decide +kernel, rfl, by decide +kernel, by decide +kernel⟩
def d_set_at : He.DefD := ⟨("set_at", none), "set_at", "set_at", defArgs (top 9), defBody (top 9), defScope (top 9), [], []⟩
theorem m_item_at : mSs N_item_at (defScope (top 10)) b_item_at (defBody (top 10)) = true := by decide +kernel
theorem sc_item_at : FnScope N_item_at ["text", "place"] (defScope (top 10)) := ⟨rfl, rfl, rfl, by decide +kernel, rfl, by decide +kernel, by decide +kernel⟩
def d_item_at : He.DefD := ⟨("item_at", none), "item_at", "item_at", defArgs (top 10), defBody (top 10), defScope (top 10), [], []⟩
theorem m_pattern : mSs N_pattern (defScope (top 11)) b_pattern (defBody (top 11)) = true := by decide +kernel
theorem sc_pattern : FnScope N_pattern ["text"] (defScope (top 11)) := ⟨rfl, rfl, rfl, by decide +kernel, rfl, by decide +kernel, by decide +kernel⟩
def d_pattern : He.DefD := ⟨("pattern", none), "pattern", "pattern", defArgs (top 11), defBody (top 11), defScope (top 11), [], []⟩
theorem m_item_written : mSs N_item_written (defScope (top 12)) b_item_written (defBody (top 12)) = true := by decide +kernel
theorem sc_item_written : FnScope N_item_written ["item"] (defScope (top 12)) := ⟨rfl, rfl, rfl, by decide +kernel, rfl, by decide +kernel, by decide +kernel⟩
def d_item_written : He.DefD := ⟨("item_written", none), "item_written", "item_written", defArgs (top 12), defBody (top 12), defScope (top 12), [], []⟩
theorem m_written : mSs N_written (defScope (top 13)) b_written (defBody (top 13)) = true := by decide +kernel
theorem sc_written : FnScope N_written ["one"] (defScope (top 13)) := ⟨rfl, rfl, rfl, by decide +kernel, rfl, by decide +kernel, by decide +kernel⟩
def d_written : He.DefD := ⟨("written", none), "written", "written", defArgs (top 13), defBody (top 13), defScope (top 13), [], []⟩
theorem m_w_cell_at : mSs N_w_cell_at (defScope (top 15)) b_w_cell_at (defBody (top 15)) = true := by decide +kernel
theorem sc_w_cell_at : FnScope N_w_cell_at ["_law_script", "_law_k"] (defScope (top 15)) := ⟨rfl, rfl, rfl, by decide +kernel, rfl, by decide +kernel, by decide +kernel⟩
def d_w_cell_at : He.DefD := ⟨("_law_cell_at", none), "_law_cell_at", "_law_cell_at", defArgs (top 15), defBody (top 15), defScope (top 15), [], []⟩
theorem m_w_signs : mSs N_w_signs (defScope (top 16)) b_w_signs (defBody (top 16)) = true := by decide +kernel
theorem sc_w_signs : FnScope N_w_signs [] (defScope (top 16)) := ⟨rfl, rfl, rfl, by decide +kernel, rfl, by decide +kernel, by decide +kernel⟩
def d_w_signs : He.DefD := ⟨("_law_signs", none), "_law_signs", "_law_signs", defArgs (top 16), defBody (top 16), defScope (top 16), [], []⟩
theorem m_w_item : mSs N_w_item (defScope (top 17)) b_w_item (defBody (top 17)) = true := by decide +kernel
theorem sc_w_item : FnScope N_w_item ["_law_cell"] (defScope (top 17)) := ⟨rfl, rfl, rfl, by decide +kernel, rfl, by decide +kernel, by decide +kernel⟩
def d_w_item : He.DefD := ⟨("_law_item", none), "_law_item", "_law_item", defArgs (top 17), defBody (top 17), defScope (top 17), [], []⟩
theorem m_w_item_text : mSs N_w_item_text (defScope (top 18)) b_w_item_text (defBody (top 18)) = true := by decide +kernel
theorem sc_w_item_text : FnScope N_w_item_text ["_law_item_here"] (defScope (top 18)) := ⟨rfl, rfl, rfl, by decide +kernel, rfl, by decide +kernel, by decide +kernel⟩
def d_w_item_text : He.DefD := ⟨("_law_item_text", none), "_law_item_text", "_law_item_text", defArgs (top 18), defBody (top 18), defScope (top 18), [], []⟩
theorem m_w_text : mSs N_w_text (defScope (top 19)) b_w_text (defBody (top 19)) = true := by decide +kernel
theorem sc_w_text : FnScope N_w_text ["_law_one"] (defScope (top 19)) := ⟨rfl, rfl, rfl, by decide +kernel, rfl, by decide +kernel, by decide +kernel⟩
def d_w_text : He.DefD := ⟨("_law_text", none), "_law_text", "_law_text", defArgs (top 19), defBody (top 19), defScope (top 19), [], []⟩
theorem m_w_alike : mSs N_w_alike (defScope (top 20)) b_w_alike (defBody (top 20)) = true := by decide +kernel
theorem sc_w_alike : FnScope N_w_alike ["_law_told", "_law_due"] (defScope (top 20)) := ⟨rfl, rfl, rfl, by decide +kernel, rfl, by decide +kernel, by decide +kernel⟩
def d_w_alike : He.DefD := ⟨("_law_alike", none), "_law_alike", "_law_alike", defArgs (top 20), defBody (top 20), defScope (top 20), [], []⟩
theorem m_law : mSs N_law (defScope (top 21)) b_law (defBody (top 21)) = true := by decide +kernel
theorem sc_law : FnScope N_law ["_law_script"] (defScope (top 21)) := ⟨rfl, rfl, rfl, by decide +kernel, rfl, by decide +kernel, by decide +kernel⟩
def d_law : He.DefD := ⟨("law", none), "law", "law", defArgs (top 21), defBody (top 21), defScope (top 21), [], []⟩
def fn : List He.DefD := [d_is_plain, d_set_at, d_item_at, d_pattern, d_item_written, d_written, d_w_cell_at, d_w_signs, d_w_item, d_w_item_text, d_w_text, d_w_alike, d_law]
def fa : List He.Fa := [.glo "is_plain", .glo "set_at", .glo "item_at", .glo "pattern", .glo "item_written", .glo "written", .glo "_law_cell_at", .glo "_law_signs", .glo "_law_item", .glo "_law_item_text", .glo "_law_text", .glo "_law_alike", .glo "law", .free "bool", .free "enumerate", .free "int", .free "isinstance", .free "len", .free "list", .free "range", .free "str", .free "tuple", .str "ALL_SIGNS" " !\"#$&'()*+,-./0123456789:;<=>?@ABCDEFGHIJKLMNOPQRSTUVWXYZ[\\]^_`abcdefghijklmnopqrstuvwxyz{|}~", .int "MOST_ITEMS" (8), .int "MOST_SIGNS" (12), .str "NOT_PLAIN" "^$.[]*+?/"]
abbrev R : PySem.W.OpenRow := PySem.W.OpenLaw.row PySem.Challenge.rw_rowblade_k12_patterns_told_and_written
abbrev hk : PySem.W.Hook := He.hookD 4 fa fn
def ob (s : PySem.W.SharedT) : He.AlD := He.obsDG 4 fa fn (HandSHeadRun.getT s)
theorem ob_eq (s : PySem.W.SharedT) : ob s = hk.obs s.abs := He.obsDG_eq (HandSHeadRun.getT_eq s)
def loose : List PySem.Str := ["BladeError", "NoPattern", "ALL_SIGNS", "NOT_PLAIN", "MOST_ITEMS", "MOST_SIGNS", "is_plain", "set_at", "item_at", "pattern", "item_written", "written", "_law_cell_at", "_law_signs", "_law_item", "_law_item_text", "_law_text", "_law_alike"]
theorem run (w : World) : HandSHeadRun.RunEq R (PySem.W.view R.prog [21]) hk ob 4000 loose w := by
  intro os
  kernel_rfl
def spLaw (K : PySem.W.Frag) : Sp := fun vs H Q _ => ∃ (a : Addr) (ns : List Int), vs = [.ref a] ∧ SqL K H a (ns.map V.int) ∧ ns.length ≤ 63 ∧ ∀ H', Q (.bl true) H'
theorem law_sp {C : Cfg} {vs : List V} {H : Hp} {Q : VK} {E : XK} (h : spLaw C.K vs H Q E) : pureSp C F_law vs H Q E := by
  obtain ⟨a, ns, rfl, hS, hl, q⟩ := h
  exact pure_law C (law_true ns hl) hS q
theorem facts {P : Program} {w : World} {K : PySem.W.Frag} {h : Heap} {mg : Str → Option Value} {f : Addr} (X : K.In h) (G : h.Ns mainGlobals mg) (hfa : mg ("law" : Str) = some (.ref f)) (c : He.SaysD fa fn K) :
    ∃ fd : FuncData, (∀ (s : Shared) (v : Value), BindsTo s fd ⟨[v], []⟩ [("_law_script", v)]) ∧ ∀ base : Heap, K.In base → base.Ns mainGlobals mg → FnOk P w K mg base CX0 5 f fd ["_law_script"] (spLaw K) := by
  obtain ⟨fd_is_plain, D_is_plain⟩ := c.def_ 0 (d := d_is_plain) rfl
  have g_is_plain := He.glo_ok X G (c.fact 0 (f := .glo "is_plain") rfl)
  obtain ⟨fd_set_at, D_set_at⟩ := c.def_ 1 (d := d_set_at) rfl
  have g_set_at := He.glo_ok X G (c.fact 1 (f := .glo "set_at") rfl)
  obtain ⟨fd_item_at, D_item_at⟩ := c.def_ 2 (d := d_item_at) rfl
  have g_item_at := He.glo_ok X G (c.fact 2 (f := .glo "item_at") rfl)
  obtain ⟨fd_pattern, D_pattern⟩ := c.def_ 3 (d := d_pattern) rfl
  have g_pattern := He.glo_ok X G (c.fact 3 (f := .glo "pattern") rfl)
  obtain ⟨fd_item_written, D_item_written⟩ := c.def_ 4 (d := d_item_written) rfl
  have g_item_written := He.glo_ok X G (c.fact 4 (f := .glo "item_written") rfl)
  obtain ⟨fd_written, D_written⟩ := c.def_ 5 (d := d_written) rfl
  have g_written := He.glo_ok X G (c.fact 5 (f := .glo "written") rfl)
  obtain ⟨fd_w_cell_at, D_w_cell_at⟩ := c.def_ 6 (d := d_w_cell_at) rfl
  have g_w_cell_at := He.glo_ok X G (c.fact 6 (f := .glo "_law_cell_at") rfl)
  obtain ⟨fd_w_signs, D_w_signs⟩ := c.def_ 7 (d := d_w_signs) rfl
  have g_w_signs := He.glo_ok X G (c.fact 7 (f := .glo "_law_signs") rfl)
  obtain ⟨fd_w_item, D_w_item⟩ := c.def_ 8 (d := d_w_item) rfl
  have g_w_item := He.glo_ok X G (c.fact 8 (f := .glo "_law_item") rfl)
  obtain ⟨fd_w_item_text, D_w_item_text⟩ := c.def_ 9 (d := d_w_item_text) rfl
  have g_w_item_text := He.glo_ok X G (c.fact 9 (f := .glo "_law_item_text") rfl)
  obtain ⟨fd_w_text, D_w_text⟩ := c.def_ 10 (d := d_w_text) rfl
  have g_w_text := He.glo_ok X G (c.fact 10 (f := .glo "_law_text") rfl)
  obtain ⟨fd_w_alike, D_w_alike⟩ := c.def_ 11 (d := d_w_alike) rfl
  have g_w_alike := He.glo_ok X G (c.fact 11 (f := .glo "_law_alike") rfl)
  obtain ⟨fd_law, D_law⟩ := c.def_ 12 (d := d_law) rfl
  have g_law := He.glo_ok X G (c.fact 12 (f := .glo "law") rfl)
  have z_bool : mg "bool" = none := He.free_ok X G (c.fact 13 (f := .free "bool") rfl)
  have z_enumerate : mg "enumerate" = none := He.free_ok X G (c.fact 14 (f := .free "enumerate") rfl)
  have z_int : mg "int" = none := He.free_ok X G (c.fact 15 (f := .free "int") rfl)
  have z_isinstance : mg "isinstance" = none := He.free_ok X G (c.fact 16 (f := .free "isinstance") rfl)
  have z_len : mg "len" = none := He.free_ok X G (c.fact 17 (f := .free "len") rfl)
  have z_list : mg "list" = none := He.free_ok X G (c.fact 18 (f := .free "list") rfl)
  have z_range : mg "range" = none := He.free_ok X G (c.fact 19 (f := .free "range") rfl)
  have z_str : mg "str" = none := He.free_ok X G (c.fact 20 (f := .free "str") rfl)
  have z_tuple : mg "tuple" = none := He.free_ok X G (c.fact 21 (f := .free "tuple") rfl)
  have c_ALL_SIGNS : ∀ (base : Heap) (N : List Str) (k : Nat), GlbOk ⟨P, w, ⟨K, mg⟩, base, N, k⟩ "ALL_SIGNS" G_ALL_SIGNS := fun _ _ _ => glb_str (He.str_ok X G (c.fact 22 (f := .str "ALL_SIGNS" " !\"#$&'()*+,-./0123456789:;<=>?@ABCDEFGHIJKLMNOPQRSTUVWXYZ[\\]^_`abcdefghijklmnopqrstuvwxyz{|}~") rfl)) rfl
  have c_MOST_ITEMS : ∀ (base : Heap) (N : List Str) (k : Nat), GlbOk ⟨P, w, ⟨K, mg⟩, base, N, k⟩ "MOST_ITEMS" G_MOST_ITEMS := fun _ _ _ => glb_int (He.int_ok X G (c.fact 23 (f := .int "MOST_ITEMS" (8)) rfl))
  have c_MOST_SIGNS : ∀ (base : Heap) (N : List Str) (k : Nat), GlbOk ⟨P, w, ⟨K, mg⟩, base, N, k⟩ "MOST_SIGNS" G_MOST_SIGNS := fun _ _ _ => glb_int (He.int_ok X G (c.fact 24 (f := .int "MOST_SIGNS" (12)) rfl))
  have c_NOT_PLAIN : ∀ (base : Heap) (N : List Str) (k : Nat), GlbOk ⟨P, w, ⟨K, mg⟩, base, N, k⟩ "NOT_PLAIN" G_NOT_PLAIN := fun _ _ _ => glb_str (He.str_ok X G (c.fact 25 (f := .str "NOT_PLAIN" "^$.[]*+?/") rfl)) rfl
  have e := hfa.symm.trans g_law
  cases e
  have b := FunD.bindsA (ps := ["_law_script"]) D_law fun _ _ _ _ _ _ us hl => match us, hl with | [_], _ => rfl
  refine ⟨fd_law, fun s v => b s [v] rfl, fun base _ _ => ?_⟩
  have B_is_plain := FunD.bindsN (ps := ["signs"]) D_is_plain fun _ _ _ _ _ _ us hl => match us, hl with | [_], _ => rfl
  have nd_is_plain : Ndss ⟨P, w, ⟨K, mg⟩, base, N_is_plain, 0⟩ b_is_plain := by
    simp [b_is_plain, Ndss, Ndst, Nd, Nds, Ndo, Ndi, NoG, Bi.name, z_len, c_NOT_PLAIN]
  have O_is_plain : FnOk P w K mg base CX0 1 _ fd_is_plain ["signs"] (pureSp ⟨K, mg⟩ F_is_plain) := fn_okD (C := ⟨K, mg⟩) (st := top 8) D_is_plain sc_is_plain m_is_plain nd_is_plain (fun ds t h => runF_h h)
  have B_set_at := FunD.bindsN (ps := ["text", "place"]) D_set_at fun _ _ _ _ _ _ us hl => match us, hl with | [_, _], _ => rfl
  have nd_set_at : Ndss ⟨P, w, ⟨K, mg⟩, base, N_set_at, 1⟩ b_set_at := by
    have q0 : CallOk ⟨P, w, ⟨K, mg⟩, base, N_set_at, 1⟩ "is_plain" F_is_plain [] := FnOk.call O_is_plain (by decide) g_is_plain D_is_plain.kp B_is_plain
    simp [b_set_at, l1_set_at, Ndss, Ndst, Nd, Nds, Ndo, Ndi, NoG, Bi.name, q0, z_enumerate, z_len, c_MOST_SIGNS]
  have O_set_at : FnOk P w K mg base CX0 2 _ fd_set_at ["text", "place"] (pureSp ⟨K, mg⟩ F_set_at) := fn_okD (C := ⟨K, mg⟩) (st := top 9) D_set_at sc_set_at m_set_at nd_set_at (fun ds t h => runF_h h)
  have B_item_at := FunD.bindsN (ps := ["text", "place"]) D_item_at fun _ _ _ _ _ _ us hl => match us, hl with | [_, _], _ => rfl
  have nd_item_at : Ndss ⟨P, w, ⟨K, mg⟩, base, N_item_at, 2⟩ b_item_at := by
    have q0 : CallOk ⟨P, w, ⟨K, mg⟩, base, N_item_at, 2⟩ "is_plain" F_is_plain [] := FnOk.call O_is_plain (by decide) g_is_plain D_is_plain.kp B_is_plain
    have q1 : CallOk ⟨P, w, ⟨K, mg⟩, base, N_item_at, 2⟩ "set_at" F_set_at [] := FnOk.call O_set_at (by decide) g_set_at D_set_at.kp B_set_at
    simp [b_item_at, Ndss, Ndst, Nd, Nds, Ndo, Ndi, NoG, Bi.name, q0, q1]
  have O_item_at : FnOk P w K mg base CX0 3 _ fd_item_at ["text", "place"] (pureSp ⟨K, mg⟩ F_item_at) := fn_okD (C := ⟨K, mg⟩) (st := top 10) D_item_at sc_item_at m_item_at nd_item_at (fun ds t h => runF_h h)
  have B_pattern := FunD.bindsN (ps := ["text"]) D_pattern fun _ _ _ _ _ _ us hl => match us, hl with | [_], _ => rfl
  have nd_pattern : Ndss ⟨P, w, ⟨K, mg⟩, base, N_pattern, 3⟩ b_pattern := by
    have q0 : CallOk ⟨P, w, ⟨K, mg⟩, base, N_pattern, 3⟩ "item_at" F_item_at [] := FnOk.call O_item_at (by decide) g_item_at D_item_at.kp B_item_at
    simp [b_pattern, l1_pattern, Ndss, Ndst, Nd, Nds, Ndo, Ndi, NoG, Bi.name, q0, z_int, z_isinstance, z_len, z_str, c_ALL_SIGNS, c_MOST_ITEMS]
  have O_pattern : FnOk P w K mg base CX0 4 _ fd_pattern ["text"] (pureSp ⟨K, mg⟩ F_pattern) := fn_okD (C := ⟨K, mg⟩) (st := top 11) D_pattern sc_pattern m_pattern nd_pattern (fun ds t h => runF_h h)
  have B_item_written := FunD.bindsN (ps := ["item"]) D_item_written fun _ _ _ _ _ _ us hl => match us, hl with | [_], _ => rfl
  have nd_item_written : Ndss ⟨P, w, ⟨K, mg⟩, base, N_item_written, 1⟩ b_item_written := by
    have q0 : CallOk ⟨P, w, ⟨K, mg⟩, base, N_item_written, 1⟩ "is_plain" F_is_plain [] := FnOk.call O_is_plain (by decide) g_is_plain D_is_plain.kp B_is_plain
    simp [b_item_written, Ndss, Ndst, Nd, Nds, Ndo, Ndi, NoG, Bi.name, q0]
  have O_item_written : FnOk P w K mg base CX0 2 _ fd_item_written ["item"] (pureSp ⟨K, mg⟩ F_item_written) := fn_okD (C := ⟨K, mg⟩) (st := top 12) D_item_written sc_item_written m_item_written nd_item_written (fun ds t h => runF_h h)
  have B_written := FunD.bindsN (ps := ["one"]) D_written fun _ _ _ _ _ _ us hl => match us, hl with | [_], _ => rfl
  have nd_written : Ndss ⟨P, w, ⟨K, mg⟩, base, N_written, 2⟩ b_written := by
    have q0 : CallOk ⟨P, w, ⟨K, mg⟩, base, N_written, 2⟩ "item_written" F_item_written [] := FnOk.call O_item_written (by decide) g_item_written D_item_written.kp B_item_written
    simp [b_written, Ndss, Ndst, Nd, Nds, Ndo, Ndi, NoG, Bi.name, q0]
  have O_written : FnOk P w K mg base CX0 3 _ fd_written ["one"] (pureSp ⟨K, mg⟩ F_written) := fn_okD (C := ⟨K, mg⟩) (st := top 13) D_written sc_written m_written nd_written (fun ds t h => runF_h h)
  have B_w_cell_at := FunD.bindsN (ps := ["_law_script", "_law_k"]) D_w_cell_at fun _ _ _ _ _ _ us hl => match us, hl with | [_, _], _ => rfl
  have nd_w_cell_at : Ndss ⟨P, w, ⟨K, mg⟩, base, N_w_cell_at, 0⟩ b_w_cell_at := by
    simp [b_w_cell_at, Ndss, Ndst, Nd, Nds, Ndo, Ndi, NoG, Bi.name, z_len]
  have O_w_cell_at : FnOk P w K mg base CX0 1 _ fd_w_cell_at ["_law_script", "_law_k"] (pureSp ⟨K, mg⟩ F_w_cell_at) := fn_okD (C := ⟨K, mg⟩) (st := top 15) D_w_cell_at sc_w_cell_at m_w_cell_at nd_w_cell_at (fun ds t h => runF_h h)
  have B_w_signs := FunD.bindsN (ps := []) D_w_signs fun _ _ _ _ _ _ us hl => match us, hl with | [], _ => rfl
  have nd_w_signs : Ndss ⟨P, w, ⟨K, mg⟩, base, N_w_signs, 0⟩ b_w_signs := by
    simp [b_w_signs, Ndss, Ndst, Nd, Nds, Ndo, Ndi, NoG, Bi.name]
  have O_w_signs : FnOk P w K mg base CX0 1 _ fd_w_signs [] (pureSp ⟨K, mg⟩ F_w_signs) := fn_okD (C := ⟨K, mg⟩) (st := top 16) D_w_signs sc_w_signs m_w_signs nd_w_signs (fun ds t h => runF_h h)
  have B_w_item := FunD.bindsN (ps := ["_law_cell"]) D_w_item fun _ _ _ _ _ _ us hl => match us, hl with | [_], _ => rfl
  have nd_w_item : Ndss ⟨P, w, ⟨K, mg⟩, base, N_w_item, 1⟩ b_w_item := by
    have q0 : CallOk ⟨P, w, ⟨K, mg⟩, base, N_w_item, 1⟩ "_law_signs" F_w_signs [] := FnOk.call O_w_signs (by decide) g_w_signs D_w_signs.kp B_w_signs
    simp [b_w_item, Ndss, Ndst, Nd, Nds, Ndo, Ndi, NoG, Bi.name, q0, z_range]
  have O_w_item : FnOk P w K mg base CX0 2 _ fd_w_item ["_law_cell"] (pureSp ⟨K, mg⟩ F_w_item) := fn_okD (C := ⟨K, mg⟩) (st := top 17) D_w_item sc_w_item m_w_item nd_w_item (fun ds t h => runF_h h)
  have B_w_item_text := FunD.bindsN (ps := ["_law_item_here"]) D_w_item_text fun _ _ _ _ _ _ us hl => match us, hl with | [_], _ => rfl
  have nd_w_item_text : Ndss ⟨P, w, ⟨K, mg⟩, base, N_w_item_text, 0⟩ b_w_item_text := by
    simp [b_w_item_text, Ndss, Ndst, Nd, Nds, Ndo, Ndi, NoG, Bi.name, z_len]
  have O_w_item_text : FnOk P w K mg base CX0 1 _ fd_w_item_text ["_law_item_here"] (pureSp ⟨K, mg⟩ F_w_item_text) := fn_okD (C := ⟨K, mg⟩) (st := top 18) D_w_item_text sc_w_item_text m_w_item_text nd_w_item_text (fun ds t h => runF_h h)
  have B_w_text := FunD.bindsN (ps := ["_law_one"]) D_w_text fun _ _ _ _ _ _ us hl => match us, hl with | [_], _ => rfl
  have nd_w_text : Ndss ⟨P, w, ⟨K, mg⟩, base, N_w_text, 1⟩ b_w_text := by
    have q0 : CallOk ⟨P, w, ⟨K, mg⟩, base, N_w_text, 1⟩ "_law_item_text" F_w_item_text [] := FnOk.call O_w_item_text (by decide) g_w_item_text D_w_item_text.kp B_w_item_text
    simp [b_w_text, Ndss, Ndst, Nd, Nds, Ndo, Ndi, NoG, Bi.name, q0]
  have O_w_text : FnOk P w K mg base CX0 2 _ fd_w_text ["_law_one"] (pureSp ⟨K, mg⟩ F_w_text) := fn_okD (C := ⟨K, mg⟩) (st := top 19) D_w_text sc_w_text m_w_text nd_w_text (fun ds t h => runF_h h)
  have B_w_alike := FunD.bindsN (ps := ["_law_told", "_law_due"]) D_w_alike fun _ _ _ _ _ _ us hl => match us, hl with | [_, _], _ => rfl
  have nd_w_alike : Ndss ⟨P, w, ⟨K, mg⟩, base, N_w_alike, 0⟩ b_w_alike := by
    simp [b_w_alike, l1_w_alike, Ndss, Ndst, Nd, Nds, Ndo, Ndi, NoG, Bi.name, z_bool, z_isinstance, z_len, z_list, z_str, z_tuple]
  have O_w_alike : FnOk P w K mg base CX0 1 _ fd_w_alike ["_law_told", "_law_due"] (pureSp ⟨K, mg⟩ F_w_alike) := fn_okD (C := ⟨K, mg⟩) (st := top 20) D_w_alike sc_w_alike m_w_alike nd_w_alike (fun ds t h => runF_h h)
  have B_law := FunD.bindsN (ps := ["_law_script"]) D_law fun _ _ _ _ _ _ us hl => match us, hl with | [_], _ => rfl
  have nd_law : Ndss ⟨P, w, ⟨K, mg⟩, base, N_law, 4⟩ b_law := by
    have q0 : CallOk ⟨P, w, ⟨K, mg⟩, base, N_law, 4⟩ "_law_alike" F_w_alike [] := FnOk.call O_w_alike (by decide) g_w_alike D_w_alike.kp B_w_alike
    have q1 : CallOk ⟨P, w, ⟨K, mg⟩, base, N_law, 4⟩ "_law_cell_at" F_w_cell_at [] := FnOk.call O_w_cell_at (by decide) g_w_cell_at D_w_cell_at.kp B_w_cell_at
    have q2 : CallOk ⟨P, w, ⟨K, mg⟩, base, N_law, 4⟩ "_law_item" F_w_item [] := FnOk.call O_w_item (by decide) g_w_item D_w_item.kp B_w_item
    have q3 : CallOk ⟨P, w, ⟨K, mg⟩, base, N_law, 4⟩ "_law_text" F_w_text [] := FnOk.call O_w_text (by decide) g_w_text D_w_text.kp B_w_text
    have q4 : CallOk ⟨P, w, ⟨K, mg⟩, base, N_law, 4⟩ "pattern" F_pattern [] := FnOk.call O_pattern (by decide) g_pattern D_pattern.kp B_pattern
    have q5 : CallOk ⟨P, w, ⟨K, mg⟩, base, N_law, 4⟩ "written" F_written [] := FnOk.call O_written (by decide) g_written D_written.kp B_written
    simp [b_law, Ndss, Ndst, Nd, Nds, Ndo, Ndi, NoG, Bi.name, q0, q1, q2, q3, q4, q5, z_isinstance, z_list, z_str]
  have O_law : FnOk P w K mg base CX0 5 _ fd_law ["_law_script"] (pureSp ⟨K, mg⟩ F_law) := fn_okD (C := ⟨K, mg⟩) (st := top 21) D_law sc_law m_law nd_law (fun ds t h => runF_h h)
  exact O_law.imp fun vs H Q E h => law_sp (C := ⟨K, mg⟩) h
end Lw
open PySem PySem.W PySem.Calls PyProof.Rows
theorem PySem.Challenge.cw_rowblade_k12_patterns_told_and_written_holds : PySem.Challenge.rw_rowblade_k12_patterns_told_and_written.Holds := by
  w_on; o_law
  refine HandSHeadRun.head_any (r := OpenLaw.row PySem.Challenge.rw_rowblade_k12_patterns_told_and_written) (q := view (OpenLaw.row PySem.Challenge.rw_rowblade_k12_patterns_told_and_written).prog [21]) (H := Lw.hk) (ob := Lw.ob) (M := 4000) (loose := Lw.loose) (d := HandSHeadRun.topDef (OpenLaw.row PySem.Challenge.rw_rowblade_k12_patterns_told_and_written).prog 21) (kwd := []) Lw.ob_eq
    (by kernel_rfl) (fun s => by kernel_rfl) Lw.run (by kernel_rfl) (by kernel_rfl) (by kernel_rfl) (by rfl) (by first | assumption | decide +kernel) (by decide +kernel) ⟨rfl, rfl, rfl, rfl, rfl, by decide +kernel⟩ ?hw ?hc
  case hw => w_witness2
  case hc =>
    refine L2.walk_ofE (l := PySem.Challenge.rw_rowblade_k12_patterns_told_and_written) (n := 63) (k := 5) (x := "_law_script") (CX := L2.CX0) rfl (by decide) (by kernel_rfl) ⟨rfl, by decide, by decide⟩ ?F (fun _ _ _ _ z => z)
    intro w mg fa h Y G hmg0
    obtain ⟨K, KX, c⟩ := Y
    have hmg : mg ("law" : PySem.Str) = some (.ref fa) := by
      have e : (HandSHeadRun.topDef (OpenLaw.row PySem.Challenge.rw_rowblade_k12_patterns_told_and_written).prog 21).name = ("law" : PySem.Str) := by kernel_rfl
      rw [← e]
      exact hmg0
    obtain ⟨fd, hb, hF⟩ := Lw.facts (P := (PySem.Challenge.rw_rowblade_k12_patterns_told_and_written).prog) (w := w) KX G hmg c
    exact ⟨K, fd, Lw.spLaw K, KX, hb, fun H a ns hl _ hS => ⟨a, ns, rfl, hS, hl, fun _ => rfl⟩, hF⟩
